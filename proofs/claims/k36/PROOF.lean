import PyProof.Rows.All
import Wide.All
import OpenK.AllK
import Wide.FinOn
import KE.KStateDown
import KE.KExcSuper
import KE.KExcIs
import Lean
import HandS.ForMost
import HandS.ForExc
import HandS.ExcSuper
import HandS.ExcField
import HandS.ExcIs
import HandS.Defaults
import HandS.HeadHook3
import HandS.HeadEnd
import HandS.Head2
import HandS.WideBits
import HandS.Wide
import HandS.Evl
import HandS.CallSlots
import HandS.IsInst
import HandS.Codes
import HandS.SortInts
import HandS.Flow
import HandS.More
import HandS.Star
import HandS.ClsMeth
import HandS.HeadNt
import HandS.OwnEq
import HandS.Style
import HandS.FStr
import KE.KCallOwn
import KE.GoesEnum
import HandS.Walk
import HandS.EndBits
import KE.KSuper
import KE.KSuperObj
import HandS.Conv
import PyProof.DictDisplay
import HandS.MakeKwOnly
import HandS.MakeKw
import HandS.Deep
import HandS.TryMany
import HandS.ExcValue
import HandS.SetBool
import HandS.Strs
import OpenK.KMeth
import OpenK.KOps
import KE.DataCmp
import KE.SortData
import PyProof.AttrMiss
import HandS.Zip
import HandS.TupAny
import HandS.TryOnly
import PySem.Challenge.RW_rungbounds_k36_answers_of_wishes
set_option Elab.async false
set_option linter.all false
set_option maxRecDepth 100000
set_option maxHeartbeats 8000000
set_option exponentiation.threshold 10000
namespace PySem
namespace ErrX
open PySem.W PySem.Calls PyProof.Rows PySem.HandSPX
/-! ### the text of an error's __init__: super().__init__(msg); self.f = x -/
def iA (x : Str) (p1 p2 : Pos) : Arguments := { posonlyargs := [], args := [{ arg := "self", annotation := none, pos := p1 }, { arg := x, annotation := none, pos := p2 }], vararg := none, kwonlyargs := [], kw_defaults := [], kwarg := none, defaults := [] }
def iB (x f msg : Str) (q1 q2 q3 q4 q5 q6 q7 q8 q9 q10 : Pos) : List Stmt :=
  [.Expr (.Call (.Attribute (.Call (.Name "super" q1) [] [] q2) "__init__" q3) [.Constant (.str msg) 0 q4] [] q5) q6,
   .Assign [.Attribute (.Name "self" q7) f q8] (.Name x q9) q10]
def iS (x : Str) : Scope := { kind := .function, names := [(PySem.Str.ofString "self", .local), (x, .local), (PySem.Str.ofString "__class__", .free), (PySem.Str.ofString "super", .globalImplicit)], isGenerator := false, isCoroutine := false, more := [] }
/-- what the written part says of the error class at C and of its __init__ at fI; x the parameter, f the field -/
structure ErrTxt (P : Program) (K : Frag) (C : Addr) (x f : Str) : Prop where
  cls : ∃ nm q N bs bm sn sub ab col dd k0 k1 k2 k3 k5, K.lookup C = some (excClassObj nm q C N bs bm true sn sub ab col dd k0 k1 k2 k3 k5 "ValueError.__new__") ∧ refsVE bm = true
  along : ∃ cd, clsIn K C = some cd ∧ alongIn K "__init__" ((cd.mro.dropWhile (· != .ref C)).drop 1) = some (some (.builtin "ValueError.__init__"))
  opq : nsIn K cStatics "thirdparty.any" = some none
  selfC : mroIn K C (.ref C) = some true
  ve : subIn K (.ref C) (.type "ValueError") = some true
  sa : findIn K (.ref C) "__setattr__" = some (some (.builtin "object.__setattr__"))
  ga : findIn K (.ref C) "__getattribute__" = some (some (.builtin "BaseException.__getattribute__"))
  gg : findIn K (.ref C) "__getattr__" = some none
  noN : findIn K (.ref C) f = some none
  kC : keepIn K (.ref C) = true
  exC : subIn K (.ref C) (.type "BaseException") = some true
  tyC : typeIn K (.ref C) = some (.type "type")
  hdC : hasDictIn K C = true
  fn : ∃ fI, findIn K (.ref C) "__init__" = some (some (.ref fI)) ∧ typeIn K (.ref fI) = some (.type "function") ∧
    ∃ (oc : Value) (od : Option Addr) (doc pm kV : Value) (an : Option Addr) (cda cc : Addr) (ct : Value) (osl : Array (Option Value)) (nm qual msg : Str) (p1 p2 q1 q2 q3 q4 q5 q6 q7 q8 q9 q10 : Pos),
      (q3.endLine == q5.line) = true ∧ K.lookup fI = some ⟨oc, od, .func (ksFn nm qual (iA x p1 p2) (iB x f msg q1 q2 q3 q4 q5 q6 q7 q8 q9 q10) (iS x) .none kV doc pm an (.ref cda) ct cc), osl⟩ ∧ codeIn K (.ref cda) qual = true ∧
      (∃ ccl cdd vs ccs file tf, K.lookup cda = some ⟨ccl, cdd, .fields vs, ccs⟩ ∧ vs[2]? = some (.str file tf) ∧ ((P.main.file : Str) == file) = true) ∧
      ∃ cl cld csl, K.lookup cc = some ⟨cl, cld, .cell (some (.ref C)), csl⟩
  top : (P.main.scope.names.lookup ("super" : Str)).isSome = false
  xs : (x == ("self" : Str)) = false
  xc : (("__class__" : Str) == x) = false
  xu : (("super" : Str) == x) = false
  xd : (x == ("__debug__" : Str)) = false
  bnd : ∀ (nm qual : Str) (Bd : List Stmt) (kV doc pm : Value) (an : Option Addr) (cdv ct : Value) (cc : Addr) (p1 p2 : Pos) (u v : Value), bindArgs (ksFn nm qual (iA x p1 p2) Bd (iS x) .none kV doc pm an cdv ct cc) ⟨[u, v], []⟩ = pure [(("self" : Str), u), (x, v)]
theorem one_size (v : Value) : [v].length ≤ sizeLine := by
  rw [sizeLine_eq]
  exact (by decide : 1 ≤ 16777216)
/-- a made error -/
structure Made (h h' : Heap) (e C d : Addr) (f : Str) (v : Value) : Prop where
  keep : ∀ b o, h.get? b = some o → h'.get? b = some o
  new : h.objs.size ≤ e
  obj : ∃ oe vs, h'.get? e = some oe ∧ oe.cls = .ref C ∧ oe.dict = some d ∧ oe.data = .fields vs ∧ vs[1]? = some .none
  dbig : h.objs.size ≤ d
  dne : d ≠ e
  ns : h'.Ns1 d (fun y => if y = f then some v else none)
section
variable {prog : Program} {w : World} {A : Around} {E : Value → Shared → Prop} {h : Heap} {g : Array GenState} {d : Drawn} {t : Nat} {os : OsState}
variable {nm q : Str} {C N : Addr} {bs bm : List Value} {hdct : Bool} {sn : List Str} {sub : List Value} {ab : Bool} {col : Option Bool} {dd : Option Addr} {k0 k1 k2 k3 k5 : Option Value}
/-- the bound ValueError.__init__ called -/
theorem call_bw {u e t0 : Addr} {rest : List Value} {Q : Value → Shared → Prop}
    (hC : h.get? C = some (excClassObj nm q C N bs bm hdct sn sub ab col dd k0 k1 k2 k3 k5 "ValueError.__new__")) (he : h.get? e = some (excO C t0)) (hu : h.get? u = some (kxs_mw "ValueError.__init__" e)) (hrest : rest.length ≤ sizeLine)
    (hq : ∀ h' t1, (∀ b o, b ≠ e → h.get? b = some o → h'.get? b = some o) → h'.get? e = some (excO C t1) → Q .none ⟨h', g, d, t, os⟩) :
    wpAny (model prog w) A (call (.ref u) rest) Q E ⟨h, g, d, t, os⟩ := by
  refine wpAny_call (codeAny_of_tree ?_)
  show wpAny _ A.in1 (callAny (.ref u) ⟨rest, []⟩) _ _ _
  simp only [callAny]
  refine wpAny_bind (wpAny_load hu ?_)
  simp only [kxs_mw, show (Value.type "method-wrapper" == Value.type "method" || Value.type "method-wrapper" == Value.type "builtin_function_or_method" || Value.type "method-wrapper" == Value.type "method-wrapper") = true by decide, if_true]
  refine W.KFB.if_so (by decide) ?_
  refine wpAny_bind (ESX.check_bound F.excBase_ValueError hC he rfl ?_)
  refine wpAny_bind (wpAny_pure (wpAny_pure ?_))
  refine ⟨Code.quiet_builtin _ (by decide +kernel), codeAny_builtin F.excBase_ValueError.initEntry ?_⟩
  rw [Around.under_plainId F.excBase_ValueError.init.plain _]
  wp_walk
  refine hq _ h.objs.size (fun b o hb ho => ?_) ?_
  · rw [Heap.get?_update_other _ _ (Ne.symm hb)]
    exact Heap.get?_push_of_some _ ho
  · rw [Heap.get?_update_self _ (Heap.get?_push_of_some _ he) rfl]
    rfl
end
section
variable {prog : Program} {w : World} {A : Around} {E : Value → Shared → Prop} {R : Result → Shared → Prop} {s : Shared} {K : Frag} {mg mb : Str → Option Value} {C : Addr} {x f : Str}
/-- what __init__ leaves of a fresh exception at e -/
structure InitEnd (h h' : Heap) (e C dx : Addr) (f : Str) (v : Value) : Prop where
  keep : ∀ b o, b ≠ e → h.get? b = some o → h'.get? b = some o
  obj : ∃ t1, h'.get? e = some { cls := .ref C, dict := some dx, data := .fields #[.ref t1, .none, .none, .none, .bool false, .none] }
  dbig : h.objs.size ≤ dx
  dne : dx ≠ e
  ns : h'.Ns1 dx (fun y => if y = f then some v else none)
theorem clsIn_of {nm q : Str} {N : Addr} {bs bm : List Value} {sn : List Str} {sub : List Value} {ab : Bool} {col : Option Bool} {dd : Option Addr} {k0 k1 k2 k3 k5 : Option Value}
    (hC : K.lookup C = some (excClassObj nm q C N bs bm true sn sub ab col dd k0 k1 k2 k3 k5 "ValueError.__new__")) :
    clsIn K C = some { name := nm, bases := bs, mro := .ref C :: bm, ns := N, qualname := q, hasDict := true, slotNames := sn, subclasses := sub, abstract := ab, collection := col, hasDel := false } := by
  unfold clsIn; rw [hC] <;> rfl
theorem mcall_one {o : Expr} {m : Str} {apos pos : Pos} {env : Env} {ov : Value} {n : Nat} {args : List (Bool × Sem Value)} (hf : methodCallForm n args [] = true) (hl : (apos.endLine == pos.line) = true) :
    methodCall o m apos pos env ov n args [] = (do
      let (f, first) ← holding [ov] (getMethod ov m (do return (← importBound o env).getD true))
      callWith pos f first args []) := by
  have e1 : calleeOf (methodCallForm n args []) o env ov m = getMethod ov m (do return (← importBound o env).getD true) := by
    rw [hf] <;> rfl
  have e2 : methodCallPos (methodCallForm n args []) o env apos pos = pure pos := by
    unfold methodCallPos
    exact if_pos (by rw [hl, Bool.or_true])
  unfold methodCall
  rw [e1, e2]
  first
    | rfl
    | simp only [pure_bind]
theorem look_x (T : ErrTxt prog K C x f) : (iS x).names.lookup x = some .local := by
  have e := T.xs
  have e2 : (x == PySem.Str.ofString "self") = false := e
  simp [iS, List.lookup, e2]
theorem look_c (T : ErrTxt prog K C x f) : (iS x).names.lookup ("__class__" : Str) = some .free := by
  have e := T.xc
  have e0 : ((PySem.Str.ofString "__class__") == PySem.Str.ofString "self") = false := by decide +kernel
  have e2 : (PySem.Str.ofString "__class__" == x) = false := e
  show List.lookup (PySem.Str.ofString "__class__") (iS x).names = _
  simp [iS, List.lookup, e2, e0]
theorem look_u (T : ErrTxt prog K C x f) : (iS x).names.lookup ("super" : Str) = some .globalImplicit := by
  have e := T.xu
  have e0 : ((PySem.Str.ofString "super") == PySem.Str.ofString "self") = false := by decide +kernel
  have e1 : ((PySem.Str.ofString "super") == PySem.Str.ofString "__class__") = false := by decide +kernel
  have e2 : (PySem.Str.ofString "super" == x) = false := e
  show List.lookup (PySem.Str.ofString "super") (iS x).names = _
  simp [iS, List.lookup, e2, e0, e1]
theorem look_s : (iS x).names.lookup ("self" : Str) = some .local := by
  show List.lookup (PySem.Str.ofString "self") (iS x).names = _
  simp [iS, List.lookup]
theorem err_init (T : ErrTxt prog K C x f) {e t0 fI : Addr} {v : Value} (hfI : findIn K (.ref C) "__init__" = some (some (.ref fI))) (X : K.In s.heap) (G : s.heap.Ns mainGlobals mg) (Gs : mg "super" = none) (B : s.heap.Ns builtinsNs mb) (Bs : mb "super" = some (.type "super"))
    (hlim : s.heap.NoLimit) (hx : s.heap.get? e = some (excO C t0)) (hnx : K.lookup e = none) (hroom : A.depth < recursionLimit)
    (hq : ∀ h' tk dx, InitEnd s.heap h' e C dx f v → R (.ok (.ret .none)) { s with heap := h', toks := tk }) :
    codeAny (model prog w) A (.call (.ref fI) ⟨[.ref e, v], []⟩) R s := by
  obtain ⟨fI', hfI', hty, oc, od, doc, pm, kV, an, cda, cc, ct, osl, nm0, qual, msg, p1, p2, q1, q2, q3, q4, q5, q6, q7, q8, q9, q10, hln, ho, hcd, ⟨ccl, cdd, cvs, ccs, file, tf, hcode, hvs, hfile⟩, ⟨cl, cld, csl, hcell⟩⟩ := T.fn
  have ef : fI' = fI := by
    have z := hfI'.symm.trans hfI
    simpa using z
  subst ef
  obtain ⟨nm, q, N, bs, bm, sn, sub, ab, col, dd, k0, k1, k2, k3, k5, hC, hbm⟩ := T.cls
  have hcl := clsIn_of hC
  obtain ⟨cd', hcd', hal⟩ := T.along
  have hcdE := hcd'
  rw [hcl] at hcd'
  have hcd'' := (Option.some.inj hcd')
  have hlx := look_x T
  have hlc := look_c T
  have hlu := look_u T
  have hls := look_s (x := x)
  refine ks_codeAny_call_defAt (fd := ksFn nm0 qual (iA x p1 p2) (iB x f msg q1 q2 q3 q4 q5 q6 q7 q8 q9 q10) (iS x) .none kV doc pm an (.ref cda) ct cc) (binds := [("self", .ref e), (x, v)]) hroom (X _ _ ho) rfl hlim (codeRec_of X hcd) rfl
    (BindsTo.of_eq (T.bnd ..)) ?hcell ?hloc (fun h₁ hns hk₁ => ?_) rfl rfl rfl
  case hcell =>
    intro y hy
    have hy' : y ∈ [(PySem.Str.ofString "self", NameKind.local), (x, NameKind.local), (PySem.Str.ofString "__class__", NameKind.free), (PySem.Str.ofString "super", NameKind.globalImplicit)] := hy
    simp only [List.mem_cons, List.not_mem_nil, or_false] at hy'
    rcases hy' with rfl | rfl | rfl | rfl <;> (intro z; cases z)
  case hloc =>
    intro y hy
    simp only [List.mem_cons, List.not_mem_nil, or_false] at hy
    rcases hy with rfl | rfl
    · exact hls
    · exact hlx
  have X₁ : K.In h₁ := X.keeps hk₁
  have hx₁ := hk₁ _ _ hx
  have hmx : (fun y => List.lookup y ([(("self" : Str), Value.ref e), (x, v)] : List (Str × Value)).reverse) x = some v := by simp [List.lookup]
  have hms : (fun y => List.lookup y ([(("self" : Str), Value.ref e), (x, v)] : List (Str × Value)).reverse) ("self" : Str) = some (.ref e) := by
    have e1 : (("self" : Str) == x) = false := by
      rw [Bool.eq_false_iff]
      intro z
      have z2 := (beq_iff_eq.mp z)
      have z3 := T.xs
      rw [← z2] at z3
      simp at z3
    simp [List.lookup, e1]
  obtain ⟨hp, g, dr, tk, os⟩ := s
  have hlc' : (ksEnv qual (iS x) hp.objs.size fI' (.ref cda) cc).kindOf "__class__" = some .free := hlc
  have hlu' : (ksEnv qual (iS x) hp.objs.size fI' (.ref cda) cc).kindOf "super" = some .globalImplicit := hlu
  have hls' : (ksEnv qual (iS x) hp.objs.size fI' (.ref cda) cc).kindOf "self" = some .local := hls
  have hlx' : (ksEnv qual (iS x) hp.objs.size fI' (.ref cda) cc).kindOf x = some .local := hlx
  obtain ⟨oD, hD1, hD2⟩ : ∃ oD, h₁.get? C = some oD ∧ ∃ cdc, oD.data = .cls cdc := ⟨_, X₁ _ _ hC, _, rfl⟩
  obtain ⟨cdc, hD2⟩ := hD2
  have I1 : InstAt h₁ e (excO C t0) C none := ⟨hx₁, rfl, rfl, trivial⟩
  show wpAt _ _ _ (execs (iB x f msg q1 q2 q3 q4 q5 q6 q7 q8 q9 q10) (ksEnv qual (iS x) hp.objs.size fI' (.ref cda) cc)) _ _ _
  refine ks_wpAt_execs_cons (ks_wpAt_Expr_any (ks_wpAt_MethodCall (pl := (do return (← importBound (.Call (.Name "super" q1) [] [] q2) (ksEnv qual (iS x) hp.objs.size fI' (.ref cda) cc)).getD true)) ?_ ?he))
  case he =>
    rw [arm_eval_Call]
    refine congrArg _ (funext fun ov => ?_)
    refine congrArg _ (funext fun _ => ?_)
    exact mcall_one rfl hln
  refine ks_wpAt_super_base (env := ksEnv qual (iS x) hp.objs.size fI' (.ref cda) cc) hlu' hlc' (by decide +kernel) rfl (X₁ _ _ ho) rfl rfl rfl (X₁ _ _ hcode) rfl hvs hfile T.top ?_
  refine ks_loadName_global rfl hlu' (loadGlobal_builtin (env := ksEnv qual (iS x) hp.objs.size fI' (.ref cda) cc) (G.keeps hk₁) Gs (B.keeps hk₁) Bs ⟨rfl, ?_⟩)
  refine wpAny_loadName_free rfl hlc' rfl ⟨_, X₁ _ _ hcell, rfl⟩ ?_
  refine wpAny_loadName_local rfl hls' hns hms ?_
  refine ks_wpAny_isType_cls hD1 hD2 ⟨rfl, ?_⟩
  refine ks_wpAny_call_super hD1 hD2 hx₁ rfl (fun c z => by cases z) (looks_mroIn X₁ T.selfC) (fun h₂ e₂ k₂ => ?_)
  have X₂ : K.In h₂ := X₁.keeps k₂
  have hx₂ := k₂ _ _ hx₁
  have I2 : InstAt h₂ e (excO C t0) C none := ⟨hx₂, rfl, rfl, trivial⟩
  have hI2 : Looks (model prog w) h₂ (isInstance (.ref e) (.type "ValueError")) true := I2.type.andThen (looks_subIn X₂ T.ve)
  refine kxs_getMethod kxs_ValueError e₂ (looks_opaque X₂ T.opq) (l₀ := cd'.mro) (fun A Q E s k q => wpAny_bind ((looks_clsIn X₂ hcdE) A _ E s k (wpAny_pure q))) rfl X₂ hal hI2 (ks_ne X₂ I2 hcdE) (by decide +kernel) ?_
  have hu₃ : (h₂.push (kxs_mw "ValueError.__init__" e)).get? h₂.objs.size = some (kxs_mw "ValueError.__init__" e) := Heap.get?_push_at rfl rfl
  have k₃ : ∀ b o, h₂.get? b = some o → (h₂.push (kxs_mw "ValueError.__init__" e)).get? b = some o := fun b o z => Heap.get?_push_of_some _ z
  refine kxs_callWith (i := "ValueError.__init__") (x := e) rfl ?_
  refine evalArgs_plain (PyProof.Rows.spliced_more (Constant_str (PyProof.Rows.spliced_none ?_)))
  refine ⟨hu₃, ?_⟩
  show wpAny _ _ (call (.ref h₂.objs.size) [_]) _ _ _
  refine call_bw (nm := nm) (q := q) (N := N) (bs := bs) (bm := bm) (hdct := true) (sn := sn) (sub := sub) (ab := ab) (col := col) (dd := dd) (k0 := k0) (k1 := k1) (k2 := k2) (k3 := k3) (k5 := k5) (X₂.keeps k₃ _ _ hC) (k₃ _ _ hx₂) hu₃ (one_size _) (fun h₄ t1 k₄ hx₄ => ?_)
  have hk14 : ∀ b o, b ≠ e → h₁.get? b = some o → h₄.get? b = some o := fun b o hb z => k₄ b o hb (k₃ b o (k₂ b o z))
  have hLe : hp.objs.size ≠ e := Nat.ne_of_gt (Heap.lt_size hx)
  have hns₄ : h₄.Ns hp.objs.size (fun y => List.lookup y ([(("self" : Str), Value.ref e), (x, v)] : List (Str × Value)).reverse) := by
    obtain ⟨o, es, ep, ho1, r⟩ := hns
    exact ⟨o, es, ep, hk14 _ _ hLe ho1, r⟩
  have X₄ : K.In h₄ := fun a o z => hk14 a o (fun y => by rw [y, hnx] at z; cases z) (X₁ a o z)
  refine ks_wpAt_execs_cons (ks_wpAt_Assign_Attr (wpAt_of_wpAny (ESX.ldL (env := ksEnv qual (iS x) hp.objs.size fI' (.ref cda) cc) hns₄ hmx (ESX.ldL (env := ksEnv qual (iS x) hp.objs.size fI' (.ref cda) cc) hns₄ hms ?_ rfl hls' (by decide)) rfl hlx' T.xd)))
  refine set_plain X₄ (ox := excO C t1) (od := none) ⟨hx₄, rfl, rfl, trivial⟩ T.sa ?_
  refine exc_osa X₄ hx₄ hcl (show refsVE (.ref C :: bm) = true from hbm) rfl T.noN (fun h₅ tk₅ dx k₅ dn dne hx₅ hn₅ => ?_)
  refine wpAt_of_wpAny (wpAny_execs_nil (hq h₅ tk₅ dx ⟨fun b o hb z => k₅ b o hb (hk14 b o hb (hk₁ b o z)), ⟨t1, hx₅⟩, ?_, dne, hn₅⟩))
  refine Nat.le_trans ?_ dn
  obtain ⟨o, es, ep, ho1, r⟩ := hns₄
  exact Nat.le_of_lt (Heap.lt_size ho1)
theorem err_made (T : ErrTxt prog K C x f) {v : Value} (X : K.In s.heap) (G : s.heap.Ns mainGlobals mg) (Gs : mg "super" = none) (B : s.heap.Ns builtinsNs mb) (Bs : mb "super" = some (.type "super")) (hlim : s.heap.NoLimit) (hroom : A.depth + 1 < recursionLimit)
    (hq : ∀ h' tk e d, Made s.heap h' e C d f v → R (.ok (.ret (.ref e))) { s with heap := h', toks := tk }) :
    codeAny (model prog w) A (.call (.ref C) ⟨[v], []⟩) R s := by
  obtain ⟨nm, q, N, bs, bm, sn, sub, ab, col, dd, k0, k1, k2, k3, k5, hC, hbm⟩ := T.cls
  obtain ⟨fI, iC, tC, _⟩ := id T.fn
  obtain ⟨hp, g, dr, tk, os⟩ := s
  have k : ∀ b o, hp.get? b = some o → ((hp.push (kdv_tup [v])).push (excO C hp.objs.size)).get? b = some o := fun b o e => Heap.get?_push_of_some _ (Heap.get?_push_of_some _ e)
  have hget : ((hp.push (kdv_tup [v])).push (excO C hp.objs.size)).get? (hp.objs.size + 1) = some (excO C hp.objs.size) := by heap_get
  have hnx : K.lookup (hp.objs.size + 1) = none := by
    cases e : K.lookup (hp.objs.size + 1) with
    | none => rfl
    | some o =>
      have z : hp.get? (hp.objs.size + 1) = some o := X _ _ e
      exact absurd (Nat.lt_of_succ_lt (Heap.lt_size z)) (Nat.lt_irrefl _)
  refine call_own F.excBase_ValueError (fun X => refsVE_contains X bm hbm) (X _ _ hC) (looks_findIn X iC) (fun self => bind_fn X self tC) (one_size v) ?_
  refine err_init (s := ⟨(hp.push (kdv_tup [v])).push (excO C hp.objs.size), g, dr, tk, os⟩) T iC (X.keeps k) (G.keeps k) Gs (B.keeps k) Bs (hlim.keeps k) hget hnx ?_ fun h' tk' dx ⟨k', ⟨t1, hx⟩, dn, dne, hns⟩ => ?_
  · show A.depth + 1 < recursionLimit
    exact hroom
  · have old : ∀ b o, hp.get? b = some o → h'.get? b = some o := fun b o e => k' b o (Nat.ne_of_lt (Nat.lt_succ_of_lt (Heap.lt_size e))) (k b o e)
    have z : hp.objs.size + 1 + 1 ≤ dx := by
      first
        | (simpa only [Heap.size_push] using dn)
        | exact dn
        | (have q := dn; rw [Heap.size_push, Heap.size_push] at q; exact q)
    exact ⟨rfl, hq h' tk' (hp.objs.size + 1) dx ⟨old, Nat.le_succ _, ⟨_, _, hx, rfl, rfl, rfl, rfl⟩, Nat.le_trans (Nat.le_trans (Nat.le_succ _) (Nat.le_succ _)) z, dne, hns⟩⟩
end
end ErrX
end PySem
namespace L2
open PySem PySem.Spec PyProof.Rows
/-! ### raise Err(e), err.f, isinstance(err, C) over the layer -/
theorem relO_one {v : V} {v' : Value} (r : RelV v v') (x f : Str) : RelO (List.lookup f [(x, v)]) (if f = x then some v' else none) := by
  by_cases hw : f = x
  · subst hw
    rw [if_pos rfl]
    have q : List.lookup f [(f, v)] = some v := by simp [List.lookup]
    rw [q]
    exact r
  · rw [if_neg hw]
    have qw : (f == x) = false := by simpa using hw
    have q2 : List.lookup f [(x, v)] = none := by simp [List.lookup, qw]
    rw [q2]
    trivial
/-- Err(e): its class C, its one field f -/
def tMkErr (C : Addr) (f : Str) (ta : TA) : St → Hp → XK → Prop := fun σ H Q => ta σ H fun vs H1 => ∃ v, vs = [v] ∧ ∀ d, H1 d = none → Q (.ref C) (some d) (upd H1 d (.xd [(f, v)]))
section
variable {X : Cx} {C : Addr} {x f nm : Str}
theorem pmk_err {a : Expr} {ta : TA} {p pos : Pos} {k : Nat} (T : PySem.ErrX.ErrTxt X.prog X.K C x f) (hm : X.mg nm = some (.ref C)) (hsu : X.mg "super" = none) (hr : Room k X.A) (ha : PA X [a] ta) (hg : Gl X nm := by rfl) (hdb : (nm == ("__debug__" : Str)) = false := by decide)
    (he : starEach (a :: []) X.env = (false, eval a X.env) :: starEach [] X.env := by rfl) (hpl : (backTo pos (starEach [] X.env)).any (·.1) = false := by rfl) :
    PMk X (.Call (.Name nm p) [a] [] pos) (tMkErr C f ta) := by
  intro pins s σ H Q I h
  refine wpAny_Call_Name_kw (ld_glob I hg hm ?_ hdb)
  refine PySem.W.callWith_K (h₀ := X.base) I.ok.mod.kin T.kC (thn (ha.run pos pins s σ H _ I h) fun us s1 hh => ?_) he hpl
  obtain ⟨vs, H1, I1, r1, v, ev, q1⟩ := hh
  subst ev
  refine ⟨I1.kIn, ?_⟩
  cases r1 with
  | cons rv rn =>
    rename_i v' us'
    cases rn
    show wpAny _ _ (call (.ref C) [v']) _ _ _
    have hlim := I1.nolimit
    have hG := I1.mod.glob.keeps I1.bk
    obtain ⟨mb, hb1, hb2⟩ := I1.mod.blt
    have hB := hb1.keeps I1.bk
    obtain ⟨hp, g, dr, tk, os⟩ := s1
    refine wpAny_call (PySem.ErrX.err_made T I1.kIn hG hsu hB ((hb2 "super" (by decide)).trans (by decide +kernel)) hlim (by have := hr.dp; omega) fun h' tk' e d M => ?_)
    show MkP X pins σ Q (.ref e) ⟨h', g, dr, tk', os⟩
    obtain ⟨oe, fv, hoe, hc, hd, hdat, h1⟩ := M.obj
    have hns := M.ns
    obtain ⟨G', g1, g2⟩ := restrict h' fun b => decide (b ≠ e)
    have gk : ∀ b, b ≠ e → G'.get? b = h'.get? b := fun b hb => g1 b (decide_eq_true hb)
    have ge : G'.get? e = none := g2 e (by simp)
    have old : ∀ b o, hp.get? b = some o → G'.get? b = some o := fun b o q => (gk b (Nat.ne_of_lt (Nat.lt_of_lt_of_le (Heap.lt_size q) M.new))).trans (M.keep b o q)
    have ob : ObjOk X.prog X.w (upd H1 d (.xd [(f, v)])) G' d (.xd [(f, v)]) :=
      ⟨_, hns.at (fun o q => (gk d M.dne).trans q), fun y => relO_one rv f y⟩
    have J : Inv X pins σ (upd H1 d (.xd [(f, v)])) ⟨G', g, dr, tk', os⟩ := I1.laid (t' := tk') old M.dbig ob
    refine ⟨e, oe, fv, ⟨G', g, dr, tk', os⟩, _, .ref C, some d, rfl, J, fun b o q => ?_, ge, hoe, ⟨hc, hd⟩, hdat, h1, ?_, rfl, I1.bare, raises_own T.exC T.tyC, q1 d (I1.hok.fresh M.dbig)⟩
    · by_cases hb : b = e
      · have q' : G'.get? b = some o := q
        rw [hb, ge] at q'; cases q'
      · exact (gk b hb).symm.trans q
    · rw [upd_ne (Ne.symm M.dne)]
      exact I1.hok.fresh M.new
/-- raise Err(e) -/
def tRaiseErr (C : Addr) (f : Str) (W : WX) (ta : TA) : TS := fun _ σ H => tMkErr C f ta σ H fun cls d H' => W cls d σ H'
theorem ps_raiseErr {a : Expr} {ta : TA} {W : WX} {p pos pos2 : Pos} {k : Nat} (hc : X.calm = true) (T : PySem.ErrX.ErrTxt X.prog X.K C x f) (hm : X.mg nm = some (.ref C)) (hsu : X.mg "super" = none) (hr : Room k X.A) (tk : Takes X W) (ha : PA X [a] ta) (hg : Gl X nm := by rfl) (hdb : (nm == ("__debug__" : Str)) = false := by decide)
    (he : starEach (a :: []) X.env = (false, eval a X.env) :: starEach [] X.env := by rfl) (hpl : (backTo pos (starEach [] X.env)).any (·.1) = false := by rfl) :
    PS X (.Raise (some (.Call (.Name nm p) [a] [] pos)) none pos2) (tRaiseErr C f W ta) := ps_raise hc tk (pmk_err T hm hsu hr ha hg hdb he hpl)
theorem errXf {P : Program} {K : PySem.W.Frag} (T : PySem.ErrX.ErrTxt P K C x f) : XfC K C := ⟨T.ga, T.gg, T.exC, T.hdC⟩
end
end L2
namespace PySem.W
open PySem PySem.Spec PySem.Calls PyProof.Rows
section
variable {prog : Program} {w : World} {A : Around} {E : Value → Shared → Prop} {s : Shared} {K : Frag} {x D : Addr} {ox : Obj} {od : Option Obj}
theorem findObj_dat {C : Addr} {name : Str} {a g : Value} (hc : (clsIn K C).isSome = true) (ha : findIn K (.ref C) name = some (some a)) (hg : specialIn K a "__get__" = some (some g)) (ht : takesIn K a = some true) : findObj K C od name = some (.bind g a) := by
  obtain ⟨cd, hc⟩ := Option.isSome_iff_exists.mp hc
  unfold findObj
  rw [hc, Option.bind_some, ha, Option.bind_some]
  simp [hg, ht]
end
end PySem.W
namespace L2
open PySem PySem.Spec PyProof.Rows
/-- isinstance(e, c), e the own error that the suite holds (its class cls, its dict d) -/
def rIsErr (K : PySem.W.Frag) (a : Addr) (cls : Value) (d : Option Addr) : List V → Hp → VK → Prop := fun xs H Q => ∃ (c : V) (cv : Value) (b : Bool) (D dd : Addr) (fs : List (Str × V)), xs = [.ref a, c] ∧ cls = .ref D ∧ ExcC K D ∧ d = some dd ∧ H dd = some (.xd fs) ∧
  (∀ u, RelV c u → u = cv) ∧ PySem.W.kitOne K (.ref D) cv = some b ∧ Q (.bl b) H
theorem call_isErr {X : Cx} {a : Addr} {oe : Obj} {cls : Value} {d : Option Addr} {pn : List (Addr × Obj)} (hz : Zc cls d oe) (hf : ∃ vs, oe.data = .fields vs) : CallR (X.suite a ((a, oe) :: pn)) (.builtin "isinstance") (rIsErr X.K a cls d) := by
  intro pins s σ H xs us Q I r h
  obtain ⟨c, cv, b, D, dd, fs, rfl, rfl, C, rfl, hd, hcv, e, q⟩ := h
  cases r with
  | cons rx rr =>
    cases rr with
    | cons rt rr =>
      cases rr
      cases rx
      have ec := hcv _ rt
      subst ec
      obtain ⟨hget, _⟩ := I.pin (a, oe) (List.mem_append.mpr (.inl List.mem_cons_self))
      obtain ⟨vs, hv⟩ := hf
      have hx : ObjOk X.prog X.w H s.heap dd (.xd fs) := I.hok dd _ hd
      obtain ⟨mA, hns, _⟩ := hx
      obtain ⟨od, ho, _⟩ := lookIn_ns hns
      have J : PySem.W.InstAt s.heap a oe D (some od) := ⟨hget, hz.1, by unfold PySem.W.notCls; rw [hv] <;> rfl, by rw [hz.2]; exact ho⟩
      have hcl : (PySem.W.clsIn X.K D).isSome = true := by
        obtain ⟨cd, hc, _⟩ := PySem.W.any_some C.hd
        rw [hc]
        rfl
      exact PySem.W.kia_one (PySem.W.kitx_exc hcl C.hg C.hk C.hs C.ha C.hn C.ht C.hm) I.kIn J e (fun z => nomatch z) fun tk => ⟨.bl b, H, I.kept (t' := tk) fun _ _ z => z, rfl, q⟩
def excB (K : PySem.W.Frag) (D : Addr) : Bool := decide (PySem.W.findIn K (.ref D) "__getattribute__" = some (some (.builtin "BaseException.__getattribute__"))) && (decide (PySem.W.findIn K (.ref D) "__getattr__" = some none) && (decide (PySem.W.subIn K (.ref D) (.type "BaseException") = some true) &&
  (PySem.W.hasDictIn K D && (decide (PySem.W.findIn K (.ref D) "__class__" = some (some (.builtin "object.__class__"))) && (decide (PySem.W.specialIn K (.builtin "object.__class__") "__get__" = some (some (.builtin "getset_descriptor.__get__"))) && (decide (PySem.W.takesIn K (.builtin "object.__class__") = some true) && decide (PySem.W.mroIn K D (.type "object") = some true)))))))
theorem excB_ok {K : PySem.W.Frag} {D : Addr} (h : excB K D = true) : ExcC K D := by
  unfold excB at h
  simp only [Bool.and_eq_true, decide_eq_true_eq] at h
  obtain ⟨h1, h2, h3, h4, h5, h6, h7, h8⟩ := h
  exact ⟨h1, h2, h3, h4, h5, h6, h7, h8⟩
end L2
/-! ### the head's facts: defs, error classes, and one Bool of one's own -/
namespace Hd
open PySem PySem.Spec PyProof.Rows L2 He
abbrev FnE : Type := Option (Str × Str × Arguments × FuncBody × Scope × Addr × List Str × Addr)
def fnE (K : PySem.W.Frag) (p : Str × Option Str) : FnE := match K.lookup (fAd K p) with
  | some ⟨_, _, .func fd, _⟩ => some (fd.name, fd.qualname, fd.params, fd.body, fd.scope, fd.globals, fd.closure.map (·.1), fd.builtins)
  | _ => none
/-- a method with a closure over __class__: where it stands, its statement in the text -/
structure ErD where
  cls : Str
  qual : Str
  st : Stmt
def ErD.val (d : ErD) : FnE := some ("__init__", d.qual, defArgs d.st, .stmts (defBody d.st), defScope d.st, mainGlobals, ["__class__"], builtinsNs)
def clsB (K : PySem.W.Frag) (C : Addr) : Bool := match K.lookup C with
  | some ⟨.type "type", _, .cls cd, sl⟩ => (match cd.mro, sl.toList with
    | .ref C' :: bm, [_, _, _, _, some (.builtin n), _] => C' == C && (n == "ValueError.__new__" && (!cd.hasDel && (cd.hasDict && PySem.HandSPX.refsVE bm)))
    | _, _ => false)
  | _ => false
theorem clsB_ok {K : PySem.W.Frag} {C : Addr} (h : clsB K C = true) : ∃ nm q N bs bm sn sub ab col dd k0 k1 k2 k3 k5, K.lookup C = some (excClassObj nm q C N bs bm true sn sub ab col dd k0 k1 k2 k3 k5 "ValueError.__new__") ∧ PySem.HandSPX.refsVE bm = true := by
  unfold clsB at h
  split at h
  · rename_i dd cd sl ho
    split at h
    · rename_i C' bm k0 k1 k2 k3 n k5 hm hs
      simp only [Bool.and_eq_true, beq_iff_eq, Bool.not_eq_true'] at h
      obtain ⟨rfl, rfl, hdel, hdi, hbm⟩ := h
      obtain ⟨nm, bs, mro, ns, qn, hd, sn, sub, ab, col, del⟩ := cd
      dsimp only at hm hdel hdi
      subst hm hdel hdi
      have hsl : sl = #[k0, k1, k2, k3, some (.builtin "ValueError.__new__"), k5] := by
        obtain ⟨l⟩ := sl
        simp only at hs
        rw [hs]
      subst hsl
      exact ⟨nm, qn, ns, bs, bm, sn, sub, ab, col, dd, k0, k1, k2, k3, k5, ho, hbm⟩
    · cases h
  · cases h
def alongB (K : PySem.W.Frag) (C : Addr) : Bool := match PySem.W.clsIn K C with
  | some cd => decide (PySem.W.alongIn K "__init__" ((cd.mro.dropWhile (· != .ref C)).drop 1) = some (some (.builtin "ValueError.__init__")))
  | none => false
theorem alongB_ok {K : PySem.W.Frag} {C : Addr} (h : alongB K C = true) : ∃ cd, PySem.W.clsIn K C = some cd ∧ PySem.W.alongIn K "__init__" ((cd.mro.dropWhile (· != .ref C)).drop 1) = some (some (.builtin "ValueError.__init__")) := by
  unfold alongB at h
  split at h
  · rename_i cd hc
    exact ⟨cd, hc, of_decide_eq_true h⟩
  · cases h
def initB (P : Program) (K : PySem.W.Frag) (fI C : Addr) (qual : Str) : Bool := match K.lookup fI with
  | some ⟨_, _, .func fd, _⟩ => (match fd.defaults, fd.code, fd.closure with
    | .none, .ref cda, [(_, cc)] => PySem.W.codeIn K (.ref cda) qual && ((match K.lookup cda with
      | some ⟨_, _, .fields vs, _⟩ => (match (vs[2]? : Option Value) with
        | some (.str file _) => ((P.main.file : Str) == file)
        | _ => false)
      | _ => false) && (match K.lookup cc with
      | some ⟨_, _, .cell (some (.ref C')), _⟩ => C' == C
      | _ => false))
    | _, _, _ => false)
  | _ => false
def errB (P : Program) (K : PySem.W.Frag) (c f qual : Str) : Bool :=
  clsB K (ga K c) && (alongB K (ga K c) && (decide (PySem.W.nsIn K cStatics "thirdparty.any" = some none) && (decide (PySem.W.mroIn K (ga K c) (.ref (ga K c)) = some true) && (decide (PySem.W.subIn K (.ref (ga K c)) (.type "ValueError") = some true) &&
  (eqO (PySem.W.findIn K (.ref (ga K c)) "__setattr__") (some (some (.builtin "object.__setattr__"))) && (eqO (PySem.W.findIn K (.ref (ga K c)) "__getattribute__") (some (some (.builtin "BaseException.__getattribute__"))) &&
  (eqO (PySem.W.findIn K (.ref (ga K c)) "__getattr__") (some none) && (eqO (PySem.W.findIn K (.ref (ga K c)) f) (some none) && (PySem.W.keepIn K (.ref (ga K c)) && (decide (PySem.W.subIn K (.ref (ga K c)) (.type "BaseException") = some true) &&
  (decide (PySem.W.typeIn K (.ref (ga K c)) = some (.type "type")) && (PySem.W.hasDictIn K (ga K c) && (eqO (PySem.W.findIn K (.ref (ga K c)) "__init__") (some (some (.ref (ma K (ga K c) "__init__")))) &&
  (decide (PySem.W.typeIn K (.ref (ma K (ga K c) "__init__")) = some (.type "function")) && initB P K (ma K (ga K c) "__init__") (ga K c) qual))))))))))))))
theorem err_mk {P : Program} {K : PySem.W.Frag} {c f x qual msg : Str} {st : Stmt} {p1 p2 q1 q2 q3 q4 q5 q6 q7 q8 q9 q10 : Pos} (h : errB P K c f qual = true) (e : fnE K (c, some "__init__") = (ErD.mk c qual st).val)
    (hA : defArgs st = PySem.ErrX.iA x p1 p2) (hB : defBody st = PySem.ErrX.iB x f msg q1 q2 q3 q4 q5 q6 q7 q8 q9 q10) (hS : defScope st = PySem.ErrX.iS x) (hl : (q3.endLine == q5.line) = true)
    (top : (P.main.scope.names.lookup ("super" : Str)).isSome = false) (xs : (x == ("self" : Str)) = false) (xc : (("__class__" : Str) == x) = false) (xu : (("super" : Str) == x) = false) (xd : (x == ("__debug__" : Str)) = false)
    (bnd : ∀ (nm qual : Str) (Bd : List Stmt) (kV doc pm : Value) (an : Option Addr) (cdv ct : Value) (cc : Addr) (p1 p2 : Pos) (u v : Value), bindArgs (PySem.W.ksFn nm qual (PySem.ErrX.iA x p1 p2) Bd (PySem.ErrX.iS x) .none kV doc pm an cdv ct cc) ⟨[u, v], []⟩ = pure [(("self" : Str), u), (x, v)]) :
    PySem.ErrX.ErrTxt P K (ga K c) x f := by
  unfold errB at h
  obtain ⟨h1, h⟩ := ba h
  obtain ⟨h2, h⟩ := ba h
  obtain ⟨h3, h⟩ := ba h
  obtain ⟨h4, h⟩ := ba h
  obtain ⟨h5, h⟩ := ba h
  obtain ⟨h6, h⟩ := ba h
  obtain ⟨h7, h⟩ := ba h
  obtain ⟨h8, h⟩ := ba h
  obtain ⟨h9, h⟩ := ba h
  obtain ⟨h10, h⟩ := ba h
  obtain ⟨h11, h⟩ := ba h
  obtain ⟨h12, h⟩ := ba h
  obtain ⟨h13, h⟩ := ba h
  obtain ⟨h14, h⟩ := ba h
  obtain ⟨h15, h16⟩ := ba h
  refine ⟨clsB_ok h1, alongB_ok h2, of_decide_eq_true h3, of_decide_eq_true h4, of_decide_eq_true h5, eqO_ok h6, eqO_ok h7, eqO_ok h8, eqO_ok h9, h10, of_decide_eq_true h11, of_decide_eq_true h12, h13,
    ⟨ma K (ga K c) "__init__", eqO_ok h14, of_decide_eq_true h15, ?_⟩, top, xs, xc, xu, xd, bnd⟩
  unfold initB at h16
  have e2 : fnE K (c, some "__init__") = (match K.lookup (ma K (ga K c) "__init__") with
    | some ⟨_, _, .func fd, _⟩ => some (fd.name, fd.qualname, fd.params, fd.body, fd.scope, fd.globals, fd.closure.map (·.1), fd.builtins)
    | _ => none) := rfl
  rw [e2] at e
  cases q : K.lookup (ma K (ga K c) "__init__") with
  | none =>
    rw [q] at h16
    cases h16
  | some o =>
    obtain ⟨oc, od, dt, osl⟩ := o
    rw [q] at h16 e
    cases dt with
    | func fd =>
      obtain ⟨n1, n2, n3, n4, n5, n6, n7, n8, n9, n10, n11, n12, n13, n14, n15⟩ := fd
      have e3 : (some (n1, n2, n3, n4, n5, n6, n7.map (·.1), n15) : FnE) = (some (("__init__" : Str), qual, defArgs st, FuncBody.stmts (defBody st), defScope st, mainGlobals, [("__class__" : Str)], builtinsNs) : FnE) := e
      simp only [Option.some.injEq, Prod.mk.injEq] at e3
      obtain ⟨e1, e2, e3, e4, e5, e6, e7, e8⟩ := e3
      subst e1 e2 e3 e4 e5 e6 e8
      dsimp only at h16
      split at h16
      · rename_i cda nn cc
        obtain ⟨k1, k2⟩ := ba h16
        obtain ⟨k2, k3⟩ := ba k2
        have en : nn = ("__class__" : Str) := by simpa using e7
        subst en
        refine ⟨oc, od, n10, n11, n9, n12, cda, cc, n14, osl, "__init__", n2, msg, p1, p2, q1, q2, q3, q4, q5, q6, q7, q8, q9, q10, hl, ?_, k1, ?_, ?_⟩
        · rw [← hA, ← hB, ← hS]
        · split at k2
          · rename_i ccl cdd vs ccs hc
            split at k2
            · rename_i file tf hv
              exact ⟨ccl, cdd, vs, ccs, file, tf, hc, hv, k2⟩
            · cases k2
          · cases k2
        · split at k3
          · rename_i cl cld C' csl hc
            have ec : C' = ga K c := by simpa using k3
            subst ec
            exact ⟨cl, cld, csl, hc⟩
          · cases k3
      · cases h16
    | _ => cases h16
/-! ### the Hook -/
def asP (g : Addr → Option Obj) (n : Nat) : List Addr := List.range (n * 400)
abbrev AlP : Type := Bool × List FnW × List FnE
def obsP (fn : List He5.DefA) (er : List ErD) (ex : PySem.W.Frag → Bool) (K : PySem.W.Frag) : AlP := (ex K && fn.all fun d => d.ok K, fn.map fun d => He5.fnA K (d.at_ K), er.map fun d => fnE K (d.cls, some "__init__"))
def valP (fn : List He5.DefA) (er : List ErD) : AlP := (true, fn.map He5.DefA.val, er.map ErD.val)
def SaysP (fn : List He5.DefA) (er : List ErD) (ex : PySem.W.Frag → Bool) (K : PySem.W.Frag) : Prop := obsP fn er ex K = valP fn er
def obsPG (n : Nat) (fn : List He5.DefA) (er : List ErD) (ex : PySem.W.Frag → Bool) (g : Addr → Option Obj) : AlP := obsP fn er ex (frG g (asP g n))
def hookP (n : Nat) (fn : List He5.DefA) (er : List ErD) (ex : PySem.W.Frag → Bool) : PySem.W.Hook where
  α := AlP
  obs := fun s => obsPG n fn er ex s.heap.get?
  val := fun _ => valP fn er
  says := fun _ h => ∃ K : PySem.W.Frag, K.In h ∧ SaysP fn er ex K
  of := fun _ _ e => ⟨_, frG_in, e⟩
  keeps := fun _ _ _ ⟨K, hK, c⟩ k => ⟨K, PySem.W.Frag.In.keeps hK k, c⟩
theorem obsPG_eq {n : Nat} {fn : List He5.DefA} {er : List ErD} {ex : PySem.W.Frag → Bool} {g : Addr → Option Obj} {s : Shared} (h : ∀ a, g a = s.heap.get? a) : obsPG n fn er ex g = (hookP n fn er ex).obs s := by
  have e : g = s.heap.get? := funext h
  rw [e] <;> rfl
section
variable {fn : List He5.DefA} {er : List ErD} {ex : PySem.W.Frag → Bool} {K : PySem.W.Frag}
theorem SaysP.more (c : SaysP fn er ex K) : ex K = true := (ba (show (ex K && fn.all fun d => d.ok K) = true from congrArg (fun z : AlP => z.1) c)).1
theorem SaysP.def_ (c : SaysP fn er ex K) (i : Nat) {d : He5.DefA} (h : fn[i]? = some d := by rfl) : ∃ fd, FunD K d.name d.qual d.params d.body d.scope (d.dvs K) (d.kws K) (d.at_ K) fd := by
  have c2 := (ba (show (ex K && fn.all fun d => d.ok K) = true from congrArg (fun z : AlP => z.1) c)).2
  have e : fn.map (fun d => He5.fnA K (d.at_ K)) = fn.map He5.DefA.val := congrArg (fun z : AlP => z.2.1) c
  have e2 : (fn.map fun d => He5.fnA K (d.at_ K))[i]? = (fn.map He5.DefA.val)[i]? := by rw [e]
  rw [List.getElem?_map, List.getElem?_map, h] at e2
  exact He5.DefA.funD (Option.some.inj e2) (List.all_eq_true.mp c2 d (List.mem_of_getElem? h))
theorem SaysP.err_ (c : SaysP fn er ex K) (i : Nat) {d : ErD} (h : er[i]? = some d := by rfl) : fnE K (d.cls, some "__init__") = d.val := by
  have e : er.map (fun d => fnE K (d.cls, some "__init__")) = er.map ErD.val := congrArg (fun z : AlP => z.2.2) c
  have e2 : (er.map fun d => fnE K (d.cls, some "__init__"))[i]? = (er.map ErD.val)[i]? := by rw [e]
  rw [List.getElem?_map, List.getElem?_map, h] at e2
  exact Option.some.inj e2
end
def tkOf : Option Value → Tok
  | some (.int _ t) => t
  | some (.str _ t) => t
  | _ => 0
theorem int_tk {o : Option Value} {i : Int} (h : ∃ t, o = some (.int i t)) : o = some (.int i (tkOf o)) := by
  obtain ⟨t, e⟩ := h
  rw [e] <;> rfl
theorem str_tk {o : Option Value} {z : Str} (h : ∃ t, o = some (.str z t)) : o = some (.str z (tkOf o)) := by
  obtain ⟨t, e⟩ := h
  rw [e] <;> rfl
end Hd
namespace L2
open PySem PySem.Spec PyProof.Rows
/-- a def that is promised to let nothing out -/
theorem fn_calm {P : Program} {w : World} {K : PySem.W.Frag} {mg : Str → Option Value} {base : Heap} {k : Nat} {f : Addr} {fd : FuncData} {ps : List Str} {sp : Sp} (F : FnOk P w K mg base (L2.CX P w) k f fd ps sp)
    (hs : ∀ vs H Q E, sp vs H Q E → sp vs H Q (fun _ _ _ => False)) : FnOk P w K mg base CX0 k f fd ps sp :=
  ⟨F.len, fun A outer s H args us vs Q E hr he hb hv h => codeAny_mono (F.run A outer s H args us vs Q _ hr he hb hv (hs _ _ _ _ h)) (fun r s' q => by
    cases r with
    | error e =>
      obtain ⟨_, _, _, _, _, _, _, _, _, _, _, _, z⟩ := q
      exact z.elim
    | ok f => cases f <;> exact q)⟩
end L2
namespace Hd
open PySem PySem.Spec PyProof.Rows L2 He
/-- a constant of a class, read off the class -/
def cvalB (K : PySem.W.Frag) (C : Addr) (f : Str) (v : V) : Bool := match PySem.W.findCls K (.ref C) (.type "type") f with
  | some (.val u) => relB v u
  | _ => false
theorem cvalB_ok {K : PySem.W.Frag} {C : Addr} {f : Str} {v : V} (h : cvalB K C f v = true) : ∃ u, ClX.CVal K C (.type "type") f v u := by
  unfold cvalB at h
  split at h
  · rename_i u e
    exact ⟨u, e, relB_ok h⟩
  · cases h
end Hd
namespace Hd
open PySem PySem.Spec PyProof.Rows L2
/-- the keyword-only default x of the def at f, if it is an object -/
def kwAt (f : PySem.W.Frag → Addr) (x : Str) (K : PySem.W.Frag) : Addr := match K.lookup (f K) with
  | some ⟨_, _, .func fd, _⟩ => (match fd.kwdefaults with
    | .ref D => (match PySem.W.nsIn K D x with
      | some (some (.ref b)) => b
      | _ => 0)
    | _ => 0)
  | _ => 0
/-- an empty tuple of the written part -/
def tup0B (K : PySem.W.Frag) (a : Addr) : Bool := match K.lookup a with
  | some ⟨c, _, .seq its _, _⟩ => decide (c = .type "tuple") && decide (its.size = 0)
  | _ => false
theorem tup0B_ok {K : PySem.W.Frag} {a : Addr} (h : tup0B K a = true) : ∀ H, SqT K H a [] := fun H => by
  unfold tup0B at h
  split at h
  · rename_i c d its n sl e
    rw [Bool.and_eq_true] at h
    refine .inr ⟨_, its, n, e, of_decide_eq_true h.1, rfl, ?_, ?_⟩
    · rw [of_decide_eq_true h.2]; exact Nat.zero_le _
    · have : its = #[] := Array.eq_empty_of_size_eq_zero (of_decide_eq_true h.2)
      rw [this]
      exact .nil
  · cases h
end Hd
namespace Hd
open PySem PySem.W PySem.Calls PyProof.Rows
section
variable {r : OpenRow} {q : Program} {H : Hook} {ob : SharedT → H.α} {M : Nat} {loose : List PySem.Str} {w : World}
/-- the head's run, looked at part by part -/
abbrev runL (r : OpenRow) (M : Nat) (w : World) : Prop := ∀ os : OsState, (HandSHeadRun.endF (HandSHeadRun.stepQ (HandSHeadRun.denQ HandSHeadRun.tabQ) r.prog w) M r.prog w os).map (fun s => HandSHeadRun.looksF r.prog (boot_heap w.params) s.abs) = some true
abbrev runS (r : OpenRow) (q : Program) (M : Nat) (loose : List PySem.Str) (w : World) : Prop := ∀ os : OsState, (HandSHeadRun.endF (HandSHeadRun.stepQ (HandSHeadRun.denQ HandSHeadRun.tabQ) r.prog w) M r.prog w os).map (fun s => HandSHeadRun.seenQ q loose (importedModules r.prog.main.body) (fun s => xlAt q [] s && recOk r.toRowW.records s) s.abs) = some (openGood q loose)
abbrev runO (r : OpenRow) (H : Hook) (ob : SharedT → H.α) (M : Nat) (w : World) : Prop := ∀ os : OsState, (HandSHeadRun.endF (HandSHeadRun.stepQ (HandSHeadRun.denQ HandSHeadRun.tabQ) r.prog w) M r.prog w os).map (fun s => ob s) = some (H.val w)
theorem run_of (a : runL r M w) (b : runS r q M loose w) (c : runO r H ob M w) : HandSHeadRun.RunEq r q H ob M loose w := fun os => by
  obtain ⟨s, hs, ha⟩ := Option.map_eq_some_iff.mp (a os)
  have hb := b os
  have hc := c os
  rw [hs] at hb hc ⊢
  have hb' := Option.some.inj hb
  have hc' := Option.some.inj hc
  exact congrArg some (congr (congrArg Prod.mk ha) (congr (congrArg Prod.mk hb') hc'))
end
end Hd
/-! ### facts of the top, decided (the head's run needs them) -/
namespace SupX
open PySem PySem.Spec PyProof.Rows L2 PySem.Calls
/-! ### the facts, decided -/
def supB (P : Program) (K : PySem.W.Frag) (c qual : Str) (f2 : Addr) : Bool :=
  (PySem.W.clsIn K (He.ga K c)).isSome && (decide (PySem.W.mroIn K (He.ga K c) (.ref (He.ga K c)) = some true) && (He.eqO (PySem.W.ks_superIn K (He.ga K c) (He.ga K c) "__init__") (some (some (.ref f2))) && (decide (PySem.W.typeIn K (.ref f2) = some (.type "function")) &&
  (PySem.W.fnIn K f2 && (decide (PySem.W.nsIn K cStatics "thirdparty.any" = some none) && Hd.initB P K (He.ma K (He.ga K c) "__init__") (He.ga K c) qual)))))
end SupX
namespace Hd
open PySem PySem.Spec PyProof.Rows L2
/-- a method of a class above -/
def inhB (K : PySem.W.Frag) (C : Addr) (m : Str) (f : Addr) : Bool := decide (PySem.W.findIn K (.ref C) m = some (some (.ref f))) && (PySem.W.isFn K (.ref f) && PySem.W.keepIn K (.ref f))
end Hd
namespace AndX
open PySem PySem.Spec PyProof.Rows L2 PySem.Calls
/-- the text of the error -/
def missMsg (n : Str) (name : Str) : Str := (s!"type object '{n.toString}' has no attribute '" : Str) ++ name ++ "'"
def lackB (K : PySem.W.Frag) (D : Addr) (name : Str) : Bool := (match PySem.W.clsIn K D with
  | some cd => decide (cd.name.cps.foldl (fun k c => k + (Str.utf8Of c).length) 0 ≤ 100) && decide ((missMsg cd.name name).length ≤ sizeLine)
  | none => false) && (decide (PySem.W.typeIn K (.ref D) = some (.type "type")) && (He.eqO (PySem.W.findIn K (.ref D) name) (some none) && (He.eqO (PySem.W.findIn K (.type "type") name) (some none) && decide (PySem.W.nsIn K cStatics "thirdparty.any" = some none))))
def opCB (K : PySem.W.Frag) (C : Addr) (nm : String) (f : Addr) : Bool := He.eqO (PySem.W.findIn K (.ref C) (dunder nm)) (some (some (.ref f))) && (PySem.W.isFn K (.ref f) && (PySem.W.selfFirst K C && lackB K C (dunderR nm)))
def kinB (K : PySem.W.Frag) (cs : List Addr) (nm : String) (f : Addr) : Bool :=
  (cs.all fun C => opCB K C nm f && cs.all fun D => (PySem.W.mroIn K D (.ref C)).isSome) && (He.eqO (PySem.W.findIn K (.type "type") "__getattribute__") (some (some (.builtin "type.__getattribute__"))) &&
  (decide (PySem.W.subIn K (.type "type") (.type "type") = some true) && decide ((dunderR nm).length ≤ sizeLine)))
end AndX
/-! ### calls of defs by positional promises; what is raised is wished for at the caller's slots -/
namespace Cl
open PySem PySem.Spec PyProof.Rows L2
section
variable {X : Cx} {CX : CXT} {k : Nat} {f C g : Addr} {sp : Sp} {E : L2.St → XK} {x m : Str} {p pos apos : Pos} {e o fe : Expr} {es : List Expr} {ta tf : TE} {t : TA}
theorem runS {pins : List (Addr × Obj)} {σ : L2.St} {H : Hp} {s : Shared} {Q : VK} {us : List Value} {vs : List V} (F : FnR X.prog X.w X.K X.mg X.base CX k f sp) (hr : Room k X.A) (hx : PassesAt CX X σ (E σ)) (I : Inv X pins σ H s) (r : Vals vs us) (h : sp vs H Q (E σ)) :
    codeAny (model X.prog X.w) X.A (.call (.ref f) ⟨us, []⟩) (fun r s' => match r with | .ok (.ret v) => EP X pins σ Q v s' | .ok _ => False | .error e => X.xe e s') s :=
  codeAny_mono (F X.A X.stack s H us vs Q (E σ) hr I.env0 r h) fun r s' hq => by
    cases r with
    | error er => exact hx pins H s er s' I hq
    | ok fl => cases fl <;> first | exact I.after hq | exact False.elim hq
/-- f(e, ..) -/
def tF (sp : Sp) (E : L2.St → XK) (t : TA) : TE := fun σ H Q => t σ H fun vs H1 => sp vs H1 Q (E σ)
theorem pe_f (F : FnR X.prog X.w X.K X.mg X.base CX k f sp) (hr : Room k X.A) (hg : Gl X x) (hm : X.mg x = some (.ref f)) (hk : PySem.W.keepIn X.K (.ref f) = true) (hx : ∀ σ, PassesAt CX X σ (E σ)) (ha : PA X (e :: es) t)
    (hdb : (x == ("__debug__" : Str)) = false := by decide) (he : starEach (e :: es) X.env = (false, eval e X.env) :: starEach es X.env := by rfl) (hpl : (backTo pos (starEach es X.env)).any (·.1) = false := by rfl) :
    PE X (.Call (.Name x p) (e :: es) [] pos) (tF sp E t) :=
  ⟨fun pins s σ H Q I h => wpAny_Call_Name_kw (ld_glob I hg hm (PySem.W.callWith_K (h₀ := X.base) I.ok.mod.kin hk (thn (ha.run pos pins s σ H _ I h) fun us s1 ⟨vs, H1, I1, r, q⟩ => ⟨I1.kIn, wpAny_call (runS F hr (hx σ) I1 r q)⟩) he hpl) hdb)⟩
theorem pe_f0 (F : FnR X.prog X.w X.K X.mg X.base CX k f sp) (hr : Room k X.A) (hg : Gl X x) (hm : X.mg x = some (.ref f)) (hk : PySem.W.keepIn X.K (.ref f) = true) (hx : ∀ σ, PassesAt CX X σ (E σ)) (hdb : (x == ("__debug__" : Str)) = false := by decide) :
    PE X (.Call (.Name x p) [] [] pos) (tF sp E tNil) :=
  ⟨fun pins s σ H Q I h => wpAny_Call_Name_kw (ld_glob I hg hm (PySem.W.callWith_K0 I.kIn hk (wpAny_call (runS (us := []) F hr (hx σ) I .nil h))) hdb)⟩
/-- o.m(e, ..) -/
def tM (C : Addr) (m : Str) (sp : Sp) (E : L2.St → XK) (ta : TE) (t : TA) : TE := fun σ H Q => ta σ H fun x H1 => ∃ a dx fs, x = .ref a ∧ H1 a = some (.ins C dx fs) ∧ fs.lookup m = none ∧ t σ H1 fun vs H2 => sp (.ref a :: vs) H2 Q (E σ)
theorem pe_m {pl : Sem Bool} (he : PE X o ta) (c : Cls X.K C) (hm : Meth X.K C m f) (F : FnR X.prog X.w X.K X.mg X.base CX k f sp) (hr : Room k X.A) (hx : ∀ σ, PassesAt CX X σ (E σ)) (ha : PA X (e :: es) t)
    (hst : starEach (e :: es) X.env = (false, eval e X.env) :: starEach es X.env := by rfl) (hpl : (backTo pos (starEach es X.env)).any (·.1) = false := by rfl)
    (ht : eval (.Call (.Attribute o m apos) (e :: es) [] pos) X.env = (do
      let ov ← eval o X.env
      standAt apos.atName
      let (f, first) ← holding [ov] (getMethod ov m pl)
      callWith pos f first (backTo pos (starEach (e :: es) X.env)) (backToKw pos (keywordEach [] X.env))) := by rfl) :
    PE X (.Call (.Attribute o m apos) (e :: es) [] pos) (tM C m sp E ta t) := by
  refine ⟨fun pins s σ H Q I h => PySem.W.methodCall_KW (pl := pl) (thn (he.run pins s σ H _ I h) fun u s1 ⟨x, H1, I1, rx, a, dx, fs, ex, ea, l, q⟩ => ?_) ht⟩
  subst ex
  obtain rfl : u = Value.ref a := rx
  exact getmeth_ok I1 ea c hm l (PySem.W.callWith_K (first := [.ref a]) (h₀ := X.base) I.ok.mod.kin hm.kp (thn (ha.run pos pins s1 σ H1 _ I1 q) fun us s2 ⟨vs, H2, I2, r, q2⟩ => ⟨I2.kIn, wpAny_call (runS (us := .ref a :: us) (vs := .ref a :: vs) F hr (hx σ) I2 (.cons rfl r) q2)⟩) hst hpl)
theorem pe_m0 {pl : Sem Bool} (he : PE X o ta) (c : Cls X.K C) (hm : Meth X.K C m f) (F : FnR X.prog X.w X.K X.mg X.base CX k f sp) (hr : Room k X.A) (hx : ∀ σ, PassesAt CX X σ (E σ))
    (ht : eval (.Call (.Attribute o m apos) [] [] pos) X.env = (do
      let ov ← eval o X.env
      standAt apos.atName
      let (f, first) ← holding [ov] (getMethod ov m pl)
      callWith pos f first (backTo pos (starEach [] X.env)) (backToKw pos (keywordEach [] X.env))) := by rfl) :
    PE X (.Call (.Attribute o m apos) [] [] pos) (tM C m sp E ta tNil) := by
  refine ⟨fun pins s σ H Q I h => PySem.W.methodCall_KW (pl := pl) (thn (he.run pins s σ H _ I h) fun u s1 ⟨x, H1, I1, rx, a, dx, fs, ex, ea, l, q⟩ => ?_) ht⟩
  subst ex
  obtain rfl : u = Value.ref a := rx
  exact getmeth_ok I1 ea c hm l (PySem.W.callWith_K0 (first := [.ref a]) I1.kIn hm.kp (wpAny_call (runS (us := [.ref a]) (vs := [.ref a]) F hr (hx σ) I1 (.cons rfl .nil) q)))
/-- C(e, ..) -/
def tMk (C : Addr) (sp : Sp) (E : L2.St → XK) (t : TA) : TE := fun σ H Q => t σ H fun vs H1 => ∀ x dx, H1 x = none → H1 dx = none → dx ≠ x → sp (.ref x :: vs) (upd (upd H1 dx (.own x)) x (.ins C dx [])) (fun v H2 => v = .non ∧ Q (.ref x) H2) (E σ)
theorem runMk {pins : List (Addr × Obj)} {σ : L2.St} {H : Hp} {s : Shared} {Q : VK} {us : List Value} {vs : List V} (M : Mk X.K C f) (F : FnR X.prog X.w X.K X.mg X.base CX k f sp) (hr : Room (k + 1) X.A) (hx : PassesAt CX X σ (E σ)) (I : Inv X pins σ H s) (r : Vals vs us)
    (h : ∀ x dx, H x = none → H dx = none → dx ≠ x → sp (.ref x :: vs) (upd (upd H dx (.own x)) x (.ins C dx [])) (fun v H2 => v = .non ∧ Q (.ref x) H2) (E σ)) :
    wpAny (model X.prog X.w) X.A (call (.ref C) us) (EP X pins σ Q) X.xe s := by
  have hq := h (s.heap.objs.size + 1) s.heap.objs.size (I.hok.fresh (Nat.le_succ _)) (I.hok.fresh (Nat.le_refl _)) (Nat.ne_of_lt (Nat.lt_succ_self _))
  have I2 := Inv.made (C := C) I
  have r2 : Vals (V.ref (s.heap.objs.size + 1) :: vs) (Value.ref (s.heap.objs.size + 1) :: us) := .cons rfl r
  refine wpAny_call (make_map (f := f) I.kIn M.makes M.init (beq_iff_eq.mp M.fn) (codeAny_mono (F _ X.stack _ _ (Value.ref (s.heap.objs.size + 1) :: us) _ _ (E σ) (hr.make C us []) (I2.env0.make C us []) r2 hq) fun r s' hq' => ?_))
  cases r with
  | error er => exact hx pins _ _ er s' I2 hq'
  | ok fl =>
    cases fl with
    | ret u =>
      obtain ⟨v, H', I3, rv, ev, q3⟩ := I2.after hq'
      subst ev
      exact ⟨rv, ⟨V.ref (s.heap.objs.size + 1), H', I3, rfl, q3⟩⟩
    | _ => exact False.elim hq'
theorem pe_mk (M : Mk X.K C f) (F : FnR X.prog X.w X.K X.mg X.base CX k f sp) (hr : Room (k + 1) X.A) (hg : Gl X x) (hm : X.mg x = some (.ref C)) (hx : ∀ σ, PassesAt CX X σ (E σ)) (ha : PA X (e :: es) t) (hdb : (x == ("__debug__" : Str)) = false := by decide)
    (he : starEach (e :: es) X.env = (false, eval e X.env) :: starEach es X.env := by rfl) (hpl : (backTo pos (starEach es X.env)).any (·.1) = false := by rfl) : PE X (.Call (.Name x p) (e :: es) [] pos) (tMk C sp E t) :=
  ⟨fun pins s σ H Q I h => wpAny_Call_Name_kw (ld_glob I hg hm (PySem.W.callWith_K (h₀ := X.base) I.ok.mod.kin M.kp (thn (ha.run pos pins s σ H _ I h) fun us s1 ⟨vs, H1, I1, r, q⟩ => ⟨I1.kIn, runMk M F hr (hx σ) I1 r q⟩) he hpl) hdb)⟩
theorem pe_mk0 (M : Mk X.K C f) (F : FnR X.prog X.w X.K X.mg X.base CX k f sp) (hr : Room (k + 1) X.A) (hg : Gl X x) (hm : X.mg x = some (.ref C)) (hx : ∀ σ, PassesAt CX X σ (E σ)) (hdb : (x == ("__debug__" : Str)) = false := by decide) : PE X (.Call (.Name x p) [] [] pos) (tMk C sp E tNil) :=
  ⟨fun pins s σ H Q I h => wpAny_Call_Name_kw (ld_glob I hg hm (PySem.W.callWith_K0 I.kIn M.kp (runMk (us := []) M F hr (hx σ) I .nil h)) hdb)⟩
/-- what is raised goes on to the def's own wish -/
theorem at_ {W : WX} (tk : Takes X W) (σ : L2.St) : PassesAt (L2.CX X.prog X.w) X σ (WE W σ) := passAt tk σ
end
/-! ### a def with a star parameter -/
section
variable {P : Program} {w : World} {K : PySem.W.Frag} {mg : Str → Option Value} {base : Heap} {x qual : Str} {params : Arguments} {body : List Stmt} {scope : Scope} {dvs : List V} {kws : List (Str × V)} {f : Addr} {fd : FuncData}
theorem okStar {CX : CXT} {N ps : List Str} {pv : Str} {k : Nat} {sp : Sp} (F : FunD K x qual params body scope [] kws f fd) (S : FnScope N (ps ++ [pv]) scope) (hCX : StX.CXUp CX)
    (hb : ∀ (kV doc pm : Value) (an : Option Addr) (cdv ct : Value) (us rest : List Value), us.length = ps.length → bindArgs (PySem.W.fnOf x qual params body scope .none kV doc pm an cdv ct) ⟨us ++ rest, []⟩ = (newTuple rest >>= fun t => pure (ps.zip us ++ [(pv, t)])))
    (hbody : ∀ (cdv : Value) (A : Around) (outer : List Env) (s : Shared) (H : Hp) (vs : List V) (Q : VK) (E : XK), Room k (A.deeper (envOfC qual scope s.heap.objs.size f cdv)) → sp vs H Q E →
      ∃ t, PSs (cxOf CX P w K mg base N qual scope f cdv A outer s H E) body t ∧ t { nx := fun _ H' => Q .non H', rt := Q } (start N vs) H) :
    FnR P w K mg base CX (k + 1) f (fun vs H Q E => ∃ ws rest, vs = ws ++ rest ∧ ws.length = ps.length ∧ rest.length ≤ sizeLine ∧ ∀ p, H p = none → sp (ws ++ [V.ref p]) (upd H p (.tup rest)) Q E) := by
  obtain ⟨oc, od, dV, kV, doc, pm, an, cdv, ct, osl, rfl, lk, hcd, hD, _⟩ := F.ex
  obtain rfl : dV = .none := by
    rcases hD with ⟨_, e⟩ | ⟨e, _⟩
    · exact e
    · exact absurd rfl e
  exact StX.fn_star lk hcd S hCX (hb kV doc pm an cdv ct) fun A outer s H vs Q E hr hsp => hbody cdv A outer s H vs Q E hr hsp
end
end Cl
/-! ### the layer's rules with the written part K named (so that a comprehension's block may use them) -/
namespace Cl
open PySem PySem.Spec PyProof.Rows L2
section
variable {X : Cx} {e o value a : Expr} {ta tv tl : TE} {f : Str} {pos pos' : Pos} {tg : Expr}
theorem ixL (K : PySem.W.Frag) (hK : X.K = K := by rfl) : IxR X (rIxL K) := hK ▸ ix_list
theorem ixT (K : PySem.W.Frag) (hK : X.K = K := by rfl) : IxR X (rIxT K) := hK ▸ ix_tup
theorem slL (K : PySem.W.Frag) (hK : X.K = K := by rfl) : SlR X (rSlL K) := hK ▸ sl_list
def qLen (K : PySem.W.Frag) : List V → Hp → VK → Prop := fun xs H Q => ∃ p ys, xs = [.ref p] ∧ (SqL K H p ys ∨ SqT K H p ys) ∧ Q (.int ys.length) H
theorem len (K : PySem.W.Frag) (hK : X.K = K := by rfl) : CallR X (.builtin "len") (qLen K) := hK ▸ call_len_seq
def qList (K : PySem.W.Frag) : List V → Hp → VK → Prop := fun xs H Q => ∃ p ys, xs = [.ref p] ∧ (SqL K H p ys ∨ SqT K H p ys) ∧ ∀ l, H l = none → Q (.ref l) (upd H l (.lst ys))
theorem listOf (K : PySem.W.Frag) (hK : X.K = K := by rfl) : CallR X (.type "list") (qList K) := hK ▸ call_list_of
def qTuple (K : PySem.W.Frag) : List V → Hp → VK → Prop := fun xs H Q => ∃ p ys, xs = [.ref p] ∧ ((SqL K H p ys ∧ ∀ l, H l = none → Q (.ref l) (upd H l (.tup ys))) ∨ (SqT K H p ys ∧ Q (.ref p) H))
theorem tupleOf (K : PySem.W.Frag) (hK : X.K = K := by rfl) : CallR X (.type "tuple") (qTuple K) := hK ▸ call_tuple_of
def qInt : List V → Hp → VK → Prop := fun xs H Q => ∃ i, xs = [.int i] ∧ Q (.int i) H
theorem int1 : CallR X (.type "int") qInt := fun pins s σ H xs us Q I r h => call_int1 pins s σ H xs us Q I r (.inl h)
theorem isi (K : PySem.W.Frag) (hK : X.K = K := by rfl) : CallR X (.builtin "isinstance") (rIsi K) := hK ▸ call_isi
theorem sum (K : PySem.W.Frag) (hc : X.calm = true := by rfl) (hK : X.K = K := by rfl) : CallR X (.builtin "sum") (rSum K) := hK ▸ cr_sum hc
theorem max1 (K : PySem.W.Frag) (hc : X.calm = true := by rfl) (hK : X.K = K := by rfl) : CallR X (.builtin "max") (rMax K) := hK ▸ cr_max hc
theorem min1 (K : PySem.W.Frag) (hc : X.calm = true := by rfl) (hK : X.K = K := by rfl) : CallR X (.builtin "min") (rMin K) := hK ▸ cr_min hc
theorem all1 (K : PySem.W.Frag) (hc : X.calm = true := by rfl) (hK : X.K = K := by rfl) : CallR X (.builtin "all") (rAll K) := hK ▸ cr_all hc
theorem any1 (K : PySem.W.Frag) (hc : X.calm = true := by rfl) (hK : X.K = K := by rfl) : CallR X (.builtin "any") (rAny K) := hK ▸ cr_any hc
theorem sorted1 (K : PySem.W.Frag) (hK : X.K = K := by rfl) : CallR X (.builtin "sorted") (rSortedI K) := hK ▸ cr_sortedI
theorem inS (K : PySem.W.Frag) (hK : X.K = K := by rfl) : OpR X (compareOp .In) (rIn K false) := hK ▸ op_in_seq
theorem ninS (K : PySem.W.Frag) (hK : X.K = K := by rfl) : OpR X (compareOp .NotIn) (rIn K true) := hK ▸ op_notIn_seq
theorem eqD (K : PySem.W.Frag) (hu : X.A.units + 64 < cLine) (hK : X.K = K := by rfl) : OpR X (compareOp .Eq) (rEqD K) := hK ▸ op_eqD hu
theorem neD (K : PySem.W.Frag) (hu : X.A.units + 64 < cLine) (hK : X.K = K := by rfl) : OpR X (compareOp .NotEq) (rNeD K) := hK ▸ op_neD hu
theorem fld (K : PySem.W.Frag) (he : PE X e ta) (hb : attributeBase e f X.env (eval e X.env) = eval e X.env := by rfl) (hK : X.K = K := by rfl) : PE X (.Attribute e f pos) (tFld K ta f) := hK ▸ pe_fld he hb
theorem sfld (K : PySem.W.Frag) (ha : PE X o ta) (hv : PE X value tv) (hs : swapsWith value (some (.Attribute o f pos')) pos.line X.env = pure false := by rfl) (hK : X.K = K := by rfl) : PS X (.Assign [.Attribute o f pos'] value pos) (sFld K ta tv f) := hK ▸ ps_fld ha hv hs
theorem piL (K : PySem.W.Frag) {l : Expr} (hl : PE X l tl) (hK : X.K = K := by rfl) : PI X tg l (iList K tl) := hK ▸ pi_list hl
theorem piT (K : PySem.W.Frag) {l : Expr} (hl : PE X l tl) (hK : X.K = K := by rfl) : PI X tg l (iTup K tl) := hK ▸ pi_tup hl
def tTruth (K : PySem.W.Frag) (ta : TE) : TT := fun σ H Q => ta σ H fun x H' => ∃ k, TruV K x H' k ∧ Q k H'
theorem truth (K : PySem.W.Frag) (ha : PE X a ta) (he : ∀ whole, isTrue a X.env whole = (do let v ← whole; standAt a.pos; holding [v] (truthy v)) := by intro _; rfl) (hK : X.K = K := by rfl) : PT X a (tTruth K ta) := hK ▸ pt_truth ha he
theorem pgT (K : PySem.W.Frag) {es : List Expr} {k : Nat} {t : TGs} {n : Nat} (h : PGs X es t) (hc : X.calm = true := by rfl) (hn : (assignEach es X.env).length = n := by rfl) (hst : (assignEach es X.env).findIdx? (·.1) = none := by rfl) (hK : X.K = K := by rfl) : PG X (.Tuple es k pos) (gTup K n t) := hK ▸ pg_tup hc h hn hst
theorem piE (K : PySem.W.Frag) {ta : TA} {p tpos : Pos} {elts : List Expr} {kk : Nat} (hg : Gl X "enumerate") (hm : X.mg "enumerate" = none) (ha : PA X [e] ta) (hs : starEach [e] X.env = [(false, eval e X.env)] := by rfl) (hK : X.K = K := by rfl) :
    PI X (.Tuple elts kk tpos) (.Call (.Name "enumerate" p) [e] [] pos) (iEnum K ta) := hK ▸ pi_enum hg hm ha hs
theorem piZ (K : PySem.W.Frag) {e2 : Expr} {ta : TA} {p tpos : Pos} {elts : List Expr} {kk : Nat} (hg : Gl X "zip") (hm : X.mg "zip" = none) (ha : PA X [e, e2] ta)
    (hs : starEach [e, e2] X.env = (false, eval e X.env) :: starEach [e2] X.env := by rfl) (hpl : (backTo pos (starEach [e2] X.env)).any (·.1) = false := by rfl) (hK : X.K = K := by rfl) :
    PI X (.Tuple elts kk tpos) (.Call (.Name "zip" p) [e, e2] [] pos) (iZip K ta) := hK ▸ pi_zip hg hm ha hs hpl
theorem cval (K : PySem.W.Frag) (he : PE X e ta) (hb : attributeBase e f X.env (eval e X.env) = eval e X.env := by rfl) (hK : X.K = K := by rfl) : PE X (.Attribute e f pos) (ClX.tCVal K ta f) := hK ▸ ClX.pe_cval he hb
/-- nothing is let out -/
theorem none_ {P : Program} {w : World} (σ : L2.St) : PassesAt (L2.CX P w) X σ (fun _ _ _ => False) := fun _ _ _ _ _ _ ⟨_, _, _, _, _, _, _, _, _, _, _, _, z⟩ => z.elim
end
end Cl
/-! ### list comprehensions whose block lets an exception of a callee out -/
namespace CoR
open PySem PySem.Spec PyProof.Rows L2
/-- what the end of the block's run is to give; fr: the frame it runs in -/
def postX (M : Model) (A : Around) (E : Value → Shared → Prop) (use : Option (Value → Sem Unit)) (Q : Value → Shared → Prop) (acc : Value) (C : Addr) (fr : Option Addr) (r : Result) (s' : Shared) : Prop :=
  match r with
  | .ok f => compPost M A E use Q acc C (.ok f) s'
  | .error x => ∃ m, s'.heap.Ns C m ∧ ∀ h', Heap.SameBut C s'.heap h' → ∀ ce : Env, ce.locals = C → ce.frame = fr → wpAny M A (passOn "comprehension.variables-let-go" x ce : Sem Value) (fun _ _ => False) E { s' with heap := h' }
theorem comprehension_x {M : Model} {A : Around} {E : Value → Shared → Prop} {s : Shared} {env : Env} {e : Expr} {scope : Scope} {pos : Pos} {newAcc first : Sem Value} {g : Comprehension} {gs : List Comprehension} {cl : List (Str × Addr)} {use : Option (Value → Sem Unit)} {Q : Value → Shared → Prop}
    (hcl : clausesOf e = g :: gs) (hs : ∀ x, foldedSetIterable g.iter env x = pure x) (hclos : closureFor scope env = pure cl) (hkind : scope.kind = .function) (hnames : ∀ x ∈ scope.names, x.2 = .local → scope.names.lookup x.1 = some .local)
    (h : wpAny M A first (fun x s1 => wpAny M A (pyIter x) (fun it s2 => wpAny M A newAcc (fun acc s3 => wpAny M A (newFunctionEnv scope env.globals cl [] env.qual none .none (some env)) (fun ce s4 =>
        codeAny M A (.compStart e 0 it acc { ce with scope := relabel scope env }) (postX M A E use Q acc ce.locals ce.frame) s4) E s3) E s2) E s1) E s) :
    wpAny M A (comprehension e scope env pos newAcc false first use) Q E s := by
  unfold comprehension
  rw [hclos, hcl]
  refine wpAny_bind (wpAny_mono h (fun x s1 h1 => ?_) fun _ _ q => q)
  refine wpAny_bind (wpAny_standAt (wpAny_bind (wpAny_of_eq (hs x) ?_)))
  refine wpAny_bind (wpAny_holding (wpAny_mono h1 (fun it s2 h2 => ?_) fun _ _ q => q))
  refine wpAny_standIf (wpAny_bind (wpAny_mono h2 (fun acc s3 h3 => ?_) fun _ _ q => q))
  refine wpAny_bind (wpAny_pure (wpAny_bind (wpAny_mono h3 (fun ce s4 h4 => ?_) fun _ _ q => q)))
  dsimp only
  have loc : ∀ x ∈ (scope.names.filter fun x => (x.2 == .local || x.2 == .cell) && x.1 != (".0" : Str)), x.2 = .local → Env.kindOf { ce with scope := relabel scope env } x.1 = some .local :=
    fun x hx hl => lookup_relabel_local (hnames x (List.mem_filter.mp hx).1 hl)
  have v1 := fun x hx hl => loc x (List.mem_reverse.mp hx) hl
  refine wpAny_holding (wpAny_bind (wpAny_attempt (wpAny_holding (wpAny_run (codeAny_mono h4 fun r s' hr => ?_)))))
  cases r with
  | error x =>
    obtain ⟨m, hn, hr⟩ := hr
    exact wpAny_bind (wpAny_holding (wpAny_comp_letGo (cenv := { ce with scope := relabel scope env }) hkind _ s' m v1 hn fun h' m' _ hs' => wpAny_mono (hr h' hs' _ rfl rfl) (fun _ _ f => f.elim) fun _ _ y => y))
  | ok f =>
    cases use with
    | none =>
      obtain ⟨m, hn, hr⟩ := hr
      exact wpAny_bind (wpAny_holding (wpAny_comp_letGo (cenv := { ce with scope := relabel scope env }) hkind _ s' m v1 hn fun h' m' _ hs' => wpAny_pure (hr h' hs')))
    | some u =>
      refine wpAny_bind (wpAny_rule (wpAny_bind (wpAny_holding (wpAny_mono hr (fun _ s'' hr' => ?_) fun _ _ q => q))))
      obtain ⟨m, hn, hr'⟩ := hr'
      refine wpAny_bind (wpAny_comp_letGo (cenv := { ce with scope := relabel scope env }) hkind _ s'' m (fun x hx hl => ?_) hn fun h' m' _ hs' => wpAny_pure (hr' h' hs'))
      rcases List.mem_append.mp hx with h1 | h1
      · exact v1 x (List.mem_of_mem_drop h1) hl
      · exact v1 x (List.mem_of_mem_take h1) hl
/-! the way of an exception -/
theorem funFrames_but {base h h' : Heap} {C : Addr} (sb : Heap.SameBut C h h') : ∀ {l : List Env}, h.FunFrames base l → C ∉ frs l → h'.FunFrames base l
  | [], _, _ => trivial
  | env :: l, hl, hn => by
    obtain ⟨hk, ⟨L, o, hf, hb, ho, hd⟩, hr⟩ := hl
    have hm : ∀ b, b ∈ frs l → b ∈ frs (env :: l) := fun b hb => by
      obtain ⟨e, he, q⟩ := List.mem_filterMap.mp hb
      exact List.mem_filterMap.mpr ⟨e, List.mem_cons_of_mem _ he, q⟩
    have hL : L ≠ C := fun z => hn (z ▸ List.mem_filterMap.mpr ⟨env, List.mem_cons_self, hf⟩)
    exact ⟨hk, ⟨L, o, hf, hb, (sb.2 L hL).trans ho, hd⟩, funFrames_but sb hr fun z => hn (hm _ z)⟩
section
variable {X : Cx} {W : WX} {u : Value} {s' : Shared}
/-- an exception that this frame has noted -/
def HE (X : Cx) (W : WX) (u : Value) (s' : Shared) : Prop :=
  ∃ (a : Addr) (B : Heap) (sI : Shared) (σ : L2.St) (H : Hp) (cls : Value) (d : Option Addr), u = .ref a ∧ Inv X [] σ H sI ∧ (∀ b o, sI.heap.get? b = some o → b ∉ frs X.stack → B.get? b = some o) ∧ sI.heap.UpToSlots s'.heap ∧
    HandSPX.HeldZ B X.stack a (Zc cls d) X.env.locals s'.heap ∧ H a = none ∧ s'.os = sI.os ∧ AllBare s'.gens ∧ W cls d σ H
theorem noted (hs : X.stack = X.env :: X.outer) (hf : X.env.frame = some X.env.locals) {E1 : Value → Shared → Prop} (x : XE X W u s') :
    wpAny (model X.prog X.w) X.A (noteFrame u X.env) (fun _ s2 => HE X W u s2 ∧ s'.heap.UpToSlots s2.heap) E1 s' := by
  obtain ⟨a, B, sI, pins, σ, H, cls, d, rfl, I, nb, up, sky, na, os, ag, w⟩ := x
  have hfr : X.A.frames = some (X.env :: X.outer) := by rw [I.ok.frames, hs]
  have fin : ∀ h1, HandSPX.HeldZ B (X.env :: X.outer) a (Zc cls d) X.env.locals h1 → s'.heap.UpToSlots h1 → HE X W (.ref a) { s' with heap := h1 } ∧ s'.heap.UpToSlots h1 := fun h1 hh u1 =>
    ⟨⟨a, B, sI, σ, H, cls, d, rfl, Inv.unpinned (pins := []) (pl := pins) I, nb, up.trans u1, by rw [hs]; exact hh, na, os, ag, w⟩, u1⟩
  rw [hs] at sky
  rcases sky with ⟨hB, hn, hl, oe, vs, he, hz, hd, h1⟩ | fl | hh
  · exact HandSPX.look_newZ Zc.steady hfr hl hf he hB hn hd h1 hz fin
  · exact HandSPX.looks_onZ Zc.steady hfr hf fl fin
  · exact HandSPX.againZ hf hh.2.2.2 (fin s'.heap hh (Heap.UpToSlots.refl _))
/-- the block's variables are let go, the exception flies on -/
theorem goesOn {W' : WX} {C : Addr} {m : Str → Option Value} {h' : Heap} {ce : Env} (hW : ∀ cls d σ H, W' cls d σ H → W cls d σ H ∧ H C = none) (hx : HE X W' u s') (f : FpOk X [] (fun _ => none) C) (hnf : C ∉ frs X.stack) (hn : s'.heap.Ns C m) (sb : Heap.SameBut C s'.heap h') (hfr : ce.frame = some X.env.locals)
    (tk : Takes X W) : wpAny (model X.prog X.w) X.A (passOn "comprehension.variables-let-go" u ce : Sem Value) (fun _ _ => False) X.xe { s' with heap := h' } := by
  obtain ⟨a, B, sI, σ, H, cls, d, rfl, I, nb, up, hh, na, os, ag, w⟩ := hx
  obtain ⟨w, hHC⟩ := hW _ _ _ _ w
  obtain ⟨oC, es, ep, hoC, hdC, _⟩ := hn
  obtain ⟨B', b1, b2⟩ := restrict B fun b => decide (b ≠ C)
  obtain ⟨G, g1, g2⟩ := restrict sI.heap fun b => decide (b ≠ C)
  have inB : ∀ b o, B'.get? b = some o → b ≠ C ∧ B.get? b = some o := fun b o e => by
    by_cases hb : b = C
    · rw [b2 b (by simp [hb])] at e; cases e
    · rw [b1 b (by simp [hb])] at e; exact ⟨hb, e⟩
  have inG : ∀ b o, G.get? b = some o → b ≠ C ∧ sI.heap.get? b = some o := fun b o e => by
    by_cases hb : b = C
    · rw [g2 b (by simp [hb])] at e; cases e
    · rw [g1 b (by simp [hb])] at e; exact ⟨hb, e⟩
  obtain ⟨st, an, ff, oe, vs, T, oT, ts, he, hz, hd, h1, hnT, hTe, hT, hdT, h3⟩ := hh
  have aC : a ≠ C := fun z => by rw [z, hoC] at he; cases he; rw [hdC] at hd; cases hd
  have tC : T ≠ C := fun z => by rw [z, hoC] at hT; cases hT; rw [hdC] at hdT; cases hdT
  have nB : ∀ b, B.get? b = none → B'.get? b = none := fun b e => by
    cases q : B'.get? b with
    | none => rfl
    | some o => rw [(inB b o q).2] at e; cases e
  have hh' : HandSPX.HeldZ B' X.stack a (Zc cls d) X.env.locals h' := by
    refine ⟨fun b o e => ?_, nB a an, ?_, oe, vs, T, oT, ts, (sb.2 a aC).trans he, hz, hd, h1, nB T hnT, hTe, (sb.2 T tC).trans hT, hdT, h3⟩
    · obtain ⟨q1, q2⟩ := inB b o e
      exact (sb.2 b q1).trans (st b o q2)
    · exact funFrames_none (funFrames_but sb ff hnf) fun L hL => nB L (by
        obtain ⟨e, _⟩ := Heap.FunFrames.mem ff hL
        exact e)
  have IG : Inv X [] σ H { sI with heap := G } := I.turned (t' := sI.toks) (fun b o hb e => by rw [g1 b (by simp [hb])]; exact e) hHC f.2.1 f.2.2.2.1 f.2.2.2.2.1 f.2.2.2.2.2
  have upG : G.UpToSlots h' := fun b o e hno => by
    obtain ⟨q1, q2⟩ := inG b o e
    obtain ⟨sl, q⟩ := up b o q2 hno
    exact ⟨sl, (sb.2 b q1).trans q⟩
  unfold PySem.passOn
  refine wpAny_bind (wpAny_field ((sb.2 a aC).trans he) hd h1 ?_)
  rw [if_neg (show ¬ ((Value.ref T == Value.none) = true) from by simp)]
  refine wpAny_bind ?_
  rw [hfr]
  refine HandSPX.setFlight_onZ hh' fun h2 hh2 up2 => wpAny_throw (tk _ _ ?_)
  exact ⟨a, B', { sI with heap := G }, [], σ, H, cls, d, rfl, IG, fun b o e hb => by
    obtain ⟨q1, q2⟩ := inG b o e
    rw [b1 b (by simp [q1])]
    exact nb b o q2 hb, upG.trans up2, .inr (.inr hh2), na, os, ag, w⟩
/-- what a callee lets out in the block -/
def outB (Y : Cx) (E : XK) (u : Value) (s' : Shared) : Prop := ∃ (pins : List (Addr × Obj)) (σ : L2.St) (H : Hp) (s : Shared), Inv Y pins σ H s ∧ L2.CX Y.prog Y.w Y.stack H s E u s'
abbrev blkX (X : Cx) (E : XK) (s : Shared) (H : Hp) (scope : Scope) (ce : Env) (fp : List Addr) : Cx := (X.blk s H scope ce fp).wish (outB (X.blk s H scope ce fp) E)
/-- a call in the block lets out what the def's wish says -/
theorem inB {E : XK} {s : Shared} {H : Hp} {scope : Scope} {ce : Env} {fp : List Addr} (σ : L2.St) : PassesAt (L2.CX X.prog X.w) (blkX X E s H scope ce fp) σ E := fun pins H' s' _ _ I c => ⟨pins, σ, H', s', I.unwish, c⟩
theorem lc_coreX {E : XK} {pins : List (Addr × Obj)} {s : Shared} {σ : L2.St} {H : Hp} {Q : VK} {elt tg iter : Expr} {ifs : List Expr} {scope : Scope} {own : List (Str × Nat)} {pos pos' : Pos} {wi : TI} {g : TG} {tt : TT} {te : TE} {use : Option (Value → Sem Unit)} {Qf : Value → Shared → Prop}
    (hst : X.stack = X.env :: X.outer) (hfr : X.env.frame = some X.env.locals) (tk : Takes X (fun cls d _ H => E cls d H)) (hc : X.calm = true) (hN : X.N.Nodup) (I : Inv X pins σ H s) (hi : PI X tg iter wi) (ok : BlkOk X.N X.env.scope scope own)
    (hg : ∀ (s : Shared) (H : Hp) (C : Addr) (cl : List (Str × Addr)) (fp : List Addr), PG (blkX X E s H scope (compEnvC scope cl C X.env) fp) tg g) (ht : ∀ (s : Shared) (H : Hp) (C : Addr) (cl : List (Str × Addr)) (fp : List Addr), PTs (blkX X E s H scope (compEnvC scope cl C X.env) fp) ifs tt)
    (he : ∀ (s : Shared) (H : Hp) (C : Addr) (cl : List (Str × Addr)) (fp : List Addr), PE (blkX X E s H scope (compEnvC scope cl C X.env) fp) elt te) (hs : ∀ x, foldedSetIterable iter X.env x = pure x)
    (h : tLc wi g tt te (own.map (·.2)) σ H Q)
    (hRR : ∀ D C s' m H', Inv X pins σ H' s' → Q (.ref D) H' → s'.heap.Ns C m → FpOk X pins H' C → compPost (model X.prog X.w) X.A X.xe use Qf (.ref D) C (.ok .next) s') :
    wpAny (model X.prog X.w) X.A (comprehension (.ListComp elt [⟨tg, iter, ifs, 0⟩] scope pos) scope X.env pos' (newList []) false (eval iter X.env) use) Qf X.xe s := by
  have hfree : ∀ y ∈ scope.names, y.2 = .free → ∃ c, X.env.cells.lookup y.1 = some c := fun y hy e => (ok.free y hy e).elim (fun k => I.ok.has _ (.inl k)) fun k => I.ok.has _ (.inr k)
  refine comprehension_x (use := use) rfl hs (closure_ok hfree) ok.kind (fun y hy e => by rw [ok.uniq y hy, e]) (thn (hi.run pins s σ H _ I h) fun xv s1 hx => thn hx fun itv s2 h2 => ?_)
  obtain ⟨it, fp, tn, J, H2, e, I2, T, st2, f2, q⟩ := h2
  subst e
  refine wpAny_newObj_type (newEnv_comp ?_) (by show 0 ≤ sizeLine; decide)
  generalize hD : s2.heap.objs.size = D
  obtain ⟨Wn, ⟨m0, w0⟩, turn⟩ := q D (I2.hok.fresh (Nat.le_of_eq hD))
  generalize hs3 : ({ s2 with heap := s2.heap.push { cls := .type "list", data := .seq ([] : List Value).toArray } } : Shared) = s3
  have h3 : s3.heap = s2.heap.push { cls := .type "list", data := .seq ([] : List Value).toArray } := by rw [← hs3]
  have I3 : Inv X pins σ (upd H2 D (.lst [])) s3 := by
    rw [← hs3]
    exact I2.laid (t' := s2.toks) (fun b o e => Heap.get?_push_of_some _ e) (Nat.le_of_eq hD) ⟨Nat.zero_le _, [], 0, .nil, by rw [← hD]; exact Heap.get?_push_size _ rfl⟩
  have f3 : ∀ b ∈ fp, FpOk X pins (upd H2 D (.lst [])) b ∧ b < s3.heap.objs.size := fun b hb => by
    obtain ⟨o, e, _⟩ := T.obj _ _ st2 b hb
    have hlt := Heap.lt_size e
    refine ⟨⟨?_, (f2 b hb).2⟩, by rw [h3, Heap.size_push]; exact Nat.lt_succ_of_lt hlt⟩
    rw [upd_ne (by rw [← hD]; exact Nat.ne_of_lt hlt)]
    exact (f2 b hb).1
  have st3 : tn 0 s3.heap := T.keep _ _ _ st2 fun b _ o e => by rw [h3]; exact Heap.get?_push_of_some _ e
  have I4 := block_start I3 ok hN f3
  generalize hcl : cellsFrom (s3.heap.objs.size + 1) scope.names (cloFrom X.env.cells scope.names []) = cl at I4 ⊢
  have pg := hg s3 (upd H2 D (.lst [])) s3.heap.objs.size cl fp
  have pt := ht s3 (upd H2 D (.lst [])) s3.heap.objs.size cl fp
  have pe := he s3 (upd H2 D (.lst [])) s3.heap.objs.size cl fp
  show codeAny _ _ (.compStart (.ListComp elt [⟨tg, iter, ifs, 0⟩] scope pos) 0 (.ref it) (.ref D) (compEnvC scope cl s3.heap.objs.size X.env)) (postX (model X.prog X.w) X.A X.xe use Qf (.ref D) s3.heap.objs.size X.env.frame) { s3 with heap := pushCells (s3.heap.push { cls := .type "dict", data := .dict #[] }) scope.names }
  have nfp : ∀ b ∈ fp, (upd H2 D (.lst [])) b = none := fun b hb => (f3 b hb).1.1
  generalize hce : compEnvC scope cl s3.heap.objs.size X.env = ce at I4 pg pt pe ⊢
  have cL : ce.locals = s3.heap.objs.size := by subst hce; rfl
  have cF : ce.frame = X.env.frame := by subst hce; rfl
  generalize hH3 : upd H2 D (.lst []) = H3 at I3 I4 pg pt pe w0 nfp f3
  generalize hs4 : ({ s3 with heap := pushCells (s3.heap.push { cls := .type "dict", data := .dict #[] }) scope.names } : Shared) = s4 at I4 ⊢
  have st4 : tn 0 s4.heap := T.keep _ _ _ st3 fun b _ o e => by rw [← hs4]; exact pushCells_keeps _ _ _ _ (Heap.get?_push_of_some _ e)
  have stat : ∀ {σ' : L2.St} {H' : Hp} {s' : Shared}, Inv (X.blk s3 H3 scope ce fp) [] σ' H' s' → (∀ b ∈ fp, H' b = none) → ∀ b ∈ fp, FpOk (X.blk s3 H3 scope ce fp) [] H' b := fun {σ' H' s'} I' hn b hb =>
    ⟨hn b hb, (I'.ok.exf b hb).1, I'.ok.exfs b hb, .inl hb, fun x c e => (I'.ok.exf b hb).2 x c e, fun p hp => absurd (show p ∈ ([] : List (Addr × Obj)) ++ [] from hp) (by simp)⟩
  -- back in the def's context
  have back : ∀ {pB : List (Addr × Obj)} {σ' : L2.St} {H' : Hp} {s' : Shared}, Inv (X.blk s3 H3 scope ce fp) pB σ' H' s' → Inv X pins σ H' s' ∧ H' s3.heap.objs.size = none ∧ ∃ m, s'.heap.Ns s3.heap.objs.size m := fun {pB σ' H' s'} I' => by
    refine ⟨I3.call' (ch := fp) I'.os I'.base I'.hok I'.bare fun b hb => ⟨(f3 b hb).1.2.2.2.1, (f3 b hb).1.2.1, (f3 b hb).1.2.2.2.2.1, (f3 b hb).1.2.2.2.2.2⟩, ?_, ?_⟩
    · have z : H' ce.locals = none := I'.free
      rw [cL] at z; exact z
    · obtain ⟨m, hn, _⟩ := I'.loc
      have hn : s'.heap.Ns ce.locals m := hn
      rw [cL] at hn; exact ⟨m, hn⟩
  have fC : FpOk X [] (fun _ => none) s3.heap.objs.size := by
    obtain ⟨_, a2, a3, a4, a5, a6⟩ := I3.fpOk (H' := fun _ => none) (Nat.le_refl _) rfl
    exact ⟨rfl, a2, a3, a4, a5, fun p hp => a6 p (by rw [List.append_nil] at hp; exact List.mem_append_left _ hp)⟩
  have nfr : s3.heap.objs.size ∉ frs X.stack := fun z => by
    rcases List.mem_cons.mp (I3.stkSub _ z) with z | z
    · exact fC.2.1 z
    · exact fC.2.2.1 z
  -- what is let out
  have out : ∀ (u : Value) (s' : Shared), outB (X.blk s3 H3 scope ce fp) E u s' → notedBy (model X.prog X.w) X.A ce (fun e s' => postX (model X.prog X.w) X.A X.xe use Qf (.ref D) s3.heap.objs.size X.env.frame (.error e) s') u s' := by
    rintro u s' ⟨pB, σB, HB, sB, IB, c⟩
    obtain ⟨IX, hHC, m, hn⟩ := back IB
    obtain ⟨a, B, H', cls, d, rfl, fl, hok, ub, na, os, ag, hE⟩ := c
    have hn' := hn
    obtain ⟨oC, es, ep, hoC, hdC⟩ := hn'
    have hBC := ub.keep _ oC hoC hHC nfr
    have nsC : s'.heap.Ns s3.heap.objs.size m := ⟨oC, es, ep, fl.1 _ _ hBC, hdC⟩
    have x : XE X (fun cls d _ H => E cls d H ∧ H s3.heap.objs.size = none) (.ref a) s' :=
      XE.of_call (E := fun cls d H => E cls d H ∧ H s3.heap.objs.size = none) IX (fun _ _ _ h => h) ⟨a, B, H', cls, d, rfl, fl, hok, ub, na, os, ag, hE, ub.free _ _ hoC hHC⟩
    have e1 : noteFrame (.ref a) ce = noteFrame (.ref a) X.env := by subst hce; rfl
    show wpAny _ _ (noteFrame (.ref a) ce) _ _ s'
    rw [e1]
    refine wpAny_mono (noted hst hfr (E1 := fun _ _ => False) x) (fun _ s2 ⟨hx, up⟩ => ?_) fun _ _ z => z.elim
    have ns2 := up.ns nsC
    exact ⟨m, ns2, fun h' sb ce' _ hf' => goesOn (W := fun cls d _ H => E cls d H) (fun _ _ _ _ z => z) hx fC nfr ns2 sb (hf'.trans hfr) tk⟩
  have thnO : ∀ {α : Type} {t : Sem α} {Q1 Q2 : α → Shared → Prop} {s : Shared}, wpAny (model X.prog X.w) X.A t Q1 (outB (X.blk s3 H3 scope ce fp) E) s → (∀ a s, Q1 a s → Q2 a s) →
      wpAny (model X.prog X.w) X.A t Q2 (notedBy (model X.prog X.w) X.A ce (fun e s' => postX (model X.prog X.w) X.A X.xe use Qf (.ref D) s3.heap.objs.size X.env.frame (.error e) s')) s := fun h1 h2 => wpAny_mono h1 h2 out
  have loop : codeAny (model X.prog X.w) X.A (.compLoop (.ListComp elt [⟨tg, iter, ifs, 0⟩] scope pos) 0 (.ref it) (.ref D) ce) (postX (model X.prog X.w) X.A X.xe use Qf (.ref D) s3.heap.objs.size X.env.frame) s4 := by
    refine compLoop_any (fun n s' => ∃ i H', Inv (X.blk s3 H3 scope ce fp) [] (wipe σ (own.map (·.2))) H' s' ∧ tn i s'.heap ∧ (∀ b ∈ fp, H' b = none) ∧ Wn i n H') ?_ m0 ⟨0, H3, I4, st4, nfp, w0⟩
    rintro n s5 ⟨i, H5, I5, st5, n5, w5⟩
    rcases turn i n H5 w5 with ⟨stop, qq⟩ | ⟨go, Nx, hNx, step⟩
    · refine thnF (T.done (X.blk s3 H3 scope ce fp) rfl rfl rfl hc i [] s5 _ H5 (fun _ _ => False) I5 (stat I5 n5) st5 stop) fun r s6 ⟨hr, I6⟩ => ?_
      subst hr
      obtain ⟨I7, nC, m, hn⟩ := back I6
      exact hRR D s3.heap.objs.size s6 m H5 I7 qq hn (I3.fpOk (Nat.le_refl _) nC)
    · refine thnF (T.item (X.blk s3 H3 scope ce fp) rfl rfl rfl hc i [] s5 _ H5 (fun _ _ => False) I5 (stat I5 n5) st5 go) fun r s6 ⟨u, hr, h6⟩ => ?_
      subst hr
      refine thnF h6 fun _ s7 ⟨x, H7, I7, r7, y7, st7, n7⟩ => ?_
      have I7' := I7.pinned (stat I7 n7) (T.obj _ _ st7)
      refine thnO (pg.run _ s7 _ H7 x u _ (I7'.wish _) r7 (step x H7 y7)) fun _ s8 ⟨σ8, H8, I8, hw8, q8⟩ => ?_
      refine thnO (pt.run _ s8 σ8 H8 _ I8 q8) fun b s9 ⟨H9, I9, q9⟩ => ?_
      have fin : ∀ {s' : Shared} {H' : Hp}, Inv (blkX X E s3 H3 scope ce fp) ([] ++ pinsAt fp s7.heap) σ8 H' s' → Nx H' → ∃ m, m < n ∧ ∃ i H', Inv (X.blk s3 H3 scope ce fp) [] (wipe σ (own.map (·.2))) H' s' ∧ tn i s'.heap ∧ (∀ b ∈ fp, H' b = none) ∧ Wn i m H' := fun {s' H'} Iw nx => by
        have I' : Inv (X.blk s3 H3 scope ce fp) ([] ++ pinsAt fp s7.heap) σ8 H' s' := Iw.unwish
        obtain ⟨m', hm, w'⟩ := hNx H' nx
        have pin' : ∀ b ∈ fp, ∀ o, s7.heap.get? b = some o → s'.heap.get? b = some o ∧ H' b = none := fun b hb o e =>
          let z := I'.pin (b, o) (List.mem_append_right _ (List.mem_append_right _ (mem_pinsAt hb e)))
          ⟨z.1, z.2.1⟩
        have hl : (wipe σ (own.map (·.2))).length = σ8.length := by rw [← hw8, wipe_length]
        refine ⟨m', hm, i + 1, H', (I'.unpinned (pins := [])).weak hl (fun j v e => ?_), T.keep _ _ _ st7 fun b hb o e => (pin' b hb o e).1, fun b hb => ?_, w'⟩
        · rw [← hw8] at e
          exact (wipe_some e).1
        · obtain ⟨o, e, _⟩ := T.obj _ _ st7 b hb
          exact (pin' b hb o e).2
      cases b with
      | false =>
        simp only [Bool.false_eq_true, if_false] at q9 ⊢
        exact fin I9 q9
      | true =>
        simp only [if_true] at q9 ⊢
        refine thnO (pe.run _ s9 σ8 H9 _ I9 q9) fun z s10 ⟨yv, H10, I10, r10, acc, hD10, hz10, nx⟩ => ?_
        exact app_ok (X := blkX X E s3 H3 scope ce fp) I10 hD10 hz10 r10 fun s11 I11 => fin I11 nx
  exact codeAny_compStart_list loop (T.self X.A 0 _ _ _ st4 loop)
/-- as a value -/
theorem pe_lc {E : XK} {elt tg iter : Expr} {ifs : List Expr} {scope : Scope} {own : List (Str × Nat)} {pos : Pos} {wi : TI} {g : TG} {tt : TT} {te : TE} (hst : X.stack = X.env :: X.outer) (hfr : X.env.frame = some X.env.locals) (tk : Takes X (fun cls d _ H => E cls d H)) (hc : X.calm = true) (hN : X.N.Nodup) (hi : PI X tg iter wi) (ok : BlkOk X.N X.env.scope scope own)
    (hg : ∀ (s : Shared) (H : Hp) (C : Addr) (cl : List (Str × Addr)) (fp : List Addr), PG (blkX X E s H scope (compEnvC scope cl C X.env) fp) tg g) (ht : ∀ (s : Shared) (H : Hp) (C : Addr) (cl : List (Str × Addr)) (fp : List Addr), PTs (blkX X E s H scope (compEnvC scope cl C X.env) fp) ifs tt)
    (he : ∀ (s : Shared) (H : Hp) (C : Addr) (cl : List (Str × Addr)) (fp : List Addr), PE (blkX X E s H scope (compEnvC scope cl C X.env) fp) elt te) (hs : ∀ x, foldedSetIterable iter X.env x = pure x := by intro _; rfl) :
    PE X (.ListComp elt [⟨tg, iter, ifs, 0⟩] scope pos) (tLc wi g tt te (own.map (·.2))) := by
  refine ⟨fun pins s σ H Q I h => ?_⟩
  rw [eval_ListComp]
  refine lc_coreX hst hfr tk hc hN I hi ok hg ht he hs h fun D C s' m H' I' q hn f => ⟨m, hn, fun h'' sb => ?_⟩
  obtain ⟨f0, f1, f2, f3, f4, f5⟩ := f
  exact ⟨.ref D, H', I'.turned (t' := s'.toks) (fun b o hb e => (sb.2 b hb).trans e) f0 f1 f3 f4 f5, rfl, q⟩
end
end CoR
/-! ### enumerate(tuple); a walk over a list or a tuple -/
namespace EnB
open PySem PySem.Spec PyProof.Rows L2
section
theorem meets_new1 {v : Value} {o : Obj} {P : Heap → Prop} (B : Begins v o P) :
    Meets (Builtin.«enumerate.__new__» ⟨[.type "enumerate", v], []⟩) (fun _ R s => P s.heap ∧
      R (.ok (.ret (.ref (s.heap.push o).objs.size))) { s with heap := (s.heap.push o).push { cls := .type "enumerate", data := .fields #[.none, .bool false, .ref s.heap.objs.size, rawInt 0, .none, .none] } }) :=
  .of_wp fun prog w A R s h => by
    obtain ⟨hp, g, d, tk, os⟩ := s
    obtain ⟨h1, h⟩ := h
    have hsub := sub_enumerate
    have begins : ∀ {A' : Around} {E : Value → Shared → Prop} {Q : Value → Shared → Prop}, Q (.ref hp.objs.size) ⟨hp.push o, g, d, tk, os⟩ → wpAny (model prog w) A' (pyIter v) Q E ⟨hp, g, d, tk, os⟩ := fun q => B.iter prog w _ _ ⟨hp, g, d, tk, os⟩ _ h1 q
    wp_walk using begins
    refine wpAny_stack_any fun st => wpAny_pure ?_
    split
    · rename_i c _ _ _ _ _
      cases (c == Value.type "enumerate") <;> (wp_walk using begins; exact ⟨_, rfl, h⟩)
    · wp_walk using begins
      exact ⟨_, rfl, h⟩
theorem call_new1 {prog : Program} {w : World} {A : Around} {E : Value → Shared → Prop} {s : Shared} {v : Value} {o : Obj} {P : Heap → Prop} {Q : Value → Shared → Prop} (B : Begins v o P) (h1 : P s.heap)
    (h : ∀ h', IsEnum h' (s.heap.objs.size + 1) s.heap.objs.size 0 .none → h'.get? s.heap.objs.size = some o → (∀ b o, s.heap.get? b = some o → h'.get? b = some o) → Q (.ref (s.heap.objs.size + 1)) { s with heap := h' }) :
    wpAny (model prog w) A (call (.type "enumerate") [v]) Q E s := by
  refine callType_new F.called_enumerate (by decide) (F.typeCall_enumerate_1 _) (F.newCall_enumerate_1 _) (fun obj => F.args_object_init_2 obj _) F.entry_enumerate_new (meets_new1 B) ⟨h1, ?_⟩
  have sz : (s.heap.push o).objs.size = s.heap.objs.size + 1 := Heap.size_push ..
  show _ ∧ _
  rw [sz]
  have e := Heap.get?_push_size (s.heap.push o) (o := { cls := .type "enumerate", data := .fields #[.none, .bool false, .ref s.heap.objs.size, rawInt 0, .none, .none] }) rfl
  rw [sz] at e
  exact ⟨⟨_, e, rfl⟩, h _ e (Heap.get?_push_of_some _ (Heap.get?_push_size _ B.free)) fun b o x => Heap.get?_push_of_some _ (Heap.get?_push_of_some _ x)⟩
end
/-- the tuple at a, each item in a new pair -/
def IteT (K : PySem.W.Frag) (a : Addr) : It :=
  ⟨fun i H => ∃ (xs : List V) (x : V), SqT K H a xs ∧ xs[i]? = some x, fun i H v H' => ∃ T x, v = .ref T ∧ H T = none ∧ H' = upd H T (.tup [.int (i : Nat), x]) ∧ ∀ xs, SqT K H a xs → xs[i]? = some x, fun i H => ∃ xs : List V, SqT K H a xs ∧ xs.length ≤ i⟩
theorem turn_et {P : Program} {w : World} {K : PySem.W.Frag} {elts : List Expr} {kk : Nat} {tpos : Pos} (a e it : Addr) (hai : a ≠ it) :
    Turn P w K (.Tuple elts kk tpos) (IteT K a) [e, it] e (fun i h => (∃ old, IsEnum h e it ((i : Nat) : Int) old) ∧ h.IsTupleIter it a i ∧ e ≠ it ∧ e ≠ a) where
  mem := by simp
  obj := fun i h st b hb => by
    obtain ⟨⟨old, he⟩, ⟨o, ho, hc, hd⟩, _⟩ := st
    rcases (show b = e ∨ b = it by simpa using hb) with z | z
    · rw [z]; exact ⟨_, he, fun v q => nomatch q⟩
    · rw [z]; exact ⟨o, ho, fun v q => by rw [hd] at q; cases q⟩
  keep := fun i h h' st k => let ⟨⟨old, he⟩, hi, hne⟩ := st; ⟨⟨old, k e (by simp) _ he⟩, hi.at fun o q => k it (by simp) o q, hne⟩
  item := by
    intro X hP hw hK hc i pins s σ H E I hf st hg
    subst hP hw hK
    obtain ⟨⟨old, he⟩, hit, hne, hea⟩ := st
    obtain ⟨xs, x, hq, hx⟩ := hg
    obtain ⟨its, rv, p, hz⟩ := I.tuple hq
    obtain ⟨u, hu, ru⟩ := rv.get hx
    have hel : e < s.heap.objs.size := Heap.lt_size he
    have hil : it < s.heap.objs.size := by obtain ⟨_, q, _⟩ := hit; exact Heap.lt_size q
    have hlt : i < its.toArray.size := by
      rw [List.size_toArray]
      exact (List.getElem?_eq_some_iff.mp hu).1
    refine wpAny_pyNext_enum_itemC (Draws.tuple (A := X.A.in1) (I.ok.hd hc) it a hai its.toArray) he ⟨hit, p⟩ hlt hne (by simp [hne, hea]) fun y h' tk hy ho hs' hT hsz hk => ?_
    obtain rfl : y = u := by
      have hy' : its.toArray[i]? = some y := hy
      rw [List.getElem?_toArray, hu] at hy'
      exact (Option.some.inj hy').symm
    refine ⟨_, rfl, wpAny_letOwnedTupleGo_enum (s := { s with heap := h', toks := tk + 1 }) ho fun h'' he' sb => ?_⟩
    have hT2 : h''.get? s.heap.objs.size = some { cls := .type "tuple", data := .seq #[.int i tk, y] } := (sb.2 _ (Nat.ne_of_gt hel)).trans hT
    have new : ObjOk X.prog X.w (upd H s.heap.objs.size (.tup [.int (i : Nat), x])) h'' s.heap.objs.size (.tup [.int (i : Nat), x]) :=
      ⟨by show 2 ≤ sizeLine; decide, [.int i tk, y], .cons ⟨_, rfl⟩ (.cons ru .nil), ⟨_, hT2, rfl, _, rfl⟩⟩
    have I1 : Inv X pins σ (upd H s.heap.objs.size (.tup [.int (i : Nat), x])) { s with heap := h'', toks := tk + 1 } :=
      I.turnedNew (ch := [e, it]) (fun b ob hb q => (sb.2 b (fun z => hb (by simp [z]))).trans (hk b ob (fun z => hb (by simp [z])) (fun z => hb (by simp [z])) q)) hf (Nat.le_refl _) new
    refine ⟨.ref s.heap.objs.size, _, I1, rfl, ⟨_, x, rfl, I.hok.fresh (Nat.le_refl _), rfl, fun ys hy => by rw [I.tuple_inj hy hq]; exact hx⟩, ⟨⟨y, ?_⟩, hs'.1.at fun o q => (sb.2 it (Ne.symm hne)).trans q, hne, hea⟩, fun b hb => ?_⟩
    · rw [show ((i + 1 : Nat) : Int) = (i : Int) + 1 by omega]
      exact he'
    · have hb' : b < s.heap.objs.size := by
        rcases (show b = e ∨ b = it by simpa using hb) with z | z
        · rw [z]; exact hel
        · rw [z]; exact hil
      rw [upd_ne (Nat.ne_of_lt hb')]
      exact (hf b hb).1
  done := by
    intro X hP hw hK hc i pins s σ H E I hf st hg
    subst hP hw hK
    obtain ⟨⟨old, he⟩, hit, hne, hea⟩ := st
    obtain ⟨xs, hq, hx⟩ := hg
    obtain ⟨its, rv, p, hz⟩ := I.tuple hq
    obtain ⟨f0, f1, f2, f3, f4, f5⟩ := hf it (by simp)
    have hl := rv.length
    -- the walk's number is the tuple's length or beyond: only the end itself is drawn
    refine wpAny_pyNext_enum_endD (n := i) (P := fun _ _ => True) (fp := [it, a]) (St := fun j h => j = i ∧ h.IsTupleIter it a i ∧ h.IsTuple a its.toArray) ⟨fun _ _ st => let ⟨o, ho, _⟩ := st.2.1; ⟨o, ho⟩, fun _ _ _ st hk => ⟨st.1, st.2.1.at fun o e => hk it (by simp) o e, st.2.2.at fun o e => hk a (by simp) o e⟩,
      fun j s' Q' E' hj st _ => absurd st.1 (Nat.ne_of_lt hj), fun s' Q' E' st hE => PySem.wpAny_nextOf_tuple_end (A := X.A.in1) (I.ok.hd hc) st.2.1 st.2.2 (by simp; omega) hE⟩ he ⟨rfl, hit, p⟩ fun h' eb => ⟨rfl, I.turned (t' := s.toks) (fun b o hb q => eb b o hb q) f0 f1 f3 f4 f5⟩
  self := fun A i s Q E st h => let ⟨⟨_, he⟩, _⟩ := st; wpAny_pyIter_enum he h
def iEnumT (K : PySem.W.Frag) (ta : TA) : TI := fun σ H R => ta σ H fun vs H1 => ∃ a xs, vs = [.ref a] ∧ SqT K H1 a xs ∧ R (IteT K a) H1
theorem pi_et (K : PySem.W.Frag) {X : Cx} {e : Expr} {ta : TA} {p pos tpos : Pos} {elts : List Expr} {kk : Nat} (hg : Gl X "enumerate") (hm : X.mg "enumerate" = none) (ha : PA X [e] ta) (hs : starEach [e] X.env = [(false, eval e X.env)] := by rfl) (hK : X.K = K := by rfl) :
    PI X (.Tuple elts kk tpos) (.Call (.Name "enumerate" p) [e] [] pos) (iEnumT K ta) := by
  subst hK
  refine ⟨fun pins s σ H R I h => ?_⟩
  refine Call_ (ld_blt I hg hm boot_enumerate (PyProof.Rows.callWith_type1 (thn (ha.run pos pins s σ H _ I h) fun us s1 ⟨vs, H1, I1, r1, q1⟩ => ?_) hs rfl))
  obtain ⟨a, xs, ex, hq, q⟩ := q1
  subst ex
  cases r1 with
  | cons r rr =>
    cases rr
    cases r
    obtain ⟨its, rv, p', hz⟩ := I1.tuple hq
    have hal : a < s1.heap.objs.size := by obtain ⟨_, q, _⟩ := (show s1.heap.IsTuple a its.toArray from p'); exact Heap.lt_size q
    refine call_new1 (begins_tuple a its.toArray) (show s1.heap.IsTuple a its.toArray from p') fun h' he hit hk => wpAny_pyIter_enum he ?_
    have I2 : Inv X pins σ H1 { s1 with heap := h' } := I1.kept (t' := s1.toks) hk
    refine ⟨s1.heap.objs.size + 1, [s1.heap.objs.size + 1, s1.heap.objs.size], _, _, H1, rfl, I2, turn_et a (s1.heap.objs.size + 1) s1.heap.objs.size (Nat.ne_of_lt hal), ⟨⟨.none, he⟩, ⟨_, hit, rfl, rfl⟩, Nat.succ_ne_self _, fun z => ?_⟩, fun b hb => ?_, q⟩
    · rw [← z] at hal
      exact absurd hal (Nat.not_lt.mpr (Nat.le_succ _))
    have hle : s1.heap.objs.size ≤ b := by
      rcases (show b = s1.heap.objs.size + 1 ∨ b = s1.heap.objs.size by simpa using hb) with z | z
      · rw [z]; exact Nat.le_succ _
      · rw [z]; exact Nat.le_refl _
    exact I1.fpOk hle (I1.hok.fresh hle)
/-- one walk of two -/
theorem pi_or {X : Cx} {tg it : Expr} {w1 w2 : TI} (h1 : PI X tg it w1) (h2 : PI X tg it w2) : PI X tg it (fun σ H R => w1 σ H R ∨ w2 σ H R) :=
  ⟨fun pins s σ H R I h => h.elim (h1.run pins s σ H R I) (h2.run pins s σ H R I)⟩
theorem walk_et {K : PySem.W.Frag} {a : Addr} {xs : List V} : Walk (IteT K a) xs.length (fun H => SqT K H a xs) (YPair (fun i => some (.int (i : Nat))) (fun i => xs[i]?)) := by
  refine ⟨fun i _ hi q => ⟨xs, xs[i], q, by simp [hi]⟩, fun _ q => ⟨xs, q, Nat.le_refl _⟩, fun i H v H' _ q y => ?_⟩
  obtain ⟨T, x, h1, h2, h3, h4⟩ := y
  exact ⟨T, .int (i : Nat), x, h1, h2, h3, rfl, h4 xs q⟩
end EnB
/-! ### operators that a class of the text has of its own -/
namespace OpM
open PySem PySem.Spec PyProof.Rows L2
/-- the class at C has the def at f under the name -/
structure Own (K : PySem.W.Frag) (C : Addr) (m : Str) (f : Addr) : Prop where
  at_ : PySem.W.findIn K (.ref C) m = some (some (.ref f))
  fn : PySem.W.isFn K (.ref f) = true
theorem back {z : V} {v : Value} {Q : Value → Shared → Prop} {s : Shared} (r : RelV z v) (h : Q v s) : PySem.W.CmpBack Q v s := by
  cases z with
  | non => cases (show v = Value.none from r); exact h
  | bl b => cases (show v = Value.bool b from r); exact h
  | int i => obtain ⟨t, rfl⟩ := (show ∃ t, v = Value.int i t from r); exact h
  | str x => obtain ⟨t, rfl⟩ := (show ∃ t, v = Value.str x t from r); exact h
  | byt b => obtain ⟨t, rfl⟩ := (show ∃ t, v = Value.bytes b t from r); exact h
  | flt b => obtain ⟨t, rfl⟩ := (show ∃ t, v = Value.float b t from r); exact h
  | ref a => cases (show v = Value.ref a from r); exact h
  | ty n => cases (show v = Value.type n from r); exact h
section
variable {X : Cx} {CX : CXT} {k : Nat} {f C : Addr} {sp : Sp} {E : L2.St → XK} {pos : Pos} {a b : Expr} {ta tb : TE}
/-- a call of the def from below the running body -/
theorem runB {pins : List (Addr × Obj)} {σ : L2.St} {H : Hp} {s : Shared} {Q : VK} {us : List Value} {vs : List V} {A : Around} (F : FnR X.prog X.w X.K X.mg X.base CX k f sp) (hr : Room k A) (hfr : A.frames = X.A.frames) (hx : PassesAt CX X σ (E σ)) (I : Inv X pins σ H s) (r : Vals vs us) (h : sp vs H Q (E σ)) :
    wpAny (model X.prog X.w) A (call (.ref f) us) (EP X pins σ Q) X.xe s := by
  have e := I.env0
  have e0 : Env0 X.prog X.w X.K X.mg X.base A X.stack s H := ⟨by rw [hfr]; exact e.frames, e.mod, e.bs, e.bsz, e.funs, e.frf, e.hok, e.bare⟩
  refine wpAny_call (codeAny_mono (F A X.stack s H us vs Q (E σ) hr e0 r h) fun r s' hq => ?_)
  cases r with
  | error er => exact hx pins H s er s' I hq
  | ok fl => cases fl <;> first | exact I.after hq | exact False.elim hq
/-- the instance behind a value -/
theorem inst {pins : List (Addr × Obj)} {σ : L2.St} {H : Hp} {s : Shared} {x dx : Addr} {fs : List (Str × V)} (I : Inv X pins σ H s) (hx : H x = some (.ins C dx fs)) : ∃ ox od, PySem.W.InstAt s.heap x ox C od := by
  obtain ⟨mA, J, _⟩ := ins_get I.hok hx
  obtain ⟨od, J, _⟩ := J.look
  exact ⟨_, _, J⟩
/-- a == b, a < b by the left one's own def -/
def tCmp (K : PySem.W.Frag) (C : Addr) (sp : Sp) (E : L2.St → XK) (ta tb : TE) : TE := fun σ H Q => ta σ H fun x H1 => tb σ H1 fun y H2 => ∃ p dx fs t, x = .ref p ∧ H2 p = some (.ins C dx fs) ∧ TyX K H2 y t ∧ PySem.W.notFirst K C t = true ∧ sp [x, y] H2 Q (E σ)
theorem cmp_run {pins : List (Addr × Obj)} {σ : L2.St} {H : Hp} {s : Shared} {Q : VK} {op : CmpOp} {x y : V} {u v : Value} (O : Own X.K C (cmpInfo op).2.1 f) (F : FnR X.prog X.w X.K X.mg X.base CX k f sp) (hr : Room k X.A) (hx : PassesAt CX X σ (E σ)) (I : Inv X pins σ H s) (rx : RelV x u) (ry : RelV y v)
    (h : ∃ p dx fs t, x = .ref p ∧ H p = some (.ins C dx fs) ∧ TyX X.K H y t ∧ PySem.W.notFirst X.K C t = true ∧ sp [x, y] H Q (E σ)) : wpAny (model X.prog X.w) X.A (richCompare op u v) (EP X pins σ Q) X.xe s := by
  obtain ⟨p, dx, fs, t, rfl, hp, ty, hn, q⟩ := h
  obtain rfl : u = Value.ref p := rx
  obtain ⟨ox, od, J⟩ := inst I hp
  obtain ⟨m, hF⟩ := I.fr
  obtain ⟨P, kit, hP, _⟩ := kit_of I ry ty
  refine PySem.W.cmp_K (Nat.lt_of_le_of_lt (Nat.le_add_right _ _) hr.units) hF I.ok.mod.kin J (kit.ty _ _ I.kIn hP) hn O.at_ O.fn ?_
  refine wpAny_mono (runB F hr rfl hx I (us := [.ref p, v]) (vs := [.ref p, y]) (.cons rfl (.cons ry .nil)) q) (fun w s' z => ?_) fun _ _ z => z
  obtain ⟨z, H', I', rz, q'⟩ := z
  exact back rz ⟨z, H', I', rz, q'⟩
theorem op_cmp {op : CmpOp} (O : Own X.K C (cmpInfo op).2.1 f) (F : FnR X.prog X.w X.K X.mg X.base CX k f sp) (hr : Room k X.A) (hx : ∀ σ, PassesAt CX X σ (fun _ _ _ => False)) :
    OpR X (richCompare op) (fun x y H Q => ∃ p dx fs t, x = .ref p ∧ H p = some (.ins C dx fs) ∧ TyX X.K H y t ∧ PySem.W.notFirst X.K C t = true ∧ sp [x, y] H Q (fun _ _ _ => False)) :=
  fun pins s σ H x y u v Q I rx ry h => cmp_run (E := fun _ _ _ _ => False) O F hr (hx σ) I rx ry h
/-- ~a -/
theorem un_own {op : UnaryOp} {m : Str} (O : Own X.K C m f) (F : FnR X.prog X.w X.K X.mg X.base CX k f sp) (hr : Room k X.A) (hx : ∀ σ, PassesAt CX X σ (fun _ _ _ => False))
    (ho : ∀ v : Value, unaryOp op v = holding [v] (do
      match ← callSpecial? v m with
      | some r => pure r
      | none => raiseError "TypeError" s!"bad operand type for unary {(match op with | .Invert => "~" | .UAdd => "+" | .USub => "-" | .Not => "not")}: '{← typeNameOf v}'") := by intro _; rfl) :
    UnR X (unaryOp op) (fun x H Q => ∃ p dx fs, x = .ref p ∧ H p = some (.ins C dx fs) ∧ sp [x] H Q (fun _ _ _ => False)) := by
  intro pins s σ H x u Q I rx h
  obtain ⟨p, dx, fs, rfl, hp, q⟩ := h
  obtain rfl : u = Value.ref p := rx
  obtain ⟨ox, od, J⟩ := inst I hp
  rw [ho]
  refine wpAny_holding (wpAny_bind (PySem.W.special_fn I.kIn J O.at_ (beq_iff_eq.mp O.fn) (wpAny_mono (runB (E := fun _ _ _ _ => False) F hr rfl (hx σ) I (us := [.ref p]) (vs := [.ref p]) (.cons rfl .nil) q) (fun w s' z => ?_) fun _ _ z => z)))
  exact wpAny_pure z
/-- a + b, both of the one class, by its own def -/
def tBin (C : Addr) (sp : Sp) (E : L2.St → XK) (ta tb : TE) : TE := fun σ H Q => ta σ H fun x H1 => tb σ H1 fun y H2 => ∃ p dx fs q dy gs, x = .ref p ∧ H2 p = some (.ins C dx fs) ∧ y = .ref q ∧ H2 q = some (.ins C dy gs) ∧ sp [x, y] H2 Q (E σ)
theorem pe_bin {op : Operator} (O : Own X.K C (PySem.dunder op.info.2) f) (hc : PySem.W.selfFirst X.K C = true) (F : FnR X.prog X.w X.K X.mg X.base CX k f sp) (hr : Room k X.A) (hx : ∀ σ, PassesAt CX X σ (E σ)) (ha : PE X a ta) (hb : PE X b tb) :
    PE X (.BinOp a op b pos) (tBin C sp E ta tb) := by
  refine ⟨fun pins s σ H Q I h => wpAny_BinOp (thn (ha.run pins s σ H _ I h) fun u s1 ⟨x, H1, I1, rx, q1⟩ => thn (hb.run pins s1 σ H1 _ I1 q1) fun v s2 ⟨y, H2, I2, ry, q2⟩ => ?_)⟩
  obtain ⟨p, dx, fs, q, dy, gs, rfl, hp, rfl, hq, q2⟩ := q2
  obtain rfl : u = Value.ref p := rx
  obtain rfl : v = Value.ref q := ry
  obtain ⟨ox, od, J⟩ := inst I2 hp
  obtain ⟨oy, oe, J'⟩ := inst I2 hq
  obtain ⟨m, hF⟩ := I2.fr
  refine PySem.W.binop_K hF I2.ok.mod.kin J J'.type hc O.at_ O.fn ?_
  refine wpAny_mono (runB F hr rfl (hx σ) I2 (us := [.ref p, .ref q]) (vs := [.ref p, .ref q]) (.cons rfl (.cons rfl .nil)) q2) (fun w s' z => ?_) fun _ _ z => z
  obtain ⟨z, H', I', rz, q'⟩ := z
  exact back rz ⟨z, H', I', rz, q'⟩
/-- str(a), repr(a) by the class's own def -/
def rTxt (C : Addr) (sp : Sp) : List V → Hp → VK → Prop := fun xs H Q => ∃ p dx fs, xs = [.ref p] ∧ H p = some (.ins C dx fs) ∧ sp [.ref p] H (fun v H' => (∃ t, v = .str t) ∧ Q v H') (fun _ _ _ => False)
theorem strBack {pins : List (Addr × Obj)} {σ : L2.St} {Q : VK} {v : Value} {s' : Shared} (h : EP X pins σ (fun v H' => (∃ t, v = .str t) ∧ Q v H') v s') : PySem.W.StrBack (EP X pins σ Q) v s' := by
  obtain ⟨z, H', I', rz, ⟨t, rfl⟩, q⟩ := h
  obtain ⟨u, rfl⟩ := (show ∃ u, v = Value.str t u from rz)
  exact ⟨.str t, H', I', ⟨u, rfl⟩, q⟩
theorem call_str_own (O : Own X.K C "__str__" f) (F : FnR X.prog X.w X.K X.mg X.base CX k f sp) (hr : Room (k + 2) X.A) (hx : ∀ σ, PassesAt CX X σ (fun _ _ _ => False)) : CallR X (.type "str") (rTxt C sp) := by
  intro pins s σ H xs us Q I r h
  obtain ⟨p, dx, fs, rfl, hp, q⟩ := h
  obtain ⟨u, rfl, ru⟩ := vals1 r
  obtain rfl : u = Value.ref p := ru
  obtain ⟨ox, od, J⟩ := inst I hp
  refine PySem.W.kso_call (Nat.lt_of_le_of_lt (Nat.le_add_right _ _) hr.in1.in1.units) I.kIn J O.at_ O.fn ?_
  exact wpAny_mono (runB (E := fun _ _ _ _ => False) F hr.in1.in1 rfl (hx σ) I (us := [.ref p]) (vs := [.ref p]) (.cons rfl .nil) q) (fun w s' z => strBack z) fun _ _ z => z
theorem call_repr_own (O : Own X.K C "__repr__" f) (F : FnR X.prog X.w X.K X.mg X.base CX k f sp) (hr : Room (k + 1) X.A) (hx : ∀ σ, PassesAt CX X σ (fun _ _ _ => False)) : CallR X (.builtin "repr") (rTxt C sp) := by
  intro pins s σ H xs us Q I r h
  obtain ⟨p, dx, fs, rfl, hp, q⟩ := h
  obtain ⟨u, rfl, ru⟩ := vals1 r
  obtain rfl : u = Value.ref p := ru
  obtain ⟨ox, od, J⟩ := inst I hp
  obtain ⟨m, hF⟩ := I.fr
  refine PySem.W.repr_K (Nat.lt_of_le_of_lt (Nat.le_add_right _ _) hr.in1.units) hF I.ok.mod.kin J O.at_ O.fn ?_
  exact wpAny_mono (runB (E := fun _ _ _ _ => False) F hr.in1 rfl (hx σ) I (us := [.ref p]) (vs := [.ref p]) (.cons rfl .nil) q) (fun w s' z => strBack z) fun _ _ z => z
end
/-! a != b, where the class has == alone: object's own != asks it -/
section
variable {M : Model} {prog : Program} {w : World} {A : Around} {E : Value → Shared → Prop} {s : Shared} {K : PySem.W.Frag} {x C f : Addr} {ox : Obj} {od : Option Obj} {b tb : Value}
theorem bound_ne {args : List Value} {Q : Option Value → Shared → Prop} (X : K.In s.heap) (I : PySem.W.InstAt s.heap x ox C od) (hs : PySem.W.findIn K (.ref C) "__ne__" = some (some (.builtin "object.__ne__")))
    (h : wpAny M A (call (.builtin "object.__ne__") (.ref x :: args)) (fun v => Q (some v)) E s) : wpAny M A (callSpecialIfBound? (.ref x) "__ne__" args) Q E s := by
  have fin : wpAny M A (call (.builtin "object.__ne__") ([.ref x] ++ args) >>= fun v => pure (some v)) Q E s := wpAny_bind (wpAny_mono h (fun _ _ z => wpAny_pure z) fun _ _ z => z)
  simp only [callSpecialIfBound?, bindSpecialIfBound?]
  refine wpAny_holding (wpAny_bind (wpAny_bind (wpAny_bind (I.type.here ((PySem.W.looks_findIn X hs).here (wpAny_bind (wpAny_askSetting (wpAny_ite ?_))))))))
  split
  · exact wpAny_bind (wpAny_of_eq (F.cmp_object.ne.bind _) (wpAny_pure (by exact fin)))
  · exact wpAny_tryCatch (wpAny_bind (wpAny_of_eq (F.cmp_object.ne.bind _) (wpAny_pure (by exact fin))))
theorem entry_ne {Q : Fin → Shared → Prop} (hu : A.units < cLine) (X : K.In s.heap) (I : PySem.W.InstAt s.heap x ox C od) (O : Own K C "__eq__" f)
    (h : wpAny (model prog w) A (call (.ref f) [.ref x, b]) (fun v s' => ∃ r, v = .bool r ∧ Q (.done (.ret (.bool (!r)))) s') E s) : wpAny (model prog w) A (Builtin.«object.__ne__» ⟨[.ref x, b], []⟩) Q E s := by
  unfold Builtin.«object.__ne__»
  repeat (first
    | with_reducible refine wpAny_cRoomFor hu ?_
    | (refine wpAny_bind (m := callSpecialIfBound? (.ref x) (Str.ofString "__eq__") [b]) (PySem.W.ifBound_K X I O.at_ O.fn (wpAny_mono h (fun r s' hr => ?_) fun _ _ e => e)))
    | wp_step)
  obtain ⟨r, rfl, hq⟩ := hr
  repeat (first | exact hq | exact wpAny_pure hq | exact wpAny_truthy_bool hq | (refine wpAny_bind (m := truthy (.bool _)) (wpAny_truthy_bool ?_)) | wp_step)
theorem rc_ne {Q : Value → Shared → Prop} (hu : A.units + 1 < cLine) (X : K.In s.heap) (I : PySem.W.InstAt s.heap x ox C od) (hb : PySem.W.Looks (model prog w) s.heap (typeOf b) tb) (hn : PySem.W.notFirst K C tb = true)
    (hs : PySem.W.findIn K (.ref C) "__ne__" = some (some (.builtin "object.__ne__"))) (hm : PySem.W.mroIn K C (.type "object") = some true) (O : Own K C "__eq__" f)
    (h : wpAny (model prog w) A.in1 (call (.ref f) [.ref x, b]) (fun v s' => ∃ r, v = .bool r ∧ Q (.bool (!r)) s') E s) : wpAny (model prog w) A (richCompare .NotEq (.ref x) b) Q E s := by
  have one : wpAny (model prog w) A (tryCompare (.ref x) "__ne__" b) (fun r s' => ∃ v, r = some v ∧ Q v s') E s := by
    unfold tryCompare
    refine wpAny_bind (bound_ne X I hs (wpAny_call (codeAny_call_builtin F.cmp_object.ne.plain F.cmpEntry_ne (PySem.W.check_slot F.cmpKind_ne F.cmpSplit_ne (I.type.andThen (PySem.W.looks_mroIn X hm)) (F.cmpArgs_ne _ _)
      (entry_ne (A := A.in1) hu X I O (wpAny_mono h (fun v s' z => ?_) fun _ _ z => z))))))
    obtain ⟨r, rfl, hq⟩ := z
    exact ⟨r, rfl, wpAny_pure ⟨_, rfl, hq⟩⟩
  unfold richCompare
  simp only [oneThing_ref]
  refine wpAny_holding (wpAny_bind (wpAny_cRoomFor (Nat.lt_of_succ_lt hu) ?_))
  rw [cmpInfo_NotEq]
  dsimp only
  refine wpAny_bind (I.type.here (wpAny_bind (hb.here ?_)))
  split
  · rename_i q
    have e : PySem.W.subIn K tb (.ref C) = some false := by
      rcases Bool.or_eq_true_iff.mp hn with e | e
      · rw [beq_iff_eq.mp e] at q; simp at q
      · exact beq_iff_eq.mp e
    refine wpAny_bind ((PySem.W.looks_subIn X e).here ?_)
    simp only [Bool.false_eq_true, if_false]
    refine wpAny_bind (wpAny_mono one (fun r s' z => ?_) fun _ _ e => e)
    obtain ⟨v, rfl, hq⟩ := z
    exact wpAny_pure hq
  · refine wpAny_bind (wpAny_pure ?_)
    simp only [Bool.false_eq_true, if_false]
    refine wpAny_bind (wpAny_mono one (fun r s' z => ?_) fun _ _ e => e)
    obtain ⟨v, rfl, hq⟩ := z
    exact wpAny_pure hq
end
section
variable {X : Cx} {CX : CXT} {k : Nat} {f C : Addr} {sp : Sp}
theorem op_ne_own (O : Own X.K C "__eq__" f) (hs : PySem.W.findIn X.K (.ref C) "__ne__" = some (some (.builtin "object.__ne__"))) (hm : PySem.W.mroIn X.K C (.type "object") = some true) (F : FnR X.prog X.w X.K X.mg X.base CX k f sp) (hr : Room (k + 1) X.A) (hx : ∀ σ, PassesAt CX X σ (fun _ _ _ => False)) :
    OpR X (compareOp .NotEq) (fun x y H Q => ∃ p dx fs t, x = .ref p ∧ H p = some (.ins C dx fs) ∧ TyX X.K H y t ∧ PySem.W.notFirst X.K C t = true ∧ sp [x, y] H (fun v H' => ∃ r, v = .bl r ∧ Q (.bl (!r)) H') (fun _ _ _ => False)) := by
  intro pins s σ H x y u v Q I rx ry h
  obtain ⟨p, dx, fs, t, rfl, hp, ty, hn, q⟩ := h
  obtain rfl : u = Value.ref p := rx
  obtain ⟨ox, od, J⟩ := inst I hp
  obtain ⟨P, kit, hP, _⟩ := kit_of I ry ty
  show wpAny _ _ (richCompare .NotEq (.ref p) v) _ _ _
  refine rc_ne (Nat.lt_of_le_of_lt (Nat.add_le_add_left (by decide) _) hr.units) I.kIn J (kit.ty _ _ I.kIn hP) hn hs hm O ?_
  refine wpAny_mono (runB (E := fun _ _ _ _ => False) F hr.in1 rfl (hx σ) I (us := [.ref p, v]) (vs := [.ref p, y]) (.cons rfl (.cons ry .nil)) q) (fun w s' z => ?_) fun _ _ z => z
  obtain ⟨z, H', I', rz, ⟨r, rfl, q'⟩⟩ := z
  exact ⟨r, rz, .bl (!r), H', I', rfl, q'⟩
end
/-! C.m(..), m a classmethod; a class that a local name holds is called -/
section
variable {X : Cx} {CX : CXT} {k i : Nat} {C p g f : Addr} {mc : Value} {sp : Sp} {E : L2.St → XK} {o e : Expr} {es : List Expr} {m x : Str} {pos apos np : Pos} {ta : TE} {t : TA} {pl : Sem Bool}
def tCM (C : Addr) (sp : Sp) (E : L2.St → XK) (ta : TE) (t : TA) : TE := fun σ H Q => ta σ H fun x H1 => x = .ref C ∧ t σ H1 fun vs H2 => sp (.ref C :: vs) H2 Q (E σ)
theorem pe_cm (he : PE X o ta) (r : ClX.CRead X.K C mc) (c : ClX.CMet X.K C mc m p g) (F : FnR X.prog X.w X.K X.mg X.base CX k g sp) (hr : Room k X.A) (hx : ∀ σ, PassesAt CX X σ (E σ)) (ha : PA X (e :: es) t)
    (hst : starEach (e :: es) X.env = (false, eval e X.env) :: starEach es X.env := by rfl) (hpl : (backTo pos (starEach es X.env)).any (·.1) = false := by rfl)
    (ht : eval (.Call (.Attribute o m apos) (e :: es) [] pos) X.env = (do
      let ov ← eval o X.env
      standAt apos.atName
      let (f, first) ← holding [ov] (getMethod ov m pl)
      callWith pos f first (backTo pos (starEach (e :: es) X.env)) (backToKw pos (keywordEach [] X.env))) := by rfl) :
    PE X (.Call (.Attribute o m apos) (e :: es) [] pos) (tCM C sp E ta t) := by
  refine ⟨fun pins s σ H Q I h => PySem.W.methodCall_KW (pl := pl) (thn (he.run pins s σ H _ I h) fun u s1 ⟨x, H1, I1, rx, ex, q⟩ => ?_) ht⟩
  subst ex
  obtain rfl : u = Value.ref C := rx
  refine ClX.getmethcm_ok I1 r c fun s2 I2 => ?_
  refine ClX.callwith_cm I2 (ClX.base_none I1 (Nat.le_refl _)) c.fi (thn (ha.run pos _ s2 σ H1 _ I2 q) fun us s3 ⟨vs, H2, I3, rv, q2⟩ => ⟨⟨ClX.pin_at I3, I3.kIn⟩, ?_⟩) hst hpl
  have z : wpAny (model X.prog X.w) X.A (call (.ref s1.heap.objs.size) us) (EP X ((s1.heap.objs.size, PySem.W.methodObj (.ref g) (.ref C)) :: pins) σ Q) X.xe s3 :=
    wpAny_call (PySem.W.method_call (ClX.pin_at I3) (Cl.runS (us := .ref C :: us) (vs := .ref C :: vs) F hr (hx σ) I3 (.cons rfl rv) q2))
  exact thn z fun _ _ y => ClX.unpinE y
/-- the i-th slot holds the class at C -/
def tMkV (i : Nat) (C : Addr) (sp : Sp) (E : L2.St → XK) (t : TA) : TE := fun σ H Q => σ[i]? = some (some (.ref C)) ∧ t σ H fun vs H1 => ∀ x dx, H1 x = none → H1 dx = none → dx ≠ x → sp (.ref x :: vs) (upd (upd H1 dx (.own x)) x (.ins C dx [])) (fun v H2 => v = .non ∧ Q (.ref x) H2) (E σ)
theorem pe_mkV (M : Mk X.K C f) (F : FnR X.prog X.w X.K X.mg X.base CX k f sp) (hr : Room (k + 1) X.A) (hN : X.N[i]? = some x) (hv : Vis X.env.scope x) (hx : ∀ σ, PassesAt CX X σ (E σ)) (ha : PA X (e :: es) t) (hdb : (x == ("__debug__" : Str)) = false := by decide) (hcd : (x == ("__classdict__" : Str)) = false := by decide)
    (he : starEach (e :: es) X.env = (false, eval e X.env) :: starEach es X.env := by rfl) (hpl : (backTo pos (starEach es X.env)).any (·.1) = false := by rfl) : PE X (.Call (.Name x np) (e :: es) [] pos) (tMkV i C sp E t) := by
  refine ⟨fun pins s σ H Q I h => ?_⟩
  obtain ⟨hs, ht⟩ := h
  refine wpAny_Call_Name_kw (thn ((pe_var (pos := np) hN hv hdb hcd).run pins s σ H (fun v H1 => v = .ref C ∧ H1 = H) I ⟨.ref C, hs, rfl, rfl⟩) fun u s1 ⟨v, H1, I1, r1, q1⟩ => ?_)
  obtain ⟨rfl, rfl⟩ := q1
  cases r1
  exact PySem.W.callWith_K (h₀ := X.base) I.ok.mod.kin M.kp (thn (ha.run pos pins s1 σ _ _ I1 ht) fun us s2 ⟨vs, H2, I2, r, q⟩ => ⟨I2.kIn, Cl.runMk M F hr (hx σ) I2 r q⟩) he hpl
end
/-! with the written part named -/
section
variable {X : Cx} {CX : CXT} {k : Nat} {f C : Addr} {sp : Sp}
def rCmp (K : PySem.W.Frag) (C : Addr) (sp : Sp) : R2 := fun x y H Q => ∃ p dx fs t, x = .ref p ∧ H p = some (.ins C dx fs) ∧ TyX K H y t ∧ PySem.W.notFirst K C t = true ∧ sp [x, y] H Q (fun _ _ _ => False)
def rCmpN (K : PySem.W.Frag) (C : Addr) (sp : Sp) : R2 := fun x y H Q => ∃ p dx fs t, x = .ref p ∧ H p = some (.ins C dx fs) ∧ TyX K H y t ∧ PySem.W.notFirst K C t = true ∧ sp [x, y] H (fun v H' => ∃ r, v = .bl r ∧ Q (.bl (!r)) H') (fun _ _ _ => False)
theorem eqO (K : PySem.W.Frag) (O : Own K C "__eq__" f) (F : FnR X.prog X.w X.K X.mg X.base CX k f sp) (hr : Room k X.A) (hx : ∀ σ, PassesAt CX X σ (fun _ _ _ => False)) (hK : X.K = K := by rfl) : OpR X (compareOp .Eq) (rCmp K C sp) := by
  subst hK
  exact op_cmp (op := .Eq) O F hr hx
theorem ltO (K : PySem.W.Frag) (O : Own K C "__lt__" f) (F : FnR X.prog X.w X.K X.mg X.base CX k f sp) (hr : Room k X.A) (hx : ∀ σ, PassesAt CX X σ (fun _ _ _ => False)) (hK : X.K = K := by rfl) : OpR X (compareOp .Lt) (rCmp K C sp) := by
  subst hK
  exact op_cmp (op := .Lt) O F hr hx
structure NeC (K : PySem.W.Frag) (C : Addr) : Prop where
  at_ : PySem.W.findIn K (.ref C) "__ne__" = some (some (.builtin "object.__ne__"))
  mro : PySem.W.mroIn K C (.type "object") = some true
theorem neO (K : PySem.W.Frag) (O : Own K C "__eq__" f) (N : NeC K C) (F : FnR X.prog X.w X.K X.mg X.base CX k f sp) (hr : Room (k + 1) X.A) (hx : ∀ σ, PassesAt CX X σ (fun _ _ _ => False)) (hK : X.K = K := by rfl) : OpR X (compareOp .NotEq) (rCmpN K C sp) := by
  subst hK
  exact op_ne_own O N.at_ N.mro F hr hx
theorem unO (K : PySem.W.Frag) (O : Own K C "__invert__" f) (F : FnR X.prog X.w X.K X.mg X.base CX k f sp) (hr : Room k X.A) (hx : ∀ σ, PassesAt CX X σ (fun _ _ _ => False)) (hK : X.K = K := by rfl) :
    UnR X (unaryOp .Invert) (fun x H Q => ∃ p dx fs, x = .ref p ∧ H p = some (.ins C dx fs) ∧ sp [x] H Q (fun _ _ _ => False)) := by
  subst hK
  exact un_own (op := .Invert) O F hr hx
theorem strO (K : PySem.W.Frag) (O : Own K C "__str__" f) (F : FnR X.prog X.w X.K X.mg X.base CX k f sp) (hr : Room (k + 2) X.A) (hx : ∀ σ, PassesAt CX X σ (fun _ _ _ => False)) (hK : X.K = K := by rfl) : CallR X (.type "str") (rTxt C sp) := by
  subst hK
  exact call_str_own O F hr hx
theorem reprO (K : PySem.W.Frag) (O : Own K C "__repr__" f) (F : FnR X.prog X.w X.K X.mg X.base CX k f sp) (hr : Room (k + 1) X.A) (hx : ∀ σ, PassesAt CX X σ (fun _ _ _ => False)) (hK : X.K = K := by rfl) : CallR X (.builtin "repr") (rTxt C sp) := by
  subst hK
  exact call_repr_own O F hr hx
/-- an instance's type -/
structure InsT (K : PySem.W.Frag) (C : Addr) : Prop where
  ha : PySem.W.findIn K (.ref C) "__class__" = some (some (.builtin "object.__class__"))
  hn : PySem.W.specialIn K (.builtin "object.__class__") "__get__" = some (some (.builtin "getset_descriptor.__get__"))
  htk : PySem.W.takesIn K (.builtin "object.__class__") = some true
  hm : PySem.W.mroIn K C (.type "object") = some true
theorem InsT.ty {K : PySem.W.Frag} {H : Hp} {a dx : Addr} {fs : List (Str × V)} (h : InsT K C) (c : Cls K C) (e : H a = some (.ins C dx fs)) : TyX K H (.ref a) (.ref C) := .base (.ins e c h.ha h.hn h.htk h.hm)
end
section
variable {K : PySem.W.Frag} {C f : Addr} {m : Str}
def ownB (K : PySem.W.Frag) (C : Addr) (m : Str) (f : Addr) : Bool := decide (PySem.W.findIn K (.ref C) m = some (some (.ref f))) && PySem.W.isFn K (.ref f)
theorem ownB_ok (h : ownB K C m f = true) : Own K C m f := ⟨of_decide_eq_true (He.ba h).1, (He.ba h).2⟩
def neB (K : PySem.W.Frag) (C : Addr) : Bool := decide (PySem.W.findIn K (.ref C) "__ne__" = some (some (.builtin "object.__ne__"))) && decide (PySem.W.mroIn K C (.type "object") = some true)
theorem neB_ok (h : neB K C = true) : NeC K C := ⟨of_decide_eq_true (He.ba h).1, of_decide_eq_true (He.ba h).2⟩
def insB (K : PySem.W.Frag) (C : Addr) : Bool := decide (PySem.W.findIn K (.ref C) "__class__" = some (some (.builtin "object.__class__"))) && (decide (PySem.W.specialIn K (.builtin "object.__class__") "__get__" = some (some (.builtin "getset_descriptor.__get__"))) && (decide (PySem.W.takesIn K (.builtin "object.__class__") = some true) && decide (PySem.W.mroIn K C (.type "object") = some true)))
theorem insB_ok (h : insB K C = true) : InsT K C := ⟨of_decide_eq_true (He.ba h).1, of_decide_eq_true (He.ba (He.ba h).2).1, of_decide_eq_true (He.ba (He.ba (He.ba h).2).2).1, of_decide_eq_true (He.ba (He.ba (He.ba h).2).2).2⟩
end
end OpM
/-! ### an instance that a local name holds is called -/
namespace OpM
open PySem PySem.Spec PyProof.Rows L2
theorem callI_of {M : Model} {A : Around} {E : Value → Shared → Prop} {s : Shared} {pos : Pos} {x C : Addr} {first : List Value} {Q : Value → Shared → Prop} {args : List (Bool × Sem Value)} {keywords : List (Option Str × Sem Value)} (hplain : (args.any (·.1) || keywords.any (·.1.isNone)) = false)
    (h : wpAny M A (evalArgs (.ref x) true args keywords) (fun a s₁ => (∃ ox od, PySem.W.InstAt s₁.heap x ox C od ∧ ox.data = .plain) ∧ wpAny M A (call (.ref x) (first ++ a.pos) a.kw) Q E s₁) E s) : wpAny M A (callWith pos (.ref x) first args keywords) Q E s := by
  unfold callWith
  refine wpAny_bind (wpAny_holding (wpAny_mono h (fun a s₁ h₁ => wpAny_bind (wpAny_standAt ?_)) fun _ _ y => y))
  obtain ⟨⟨ox, od, I, hd⟩, h₁⟩ := h₁
  have L := PySem.W.kco_keeper (M := M) I hd
  simp only [hplain]
  refine wpAny_bind (L.here ?_)
  exact wpAny_bind (wpAny_mono (wpAny_operateT h₁) (fun r s₂ hr => wpAny_bind (wpAny_holding (wpAny_point (wpAny_pure hr)))) fun _ _ y => y)
section
variable {X : Cx} {CX : CXT} {k i : Nat} {C f : Addr} {sp : Sp} {E : L2.St → XK} {e : Expr} {es : List Expr} {x : Str} {pos np : Pos} {t : TA}
def tCI (i : Nat) (C : Addr) (sp : Sp) (E : L2.St → XK) (t : TA) : TE := fun σ H Q => ∃ a, σ[i]? = some (some (.ref a)) ∧ t σ H fun vs H1 => (∃ dx fs, H1 a = some (.ins C dx fs)) ∧ sp (.ref a :: vs) H1 Q (E σ)
theorem inst_plain {pins : List (Addr × Obj)} {σ : L2.St} {H : Hp} {s : Shared} {a dx : Addr} {fs : List (Str × V)} (I : Inv X pins σ H s) (hx : H a = some (.ins C dx fs)) : ∃ ox od, PySem.W.InstAt s.heap a ox C od ∧ ox.data = .plain := by
  obtain ⟨ox, od, q⟩ := inst I hx
  obtain ⟨_, _, _, e, _⟩ := (show ObjOk X.prog X.w H s.heap a (.ins C dx fs) from I.hok a _ hx)
  have := q.at_
  rw [e] at this
  cases this
  exact ⟨_, od, q, rfl⟩
theorem runI {pins : List (Addr × Obj)} {σ : L2.St} {H : Hp} {s : Shared} {Q : VK} {us : List Value} {vs : List V} {a dx : Addr} {fs : List (Str × V)} (O : OpM.Own X.K C "__call__" f) (hfn : PySem.W.fnIn X.K f = true) (F : FnR X.prog X.w X.K X.mg X.base CX k f sp) (hr : Room k X.A) (hx : PassesAt CX X σ (E σ)) (I : Inv X pins σ H s) (r : Vals vs us) (ha : H a = some (.ins C dx fs)) (h : sp (.ref a :: vs) H Q (E σ)) :
    wpAny (model X.prog X.w) X.A (call (.ref a) us) (EP X pins σ Q) X.xe s := by
  obtain ⟨ox, od, q, hd⟩ := inst_plain I ha
  exact wpAny_call (PySem.W.kco_code (a := ⟨us, []⟩) I.kIn q hd O.at_ O.fn hfn (Cl.runS (us := .ref a :: us) (vs := .ref a :: vs) F hr hx I (.cons rfl r) h))
theorem pe_ci (O : OpM.Own X.K C "__call__" f) (hfn : PySem.W.fnIn X.K f = true) (F : FnR X.prog X.w X.K X.mg X.base CX k f sp) (hr : Room k X.A) (hN : X.N[i]? = some x) (hv : Vis X.env.scope x) (hx : ∀ σ, PassesAt CX X σ (E σ)) (ha : PA X (e :: es) t) (hdb : (x == ("__debug__" : Str)) = false := by decide) (hcd : (x == ("__classdict__" : Str)) = false := by decide)
    (he : starEach (e :: es) X.env = (false, eval e X.env) :: starEach es X.env := by rfl) (hpl : (backTo pos (starEach es X.env)).any (·.1) = false := by rfl) : PE X (.Call (.Name x np) (e :: es) [] pos) (tCI i C sp E t) := by
  refine ⟨fun pins s σ H Q I h => ?_⟩
  obtain ⟨a, hs, ht⟩ := h
  refine wpAny_Call_Name_kw (thn ((pe_var (pos := np) hN hv hdb hcd).run pins s σ H (fun v H1 => v = .ref a ∧ H1 = H) I ⟨.ref a, hs, rfl, rfl⟩) fun u s1 ⟨v, H1, I1, r1, q1⟩ => ?_)
  obtain ⟨rfl, rfl⟩ := q1
  cases r1
  have arg : wpAny (model X.prog X.w) X.A (spliced (backTo pos (starEach (e :: es) X.env))) (fun vs' s₁ => (∃ ox od, PySem.W.InstAt s₁.heap a ox C od ∧ ox.data = .plain) ∧ wpAny (model X.prog X.w) X.A (call (.ref a) ([] ++ vs')) (EP X pins σ Q) X.xe s₁) X.xe s1 :=
    thn (ha.run pos pins s1 σ _ _ I1 ht) fun us s2 ⟨vs, H2, I2, r, ⟨dx, fs, hx2⟩, q⟩ => ⟨inst_plain I2 hx2, runI O hfn F hr (hx σ) I2 r hx2 q⟩
  show wpAny _ _ (callWith pos (.ref a) [] (backTo pos (starEach (e :: es) X.env)) []) _ _ _
  rw [he] at arg ⊢
  exact callI_of (by show ((false || (backTo pos (starEach es X.env)).any (·.1)) || false) = false; rw [hpl]; rfl) (PySem.Calls.evalArgs_plain arg)
theorem pe_ci0 (O : OpM.Own X.K C "__call__" f) (hfn : PySem.W.fnIn X.K f = true) (F : FnR X.prog X.w X.K X.mg X.base CX k f sp) (hr : Room k X.A) (hN : X.N[i]? = some x) (hv : Vis X.env.scope x) (hx : ∀ σ, PassesAt CX X σ (E σ)) (hdb : (x == ("__debug__" : Str)) = false := by decide) (hcd : (x == ("__classdict__" : Str)) = false := by decide) : PE X (.Call (.Name x np) [] [] pos) (tCI i C sp E tNil) := by
  refine ⟨fun pins s σ H Q I h => ?_⟩
  obtain ⟨a, hs, ⟨dx, fs, hx0⟩, ht⟩ := h
  refine wpAny_Call_Name_kw (thn ((pe_var (pos := np) hN hv hdb hcd).run pins s σ H (fun v H1 => v = .ref a ∧ H1 = H) I ⟨.ref a, hs, rfl, rfl⟩) fun u s1 ⟨v, H1, I1, r1, q1⟩ => ?_)
  obtain ⟨rfl, rfl⟩ := q1
  cases r1
  obtain ⟨ox, od, q, hd⟩ := inst_plain I1 hx0
  exact PySem.W.kco_callWith0 (K := X.K) I1.kIn q hd O.at_ (runI (us := []) O hfn F hr (hx σ) I1 .nil hx0 ht)
end
end OpM
namespace Pf
open PySem PySem.Spec PyProof.Rows L2
def top (i : Nat) : Stmt := PySem.Challenge.pw_rungbounds_k36_answers_of_wishes.main.body.getD i (.Pass ⟨0, 0, 0, 0⟩)
abbrev PP : Program := PySem.Challenge.pw_rungbounds_k36_answers_of_wishes
abbrev s_law_box : Stmt := top 28
abbrev s_law_take : Stmt := top 29
abbrev s_TrialU_initU : Stmt := inClass (top 20) 0
abbrev s_Trial_agrees : Stmt := inClass (top 20) 5
abbrev s_WishU_initU : Stmt := inClass (top 22) 0
abbrev s_AllWithinU_initU : Stmt := inClass (top 23) 0
abbrev s_SomeWithinU_initU : Stmt := inClass (top 24) 0
abbrev s_BandU_initU : Stmt := inClass (top 25) 0
abbrev s_BothU_initU : Stmt := inClass (top 26) 0
abbrev s_Wish_cases : Stmt := inClass (top 22) 2
abbrev s_AllWithin_cases : Stmt := inClass (top 23) 1
abbrev s_SomeWithin_cases : Stmt := inClass (top 24) 1
abbrev s_Band_cases : Stmt := inClass (top 25) 1
abbrev s_Both_cases : Stmt := inClass (top 26) 1
abbrev s_Wish_places : Stmt := inClass (top 22) 3
abbrev s_AllWithin_places : Stmt := inClass (top 23) 2
abbrev s_SomeWithin_places : Stmt := inClass (top 24) 2
abbrev s_Band_places : Stmt := inClass (top 25) 2
abbrev s_Both_places : Stmt := inClass (top 26) 2
abbrev s_Wish_answer : Stmt := inClass (top 22) 4
abbrev s_WishU_andU : Stmt := inClass (top 22) 1
abbrev s_law_number : Stmt := top 30
abbrev s_law_numbers : Stmt := top 31
abbrev s_law_pairs : Stmt := top 32
abbrev s_law_many : Stmt := top 33
abbrev s_law_band : Stmt := top 34
abbrev s_law_single : Stmt := top 35
abbrev s_law_wish : Stmt := top 36
abbrev s_law_size : Stmt := top 37
abbrev s_law_answer : Stmt := top 38
abbrev s_law_places : Stmt := top 39
abbrev s_law_eight : Stmt := top 40
abbrev s_law : Stmt := top 41
def d_law_box : He5.DefA := ⟨fun K => (He.ga K "_law_box"), "_law_box", "_law_box", defArgs s_law_box, defBody s_law_box, defScope s_law_box, [], []⟩
def d_law_take : He5.DefA := ⟨fun K => (He.ga K "_law_take"), "_law_take", "_law_take", defArgs s_law_take, defBody s_law_take, defScope s_law_take, [], []⟩
def d_TrialU_initU : He5.DefA := ⟨fun K => (He.ma K (He.ga K "Trial") "__init__"), "__init__", "Trial.__init__", defArgs s_TrialU_initU, defBody s_TrialU_initU, defScope s_TrialU_initU, [], []⟩
def d_Trial_agrees : He5.DefA := ⟨fun K => (He.ma K (He.ga K "Trial") "agrees"), "agrees", "Trial.agrees", defArgs s_Trial_agrees, defBody s_Trial_agrees, defScope s_Trial_agrees, [], []⟩
def d_WishU_initU : He5.DefA := ⟨fun K => (He.ma K (He.ga K "Wish") "__init__"), "__init__", "Wish.__init__", defArgs s_WishU_initU, defBody s_WishU_initU, defScope s_WishU_initU, [.int 1], []⟩
def d_Wish_cases : He5.DefA := ⟨fun K => (He.ma K (He.ga K "Wish") "cases"), "cases", "Wish.cases", defArgs s_Wish_cases, defBody s_Wish_cases, defScope s_Wish_cases, [], []⟩
def d_AllWithin_cases : He5.DefA := ⟨fun K => (He.ma K (He.ga K "AllWithin") "cases"), "cases", "AllWithin.cases", defArgs s_AllWithin_cases, defBody s_AllWithin_cases, defScope s_AllWithin_cases, [], []⟩
def d_SomeWithin_cases : He5.DefA := ⟨fun K => (He.ma K (He.ga K "SomeWithin") "cases"), "cases", "SomeWithin.cases", defArgs s_SomeWithin_cases, defBody s_SomeWithin_cases, defScope s_SomeWithin_cases, [], []⟩
def d_Band_cases : He5.DefA := ⟨fun K => (He.ma K (He.ga K "Band") "cases"), "cases", "Band.cases", defArgs s_Band_cases, defBody s_Band_cases, defScope s_Band_cases, [], []⟩
def d_Both_cases : He5.DefA := ⟨fun K => (He.ma K (He.ga K "Both") "cases"), "cases", "Both.cases", defArgs s_Both_cases, defBody s_Both_cases, defScope s_Both_cases, [], []⟩
def d_Wish_places : He5.DefA := ⟨fun K => (He.ma K (He.ga K "Wish") "places"), "places", "Wish.places", defArgs s_Wish_places, defBody s_Wish_places, defScope s_Wish_places, [], []⟩
def d_AllWithin_places : He5.DefA := ⟨fun K => (He.ma K (He.ga K "AllWithin") "places"), "places", "AllWithin.places", defArgs s_AllWithin_places, defBody s_AllWithin_places, defScope s_AllWithin_places, [], []⟩
def d_SomeWithin_places : He5.DefA := ⟨fun K => (He.ma K (He.ga K "SomeWithin") "places"), "places", "SomeWithin.places", defArgs s_SomeWithin_places, defBody s_SomeWithin_places, defScope s_SomeWithin_places, [], []⟩
def d_Band_places : He5.DefA := ⟨fun K => (He.ma K (He.ga K "Band") "places"), "places", "Band.places", defArgs s_Band_places, defBody s_Band_places, defScope s_Band_places, [], []⟩
def d_Both_places : He5.DefA := ⟨fun K => (He.ma K (He.ga K "Both") "places"), "places", "Both.places", defArgs s_Both_places, defBody s_Both_places, defScope s_Both_places, [], []⟩
def d_Wish_answer : He5.DefA := ⟨fun K => (He.ma K (He.ga K "Wish") "answer"), "answer", "Wish.answer", defArgs s_Wish_answer, defBody s_Wish_answer, defScope s_Wish_answer, [], []⟩
def d_WishU_andU : He5.DefA := ⟨fun K => (He.ma K (He.ga K "Wish") "__and__"), "__and__", "Wish.__and__", defArgs s_WishU_andU, defBody s_WishU_andU, defScope s_WishU_andU, [], []⟩
def d_law_number : He5.DefA := ⟨fun K => (He.ga K "_law_number"), "_law_number", "_law_number", defArgs s_law_number, defBody s_law_number, defScope s_law_number, [], []⟩
def d_law_numbers : He5.DefA := ⟨fun K => (He.ga K "_law_numbers"), "_law_numbers", "_law_numbers", defArgs s_law_numbers, defBody s_law_numbers, defScope s_law_numbers, [], []⟩
def d_law_pairs : He5.DefA := ⟨fun K => (He.ga K "_law_pairs"), "_law_pairs", "_law_pairs", defArgs s_law_pairs, defBody s_law_pairs, defScope s_law_pairs, [], []⟩
def d_law_many : He5.DefA := ⟨fun K => (He.ga K "_law_many"), "_law_many", "_law_many", defArgs s_law_many, defBody s_law_many, defScope s_law_many, [], []⟩
def d_law_band : He5.DefA := ⟨fun K => (He.ga K "_law_band"), "_law_band", "_law_band", defArgs s_law_band, defBody s_law_band, defScope s_law_band, [], []⟩
def d_law_single : He5.DefA := ⟨fun K => (He.ga K "_law_single"), "_law_single", "_law_single", defArgs s_law_single, defBody s_law_single, defScope s_law_single, [], []⟩
def d_law_wish : He5.DefA := ⟨fun K => (He.ga K "_law_wish"), "_law_wish", "_law_wish", defArgs s_law_wish, defBody s_law_wish, defScope s_law_wish, [], []⟩
def d_law_size : He5.DefA := ⟨fun K => (He.ga K "_law_size"), "_law_size", "_law_size", defArgs s_law_size, defBody s_law_size, defScope s_law_size, [], []⟩
def d_law_answer : He5.DefA := ⟨fun K => (He.ga K "_law_answer"), "_law_answer", "_law_answer", defArgs s_law_answer, defBody s_law_answer, defScope s_law_answer, [], []⟩
def d_law_places : He5.DefA := ⟨fun K => (He.ga K "_law_places"), "_law_places", "_law_places", defArgs s_law_places, defBody s_law_places, defScope s_law_places, [], []⟩
def d_law_eight : He5.DefA := ⟨fun K => (He.ga K "_law_eight"), "_law_eight", "_law_eight", defArgs s_law_eight, defBody s_law_eight, defScope s_law_eight, [], []⟩
def d_law : He5.DefA := ⟨fun K => (He.ga K "law"), "law", "law", defArgs s_law, defBody s_law, defScope s_law, [], []⟩
def fnL : List He5.DefA := [d_law_box, d_law_take, d_TrialU_initU, d_Trial_agrees, d_WishU_initU, d_Wish_cases, d_AllWithin_cases, d_SomeWithin_cases, d_Band_cases, d_Both_cases, d_Wish_places, d_AllWithin_places, d_SomeWithin_places, d_Band_places, d_Both_places, d_Wish_answer, d_WishU_andU, d_law_number, d_law_numbers, d_law_pairs, d_law_many, d_law_band, d_law_single, d_law_wish, d_law_size, d_law_answer, d_law_places, d_law_eight, d_law]
def erL : List Hd.ErD := [⟨"AllWithin", "AllWithin.__init__", inClass (top 23) 0⟩, ⟨"SomeWithin", "SomeWithin.__init__", inClass (top 24) 0⟩, ⟨"Band", "Band.__init__", inClass (top 25) 0⟩, ⟨"Both", "Both.__init__", inClass (top 26) 0⟩]
def faL : List He.Fa := [.glo "AllWithin", .glo "Band", .glo "Both", .glo "SomeWithin", .glo "Trial", .glo "Wish", .glo "_law_answer", .glo "_law_band", .glo "_law_box", .glo "_law_eight", .glo "_law_many", .glo "_law_number", .glo "_law_numbers", .glo "_law_pairs", .glo "_law_places", .glo "_law_single", .glo "_law_size", .glo "_law_take", .glo "_law_wish", .glo "law", .free "all", .free "bool", .free "int", .free "isinstance", .free "len", .free "list", .free "range", .free "super", .free "zip", .cls "AllWithin", .cls "Band", .cls "Both", .cls "SomeWithin", .cls "Trial", .cls "Wish", .noat "AllWithin" "pairs", .noat "AllWithin" "size", .noat "Band" "cuts", .noat "Band" "place", .noat "Band" "size", .noat "Both" "first", .noat "Both" "second", .noat "Both" "size", .noat "SomeWithin" "pairs", .noat "SomeWithin" "size", .noat "Trial" "height", .noat "Trial" "place", .noat "Trial" "reached", .noat "Wish" "size", .meth "AllWithin" "cases", .meth "AllWithin" "places", .meth "Band" "cases", .meth "Band" "places", .meth "Both" "cases", .meth "Both" "places", .meth "SomeWithin" "cases", .meth "SomeWithin" "places", .meth "Trial" "agrees", .meth "Wish" "answer", .meth "Wish" "cases", .meth "Wish" "places", .mkr "AllWithin", .mkr "Band", .mkr "Both", .mkr "SomeWithin", .mkr "Trial", .mkr "Wish"]
def exL (K : PySem.W.Frag) : Bool := (faL.all fun f => f.ok K) && (SupX.supB PP K "AllWithin" "AllWithin.__init__" (He.ma K (He.ga K "Wish") "__init__") && (SupX.supB PP K "SomeWithin" "SomeWithin.__init__" (He.ma K (He.ga K "Wish") "__init__") && (SupX.supB PP K "Band" "Band.__init__" (He.ma K (He.ga K "Wish") "__init__") && (SupX.supB PP K "Both" "Both.__init__" (He.ma K (He.ga K "Wish") "__init__") && (OpM.insB K (He.ga K "Wish") && (OpM.insB K (He.ga K "AllWithin") && (OpM.insB K (He.ga K "SomeWithin") && (OpM.insB K (He.ga K "Band") && (OpM.insB K (He.ga K "Both") && (decide (PySem.W.kitOne K (.ref (He.ga K "Wish")) (.ref (He.ga K "Wish")) = some true) && (decide (PySem.W.kitOne K (.ref (He.ga K "AllWithin")) (.ref (He.ga K "Wish")) = some true) && (decide (PySem.W.kitOne K (.ref (He.ga K "SomeWithin")) (.ref (He.ga K "Wish")) = some true) && (decide (PySem.W.kitOne K (.ref (He.ga K "Band")) (.ref (He.ga K "Wish")) = some true) && (decide (PySem.W.kitOne K (.ref (He.ga K "Both")) (.ref (He.ga K "Wish")) = some true) && (AndX.kinB K [He.ga K "Wish", He.ga K "AllWithin", He.ga K "SomeWithin", He.ga K "Band", He.ga K "Both"] "and" (He.ma K (He.ga K "Wish") "__and__") && (Hd.inhB K (He.ga K "AllWithin") "answer" (He.ma K (He.ga K "Wish") "answer") && (Hd.inhB K (He.ga K "Band") "answer" (He.ma K (He.ga K "Wish") "answer") && (Hd.inhB K (He.ga K "Both") "answer" (He.ma K (He.ga K "Wish") "answer") && (Hd.inhB K (He.ga K "SomeWithin") "answer" (He.ma K (He.ga K "Wish") "answer") && true)))))))))))))))))))
abbrev R : PySem.W.OpenRow := PySem.W.OpenLaw.row PySem.Challenge.rw_rungbounds_k36_answers_of_wishes
abbrev hk : PySem.W.Hook := Hd.hookP 6 fnL erL exL
def loose : List Str := (["_wall", "LadderError", "BadNumber", "NoPlace", "GROUND", "check_trials", "check_misreads", "lowest_of", "highest_of", "frame_of", "wrong_alone", "clash", "clashes", "augmented", "matching", "sorted_out", "possible_count", "Trial", "Wish", "AllWithin"] : List Str) ++ (["SomeWithin", "Band", "Both", "_law_box", "_law_take", "_law_number", "_law_numbers", "_law_pairs", "_law_many", "_law_band", "_law_single", "_law_wish", "_law_size", "_law_answer", "_law_places", "_law_eight"] : List Str)
def ob (s : PySem.W.SharedT) : Hd.AlP := Hd.obsPG 6 fnL erL exL (HandSHeadRun.getT s)
theorem ob_eq (s : PySem.W.SharedT) : ob s = hk.obs s.abs := Hd.obsPG_eq (HandSHeadRun.getT_eq s)
theorem runA (w : World) : Hd.runL R 6000 w := by
  intro os
  kernel_rfl
theorem runB (w : World) : Hd.runS R (PySem.W.view R.prog [41]) 6000 loose w := by
  intro os
  kernel_rfl
theorem runC (w : World) : Hd.runO R hk ob 6000 w := by
  intro os
  kernel_rfl
theorem run (w : World) : HandSHeadRun.RunEq R (PySem.W.view R.prog [41]) hk ob 6000 loose w := Hd.run_of (runA w) (runB w) (runC w)
end Pf
/-! ### data without addresses: what stands in the heap, told as a tree -/
namespace Dl
open PySem PySem.Spec PyProof.Rows L2
inductive D where
  | non | bl (b : Bool) | int (i : Int) | str (x : Str) | lst (xs : List D) | tup (xs : List D) | dic (es : List (Key × D)) | dil (es : List (Key × D)) | obj (c : Nat) (fs : List D) | cls (c : Nat) | scr
/-- the classes by number: name, attributes in the order in which they are made -/
def cn : Nat → Str
  | 0 => "Trial" | 1 => "Ladder" | 2 => "Rack" | 3 => "Site" | 4 => "Bounds" | 5 => "Wish" | 6 => "AllWithin" | 7 => "SomeWithin" | 8 => "Band" | 9 => "Both" | 10 => "Planner" | 11 => "Situation" | 12 => "Together" | _ => "Crew"
def cf : Nat → List Str
  | 0 => ["place", "height", "reached"] | 1 => ["length", "parts"] | 2 => ["rows"] | 3 => ["wall_rows", "link_rows", "spots", "tops", "size", "direct", "far", "middles"] | 4 => ["site", "given", "least", "greatest"]
  | 5 => ["size"] | 6 => ["size", "pairs"] | 7 => ["size", "pairs"] | 8 => ["size", "place", "cuts"] | 9 => ["size", "first", "second"] | 10 => ["site", "given", "wish", "menu", "allowed", "known", "costs"]
  | 11 => ["ladder_rows", "pinned_marks", "tried", "allowed", "deeds"] | 12 => ["crew", "before"] | _ => ["site", "now", "past", "taken_back", "running"]
/-- a shape: frozen, or owned with parts of a shape -/
inductive Sh where
  | fr | ol (s : Sh) | od (s : Sh) | oo (ss : List Sh) | ot (ss : List Sh)
/-- what a slot holds: nothing that is told, shared data, owned data, lent data, a box of draws, a lent one, a caught error -/
inductive Sl where
  | un | sh (d : D) | ow (s : Sh) (d : D) | le (v : V) (s : Sh) (d : D) | bx | lb (v : V) | er (a dd : Addr) (c : Nat) (d : D)
/-- the errors by number: name, attribute -/
def en : Nat → Str
  | 0 => "BadNumber" | 1 => "BadName" | 2 => "TakenName" | 3 => "UnknownName" | 4 => "NoPlace" | 5 => "TooMany" | 6 => "NoSite" | 7 => "NoShape" | 8 => "BadState" | 9 => "BadLine" | _ => "DeedFailed"
def ef : Nat → Str
  | 0 => "value" | 1 => "name" | 2 => "name" | 3 => "name" | 4 => "place" | 5 => "count" | 6 => "ring" | 7 => "blames" | 8 => "state" | 9 => "line" | _ => "row"
/-- a box at b, its cells at c -/
def Bx (H : Hp) (b c : Addr) : Prop := ∃ (cs : List Int) (i r s : Int), H b = some (.lst [.ref c, .int i, .int r, .int s]) ∧ H c = some (.lst (cs.map V.int)) ∧ cs.length ≤ 63 ∧ 0 ≤ i ∧ 0 ≤ r ∧ 0 ≤ s ∧ s < 2147483647
mutual
inductive Rep (K : PySem.W.Frag) (F : Hp) : V → D → Prop
  | non : Rep K F .non .non
  | bl (b : Bool) : Rep K F (.bl b) (.bl b)
  | int (i : Int) : Rep K F (.int i) (.int i)
  | str (x : Str) : Rep K F (.str x) (.str x)
  | lst {a : Addr} {vs : List V} {ds : List D} : F a = some (.lst vs) → RepL K F vs ds → Rep K F (.ref a) (.lst ds)
  | tup {a : Addr} {vs : List V} {ds : List D} : SqT K F a vs → RepL K F vs ds → Rep K F (.ref a) (.tup ds)
  | dic {a : Addr} {kvs : List (Key × V)} {es : List (Key × D)} : F a = some (.dK kvs) → RepK K F kvs es → Rep K F (.ref a) (.dic es)
  | dil {a : Addr} {o : Obj} {kvs : List (Key × V)} {es : List (Key × D)} : F a = some (.frz o (.dK kvs)) → RepK K F kvs es → Rep K F (.ref a) (.dil es)
  | obj {a dx : Addr} {c : Nat} {fs : List (Str × V)} {ds : List D} : F a = some (.ins (He.ga K (cn c)) dx fs) → F dx = some (.own a) → fs.map (·.1) = (cf c).take ds.length → RepL K F (fs.map (·.2)) ds → Rep K F (.ref a) (.obj c ds)
  | cls (c : Nat) : Rep K F (.ref (He.ga K (cn c))) (.cls c)
  | scr {a : Addr} {ns : List Int} : SqL K F a (ns.map V.int) → Rep K F (.ref a) .scr
inductive RepL (K : PySem.W.Frag) (F : Hp) : List V → List D → Prop
  | nil : RepL K F [] []
  | cons {v : V} {d : D} {vs : List V} {ds : List D} : Rep K F v d → RepL K F vs ds → RepL K F (v :: vs) (d :: ds)
inductive RepK (K : PySem.W.Frag) (F : Hp) : List (Key × V) → List (Key × D) → Prop
  | nil : RepK K F [] []
  | cons {k : Key} {v : V} {d : D} {vs : List (Key × V)} {ds : List (Key × D)} : Rep K F v d → RepK K F vs ds → RepK K F ((k, v) :: vs) ((k, d) :: ds)
end
mutual
inductive Own (K : PySem.W.Frag) (F H : Hp) : Sh → V → D → List Addr → Prop
  | fr {v : V} {d : D} : Rep K F v d → Own K F H .fr v d []
  | ol {s : Sh} {a : Addr} {vs : List V} {ds : List D} {fp : List Addr} : H a = some (.lst vs) → OwnL K F H s vs ds fp → Own K F H (.ol s) (.ref a) (.lst ds) (a :: fp)
  | od {s : Sh} {a : Addr} {kvs : List (Key × V)} {es : List (Key × D)} {fp : List Addr} : H a = some (.dK kvs) → OwnK K F H s kvs es fp → Own K F H (.od s) (.ref a) (.dic es) (a :: fp)
  | oo {ss : List Sh} {a dx : Addr} {c : Nat} {fs : List (Str × V)} {ds : List D} {fp : List Addr} : H a = some (.ins (He.ga K (cn c)) dx fs) → H dx = some (.own a) → fs.map (·.1) = (cf c).take ds.length → OwnF K F H ss (fs.map (·.2)) ds fp → Own K F H (.oo ss) (.ref a) (.obj c ds) (a :: dx :: fp)
  | ot {ss : List Sh} {a : Addr} {vs : List V} {ds : List D} {fp : List Addr} : H a = some (.tup vs) → OwnF K F H ss vs ds fp → Own K F H (.ot ss) (.ref a) (.tup ds) (a :: fp)
inductive OwnL (K : PySem.W.Frag) (F H : Hp) : Sh → List V → List D → List Addr → Prop
  | nil {s : Sh} : OwnL K F H s [] [] []
  | cons {s : Sh} {v : V} {d : D} {f fp : List Addr} {vs : List V} {ds : List D} : Own K F H s v d f → OwnL K F H s vs ds fp → OwnL K F H s (v :: vs) (d :: ds) (f ++ fp)
inductive OwnK (K : PySem.W.Frag) (F H : Hp) : Sh → List (Key × V) → List (Key × D) → List Addr → Prop
  | nil {s : Sh} : OwnK K F H s [] [] []
  | cons {s : Sh} {k : Key} {v : V} {d : D} {f fp : List Addr} {vs : List (Key × V)} {ds : List (Key × D)} : Own K F H s v d f → OwnK K F H s vs ds fp → OwnK K F H s ((k, v) :: vs) ((k, d) :: ds) (f ++ fp)
inductive OwnF (K : PySem.W.Frag) (F H : Hp) : List Sh → List V → List D → List Addr → Prop
  | nil : OwnF K F H [] [] [] []
  | cons {s : Sh} {ss : List Sh} {v : V} {d : D} {f fp : List Addr} {vs : List V} {ds : List D} : Own K F H s v d f → OwnF K F H ss vs ds fp → OwnF K F H (s :: ss) (v :: vs) (d :: ds) (f ++ fp)
end
def Le (F F' : Hp) : Prop := ∀ a o, F a = some o → F' a = some o
theorem Le.rfl {F : Hp} : Le F F := fun _ _ h => h
theorem Le.trans {F F' F'' : Hp} (h : Le F F') (h' : Le F' F'') : Le F F'' := fun a o e => h' a o (h a o e)
section
variable {K : PySem.W.Frag} {F F' H H' : Hp}
theorem rd_mono (s : Le F F') {a : Addr} {u : HO} (h : Rd F a u) : Rd F' a u := by
  rcases h with h | ⟨o, h⟩
  · exact .inl (s _ _ h)
  · exact .inr ⟨o, s _ _ h⟩
theorem sql_mono (s : Le F F') {a : Addr} {vs : List V} (h : SqL K F a vs) : SqL K F' a vs := by
  rcases h with h | h
  · exact .inl (rd_mono s h)
  · exact .inr h
theorem sqt_mono (s : Le F F') {a : Addr} {vs : List V} (h : SqT K F a vs) : SqT K F' a vs := by
  rcases h with h | h
  · exact .inl (rd_mono s h)
  · exact .inr h
mutual
theorem Rep.mono (s : Le F F') : ∀ {v : V} {d : D}, Rep K F v d → Rep K F' v d
  | _, _, .non => .non
  | _, _, .bl b => .bl b
  | _, _, .int i => .int i
  | _, _, .str x => .str x
  | _, _, .lst h r => .lst (s _ _ h) (RepL.mono s r)
  | _, _, .tup h r => .tup (sqt_mono s h) (RepL.mono s r)
  | _, _, .dic h r => .dic (s _ _ h) (RepK.mono s r)
  | _, _, .dil h r => .dil (s _ _ h) (RepK.mono s r)
  | _, _, .obj h h' n r => .obj (s _ _ h) (s _ _ h') n (RepL.mono s r)
  | _, _, .cls c => .cls c
  | _, _, .scr h => .scr (sql_mono s h)
theorem RepL.mono (s : Le F F') : ∀ {v : List V} {d : List D}, RepL K F v d → RepL K F' v d
  | _, _, .nil => .nil
  | _, _, .cons h r => .cons (Rep.mono s h) (RepL.mono s r)
theorem RepK.mono (s : Le F F') : ∀ {v : List (Key × V)} {d : List (Key × D)}, RepK K F v d → RepK K F' v d
  | _, _, .nil => .nil
  | _, _, .cons h r => .cons (Rep.mono s h) (RepK.mono s r)
end
mutual
theorem Own.mono (s : Le F F') : ∀ {z : Sh} {v : V} {d : D} {fp : List Addr}, (∀ a ∈ fp, H' a = H a) → Own K F H z v d fp → Own K F' H' z v d fp
  | _, _, _, _, _, .fr r => .fr (r.mono s)
  | _, _, _, _, e, .ol h r => .ol (by rw [e _ (by simp)]; exact h) (OwnL.mono s (fun a ha => e a (List.mem_cons_of_mem _ ha)) r)
  | _, _, _, _, e, .od h r => .od (by rw [e _ (by simp)]; exact h) (OwnK.mono s (fun a ha => e a (List.mem_cons_of_mem _ ha)) r)
  | _, _, _, _, e, .oo h h' n r => .oo (by rw [e _ (by simp)]; exact h) (by rw [e _ (by simp)]; exact h') n (OwnF.mono s (fun a ha => e a (List.mem_cons_of_mem _ (List.mem_cons_of_mem _ ha))) r)
  | _, _, _, _, e, .ot h r => .ot (by rw [e _ (by simp)]; exact h) (OwnF.mono s (fun a ha => e a (List.mem_cons_of_mem _ ha)) r)
theorem OwnL.mono (s : Le F F') : ∀ {z : Sh} {v : List V} {d : List D} {fp : List Addr}, (∀ a ∈ fp, H' a = H a) → OwnL K F H z v d fp → OwnL K F' H' z v d fp
  | _, _, _, _, _, .nil => .nil
  | _, _, _, _, e, .cons h r => .cons (Own.mono s (fun a ha => e a (List.mem_append_left _ ha)) h) (OwnL.mono s (fun a ha => e a (List.mem_append_right _ ha)) r)
theorem OwnK.mono (s : Le F F') : ∀ {z : Sh} {v : List (Key × V)} {d : List (Key × D)} {fp : List Addr}, (∀ a ∈ fp, H' a = H a) → OwnK K F H z v d fp → OwnK K F' H' z v d fp
  | _, _, _, _, _, .nil => .nil
  | _, _, _, _, e, .cons h r => .cons (Own.mono s (fun a ha => e a (List.mem_append_left _ ha)) h) (OwnK.mono s (fun a ha => e a (List.mem_append_right _ ha)) r)
theorem OwnF.mono (s : Le F F') : ∀ {z : List Sh} {v : List V} {d : List D} {fp : List Addr}, (∀ a ∈ fp, H' a = H a) → OwnF K F H z v d fp → OwnF K F' H' z v d fp
  | _, _, _, _, _, .nil => .nil
  | _, _, _, _, e, .cons h r => .cons (Own.mono s (fun a ha => e a (List.mem_append_left _ ha)) h) (OwnF.mono s (fun a ha => e a (List.mem_append_right _ ha)) r)
end
/-! what is owned may be frozen -/
mutual
theorem Own.fz (s : Le F F') : ∀ {z : Sh} {v : V} {d : D} {fp : List Addr}, (∀ a ∈ fp, F' a = H a) → Own K F H z v d fp → Rep K F' v d
  | _, _, _, _, _, .fr r => r.mono s
  | _, _, _, _, e, .ol h r => .lst (by rw [e _ (by simp)]; exact h) (OwnL.fz s (fun a ha => e a (List.mem_cons_of_mem _ ha)) r)
  | _, _, _, _, e, .od h r => .dic (by rw [e _ (by simp)]; exact h) (OwnK.fz s (fun a ha => e a (List.mem_cons_of_mem _ ha)) r)
  | _, _, _, _, e, .oo h h' n r => .obj (by rw [e _ (by simp)]; exact h) (by rw [e _ (by simp)]; exact h') n (OwnF.fz s (fun a ha => e a (List.mem_cons_of_mem _ (List.mem_cons_of_mem _ ha))) r)
  | _, _, _, _, e, .ot h r => .tup (.inl (.inl (by rw [e _ (by simp)]; exact h))) (OwnF.fz s (fun a ha => e a (List.mem_cons_of_mem _ ha)) r)
theorem OwnL.fz (s : Le F F') : ∀ {z : Sh} {v : List V} {d : List D} {fp : List Addr}, (∀ a ∈ fp, F' a = H a) → OwnL K F H z v d fp → RepL K F' v d
  | _, _, _, _, _, .nil => .nil
  | _, _, _, _, e, .cons h r => .cons (Own.fz s (fun a ha => e a (List.mem_append_left _ ha)) h) (OwnL.fz s (fun a ha => e a (List.mem_append_right _ ha)) r)
theorem OwnK.fz (s : Le F F') : ∀ {z : Sh} {v : List (Key × V)} {d : List (Key × D)} {fp : List Addr}, (∀ a ∈ fp, F' a = H a) → OwnK K F H z v d fp → RepK K F' v d
  | _, _, _, _, _, .nil => .nil
  | _, _, _, _, e, .cons h r => .cons (Own.fz s (fun a ha => e a (List.mem_append_left _ ha)) h) (OwnK.fz s (fun a ha => e a (List.mem_append_right _ ha)) r)
theorem OwnF.fz (s : Le F F') : ∀ {z : List Sh} {v : List V} {d : List D} {fp : List Addr}, (∀ a ∈ fp, F' a = H a) → OwnF K F H z v d fp → RepL K F' v d
  | _, _, _, _, _, .nil => .nil
  | _, _, _, _, e, .cons h r => .cons (Own.fz s (fun a ha => e a (List.mem_append_left _ ha)) h) (OwnF.fz s (fun a ha => e a (List.mem_append_right _ ha)) r)
end
mutual
theorem Own.here : ∀ {z : Sh} {v : V} {d : D} {fp : List Addr}, Own K F H z v d fp → ∀ a ∈ fp, H a ≠ none
  | _, _, _, _, .fr r, a, ha => by cases ha
  | _, _, _, _, .ol h r, a, ha => by
    rcases List.mem_cons.mp ha with rfl | ha
    · rw [h]; intro z; cases z
    · exact OwnL.here r a ha
  | _, _, _, _, .od h r, a, ha => by
    rcases List.mem_cons.mp ha with rfl | ha
    · rw [h]; intro z; cases z
    · exact OwnK.here r a ha
  | _, _, _, _, .oo h h' n r, a, ha => by
    rcases List.mem_cons.mp ha with rfl | ha
    · rw [h]; intro z; cases z
    rcases List.mem_cons.mp ha with rfl | ha
    · rw [h']; intro z; cases z
    · exact OwnF.here r a ha
  | _, _, _, _, .ot h r, a, ha => by
    rcases List.mem_cons.mp ha with rfl | ha
    · rw [h]; intro z; cases z
    · exact OwnF.here r a ha
theorem OwnL.here : ∀ {z : Sh} {v : List V} {d : List D} {fp : List Addr}, OwnL K F H z v d fp → ∀ a ∈ fp, H a ≠ none
  | _, _, _, _, .nil, a, ha => by cases ha
  | _, _, _, _, .cons h r, a, ha => by
    rcases List.mem_append.mp ha with ha | ha
    · exact Own.here h a ha
    · exact OwnL.here r a ha
theorem OwnK.here : ∀ {z : Sh} {v : List (Key × V)} {d : List (Key × D)} {fp : List Addr}, OwnK K F H z v d fp → ∀ a ∈ fp, H a ≠ none
  | _, _, _, _, .nil, a, ha => by cases ha
  | _, _, _, _, .cons h r, a, ha => by
    rcases List.mem_append.mp ha with ha | ha
    · exact Own.here h a ha
    · exact OwnK.here r a ha
theorem OwnF.here : ∀ {z : List Sh} {v : List V} {d : List D} {fp : List Addr}, OwnF K F H z v d fp → ∀ a ∈ fp, H a ≠ none
  | _, _, _, _, .nil, a, ha => by cases ha
  | _, _, _, _, .cons h r, a, ha => by
    rcases List.mem_append.mp ha with ha | ha
    · exact Own.here h a ha
    · exact OwnF.here r a ha
end
end
/-! ### slots -/
inductive SlV (K : PySem.W.Frag) (F H : Hp) : Option V → Sl → List Addr → Prop
  | un {o : Option V} : SlV K F H o .un []
  | sh {v : V} {d : D} : Rep K F v d → SlV K F H (some v) (.sh d) []
  | ow {v : V} {s : Sh} {d : D} {fp : List Addr} : Own K F H s v d fp → SlV K F H (some v) (.ow s d) fp
  | le {v : V} {s : Sh} {d : D} {fp : List Addr} : Own K F H s v d fp → SlV K F H (some v) (.le v s d) fp
  | bx {b c : Addr} : Bx H b c → SlV K F H (some (.ref b)) .bx [b, c]
  | lb {b c : Addr} : Bx H b c → SlV K F H (some (.ref b)) (.lb (.ref b)) [b, c]
  | er {a dd : Addr} {c : Nat} {v : V} {d : D} : H dd = some (.xd [(ef c, v)]) → Rep K F v d → SlV K F H (some (.ref a)) (.er a dd c d) [dd]
inductive Slots (K : PySem.W.Frag) (F H : Hp) : L2.St → List Sl → List Addr → Prop
  | nil : Slots K F H [] [] []
  | cons {o : Option V} {s : Sl} {f fp : List Addr} {σ : L2.St} {ρ : List Sl} : SlV K F H o s f → Slots K F H σ ρ fp → Slots K F H (o :: σ) (s :: ρ) (f ++ fp)
section
variable {K : PySem.W.Frag} {F F' H H' : Hp}
theorem bx_mono {b c : Addr} (e : ∀ a ∈ [b, c], H' a = H a) (h : Bx H b c) : Bx H' b c := by
  obtain ⟨cs, i, r, s, h1, h2, h3⟩ := h
  exact ⟨cs, i, r, s, by rw [e _ (by simp)]; exact h1, by rw [e _ (by simp)]; exact h2, h3⟩
theorem SlV.mono (s : Le F F') {o : Option V} {z : Sl} {fp : List Addr} (e : ∀ a ∈ fp, H' a = H a) (h : SlV K F H o z fp) : SlV K F' H' o z fp := by
  cases h with
  | un => exact .un
  | sh r => exact .sh (r.mono s)
  | ow r => exact .ow (r.mono s e)
  | bx r => exact .bx (bx_mono e r)
  | le r => exact .le (r.mono s e)
  | lb r => exact .lb (bx_mono e r)
  | er h r => exact .er (by rw [e _ (by simp)]; exact h) (r.mono s)
theorem Bx.here {b c : Addr} (r : Bx H b c) : ∀ a ∈ [b, c], H a ≠ none := by
  obtain ⟨cs, i, r, s, h1, h2, h3⟩ := r
  intro a ha z
  rcases List.mem_cons.mp ha with rfl | ha
  · rw [h1] at z; cases z
  · rcases List.mem_cons.mp ha with rfl | ha
    · rw [h2] at z; cases z
    · cases ha
theorem SlV.here {o : Option V} {z : Sl} {fp : List Addr} (h : SlV K F H o z fp) : ∀ a ∈ fp, H a ≠ none := by
  cases h with
  | un => intro a ha; cases ha
  | sh r => intro a ha; cases ha
  | ow r => exact r.here
  | bx r => exact r.here
  | le r => exact r.here
  | lb r => exact r.here
  | er h r =>
    intro a ha z
    rw [List.mem_singleton.mp ha, h] at z
    cases z
theorem Slots.mono (s : Le F F') {σ : L2.St} {ρ : List Sl} {fp : List Addr} (e : ∀ a ∈ fp, H' a = H a) (h : Slots K F H σ ρ fp) : Slots K F' H' σ ρ fp := by
  induction h with
  | nil => exact .nil
  | cons h r ih => exact .cons (h.mono s fun a ha => e a (List.mem_append_left _ ha)) (ih fun a ha => e a (List.mem_append_right _ ha))
theorem Slots.here {σ : L2.St} {ρ : List Sl} {fp : List Addr} (h : Slots K F H σ ρ fp) : ∀ a ∈ fp, H a ≠ none := by
  induction h with
  | nil => intro a ha; cases ha
  | cons h r ih =>
    intro a ha
    rcases List.mem_append.mp ha with ha | ha
    · exact h.here a ha
    · exact ih a ha
theorem Slots.len {σ : L2.St} {ρ : List Sl} {fp : List Addr} (h : Slots K F H σ ρ fp) : σ.length = ρ.length := by
  induction h with
  | nil => rfl
  | cons h r ih => simp [ih]
/-- the slot i, and what becomes of it -/
theorem Slots.at {σ : L2.St} {ρ : List Sl} {fp : List Addr} (h : Slots K F H σ ρ fp) : ∀ {i : Nat} {s : Sl}, ρ[i]? = some s → ∃ (o : Option V) (l f r : List Addr), fp = l ++ (f ++ r) ∧ σ[i]? = some o ∧ SlV K F H o s f ∧
    ∀ (o' : Option V) (s' : Sl) (f' : List Addr), SlV K F H o' s' f' → Slots K F H (σ.set i o') (ρ.set i s') (l ++ (f' ++ r)) := by
  induction h with
  | nil => intro i s e; cases e
  | @cons o s0 f fp σ ρ h r ih =>
    intro i s e
    cases i with
    | zero =>
      obtain rfl : s0 = s := Option.some.inj e
      exact ⟨o, [], f, fp, rfl, rfl, h, fun o' s' f' h' => by show Slots K F H (o' :: σ) (s' :: ρ) (f' ++ fp); exact .cons h' r⟩
    | succ i =>
      obtain ⟨o1, l, f1, r1, e1, e2, h1, k⟩ := ih (i := i) (s := s) e
      refine ⟨o1, f ++ l, f1, r1, by rw [e1, List.append_assoc], e2, h1, fun o' s' f' h' => ?_⟩
      rw [List.append_assoc]
      exact .cons h (k o' s' f' h')
theorem Slots.app {σ σ' : L2.St} {ρ ρ' : List Sl} {fp fp' : List Addr} (h : Slots K F H σ ρ fp) (h' : Slots K F H σ' ρ' fp') : Slots K F H (σ ++ σ') (ρ ++ ρ') (fp ++ fp') := by
  induction h with
  | nil => exact h'
  | cons h r ih => rw [List.append_assoc]; exact .cons h ih
theorem Slots.split {σ' : L2.St} {ρ' : List Sl} : ∀ {σ : L2.St} {ρ : List Sl} {fp : List Addr}, σ.length = ρ.length → Slots K F H (σ ++ σ') (ρ ++ ρ') fp → ∃ f1 f2, fp = f1 ++ f2 ∧ Slots K F H σ ρ f1 ∧ Slots K F H σ' ρ' f2
  | [], [], fp, _, h => ⟨[], fp, rfl, .nil, h⟩
  | [], _ :: _, _, e, _ => by simp at e
  | _ :: _, [], _, e, _ => by simp at e
  | o :: σ, s :: ρ, fp, e, h => by
    cases h with
    | cons h r =>
      obtain ⟨f1, f2, rfl, h1, h2⟩ := Slots.split (by simpa using e) r
      exact ⟨_ ++ f1, f2, by rw [List.append_assoc], .cons h h1, h2⟩
end
/-! ### what a call stands in -/
/-- the heap, what is frozen, what is lent, at the entry -/
structure Ent where
  H : Hp
  F : Hp
  fp : List Addr
structure Good (G : Ent) (F H : Hp) (fp : List Addr) : Prop where
  sub : Le F H
  f0 : Le G.F F
  fN : ∀ a, F a ≠ none → G.F a ≠ none ∨ G.H a = none ∨ a ∈ G.fp
  frm : ∀ a o, G.H a = some o → a ∉ G.fp → H a = some o
  all : ∀ a, G.H a ≠ none → H a ≠ none
  own : ∀ a ∈ fp, a ∈ G.fp ∨ G.H a = none
  nf : ∀ a ∈ fp, F a = none
  nd : fp.Nodup
/-- slots σ are told by ρ, what is held besides, τ, by δ -/
def Rel (K : PySem.W.Frag) (G : Ent) (H : Hp) (σ : L2.St) (ρ : List Sl) (τ : L2.St) (δ : List Sl) : Prop :=
  ∃ F f1 f2, Good G F H (f1 ++ f2) ∧ Slots K F H τ δ f1 ∧ Slots K F H σ ρ f2
section
variable {K : PySem.W.Frag} {G : Ent} {F F' H H' : Hp} {fp fp' : List Addr}
theorem Good.perm (g : Good G F H fp) (p : fp'.Perm fp) : Good G F H fp' :=
  ⟨g.sub, g.f0, g.fN, g.frm, g.all, fun a ha => g.own a (p.subset ha), fun a ha => g.nf a (p.subset ha), p.nodup_iff.mpr g.nd⟩
theorem Good.less (g : Good G F H fp) (p : fp'.Sublist fp) : Good G F H fp' :=
  ⟨g.sub, g.f0, g.fN, g.frm, g.all, fun a ha => g.own a (p.subset ha), fun a ha => g.nf a (p.subset ha), g.nd.sublist p⟩
theorem Good.cnt (g : Good G F H fp) (h : ∀ a, fp'.count a ≤ fp.count a) : Good G F H fp' := by
  have hm : ∀ a ∈ fp', a ∈ fp := fun a ha => List.count_pos_iff.mp (Nat.lt_of_lt_of_le (List.count_pos_iff.mpr ha) (h a))
  exact ⟨g.sub, g.f0, g.fN, g.frm, g.all, fun a ha => g.own a (hm a ha), fun a ha => g.nf a (hm a ha), List.nodup_iff_count.mpr fun a => Nat.le_trans (h a) (List.nodup_iff_count.mp g.nd a)⟩
/-- a new object, owned -/
theorem Good.newO (g : Good G F H fp) (hin : ∀ a ∈ fp, H a ≠ none) {p : Addr} (hp : H p = none) (o : HO) : Good G F (upd H p o) (p :: fp) := by
  have hG : G.H p = none := by
    cases e : G.H p with
    | none => rfl
    | some u => exact absurd hp (g.all p (by rw [e]; intro z; cases z))
  have hF : F p = none := by
    cases e : F p with
    | none => rfl
    | some u => have := g.sub p u e; rw [hp] at this; cases this
  refine ⟨fun a u e => ?_, g.f0, g.fN, fun a u e hn => ?_, fun a e => ?_, fun a ha => ?_, fun a ha => ?_, List.nodup_cons.mpr ⟨fun z => hin p z hp, g.nd⟩⟩
  · have h1 := g.sub a u e
    rw [upd_ne (ne_of_none h1 hp)]; exact h1
  · have h1 := g.frm a u e hn
    rw [upd_ne (ne_of_none h1 hp)]; exact h1
  · by_cases h : a = p
    · rw [h, upd_same]; intro z; cases z
    · rw [upd_ne h]; exact g.all a e
  · rcases List.mem_cons.mp ha with rfl | ha
    · exact .inr hG
    · exact g.own a ha
  · rcases List.mem_cons.mp ha with rfl | ha
    · exact hF
    · exact g.nf a ha
/-- what is owned is frozen -/
def fzH (F H : Hp) (f : List Addr) : Hp := fun a => if a ∈ f then H a else F a
theorem fzH_in {f : List Addr} {a : Addr} (h : a ∈ f) : fzH F H f a = H a := by unfold fzH; rw [if_pos h]
theorem fzH_out {f : List Addr} {a : Addr} (h : a ∉ f) : fzH F H f a = F a := by unfold fzH; rw [if_neg h]
theorem fzH_le {f : List Addr} (h : ∀ a ∈ f, F a = none) : Le F (fzH F H f) := fun a o e => by
  rw [fzH_out]
  · exact e
  · intro z
    rw [h a z] at e
    cases e
/-- the frozen part may grow by owned things -/
theorem Good.fz {f : List Addr} (g : Good G F H (f ++ fp)) : Good G (fzH F H f) H fp := by
  have hf : ∀ a ∈ f, F a = none := fun a ha => g.nf a (List.mem_append_left _ ha)
  refine ⟨fun a o e => ?_, g.f0.trans (fzH_le hf), fun a e => ?_, g.frm, g.all, fun a ha => g.own a (List.mem_append_right _ ha), fun a ha => ?_, (List.nodup_append.mp g.nd).2.1⟩
  · by_cases h : a ∈ f
    · rw [fzH_in h] at e; exact e
    · rw [fzH_out h] at e; exact g.sub a o e
  · by_cases h : a ∈ f
    · exact .inr ((g.own a (List.mem_append_left _ h)).symm)
    · rw [fzH_out h] at e; exact g.fN a e
  · have : a ∉ f := fun z => (List.nodup_append.mp g.nd).2.2 a z a ha rfl
    rw [fzH_out this]
    exact g.nf a (List.mem_append_right _ ha)
/-- an owned thing changes -/
theorem Good.mut (g : Good G F H fp) {a : Addr} (ha : a ∈ fp) (o : HO) : Good G F (upd H a o) fp := by
  have hF := g.nf a ha
  refine ⟨fun b u e => ?_, g.f0, g.fN, fun b u e hn => ?_, fun b e => ?_, g.own, g.nf, g.nd⟩
  · have hb : b ≠ a := fun z => by rw [z, hF] at e; cases e
    rw [upd_ne hb]; exact g.sub b u e
  · have hb : b ≠ a := fun z => by
      rcases g.own a ha with q | q
      · exact hn (z ▸ q)
      · rw [z, q] at e; cases e
    rw [upd_ne hb]; exact g.frm b u e hn
  · by_cases h : b = a
    · rw [h, upd_same]; intro z; cases z
    · rw [upd_ne h]; exact g.all b e
end
end Dl
namespace Dl
open PySem PySem.Spec PyProof.Rows L2
/-! ### moves of the relation -/
section
variable {K : PySem.W.Frag} {G : Ent} {H H' : Hp} {σ τ : L2.St} {ρ δ : List Sl} {v x : V} {s : Sl} {d : D}
/-- a text, a number, a truth, None -/
def D.val : D → Option V
  | .non => some .non
  | .bl b => some (.bl b)
  | .int i => some (.int i)
  | .str x => some (.str x)
  | _ => none
theorem Rep.val {F : Hp} {v u : V} {d : D} (h : Rep K F v d) (e : d.val = some u) : v = u := by
  cases h <;> first | exact Option.some.inj e | cases e
theorem rep_val {F : Hp} {v : V} {d : D} (e : d.val = some v) : Rep K F v d := by
  cases d <;> first | (cases e; done) | (cases e; constructor)
theorem Rel.pop {o : Option V} (h : Rel K G H σ ρ (o :: τ) (s :: δ)) : Rel K G H σ ρ τ δ := by
  obtain ⟨F, f1, f2, g, ht, hs⟩ := h
  cases ht with
  | cons h1 h2 => exact ⟨F, _, f2, g.cnt (by intro a; simp only [List.count_append]; omega), h2, hs⟩
theorem Rel.push (h : Rel K G H σ ρ τ δ) (e : d.val = some v) : Rel K G H σ ρ (some v :: τ) (.sh d :: δ) := by
  obtain ⟨F, f1, f2, g, ht, hs⟩ := h
  exact ⟨F, _, f2, g, .cons (.sh (rep_val e)) ht, hs⟩
/-- the top is data of one value -/
theorem Rel.topv {u : V} (h : Rel K G H σ ρ (some v :: τ) (.sh d :: δ)) (e : d.val = some u) : v = u := by
  obtain ⟨F, f1, f2, g, ht, hs⟩ := h
  cases ht with
  | cons h1 h2 => cases h1 with | sh r => exact r.val e
theorem Rel.swap {o o' : Option V} {s' : Sl} (h : Rel K G H σ ρ (o :: o' :: τ) (s :: s' :: δ)) : Rel K G H σ ρ (o' :: o :: τ) (s' :: s :: δ) := by
  obtain ⟨F, f1, f2, g, ht, hs⟩ := h
  cases ht with
  | cons h1 h2 =>
    cases h2 with
    | @cons _ _ fb fr _ _ h2 h3 =>
      rename_i fa
      exact ⟨F, _, f2, g.cnt (by intro a; simp only [List.count_append]; omega), .cons h2 (.cons h1 h3), hs⟩
theorem Rel.len (h : Rel K G H σ ρ τ δ) : σ.length = ρ.length ∧ τ.length = δ.length := by
  obtain ⟨F, f1, f2, g, ht, hs⟩ := h
  exact ⟨hs.len, ht.len⟩
/-- a slot is read -/
theorem Rel.get {i : Nat} (h : Rel K G H σ ρ τ δ) (e : ρ[i]? = some (.sh d)) : ∃ v, σ[i]? = some (some v) ∧ Rel K G H σ ρ (some v :: τ) (.sh d :: δ) := by
  obtain ⟨F, f1, f2, g, ht, hs⟩ := h
  obtain ⟨o, l, f, r, e1, e2, h1, _⟩ := hs.at e
  cases h1 with
  | sh q => exact ⟨_, e2, F, _, f2, g, .cons (.sh q) ht, hs⟩
/-- a slot takes what is held -/
theorem Rel.set {o : Option V} {i : Nat} (h : Rel K G H σ ρ (o :: τ) (s :: δ)) (hi : i < ρ.length) : Rel K G H (σ.set i o) (ρ.set i s) τ δ := by
  obtain ⟨F, f1, f2, g, ht, hs⟩ := h
  cases ht with
  | cons h1 h2 =>
    rename_i fa fb
    obtain ⟨o1, l, f, r, e1, e2, h3, k⟩ := hs.at (i := i) (s := ρ[i]) (by rw [List.getElem?_eq_getElem hi])
    subst e1
    exact ⟨F, fb, _, g.cnt (by intro a; simp only [List.count_append]; omega), h2, k _ _ _ h1⟩
/-- freeze what is held -/
def Sl.fz : Sl → Sl
  | .ow _ d => .sh d
  | .sh d => .sh d
  | _ => .un
theorem SlV.fz {F F' : Hp} {o : Option V} {s : Sl} {fp : List Addr} (l : Le F F') (e : ∀ a ∈ fp, F' a = H a) (h : SlV K F H o s fp) : SlV K F' H' o s.fz [] := by
  cases h with
  | un => exact .un
  | sh r => exact .sh (r.mono l)
  | ow r => exact .sh (r.fz l e)
  | _ => exact .un
theorem Rel.fz {o : Option V} (h : Rel K G H σ ρ (o :: τ) (s :: δ)) : Rel K G H σ ρ (o :: τ) (s.fz :: δ) := by
  obtain ⟨F, f1, f2, g, ht, hs⟩ := h
  cases ht with
  | cons h1 h2 =>
    rename_i fa fb
    rw [List.append_assoc] at g
    have hf : ∀ a ∈ fa, F a = none := fun a ha => g.nf a (List.mem_append_left _ ha)
    exact ⟨fzH F H fa, _, f2, g.fz, .cons (h1.fz (fzH_le hf) fun a ha => fzH_in ha) (h2.mono (fzH_le hf) fun _ _ => rfl), hs.mono (fzH_le hf) fun _ _ => rfl⟩
/-- freeze a slot -/
theorem Rel.fzAt {i : Nat} (h : Rel K G H σ ρ τ δ) (e : ρ[i]? = some s) : Rel K G H σ (ρ.set i s.fz) τ δ := by
  obtain ⟨F, f1, f2, g, ht, hs⟩ := h
  obtain ⟨o, l, f, r, e1, e2, h1, k⟩ := hs.at e
  subst e1
  have g' : Good G F H (f ++ (f1 ++ (l ++ r))) := g.cnt (by intro a; simp only [List.count_append]; omega)
  have hf : ∀ a ∈ f, F a = none := fun a ha => g'.nf a (List.mem_append_left _ ha)
  have hs' := hs.mono (F' := fzH F H f) (H' := H) (fzH_le hf) fun _ _ => rfl
  obtain ⟨o', l', f', r', e1', e2', h1', k'⟩ := hs'.at e
  have k2 := (k o .un [] .un).mono (F' := fzH F H f) (H' := H) (fzH_le hf) fun _ _ => rfl
  have hlt : i < ρ.length := by
    rcases Nat.lt_or_ge i ρ.length with z | z
    · exact z
    · rw [List.getElem?_eq_none z] at e; cases e
  obtain ⟨o2, l2, f2, r2, e12, e22, h12, k3⟩ := k2.at (i := i) (s := .un) (by rw [List.getElem?_set_self hlt])
  have k4 := k3 o s.fz [] (h1.fz (fzH_le hf) fun a ha => fzH_in ha)
  have : f2 = [] := by cases h12; rfl
  subst this
  rw [List.set_set, List.set_set] at k4
  have eσ : σ.set i o = σ := by
    apply List.ext_getElem?
    intro j
    by_cases hj : j = i
    · subst hj; rw [e2]; exact List.getElem?_set_self (by rw [hs.len]; exact hlt)
    · rw [List.getElem?_set_ne (Ne.symm hj)]
  rw [eσ] at k4
  simp only [List.nil_append] at e12 k4
  rw [← e12] at k4
  exact ⟨fzH F H f, f1, l ++ r, g'.fz, ht.mono (fzH_le hf) fun _ _ => rfl, k4⟩
/-- the second of what is held goes -/
theorem Rel.drop2 {o o' : Option V} {s' : Sl} (h : Rel K G H σ ρ (o :: o' :: τ) (s :: s' :: δ)) : Rel K G H σ ρ (o :: τ) (s :: δ) := h.swap.pop
theorem Rel.dropN {o : Option V} : ∀ {τ' : L2.St} {δ' : List Sl}, τ'.length = δ'.length → Rel K G H σ ρ (o :: (τ' ++ τ)) (s :: (δ' ++ δ)) → Rel K G H σ ρ (o :: τ) (s :: δ)
  | [], [], _, h => h
  | [], _ :: _, e, _ => by simp at e
  | _ :: _, [], e, _ => by simp at e
  | _ :: _, _ :: _, e, h => Rel.dropN (by simpa using e) h.drop2
theorem Rel.popN : ∀ {τ' : L2.St} {δ' : List Sl}, τ'.length = δ'.length → Rel K G H σ ρ (τ' ++ τ) (δ' ++ δ) → Rel K G H σ ρ τ δ
  | [], [], _, h => h
  | [], _ :: _, e, _ => by simp at e
  | _ :: _, [], e, _ => by simp at e
  | _ :: _, _ :: _, e, h => Rel.popN (by simpa using e) h.pop
/-- what is held below comes to the top -/
theorem Rel.rot {o : Option V} {τ' : L2.St} {δ' : List Sl} (e : τ'.length = δ'.length) (h : Rel K G H σ ρ (τ' ++ o :: τ) (δ' ++ s :: δ)) : Rel K G H σ ρ (o :: (τ' ++ τ)) (s :: (δ' ++ δ)) := by
  obtain ⟨F, f1, f2, g, ht, hs⟩ := h
  obtain ⟨fa, fb, rfl, h1, h2⟩ := ht.split e
  cases h2 with
  | cons h3 h4 => exact ⟨F, _, f2, g.cnt (by intro a; simp only [List.count_append]; omega), .cons h3 (h1.app h4), hs⟩
theorem Slots.shs {F : Hp} : ∀ {vs : List V} {ds : List D} {f : List Addr}, vs.length = ds.length → Slots K F H (vs.map some ++ τ) (ds.map Sl.sh ++ δ) f → RepL K F vs ds ∧ Slots K F H τ δ f
  | [], [], _, _, h => ⟨.nil, h⟩
  | [], _ :: _, _, e, _ => by simp at e
  | _ :: _, [], _, e, _ => by simp at e
  | v :: vs, d :: ds, f, e, h => by
    cases h with
    | cons h1 h2 =>
      cases h1 with
      | sh r =>
        obtain ⟨a, b⟩ := Slots.shs (by simpa using e) h2
        exact ⟨.cons r a, b⟩
theorem upd_fz {F : Hp} {p : Addr} {o : HO} : fzH F (upd H p o) [p] = upd F p o := by
  funext a
  by_cases h : a = p
  · subst h; rw [fzH_in (by simp), upd_same, upd_same]
  · rw [fzH_out (by simpa using h), upd_ne h]
theorem le_new {F : Hp} {p : Addr} {o : HO} (h : F p = none) : Le F (upd F p o) := fun a u e => by rw [upd_ne (ne_of_none e h)]; exact e
theorem Rel.newF {ds : List D} {vs : List V} {p : Addr} {o : HO} (hp : H p = none) (e : vs.length = ds.length) (h : Rel K G H σ ρ (vs.map some ++ τ) (ds.map Sl.sh ++ δ)) (hd : ∀ F, RepL K F vs ds → F p = some o → Rep K F (.ref p) d) :
    Rel K G (upd H p o) σ ρ (some (.ref p) :: τ) (.sh d :: δ) := by
  obtain ⟨F, f1, f2, g, ht, hs⟩ := h
  obtain ⟨hr, ht⟩ := ht.shs e
  have hin : ∀ a ∈ f1 ++ f2, H a ≠ none := fun a ha => by
    rcases List.mem_append.mp ha with z | z
    · exact ht.here a z
    · exact hs.here a z
  have g1 := g.newO hin hp o
  have hF : F p = none := g1.nf p (by simp)
  have g2 : Good G (upd F p o) (upd H p o) (f1 ++ f2) := by
    have := Good.fz (f := [p]) (fp := f1 ++ f2) g1
    rwa [upd_fz] at this
  have hn : ∀ a ∈ f1 ++ f2, upd H p o a = H a := fun a ha => upd_ne fun z => hin a ha (by rw [z]; exact hp)
  have l := le_new (o := o) hF
  exact ⟨_, f1, f2, g2, .cons (.sh (hd _ (hr.mono l) upd_same)) (ht.mono l fun a ha => hn a (List.mem_append_left _ ha)), hs.mono l fun a ha => hn a (List.mem_append_right _ ha)⟩
theorem Rel.tup {ds : List D} {vs : List V} {p : Addr} (hp : H p = none) (e : vs.length = ds.length) (h : Rel K G H σ ρ (vs.map some ++ τ) (ds.map Sl.sh ++ δ)) : Rel K G (upd H p (.tup vs)) σ ρ (some (.ref p) :: τ) (.sh (.tup ds) :: δ) :=
  h.newF hp e fun F r z => .tup (SqT.of z) r
theorem RepL.own {F : Hp} : ∀ {vs : List V} {ds : List D}, RepL K F vs ds → OwnL K F H .fr vs ds []
  | _, _, .nil => .nil
  | _, _, .cons r t => .cons (f := []) (.fr r) (RepL.own t)
theorem OwnL.rep {F : Hp} : ∀ {vs : List V} {ds : List D} {fp : List Addr}, OwnL K F H .fr vs ds fp → RepL K F vs ds ∧ fp = []
  | _, _, _, .nil => ⟨.nil, rfl⟩
  | _, _, _, .cons (.fr r) t => by
    obtain ⟨a, rfl⟩ := OwnL.rep t
    exact ⟨.cons r a, rfl⟩
theorem RepK.own {F : Hp} : ∀ {vs : List (Key × V)} {ds : List (Key × D)}, RepK K F vs ds → OwnK K F H .fr vs ds []
  | _, _, .nil => .nil
  | _, _, .cons r t => .cons (f := []) (.fr r) (RepK.own t)
theorem OwnK.rep {F : Hp} : ∀ {vs : List (Key × V)} {ds : List (Key × D)} {fp : List Addr}, OwnK K F H .fr vs ds fp → RepK K F vs ds ∧ fp = []
  | _, _, _, .nil => ⟨.nil, rfl⟩
  | _, _, _, .cons (.fr r) t => by
    obtain ⟨a, rfl⟩ := OwnK.rep t
    exact ⟨.cons r a, rfl⟩
/-- a new owned thing -/
theorem Rel.newO {ds : List D} {vs : List V} {p : Addr} {o : HO} {s : Sh} (hp : H p = none) (e : vs.length = ds.length) (h : Rel K G H σ ρ (vs.map some ++ τ) (ds.map Sl.sh ++ δ)) (hd : ∀ F, RepL K F vs ds → Own K F (upd H p o) s (.ref p) d [p]) :
    Rel K G (upd H p o) σ ρ (some (.ref p) :: τ) (.ow s d :: δ) := by
  obtain ⟨F, f1, f2, g, ht, hs⟩ := h
  obtain ⟨hr, ht⟩ := ht.shs e
  have hin : ∀ a ∈ f1 ++ f2, H a ≠ none := fun a ha => by
    rcases List.mem_append.mp ha with z | z
    · exact ht.here a z
    · exact hs.here a z
  have hn : ∀ a ∈ f1 ++ f2, upd H p o a = H a := fun a ha => upd_ne fun z => hin a ha (by rw [z]; exact hp)
  exact ⟨F, p :: f1, f2, g.newO hin hp o, .cons (.ow (hd F hr)) (ht.mono Le.rfl fun a ha => hn a (List.mem_append_left _ ha)), hs.mono Le.rfl fun a ha => hn a (List.mem_append_right _ ha)⟩
theorem Rel.lst {ds : List D} {vs : List V} {p : Addr} (hp : H p = none) (e : vs.length = ds.length) (h : Rel K G H σ ρ (vs.map some ++ τ) (ds.map Sl.sh ++ δ)) : Rel K G (upd H p (.lst vs)) σ ρ (some (.ref p) :: τ) (.ow (.ol .fr) (.lst ds) :: δ) :=
  h.newO hp e fun F r => .ol upd_same r.own
end
/-! ### the plain reading: data, slots, errors -/
structure Er where
  c : Nat
  d : D
abbrev Env := List Sl
structure M (α : Type) where
  wp : Env → (α → Env → Prop) → (Er → Env → Prop) → Prop
  mono : ∀ {ρ : Env} {Q Q' : α → Env → Prop} {E E' : Er → Env → Prop}, (∀ a r, Q a r → Q' a r) → (∀ e r, E e r → E' e r) → wp ρ Q E → wp ρ Q' E'
namespace M
variable {α β : Type}
def ret (a : α) : M α := ⟨fun ρ Q _ => Q a ρ, fun h _ w => h _ _ w⟩
def bind (m : M α) (k : α → M β) : M β := ⟨fun ρ Q E => m.wp ρ (fun a r => (k a).wp r Q E) E, fun h h' w => m.mono (fun _ _ z => (k _).mono h h' z) h' w⟩
def stuck : M α := ⟨fun _ _ _ => False, fun _ _ w => w⟩
def opt : Option α → M α
  | some a => ret a
  | none => stuck
def raise (e : Er) : M α := ⟨fun ρ _ E => E e ρ, fun _ h w => h _ _ w⟩
def get : M Env := ⟨fun ρ Q _ => Q ρ ρ, fun h _ w => h _ _ w⟩
def set (r : Env) : M Unit := ⟨fun _ Q _ => Q () r, fun h _ w => h _ _ w⟩
/-- any that p admits -/
def any (p : α → Prop) : M α := ⟨fun ρ Q _ => ∀ a, p a → Q a ρ, fun h _ w a z => h _ _ (w a z)⟩
def ite (b : Bool) (m k : M α) : M α := ⟨fun ρ Q E => if b = true then m.wp ρ Q E else k.wp ρ Q E, fun {ρ Q Q' E E'} h h' w => by
  cases b with
  | true => exact m.mono h h' w
  | false => exact k.mono h h' w⟩
end M
abbrev ME := M Sl
abbrev MT := M Bool
abbrev MA := M (List Sl)
/-- the error er is wished for -/
def XE (E : XK) (H : Hp) (C : Addr) (f : Str) (v : V) : Prop := ∀ d : Addr, H d = none → E (.ref C) (some d) (upd H d (.xd [(f, v)]))
abbrev WS := L2.St → XK
/-- what is to follow an error -/
abbrev exQ (K : PySem.W.Frag) (W : WS) (G : Ent) (σ τ : L2.St) (δ : List Sl) : Er → Env → Prop := fun er ρ' => ∀ v H', Rel K G H' σ ρ' (some v :: τ) (.sh er.d :: δ) → XE (W σ) H' (He.ga K (en er.c)) (ef er.c) v
def EOk (K : PySem.W.Frag) (W : WS) (t : TE) (m : ME) : Prop := ∀ (G : Ent) (H : Hp) (σ : L2.St) (ρ : Env) (τ : L2.St) (δ : List Sl) (Q : VK), Rel K G H σ ρ τ δ →
  m.wp ρ (fun s ρ' => ∀ v H', Rel K G H' σ ρ' (some v :: τ) (s :: δ) → Q v H') (exQ K W G σ τ δ) → t σ H Q
def TOk (K : PySem.W.Frag) (W : WS) (t : TT) (m : MT) : Prop := ∀ (G : Ent) (H : Hp) (σ : L2.St) (ρ : Env) (τ : L2.St) (δ : List Sl) (Q : Bool → Hp → Prop), Rel K G H σ ρ τ δ →
  m.wp ρ (fun b ρ' => ∀ H', Rel K G H' σ ρ' τ δ → Q b H') (exQ K W G σ τ δ) → t σ H Q
def AOk (K : PySem.W.Frag) (W : WS) (t : TA) (m : MA) : Prop := ∀ (G : Ent) (H : Hp) (σ : L2.St) (ρ : Env) (τ : L2.St) (δ : List Sl) (Q : List V → Hp → Prop), Rel K G H σ ρ τ δ →
  m.wp ρ (fun ss ρ' => ∀ vs H', vs.length = ss.length → Rel K G H' σ ρ' (vs.map some ++ τ) (ss ++ δ) → Q vs H') (exQ K W G σ τ δ) → t σ H Q
def R2Ok (K : PySem.W.Frag) (r : R2) (f : Sl → Sl → ME) : Prop := ∀ (G : Ent) (H : Hp) (σ : L2.St) (ρ : Env) (τ : L2.St) (δ : List Sl) (x y : V) (s1 s2 : Sl) (Q : VK) (E : Er → Env → Prop), Rel K G H σ ρ (some y :: some x :: τ) (s2 :: s1 :: δ) →
  (f s1 s2).wp ρ (fun s ρ' => ∀ v H', Rel K G H' σ ρ' (some v :: τ) (s :: δ) → Q v H') E → r x y H Q
def R1Ok (K : PySem.W.Frag) (r : V → Hp → VK → Prop) (f : Sl → ME) : Prop := ∀ (G : Ent) (H : Hp) (σ : L2.St) (ρ : Env) (τ : L2.St) (δ : List Sl) (x : V) (s1 : Sl) (Q : VK) (E : Er → Env → Prop), Rel K G H σ ρ (some x :: τ) (s1 :: δ) →
  (f s1).wp ρ (fun s ρ' => ∀ v H', Rel K G H' σ ρ' (some v :: τ) (s :: δ) → Q v H') E → r x H Q
/-- plain functions of data -/
def op2 (g : D → D → Option D) : Sl → Sl → ME
  | .sh a, .sh b => match g a b with
    | some d => M.ret (.sh d)
    | none => M.stuck
  | _, _ => M.stuck
def op1 (g : D → Option D) : Sl → ME
  | .sh a => match g a with
    | some d => M.ret (.sh d)
    | none => M.stuck
  | _ => M.stuck
def mOp (f : Sl → Sl → ME) (a b : ME) : ME := a.bind fun x => b.bind fun y => f x y
def mUn (f : Sl → ME) (a : ME) : ME := a.bind f
def mVar (i : Nat) : ME := ⟨fun ρ Q _ => match ρ[i]? with
  | some (.sh d) => Q (.sh d) ρ
  | _ => False, fun {ρ Q Q' E E'} h _ w => by
    revert w
    split
    · exact fun w => h _ _ w
    · exact id⟩
def mC (d : D) : ME := M.ret (.sh d)
/-- what is owned is shared from now on -/
def mFz (a : ME) : ME := a.bind fun s => M.ret s.fz
section
variable {K : PySem.W.Frag} {W : WS} {ta tb tc : TE} {ma mb mc : ME} {r r' : R2} {f f' : Sl → Sl → ME}
theorem eVar {i : Nat} : EOk K W (tVar i) (mVar i) := by
  intro G H σ ρ τ δ Q h w
  unfold mVar at w
  simp only at w
  split at w
  · rename_i d e
    obtain ⟨v, e1, h1⟩ := h.get e
    exact ⟨v, e1, w v H h1⟩
  · exact w.elim
theorem eC {v : V} {d : D} (e : d.val = some v := by rfl) : EOk K W (tC v) (mC d) := fun G H σ ρ τ δ Q h w => w v H (h.push e)
theorem eFz {t : TE} (h : EOk K W t ma) : EOk K W t (mFz ma) := fun G H σ ρ τ δ Q hr w => h G H σ ρ τ δ Q hr (ma.mono (fun s ρ' z v H' q => z v H' q.fz) (fun _ _ z => z) w)
theorem eOp (hr : R2Ok K r f) (ha : EOk K W ta ma) (hb : EOk K W tb mb) : EOk K W (tOp r ta tb) (mOp f ma mb) := fun G H σ ρ τ δ Q h w =>
  ha G H σ ρ τ δ _ h (ma.mono (fun s1 ρ1 w1 v1 H1 h1 => hb G H1 σ ρ1 _ _ _ h1 (mb.mono (fun s2 ρ2 w2 v2 H2 h2 => hr G H2 σ ρ2 τ δ v1 v2 s1 s2 Q _ h2 w2) (fun e ρ' z v H' q => z v H' q.drop2) w1)) (fun _ _ z => z) w)
end
end Dl
namespace Dl
open PySem PySem.Spec PyProof.Rows L2
/-! ### what data is -/
section
variable {K : PySem.W.Frag} {F : Hp}
theorem RepL.len {F : Hp} : ∀ {vs : List V} {ds : List D}, RepL K F vs ds → vs.length = ds.length
  | _, _, .nil => rfl
  | _, _, .cons _ t => by simp [RepL.len t]
theorem RepL.get {F : Hp} : ∀ {vs : List V} {ds : List D} {i : Nat} {d : D}, RepL K F vs ds → ds[i]? = some d → ∃ v, vs[i]? = some v ∧ Rep K F v d
  | _, _, _, _, .nil, e => by cases e
  | _, _, 0, _, .cons r _, e => by cases e; exact ⟨_, rfl, r⟩
  | _, _, i + 1, _, .cons _ t, e => RepL.get (i := i) t e
theorem RepL.drop {F : Hp} : ∀ {vs : List V} {ds : List D} (n : Nat), RepL K F vs ds → RepL K F (vs.drop n) (ds.drop n)
  | _, _, 0, h => h
  | _, _, _ + 1, .nil => .nil
  | _, _, n + 1, .cons _ t => RepL.drop n t
theorem RepL.take {F : Hp} : ∀ {vs : List V} {ds : List D} (n : Nat), RepL K F vs ds → RepL K F (vs.take n) (ds.take n)
  | _, _, 0, _ => .nil
  | _, _, _ + 1, .nil => .nil
  | _, _, n + 1, .cons r t => .cons r (RepL.take n t)
theorem RepL.app {F : Hp} : ∀ {vs us : List V} {ds es : List D}, RepL K F vs ds → RepL K F us es → RepL K F (vs ++ us) (ds ++ es)
  | _, _, _, _, .nil, h => h
  | _, _, _, _, .cons r t, h => .cons r (RepL.app t h)
theorem RepL.rev {F : Hp} : ∀ {vs : List V} {ds : List D}, RepL K F vs ds → RepL K F vs.reverse ds.reverse
  | _, _, .nil => .nil
  | _, _, .cons r t => by rw [List.reverse_cons, List.reverse_cons]; exact (RepL.rev t).app (.cons r .nil)
theorem RepL.set {F : Hp} {x : V} {d : D} (r : Rep K F x d) : ∀ {vs : List V} {ds : List D} (i : Nat), RepL K F vs ds → RepL K F (vs.set i x) (ds.set i d)
  | _, _, _, .nil => .nil
  | _, _, 0, .cons _ t => .cons r t
  | _, _, i + 1, .cons q t => .cons q (RepL.set r i t)
theorem RepL.ints {F : Hp} : ∀ {vs : List V} {ns : List Int}, RepL K F vs (ns.map D.int) → vs = ns.map V.int
  | _, [], .nil => rfl
  | _, n :: ns, .cons (.int _) t => by rw [RepL.ints t]; rfl
theorem RepL.of_ints {F : Hp} : ∀ (ns : List Int), RepL K F (ns.map V.int) (ns.map D.int)
  | [] => .nil
  | n :: ns => .cons (.int n) (RepL.of_ints ns)
/-- an attribute by its place -/
theorem look_at : ∀ {fs : List (Str × V)} {ns : List Str} {i : Nat} {f : Str} {v : V}, fs.map (·.1) = ns → (ns.findIdx? (· == f)) = some i → (fs.map (·.2))[i]? = some v → fs.lookup f = some v
  | [], _, i, f, v, e, h, q => by cases q
  | (k, u) :: fs, _, i, f, v, e, h, q => by
    subst e
    rw [List.map_cons, List.findIdx?_cons] at h
    rw [List.lookup_cons]
    cases hk : k == f with
    | true =>
      rw [hk] at h
      cases h
      have : f == k := by rw [beq_iff_eq] at hk ⊢; exact hk.symm
      rw [this]
      exact q
    | false =>
      rw [hk] at h
      have : (f == k) = false := by
        rw [beq_eq_false_iff_ne] at hk ⊢; exact fun z => hk z.symm
      rw [this]
      simp only [Bool.false_eq_true, if_false] at h
      cases hj : (List.map (fun x => x.1) fs).findIdx? (fun x => x == f) with
      | none => rw [hj] at h; cases h
      | some j =>
        rw [hj] at h
        cases h
        exact look_at rfl hj q
theorem look_no : ∀ {fs : List (Str × V)} {f : Str}, f ∉ fs.map (·.1) → fs.lookup f = none
  | [], _, _ => rfl
  | (k, u) :: fs, f, h => by
    rw [List.lookup_cons]
    have : (f == k) = false := by
      rw [beq_eq_false_iff_ne]; exact fun z => h (by rw [z]; simp)
    rw [this]
    exact look_no fun z => h (List.mem_cons_of_mem _ z)
end
section
variable {K : PySem.W.Frag} {G : Ent} {H H' : Hp} {σ τ : L2.St} {ρ δ : List Sl} {v x : V} {s : Sl} {d : D}
/-- what may be handed on, by what is frozen -/
structure Fz (K : PySem.W.Frag) (G : Ent) (H : Hp) (σ : L2.St) (ρ : Env) (τ : L2.St) (δ : List Sl) (F : Hp) : Prop where
  le : Le F H
  sh : ∀ u z, Rep K F u z → Rel K G H σ ρ (some u :: τ) (.sh z :: δ)
  ow : ∀ p o s z, H p = none → Own K F (upd H p o) s (.ref p) z [p] → Rel K G (upd H p o) σ ρ (some (.ref p) :: τ) (.ow s z :: δ)
  nw : ∀ p o z, H p = none → (∀ F', Le F F' → F' p = some o → Rep K F' (.ref p) z) → Rel K G (upd H p o) σ ρ (some (.ref p) :: τ) (.sh z :: δ)
theorem Rel.fzs {F : Hp} {f1 f2 : List Addr} (g : Good G F H (f1 ++ f2)) (ht : Slots K F H τ δ f1) (hs : Slots K F H σ ρ f2) : Fz K G H σ ρ τ δ F := by
  have hin : ∀ a ∈ f1 ++ f2, H a ≠ none := fun a ha => by
    rcases List.mem_append.mp ha with z | z
    · exact ht.here a z
    · exact hs.here a z
  refine ⟨g.sub, fun u z r => ⟨F, _, f2, g, .cons (.sh r) ht, hs⟩, fun p o s z hp r => ?_, fun p o z hp r => ?_⟩
  · have hn : ∀ a ∈ f1 ++ f2, upd H p o a = H a := fun a ha => upd_ne fun z => hin a ha (by rw [z]; exact hp)
    exact ⟨F, p :: f1, f2, g.newO hin hp o, .cons (.ow r) (ht.mono Le.rfl fun a ha => hn a (List.mem_append_left _ ha)), hs.mono Le.rfl fun a ha => hn a (List.mem_append_right _ ha)⟩
  · have g1 := g.newO hin hp o
    have hF : F p = none := g1.nf p (by simp)
    have g2 : Good G (upd F p o) (upd H p o) (f1 ++ f2) := by
      have := Good.fz (f := [p]) (fp := f1 ++ f2) g1
      rwa [upd_fz] at this
    have hn : ∀ a ∈ f1 ++ f2, upd H p o a = H a := fun a ha => upd_ne fun z => hin a ha (by rw [z]; exact hp)
    have l := le_new (o := o) hF
    exact ⟨_, f1, f2, g2, .cons (.sh (r _ l upd_same)) (ht.mono l fun a ha => hn a (List.mem_append_left _ ha)), hs.mono l fun a ha => hn a (List.mem_append_right _ ha)⟩
/-- the top, when shared, by what is frozen; what is frozen stands in the heap -/
theorem Rel.top (h : Rel K G H σ ρ (some v :: τ) (.sh d :: δ)) : ∃ F, Rep K F v d ∧ Fz K G H σ ρ τ δ F := by
  obtain ⟨F, f1, f2, g, ht, hs⟩ := h
  cases ht with
  | cons h1 h2 =>
    cases h1 with
    | sh r => exact ⟨F, r, Rel.fzs g h2 hs⟩
theorem Rel.top2 {y : V} {e : D} (h : Rel K G H σ ρ (some y :: some x :: τ) (.sh e :: .sh d :: δ)) : ∃ F, Rep K F x d ∧ Rep K F y e ∧ Fz K G H σ ρ τ δ F := by
  obtain ⟨F, f1, f2, g, ht, hs⟩ := h
  cases ht with
  | cons h1 h2 =>
    cases h1 with
    | sh r =>
      cases h2 with
      | cons h3 h4 =>
        cases h3 with
        | sh r' => exact ⟨F, r', r, Rel.fzs g h4 hs⟩
theorem Rel.topN {ds : List D} {vs : List V} (e : vs.length = ds.length) (h : Rel K G H σ ρ (vs.map some ++ τ) (ds.map Sl.sh ++ δ)) : ∃ F, RepL K F vs ds ∧ Fz K G H σ ρ τ δ F := by
  obtain ⟨F, f1, f2, g, ht, hs⟩ := h
  obtain ⟨hr, ht⟩ := ht.shs e
  exact ⟨F, hr, Rel.fzs g ht hs⟩
theorem sqL {F : Hp} {a : Addr} {vs : List V} (l : Le F H) (h : F a = some (.lst vs)) : SqL K H a vs := SqL.of (l _ _ h)
end
/-! ### operations on numbers, truths, texts -/
section
variable {K : PySem.W.Frag} {W : WS}
def dI (g : Int → Int → D) : D → D → Option D
  | .int i, .int j => some (g i j)
  | _, _ => none
theorem op2_go {g : D → D → Option D} {s1 s2 : Sl} {ρ : Env} {Q : Sl → Env → Prop} {E : Er → Env → Prop} (w : (op2 g s1 s2).wp ρ Q E) : ∃ a b d, s1 = .sh a ∧ s2 = .sh b ∧ g a b = some d ∧ Q (.sh d) ρ := by
  unfold op2 at w
  split at w
  · split at w
    · exact ⟨_, _, _, rfl, rfl, by assumption, w⟩
    · exact w.elim
  · exact w.elim
theorem op1_go {g : D → Option D} {s1 : Sl} {ρ : Env} {Q : Sl → Env → Prop} {E : Er → Env → Prop} (w : (op1 g s1).wp ρ Q E) : ∃ a d, s1 = .sh a ∧ g a = some d ∧ Q (.sh d) ρ := by
  unfold op1 at w
  split at w
  · split at w
    · exact ⟨_, _, rfl, by assumption, w⟩
    · exact w.elim
  · exact w.elim
theorem dI_go {g : Int → Int → D} {a b d : D} (e : dI g a b = some d) : ∃ i j, a = .int i ∧ b = .int j ∧ d = g i j := by
  unfold dI at e
  split at e
  · exact ⟨_, _, rfl, rfl, (Option.some.inj e).symm⟩
  · cases e
theorem r_I0 {g : Int → Int → V} {gd : Int → Int → D} (h : ∀ i j, (gd i j).val = some (g i j) := by intro _ _; rfl) : R2Ok K (rI0 g) (op2 (dI gd)) := by
  intro G H σ ρ τ δ x y s1 s2 Q E hr w
  obtain ⟨a, b, d, rfl, rfl, e, q⟩ := op2_go w
  obtain ⟨i, j, rfl, rfl, rfl⟩ := dI_go e
  obtain rfl := hr.topv (u := .int j) rfl
  obtain rfl := hr.pop.topv (u := .int i) rfl
  exact ⟨i, j, rfl, rfl, q _ _ (hr.pop.pop.push (h i j))⟩
/-- with a bound that is asked -/
def opC (C : Int → Int → Prop) (g : Int → Int → D) : Sl → Sl → ME := fun s1 s2 => ⟨fun ρ Q _ => match s1, s2 with
  | .sh (.int i), .sh (.int j) => C i j ∧ Q (.sh (g i j)) ρ
  | _, _ => False, fun {ρ Q Q' E E'} h _ w => by
    revert w
    split
    · exact fun w => ⟨w.1, h _ _ w.2⟩
    · exact id⟩
theorem r_I {C : Int → Int → Prop} {g : Int → Int → V} {gd : Int → Int → D} (h : ∀ i j, (gd i j).val = some (g i j) := by intro _ _; rfl) : R2Ok K (rI C g) (opC C gd) := by
  intro G H σ ρ τ δ x y s1 s2 Q E hr w
  unfold opC at w
  simp only at w
  split at w
  · rename_i i j
    obtain rfl := hr.topv (u := .int j) rfl
    obtain rfl := hr.pop.topv (u := .int i) rfl
    exact ⟨i, j, rfl, rfl, w.1, w.2 _ _ (hr.pop.pop.push (h i j))⟩
  · exact w.elim
def dAdd := dI fun i j => .int (i + j)
def dSub := dI fun i j => .int (i - j)
def dLt := dI fun i j => .bl (decide (i < j))
def dLe := dI fun i j => .bl (decide (i ≤ j))
def dGt := dI fun i j => .bl (decide (i > j))
def dGe := dI fun i j => .bl (decide (i ≥ j))
theorem r_add : R2Ok K (rI0 fun i j => .int (i + j)) (op2 dAdd) := r_I0
theorem r_sub : R2Ok K (rI0 fun i j => .int (i - j)) (op2 dSub) := r_I0
theorem r_lt : R2Ok K (rI0 fun i j => .bl (decide (i < j))) (op2 dLt) := r_I0
theorem r_le : R2Ok K (rI0 fun i j => .bl (decide (i ≤ j))) (op2 dLe) := r_I0
theorem r_gt : R2Ok K (rI0 fun i j => .bl (decide (j < i))) (op2 dGt) := r_I0
theorem r_ge : R2Ok K (rI0 fun i j => .bl (decide (j ≤ i))) (op2 dGe) := r_I0
/-- ==, != of scalars -/
def dEq (neg : Bool) : D → D → Option D
  | .int i, .int j => some (.bl (neg ^^ decide (i = j)))
  | .str x, .str y => some (.bl (neg ^^ decide (x = y)))
  | .bl a, .bl b => some (.bl (neg ^^ decide (a = b)))
  | .non, .non => some (.bl (neg ^^ true))
  | .non, .int _ | .int _, .non | .non, .str _ | .str _, .non | .non, .bl _ | .bl _, .non => some (.bl (neg ^^ false))
  | .int _, .str _ | .str _, .int _ | .bl _, .str _ | .str _, .bl _ => some (.bl (neg ^^ false))
  | _, _ => none
theorem dEq_go {neg : Bool} {a b d : D} (e : dEq neg a b = some d) : ∃ x y, a.val = some x ∧ b.val = some y ∧ scal x y = true ∧ d = .bl (neg ^^ decide (x = y)) := by
  unfold dEq at e
  split at e
  case h_1 i j => exact ⟨_, _, rfl, rfl, rfl, by rw [← Option.some.inj e]; simp⟩
  case h_2 i j => exact ⟨_, _, rfl, rfl, rfl, by rw [← Option.some.inj e]; simp⟩
  case h_3 i j => exact ⟨_, _, rfl, rfl, rfl, by rw [← Option.some.inj e]; simp⟩
  all_goals first
    | (cases e; done)
    | exact ⟨_, _, rfl, rfl, rfl, by rw [← Option.some.inj e]; simp⟩
theorem r_eq : R2Ok K rEq (op2 (dEq false)) := by
  intro G H σ ρ τ δ x y s1 s2 Q E hr w
  obtain ⟨a, b, d, rfl, rfl, e, q⟩ := op2_go w
  obtain ⟨u, z, h1, h2, h3, rfl⟩ := dEq_go e
  obtain rfl := hr.topv h2
  obtain rfl := hr.pop.topv h1
  exact ⟨h3, q _ _ (hr.pop.pop.push (by simp [D.val]))⟩
theorem r_ne : R2Ok K rNe (op2 (dEq true)) := by
  intro G H σ ρ τ δ x y s1 s2 Q E hr w
  obtain ⟨a, b, d, rfl, rfl, e, q⟩ := op2_go w
  obtain ⟨u, z, h1, h2, h3, rfl⟩ := dEq_go e
  obtain rfl := hr.topv h2
  obtain rfl := hr.pop.topv h1
  exact ⟨h3, q _ _ (hr.pop.pop.push (by simp [D.val]))⟩
/-- is, is not: True, False, None -/
def dIsB (neg : Bool) : D → D → Option D
  | .bl a, .bl b => some (.bl (neg ^^ decide (a = b)))
  | _, _ => none
theorem r_isB : R2Ok K rIsB (op2 (dIsB false)) := by
  intro G H σ ρ τ δ x y s1 s2 Q E hr w
  obtain ⟨a, b, d, rfl, rfl, e, q⟩ := op2_go w
  unfold dIsB at e
  split at e
  · rename_i a b
    obtain rfl := hr.topv (u := .bl b) rfl
    obtain rfl := hr.pop.topv (u := .bl a) rfl
    exact ⟨a, b, rfl, rfl, q _ _ (hr.pop.pop.push (by rw [← Option.some.inj e]; simp [D.val]))⟩
  · cases e
theorem r_isntB : R2Ok K rNotB (op2 (dIsB true)) := by
  intro G H σ ρ τ δ x y s1 s2 Q E hr w
  obtain ⟨a, b, d, rfl, rfl, e, q⟩ := op2_go w
  unfold dIsB at e
  split at e
  · rename_i a b
    obtain rfl := hr.topv (u := .bl b) rfl
    obtain rfl := hr.pop.topv (u := .bl a) rfl
    exact ⟨a, b, rfl, rfl, q _ _ (hr.pop.pop.push (by rw [← Option.some.inj e]; simp [D.val]))⟩
  · cases e
def D.isNon : D → Bool
  | .non => true
  | _ => false
def dIsN (neg : Bool) : D → D → Option D
  | a, .non => some (.bl (neg ^^ a.isNon))
  | _, _ => none
theorem Rep.isNon {F : Hp} {v : V} {d : D} (h : Rep K F v d) : decide (v = .non) = d.isNon := by
  cases h <;> simp [D.isNon]
theorem r_isN : R2Ok K (fun x y H Q => y = .non ∧ Q (.bl (decide (x = .non))) H) (op2 (dIsN false)) := by
  intro G H σ ρ τ δ x y s1 s2 Q E hr w
  obtain ⟨a, b, d, rfl, rfl, e, q⟩ := op2_go w
  unfold dIsN at e
  split at e
  · obtain ⟨F, r1, r2, z⟩ := hr.top2
    cases r2
    rw [r1.isNon]
    exact ⟨rfl, q _ _ (hr.pop.pop.push (by rw [← Option.some.inj e]; simp [D.val]))⟩
  · cases e
theorem r_notN : R2Ok K (fun x y H Q => y = .non ∧ Q (.bl (!decide (x = .non))) H) (op2 (dIsN true)) := by
  intro G H σ ρ τ δ x y s1 s2 Q E hr w
  obtain ⟨a, b, d, rfl, rfl, e, q⟩ := op2_go w
  unfold dIsN at e
  split at e
  · obtain ⟨F, r1, r2, z⟩ := hr.top2
    cases r2
    rw [r1.isNon]
    exact ⟨rfl, q _ _ (hr.pop.pop.push (by rw [← Option.some.inj e]; simp [D.val]))⟩
  · cases e
/-- texts -/
def opStr : Sl → Sl → ME := fun s1 s2 => ⟨fun ρ Q _ => match s1, s2 with
  | .sh (.str i), .sh (.str j) => i.length + j.length ≤ sizeLine ∧ Q (.sh (.str (i ++ j))) ρ
  | _, _ => False, fun {ρ Q Q' E E'} h _ w => by
    revert w
    split
    · exact fun w => ⟨w.1, h _ _ w.2⟩
    · exact id⟩
theorem r_addS : R2Ok K (fun x y H Q => ∃ i j, x = .str i ∧ y = .str j ∧ i.length + j.length ≤ sizeLine ∧ Q (.str (i ++ j)) H) opStr := by
  intro G H σ ρ τ δ x y s1 s2 Q E hr w
  unfold opStr at w
  simp only at w
  split at w
  · rename_i i j
    obtain rfl := hr.topv (u := .str j) rfl
    obtain rfl := hr.pop.topv (u := .str i) rfl
    exact ⟨i, j, rfl, rfl, w.1, w.2 _ _ (hr.pop.pop.push rfl)⟩
  · exact w.elim
def dInS (neg : Bool) : D → D → Option D
  | .str x, .str z => match x.cps.toList with
    | [c] => some (.bl (neg ^^ decide (c ∈ z.cps.toList)))
    | _ => none
  | _, _ => none
theorem dInS_go {neg : Bool} {a b d : D} (e : dInS neg a b = some d) : ∃ (c : Nat) (z : Str), a = .str ⟨#[c]⟩ ∧ b = .str z ∧ d = .bl (neg ^^ decide (c ∈ z.cps.toList)) := by
  unfold dInS at e
  split at e
  · rename_i x z
    split at e
    · rename_i c h
      refine ⟨c, z, ?_, rfl, (Option.some.inj e).symm⟩
      have : x.cps = #[c] := by
        apply Array.ext'
        rw [h]
      cases x
      simp only at this
      rw [this]
    · cases e
  · cases e
theorem r_inS : R2Ok K (fun x y H Q => ∃ (c : Nat) (z : Str), x = .str ⟨#[c]⟩ ∧ y = .str z ∧ Q (.bl (decide (c ∈ z.cps.toList))) H) (op2 (dInS false)) := by
  intro G H σ ρ τ δ x y s1 s2 Q E hr w
  obtain ⟨a, b, d, rfl, rfl, e, q⟩ := op2_go w
  obtain ⟨c, z, rfl, rfl, rfl⟩ := dInS_go e
  obtain rfl := hr.topv (u := .str z) rfl
  obtain rfl := hr.pop.topv (u := .str ⟨#[c]⟩) rfl
  exact ⟨c, z, rfl, rfl, q _ _ (hr.pop.pop.push (by simp [D.val]))⟩
theorem r_ninS : R2Ok K (fun x y H Q => ∃ (c : Nat) (z : Str), x = .str ⟨#[c]⟩ ∧ y = .str z ∧ Q (.bl (!decide (c ∈ z.cps.toList))) H) (op2 (dInS true)) := by
  intro G H σ ρ τ δ x y s1 s2 Q E hr w
  obtain ⟨a, b, d, rfl, rfl, e, q⟩ := op2_go w
  obtain ⟨c, z, rfl, rfl, rfl⟩ := dInS_go e
  obtain rfl := hr.topv (u := .str z) rfl
  obtain rfl := hr.pop.topv (u := .str ⟨#[c]⟩) rfl
  exact ⟨c, z, rfl, rfl, q _ _ (hr.pop.pop.push (by simp [D.val]))⟩
end
end Dl
namespace Dl
open PySem PySem.Spec PyProof.Rows L2
section
variable {K : PySem.W.Frag} {W : WS} {ta tb tc : TE} {ma mb mc : ME} {r r' : R2} {f f' : Sl → Sl → ME}
/-! ### sequences -/
def dIxL : D → D → Option D
  | .lst xs, .int i => atI xs i
  | _, _ => none
def dIxT : D → D → Option D
  | .tup xs, .int i => atI xs i
  | _, _ => none
theorem RepL.atI {F : Hp} {vs : List V} {ds : List D} {i : Int} {d : D} (h : RepL K F vs ds) (e : L2.atI ds i = some d) : ∃ v, L2.atI vs i = some v ∧ Rep K F v d := by
  unfold L2.atI at e ⊢
  rw [h.len]
  cases hj : ixN ds.length i with
  | none => rw [hj] at e; cases e
  | some j =>
    rw [hj] at e
    exact RepL.get h e
theorem r_ixL : R2Ok K (rIxL K) (op2 dIxL) := by
  intro G H σ ρ τ δ x y s1 s2 Q E hr w
  obtain ⟨a, b, d, rfl, rfl, e, q⟩ := op2_go w
  obtain ⟨F, r1, r2, z⟩ := hr.top2
  unfold dIxL at e
  split at e
  · cases r1 with
    | lst h r =>
      cases r2
      obtain ⟨v, h1, h2⟩ := r.atI e
      exact ⟨_, _, _, v, rfl, rfl, SqL.of (z.le _ _ h), h1, q _ _ (z.sh _ _ h2)⟩
  · cases e
theorem r_ixT : R2Ok K (rIxT K) (op2 dIxT) := by
  intro G H σ ρ τ δ x y s1 s2 Q E hr w
  obtain ⟨a, b, d, rfl, rfl, e, q⟩ := op2_go w
  obtain ⟨F, r1, r2, z⟩ := hr.top2
  unfold dIxT at e
  split at e
  · cases r1 with
    | tup h r =>
      cases r2
      obtain ⟨v, h1, h2⟩ := r.atI e
      exact ⟨_, _, _, v, rfl, rfl, sqt_mono z.le h, h1, q _ _ (z.sh _ _ h2)⟩
  · cases e
/-- an operation that asks p and hands back g -/
def opP {α : Type} (k : α → Option (Prop × Sl)) : α → ME := fun a => ⟨fun ρ Q _ => match k a with
  | some (p, s) => p ∧ Q s ρ
  | none => False, fun {ρ Q Q' E E'} h _ w => by
    revert w
    split
    · exact fun w => ⟨w.1, h _ _ w.2⟩
    · exact id⟩
theorem opP_go {α : Type} {k : α → Option (Prop × Sl)} {a : α} {ρ : Env} {Q : Sl → Env → Prop} {E : Er → Env → Prop} (w : (opP k a).wp ρ Q E) : ∃ p s, k a = some (p, s) ∧ p ∧ Q s ρ := by
  unfold opP at w
  simp only at w
  split at w
  · exact ⟨_, _, by assumption, w.1, w.2⟩
  · exact w.elim
def op2P (k : D → D → Option (Prop × Sl)) : Sl → Sl → ME := fun s1 s2 => opP (fun (p : Sl × Sl) => match p with
  | (.sh a, .sh b) => k a b
  | _ => none) (s1, s2)
theorem op2P_go {k : D → D → Option (Prop × Sl)} {s1 s2 : Sl} {ρ : Env} {Q : Sl → Env → Prop} {E : Er → Env → Prop} (w : (op2P k s1 s2).wp ρ Q E) : ∃ a b p s, s1 = .sh a ∧ s2 = .sh b ∧ k a b = some (p, s) ∧ p ∧ Q s ρ := by
  obtain ⟨p, s, e, hp, q⟩ := opP_go w
  split at e
  · rename_i a b e'
    cases e'
    exact ⟨a, b, p, s, rfl, rfl, e, hp, q⟩
  · cases e
def op1P (k : D → Option (Prop × Sl)) : Sl → ME := opP fun p => match p with
  | .sh a => k a
  | _ => none
theorem op1P_go {k : D → Option (Prop × Sl)} {s1 : Sl} {ρ : Env} {Q : Sl → Env → Prop} {E : Er → Env → Prop} (w : (op1P k s1).wp ρ Q E) : ∃ a p s, s1 = .sh a ∧ k a = some (p, s) ∧ p ∧ Q s ρ := by
  obtain ⟨p, s, e, hp, q⟩ := opP_go w
  split at e
  · exact ⟨_, p, s, rfl, e, hp, q⟩
  · cases e
def pIxS : D → D → Option (Prop × Sl)
  | .str z, .int i => match atI z.cps.toList i with
    | some c => some (z.length ≤ sizeLine, .sh (.str ⟨#[c]⟩))
    | none => none
  | _, _ => none
theorem r_ixS : R2Ok K rIxS (op2P pIxS) := by
  intro G H σ ρ τ δ x y s1 s2 Q E hr w
  obtain ⟨a, b, p, s, rfl, rfl, e, hp, q⟩ := op2P_go w
  unfold pIxS at e
  split at e
  · rename_i z i
    split at e
    · rename_i c hc
      cases e
      obtain rfl := hr.topv (u := .int i) rfl
      obtain rfl := hr.pop.topv (u := .str z) rfl
      exact ⟨z, i, c, rfl, rfl, hp, hc, q _ _ (hr.pop.pop.push rfl)⟩
    · cases e
  · cases e
/-- a + b of lists: a new one -/
def pCat : D → D → Option (Prop × Sl)
  | .lst xs, .lst ys => some (xs.length + ys.length ≤ sizeLine, .ow (.ol .fr) (.lst (xs ++ ys)))
  | _, _ => none
theorem r_cat : R2Ok K rCat (op2P pCat) := by
  intro G H σ ρ τ δ x y s1 s2 Q E hr w
  obtain ⟨a, b, p, s, rfl, rfl, e, hp, q⟩ := op2P_go w
  obtain ⟨F, r1, r2, z⟩ := hr.top2
  unfold pCat at e
  split at e
  · cases e
    cases r1 with
    | lst h1 r1 =>
      cases r2 with
      | lst h2 r2 =>
        exact ⟨_, _, _, _, rfl, rfl, z.le _ _ h1, z.le _ _ h2, by rw [r1.len, r2.len]; exact hp, fun p hp => q _ _ (z.ow _ _ _ _ hp (.ol upd_same (r1.app r2).own))⟩
  · cases e
def pCatT : D → D → Option (Prop × Sl)
  | .tup xs, .tup ys => some (xs ≠ [] ∧ xs.length + ys.length ≤ sizeLine, .sh (.tup (xs ++ ys)))
  | _, _ => none
theorem r_catT : R2Ok K (rCatT K) (op2P pCatT) := by
  intro G H σ ρ τ δ x y s1 s2 Q E hr w
  obtain ⟨a, b, p, s, rfl, rfl, e, hp, q⟩ := op2P_go w
  obtain ⟨F, r1, r2, z⟩ := hr.top2
  unfold pCatT at e
  split at e
  · rename_i xs ys
    cases e
    cases r1 with
    | tup h1 r1 =>
      cases r2 with
      | tup h2 r2 =>
        refine ⟨_, _, _, _, rfl, rfl, sqt_mono z.le h1, sqt_mono z.le h2, ?_, by rw [r1.len, r2.len]; exact hp.2, fun e => ?_, fun _ p hp' => q _ _ (z.nw _ _ _ hp' fun F' l z' => .tup (SqT.of z') ((r1.app r2).mono l))⟩
        · intro z0
          apply hp.1
          have := r1.len
          rw [z0] at this
          exact List.length_eq_zero_iff.mp this.symm
        · have e2 : ys = [] := by
            have := r2.len
            rw [e] at this
            exact List.length_eq_zero_iff.mp this.symm
          subst e2
          rw [List.append_nil] at q
          exact q _ _ (z.sh _ _ (.tup h1 r1))
  · cases e
def pRep : D → D → Option (Prop × Sl)
  | .lst xs, .int k => some (-(2 ^ 63) ≤ k ∧ k < 2 ^ 63 ∧ xs.length * k.toNat ≤ sizeLine, .ow (.ol .fr) (.lst (List.replicate k.toNat xs).flatten))
  | _, _ => none
theorem RepL.cat {F : Hp} {vs : List V} {ds : List D} (h : RepL K F vs ds) : ∀ n : Nat, RepL K F (List.replicate n vs).flatten (List.replicate n ds).flatten
  | 0 => .nil
  | n + 1 => by
    rw [List.replicate_succ, List.replicate_succ, List.flatten_cons, List.flatten_cons]
    exact h.app (RepL.cat h n)
theorem r_rep : R2Ok K rRep (op2P pRep) := by
  intro G H σ ρ τ δ x y s1 s2 Q E hr w
  obtain ⟨a, b, p, s, rfl, rfl, e, hp, q⟩ := op2P_go w
  obtain ⟨F, r1, r2, z⟩ := hr.top2
  unfold pRep at e
  split at e
  · cases e
    cases r1 with
    | lst h1 r1 =>
      cases r2
      exact ⟨_, _, _, rfl, rfl, z.le _ _ h1, hp.1, hp.2.1, by rw [r1.len]; exact hp.2.2, fun p hp' => q _ _ (z.ow _ _ _ _ hp' (.ol upd_same (r1.cat _).own))⟩
  · cases e
/-- slices -/
def cutD (xs : List D) (lo hi : Option Int) : List D := (xs.drop (HT.sIx xs.length 0 lo)).take (HT.sIx xs.length xs.length hi - HT.sIx xs.length 0 lo)
theorem RepL.cut {F : Hp} {vs : List V} {ds : List D} (h : RepL K F vs ds) (lo hi : Option Int) : RepL K F (cutV vs lo hi) (cutD ds lo hi) := by
  unfold cutV cutD
  rw [h.len]
  exact (h.drop _).take _
abbrev MO := M (Option Int)
def OOk (K : PySem.W.Frag) (W : WS) (t : TO) (m : MO) : Prop := ∀ (G : Ent) (H : Hp) (σ : L2.St) (ρ : Env) (τ : L2.St) (δ : List Sl) (Q : Option Int → Hp → Prop), Rel K G H σ ρ τ δ →
  m.wp ρ (fun b ρ' => ∀ H', Rel K G H' σ ρ' τ δ → Q b H') (exQ K W G σ τ δ) → t σ H Q
def mPart (m : ME) : MO := m.bind fun s => match s with
  | .sh (.int i) => M.ret (some i)
  | _ => M.stuck
def mNoPart : MO := M.ret none
theorem oNone : OOk K W tNoPart mNoPart := fun G H σ ρ τ δ Q h w => w H h
theorem oSome (ha : EOk K W ta ma) : OOk K W (tPart ta) (mPart ma) := fun G H σ ρ τ δ Q h w =>
  ha G H σ ρ τ δ _ h (ma.mono (fun s1 ρ1 w1 v1 H1 h1 => by
    simp only at w1
    split at w1
    · rename_i i
      obtain rfl := h1.topv (u := .int i) rfl
      exact ⟨i, rfl, w1 H1 h1.pop⟩
    · exact w1.elim) (fun _ _ z => z) w)
/-- a slice by its rule -/
def S3Ok (K : PySem.W.Frag) (r : V → Option Int → Option Int → Hp → VK → Prop) (f : Sl → Option Int → Option Int → ME) : Prop := ∀ (lo hi : Option Int), R1Ok K (fun x H Q => r x lo hi H Q) (fun s => f s lo hi)
def mSl (f : Sl → Option Int → Option Int → ME) (ma : ME) (ml mh : MO) : ME := ma.bind fun s => ml.bind fun lo => mh.bind fun hi => f s lo hi
theorem eSl {r : V → Option Int → Option Int → Hp → VK → Prop} {f : Sl → Option Int → Option Int → ME} {tl th : TO} {ml mh : MO} (hr : S3Ok K r f) (ha : EOk K W ta ma) (hl : OOk K W tl ml) (hh : OOk K W th mh) : EOk K W (tSl r ta tl th) (mSl f ma ml mh) := fun G H σ ρ τ δ Q h w =>
  ha G H σ ρ τ δ _ h (ma.mono (fun s1 ρ1 w1 v1 H1 h1 => hl G H1 σ ρ1 _ _ _ h1 (ml.mono (fun lo ρ2 w2 H2 h2 => hh G H2 σ ρ2 _ _ _ h2 (mh.mono (fun hi ρ3 w3 H3 h3 => hr lo hi G H3 σ ρ3 τ δ v1 s1 Q _ h3 w3) (fun e ρ' z v H' q => z v H' q.drop2) w2)) (fun e ρ' z v H' q => z v H' q.drop2) w1)) (fun _ _ z => z) w)
def fSlL (s : Sl) (lo hi : Option Int) : ME := op1P (fun d => match d with
  | .lst xs => some (True, .ow (.ol .fr) (.lst (cutD xs lo hi)))
  | _ => none) s
theorem s_l : S3Ok K (rSlL K) fSlL := by
  intro lo hi G H σ ρ τ δ x s1 Q E hr w
  obtain ⟨a, p, s, rfl, e, hp, q⟩ := op1P_go w
  obtain ⟨F, r1, z⟩ := hr.top
  split at e
  · cases e
    cases r1 with
    | lst h1 r1 => exact ⟨_, _, rfl, SqL.of (z.le _ _ h1), fun p hp' => q _ _ (z.ow _ _ _ _ hp' (.ol upd_same (r1.cut lo hi).own))⟩
  · cases e
def fSlT (s : Sl) (lo hi : Option Int) : ME := op1P (fun d => match d with
  | .tup xs => some (¬ (HT.sIx xs.length 0 lo = 0 ∧ HT.sIx xs.length xs.length hi = xs.length), .sh (.tup (cutD xs lo hi)))
  | _ => none) s
theorem s_t : S3Ok K (rSlT K) fSlT := by
  intro lo hi G H σ ρ τ δ x s1 Q E hr w
  obtain ⟨a, p, s, rfl, e, hp, q⟩ := op1P_go w
  obtain ⟨F, r1, z⟩ := hr.top
  split at e
  · cases e
    cases r1 with
    | tup h1 r1 => exact ⟨_, _, rfl, sqt_mono z.le h1, by rw [r1.len]; exact hp, fun p hp' => q _ _ (z.nw _ _ _ hp' fun F' l z' => .tup (SqT.of z') ((r1.cut lo hi).mono l))⟩
  · cases e
def fSlS (s : Sl) (lo hi : Option Int) : ME := op1P (fun d => match d with
  | .str z => some (z.length ≤ sizeLine, .sh (.str (cutS z lo hi)))
  | _ => none) s
theorem s_s : S3Ok K rSlS fSlS := by
  intro lo hi G H σ ρ τ δ x s1 Q E hr w
  obtain ⟨a, p, s, rfl, e, hp, q⟩ := op1P_go w
  split at e
  · rename_i z
    cases e
    obtain rfl := hr.topv (u := .str z) rfl
    exact ⟨z, rfl, hp, q _ _ (hr.pop.push rfl)⟩
  · cases e
/-! ### ==, != of whole data; in -/
mutual
def D.py : D → PyData
  | .non => .none
  | .bl b => .bool b
  | .int i => .int i
  | .str x => .str x
  | .lst xs => .list (D.pys xs)
  | .tup xs => .tuple (D.pys xs)
  | .dic _ => .dict []
  | .dil _ => .dict []
  | .obj _ _ => .dict []
  | .cls _ => .dict []
  | .scr => .dict []
def D.pys : List D → List PyData
  | [] => []
  | d :: ds => D.py d :: D.pys ds
end
mutual
/-- no objects, no dicts within -/
inductive Plain : D → Prop
  | non : Plain .non
  | bl (b : Bool) : Plain (.bl b)
  | int (i : Int) : Plain (.int i)
  | str (x : Str) : Plain (.str x)
  | lst {xs : List D} : Plains xs → Plain (.lst xs)
  | tup {xs : List D} : Plains xs → Plain (.tup xs)
inductive Plains : List D → Prop
  | nil : Plains []
  | cons {d : D} {ds : List D} : Plain d → Plains ds → Plains (d :: ds)
end
mutual
theorem Rep.dp {F H : Hp} (l : Le F H) : ∀ {d : D} {v : V}, Plain d → Rep K F v d → Dp K H v d.py
  | .non, _, _, .non => .non
  | .bl b, _, _, .bl _ => .bl b
  | .int i, _, _, .int _ => .int i
  | .str x, _, _, .str _ => .str x
  | .lst xs, _, .lst p, .lst h r => .lst (SqL.of (l _ _ h)) (RepL.dp l p r)
  | .tup xs, _, .tup p, .tup h r => .tup (sqt_mono l h) (RepL.dp l p r)
theorem RepL.dp {F H : Hp} (l : Le F H) : ∀ {ds : List D} {vs : List V}, Plains ds → RepL K F vs ds → DpAll K H vs (D.pys ds)
  | [], _, _, .nil => .nil
  | _ :: _, _, .cons p ps, .cons r t => .cons (Rep.dp l p r) (RepL.dp l ps t)
end
/-- data that may be compared as a whole -/
def D.fit (n : Nat) (d : D) : Prop := Plain d ∧ d.py.canLay0 = true ∧ d.py.depth ≤ n
def D.eq (a b : D) : Bool := PyData.eqv a.py b.py
def pEqD (neg : Bool) : D → D → Option (Prop × Sl) := fun a b => some (a.fit 64 ∧ b.fit 64, .sh (.bl (neg ^^ D.eq a b)))
theorem D.fit.shaped {d : D} (h : d.fit 64) : SeqAt.shaped d.py = true := by
  unfold SeqAt.shaped
  rw [h.2.1, Bool.true_and]
  exact decide_eq_true h.2.2
theorem r_eqD : R2Ok K (rEqD K) (op2P (pEqD false)) := by
  intro G H σ ρ τ δ x y s1 s2 Q E hr w
  obtain ⟨a, b, p, s, rfl, rfl, e, hp, q⟩ := op2P_go w
  obtain ⟨F, r1, r2, z⟩ := hr.top2
  cases e
  exact ⟨_, _, r1.dp z.le hp.1.1, r2.dp z.le hp.2.1, hp.1.shaped, hp.2.shaped, q _ _ (hr.pop.pop.push (by simp [D.val, D.eq]))⟩
theorem r_neD : R2Ok K (rNeD K) (op2P (pEqD true)) := by
  intro G H σ ρ τ δ x y s1 s2 Q E hr w
  obtain ⟨a, b, p, s, rfl, rfl, e, hp, q⟩ := op2P_go w
  obtain ⟨F, r1, r2, z⟩ := hr.top2
  cases e
  exact ⟨_, _, r1.dp z.le hp.1.1, r2.dp z.le hp.2.1, hp.1.shaped, hp.2.shaped, q _ _ (hr.pop.pop.push (by simp [D.val, D.eq]))⟩
/-- x in xs, flat things -/
def D.flat : D → Bool
  | .non => true
  | .bl _ => true
  | .int _ => true
  | .str _ => true
  | _ => false
def D.seq : D → Option (List D)
  | .lst xs => some xs
  | .tup xs => some xs
  | _ => none
def pIn (neg : Bool) : D → D → Option (Prop × Sl) := fun a b => match b.seq with
  | some xs => some (a.flat = true ∧ xs.all D.flat = true, .sh (.bl (neg ^^ xs.any fun y => D.eq y a)))
  | none => none
theorem Rep.flat {F : Hp} {v : V} {d : D} (h : Rep K F v d) (f : d.flat = true) : flatV v = true := by
  cases h <;> first | rfl | cases f
theorem Rep.eqV {F : Hp} {v u : V} {d e : D} (h : Rep K F v d) (h' : Rep K F u e) (f : d.flat = true) (f' : e.flat = true) : eqV v u = D.eq d e := by
  cases h <;> first | cases f; done | (cases h' <;> first | (cases f'; done) | (simp [L2.eqV, D.eq, D.py, PyData.eqv]))
theorem RepL.flat {F : Hp} : ∀ {vs : List V} {ds : List D}, RepL K F vs ds → ds.all D.flat = true → vs.all flatV = true
  | _, _, .nil, _ => rfl
  | _, _, .cons r t, f => by
    rw [List.all_cons, Bool.and_eq_true] at f
    rw [List.all_cons, Bool.and_eq_true]
    exact ⟨r.flat f.1, RepL.flat t f.2⟩
theorem RepL.inV {F : Hp} {u : V} {e : D} (h' : Rep K F u e) (f' : e.flat = true) : ∀ {vs : List V} {ds : List D}, RepL K F vs ds → ds.all D.flat = true → L2.inV u vs = ds.any fun y => D.eq y e
  | _, _, .nil, _ => rfl
  | _, _, .cons r t, f => by
    rw [List.all_cons, Bool.and_eq_true] at f
    show (L2.eqV _ u || L2.inV u _) = _
    rw [List.any_cons, r.eqV h' f.1 f', RepL.inV h' f' t f.2]
theorem r_in {neg : Bool} : R2Ok K (rIn K neg) (op2P (pIn neg)) := by
  intro G H σ ρ τ δ x y s1 s2 Q E hr w
  obtain ⟨a, b, p, s, rfl, rfl, e, hp, q⟩ := op2P_go w
  obtain ⟨F, r1, r2, z⟩ := hr.top2
  unfold pIn at e
  split at e
  · rename_i xs hb
    cases e
    have key : ∀ (p : Addr) (vs : List V), (SqL K H p vs ∨ SqT K H p vs) → RepL K F vs xs → y = .ref p → rIn K neg x y H Q := fun p vs hs rl ey => by
      refine ⟨p, vs, ey, hs, r1.flat hp.1, rl.flat hp.2, ?_⟩
      rw [rl.inV r1 hp.1 hp.2]
      refine q _ _ (hr.pop.pop.push ?_)
      cases neg <;> simp [D.val]
    unfold D.seq at hb
    split at hb
    · cases hb
      cases r2 with
      | lst h1 rl => exact key _ _ (.inl (SqL.of (z.le _ _ h1))) rl rfl
    · cases hb
      cases r2 with
      | tup h1 rl => exact key _ _ (.inr (sqt_mono z.le h1)) rl rfl
    · cases hb
  · cases e
end
end Dl
namespace Dl
open PySem PySem.Spec PyProof.Rows L2
section
variable {K : PySem.W.Frag} {W : WS} {ta tb tc : TE} {ma mb mc : ME} {r r' : R2} {f f' : Sl → Sl → ME} {tA tB' : TT} {mA mB : MT}
/-! ### one operand -/
theorem eUn {r : V → Hp → VK → Prop} {f : Sl → ME} (hr : R1Ok K r f) (ha : EOk K W ta ma) : EOk K W (tUn r ta) (mUn f ma) := fun G H σ ρ τ δ Q h w =>
  ha G H σ ρ τ δ _ h (ma.mono (fun s1 ρ1 w1 v1 H1 h1 => hr G H1 σ ρ1 τ δ v1 s1 Q _ h1 w1) (fun _ _ z => z) w)
def dNeg : D → Option D
  | .int i => some (.int (-i))
  | _ => none
theorem r_neg : R1Ok K (rU fun i => .int (-i)) (op1 dNeg) := by
  intro G H σ ρ τ δ x s1 Q E hr w
  obtain ⟨a, d, rfl, e, q⟩ := op1_go w
  unfold dNeg at e
  split at e
  · rename_i i
    cases e
    obtain rfl := hr.topv (u := .int i) rfl
    exact ⟨i, rfl, q _ _ (hr.pop.push rfl)⟩
  · cases e
/-! ### built-in calls -/
theorem eCB1 {r : List V → Hp → VK → Prop} {f : Sl → ME} (hr : R1Ok K (fun x H Q => r [x] H Q) f) (ha : EOk K W ta ma) : EOk K W (tCB r (tCons ta tNil)) (mUn f ma) := fun G H σ ρ τ δ Q h w =>
  ha G H σ ρ τ δ _ h (ma.mono (fun s1 ρ1 w1 v1 H1 h1 => hr G H1 σ ρ1 τ δ v1 s1 Q _ h1 w1) (fun _ _ z => z) w)
theorem eCB2 {r : List V → Hp → VK → Prop} (hr : R2Ok K (fun x y H Q => r [x, y] H Q) f) (ha : EOk K W ta ma) (hb : EOk K W tb mb) : EOk K W (tCB r (tCons ta (tCons tb tNil))) (mOp f ma mb) := fun G H σ ρ τ δ Q h w =>
  ha G H σ ρ τ δ _ h (ma.mono (fun s1 ρ1 w1 v1 H1 h1 => hb G H1 σ ρ1 _ _ _ h1 (mb.mono (fun s2 ρ2 w2 v2 H2 h2 => hr G H2 σ ρ2 τ δ v1 v2 s1 s2 Q _ h2 w2) (fun e ρ' z v H' q => z v H' q.drop2) w1)) (fun _ _ z => z) w)
def dLen (d : D) : Option D := match d.seq with
  | some xs => some (.int xs.length)
  | none => none
/-- what a sequence is -/
theorem Rep.seq {F H : Hp} {v : V} {d : D} {xs : List D} (h : Rep K F v d) (l : Le F H) (e : d.seq = some xs) : ∃ p vs, v = .ref p ∧ RepL K F vs xs ∧ ((SqL K H p vs ∧ d = .lst xs ∧ F p = some (.lst vs)) ∨ (SqT K H p vs ∧ d = .tup xs)) := by
  unfold D.seq at e
  split at e
  · cases e
    cases h with
    | lst h1 r => exact ⟨_, _, rfl, r, .inl ⟨SqL.of (l _ _ h1), rfl, h1⟩⟩
  · cases e
    cases h with
    | tup h1 r => exact ⟨_, _, rfl, r, .inr ⟨sqt_mono l h1, rfl⟩⟩
  · cases e
theorem c_len : R1Ok K (fun x H Q => Cl.qLen K [x] H Q) (op1 dLen) := by
  intro G H σ ρ τ δ x s1 Q E hr w
  obtain ⟨a, d, rfl, e, q⟩ := op1_go w
  obtain ⟨F, r1, z⟩ := hr.top
  unfold dLen at e
  split at e
  · rename_i xs hx
    cases e
    obtain ⟨p, vs, rfl, rl, k⟩ := r1.seq z.le hx
    refine ⟨p, vs, rfl, ?_, ?_⟩
    · rcases k with k | k
      · exact .inl k.1
      · exact .inr k.1
    · rw [rl.len]
      exact q _ _ (hr.pop.push rfl)
  · cases e
def p1 (p : D → Option (Prop × Sl)) := op1P p
def pLenS : D → Option (Prop × Sl)
  | .str z => some (z.length ≤ sizeLine, .sh (.int z.length))
  | _ => none
theorem c_lenS : R1Ok K (fun x H Q => (fun (xs : List V) (H : Hp) (Q : VK) => ∃ z, xs = [.str z] ∧ z.length ≤ sizeLine ∧ Q (.int z.length) H) [x] H Q) (op1P pLenS) := by
  intro G H σ ρ τ δ x s1 Q E hr w
  obtain ⟨a, p, s, rfl, e, hp, q⟩ := op1P_go w
  unfold pLenS at e
  split at e
  · rename_i z
    cases e
    obtain rfl := hr.topv (u := .str z) rfl
    exact ⟨z, rfl, hp, q _ _ (hr.pop.push rfl)⟩
  · cases e
def pList (d : D) : Option (Prop × Sl) := match d.seq with
  | some xs => some (True, .ow (.ol .fr) (.lst xs))
  | none => none
theorem c_list : R1Ok K (fun x H Q => Cl.qList K [x] H Q) (op1P pList) := by
  intro G H σ ρ τ δ x s1 Q E hr w
  obtain ⟨a, p, s, rfl, e, hp, q⟩ := op1P_go w
  obtain ⟨F, r1, z⟩ := hr.top
  unfold pList at e
  split at e
  · rename_i xs hx
    cases e
    obtain ⟨p, vs, rfl, rl, k⟩ := r1.seq z.le hx
    refine ⟨p, vs, rfl, ?_, fun l hl => q _ _ (z.ow _ _ _ _ hl (.ol upd_same rl.own))⟩
    rcases k with k | k
    · exact .inl k.1
    · exact .inr k.1
  · cases e
def pTuple (d : D) : Option (Prop × Sl) := match d.seq with
  | some xs => some (True, .sh (.tup xs))
  | none => none
theorem c_tuple : R1Ok K (fun x H Q => Cl.qTuple K [x] H Q) (op1P pTuple) := by
  intro G H σ ρ τ δ x s1 Q E hr w
  obtain ⟨a, p, s, rfl, e, hp, q⟩ := op1P_go w
  obtain ⟨F, r1, z⟩ := hr.top
  unfold pTuple at e
  split at e
  · rename_i xs hx
    cases e
    obtain ⟨p, vs, rfl, rl, k⟩ := r1.seq z.le hx
    refine ⟨p, vs, rfl, ?_⟩
    rcases k with k | k
    · exact .inl ⟨k.1, fun l hl => q _ _ (z.nw _ _ _ hl fun F' l z' => .tup (SqT.of z') (rl.mono l))⟩
    · refine .inr ⟨k.1, q _ _ (z.sh _ _ ?_)⟩
      rw [k.2] at r1
      exact r1
  · cases e
def dInt : D → Option D
  | .int i => some (.int i)
  | _ => none
theorem c_int : R1Ok K (fun x H Q => Cl.qInt [x] H Q) (op1 dInt) := by
  intro G H σ ρ τ δ x s1 Q E hr w
  obtain ⟨a, d, rfl, e, q⟩ := op1_go w
  unfold dInt at e
  split at e
  · rename_i i
    cases e
    obtain rfl := hr.topv (u := .int i) rfl
    exact ⟨i, rfl, q _ _ (hr.pop.push rfl)⟩
  · cases e
/-- a list of numbers -/
def nums : List D → Option (List Int)
  | [] => some []
  | .int i :: ds => match nums ds with
    | some ns => some (i :: ns)
    | none => none
  | _ :: _ => none
theorem nums_go : ∀ {ds : List D} {ns : List Int}, nums ds = some ns → ds = ns.map D.int
  | [], ns, e => by cases e; rfl
  | d :: ds, ns, e => by
    cases d with
    | int i =>
      have e' : (match nums ds with | some ns => some (i :: ns) | none => none) = some ns := e
      cases h : nums ds with
      | none => rw [h] at e'; cases e'
      | some ms =>
        rw [h] at e'
        cases e'
        rw [List.map_cons, ← nums_go h]
    | _ => cases e
theorem nums_map (ns : List Int) : nums (ns.map D.int) = some ns := by
  induction ns with
  | nil => rfl
  | cons n ns ih => rw [List.map_cons]; unfold nums; rw [ih]
/-- a function of a list of numbers -/
def dInts (g : List Int → Option D) : D → Option D
  | .lst xs => match nums xs with
    | some ns => g ns
    | none => none
  | _ => none
theorem dInts_go {g : List Int → Option D} {d e : D} (h : dInts g d = some e) : ∃ ns, d = .lst (ns.map D.int) ∧ g ns = some e := by
  unfold dInts at h
  split at h
  · split at h
    · rename_i ns hn
      exact ⟨ns, by rw [nums_go hn], h⟩
    · cases h
  · cases h
theorem Rep.ints {F H : Hp} {v : V} {ns : List Int} (h : Rep K F v (.lst (ns.map D.int))) (l : Le F H) : ∃ a, v = .ref a ∧ SqL K H a (ns.map V.int) := by
  cases h with
  | lst h1 r =>
    rw [r.ints] at h1
    exact ⟨_, rfl, SqL.of (l _ _ h1)⟩
theorem c_sum : R1Ok K (fun x H Q => rSum K [x] H Q) (op1 (dInts fun ns => some (.int ns.sum))) := by
  intro G H σ ρ τ δ x s1 Q E hr w
  obtain ⟨a, d, rfl, e, q⟩ := op1_go w
  obtain ⟨F, r1, z⟩ := hr.top
  obtain ⟨ns, rfl, e2⟩ := dInts_go e
  cases e2
  obtain ⟨a, rfl, h⟩ := r1.ints z.le
  exact ⟨a, ns, rfl, h, q _ _ (hr.pop.push rfl)⟩
/-- the greatest, the least of some numbers -/
def maxL : List Int → Int
  | [] => 0
  | [a] => a
  | a :: b :: l => max a (maxL (b :: l))
def minL : List Int → Int
  | [] => 0
  | [a] => a
  | a :: b :: l => min a (minL (b :: l))
theorem maxL_ok : ∀ {l : List Int}, l ≠ [] → maxL l ∈ l ∧ ∀ y ∈ l, y ≤ maxL l
  | [], h => absurd rfl h
  | [a], _ => ⟨List.mem_singleton.mpr rfl, fun y hy => by rw [List.mem_singleton.mp hy]; exact Int.le_refl _⟩
  | a :: b :: l, _ => by
    obtain ⟨h1, h2⟩ := maxL_ok (l := b :: l) (by simp)
    show max a (maxL (b :: l)) ∈ _ ∧ ∀ y ∈ _, y ≤ max a (maxL (b :: l))
    refine ⟨?_, fun y hy => ?_⟩
    · rcases Int.le_total a (maxL (b :: l)) with z | z
      · rw [Int.max_eq_right z]; exact List.mem_cons_of_mem _ h1
      · rw [Int.max_eq_left z]; exact List.mem_cons_self
    · rcases List.mem_cons.mp hy with rfl | hy
      · exact Int.le_max_left _ _
      · exact Int.le_trans (h2 y hy) (Int.le_max_right _ _)
theorem minL_ok : ∀ {l : List Int}, l ≠ [] → minL l ∈ l ∧ ∀ y ∈ l, minL l ≤ y
  | [], h => absurd rfl h
  | [a], _ => ⟨List.mem_singleton.mpr rfl, fun y hy => by rw [List.mem_singleton.mp hy]; exact Int.le_refl _⟩
  | a :: b :: l, _ => by
    obtain ⟨h1, h2⟩ := minL_ok (l := b :: l) (by simp)
    show min a (minL (b :: l)) ∈ _ ∧ ∀ y ∈ _, min a (minL (b :: l)) ≤ y
    refine ⟨?_, fun y hy => ?_⟩
    · rcases Int.le_total a (minL (b :: l)) with z | z
      · rw [Int.min_eq_left z]; exact List.mem_cons_self
      · rw [Int.min_eq_right z]; exact List.mem_cons_of_mem _ h1
    · rcases List.mem_cons.mp hy with rfl | hy
      · exact Int.min_le_left _ _
      · exact Int.le_trans (Int.min_le_right _ _) (h2 y hy)
def someL (g : List Int → Int) : List Int → Option D
  | [] => none
  | a :: l => some (.int (g (a :: l)))
theorem someL_go {g : List Int → Int} {ns : List Int} {d : D} (h : someL g ns = some d) : ns ≠ [] ∧ d = .int (g ns) := by
  unfold someL at h
  split at h
  · cases h
  · cases h; exact ⟨by simp, rfl⟩
theorem c_max : R1Ok K (fun x H Q => rMax K [x] H Q) (op1 (dInts (someL maxL))) := by
  intro G H σ ρ τ δ x s1 Q E hr w
  obtain ⟨a, d, rfl, e, q⟩ := op1_go w
  obtain ⟨F, r1, z⟩ := hr.top
  obtain ⟨ns, rfl, e2⟩ := dInts_go e
  obtain ⟨hne, rfl⟩ := someL_go e2
  obtain ⟨a, rfl, h⟩ := r1.ints z.le
  obtain ⟨m1, m2⟩ := maxL_ok hne
  refine ⟨a, ns, rfl, h, List.length_pos_iff.mpr hne, fun m hm hy => ?_⟩
  have : m = maxL ns := Int.le_antisymm (m2 m hm) (hy _ m1)
  rw [this]
  exact q _ _ (hr.pop.push rfl)
theorem c_min : R1Ok K (fun x H Q => rMin K [x] H Q) (op1 (dInts (someL minL))) := by
  intro G H σ ρ τ δ x s1 Q E hr w
  obtain ⟨a, d, rfl, e, q⟩ := op1_go w
  obtain ⟨F, r1, z⟩ := hr.top
  obtain ⟨ns, rfl, e2⟩ := dInts_go e
  obtain ⟨hne, rfl⟩ := someL_go e2
  obtain ⟨a, rfl, h⟩ := r1.ints z.le
  obtain ⟨m1, m2⟩ := minL_ok hne
  refine ⟨a, ns, rfl, h, List.length_pos_iff.mpr hne, fun m hm hy => ?_⟩
  have : m = minL ns := Int.le_antisymm (hy _ m1) (m2 m hm)
  rw [this]
  exact q _ _ (hr.pop.push rfl)
theorem c_max2 : R2Ok K (fun x y H Q => (fun (xs : List V) (H : Hp) (Q : VK) => ∃ i j, xs = [.int i, .int j] ∧ Q (.int (if j > i then j else i)) H) [x, y] H Q) (op2 (dI fun i j => .int (if j > i then j else i))) := by
  intro G H σ ρ τ δ x y s1 s2 Q E hr w
  obtain ⟨a, b, d, rfl, rfl, e, q⟩ := op2_go w
  obtain ⟨i, j, rfl, rfl, rfl⟩ := dI_go e
  obtain rfl := hr.topv (u := .int j) rfl
  obtain rfl := hr.pop.topv (u := .int i) rfl
  exact ⟨i, j, rfl, q _ _ (hr.pop.pop.push rfl)⟩
theorem c_min2 : R2Ok K (fun x y H Q => (fun (xs : List V) (H : Hp) (Q : VK) => ∃ i j, xs = [.int i, .int j] ∧ Q (.int (if j < i then j else i)) H) [x, y] H Q) (op2 (dI fun i j => .int (if j < i then j else i))) := by
  intro G H σ ρ τ δ x y s1 s2 Q E hr w
  obtain ⟨a, b, d, rfl, rfl, e, q⟩ := op2_go w
  obtain ⟨i, j, rfl, rfl, rfl⟩ := dI_go e
  obtain rfl := hr.topv (u := .int j) rfl
  obtain rfl := hr.pop.topv (u := .int i) rfl
  exact ⟨i, j, rfl, q _ _ (hr.pop.pop.push rfl)⟩
/-- numbers in order -/
def srt (ns : List Int) : List Int := ns.mergeSort (fun a b => decide (a ≤ b))
theorem srt_perm (ns : List Int) : (srt ns).Perm ns := List.mergeSort_perm ns _
theorem srt_ord (ns : List Int) : (srt ns).Pairwise (· ≤ ·) := by
  have := List.pairwise_mergeSort (le := fun a b : Int => decide (a ≤ b)) (fun a b c h1 h2 => by simp only [decide_eq_true_eq] at *; omega) (fun a b => by simp only [Bool.or_eq_true, decide_eq_true_eq]; omega) ns
  exact this.imp fun h => by simpa using h
theorem srt_one : ∀ {xs ys : List Int}, xs.Perm ys → xs.Pairwise (· ≤ ·) → ys.Pairwise (· ≤ ·) → xs = ys := fun {xs ys} p h1 h2 => List.Perm.eq_of_pairwise (fun a b _ _ hab hba => Int.le_antisymm hab hba) h1 h2 p
def pSorted : D → Option (Prop × Sl)
  | .lst xs => match nums xs with
    | some ns => some (True, .ow (.ol .fr) (.lst ((srt ns).map D.int)))
    | none => none
  | _ => none
theorem c_sorted : R1Ok K (fun x H Q => rSortedI K [x] H Q) (op1P pSorted) := by
  intro G H σ ρ τ δ x s1 Q E hr w
  obtain ⟨a, p, s, rfl, e, hp, q⟩ := op1P_go w
  obtain ⟨F, r1, z⟩ := hr.top
  unfold pSorted at e
  split at e
  · split at e
    · rename_i ns hn
      cases e
      rw [nums_go hn] at r1
      obtain ⟨a, rfl, h⟩ := r1.ints z.le
      refine ⟨a, ns, rfl, h, fun ns' p p1 p2 hp' => ?_⟩
      rw [srt_one (p1.trans (srt_perm ns).symm) p2 (srt_ord ns)]
      exact q _ _ (z.ow _ _ _ _ hp' (.ol upd_same (RepL.of_ints _).own))
    · cases e
  · cases e
def pStr : D → Option (Prop × Sl)
  | .int i => some (i.natAbs.log2 < 1920, .sh (.str (toString i)))
  | _ => none
theorem c_str : R1Ok K (fun x H Q => (fun (xs : List V) (H : Hp) (Q : VK) => ∃ i, xs = [.int i] ∧ i.natAbs.log2 < 1920 ∧ Q (.str (toString i)) H) [x] H Q) (op1P pStr) := by
  intro G H σ ρ τ δ x s1 Q E hr w
  obtain ⟨a, p, s, rfl, e, hp, q⟩ := op1P_go w
  unfold pStr at e
  split at e
  · rename_i i
    cases e
    obtain rfl := hr.topv (u := .int i) rfl
    exact ⟨i, rfl, hp, q _ _ (hr.pop.push rfl)⟩
  · cases e
def bools : List D → Option (List Bool)
  | [] => some []
  | .bl i :: ds => match bools ds with
    | some ns => some (i :: ns)
    | none => none
  | _ :: _ => none
theorem bools_go : ∀ {ds : List D} {ns : List Bool}, bools ds = some ns → ds = ns.map D.bl
  | [], ns, e => by cases e; rfl
  | d :: ds, ns, e => by
    cases d with
    | bl i =>
      have e' : (match bools ds with | some ns => some (i :: ns) | none => none) = some ns := e
      cases h : bools ds with
      | none => rw [h] at e'; cases e'
      | some ms =>
        rw [h] at e'
        cases e'
        rw [List.map_cons, ← bools_go h]
    | _ => cases e
theorem RepL.bools {F : Hp} : ∀ {vs : List V} {ns : List Bool}, RepL K F vs (ns.map D.bl) → vs = ns.map V.bl
  | _, [], .nil => rfl
  | _, n :: ns, .cons (.bl _) t => by rw [RepL.bools t]; rfl
def dBools (g : List Bool → Bool) : D → Option D
  | .lst xs => match bools xs with
    | some ns => some (.bl (g ns))
    | none => none
  | _ => none
theorem c_all : R1Ok K (fun x H Q => rAll K [x] H Q) (op1 (dBools fun bs => bs.all id)) := by
  intro G H σ ρ τ δ x s1 Q E hr w
  obtain ⟨a, d, rfl, e, q⟩ := op1_go w
  obtain ⟨F, r1, z⟩ := hr.top
  unfold dBools at e
  split at e
  · split at e
    · rename_i ns hn
      cases e
      rw [bools_go hn] at r1
      cases r1 with
      | lst h1 r =>
        rw [r.bools] at h1
        exact ⟨_, ns, rfl, SqL.of (z.le _ _ h1), q _ _ (hr.pop.push rfl)⟩
    · cases e
  · cases e
end
end Dl
namespace Dl
open PySem PySem.Spec PyProof.Rows L2
section
variable {K : PySem.W.Frag} {W : WS} {ta tb tc : TE} {ma mb mc : ME} {r r' : R2} {f f' : Sl → Sl → ME} {tA tB' : TT} {mA mB : MT} {tl : TA} {ml : MA}
/-! ### and, or, not, tests -/
def asB : Sl → MT
  | .sh (.bl b) => M.ret b
  | _ => M.stuck
theorem asB_go {s : Sl} {ρ : Env} {Q : Bool → Env → Prop} {E : Er → Env → Prop} (w : (asB s).wp ρ Q E) : ∃ b, s = .sh (.bl b) ∧ Q b ρ := by
  unfold asB at w
  split at w
  · exact ⟨_, rfl, w⟩
  · exact w.elim
def mTest (a : ME) : MT := a.bind asB
def mBl (b : Bool) : ME := M.ret (.sh (.bl b))
def mAndV (a b : ME) : ME := a.bind fun s => (asB s).bind fun c => M.ite c b (mBl false)
def mOrV (a b : ME) : ME := a.bind fun s => (asB s).bind fun c => M.ite c (mBl true) b
def mNotV (a : ME) : ME := a.bind fun s => (asB s).bind fun c => mBl (!c)
def mIf (t : MT) (a b : ME) : ME := t.bind fun c => M.ite c a b
def mAnd (a b : MT) : MT := a.bind fun c => M.ite c b (M.ret false)
def mOr (a b : MT) : MT := a.bind fun c => M.ite c (M.ret true) b
def mNot (a : MT) : MT := a.bind fun c => M.ret (!c)
theorem eAndV (ha : EOk K W ta ma) (hb : EOk K W tb mb) : EOk K W (tAndV ta tb) (mAndV ma mb) := fun G H σ ρ τ δ Q h w =>
  ha G H σ ρ τ δ _ h (ma.mono (fun s1 ρ1 w1 v1 H1 h1 => by
    obtain ⟨c, rfl, q⟩ := asB_go w1
    obtain rfl := h1.topv (u := .bl c) rfl
    refine ⟨c, rfl, ?_⟩
    cases c with
    | true => exact hb G H1 σ ρ1 τ δ Q h1.pop q
    | false => exact q _ _ (h1.pop.push rfl)) (fun _ _ z => z) w)
theorem eOrV (ha : EOk K W ta ma) (hb : EOk K W tb mb) : EOk K W (tOrV ta tb) (mOrV ma mb) := fun G H σ ρ τ δ Q h w =>
  ha G H σ ρ τ δ _ h (ma.mono (fun s1 ρ1 w1 v1 H1 h1 => by
    obtain ⟨c, rfl, q⟩ := asB_go w1
    obtain rfl := h1.topv (u := .bl c) rfl
    refine ⟨c, rfl, ?_⟩
    cases c with
    | true => exact q _ _ (h1.pop.push rfl)
    | false => exact hb G H1 σ ρ1 τ δ Q h1.pop q) (fun _ _ z => z) w)
theorem eNotV (ha : EOk K W ta ma) : EOk K W (tNotV ta) (mNotV ma) := fun G H σ ρ τ δ Q h w =>
  ha G H σ ρ τ δ _ h (ma.mono (fun s1 ρ1 w1 v1 H1 h1 => by
    obtain ⟨c, rfl, q⟩ := asB_go w1
    obtain rfl := h1.topv (u := .bl c) rfl
    exact ⟨c, rfl, q _ _ (h1.pop.push rfl)⟩) (fun _ _ z => z) w)
theorem ite_go {α : Type} {b : Bool} {m k : M α} {ρ : Env} {Q : α → Env → Prop} {E : Er → Env → Prop} (w : (M.ite b m k).wp ρ Q E) : if b = true then m.wp ρ Q E else k.wp ρ Q E := w
theorem eIf (ht : TOk K W tA mA) (ha : EOk K W ta ma) (hb : EOk K W tb mb) : EOk K W (tIf tA ta tb) (mIf mA ma mb) := fun G H σ ρ τ δ Q h w =>
  ht G H σ ρ τ δ _ h (mA.mono (fun c ρ1 w1 H1 h1 => by
    cases c with
    | true => exact ha G H1 σ ρ1 τ δ Q h1 w1
    | false => exact hb G H1 σ ρ1 τ δ Q h1 w1) (fun _ _ z => z) w)
/-- a op b op' c -/
def mChain (f f' : Sl → Sl → ME) (a b c : ME) : ME := a.bind fun x => b.bind fun y => (f x y).bind fun z => (asB z).bind fun k => M.ite k (c.bind fun w => f' y w) (mBl false)
/-- an operation that keeps what it is given -/
def R2Kp (K : PySem.W.Frag) (r : R2) (f : Sl → Sl → ME) : Prop := ∀ (G : Ent) (H : Hp) (σ : L2.St) (ρ : Env) (τ : L2.St) (δ : List Sl) (x y : V) (s1 s2 : Sl) (Q : VK) (E : Er → Env → Prop), Rel K G H σ ρ (some y :: some x :: τ) (s2 :: s1 :: δ) →
  (f s1 s2).wp ρ (fun s ρ' => ∀ v H', Rel K G H' σ ρ' (some v :: some y :: τ) (s :: s2 :: δ) → Q v H') E → r x y H Q
theorem k_I0 {g : Int → Int → V} {gd : Int → Int → D} (h : ∀ i j, (gd i j).val = some (g i j) := by intro _ _; rfl) : R2Kp K (rI0 g) (op2 (dI gd)) := by
  intro G H σ ρ τ δ x y s1 s2 Q E hr w
  obtain ⟨a, b, d, rfl, rfl, e, q⟩ := op2_go w
  obtain ⟨i, j, rfl, rfl, rfl⟩ := dI_go e
  obtain rfl := hr.topv (u := .int j) rfl
  obtain rfl := hr.pop.topv (u := .int i) rfl
  exact ⟨i, j, rfl, rfl, q _ _ (hr.drop2.push (h i j))⟩
theorem k_lt : R2Kp K (rI0 fun i j => .bl (decide (i < j))) (op2 dLt) := k_I0
theorem k_le : R2Kp K (rI0 fun i j => .bl (decide (i ≤ j))) (op2 dLe) := k_I0
theorem eChain (hr : R2Kp K r f) (hr' : R2Ok K r' f') (ha : EOk K W ta ma) (hb : EOk K W tb mb) (hc : EOk K W tc mc) : EOk K W (tChain r r' ta tb tc) (mChain f f' ma mb mc) := fun G H σ ρ τ δ Q h w =>
  ha G H σ ρ τ δ _ h (ma.mono (fun s1 ρ1 w1 v1 H1 h1 => hb G H1 σ ρ1 _ _ _ h1 (mb.mono (fun s2 ρ2 w2 v2 H2 h2 => by
    refine hr G H2 σ ρ2 τ δ v1 v2 s1 s2 _ _ h2 ((f s1 s2).mono (fun s3 ρ3 w3 v3 H3 h3 => ?_) (fun _ _ z => z) w2)
    obtain ⟨c, rfl, q⟩ := asB_go w3
    obtain rfl := h3.topv (u := .bl c) rfl
    refine ⟨c, rfl, ?_⟩
    cases c with
    | true => exact hc G H3 σ ρ3 _ _ _ h3.pop (mc.mono (fun s4 ρ4 w4 v4 H4 h4 => hr' G H4 σ ρ4 τ δ v2 v4 s2 s4 Q _ h4 w4) (fun e ρ' z v H' q => z v H' q.drop2) q)
    | false => exact q _ _ (h3.pop.pop.push rfl)) (fun e ρ' z v H' q => z v H' q.drop2) w1)) (fun _ _ z => z) w)
theorem tTest' (ha : EOk K W ta ma) : TOk K W (tTest ta) (mTest ma) := fun G H σ ρ τ δ Q h w =>
  ha G H σ ρ τ δ _ h (ma.mono (fun s1 ρ1 w1 v1 H1 h1 => by
    obtain ⟨c, rfl, q⟩ := asB_go w1
    obtain rfl := h1.topv (u := .bl c) rfl
    exact ⟨c, rfl, q _ h1.pop⟩) (fun _ _ z => z) w)
theorem tVal (ha : EOk K W ta ma) : TOk K W (tB ta) (mTest ma) := tTest' ha
theorem tAnd' (ha : TOk K W tA mA) (hb : TOk K W tB' mB) : TOk K W (tAnd tA tB') (mAnd mA mB) := fun G H σ ρ τ δ Q h w =>
  ha G H σ ρ τ δ _ h (mA.mono (fun c ρ1 w1 H1 h1 => by
    cases c with
    | true => exact hb G H1 σ ρ1 τ δ Q h1 w1
    | false => exact w1 H1 h1) (fun _ _ z => z) w)
theorem tOr' (ha : TOk K W tA mA) (hb : TOk K W tB' mB) : TOk K W (tOr tA tB') (mOr mA mB) := fun G H σ ρ τ δ Q h w =>
  ha G H σ ρ τ δ _ h (mA.mono (fun c ρ1 w1 H1 h1 => by
    cases c with
    | true => exact w1 H1 h1
    | false => exact hb G H1 σ ρ1 τ δ Q h1 w1) (fun _ _ z => z) w)
theorem tNot' (ha : TOk K W tA mA) : TOk K W (tNot tA) (mNot mA) := fun G H σ ρ τ δ Q h w =>
  ha G H σ ρ τ δ _ h (mA.mono (fun c ρ1 w1 H1 h1 => w1 H1 h1) (fun _ _ z => z) w)
theorem tBlC {b : Bool} : TOk K W (tB (tC (.bl b))) (mTest (mC (.bl b))) := tVal eC
/-- the truth of data -/
def D.tru : D → Option (Prop × Bool)
  | .non => some (True, false)
  | .bl b => some (True, b)
  | .int i => some (True, i != 0)
  | .str z => some (z.length ≤ sizeLine, (z.length : Int) != 0)
  | .lst xs => some (True, !xs.isEmpty)
  | .tup xs => some (True, !xs.isEmpty)
  | _ => none
def asT (s : Sl) : MT := ⟨fun ρ Q _ => match s with
  | .sh d => match d.tru with
    | some (p, b) => p ∧ Q b ρ
    | none => False
  | _ => False, fun {ρ Q Q' E E'} h _ w => by
    revert w
    split
    · split
      · exact fun w => ⟨w.1, h _ _ w.2⟩
      · exact id
    · exact id⟩
def mTruth (a : ME) : MT := a.bind asT
theorem isEmpty_len {α β : Type} : ∀ {xs : List α} {ys : List β}, xs.length = ys.length → xs.isEmpty = ys.isEmpty
  | [], [], _ => rfl
  | _ :: _, _ :: _, _ => rfl
  | [], _ :: _, e => by simp at e
  | _ :: _, [], e => by simp at e
theorem Rep.tru {F H : Hp} {v : V} {d : D} {p : Prop} {b : Bool} (h : Rep K F v d) (l : Le F H) (e : d.tru = some (p, b)) (hp : p) : TruV K v H b := by
  cases h with
  | non => cases e; rfl
  | bl c => cases e; rfl
  | int i => cases e; rfl
  | str x => cases e; exact ⟨hp, rfl⟩
  | lst h1 r => cases e; exact .inl ⟨_, SqL.of (l _ _ h1), by rw [isEmpty_len r.len]⟩
  | tup h1 r => cases e; exact .inr (.inl ⟨_, sqt_mono l h1, by rw [isEmpty_len r.len]⟩)
  | _ => cases e
theorem tTruth' (ha : EOk K W ta ma) : TOk K W (Cl.tTruth K ta) (mTruth ma) := fun G H σ ρ τ δ Q h w =>
  ha G H σ ρ τ δ _ h (ma.mono (fun s1 ρ1 w1 v1 H1 h1 => by
    unfold asT at w1
    simp only at w1
    split at w1
    · split at w1
      · rename_i d p b e
        obtain ⟨F, r, z⟩ := h1.top
        exact ⟨b, r.tru z.le e w1.1, w1.2 _ h1.pop⟩
      · exact w1.elim
    · exact w1.elim) (fun _ _ z => z) w)
/-! ### arguments, displays -/
def mNil : MA := M.ret []
def mCons (a : ME) (l : MA) : MA := a.bind fun s => l.bind fun ss => M.ret (s :: ss)
theorem aNil : AOk K W tNil mNil := fun G H σ ρ τ δ Q h w => w [] H rfl h
theorem aCons (ha : EOk K W ta ma) (hl : AOk K W tl ml) : AOk K W (tCons ta tl) (mCons ma ml) := fun G H σ ρ τ δ Q h w =>
  ha G H σ ρ τ δ _ h (ma.mono (fun s1 ρ1 w1 v1 H1 h1 => hl G H1 σ ρ1 _ _ _ h1 (ml.mono (fun ss ρ2 w2 vs H2 hl h2 => w2 (v1 :: vs) H2 (by simp [hl]) (Rel.rot (by simp [hl]) h2)) (fun e ρ' z v H' q => z v H' q.drop2) w1)) (fun _ _ z => z) w)
def allSh : List Sl → Option (List D)
  | [] => some []
  | .sh d :: ss => match allSh ss with
    | some ds => some (d :: ds)
    | none => none
  | _ :: _ => none
theorem allSh_go : ∀ {ss : List Sl} {ds : List D}, allSh ss = some ds → ss = ds.map Sl.sh
  | [], _, e => by cases e; rfl
  | s :: ss, ds, e => by
    cases s with
    | sh d =>
      have e' : (match allSh ss with | some ds => some (d :: ds) | none => none) = some ds := e
      cases h : allSh ss with
      | none => rw [h] at e'; cases e'
      | some ms => rw [h] at e'; cases e'; rw [List.map_cons, ← allSh_go h]
    | _ => cases e
def mkSeq (g : List D → Sl) (ss : List Sl) : ME := ⟨fun ρ Q _ => match allSh ss with
  | some ds => match Nat.ble ds.length sizeLine with
    | true => Q (g ds) ρ
    | false => False
  | none => False, fun {ρ Q Q' E E'} h _ w => by
    revert w
    split
    · split
      · exact fun w => h _ _ w
      · exact id
    · exact id⟩
theorem mkSeq_go {g : List D → Sl} {ss : List Sl} {ρ : Env} {Q : Sl → Env → Prop} {E : Er → Env → Prop} (w : (mkSeq g ss).wp ρ Q E) : ∃ ds, ss = ds.map Sl.sh ∧ ds.length ≤ sizeLine ∧ Q (g ds) ρ := by
  unfold mkSeq at w
  simp only at w
  split at w
  · rename_i ds e
    split at w
    · rename_i h
      exact ⟨ds, allSh_go e, Nat.le_of_ble_eq_true h, w⟩
    · exact w.elim
  · exact w.elim
def mTup (l : MA) : ME := l.bind (mkSeq fun ds => .sh (.tup ds))
def mLst (l : MA) : ME := l.bind (mkSeq fun ds => .ow (.ol .fr) (.lst ds))
theorem eTup (hl : AOk K W tl ml) : EOk K W (tTup tl) (mTup ml) := fun G H σ ρ τ δ Q h w =>
  hl G H σ ρ τ δ _ h (ml.mono (fun ss ρ1 w1 vs H1 hn h1 => by
    obtain ⟨ds, rfl, hz, q⟩ := mkSeq_go w1
    rw [List.length_map] at hn
    exact ⟨by rw [hn]; exact hz, fun p hp => q _ _ (h1.tup hp hn)⟩) (fun _ _ z => z) w)
theorem eLst (hl : AOk K W tl ml) : EOk K W (tLst tl) (mLst ml) := fun G H σ ρ τ δ Q h w =>
  hl G H σ ρ τ δ _ h (ml.mono (fun ss ρ1 w1 vs H1 hn h1 => by
    obtain ⟨ds, rfl, hz, q⟩ := mkSeq_go w1
    rw [List.length_map] at hn
    exact ⟨by rw [hn]; exact hz, fun p hp => q _ _ (h1.lst hp hn)⟩) (fun _ _ z => z) w)
/-! ### attributes -/
/-- the i-th attribute of an object of the class c -/
def dFld (c i : Nat) : D → Option D
  | .obj c' fs => if c' = c then fs[i]? else none
  | _ => none
def mFld (c i : Nat) (a : ME) : ME := a.bind (op1 (dFld c i))
theorem eFld {c i : Nat} {n : Str} (cl : Cls K (He.ga K (cn c))) (na : NoAttr K (He.ga K (cn c)) n) (hi : (cf c).findIdx? (· == n) = some i) (ha : EOk K W ta ma) : EOk K W (tFld K ta n) (mFld c i ma) := fun G H σ ρ τ δ Q h w =>
  ha G H σ ρ τ δ _ h (ma.mono (fun s1 ρ1 w1 v1 H1 h1 => by
    obtain ⟨a, d, rfl, e, q⟩ := op1_go w1
    obtain ⟨F, r, z⟩ := h1.top
    unfold dFld at e
    split at e
    · rename_i c' fs
      split at e
      · rename_i hc
        subst hc
        cases r with
        | obj k1 k2 kn kr =>
          obtain ⟨v, e1, r1⟩ := kr.get e
          refine ⟨_, _, _, _, v, rfl, z.le _ _ k1, cl, na, ?_, q _ _ (z.sh _ _ r1)⟩
          refine look_at (i := i) kn ?_ e1
          have hlt : i < fs.length := by
            rcases Nat.lt_or_ge i fs.length with z | z
            · exact z
            · rw [List.getElem?_eq_none z] at e; cases e
          rw [List.findIdx?_eq_some_iff_getElem] at hi ⊢
          obtain ⟨g1, g2, g3⟩ := hi
          refine ⟨by rw [List.length_take]; omega, by rw [List.getElem_take]; exact g2, fun j hj => ?_⟩
          rw [List.getElem_take]
          exact g3 j hj
      · cases e
    · cases e) (fun _ _ z => z) w)
end
end Dl
namespace Dl
open PySem PySem.Spec PyProof.Rows L2
/-! ### statements -/
structure MEnds where
  nx : Env → Prop
  rt : Sl → Env → Prop
  bk : Env → Prop
  ct : Env → Prop
  ex : Er → Env → Prop
structure MEnds.Le (M M' : MEnds) : Prop where
  nx : ∀ r, M.nx r → M'.nx r
  rt : ∀ s r, M.rt s r → M'.rt s r
  bk : ∀ r, M.bk r → M'.bk r
  ct : ∀ r, M.ct r → M'.ct r
  ex : ∀ e r, M.ex e r → M'.ex e r
structure MS where
  wp : Env → MEnds → Prop
  mono : ∀ {ρ : Env} {M M' : MEnds}, M.Le M' → wp ρ M → wp ρ M'
structure Into (K : PySem.W.Frag) (W : WS) (G : Ent) (τ : L2.St) (δ : List Sl) (D : Ends) (M : MEnds) : Prop where
  nx : ∀ σ ρ H, Rel K G H σ ρ τ δ → M.nx ρ → D.nx σ H
  rt : ∀ s ρ v σ H, Rel K G H σ ρ (some v :: τ) (s :: δ) → M.rt s ρ → D.rt v H
  bk : ∀ σ ρ H, Rel K G H σ ρ τ δ → M.bk ρ → D.bk σ H
  ct : ∀ σ ρ H, Rel K G H σ ρ τ δ → M.ct ρ → D.ct σ H
  ex : ∀ σ er ρ, M.ex er ρ → exQ K W G σ τ δ er ρ
def SOk (K : PySem.W.Frag) (W : WS) (t : TS) (m : MS) : Prop := ∀ (G : Ent) (H : Hp) (σ : L2.St) (ρ : Env) (τ : L2.St) (δ : List Sl) (D : Ends) (M : MEnds), Rel K G H σ ρ τ δ → Into K W G τ δ D M → m.wp ρ M → t D σ H
def sNext : MS := ⟨fun ρ M => M.nx ρ, fun h w => h.nx _ w⟩
def sBreak : MS := ⟨fun ρ M => M.bk ρ, fun h w => h.bk _ w⟩
def sCont : MS := ⟨fun ρ M => M.ct ρ, fun h w => h.ct _ w⟩
def sSeq (a b : MS) : MS := ⟨fun ρ M => a.wp ρ { M with nx := fun r => b.wp r M }, fun {ρ M M'} h w => a.mono (M := { M with nx := fun r => b.wp r M }) ⟨fun r (z : b.wp r M) => b.mono h z, h.rt, h.bk, h.ct, h.ex⟩ w⟩
def sDrop (m : ME) : MS := ⟨fun ρ M => m.wp ρ (fun _ r => M.nx r) M.ex, fun h w => m.mono (fun _ r z => h.nx r z) h.ex w⟩
def sRet (m : ME) : MS := ⟨fun ρ M => m.wp ρ M.rt M.ex, fun h w => m.mono h.rt h.ex w⟩
def sRetN : MS := ⟨fun ρ M => M.rt (.sh .non) ρ, fun h w => h.rt _ _ w⟩
def sIf (c : MT) (a b : MS) : MS := ⟨fun ρ M => c.wp ρ (fun k r => if k = true then a.wp r M else b.wp r M) M.ex, fun h w => c.mono (fun k r z => by
  cases k with
  | true => exact a.mono h z
  | false => exact b.mono h z) h.ex w⟩
section
variable {K : PySem.W.Frag} {W : WS} {ta tb tc : TE} {ma mb mc : ME} {t u : TS} {m k : MS} {tA : TT} {mA : MT}
theorem zNext : SOk K W tNext sNext := fun G H σ ρ τ δ D M h i w => i.nx σ ρ H h w
theorem zBreak : SOk K W tBreak sBreak := fun G H σ ρ τ δ D M h i w => i.bk σ ρ H h w
theorem zCont : SOk K W tCont sCont := fun G H σ ρ τ δ D M h i w => i.ct σ ρ H h w
theorem zSeq (ht : SOk K W t m) (hu : SOk K W u k) : SOk K W (tSeq t u) (sSeq m k) := fun G H σ ρ τ δ D M h i w =>
  ht G H σ ρ τ δ _ { M with nx := fun r => k.wp r M } h ⟨fun σ' ρ' H' h' w' => hu G H' σ' ρ' τ δ D M h' i w', i.rt, i.bk, i.ct, i.ex⟩ w
theorem zDrop (ha : EOk K W ta ma) : SOk K W (tDrop ta) (sDrop ma) := fun G H σ ρ τ δ D M h i w =>
  ha G H σ ρ τ δ _ h (ma.mono (fun s ρ' z v H' q => i.nx σ ρ' H' q.pop z) (fun e ρ' z => i.ex σ e ρ' z) w)
theorem zRet (ha : EOk K W ta ma) : SOk K W (tRet ta) (sRet ma) := fun G H σ ρ τ δ D M h i w =>
  ha G H σ ρ τ δ _ h (ma.mono (fun s ρ' z v H' q => i.rt s ρ' v σ H' q z) (fun e ρ' z => i.ex σ e ρ' z) w)
theorem zRetN : SOk K W tRetN sRetN := fun G H σ ρ τ δ D M h i w => i.rt _ ρ .non σ H (h.push rfl) w
theorem zIf (hc : TOk K W tA mA) (ht : SOk K W t m) (hu : SOk K W u k) : SOk K W (tIfS tA t u) (sIf mA m k) := fun G H σ ρ τ δ D M h i w =>
  hc G H σ ρ τ δ _ h (mA.mono (fun b ρ' z H' q => by
    cases b with
    | true => exact ht G H' σ ρ' τ δ D M q i z
    | false => exact hu G H' σ ρ' τ δ D M q i z) (fun e ρ' z => i.ex σ e ρ' z) w)
/-! ### targets -/
abbrev MG := Sl → M Unit
def GOk (K : PySem.W.Frag) (g : TG) (mg : MG) : Prop := ∀ (G : Ent) (H : Hp) (σ : L2.St) (ρ : Env) (τ : L2.St) (δ : List Sl) (v : V) (s : Sl) (Q : L2.St → Hp → Prop), Rel K G H σ ρ (some v :: τ) (s :: δ) →
  (mg s).wp ρ (fun _ ρ' => ∀ σ' H', Rel K G H' σ' ρ' τ δ → Q σ' H') (fun _ _ => False) → g v σ H Q
/-- i is a slot: it is set -/
def gSet (i : Nat) : MG := fun s => ⟨fun ρ Q _ => match ρ[i]? with
  | some _ => Q () (ρ.set i s)
  | none => False, fun {ρ Q Q' E E'} h _ w => by
    revert w
    split
    · exact fun w => h _ _ w
    · exact id⟩
theorem gNm {i : Nat} : GOk K (gName i) (gSet i) := fun G H σ ρ τ δ v s Q h w => by
  unfold gSet at w
  simp only at w
  split at w
  · rename_i e
    refine w _ _ (h.set ?_)
    rcases Nat.lt_or_ge i ρ.length with z | z
    · exact z
    · rw [List.getElem?_eq_none z] at e; cases e
  · exact w.elim
def GsOk (K : PySem.W.Frag) (g : TGs) (mg : List D → M Unit) : Prop := ∀ (G : Ent) (H : Hp) (σ : L2.St) (ρ : Env) (τ : L2.St) (δ : List Sl) (vs : List V) (ds : List D) (Q : L2.St → Hp → Prop), vs.length = ds.length → Rel K G H σ ρ (vs.map some ++ τ) (ds.map Sl.sh ++ δ) →
  (mg ds).wp ρ (fun _ ρ' => ∀ σ' H', Rel K G H' σ' ρ' τ δ → Q σ' H') (fun _ _ => False) → g vs σ H Q
def gNo : List D → M Unit
  | [] => M.ret ()
  | _ => M.stuck
def gCo (g : MG) (gs : List D → M Unit) : List D → M Unit
  | d :: ds => (g (.sh d)).bind fun _ => gs ds
  | [] => M.stuck
theorem gsNil : GsOk K gNil gNo := fun G H σ ρ τ δ vs ds Q e h w => by
  unfold gNo at w
  split at w
  · cases vs with
    | nil => exact ⟨rfl, w _ _ h⟩
    | cons a l => simp at e
  · exact w.elim
theorem gsCons {g : TG} {gs : TGs} {mg : MG} {mgs : List D → M Unit} (hg : GOk K g mg) (hgs : GsOk K gs mgs) : GsOk K (gCons g gs) (gCo mg mgs) := fun G H σ ρ τ δ vs ds Q e h w => by
  cases ds with
  | nil => exact w.elim
  | cons d ds =>
    cases vs with
    | nil => simp at e
    | cons v vs => exact ⟨v, vs, rfl, hg G H σ ρ (vs.map some ++ τ) (ds.map Sl.sh ++ δ) v (.sh d) _ h ((mg (.sh d)).mono (fun _ ρ1 w1 σ1 H1 h1 => hgs G H1 σ1 ρ1 τ δ vs ds Q (by simpa using e) h1 w1) (fun _ _ z => z) w)⟩
/-- the parts of a tuple -/
def gTu (n : Nat) (gs : List D → M Unit) : MG
  | .sh (.tup ds) => if ds.length = n then gs ds else M.stuck
  | _ => M.stuck
theorem RepL.slots {F H : Hp} {τ : L2.St} {δ : List Sl} {f : List Addr} (h : Slots K F H τ δ f) : ∀ {vs : List V} {ds : List D}, RepL K F vs ds → Slots K F H (vs.map some ++ τ) (ds.map Sl.sh ++ δ) f
  | _, _, .nil => h
  | _, _, .cons r t => .cons (f := []) (.sh r) (RepL.slots h t)
theorem Rel.parts {G : Ent} {H : Hp} {σ : L2.St} {ρ : Env} {τ : L2.St} {δ : List Sl} {v : V} {ds : List D} (h : Rel K G H σ ρ (some v :: τ) (.sh (.tup ds) :: δ)) : ∃ a vs, v = .ref a ∧ SqT K H a vs ∧ vs.length = ds.length ∧ Rel K G H σ ρ (vs.map some ++ τ) (ds.map Sl.sh ++ δ) := by
  obtain ⟨F, f1, f2, g, ht, hs⟩ := h
  cases ht with
  | cons h1 h2 =>
    cases h1 with
    | sh r =>
      cases r with
      | @tup a vs _ h1 r =>
        refine ⟨a, vs, rfl, sqt_mono g.sub h1, r.len, F, _, f2, g, ?_, hs⟩
        exact RepL.slots h2 r
theorem gTp {n : Nat} {gs : TGs} {mgs : List D → M Unit} (hg : GsOk K gs mgs) : GOk K (gTup K n gs) (gTu n mgs) := fun G H σ ρ τ δ v s Q h w => by
  unfold gTu at w
  split at w
  · split at w
    · rename_i ds hn
      obtain ⟨a, vs, rfl, h1, h2, h3⟩ := h.parts
      exact ⟨a, vs, rfl, h1, h2.trans hn, hg G H σ ρ τ δ vs ds Q h2 h3 w⟩
    · exact w.elim
  · exact w.elim
def sAsg (m : ME) (g : MG) : MS := ⟨fun ρ M => m.wp ρ (fun s r => (g s).wp r (fun _ r' => M.nx r') (fun _ _ => False)) M.ex, fun h w => m.mono (fun s r z => (g s).mono (fun _ r' q => h.nx r' q) (fun _ _ q => q) z) h.ex w⟩
theorem zAsg {g : TG} {mg : MG} (ha : EOk K W ta ma) (hg : GOk K g mg) : SOk K W (tAsg ta g) (sAsg ma mg) := fun G H σ ρ τ δ D M h i w =>
  ha G H σ ρ τ δ _ h (ma.mono (fun s ρ1 w1 v H1 h1 => hg G H1 σ ρ1 τ δ v s _ h1 ((mg s).mono (fun _ ρ2 w2 σ2 H2 h2 => i.nx σ2 ρ2 H2 h2 w2) (fun _ _ z => z) w1)) (fun e ρ' z => i.ex σ e ρ' z) w)
/-- a slot is frozen behind a statement -/
def sFz (i : Nat) (m : MS) : MS := ⟨fun ρ M => m.wp ρ { M with nx := fun r => match r[i]? with
  | some s => M.nx (r.set i s.fz)
  | none => False }, fun {ρ M M'} h w => m.mono (M := { M with nx := fun r => match r[i]? with | some s => M.nx (r.set i s.fz) | none => False }) ⟨fun r z => by
    revert z
    simp only
    split
    · exact fun z => h.nx _ z
    · exact id, h.rt, h.bk, h.ct, h.ex⟩ w⟩
theorem zFz {i : Nat} (ht : SOk K W t m) : SOk K W t (sFz i m) := fun G H σ ρ τ δ D M h hi w =>
  ht G H σ ρ τ δ D { M with nx := fun r => match r[i]? with | some s => M.nx (r.set i s.fz) | none => False } h ⟨fun σ' ρ' H' h' w' => by
    simp only at w'
    split at w'
    · rename_i s e
      exact hi.nx σ' _ H' (h'.fzAt e) w'
    · exact w'.elim, hi.rt, hi.bk, hi.ct, hi.ex⟩ w
/-- x op= e of numbers -/
def sAug (i : Nat) (g : Int → Int → Int) (m : ME) : MS := ⟨fun ρ M => match ρ[i]? with
  | some (.sh (.int a)) => m.wp ρ (fun s r => match s with
    | .sh (.int b) => M.nx (r.set i (.sh (.int (g a b))))
    | _ => False) M.ex
  | _ => False, fun {ρ M M'} h w => by
    revert w
    split
    · exact fun w => m.mono (fun s r z => by
        revert z
        split
        · exact fun z => h.nx _ z
        · exact id) h.ex w
    · exact id⟩
theorem zAug {i : Nat} {g : Int → Int → Int} (ha : EOk K W ta ma) : SOk K W (tAug i ta (ipI g)) (sAug i g ma) := fun G H σ ρ τ δ D M h hi w => by
  unfold sAug at w
  simp only at w
  split at w
  · rename_i a e
    obtain ⟨v, e1, h1⟩ := h.get e
    obtain rfl := h1.topv (u := .int a) rfl
    refine ⟨_, e1, ha G H σ ρ τ δ _ h (ma.mono (fun s ρ1 w1 v H1 h1 => ?_) (fun e ρ' z => hi.ex σ e ρ' z) w)⟩
    split at w1
    · rename_i b
      obtain rfl := h1.topv (u := .int b) rfl
      refine ⟨a, b, rfl, rfl, hi.nx _ _ _ (Rel.set (h1.pop.push (d := .int (g a b)) rfl) ?_) w1⟩
      have hl : i < σ.length := by
        rcases Nat.lt_or_ge i σ.length with z | z
        · exact z
        · rw [List.getElem?_eq_none z] at e1; cases e1
      have := h1.len.1
      omega
    · exact w1.elim
  · exact w.elim
/-! ### loops -/
abbrev MI := M (List D)
structure Walks (K : PySem.W.Frag) (G : Ent) (J : It) (ds : List D) (τ' : L2.St) (δ' : List Sl) : Prop where
  go : ∀ H σ ρ τ δ i, Rel K G H σ ρ (τ' ++ τ) (δ' ++ δ) → i < ds.length → J.go i H
  stop : ∀ H σ ρ τ δ, Rel K G H σ ρ (τ' ++ τ) (δ' ++ δ) → J.stop ds.length H
  yld : ∀ H σ ρ τ δ i x H' d, Rel K G H σ ρ (τ' ++ τ) (δ' ++ δ) → ds[i]? = some d → J.yld i H x H' → Rel K G H' σ ρ (some x :: (τ' ++ τ)) (.sh d :: (δ' ++ δ))
def IOk (K : PySem.W.Frag) (W : WS) (wi : TI) (m : MI) : Prop := ∀ (G : Ent) (H : Hp) (σ : L2.St) (ρ : Env) (τ : L2.St) (δ : List Sl) (R : It → Hp → Prop), Rel K G H σ ρ τ δ →
  m.wp ρ (fun ds ρ' => ∀ J H' τ' δ', τ'.length = δ'.length → Rel K G H' σ ρ' (τ' ++ τ) (δ' ++ δ) → Walks K G J ds τ' δ' → R J H') (exQ K W G σ τ δ) → wi σ H R
def forM (g : MG) (b : MS) : List D → Env → MEnds → Prop
  | [], ρ, M => M.nx ρ
  | d :: ds, ρ, M => (g (.sh d)).wp ρ (fun _ r => b.wp r { M with nx := fun r => forM g b ds r M, ct := fun r => forM g b ds r M, bk := M.nx }) (fun _ _ => False)
theorem forM_mono {g : MG} {b : MS} {M M' : MEnds} (h : M.Le M') : ∀ {ds : List D} {ρ : Env}, forM g b ds ρ M → forM g b ds ρ M'
  | [], ρ, w => h.nx ρ w
  | d :: ds, ρ, w => (g (.sh d)).mono (fun _ r z => b.mono (M := { M with nx := fun r => forM g b ds r M, ct := fun r => forM g b ds r M, bk := M.nx }) ⟨fun r z => forM_mono h z, h.rt, h.nx, fun r z => forM_mono h z, h.ex⟩ z) (fun _ _ z => z) w
def sFor (i : MI) (g : MG) (b : MS) : MS := ⟨fun ρ M => i.wp ρ (fun ds r => forM g b ds r M) M.ex, fun h w => i.mono (fun ds r z => forM_mono h z) h.ex w⟩
theorem for_go {J : It} {g : TG} {mg : MG} (hg : GOk K g mg) (hb : SOk K W t m) {G : Ent} {H1 : Hp} {σ τ τ' : L2.St} {ρ1 : Env} {δ δ' : List Sl} {ds : List D} {D : Ends} {M : MEnds} (el : τ'.length = δ'.length) (h1 : Rel K G H1 σ ρ1 (τ' ++ τ) (δ' ++ δ)) (hw : Walks K G J ds τ' δ') (hi' : Into K W G τ δ D M) (w1 : forM mg m ds ρ1 M) :
    ∃ W : Nat → Nat → L2.St → Hp → Prop, (∃ m, W 0 m σ H1) ∧ ∀ i m σ H, W i m σ H →
      (J.stop i H ∧ D.nx σ H) ∨ (J.go i H ∧ ∃ N : L2.St → Hp → Prop, (∀ σ' H', N σ' H' → ∃ m', m' < m ∧ W (i + 1) m' σ' H') ∧ ∀ x H', J.yld i H x H' → g x σ H' fun σ2 H2 => t { D with nx := N, ct := N, bk := D.nx } σ2 H2) := by
  refine ⟨fun i n σ' H' => n = ds.length - i ∧ i ≤ ds.length ∧ ∃ ρ', Rel K G H' σ' ρ' (τ' ++ τ) (δ' ++ δ) ∧ forM mg m (ds.drop i) ρ' M, ⟨_, rfl, Nat.zero_le _, ρ1, h1, w1⟩, ?_⟩
  rintro i n σ' H' ⟨rfl, hle, ρ', h2, w2⟩
  by_cases hlt : i < ds.length
  · have hd : ds.drop i = ds[i] :: ds.drop (i + 1) := List.drop_eq_getElem_cons hlt
    rw [hd] at w2
    refine .inr ⟨hw.go H' σ' ρ' τ δ i h2 hlt, fun σ2 H2 => ∃ ρ2, Rel K G H2 σ2 ρ2 (τ' ++ τ) (δ' ++ δ) ∧ forM mg m (ds.drop (i + 1)) ρ2 M, fun σ2 H2 ⟨ρ2, h3, w3⟩ => ⟨_, by omega, rfl, hlt, ρ2, h3, w3⟩, fun x H2 y => ?_⟩
    have h3 := hw.yld H' σ' ρ' τ δ i x H2 ds[i] h2 (List.getElem?_eq_getElem hlt) y
    refine hg G H2 σ' ρ' _ _ x _ _ h3 ((mg _).mono (fun _ ρ3 w3 σ3 H3 h4 => ?_) (fun _ _ z => z) w2)
    refine hb G H3 σ3 ρ3 _ _ _ { M with nx := fun r => forM mg m (ds.drop (i + 1)) r M, ct := fun r => forM mg m (ds.drop (i + 1)) r M, bk := M.nx } h4 ⟨fun σ4 ρ4 H4 h5 w4 => ⟨ρ4, h5, w4⟩, fun s ρ4 v σ4 H4 h5 w4 => hi'.rt s ρ4 v σ4 H4 (Rel.dropN el h5) w4, fun σ4 ρ4 H4 h5 w4 => hi'.nx σ4 ρ4 H4 (Rel.popN el h5) w4, fun σ4 ρ4 H4 h5 w4 => ⟨ρ4, h5, w4⟩, fun σ4 er ρ4 w4 v H4 h5 => hi'.ex σ4 er ρ4 w4 v H4 (Rel.dropN el h5)⟩ w3
  · have e : i = ds.length := by omega
    subst e
    rw [List.drop_length] at w2
    exact .inl ⟨hw.stop H' σ' ρ' τ δ h2, hi'.nx σ' ρ' H' (Rel.popN el h2) w2⟩
theorem zFor {wi : TI} {mi : MI} {g : TG} {mg : MG} (hi : IOk K W wi mi) (hg : GOk K g mg) (hb : SOk K W t m) : SOk K W (tFor wi g t) (sFor mi mg m) := fun G H σ ρ τ δ D M h hi' w =>
  hi G H σ ρ τ δ _ h (mi.mono (fun ds ρ1 w1 J H1 τ' δ' el h1 hw => for_go hg hb el h1 hw hi' w1) (fun e ρ' z => hi'.ex σ e ρ' z) w)
/-- while: as many turns as are asked for -/
def whM (c : MT) (b : MS) : Nat → Env → MEnds → Prop
  | 0, _, _ => False
  | n + 1, ρ, M => c.wp ρ (fun k r => if k = true then b.wp r { M with nx := fun r => whM c b n r M, ct := fun r => whM c b n r M, bk := M.nx } else M.nx r) M.ex
theorem whM_mono {c : MT} {b : MS} {M M' : MEnds} (h : M.Le M') : ∀ {n : Nat} {ρ : Env}, whM c b n ρ M → whM c b n ρ M'
  | 0, _, w => w
  | n + 1, ρ, w => c.mono (fun k r z => by
      cases k with
      | true => exact b.mono (M := { M with nx := fun r => whM c b n r M, ct := fun r => whM c b n r M, bk := M.nx }) ⟨fun r z => whM_mono h z, h.rt, h.nx, fun r z => whM_mono h z, h.ex⟩ z
      | false => exact h.nx _ z) h.ex w
def sWhile (c : MT) (b : MS) : MS := ⟨fun ρ M => ∃ n, whM c b n ρ M, fun h ⟨n, w⟩ => ⟨n, whM_mono h w⟩⟩
theorem zWhile (hc : TOk K W tA mA) (hb : SOk K W t m) : SOk K W (tWhile tA t) (sWhile mA m) := fun G H σ ρ τ δ D M h hi ⟨n, w⟩ => by
  refine ⟨fun n σ' H' => ∃ ρ', Rel K G H' σ' ρ' τ δ ∧ whM mA m n ρ' M, ⟨n, ρ, h, w⟩, ?_⟩
  rintro n σ' H' ⟨ρ', h1, w1⟩
  cases n with
  | zero => exact w1.elim
  | succ n =>
    refine hc G H' σ' ρ' τ δ _ h1 (mA.mono (fun b ρ2 w2 H2 h2 => ?_) (fun e ρ' z => hi.ex σ' e ρ' z) w1)
    cases b with
    | false => exact hi.nx σ' ρ2 H2 h2 w2
    | true =>
      refine ⟨fun σ3 H3 => ∃ ρ3, Rel K G H3 σ3 ρ3 τ δ ∧ whM mA m n ρ3 M, fun σ3 H3 ⟨ρ3, h3, w3⟩ => ⟨n, Nat.lt_succ_self _, ρ3, h3, w3⟩, ?_⟩
      exact hb G H2 σ' ρ2 τ δ _ { M with nx := fun r => whM mA m n r M, ct := fun r => whM mA m n r M, bk := M.nx } h2 ⟨fun σ4 ρ4 H4 h5 w4 => ⟨ρ4, h5, w4⟩, hi.rt, hi.nx, fun σ4 ρ4 H4 h5 w4 => ⟨ρ4, h5, w4⟩, hi.ex⟩ w2
end
end Dl
namespace Dl
open PySem PySem.Spec PyProof.Rows L2
section
variable {K : PySem.W.Frag} {W : WS} {ta tb tc : TE} {ma mb mc : ME} {t u : TS} {m k : MS} {tA : TT} {mA : MT} {tl : TA} {ml : MA}
/-! ### what is walked -/
/-- the items of a sequence -/
def asSeq (p : D → Option (List D)) : Sl → MI
  | .sh d => match p d with
    | some xs => M.ret xs
    | none => M.stuck
  | _ => M.stuck
theorem asSeq_go {p : D → Option (List D)} {s : Sl} {ρ : Env} {Q : List D → Env → Prop} {E : Er → Env → Prop} (w : (asSeq p s).wp ρ Q E) : ∃ d xs, s = .sh d ∧ p d = some xs ∧ Q xs ρ := by
  unfold asSeq at w
  split at w
  · split at w
    · exact ⟨_, _, rfl, by assumption, w⟩
    · exact w.elim
  · exact w.elim
def D.asL : D → Option (List D)
  | .lst xs => some xs
  | _ => none
def D.asTp : D → Option (List D)
  | .tup xs => some xs
  | _ => none
def iL (a : ME) : MI := a.bind (asSeq D.asL)
def iT (a : ME) : MI := a.bind (asSeq D.asTp)
theorem Rel.held {G : Ent} {H : Hp} {σ : L2.St} {ρ : Env} {τ : L2.St} {δ : List Sl} {v : V} {d : D} (h : Rel K G H σ ρ (some v :: τ) (.sh d :: δ)) : ∃ F, Rep K F v d ∧ Le F H ∧ ∀ u z, Rep K F u z → Rel K G H σ ρ (some u :: some v :: τ) (.sh z :: .sh d :: δ) := by
  obtain ⟨F, f1, f2, g, ht, hs⟩ := h
  cases ht with
  | cons h1 h2 =>
    cases h1 with
    | sh r => exact ⟨F, r, g.sub, fun u z q => ⟨F, _, f2, g, .cons (.sh q) (.cons (.sh r) h2), hs⟩⟩
theorem Rel.lstAt {G : Ent} {H : Hp} {σ : L2.St} {ρ : Env} {τ : L2.St} {δ : List Sl} {a : Addr} {ds : List D} (h : Rel K G H σ ρ (some (.ref a) :: τ) (.sh (.lst ds) :: δ)) : ∃ vs, H a = some (.lst vs) ∧ vs.length = ds.length ∧ ∀ (i : Nat) (x : V) (d : D), vs[i]? = some x → ds[i]? = some d → Rel K G H σ ρ (some x :: some (.ref a) :: τ) (.sh d :: .sh (.lst ds) :: δ) := by
  obtain ⟨F, r, l, k⟩ := h.held
  cases r with
  | lst h1 r =>
    refine ⟨_, l _ _ h1, r.len, fun i x d e1 e2 => ?_⟩
    obtain ⟨v, e3, q⟩ := r.get e2
    rw [e1] at e3
    cases e3
    exact k _ _ q
theorem Rel.tupAt {G : Ent} {H : Hp} {σ : L2.St} {ρ : Env} {τ : L2.St} {δ : List Sl} {a : Addr} {ds : List D} (h : Rel K G H σ ρ (some (.ref a) :: τ) (.sh (.tup ds) :: δ)) : ∃ vs, SqT K H a vs ∧ vs.length = ds.length ∧ ∀ (i : Nat) (x : V) (d : D), vs[i]? = some x → ds[i]? = some d → Rel K G H σ ρ (some x :: some (.ref a) :: τ) (.sh d :: .sh (.tup ds) :: δ) := by
  obtain ⟨F, r, l, k⟩ := h.held
  cases r with
  | tup h1 r =>
    refine ⟨_, sqt_mono l h1, r.len, fun i x d e1 e2 => ?_⟩
    obtain ⟨v, e3, q⟩ := r.get e2
    rw [e1] at e3
    cases e3
    exact k _ _ q
theorem walks_list {a : Addr} {ds : List D} : Walks K G (Itl K a) ds [some (.ref a)] [.sh (.lst ds)] where
  go := fun H σ ρ τ δ i h hi => by
    obtain ⟨vs, h1, h2, _⟩ := h.lstAt
    exact walk_list.goes i H (by omega) (SqL.of h1)
  stop := fun H σ ρ τ δ h => by
    obtain ⟨vs, h1, h2, _⟩ := h.lstAt
    rw [← h2]
    exact walk_list.stops H (SqL.of h1)
  yld := fun H σ ρ τ δ i x H' d h hi y => by
    obtain ⟨vs, h1, h2, h3⟩ := h.lstAt
    have hlt : i < ds.length := by
      rcases Nat.lt_or_ge i ds.length with z | z
      · exact z
      · rw [List.getElem?_eq_none z] at hi; cases hi
    obtain ⟨e1, e2⟩ := (walk_list (K := K) (a := a) (xs := vs)).yields i H x H' (by omega) (SqL.of h1) y
    subst e1
    exact h3 i x d e2 hi
theorem walks_tup {a : Addr} {ds : List D} : Walks K G (Itt K a) ds [some (.ref a)] [.sh (.tup ds)] where
  go := fun H σ ρ τ δ i h hi => by
    obtain ⟨vs, h1, h2, _⟩ := h.tupAt
    exact walk_tup.goes i H (by omega) h1
  stop := fun H σ ρ τ δ h => by
    obtain ⟨vs, h1, h2, _⟩ := h.tupAt
    rw [← h2]
    exact walk_tup.stops H h1
  yld := fun H σ ρ τ δ i x H' d h hi y => by
    obtain ⟨vs, h1, h2, h3⟩ := h.tupAt
    have hlt : i < ds.length := by
      rcases Nat.lt_or_ge i ds.length with z | z
      · exact z
      · rw [List.getElem?_eq_none z] at hi; cases hi
    obtain ⟨e1, e2⟩ := (walk_tup (K := K) (a := a) (xs := vs)).yields i H x H' (by omega) h1 y
    subst e1
    exact h3 i x d e2 hi
theorem wList (ha : EOk K W ta ma) : IOk K W (iList K ta) (iL ma) := fun G H σ ρ τ δ R h w =>
  ha G H σ ρ τ δ _ h (ma.mono (fun s ρ1 w1 v H1 h1 => by
    obtain ⟨d, xs, rfl, e, q⟩ := asSeq_go w1
    unfold D.asL at e
    split at e
    · cases e
      obtain ⟨F, r, z⟩ := h1.top
      cases r with
      | lst h2 r => exact ⟨_, rfl, ⟨_, SqL.of (z.le _ _ h2)⟩, q _ _ _ _ rfl h1 walks_list⟩
    · cases e) (fun _ _ z => z) w)
theorem wTup (ha : EOk K W ta ma) : IOk K W (iTup K ta) (iT ma) := fun G H σ ρ τ δ R h w =>
  ha G H σ ρ τ δ _ h (ma.mono (fun s ρ1 w1 v H1 h1 => by
    obtain ⟨d, xs, rfl, e, q⟩ := asSeq_go w1
    unfold D.asTp at e
    split at e
    · cases e
      obtain ⟨F, r, z⟩ := h1.top
      cases r with
      | tup h2 r => exact ⟨_, rfl, ⟨_, sqt_mono z.le h2⟩, q _ _ _ _ rfl h1 walks_tup⟩
    · cases e) (fun _ _ z => z) w)
/-- numbers lo, lo + 1, .. -/
def rgD (lo : Int) (n : Nat) : List D := (List.range n).map fun i => D.int (lo + (i : Nat))
theorem walks_range {lo : Int} {n : Nat} : Walks K G (Itr lo n) (rgD lo n) [] [] where
  go := fun H σ ρ τ δ i h hi => by
    simp only [rgD, List.length_map, List.length_range] at hi
    exact hi
  stop := fun H σ ρ τ δ h => by
    simp only [rgD, List.length_map, List.length_range]
    exact Nat.le_refl _
  yld := fun H σ ρ τ δ i x H' d h hi y => by
    obtain ⟨rfl, rfl⟩ := y
    have hlt : i < n := by
      rcases Nat.lt_or_ge i n with z | z
      · exact z
      · rw [List.getElem?_eq_none (by simp only [rgD, List.length_map, List.length_range]; exact z)] at hi; cases hi
    have : d = .int (lo + (i : Nat)) := by
      simp only [rgD, List.getElem?_map, List.getElem?_range hlt, Option.map_some] at hi
      exact (Option.some.inj hi).symm
    rw [this]
    exact h.push rfl
def asI (k : Int → MI) : Sl → MI
  | .sh (.int j) => k j
  | _ => M.stuck
def need {α : Type} (p : Prop) (m : M α) : M α := ⟨fun ρ Q E => p ∧ m.wp ρ Q E, fun h h' w => ⟨w.1, m.mono h h' w.2⟩⟩
def iR1 (a : ME) : MI := a.bind (asI fun j => need (-(2 ^ 62) ≤ j ∧ j < 2 ^ 62) (M.ret (rgD 0 j.toNat)))
def iR2 (a b : ME) : MI := a.bind (asI fun i => b.bind (asI fun j => need (-(2 ^ 62) ≤ i ∧ i < 2 ^ 62 ∧ -(2 ^ 62) ≤ j ∧ j < 2 ^ 62) (M.ret (rgD i (j - i).toNat))))
theorem asI_go {k : Int → MI} {s : Sl} {ρ : Env} {Q : List D → Env → Prop} {E : Er → Env → Prop} (w : (asI k s).wp ρ Q E) : ∃ j, s = .sh (.int j) ∧ (k j).wp ρ Q E := by
  unfold asI at w
  split at w
  · exact ⟨_, rfl, w⟩
  · exact w.elim
theorem wR1 (ha : EOk K W ta ma) : IOk K W (iRng1 (tCons ta tNil)) (iR1 ma) := fun G H σ ρ τ δ R h w =>
  ha G H σ ρ τ δ _ h (ma.mono (fun s ρ1 w1 v H1 h1 => by
    obtain ⟨j, rfl, w2, w3⟩ := asI_go w1
    obtain rfl := h1.topv (u := .int j) rfl
    exact ⟨j, rfl, w2.1, w2.2, w3 _ _ [] [] rfl h1.pop walks_range⟩) (fun _ _ z => z) w)
theorem wR2 (ha : EOk K W ta ma) (hb : EOk K W tb mb) : IOk K W (iRng2 (tCons ta (tCons tb tNil))) (iR2 ma mb) := fun G H σ ρ τ δ R h w =>
  ha G H σ ρ τ δ _ h (ma.mono (fun s ρ1 w1 v H1 h1 => by
    obtain ⟨i, rfl, w2⟩ := asI_go w1
    obtain rfl := h1.topv (u := .int i) rfl
    refine hb G H1 σ ρ1 _ _ _ h1 (mb.mono (fun s ρ2 w3 v H2 h2 => ?_) (fun e ρ' z v H' q => z v H' q.drop2) w2)
    obtain ⟨j, rfl, w4, w5⟩ := asI_go w3
    obtain rfl := h2.topv (u := .int j) rfl
    exact ⟨i, j, rfl, w4, w5 _ _ [] [] rfl h2.pop.pop walks_range⟩) (fun _ _ z => z) w)
/-- range(i, j, c) -/
def rgC (lo c : Int) (n : Nat) : List D := (List.range n).map fun i => D.int (lo + (i : Nat) * c)
theorem walks_rangeC {lo c : Int} {n : Nat} : Walks K G (Itc lo c n) (rgC lo c n) [] [] where
  go := fun H σ ρ τ δ i h hi => by
    simp only [rgC, List.length_map, List.length_range] at hi
    exact hi
  stop := fun H σ ρ τ δ h => by
    simp only [rgC, List.length_map, List.length_range]
    exact Nat.le_refl _
  yld := fun H σ ρ τ δ i x H' d h hi y => by
    obtain ⟨rfl, rfl⟩ := y
    have hlt : i < n := by
      rcases Nat.lt_or_ge i n with z | z
      · exact z
      · rw [List.getElem?_eq_none (by simp only [rgC, List.length_map, List.length_range]; exact z)] at hi; cases hi
    have : d = .int (lo + (i : Nat) * c) := by
      simp only [rgC, List.getElem?_map, List.getElem?_range hlt, Option.map_some] at hi
      exact (Option.some.inj hi).symm
    rw [this]
    exact h.push rfl
/-- texts, sign by sign -/
def sgD (z : Str) : List D := z.cps.toList.map fun c => D.str ⟨#[c]⟩
def D.asS : D → Option (List D)
  | .str z => some (sgD z)
  | _ => none
def iS (a : ME) : MI := a.bind (asSeq D.asS)
theorem walks_str {z : Str} : Walks K G (Its z) (sgD z) [] [] where
  go := fun H σ ρ τ δ i h hi => by
    simp only [sgD, List.length_map, Array.length_toList] at hi
    exact hi
  stop := fun H σ ρ τ δ h => by
    simp only [sgD, List.length_map, Array.length_toList]
    exact Nat.le_refl _
  yld := fun H σ ρ τ δ i x H' d h hi y => by
    obtain ⟨rfl, c, hc, rfl⟩ := y
    have : d = .str ⟨#[c]⟩ := by
      simp only [sgD, List.getElem?_map, Array.getElem?_toList, hc, Option.map_some] at hi
      exact (Option.some.inj hi).symm
    rw [this]
    exact h.push rfl
theorem wStr (ha : EOk K W ta ma) : IOk K W (iStr ta) (iS ma) := fun G H σ ρ τ δ R h w =>
  ha G H σ ρ τ δ _ h (ma.mono (fun s ρ1 w1 v H1 h1 => by
    obtain ⟨d, xs, rfl, e, q⟩ := asSeq_go w1
    unfold D.asS at e
    split at e
    · rename_i z
      cases e
      obtain rfl := h1.topv (u := .str z) rfl
      exact ⟨z, rfl, q _ _ [] [] rfl h1.pop walks_str⟩
    · cases e) (fun _ _ z => z) w)
/-- pairs that are laid anew at each turn -/
theorem Rel.pair {G : Ent} {H : Hp} {σ : L2.St} {ρ : Env} {τ : L2.St} {δ : List Sl} {x y : V} {d e : D} {T : Addr} (h : Rel K G H σ ρ (some x :: some y :: τ) (.sh d :: .sh e :: δ)) (hT : H T = none) : Rel K G (upd H T (.tup [x, y])) σ ρ (some (.ref T) :: τ) (.sh (.tup [d, e]) :: δ) :=
  Rel.tup (vs := [x, y]) (ds := [d, e]) hT rfl h
def enD (xs : List D) : List D := (List.range xs.length).zipWith (fun i d => D.tup [.int (i : Nat), d]) xs
theorem enD_at {xs : List D} {i : Nat} {d : D} (h : (enD xs)[i]? = some d) : ∃ x, xs[i]? = some x ∧ d = .tup [.int (i : Nat), x] := by
  unfold enD at h
  rw [List.getElem?_zipWith] at h
  cases e : xs[i]? with
  | none => rw [e] at h; cases h1 : (List.range xs.length)[i]? <;> rw [h1] at h <;> cases h
  | some x =>
    have hlt : i < xs.length := by
      rcases Nat.lt_or_ge i xs.length with z | z
      · exact z
      · rw [List.getElem?_eq_none z] at e; cases e
    rw [e, List.getElem?_range hlt] at h
    exact ⟨x, rfl, (Option.some.inj h).symm⟩
theorem enD_len (xs : List D) : (enD xs).length = xs.length := by unfold enD; rw [List.length_zipWith, List.length_range]; omega
def iE (a : ME) : MI := a.bind fun s => (asSeq D.asL s).bind fun xs => M.ret (enD xs)
def iET (a : ME) : MI := a.bind fun s => (asSeq D.asTp s).bind fun xs => M.ret (enD xs)
theorem walks_enum {a : Addr} {ds : List D} : Walks K G (Ite K a) (enD ds) [some (.ref a)] [.sh (.lst ds)] where
  go := fun H σ ρ τ δ i h hi => by
    obtain ⟨vs, h1, h2, _⟩ := h.lstAt
    rw [enD_len] at hi
    exact walk_enum.goes i H (by omega) (SqL.of h1)
  stop := fun H σ ρ τ δ h => by
    obtain ⟨vs, h1, h2, _⟩ := h.lstAt
    rw [enD_len, ← h2]
    exact walk_enum.stops H (SqL.of h1)
  yld := fun H σ ρ τ δ i x H' d h hi y => by
    obtain ⟨vs, h1, h2, h3⟩ := h.lstAt
    obtain ⟨z, e1, rfl⟩ := enD_at hi
    have hlt : i < ds.length := by
      rcases Nat.lt_or_ge i ds.length with z | z
      · exact z
      · rw [List.getElem?_eq_none z] at e1; cases e1
    obtain ⟨T, x1, y1, rfl, hT, rfl, e2, e3⟩ := (walk_enum (K := K) (a := a) (xs := vs)).yields i H x H' (by omega) (SqL.of h1) y
    cases e2
    exact ((h3 i y1 z e3 e1).push (d := .int (i : Nat)) rfl).pair hT
theorem walks_enumT {a : Addr} {ds : List D} : Walks K G (EnB.IteT K a) (enD ds) [some (.ref a)] [.sh (.tup ds)] where
  go := fun H σ ρ τ δ i h hi => by
    obtain ⟨vs, h1, h2, _⟩ := h.tupAt
    rw [enD_len] at hi
    exact EnB.walk_et.goes i H (by omega) h1
  stop := fun H σ ρ τ δ h => by
    obtain ⟨vs, h1, h2, _⟩ := h.tupAt
    rw [enD_len, ← h2]
    exact EnB.walk_et.stops H h1
  yld := fun H σ ρ τ δ i x H' d h hi y => by
    obtain ⟨vs, h1, h2, h3⟩ := h.tupAt
    obtain ⟨z, e1, rfl⟩ := enD_at hi
    have hlt : i < ds.length := by
      rcases Nat.lt_or_ge i ds.length with z | z
      · exact z
      · rw [List.getElem?_eq_none z] at e1; cases e1
    obtain ⟨T, x1, y1, rfl, hT, rfl, e2, e3⟩ := (EnB.walk_et (K := K) (a := a) (xs := vs)).yields i H x H' (by omega) h1 y
    cases e2
    exact ((h3 i y1 z e3 e1).push (d := .int (i : Nat)) rfl).pair hT
theorem wEnum (ha : EOk K W ta ma) : IOk K W (iEnum K (tCons ta tNil)) (iE ma) := fun G H σ ρ τ δ R h w =>
  ha G H σ ρ τ δ _ h (ma.mono (fun s ρ1 w1 v H1 h1 => by
    obtain ⟨d, xs, rfl, e, q⟩ := asSeq_go w1
    unfold D.asL at e
    split at e
    · cases e
      obtain ⟨F, r, z⟩ := h1.top
      cases r with
      | lst h2 r => exact ⟨_, _, rfl, SqL.of (z.le _ _ h2), q _ _ _ _ rfl h1 walks_enum⟩
    · cases e) (fun _ _ z => z) w)
theorem wEnumT (ha : EOk K W ta ma) : IOk K W (EnB.iEnumT K (tCons ta tNil)) (iET ma) := fun G H σ ρ τ δ R h w =>
  ha G H σ ρ τ δ _ h (ma.mono (fun s ρ1 w1 v H1 h1 => by
    obtain ⟨d, xs, rfl, e, q⟩ := asSeq_go w1
    unfold D.asTp at e
    split at e
    · cases e
      obtain ⟨F, r, z⟩ := h1.top
      cases r with
      | tup h2 r => exact ⟨_, _, rfl, sqt_mono z.le h2, q _ _ _ _ rfl h1 walks_enumT⟩
    · cases e) (fun _ _ z => z) w)
/-- zip of two lists -/
def zipD (xs ys : List D) : List D := xs.zipWith (fun a b => D.tup [a, b]) ys
def iZ (a b : ME) : MI := a.bind fun s => (asSeq D.asL s).bind fun xs => b.bind fun s' => (asSeq D.asL s').bind fun ys => M.ret (zipD xs ys)
theorem walks_zip {a b : Addr} {xs ys : List D} : Walks K G (Itz K a b) (zipD xs ys) [some (.ref b), some (.ref a)] [.sh (.lst ys), .sh (.lst xs)] where
  go := fun H σ ρ τ δ i h hi => by
    obtain ⟨vs, h1, h2, _⟩ := h.lstAt
    obtain ⟨us, k1, k2, _⟩ := h.pop.lstAt
    unfold zipD at hi
    rw [List.length_zipWith] at hi
    exact (walk_zip (n := min us.length vs.length) rfl).goes i H (by omega) ⟨SqL.of k1, SqL.of h1⟩
  stop := fun H σ ρ τ δ h => by
    obtain ⟨vs, h1, h2, _⟩ := h.lstAt
    obtain ⟨us, k1, k2, _⟩ := h.pop.lstAt
    unfold zipD
    rw [List.length_zipWith, ← h2, ← k2]
    exact (walk_zip rfl).stops H ⟨SqL.of k1, SqL.of h1⟩
  yld := fun H σ ρ τ δ i x H' d h hi y => by
    obtain ⟨vs, h1, h2, h3⟩ := h.lstAt
    obtain ⟨us, k1, k2, k3⟩ := h.pop.lstAt
    unfold zipD at hi
    rw [List.getElem?_zipWith] at hi
    cases ex : xs[i]? with
    | none => rw [ex] at hi; cases hi
    | some p =>
      cases ey : ys[i]? with
      | none => rw [ex, ey] at hi; cases hi
      | some q =>
        rw [ex, ey] at hi
        have hd : d = .tup [p, q] := (Option.some.inj hi).symm
        have hx : i < xs.length := by
          rcases Nat.lt_or_ge i xs.length with z | z
          · exact z
          · rw [List.getElem?_eq_none z] at ex; cases ex
        have hy : i < ys.length := by
          rcases Nat.lt_or_ge i ys.length with z | z
          · exact z
          · rw [List.getElem?_eq_none z] at ey; cases ey
        obtain ⟨T, x1, y1, rfl, hT, rfl, e2, e3⟩ := (walk_zip (K := K) (a := a) (b := b) (xs := us) (ys := vs) (n := min us.length vs.length) rfl).yields i H x H' (by omega) ⟨SqL.of k1, SqL.of h1⟩ y
        rw [hd]
        have r1 := h3 i y1 q e3 ey
        -- the first's item, held beside
        obtain ⟨F, f1, f2, g, ht, hs⟩ := r1
        cases ht with
        | cons s1 t1 =>
          cases t1 with
          | cons s2 t2 =>
            cases t2 with
            | cons s3 t3 =>
              cases s3 with
              | sh r3 =>
                cases r3 with
                | @lst _ vs' _ hl rl =>
                  have : vs' = us := by
                    have z := g.sub _ _ hl
                    rw [k1] at z
                    exact ((HO.lst.injEq _ _).mp (Option.some.inj z)).symm
                  subst this
                  obtain ⟨w, ew, rw'⟩ := rl.get ex
                  have e2' : vs'[i]? = some x1 := e2
                  rw [e2'] at ew
                  cases ew
                  have full : Rel K G H σ ρ (some x1 :: some y1 :: some (.ref b) :: some (.ref a) :: τ) (.sh p :: .sh q :: .sh (.lst ys) :: .sh (.lst xs) :: δ) := ⟨F, _, f2, g, .cons (f := []) (.sh rw') (.cons s1 (.cons s2 (.cons (.sh (.lst hl rl)) t3))), hs⟩
                  exact full.pair hT
theorem wZip (ha : EOk K W ta ma) (hb : EOk K W tb mb) : IOk K W (iZip K (tCons ta (tCons tb tNil))) (iZ ma mb) := fun G H σ ρ τ δ R h w =>
  ha G H σ ρ τ δ _ h (ma.mono (fun s ρ1 w1 v H1 h1 => by
    obtain ⟨d, xs, rfl, e, q⟩ := asSeq_go w1
    unfold D.asL at e
    split at e
    · cases e
      refine hb G H1 σ ρ1 _ _ _ h1 (mb.mono (fun s ρ2 w3 v2 H2 h2 => ?_) (fun e ρ' z v H' q => z v H' q.drop2) q)
      obtain ⟨d, ys, rfl, e, q2⟩ := asSeq_go w3
      unfold D.asL at e
      split at e
      · cases e
        obtain ⟨F, r1, r2, z⟩ := h2.top2
        cases r1 with
        | lst k1 r1 =>
          cases r2 with
          | lst k2 r2 => exact ⟨_, _, _, _, rfl, SqL.of (z.le _ _ k1), SqL.of (z.le _ _ k2), q2 _ _ [_, _] [_, _] rfl h2 walks_zip⟩
      · cases e
    · cases e) (fun _ _ z => z) w)
end
end Dl
namespace Dl
open PySem PySem.Spec PyProof.Rows L2
/-! ### calls -/
/-- an argument: data, or a slot that is lent -/
inductive Ag where
  | s (x : Sl) | l (i : Nat)
inductive Ags (σ : L2.St) : List V → List Ag → L2.St → List Sl → Prop
  | nil : Ags σ [] [] [] []
  | s {v : V} {vs : List V} {x : Sl} {ags : List Ag} {τs : L2.St} {δs : List Sl} : Ags σ vs ags τs δs → Ags σ (v :: vs) (.s x :: ags) (some v :: τs) (x :: δs)
  | l {v : V} {vs : List V} {i : Nat} {ags : List Ag} {τs : L2.St} {δs : List Sl} : σ[i]? = some (some v) → Ags σ vs ags τs δs → Ags σ (v :: vs) (.l i :: ags) τs δs
theorem Ags.len {σ : L2.St} {vs : List V} {ags : List Ag} {τs : L2.St} {δs : List Sl} (h : Ags σ vs ags τs δs) : τs.length = δs.length := by
  induction h with
  | nil => rfl
  | s _ ih => simp [ih]
  | l _ _ ih => exact ih
abbrev MB := M (List Ag)
def BOk (K : PySem.W.Frag) (W : WS) (t : TA) (m : MB) : Prop := ∀ (G : Ent) (H : Hp) (σ : L2.St) (ρ : Env) (τ : L2.St) (δ : List Sl) (Q : List V → Hp → Prop), Rel K G H σ ρ τ δ →
  m.wp ρ (fun ags ρ' => ∀ vs H' τs δs, Ags σ vs ags τs δs → Rel K G H' σ ρ' (τs ++ τ) (δs ++ δ) → Q vs H') (exQ K W G σ τ δ) → t σ H Q
def bNo : MB := M.ret []
def bCo (a : ME) (l : MB) : MB := a.bind fun s => l.bind fun ss => M.ret (.s s :: ss)
def Sl.lends : Sl → Bool
  | .ow _ _ => true
  | .le _ _ _ => true
  | .bx => true
  | .lb _ => true
  | _ => false
def bLe (i : Nat) (l : MB) : MB := ⟨fun ρ Q E => match ρ[i]? with
  | some s => match s.lends with
    | true => l.wp ρ (fun ss r => Q (.l i :: ss) r) E
    | false => False
  | none => False, fun {ρ Q Q' E E'} h h' w => by
    revert w
    split
    · split
      · exact fun w => l.mono (fun ss r z => h _ _ z) h' w
      · exact id
    · exact id⟩
section
variable {K : PySem.W.Frag} {W : WS} {ta tb tc : TE} {ma mb mc : ME} {tl : TA} {ml : MB}
theorem bNil : BOk K W tNil bNo := fun G H σ ρ τ δ Q h w => w [] H [] [] .nil h
theorem bCons (ha : EOk K W ta ma) (hl : BOk K W tl ml) : BOk K W (tCons ta tl) (bCo ma ml) := fun G H σ ρ τ δ Q h w =>
  ha G H σ ρ τ δ _ h (ma.mono (fun s1 ρ1 w1 v1 H1 h1 => hl G H1 σ ρ1 _ _ _ h1 (ml.mono (fun ss ρ2 w2 vs H2 τs δs ha h2 => w2 (v1 :: vs) H2 _ _ (.s ha) (Rel.rot ha.len h2)) (fun e ρ' z v H' q => z v H' q.drop2) w1)) (fun _ _ z => z) w)
theorem SlV.lends {F H : Hp} {o : Option V} {s : Sl} {f : List Addr} (h : SlV K F H o s f) (e : s.lends = true) : ∃ v, o = some v := by
  cases h <;> first | exact ⟨_, rfl⟩ | cases e
theorem bLent {i : Nat} (hl : BOk K W tl ml) : BOk K W (tCons (tVar i) tl) (bLe i ml) := fun G H σ ρ τ δ Q h w => by
  unfold bLe at w
  simp only at w
  split at w
  · rename_i s e
    split at w
    · rename_i el
      have : ∃ v, σ[i]? = some (some v) := by
        obtain ⟨F, f1, f2, g, ht, hs⟩ := h
        obtain ⟨o, l, f, r, e1, e2, h1, _⟩ := hs.at e
        obtain ⟨v, rfl⟩ := h1.lends el
        exact ⟨v, e2⟩
      obtain ⟨v, e1⟩ := this
      exact ⟨v, e1, hl G H σ ρ τ δ _ h (ml.mono (fun ss ρ2 w2 vs H2 τs δs ha h2 => w2 (v :: vs) H2 _ _ (.l e1 ha) h2) (fun _ _ z => z) w)⟩
    · exact w.elim
  · exact w.elim
end
def lendP : Env → List Ag → (List Sl → Env → Prop) → Prop
  | ρ, [], k => k [] ρ
  | ρ, .s (.sh d) :: ags, k => lendP ρ ags fun as r => k (.sh d :: as) r
  | _, .s _ :: _, _ => False
  | ρ, .l i :: ags, k => match ρ[i]? with
    | some (.ow s d) => ∀ v, lendP (ρ.set i .un) ags fun as r => k (.le v s d :: as) r
    | some (.le v s d) => lendP (ρ.set i .un) ags fun as r => k (.le v s d :: as) r
    | some .bx => ∀ v, lendP (ρ.set i .un) ags fun as r => k (.lb v :: as) r
    | some (.lb v) => lendP (ρ.set i .un) ags fun as r => k (.lb v :: as) r
    | _ => False
theorem lendP_mono : ∀ {ags : List Ag} {ρ : Env} {k k' : List Sl → Env → Prop}, (∀ as r, k as r → k' as r) → lendP ρ ags k → lendP ρ ags k'
  | [], ρ, k, k', h, w => h _ _ w
  | .s x :: ags, ρ, k, k', h, w => by
    cases x with
    | sh d => exact lendP_mono (ags := ags) (fun as r z => h _ _ z) w
    | _ => exact False.elim w
  | .l i :: ags, ρ, k, k', h, w => by
    unfold lendP at w ⊢
    split at w
    · exact fun v => lendP_mono (ags := ags) (fun as r z => h _ _ z) (w v)
    · exact lendP_mono (ags := ags) (fun as r z => h _ _ z) w
    · exact fun v => lendP_mono (ags := ags) (fun as r z => h _ _ z) (w v)
    · exact lendP_mono (ags := ags) (fun as r z => h _ _ z) w
    · exact w.elim
def backOne : Option Sl → Sl → Option Sl
  | some (.ow _ _), .le _ s d => some (.ow s d)
  | some (.le v _ _), .le _ s d => some (.le v s d)
  | some .bx, .lb _ => some .bx
  | some (.lb v), .lb _ => some (.lb v)
  | _, _ => none
def backP (ρ0 : Env) : List Ag → List Sl → Env → (Env → Prop) → Prop
  | [], _, ρ, k => k ρ
  | .s _ :: ags, _ :: as, ρ, k => backP ρ0 ags as ρ k
  | .l i :: ags, a :: as, ρ, k => match backOne ρ0[i]? a with
    | some s => backP ρ0 ags as (ρ.set i s) k
    | none => False
  | _ :: _, [], _, _ => False
theorem backP_mono {ρ0 : Env} : ∀ {ags : List Ag} {as : List Sl} {ρ : Env} {k k' : Env → Prop}, (∀ r, k r → k' r) → backP ρ0 ags as ρ k → backP ρ0 ags as ρ k'
  | [], _, _, _, _, h, w => h _ w
  | .s _ :: ags, _ :: as, _, _, _, h, w => backP_mono (ags := ags) (as := as) h w
  | .l i :: ags, a :: as, ρ, k, k', h, w => by
    unfold backP at w ⊢
    split at w
    · exact backP_mono (ags := ags) h w
    · exact w.elim
  | .s _ :: _, [], _, _, _, _, w => w
  | .l _ :: _, [], _, _, _, _, w => w
def callM (ds : M Sl) (dv : List D) (ags : List Ag) : ME := ⟨fun ρ Q E => lendP ρ ags fun as ρ1 => ds.wp (as ++ dv.map Sl.sh) (fun r as' => backP ρ ags as' ρ1 fun ρ2 => Q r ρ2) (fun er as' => backP ρ ags as' ρ1 fun ρ2 => E er ρ2),
  fun h h' w => lendP_mono (fun as r z => ds.mono (fun _ _ q => backP_mono (fun _ p => h _ _ p) q) (fun _ _ q => backP_mono (fun _ p => h' _ _ p) q) z) w⟩
/-- the promise of a def, by data -/
def spOf (K : PySem.W.Frag) (ds : M Sl) : Sp := fun vs H Q E => ∃ (F : Hp) (as : List Sl) (fp : List Addr), Le F H ∧ Slots K F H (vs.map some) as fp ∧ fp.Nodup ∧ (∀ a ∈ fp, F a = none) ∧
  ds.wp as (fun r as' => ∀ v H', Rel K ⟨H, F, fp⟩ H' (vs.map some) as' [some v] [r] → Q v H') (fun er as' => ∀ v H', Rel K ⟨H, F, fp⟩ H' (vs.map some) as' [some v] [.sh er.d] → XE E H' (He.ga K (en er.c)) (ef er.c) v)
section
variable {K : PySem.W.Frag} {W : WS} {G : Ent} {F F' H H' : Hp} {σ : L2.St} {ρ : Env}
theorem Good.call {fA fR gs : List Addr} (g : Good G F H (fA ++ fR)) (c : Good ⟨H, F, fA⟩ F' H' gs) (here : ∀ a ∈ fR, H a ≠ none) : Good G F' H' (gs ++ fR) := by
  have dis := (List.nodup_append.mp g.nd).2.2
  refine ⟨c.sub, g.f0.trans c.f0, fun a e => ?_, fun a o e hn => ?_, fun a e => c.all a (g.all a e), fun a ha => ?_, fun a ha => ?_, ?_⟩
  · rcases c.fN a e with z | z | z
    · exact g.fN a z
    · refine .inr (.inl ?_)
      cases q : G.H a with
      | none => rfl
      | some o => exact absurd z (g.all a (by rw [q]; intro z; cases z))
    · exact .inr ((g.own a (List.mem_append_left _ z)).symm)
  · refine c.frm a o (g.frm a o e hn) fun z => ?_
    rcases g.own a (List.mem_append_left _ z) with q | q
    · exact hn q
    · rw [q] at e; cases e
  · rcases List.mem_append.mp ha with z | z
    · rcases c.own a z with q | q
      · exact g.own a (List.mem_append_left _ q)
      · refine .inr ?_
        cases q2 : G.H a with
        | none => rfl
        | some o => exact absurd q (g.all a (by rw [q2]; intro z; cases z))
    · exact g.own a (List.mem_append_right _ z)
  · rcases List.mem_append.mp ha with z | z
    · exact c.nf a z
    · cases q : F' a with
      | none => rfl
      | some o =>
        exfalso
        rcases c.fN a (by rw [q]; intro z; cases z) with p | p | p
        · exact p (g.nf a (List.mem_append_right _ z))
        · exact here a z p
        · exact dis a p a z rfl
  · refine List.nodup_append.mpr ⟨c.nd, (List.nodup_append.mp g.nd).2.1, fun a ha b hb e => ?_⟩
    subst e
    rcases c.own a ha with q | q
    · exact dis a q a hb rfl
    · exact here a hb q
/-- what is lent goes out -/
theorem lend_out : ∀ {ags : List Ag} {vs : List V} {τs : L2.St} {δs : List Sl} {τ : L2.St} {δ : List Sl} {ρ : Env} {fT fR : List Addr} {k : List Sl → Env → Prop}, Ags σ vs ags τs δs → Slots K F H (τs ++ τ) (δs ++ δ) fT → Slots K F H σ ρ fR → lendP ρ ags k →
    ∃ as ρ1 fA fT' fR', k as ρ1 ∧ Slots K F H (vs.map some) as fA ∧ Slots K F H τ δ fT' ∧ Slots K F H σ ρ1 fR' ∧ (∀ a, (fA ++ (fT' ++ fR')).count a = (fT ++ fR).count a)
  | [], _, _, _, τ, δ, ρ, fT, fR, k, .nil, ht, hs, w => ⟨[], ρ, [], fT, fR, w, .nil, ht, hs, fun _ => rfl⟩
  | .s x :: ags, _, _, _, τ, δ, ρ, fT, fR, k, .s ha, ht, hs, w => by
    cases x with
    | sh d =>
      cases ht with
      | cons h1 h2 =>
        rename_i f f'
        obtain ⟨as, ρ1, fA, fT', fR', q, k1, k2, k3, k4⟩ := lend_out ha h2 hs w
        refine ⟨_, ρ1, f ++ fA, fT', fR', q, .cons h1 k1, k2, k3, fun a => ?_⟩
        have := k4 a
        simp only [List.count_append] at this ⊢
        omega
    | _ => exact False.elim w
  | .l i :: ags, _, _, _, τ, δ, ρ, fT, fR, k, .l (v := v) e0 ha, ht, hs, w => by
    have key : ∀ (s : Sl) (s' : Sl), ρ[i]? = some s → (∀ f, SlV K F H (some v) s f → SlV K F H (some v) s' f) → lendP (ρ.set i .un) ags (fun as r => k (s' :: as) r) → ∃ as ρ1 fA fT' fR', k as ρ1 ∧ Slots K F H (v :: _ |>.map some) as fA ∧ Slots K F H τ δ fT' ∧ Slots K F H σ ρ1 fR' ∧ (∀ a, (fA ++ (fT' ++ fR')).count a = (fT ++ fR).count a) := fun s s' e hv w => by
      obtain ⟨o, l, f, r, e1, e2, h1, kk⟩ := hs.at e
      rw [e0] at e2
      cases e2
      have h2 := kk (some v) .un [] .un
      have eσ : σ.set i (some v) = σ := by
        apply List.ext_getElem?
        intro j
        by_cases hj : j = i
        · subst hj
          rw [e0]
          refine List.getElem?_set_self ?_
          rcases Nat.lt_or_ge j σ.length with z | z
          · exact z
          · rw [List.getElem?_eq_none z] at e0; cases e0
        · rw [List.getElem?_set_ne (Ne.symm hj)]
      rw [eσ] at h2
      obtain ⟨as, ρ1, fA, fT', fR', q, k1, k2, k3, k4⟩ := lend_out ha ht h2 w
      refine ⟨_, ρ1, f ++ fA, fT', fR', q, .cons (hv f h1) k1, k2, k3, fun a => ?_⟩
      have := k4 a
      subst e1
      simp only [List.count_append, List.count_nil] at this ⊢
      omega
    unfold lendP at w
    split at w
    · rename_i s d e
      exact key _ _ e (fun f z => by cases z with | ow r => exact .le r) (w v)
    · rename_i v' s d e
      exact key _ _ e (fun f z => z) w
    · rename_i e
      exact key _ _ e (fun f z => by cases z with | bx r => exact .lb r) (w v)
    · rename_i v' e
      exact key _ _ e (fun f z => z) w
    · exact w.elim
/-- what was lent comes back -/
theorem lend_back {ρ0 : Env} (h0 : ∀ (i : Nat) (s : Sl) (v : V), ρ0[i]? = some s → σ[i]? = some (some v) → (∀ v' z d, s = .le v' z d → v' = v) ∧ (∀ v', s = .lb v' → v' = v)) : ∀ {ags : List Ag} {vs ws : List V} {τs : L2.St} {δs : List Sl} {as : List Sl} {ρ : Env} {fA fR : List Addr} {k : Env → Prop}, Ags σ vs ags τs δs → Slots K F H (vs.map some ++ ws.map some) as fA → Slots K F H σ ρ fR → backP ρ0 ags as ρ k →
    ∃ ρ2 g, k ρ2 ∧ Slots K F H σ ρ2 g ∧ ∀ a, g.count a ≤ (fA ++ fR).count a
  | [], _, _, _, _, as, ρ, fA, fR, k, .nil, hA, hs, w => ⟨ρ, fR, w, hs, fun a => by simp only [List.count_append]; omega⟩
  | .s x :: ags, _, _, _, _, as, ρ, fA, fR, k, .s ha, hA, hs, w => by
    cases hA with
    | cons h1 h2 =>
      obtain ⟨ρ2, g, q, k1, k2⟩ := lend_back h0 ha h2 hs w
      refine ⟨ρ2, g, q, k1, fun a => ?_⟩
      have := k2 a
      simp only [List.count_append] at this ⊢
      omega
  | .l i :: ags, _, _, _, _, as, ρ, fA, fR, k, .l (v := v) e0 ha, hA, hs, w => by
    cases hA with
    | cons h1 h2 =>
      rename_i f f' s
      unfold backP at w
      split at w
      · rename_i s2 e
        have hv : SlV K F H (some v) s2 f := by
          unfold backOne at e
          split at e
          · cases e; cases h1 with | le r => exact .ow r
          · rename_i v0 z0 d0 v1 z d e1
            cases e
            cases h1 with
            | le r =>
              obtain rfl := (h0 i _ v e1 e0).1 _ _ _ rfl
              exact .le r
          · cases e; cases h1 with | lb r => exact .bx r
          · rename_i v0 v1 e1
            cases e
            cases h1 with
            | lb r =>
              obtain rfl := (h0 i _ _ e1 e0).2 _ rfl
              exact .lb r
          · cases e
        have hlt : i < ρ.length := by
          rw [← hs.len]
          rcases Nat.lt_or_ge i σ.length with z | z
          · exact z
          · rw [List.getElem?_eq_none z] at e0; cases e0
        obtain ⟨o, l, f1, r, e1, e2, h3, kk⟩ := hs.at (i := i) (s := ρ[i]) (by rw [List.getElem?_eq_getElem hlt])
        rw [e0] at e2
        cases e2
        have h4 := kk (some v) s2 f hv
        have eσ : σ.set i (some v) = σ := by
          apply List.ext_getElem?
          intro j
          by_cases hj : j = i
          · subst hj
            rw [e0]
            exact List.getElem?_set_self (by rw [hs.len]; exact hlt)
          · rw [List.getElem?_set_ne (Ne.symm hj)]
        rw [eσ] at h4
        obtain ⟨ρ2, g, q, k1, k2⟩ := lend_back h0 ha h2 h4 w
        refine ⟨ρ2, g, q, k1, fun a => ?_⟩
        have := k2 a
        subst e1
        simp only [List.count_append] at this ⊢
        omega
      · exact w.elim
theorem Slots.same {fR : List Addr} (hs : Slots K F H σ ρ fR) {i : Nat} {s : Sl} {v : V} (e : ρ[i]? = some s) (e' : σ[i]? = some (some v)) : (∀ v' z d, s = .le v' z d → v' = v) ∧ (∀ v', s = .lb v' → v' = v) := by
  obtain ⟨o, l, f1, r, e1, e2, h3, kk⟩ := hs.at e
  rw [e'] at e2
  cases e2
  refine ⟨fun v' z d q => ?_, fun v' q => ?_⟩
  · subst q; cases h3; rfl
  · subst q; cases h3; rfl
theorem callCore {ds : M Sl} {dv : List D} {dvs : List V} {ags : List Ag} {vs : List V} {τs τ : L2.St} {δs δ : List Sl} {Q : VK} {E : Er → Env → Prop} {X : XK} (hA : Ags σ vs ags τs δs) (h : Rel K G H σ ρ (τs ++ τ) (δs ++ δ)) (hd : ∀ F, RepL K F dvs dv)
    (hE : ∀ er ρ', E er ρ' → ∀ v H', Rel K G H' σ ρ' (some v :: τ) (.sh er.d :: δ) → XE X H' (He.ga K (en er.c)) (ef er.c) v)
    (w : (callM ds dv ags).wp ρ (fun s ρ' => ∀ v H', Rel K G H' σ ρ' (some v :: τ) (s :: δ) → Q v H') E) : spOf K ds (vs ++ dvs) H Q X := by
  obtain ⟨F, fT, fR, g, ht, hs⟩ := h
  obtain ⟨as, ρ1, fA, fT', fR', q, k1, k2, k3, k4⟩ := lend_out hA ht hs w
  have g1 : Good G F H (fA ++ (fT' ++ fR')) := g.cnt fun a => Nat.le_of_eq (k4 a)
  have here : ∀ a ∈ fT' ++ fR', H a ≠ none := fun a ha => by
    rcases List.mem_append.mp ha with z | z
    · exact k2.here a z
    · exact k3.here a z
  have k5 : Slots K F H ((vs ++ dvs).map some) (as ++ dv.map Sl.sh) fA := by
    rw [List.map_append]
    have : Slots K F H (dvs.map some) (dv.map Sl.sh) [] := by
      have := RepL.slots (K := K) (F := F) (H := H) (τ := []) (δ := []) .nil (hd F)
      rwa [List.append_nil, List.append_nil] at this
    have := k1.app this
    rwa [List.append_nil] at this
  have fin : ∀ (r : Sl) (as' : List Sl) (k : Env → Prop) (v : V) (H' : Hp), backP ρ ags as' ρ1 k → Rel K ⟨H, F, fA⟩ H' ((vs ++ dvs).map some) as' [some v] [r] → ∃ ρ2, k ρ2 ∧ Rel K G H' σ ρ2 (some v :: τ) (r :: δ) := fun r as' k v H' wb hr => by
    obtain ⟨F', g1', g2', gg, hv, hvs⟩ := hr
    have G2 := g1.call gg here
    have hn : ∀ a ∈ fT' ++ fR', H' a = H a := fun a ha => by
      cases e : H a with
      | none => exact absurd e (here a ha)
      | some o => exact gg.frm a o e fun z => (List.nodup_append.mp g1.nd).2.2 a z a ha rfl
    have k2' := k2.mono (F' := F') (H' := H') gg.f0 fun a ha => hn a (List.mem_append_left _ ha)
    have k3' := k3.mono (F' := F') (H' := H') gg.f0 fun a ha => hn a (List.mem_append_right _ ha)
    rw [List.map_append] at hvs
    obtain ⟨ρ2, gb, q2, b1, b2⟩ := lend_back (fun i s v e e' => hs.same e e') hA hvs k3' wb
    refine ⟨ρ2, q2, F', g1' ++ fT', gb, G2.cnt fun a => ?_, ?_, b1⟩
    · have := b2 a
      simp only [List.count_append] at this ⊢
      omega
    · exact hv.app k2'
  refine ⟨F, _, fA, g1.sub, k5, (List.nodup_append.mp g1.nd).1, fun a ha => g1.nf a (List.mem_append_left _ ha), ds.mono (fun r as' wb v H' hr => ?_) (fun er as' wb v H' hr => ?_) q⟩
  · obtain ⟨ρ2, z, hr'⟩ := fin r as' _ v H' wb hr
    exact z v H' hr'
  · obtain ⟨ρ2, z, hr'⟩ := fin _ as' _ v H' wb hr
    exact hE er ρ2 z v H' hr'
def mCall (ds : M Sl) (dv : List D) (l : MB) : ME := l.bind (callM ds dv)
theorem eCall {ds : M Sl} {dv : List D} {dvs : List V} {tl : TA} {ml : MB} (hl : BOk K W tl ml) (hd : ∀ F, RepL K F dvs dv) : EOk K W (Cl.tF (fun vs H Q E => spOf K ds (vs ++ dvs) H Q E) W tl) (mCall ds dv ml) := fun G H σ ρ τ δ Q h w =>
  hl G H σ ρ τ δ _ h (ml.mono (fun ags ρ1 w1 vs H1 τs δs ha h1 => callCore ha h1 hd (fun er ρ' z => z) w1) (fun _ _ z => z) w)
/-- o.m(..), o shared -/
def mMeth (c : Nat) (ds : M Sl) (dv : List D) (o : ME) (l : MB) : ME := o.bind fun s => match s with
  | .sh (.obj c' fs) => if c' = c then l.bind fun ags => callM ds dv (.s (.sh (.obj c' fs)) :: ags) else M.stuck
  | _ => M.stuck
theorem eMeth {ds : M Sl} {dv : List D} {dvs : List V} {ta : TE} {ma : ME} {tl : TA} {ml : MB} {c : Nat} {n : Str} (hn : n ∉ cf c) (ha : EOk K W ta ma) (hl : BOk K W tl ml) (hd : ∀ F, RepL K F dvs dv) :
    EOk K W (Cl.tM (He.ga K (cn c)) n (fun vs H Q E => spOf K ds (vs ++ dvs) H Q E) W ta tl) (mMeth c ds dv ma ml) := fun G H σ ρ τ δ Q h w =>
  ha G H σ ρ τ δ _ h (ma.mono (fun s1 ρ1 w1 v1 H1 h1 => by
    simp only at w1
    split at w1
    · split at w1
      · rename_i c' fs hc
        subst hc
        obtain ⟨F, r, z⟩ := h1.top
        cases r with
        | obj k1 k2 kn kr =>
          refine ⟨_, _, _, rfl, z.le _ _ k1, look_no (by rw [kn]; exact fun z => hn (List.mem_of_mem_take z)), ?_⟩
          refine hl G H1 σ ρ1 _ _ _ h1 (ml.mono (fun ags ρ2 w2 vs H2 τs δs ha h2 => ?_) (fun e ρ' z v H' q => z v H' q.drop2) w1)
          exact callCore (.s ha) (Rel.rot ha.len h2) hd (fun er ρ' z => z) w2
      · exact w1.elim
    · exact w1.elim) (fun _ _ z => z) w)
/-- C(..) -/
def newM (c : Nat) (ds : M Sl) (dv : List D) (ags : List Ag) : ME := ⟨fun ρ Q E => ∀ v, lendP ρ ags fun as ρ1 => ds.wp (.le v (.oo []) (.obj c []) :: as ++ dv.map Sl.sh) (fun r as' => match r, as' with
    | .sh .non, .le _ z d :: as'' => backP ρ ags as'' ρ1 fun ρ2 => Q (.ow z d) ρ2
    | _, _ => False) (fun er as' => match as' with
    | _ :: as'' => backP ρ ags as'' ρ1 fun ρ2 => E er ρ2
    | _ => False),
  fun h h' w v => lendP_mono (fun as r z => ds.mono (fun _ _ q => by
    revert q
    split
    · exact fun q => backP_mono (fun _ p => h _ _ p) q
    · exact id) (fun _ _ q => by
    revert q
    split
    · exact fun q => backP_mono (fun _ p => h' _ _ p) q
    · exact id) z) (w v)⟩
/-- the same, kept as a word -/
@[irreducible] def newI (c : Nat) (ds : M Sl) (dv : List D) (ags : List Ag) : ME := newM c ds dv ags
theorem newI_eq {c : Nat} {ds : M Sl} {dv : List D} {ags : List Ag} : newI c ds dv ags = newM c ds dv ags := by unfold newI; rfl
def mMake (c : Nat) (ds : M Sl) (dv : List D) (l : MB) : ME := l.bind (newI c ds dv)
theorem eMake {ds : M Sl} {dv : List D} {dvs : List V} {tl : TA} {ml : MB} {c : Nat} (hl : BOk K W tl ml) (hd : ∀ F, RepL K F dvs dv) :
    EOk K W (Cl.tMk (He.ga K (cn c)) (fun vs H Q E => spOf K ds (vs ++ dvs) H Q E) W tl) (mMake c ds dv ml) := fun G H σ ρ τ δ Q h w =>
  hl G H σ ρ τ δ _ h (ml.mono (fun ags ρ1 w1 vs H1 τs δs hA h1 x dx hx hdx hne => by
    rw [newI_eq] at w1
    obtain ⟨F, fT, fR, g, ht, hs⟩ := h1
    obtain ⟨as, ρ2, fA, fT', fR', q, k1, k2, k3, k4⟩ := lend_out hA ht hs (w1 (.ref x))
    have g1 : Good G F H1 (fA ++ (fT' ++ fR')) := g.cnt fun a => Nat.le_of_eq (k4 a)
    have here0 : ∀ a ∈ fA ++ (fT' ++ fR'), H1 a ≠ none := fun a ha => by
      rcases List.mem_append.mp ha with z | z
      · exact k1.here a z
      rcases List.mem_append.mp z with z | z
      · exact k2.here a z
      · exact k3.here a z
    have g2 := g1.newO here0 hdx (.own x)
    have hx2 : upd H1 dx (.own x) x = none := by rw [upd_ne (Ne.symm hne)]; exact hx
    have here1 : ∀ a ∈ dx :: (fA ++ (fT' ++ fR')), upd H1 dx (.own x) a ≠ none := fun a ha => by
      rcases List.mem_cons.mp ha with rfl | ha
      · rw [upd_same]; intro z; cases z
      · rw [upd_ne fun z => here0 a ha (by rw [z]; exact hdx)]; exact here0 a ha
    have g3 := g2.newO here1 hx2 (.ins (He.ga K (cn c)) dx [])
    have hn : ∀ a ∈ fA ++ (fT' ++ fR'), upd (upd H1 dx (.own x)) x (.ins (He.ga K (cn c)) dx []) a = H1 a := fun a ha => by
      rw [upd_ne fun z => here0 a ha (by rw [z]; exact hx), upd_ne fun z => here0 a ha (by rw [z]; exact hdx)]
    generalize hH2 : upd (upd H1 dx (.own x)) x (.ins (He.ga K (cn c)) dx []) = H2 at *
    have g4 : Good G F H2 ((x :: dx :: fA) ++ (fT' ++ fR')) := g3
    have l1 := k1.mono (F' := F) (H' := H2) Le.rfl fun a ha => hn a (List.mem_append_left _ ha)
    have l2 := k2.mono (F' := F) (H' := H2) Le.rfl fun a ha => hn a (List.mem_append_right _ (List.mem_append_left _ ha))
    have l3 := k3.mono (F' := F) (H' := H2) Le.rfl fun a ha => hn a (List.mem_append_right _ (List.mem_append_right _ ha))
    have here : ∀ a ∈ fT' ++ fR', H2 a ≠ none := fun a ha => by
      rcases List.mem_append.mp ha with z | z
      · exact l2.here a z
      · exact l3.here a z
    have hox : Own K F H2 (.oo []) (.ref x) (.obj c []) [x, dx] := .oo (fs := []) (by rw [← hH2, upd_same]) (by rw [← hH2, upd_ne hne, upd_same]) rfl .nil
    have k5 : Slots K F H2 ((V.ref x :: vs ++ dvs).map some) (.le (.ref x) (.oo []) (.obj c []) :: as ++ dv.map Sl.sh) (x :: dx :: fA) := by
      have z : Slots K F H2 (dvs.map some) (dv.map Sl.sh) [] := by
        have := RepL.slots (K := K) (F := F) (H := H2) (τ := []) (δ := []) .nil (hd F)
        rwa [List.append_nil, List.append_nil] at this
      have := l1.app z
      rw [List.append_nil] at this
      rw [List.cons_append, List.cons_append, List.map_cons, List.map_append]
      exact .cons (f := [x, dx]) (.le hox) this
    have hs2 : ∀ (i : Nat) (s : Sl) (v : V), ρ1[i]? = some s → σ[i]? = some (some v) → (∀ v' z d, s = .le v' z d → v' = v) ∧ (∀ v', s = .lb v' → v' = v) := fun i s v e e' => hs.same e e'
    have fin : ∀ (s0 s0' r : Sl) (as' : List Sl) (k : Env → Prop) (u : Option V) (v : V) (H' : Hp), backP ρ1 ags as' ρ2 k → (∀ F f, SlV K F H' (some (.ref x)) s0 f → SlV K F H' u s0' f) → Rel K ⟨H2, F, x :: dx :: fA⟩ H' ((V.ref x :: vs ++ dvs).map some) (s0 :: as') [some v] [r] → ∃ ρ3, k ρ3 ∧ Rel K G H' σ ρ3 (u :: some v :: τ) (s0' :: r :: δ) := fun s0 s0' r as' k u v H' wb hs0 hr => by
      obtain ⟨F', g1', g2', gg, hv, hvs⟩ := hr
      have G2 := g4.call gg here
      have hn : ∀ a ∈ fT' ++ fR', H' a = H2 a := fun a ha => by
        cases e : H2 a with
        | none => exact absurd e (here a ha)
        | some o => exact gg.frm a o e fun z => (List.nodup_append.mp g4.nd).2.2 a z a ha rfl
      have k2' := l2.mono (F' := F') (H' := H') gg.f0 fun a ha => hn a (List.mem_append_left _ ha)
      have k3' := l3.mono (F' := F') (H' := H') gg.f0 fun a ha => hn a (List.mem_append_right _ ha)
      rw [List.cons_append, List.map_cons, List.map_append] at hvs
      cases hvs with
      | cons hx1 hvs =>
        rename_i fx fv
        obtain ⟨ρ3, gb, q2, b1, b2⟩ := lend_back hs2 hA hvs k3' wb
        refine ⟨ρ3, q2, F', fx ++ (g1' ++ fT'), gb, G2.cnt fun a => ?_, .cons (hs0 _ _ hx1) (hv.app k2'), b1⟩
        have := b2 a
        simp only [List.count_append] at this ⊢
        omega
    refine ⟨F, _, x :: dx :: fA, g4.sub, k5, (List.nodup_append.mp g4.nd).1, fun a ha => g4.nf a (List.mem_append_left _ ha), ds.mono (fun r as' wb v H' hr => ?_) (fun er as' wb v H' hr => ?_) q⟩
    · simp only at wb
      split at wb
      · rename_i v' z d as''
        obtain ⟨ρ3, z3, hr'⟩ := fin _ (.ow z d) _ as'' _ (some (.ref x)) v H' wb (fun F f z => by cases z with | le r => exact .ow r) hr
        obtain rfl := hr'.pop.topv (u := .non) rfl
        exact ⟨rfl, z3 _ _ hr'.drop2⟩
      · exact wb.elim
    · split at wb
      · rename_i s0 as''
        obtain ⟨ρ3, z3, hr'⟩ := fin s0 s0 _ as'' _ _ v H' wb (fun F f z => z) hr
        exact z3 v H' hr'.pop
      · exact wb.elim) (fun _ _ z => z) w)
end
end Dl
namespace Dl
open PySem PySem.Spec PyProof.Rows L2
/-! ### a def -/
/-- behind the body: what was shared stands, what was lent goes back -/
def keepP : List Sl → Env → (List Sl → Prop) → Prop
  | [], _, k => k []
  | .sh d :: as, _ :: ρ, k => keepP as ρ fun l => k (.sh d :: l)
  | .le v _ _ :: as, .le v' s d :: ρ, k => v' = v ∧ keepP as ρ fun l => k (.le v s d :: l)
  | .lb v :: as, .lb v' :: ρ, k => v' = v ∧ keepP as ρ fun l => k (.lb v :: l)
  | _, _, _ => False
theorem keepP_mono : ∀ {as : List Sl} {ρ : Env} {k k' : List Sl → Prop}, (∀ l, k l → k' l) → keepP as ρ k → keepP as ρ k'
  | [], _, _, _, h, w => h _ w
  | a :: as, ρ, k, k', h, w => by
    unfold keepP at w ⊢
    split at w
    · cases ‹a :: as = []›
    · rename_i d as' s ρ' e
      cases e
      exact keepP_mono (as := as) (fun l z => h _ z) w
    · rename_i v z d as' v' z' d' ρ' e
      cases e
      exact ⟨w.1, keepP_mono (as := as) (fun l z => h _ z) w.2⟩
    · rename_i v as' v' ρ' e
      cases e
      exact ⟨w.1, keepP_mono (as := as) (fun l z => h _ z) w.2⟩
    · exact w.elim
def mends (as : List Sl) (Q : Sl → List Sl → Prop) (E : Er → List Sl → Prop) : MEnds := ⟨fun ρ => keepP as ρ (Q (.sh .non)), fun s ρ => keepP as ρ (Q s), fun _ => False, fun _ => False, fun er ρ => keepP as ρ (E er)⟩
def defM (n N : Nat) (m : MS) : M Sl := ⟨fun as Q E => match Nat.beq as.length n with
  | true => m.wp (as ++ List.replicate (N - n) .un) (mends as Q E)
  | false => False, fun {as Q Q' E E'} h h' w => by
    revert w
    split
    · exact fun w => m.mono (M := mends as Q E) (M' := mends as Q' E') ⟨fun r z => keepP_mono (fun l q => h _ _ q) z, fun s r z => keepP_mono (fun l q => h _ _ q) z, fun _ z => z, fun _ z => z, fun e r z => keepP_mono (fun l q => h' _ _ q) z⟩ w
    · exact id⟩
theorem defM_go {n N : Nat} {m : MS} {as : List Sl} {Q : Sl → List Sl → Prop} {E : Er → List Sl → Prop} (w : (defM n N m).wp as Q E) : as.length = n ∧ m.wp (as ++ List.replicate (N - n) .un) (mends as Q E) := by
  unfold defM at w
  simp only at w
  split at w
  · rename_i h
    exact ⟨Nat.eq_of_beq_eq_true h, w⟩
  · exact w.elim
section
variable {K : PySem.W.Frag} {F F' H H' : Hp}
theorem keep_back (l : Le F F') : ∀ {as : List Sl} {vs : List V} {σ : L2.St} {ρ : Env} {fp g : List Addr} {k : List Sl → Prop}, Slots K F H (vs.map some) as fp → Slots K F' H' σ ρ g → keepP as ρ k →
    ∃ as' g', k as' ∧ Slots K F' H' (vs.map some) as' g' ∧ ∀ a, g'.count a ≤ g.count a
  | [], vs, σ, ρ, fp, g, k, hA, hs, w => by
    cases vs with
    | nil => exact ⟨[], [], w, .nil, fun a => by simp⟩
    | cons v vs => cases hA
  | s :: as, vs, σ, ρ, fp, g, k, hA, hs, w => by
    cases vs with
    | nil => cases hA
    | cons v vs =>
      cases hA with
      | cons h1 h2 =>
        unfold keepP at w
        split at w
        · cases ‹s :: as = []›
        · rename_i d as' s' ρ' e
          cases e
          cases hs with
          | cons k1 k2 =>
            obtain ⟨as', g', q, b1, b2⟩ := keep_back l h2 k2 w
            cases h1 with
            | sh r =>
              refine ⟨_, g', q, .cons (f := []) (.sh (r.mono l)) b1, fun a => ?_⟩
              have := b2 a
              simp only [List.count_append] at this ⊢
              omega
        · rename_i v0 z d as' v' z' d' ρ' e
          cases e
          cases hs with
          | cons k1 k2 =>
            obtain ⟨as', g', q, b1, b2⟩ := keep_back l h2 k2 w.2
            have ev := w.1
            subst ev
            cases h1 with
            | le r =>
              cases k1 with
              | le r' =>
                refine ⟨_, _, q, .cons (.le r') b1, fun a => ?_⟩
                have := b2 a
                simp only [List.count_append] at this ⊢
                omega
        · rename_i v0 as' v' ρ' e
          cases e
          cases hs with
          | cons k1 k2 =>
            obtain ⟨as', g', q, b1, b2⟩ := keep_back l h2 k2 w.2
            have ev := w.1
            subst ev
            cases h1 with
            | lb r =>
              cases k1 with
              | lb r' =>
                refine ⟨_, _, q, .cons (.lb r') b1, fun a => ?_⟩
                have := b2 a
                simp only [List.count_append] at this ⊢
                omega
        · exact w.elim
theorem slots_none {n : Nat} : Slots K F H (List.replicate n none) (List.replicate n .un) [] := by
  induction n with
  | zero => exact .nil
  | succ n ih => exact .cons (f := []) .un ih
variable {P : Program} {w : World} {mg : Str → Option Value} {base : Heap} {x qual : Str} {params : Arguments} {body : List Stmt} {scope : Scope} {dvs : List V} {kws : List (Str × V)} {f : Addr} {fd : FuncData}
theorem spOf_len {ds : M Sl} {n : Nat} (hl : ∀ as Q E, ds.wp as Q E → as.length = n) : ∀ vs H Q E, spOf K ds vs H Q E → vs.length = n := fun vs H Q E ⟨F, as, fp, h1, h2, h3, h4, h5⟩ => by
  have := h2.len
  rw [List.length_map] at this
  rw [this]
  exact hl _ _ _ h5
/-- a body keeps the promise -/
theorem body_ok {ds : M Sl} {N ps : List Str} {m : MS} {t : TS} {vs : List V} {H : Hp} {Q : VK} {E : XK} (hm : ∀ as Q E, ds.wp as Q E → (defM ps.length N.length m).wp as Q E) (h : spOf K ds vs H Q E) (ht : SOk K (fun _ => E) t m) : t { nx := fun _ H' => Q .non H', rt := Q } (L2.start N vs) H := by
  obtain ⟨F, as, fp, h1, h2, h3, h4, h5⟩ := h
  obtain ⟨hn, w⟩ := defM_go (hm as _ _ h5)
  have hl : vs.length = as.length := by have := h2.len; rwa [List.length_map] at this
  have hR : Rel K ⟨H, F, fp⟩ H (L2.start N vs) (as ++ List.replicate (N.length - ps.length) .un) [] [] := by
    refine ⟨F, [], fp, ⟨h1, Le.rfl, fun a e => .inl e, fun a o e _ => e, fun a e => e, fun a ha => .inl ha, h4, h3⟩, .nil, ?_⟩
    unfold L2.start
    rw [hl, hn]
    have := h2.app (slots_none (K := K) (F := F) (H := H) (n := N.length - ps.length))
    rwa [List.append_nil] at this
  have fin : ∀ (s : Sl) (ρ : Env) (k : List Sl → Prop) (v : V) (σ : L2.St) (H' : Hp), keepP as ρ k → Rel K ⟨H, F, fp⟩ H' σ ρ [some v] [s] → ∃ as', k as' ∧ Rel K ⟨H, F, fp⟩ H' (vs.map some) as' [some v] [s] := fun s ρ k v σ H' wk hr => by
    obtain ⟨F', g1, g2, gg, ht, hs⟩ := hr
    obtain ⟨as', g', q, b1, b2⟩ := keep_back gg.f0 h2 hs wk
    refine ⟨as', q, F', g1, g', gg.cnt fun a => ?_, ht, b1⟩
    have := b2 a
    simp only [List.count_append]
    omega
  refine ht ⟨H, F, fp⟩ H _ _ [] [] _ (mends as _ _) hR ⟨fun σ ρ H' hr z => ?_, fun s ρ v σ H' hr z => ?_, fun σ ρ H' hr z => z.elim, fun σ ρ H' hr z => z.elim, fun σ er ρ z v H' hr => ?_⟩ w
  · obtain ⟨as', q, r⟩ := fin (.sh .non) ρ _ .non σ H' z (hr.push rfl)
    exact q _ _ r
  · obtain ⟨as', q, r⟩ := fin _ ρ _ v σ H' z hr
    exact q _ _ r
  · obtain ⟨as', q, r⟩ := fin _ ρ _ v σ H' z hr
    exact q _ _ r
theorem okD {ds : M Sl} {N ps : List Str} {k : Nat} {m : MS} (T : FunD K x qual params body scope dvs kws f fd) (S : FnScope N ps scope) (hl : ∀ as Q E, ds.wp as Q E → as.length = ps.length) (hm : ∀ as Q E, ds.wp as Q E → (defM ps.length N.length m).wp as Q E)
    (hbody : ∀ (cdv : Value) (A : Around) (outer : List PySem.Env) (s : Shared) (H : Hp) (E : XK), Room k (A.deeper (envOfC qual scope s.heap.objs.size f cdv)) → ∃ t, PSs (cxOf (L2.CX P w) P w K mg base N qual scope f cdv A outer s H E) body t ∧ SOk K (fun _ => E) t m) :
    FnOk P w K mg base (L2.CX P w) (k + 1) f fd ps (spOf K ds) :=
  T.ok S (spOf_len hl) fun cdv A outer s H vs Q E hr h => by
    obtain ⟨t, h1, h2⟩ := hbody cdv A outer s H E hr
    exact ⟨t, h1, body_ok hm h h2⟩
theorem defM_len {n N : Nat} {m : MS} : ∀ as Q E, (defM n N m).wp as Q E → as.length = n := fun _ _ _ w => (defM_go w).1
/-- a weaker reading of a def -/
theorem spOf_imp {ds ds' : M Sl} (h : ∀ as Q E, ds'.wp as Q E → ds.wp as Q E) : ∀ vs H Q E, spOf K ds' vs H Q E → spOf K ds vs H Q E := fun vs H Q E ⟨F, as, fp, h1, h2, h3, h4, h5⟩ => ⟨F, as, fp, h1, h2, h3, h4, h _ _ _ h5⟩
/-! ### a star parameter: the rest comes as a tuple -/
def packM (n : Nat) (ds : M Sl) : M Sl := ⟨fun as Q E => match allSh (as.drop n) with
  | some rest => n ≤ as.length ∧ rest.length ≤ sizeLine ∧ ds.wp (as.take n ++ [.sh (.tup rest)]) (fun r as' => Q r (as'.take n ++ as.drop n)) (fun er as' => E er (as'.take n ++ as.drop n))
  | none => False, fun {ρ Q Q' E E'} h h' w => by
    revert w
    split
    · exact fun w => ⟨w.1, w.2.1, ds.mono (fun _ _ z => h _ _ z) (fun _ _ z => h' _ _ z) w.2.2⟩
    · exact id⟩
end
/-! ### raise, try -/
section
variable {K : PySem.W.Frag} {W : WS} {ta tb tc : TE} {ma mb mc : ME} {t u : TS} {m k : MS}
def sRaise (c : Nat) (a : ME) : MS := ⟨fun ρ M => a.wp ρ (fun s r => match s with
  | .sh d => M.ex ⟨c, d⟩ r
  | _ => False) M.ex, fun {ρ M M'} h w => a.mono (fun s r z => by
    revert z
    split
    · exact fun z => h.ex _ _ z
    · exact id) h.ex w⟩
theorem zRaise {c : Nat} {X : WX} (ha : EOk K (WE X) ta ma) : SOk K (WE X) (tRaiseErr (He.ga K (en c)) (ef c) X (tCons ta tNil)) (sRaise c ma) := fun G H σ ρ τ δ D M h hi w =>
  ha G H σ ρ τ δ _ h (ma.mono (fun s ρ1 w1 v H1 h1 => by
    split at w1
    · exact ⟨v, rfl, fun d hd => hi.ex σ _ ρ1 w1 v H1 h1 d hd⟩
    · exact w1.elim) (fun e ρ' z => hi.ex σ e ρ' z) w)
/-- the error's attribute -/
def mXf (a dd : Addr) (c c0 i : Nat) : ME := ⟨fun ρ Q _ => match ρ[i]? with
  | some (.er a' dd' c' d) => a' = a ∧ dd' = dd ∧ c' = c ∧ c' = c0 ∧ Q (.sh d) ρ
  | _ => False, fun {ρ Q Q' E E'} h _ w => by
    revert w
    split
    · exact fun w => ⟨w.1, w.2.1, w.2.2.1, w.2.2.2.1, h _ _ w.2.2.2.2⟩
    · exact id⟩
theorem eXf {a dd : Addr} {c c0 i : Nat} : EOk K W (tXf a (.ref (He.ga K (en c))) (some dd) (He.ga K (en c0)) (ef c0) (tVar i)) (mXf a dd c c0 i) := fun G H σ ρ τ δ Q h w => by
  unfold mXf at w
  simp only at w
  split at w
  · rename_i a' dd' c' d e
    obtain ⟨rfl, rfl, rfl, rfl, q⟩ := w
    obtain ⟨F, f1, f2, g, ht, hs⟩ := h
    obtain ⟨o, l, f, r, e1, e2, h1, _⟩ := hs.at e
    cases h1 with
    | er hx r =>
      refine ⟨_, e2, rfl, rfl, _, _, _, rfl, hx, ?_, q _ _ ⟨F, _, f2, g, .cons (f := []) (.sh r) ht, hs⟩⟩
      rw [List.lookup_cons]
      simp
  · exact w.elim
def hEnds (i : Nat) (M : MEnds) : MEnds := ⟨fun r => M.nx (r.set i .un), M.rt, fun r => M.bk (r.set i .un), fun r => M.ct (r.set i .un), fun _ _ => False⟩
def tEnds (tbl : Nat → Option Bool) (i : Nat) (hd : Addr → Addr → Nat → MS) (M : MEnds) : MEnds := ⟨M.nx, M.rt, M.bk, M.ct, fun er r => match tbl er.c with
  | some true => match r[i]? with
    | some _ => ∀ a dd, (hd a dd er.c).wp (r.set i (.er a dd er.c er.d)) (hEnds i M)
    | none => False
  | some false => M.ex er r
  | none => False⟩
theorem hEnds_le {i : Nat} {M M' : MEnds} (h : M.Le M') : (hEnds i M).Le (hEnds i M') := ⟨fun r q => h.nx _ q, h.rt, fun r q => h.bk _ q, fun r q => h.ct _ q, fun _ _ q => q⟩
theorem tEnds_le {tbl : Nat → Option Bool} {i : Nat} {hd : Addr → Addr → Nat → MS} {M M' : MEnds} (h : M.Le M') : (tEnds tbl i hd M).Le (tEnds tbl i hd M') := ⟨h.nx, h.rt, h.bk, h.ct, fun e r z => by
  unfold tEnds at z ⊢
  simp only at z ⊢
  split at z
  · split at z
    · exact fun a dd => (hd a dd e.c).mono (hEnds_le h) (z a dd)
    · exact z.elim
  · exact h.ex _ _ z
  · exact z⟩
def sTry (tbl : Nat → Option Bool) (i : Nat) (b : MS) (hd : Addr → Addr → Nat → MS) : MS := ⟨fun ρ M => b.wp ρ (tEnds tbl i hd M), fun h w => b.mono (tEnds_le h) w⟩
theorem Rel.clr {G : Ent} {H : Hp} {σ τ : L2.St} {ρ : Env} {δ : List Sl} {i : Nat} (h : Rel K G H σ ρ τ δ) : Rel K G H (σ.set i none) (ρ.set i .un) τ δ := by
  rcases Nat.lt_or_ge i ρ.length with z | z
  · obtain ⟨F, f1, f2, g, ht, hs⟩ := h
    exact Rel.set (o := none) (s := .un) ⟨F, f1, f2, g, .cons (f := []) .un ht, hs⟩ z
  · rw [List.set_eq_of_length_le z, List.set_eq_of_length_le (by rw [h.len.1]; exact z)]
    exact h
theorem zTry {tbl : Nat → Option Bool} {c : Value} {i : Nat} {tb : WX → TS} {ts : Addr → Value → Option Addr → TS} {Wo : WX} {mb : MS} {mh : Addr → Addr → Nat → MS} (ht : ∀ n b, tbl n = some b → PySem.W.exmOne K (.ref (He.ga K (en n))) c = some b)
    (hb : ∀ X, SOk K (WE X) (tb X) mb) (hh : ∀ a dd n, SOk K (fun _ _ _ _ => False) (ts a (.ref (He.ga K (en n))) (some dd)) (mh a dd n)) : SOk K (WE Wo) (fun D σ H => tb (wAs K c i ts Wo D) D σ H) (sTry tbl i mb mh) := fun G H σ ρ τ δ D M h hi w => by
  refine hb _ G H σ ρ τ δ D (tEnds tbl i mh M) h ⟨hi.nx, hi.rt, hi.bk, hi.ct, fun σ1 er ρ1 z v H1 h1 d hd => ?_⟩ w
  unfold tEnds at z
  simp only at z
  split at z
  · rename_i e
    have zi : i < ρ1.length ∧ ∀ a dd, (mh a dd er.c).wp (ρ1.set i (.er a dd er.c er.d)) (hEnds i M) := by
      split at z
      · rename_i e
        refine ⟨?_, z⟩
        rcases Nat.lt_or_ge i ρ1.length with q | q
        · exact q
        · rw [List.getElem?_eq_none q] at e; cases e
      · exact z.elim
    refine ⟨true, ht _ _ e, fun _ a ha => ?_, fun q => Bool.noConfusion q⟩
    have h2 : Rel K G (upd H1 d (.xd [(ef er.c, v)])) (σ1.set i (some (.ref a))) (ρ1.set i (.er a d er.c er.d)) τ δ := by
      obtain ⟨F, f1, f2, g, ht, hs⟩ := h1
      cases ht with
      | cons q1 q2 =>
        rename_i fa fb
        cases q1 with
        | sh r =>
          have hin : ∀ b ∈ fb ++ f2, H1 b ≠ none := fun b hb => by
            rcases List.mem_append.mp hb with z | z
            · exact q2.here b z
            · exact hs.here b z
          have g1 := Good.newO (fp := fb ++ f2) g hin hd (.xd [(ef er.c, v)])
          have hn : ∀ b ∈ fb ++ f2, upd H1 d (.xd [(ef er.c, v)]) b = H1 b := fun b hb => upd_ne fun z => hin b hb (by rw [z]; exact hd)
          refine Rel.set (τ := τ) (δ := δ) (o := some (.ref a)) (s := .er a d er.c er.d) ⟨F, d :: fb, f2, g1, .cons (f := [d]) (.er upd_same r) (q2.mono Le.rfl fun b hb => hn b (List.mem_append_left _ hb)), hs.mono Le.rfl fun b hb => hn b (List.mem_append_right _ hb)⟩ zi.1
    exact hh a d er.c G _ _ _ τ δ _ (hEnds i M) h2 ⟨fun σ2 ρ2 H2 h3 w3 => hi.nx _ _ _ h3.clr w3, hi.rt, fun σ2 ρ2 H2 h3 w3 => hi.bk _ _ _ h3.clr w3, fun σ2 ρ2 H2 h3 w3 => hi.ct _ _ _ h3.clr w3, fun _ _ _ q => q.elim⟩ (zi.2 a d)
  · rename_i e
    refine ⟨false, ht _ _ e, fun q => Bool.noConfusion q, fun _ => hi.ex σ1 er ρ1 z v H1 h1 d hd⟩
  · exact z.elim
end
end Dl
namespace Dl
open PySem PySem.Spec PyProof.Rows L2
/-! ### comprehensions -/
def wipeE (ρ : Env) : List Nat → Env
  | [] => ρ
  | v :: vs => (wipeE ρ vs).set v .un
theorem wipe_at {σ : L2.St} {j : Nat} : ∀ {vs : List Nat}, (wipe σ vs)[j]? = if j ∈ vs ∧ j < σ.length then some none else σ[j]?
  | [] => by simp [wipe]
  | v :: vs => by
    unfold wipe
    by_cases h : v = j
    · subst h
      by_cases hv : v < σ.length
      · rw [List.getElem?_set_self (by rw [wipe_length]; exact hv), if_pos ⟨List.mem_cons_self, hv⟩]
      · rw [List.getElem?_eq_none (by rw [List.length_set, wipe_length]; omega), if_neg (fun z => hv z.2), List.getElem?_eq_none (by omega)]
    · rw [List.getElem?_set_ne h, wipe_at]
      have : (j ∈ v :: vs) ↔ j ∈ vs := by simp [Ne.symm h]
      simp only [this]
theorem wipe_ext {σ σ' : L2.St} {vs : List Nat} (hl : σ'.length = σ.length) (h : ∀ j, j ∉ vs → σ'[j]? = σ[j]?) : wipe σ' vs = wipe σ vs := by
  apply List.ext_getElem?
  intro j
  rw [wipe_at, wipe_at, hl]
  by_cases hj : j ∈ vs
  · by_cases hlt : j < σ.length
    · rw [if_pos ⟨hj, hlt⟩, if_pos ⟨hj, hlt⟩]
    · rw [if_neg (fun z => hlt z.2), if_neg (fun z => hlt z.2), List.getElem?_eq_none (by omega), List.getElem?_eq_none (by omega)]
  · rw [if_neg (fun z => hj z.1), if_neg (fun z => hj z.1), h j hj]
theorem wipe_wipe {σ : L2.St} {vs : List Nat} : wipe (wipe σ vs) vs = wipe σ vs := wipe_ext (wipe_length _ _) fun j hj => by rw [wipe_at, if_neg (fun z => hj z.1)]
theorem wipe_set {σ : L2.St} {vs : List Nat} {i : Nat} {o : Option V} (hi : i ∈ vs) : wipe (σ.set i o) vs = wipe σ vs := wipe_ext (List.length_set) fun j hj => List.getElem?_set_ne (fun (z : i = j) => hj (by rw [← z]; exact hi))
/-- a target whose slots are among vs -/
def GW (vs : List Nat) (g : TG) : Prop := ∀ v σ H Q, g v σ H (fun σ' H' => wipe σ' vs = wipe σ vs → Q σ' H') → g v σ H Q
def GWs (vs : List Nat) (g : TGs) : Prop := ∀ us σ H Q, g us σ H (fun σ' H' => wipe σ' vs = wipe σ vs → Q σ' H') → g us σ H Q
theorem gw_name {vs : List Nat} {i : Nat} (hi : i ∈ vs) : GW vs (gName i) := fun v σ H Q h => h (wipe_set hi)
theorem gw_nil {vs : List Nat} : GWs vs gNil := fun us σ H Q h => ⟨h.1, h.2 rfl⟩
section
variable {K : PySem.W.Frag} {W W' : WS} {ta tb tc te : TE} {ma mb mc me : ME} {t u : TS} {m k : MS} {tA tt : TT} {mA mt : MT} {tl : TA} {ml : MA}
theorem gw_tup {vs : List Nat} {n : Nat} {g : TGs} (h : GWs vs g) : GW vs (gTup K n g) := fun v σ H Q ⟨a, xs, h1, h2, h3, h4⟩ => ⟨a, xs, h1, h2, h3, h _ _ _ _ h4⟩
/-- mono of targets is needed for the rest -/
def GMono (g : TG) : Prop := ∀ v σ H (Q Q' : L2.St → Hp → Prop), (∀ σ' H', Q σ' H' → Q' σ' H') → g v σ H Q → g v σ H Q'
def GsMono (g : TGs) : Prop := ∀ v σ H (Q Q' : L2.St → Hp → Prop), (∀ σ' H', Q σ' H' → Q' σ' H') → g v σ H Q → g v σ H Q'
theorem gm_name {i : Nat} : GMono (gName i) := fun v σ H Q Q' h w => h _ _ w
theorem gm_nil : GsMono gNil := fun v σ H Q Q' h w => ⟨w.1, h _ _ w.2⟩
theorem gm_cons {g : TG} {gs : TGs} (h1 : GMono g) (h2 : GsMono gs) : GsMono (gCons g gs) := fun v σ H Q Q' h ⟨x, r, e, w⟩ => ⟨x, r, e, h1 _ _ _ _ _ (fun σ' H' z => h2 _ _ _ _ _ h z) w⟩
theorem gm_tup {n : Nat} {gs : TGs} (h : GsMono gs) : GMono (gTup K n gs) := fun v σ H Q Q' hq ⟨a, xs, e1, e2, e3, w⟩ => ⟨a, xs, e1, e2, e3, h _ _ _ _ _ hq w⟩
theorem gw_cons {vs : List Nat} {g : TG} {gs : TGs} (hm : GMono g) (h1 : GW vs g) (hms : GsMono gs) (h2 : GWs vs gs) : GWs vs (gCons g gs) := fun us σ H Q ⟨x, r, e, w⟩ => ⟨x, r, e, h1 _ _ _ _ (hm _ _ _ _ _ (fun σ' H' z ez => h2 _ _ _ _ (hms _ _ _ _ _ (fun σ2 H2 q e2 => q (e2.trans ez)) z)) w)⟩
theorem Slots.unAt {F H : Hp} {σ : L2.St} {ρ : Env} {fp : List Addr} {i : Nat} {o o' : Option V} (h : Slots K F H (σ.set i o) ρ fp) (e : ρ[i]? = some .un) : Slots K F H (σ.set i o') ρ fp := by
  obtain ⟨o1, l, f, r, e1, e2, h1, k⟩ := h.at e
  have : f = [] := by cases h1; rfl
  subst this
  have := k o' .un [] .un
  rw [List.set_set] at this
  have eρ : ρ.set i .un = ρ := by
    apply List.ext_getElem?
    intro j
    by_cases hj : j = i
    · subst hj
      rw [e]
      refine List.getElem?_set_self ?_
      rcases Nat.lt_or_ge j ρ.length with z | z
      · exact z
      · rw [List.getElem?_eq_none z] at e; cases e
    · rw [List.getElem?_set_ne (Ne.symm hj)]
  rw [eρ, ← e1] at this
  exact this
theorem wipeE_len (ρ : Env) : ∀ vs : List Nat, (wipeE ρ vs).length = ρ.length
  | [] => rfl
  | v :: vs => by unfold wipeE; rw [List.length_set, wipeE_len ρ vs]
theorem wipeE_un {ρ : Env} {j : Nat} : ∀ {vs : List Nat}, j ∈ vs → j < ρ.length → (wipeE ρ vs)[j]? = some .un
  | v :: vs, h, hl => by
    unfold wipeE
    by_cases e : v = j
    · subst e; exact List.getElem?_set_self (by rw [wipeE_len]; exact hl)
    · rw [List.getElem?_set_ne e]
      exact wipeE_un ((List.mem_cons.mp h).resolve_left (Ne.symm e)) hl
theorem Slots.unwipe {F H : Hp} {σ : L2.St} {ρ : Env} {fp : List Addr} : ∀ {vs : List Nat}, (∀ v ∈ vs, v < ρ.length → ρ[v]? = some .un) → Slots K F H (wipe σ vs) ρ fp → Slots K F H σ ρ fp
  | [], _, h => h
  | v :: vs, hu, h => by
    unfold wipe at h
    refine Slots.unwipe (vs := vs) (fun v' hv => hu v' (List.mem_cons_of_mem _ hv)) ?_
    rcases Nat.lt_or_ge v ρ.length with z | z
    · have := h.unAt (o' := (wipe σ vs)[v]?.getD none) (hu v List.mem_cons_self z)
      have e : (wipe σ vs).set v ((wipe σ vs)[v]?.getD none) = wipe σ vs := by
        have hl := h.len
        rw [List.length_set] at hl
        apply List.ext_getElem?
        intro j
        by_cases hj : j = v
        · subst hj
          rw [List.getElem?_set_self (by omega), List.getElem?_eq_getElem (by omega : j < (wipe σ vs).length)]
          rfl
        · rw [List.getElem?_set_ne (Ne.symm hj)]
      rwa [e] at this
    · rw [List.set_eq_of_length_le (by have hl := h.len; rw [List.length_set] at hl; omega)] at h
      exact h
theorem Rel.wipe {G : Ent} {H : Hp} {σ τ : L2.St} {ρ : Env} {δ : List Sl} (h : Rel K G H σ ρ τ δ) : ∀ vs : List Nat, Rel K G H (L2.wipe σ vs) (wipeE ρ vs) τ δ
  | [] => h
  | v :: vs => (Rel.wipe h vs).clr
theorem Rel.unwipe {G : Ent} {H : Hp} {σ σ2 τ : L2.St} {ρ : Env} {δ : List Sl} {vs : List Nat} (h : Rel K G H σ2 ρ τ δ) (e : L2.wipe σ2 vs = L2.wipe σ vs) : Rel K G H σ (wipeE ρ vs) τ δ := by
  have h2 := h.wipe vs
  rw [e] at h2
  obtain ⟨F, f1, f2, g, ht, hs⟩ := h2
  exact ⟨F, f1, f2, g, ht, hs.unwipe fun v hv hl => wipeE_un hv (by rwa [wipeE_len] at hl)⟩
theorem Rel.unrot {G : Ent} {H : Hp} {σ τ : L2.St} {ρ : Env} {δ : List Sl} {o : Option V} {s : Sl} {τ' : L2.St} {δ' : List Sl} (e : τ'.length = δ'.length) (h : Rel K G H σ ρ (o :: (τ' ++ τ)) (s :: (δ' ++ δ))) : Rel K G H σ ρ (τ' ++ o :: τ) (δ' ++ s :: δ) := by
  obtain ⟨F, f1, f2, g, ht, hs⟩ := h
  cases ht with
  | cons h1 h2 =>
    obtain ⟨fa, fb, rfl, h3, h4⟩ := h2.split e
    exact ⟨F, _, f2, g.cnt (by intro a; simp only [List.count_append]; omega), h3.app (.cons h1 h4), hs⟩
/-- an owned list that is held grows -/
theorem Rel.grow {G : Ent} {H : Hp} {σ τ : L2.St} {ρ : Env} {δ : List Sl} {D0 : Addr} {y : V} {x : D} {acc : List D} (h : Rel K G H σ ρ (some y :: some (.ref D0) :: τ) (.sh x :: .ow (.ol .fr) (.lst acc) :: δ)) :
    ∃ vs, H D0 = some (.lst vs) ∧ vs.length = acc.length ∧ Rel K G (upd H D0 (.lst (vs ++ [y]))) σ ρ (some (.ref D0) :: τ) (.ow (.ol .fr) (.lst (acc ++ [x])) :: δ) := by
  obtain ⟨F, f1, f2, g, ht, hs⟩ := h
  cases ht with
  | cons h1 h2 =>
    cases h1 with
    | sh r =>
      cases h2 with
      | cons h3 h4 =>
        cases h3 with
        | ow q =>
          cases q with
          | @ol _ _ vs _ fp hD rl =>
            rename_i fb
            obtain ⟨rl', rfl⟩ := rl.rep
            have g' : Good G F H (D0 :: (fb ++ f2)) := g
            have hne : ∀ a ∈ fb ++ f2, a ≠ D0 := fun a ha z => (List.nodup_cons.mp g'.nd).1 (z ▸ ha)
            refine ⟨vs, hD, rl'.len, F, D0 :: fb, f2, g'.mut (by simp) _, .cons (f := [D0]) (.ow (.ol upd_same (rl'.app (.cons r .nil)).own)) (h4.mono Le.rfl fun a ha => upd_ne (hne a (List.mem_append_left _ ha))), hs.mono Le.rfl fun a ha => upd_ne (hne a (List.mem_append_right _ ha))⟩
def lcM (vs : List Nat) (g : MG) (c : MT) (e : ME) : List D → List D → Env → (List D → Env → Prop) → (Er → Env → Prop) → Prop
  | [], acc, ρ, Q, _ => Q acc ρ
  | d :: ds, acc, ρ, Q, E => (g (.sh d)).wp (wipeE ρ vs) (fun _ r1 => c.wp r1 (fun b r2 => if b = true then e.wp r2 (fun s r3 => match s with
      | .sh x => acc.length < sizeLine ∧ lcM vs g c e ds (acc ++ [x]) (wipeE r3 vs) Q E
      | _ => False) (fun er r => E er (wipeE r vs)) else lcM vs g c e ds acc (wipeE r2 vs) Q E) (fun er r => E er (wipeE r vs))) (fun _ _ => False)
theorem lcM_mono {vs : List Nat} {g : MG} {c : MT} {e : ME} {Q Q' : List D → Env → Prop} {E E' : Er → Env → Prop} (h : ∀ l r, Q l r → Q' l r) (h' : ∀ er r, E er r → E' er r) : ∀ {ds acc : List D} {ρ : Env}, lcM vs g c e ds acc ρ Q E → lcM vs g c e ds acc ρ Q' E'
  | [], acc, ρ, w => h _ _ w
  | d :: ds, acc, ρ, w => (g (.sh d)).mono (fun _ r1 w1 => c.mono (fun b r2 w2 => by
      cases b with
      | true =>
        refine e.mono (fun s r3 w3 => ?_) (fun er r z => h' _ _ z) w2
        revert w3
        split
        · exact fun w3 => ⟨w3.1, lcM_mono h h' w3.2⟩
        · exact id
      | false => exact lcM_mono h h' w2) (fun er r z => h' _ _ z) w1) (fun _ _ z => z) w
def mLc (vs : List Nat) (i : MI) (g : MG) (c : MT) (e : ME) : ME := ⟨fun ρ Q E => i.wp ρ (fun ds r => lcM vs g c e ds [] r (fun acc r => Q (.ow (.ol .fr) (.lst acc)) r) E) E, fun h h' w => i.mono (fun ds r z => lcM_mono (fun _ _ q => h _ _ q) h' z) h' w⟩
/-- nothing is raised within -/
def mLc0 (vs : List Nat) (i : MI) (g : MG) (c : MT) (e : ME) : ME := ⟨fun ρ Q E => i.wp ρ (fun ds r => lcM vs g c e ds [] r (fun acc r => Q (.ow (.ol .fr) (.lst acc)) r) (fun _ _ => False)) E, fun h h' w => i.mono (fun ds r z => lcM_mono (fun _ _ q => h _ _ q) (fun _ _ q => q) z) h' w⟩
theorem lc_core_go {J : It} {g : TG} {mg : MG} {vs : List Nat} {E1 : Er → Env → Prop} {G : Ent} {H1 : Hp} {σ τ τ' : L2.St} {ρ1 : Env} {δ δ' : List Sl} {ds : List D} {Q : VK} (hE : ∀ er r, E1 er r → ∀ v H', Rel K G H' σ r (some v :: τ) (.sh er.d :: δ) → ∀ σ2, XE (W' σ2) H' (He.ga K (en er.c)) (ef er.c) v)
    (hw : GW vs g) (hgm : GMono g) (hg : GOk K g mg) (hc : TOk K W' tt mt) (he : EOk K W' te me) (el : τ'.length = δ'.length) (h1 : Rel K G H1 σ ρ1 (τ' ++ τ) (δ' ++ δ)) (hwk : Walks K G J ds τ' δ')
    (w1 : lcM vs mg mt me ds [] ρ1 (fun acc r => ∀ v H', Rel K G H' σ r (some v :: τ) (.ow (.ol .fr) (.lst acc) :: δ) → Q v H') E1) (A0 : Addr) (hD : H1 A0 = none) :
    ∃ W : Nat → Nat → Hp → Prop, (∃ m, W 0 m (upd H1 A0 (.lst []))) ∧ ∀ i m H, W i m H →
      (J.stop i H ∧ Q (.ref A0) H) ∨ (J.go i H ∧ ∃ Nx : Hp → Prop, (∀ H', Nx H' → ∃ m', m' < m ∧ W (i + 1) m' H') ∧ ∀ x H', J.yld i H x H' → g x (L2.wipe σ vs) H' fun σ2 H2 => L2.wipe σ2 vs = L2.wipe σ vs ∧ tt σ2 H2 fun b H3 =>
        if b = true then te σ2 H3 fun y H4 => ∃ acc, H4 A0 = some (.lst acc) ∧ acc.length < sizeLine ∧ Nx (upd H4 A0 (.lst (acc ++ [y]))) else Nx H3) := by
  have start : Rel K G (upd H1 A0 (.lst [])) σ ρ1 (τ' ++ some (.ref A0) :: τ) (δ' ++ .ow (.ol .fr) (.lst []) :: δ) := by
    have := Rel.lst (K := K) (vs := []) (ds := []) hD rfl h1
    exact Rel.unrot el this
  refine ⟨fun i n H' => n = ds.length - i ∧ i ≤ ds.length ∧ ∃ ρ' acc, Rel K G H' σ ρ' (τ' ++ some (.ref A0) :: τ) (δ' ++ .ow (.ol .fr) (.lst acc) :: δ) ∧ lcM vs mg mt me (ds.drop i) acc ρ' (fun acc r => ∀ v H', Rel K G H' σ r (some v :: τ) (.ow (.ol .fr) (.lst acc) :: δ) → Q v H') E1, ⟨_, rfl, Nat.zero_le _, ρ1, [], start, w1⟩, ?_⟩
  rintro i n H' ⟨rfl, hle, ρ', acc, h2, w2⟩
  by_cases hlt : i < ds.length
  · have hd : ds.drop i = ds[i] :: ds.drop (i + 1) := List.drop_eq_getElem_cons hlt
    rw [hd] at w2
    refine .inr ⟨hwk.go H' σ ρ' _ _ i h2 hlt, fun H2 => ∃ ρ2 acc, Rel K G H2 σ ρ2 (τ' ++ some (.ref A0) :: τ) (δ' ++ .ow (.ol .fr) (.lst acc) :: δ) ∧ lcM vs mg mt me (ds.drop (i + 1)) acc ρ2 (fun acc r => ∀ v H', Rel K G H' σ r (some v :: τ) (.ow (.ol .fr) (.lst acc) :: δ) → Q v H') E1, fun H2 ⟨ρ2, acc2, h3, w3⟩ => ⟨_, by omega, rfl, hlt, ρ2, acc2, h3, w3⟩, fun x H2 y => ?_⟩
    have h3 := hwk.yld H' σ ρ' _ _ i x H2 ds[i] h2 (List.getElem?_eq_getElem hlt) y
    refine hw _ _ _ _ (hg G H2 _ _ _ _ x _ _ (h3.wipe vs) ((mg _).mono (fun _ ρ3 w3 σ3 H3 h4 ew => ?_) (fun _ _ z => z) w2))
    rw [wipe_wipe] at ew
    have drop : ∀ {v : V} {d : D} {ρx : Env} {Hx : Hp} {σx : L2.St}, L2.wipe σx vs = L2.wipe σ vs → Rel K G Hx σx ρx (some v :: (τ' ++ some (.ref A0) :: τ)) (.sh d :: (δ' ++ .ow (.ol .fr) (.lst acc) :: δ)) → Rel K G Hx σ (wipeE ρx vs) (some v :: τ) (.sh d :: δ) := fun ew q => (Rel.dropN el q).drop2.unwipe ew
    refine ⟨ew, hc G H3 σ3 ρ3 _ _ _ h4 (mt.mono (fun b ρ4 w4 H4 h5 => ?_) (fun er ρx z v Hx q => hE _ _ z v Hx (drop ew q) _) w3)⟩
    cases b with
    | false => exact ⟨_, acc, h5.unwipe ew, w4⟩
    | true =>
      refine he G H4 σ3 ρ4 _ _ _ h5 (me.mono (fun s ρ5 w5 v H5 h6 => ?_) (fun er ρx z v Hx q => hE _ _ z v Hx (drop ew q) _) w4)
      split at w5
      · rename_i xd
        have h7 : Rel K G H5 σ3 ρ5 (some v :: some (.ref A0) :: (τ' ++ τ)) (.sh xd :: .ow (.ol .fr) (.lst acc) :: (δ' ++ δ)) := (Rel.rot (τ' := some v :: τ') (δ' := .sh xd :: δ') (by simp [el]) h6).swap
        obtain ⟨us, e1, e2, h8⟩ := h7.grow
        refine ⟨us, e1, by rw [e2]; exact w5.1, _, _, (Rel.unrot el h8).unwipe ew, w5.2⟩
      · exact w5.elim
  · have e : i = ds.length := by omega
    subst e
    rw [List.drop_length] at w2
    refine .inl ⟨hwk.stop H' σ ρ' _ _ h2, w2 _ _ ?_⟩
    exact Rel.dropN el (Rel.rot el h2)
theorem lc_go {wi : TI} {mi : MI} {g : TG} {mg : MG} {vs : List Nat} {E0 : Ent → L2.St → L2.St → List Sl → Er → Env → Prop} (hE : ∀ G σ τ δ er r, E0 G σ τ δ er r → ∀ v H', Rel K G H' σ r (some v :: τ) (.sh er.d :: δ) → ∀ σ2, XE (W' σ2) H' (He.ga K (en er.c)) (ef er.c) v)
    (hi : IOk K W wi mi) (hw : GW vs g) (hgm : GMono g) (hg : GOk K g mg) (hc : TOk K W' tt mt) (he : EOk K W' te me) (G : Ent) (H : Hp) (σ : L2.St) (ρ : Env) (τ : L2.St) (δ : List Sl) (Q : VK) (h : Rel K G H σ ρ τ δ)
    (w : mi.wp ρ (fun ds r => lcM vs mg mt me ds [] r (fun acc r => ∀ v H', Rel K G H' σ r (some v :: τ) (.ow (.ol .fr) (.lst acc) :: δ) → Q v H') (E0 G σ τ δ)) (exQ K W G σ τ δ)) : tLc wi g tt te vs σ H Q :=
  hi G H σ ρ τ δ _ h (mi.mono (fun ds ρ1 w1 J H1 τ' δ' el h1 hwk A0 hD => lc_core_go (hE G σ τ δ) hw hgm hg hc he el h1 hwk w1 A0 hD) (fun _ _ z => z) w)
theorem eLc0 {wi : TI} {mi : MI} {g : TG} {mg : MG} {vs : List Nat} (hi : IOk K W wi mi) (hw : GW vs g) (hgm : GMono g) (hg : GOk K g mg) (hc : TOk K (fun _ _ _ _ => False) tt mt) (he : EOk K (fun _ _ _ _ => False) te me) : EOk K W (tLc wi g tt te vs) (mLc0 vs mi mg mt me) := fun G H σ ρ τ δ Q h w =>
  lc_go (W' := fun _ _ _ _ => False) (E0 := fun _ _ _ _ _ _ => False) (fun _ _ _ _ _ _ z => z.elim) hi hw hgm hg hc he G H σ ρ τ δ Q h w
theorem eLcX {E : XK} {wi : TI} {mi : MI} {g : TG} {mg : MG} {vs : List Nat} (hi : IOk K (fun _ => E) wi mi) (hw : GW vs g) (hgm : GMono g) (hg : GOk K g mg) (hc : TOk K (fun _ => E) tt mt) (he : EOk K (fun _ => E) te me) : EOk K (fun _ => E) (tLc wi g tt te vs) (mLc vs mi mg mt me) := fun G H σ ρ τ δ Q h w =>
  lc_go (W' := fun _ => E) (E0 := fun G σ τ δ => exQ K (fun _ => E) G σ τ δ) (fun _ _ _ _ _ _ z v H' q _ => z v H' q) hi hw hgm hg hc he G H σ ρ τ δ Q h w
def mYes : MT := M.ret true
theorem tYes' : TOk K W tYes mYes := fun G H σ ρ τ δ Q h w => w H h
end
end Dl
namespace Dl
open PySem PySem.Spec PyProof.Rows L2
/-! ### what a slot owns -/
def Sl.own : Sl → Option (Sh × D)
  | .ow z d => some (z, d)
  | .le _ z d => some (z, d)
  | _ => none
def Sl.put : Sl → Sh → D → Sl
  | .le v _ _, z, d => .le v z d
  | _, z, d => .ow z d
section
variable {K : PySem.W.Frag} {W W' : WS} {ta tb tc te tn : TE} {ma mb mc me mn : ME} {t u : TS} {m k : MS} {tA tt : TT} {mA mt : MT} {tl : TA} {ml : MA} {G : Ent} {F H H' : Hp} {σ τ : L2.St} {ρ : Env} {δ : List Sl}
theorem SlV.owns {o : Option V} {s : Sl} {f : List Addr} {z : Sh} {d : D} (h : SlV K F H o s f) (e : s.own = some (z, d)) : ∃ v, o = some v ∧ Own K F H z v d f ∧ ∀ F' H' z' d' f', Own K F' H' z' v d' f' → SlV K F' H' o (s.put z' d') f' := by
  cases h with
  | ow r => cases e; exact ⟨_, rfl, r, fun _ _ _ _ _ q => .ow q⟩
  | le r => cases e; exact ⟨_, rfl, r, fun _ _ _ _ _ q => .le q⟩
  | _ => cases e
theorem set_same {α : Type} {l : List α} {i : Nat} {x : α} (h : l[i]? = some x) : l.set i x = l := by
  apply List.ext_getElem?
  intro j
  by_cases hj : j = i
  · subst hj
    rw [h]
    refine List.getElem?_set_self ?_
    rcases Nat.lt_or_ge j l.length with z | z
    · exact z
    · rw [List.getElem?_eq_none z] at h; cases h
  · rw [List.getElem?_set_ne (Ne.symm hj)]
/-- the owned thing of the slot i: its root changes, its parts may be taken over -/
theorem Rel.own {i : Nat} {s : Sl} {z : Sh} {d : D} (h : Rel K G H σ ρ τ δ) (e : ρ[i]? = some s) (eo : s.own = some (z, d)) : ∃ F f1 v f, Slots K F H τ δ f1 ∧ Le F H ∧ σ[i]? = some (some v) ∧ Own K F H z v d f ∧ (∀ u x, Rep K F u x → Rel K G H σ ρ (some u :: τ) (.sh x :: δ)) ∧
    (∀ a o z' d' f', a ∈ f → Own K F (upd H a o) z' v d' f' → (∀ b, f'.count b ≤ f.count b) → Rel K G (upd H a o) σ (ρ.set i (s.put z' d')) τ δ) := by
  obtain ⟨F, f1, f2, g, ht, hs⟩ := h
  obtain ⟨o, l, f, r, e1, e2, h1, k⟩ := hs.at e
  obtain ⟨v, rfl, q, kk⟩ := h1.owns eo
  subst e1
  refine ⟨F, f1, v, f, ht, g.sub, e2, q, fun u x r => ⟨F, f1, _, g, .cons (f := []) (.sh r) ht, hs⟩, fun a o z' d' f' ha q' hc => ?_⟩
  have hnd : ∀ b ∈ f1 ++ (l ++ r), b ≠ a := fun b hb eb => by
    subst eb
    have c1 := List.nodup_iff_count.mp g.nd b
    have c2 := List.count_pos_iff.mpr ha
    have c3 := List.count_pos_iff.mpr hb
    simp only [List.count_append] at c1 c3
    omega
  have g1 := g.mut (a := a) (List.mem_append_right _ (List.mem_append_right _ (List.mem_append_left _ ha))) o
  have h0 := (k (some v) .un [] .un).mono (F' := F) (H' := upd H a o) Le.rfl fun b hb => upd_ne (hnd b (List.mem_append_right _ (by simpa using hb)))
  rw [set_same e2] at h0
  have hlt : i < ρ.length := by
    rcases Nat.lt_or_ge i ρ.length with z | z
    · exact z
    · rw [List.getElem?_eq_none z] at e; cases e
  obtain ⟨o2, l2, f2, r2, e12, e22, h12, k2⟩ := h0.at (i := i) (s := .un) (by rw [List.getElem?_set_self hlt])
  have : f2 = [] := by cases h12; rfl
  subst this
  have h3 := k2 (some v) _ f' (kk F (upd H a o) z' d' f' q')
  rw [set_same e2, List.set_set] at h3
  refine ⟨F, f1, _, g1.cnt fun b => ?_, ht.mono Le.rfl fun b hb => upd_ne (hnd b (List.mem_append_left _ hb)), h3⟩
  have c1 := hc b
  have c2 : (l ++ ([] ++ r)).count b = (l2 ++ ([] ++ r2)).count b := by rw [e12]
  simp only [List.count_append, List.count_nil] at c1 c2 ⊢
  omega
/-! ### draws -/
def sp_take : Sp := fun vs H Q _ => ∃ (b c : Addr) (n : Int), vs = [.ref b, .int n] ∧ Bx H b c ∧ 0 < n ∧ n.natAbs < 2 ^ 9000 ∧ ∀ (k : Int) (o : HO), 0 ≤ k → k < n → Bx (upd H b o) b c → Q (.int k) (upd H b o)
def Sl.isBx : Sl → Bool
  | .bx => true
  | .lb _ => true
  | _ => false
/-- where the slot i is a box -/
def atBx {α : Type} (i : Nat) (m : M α) : M α := ⟨fun ρ Q E => match ρ[i]? with
  | some .bx => m.wp ρ Q E
  | some (.lb _) => m.wp ρ Q E
  | _ => False, fun {ρ Q Q' E E'} h h' w => by
    revert w
    split
    · exact fun w => m.mono h h' w
    · exact fun w => m.mono h h' w
    · exact id⟩
theorem atBx_go {α : Type} {i : Nat} {m : M α} {ρ : Env} {Q : α → Env → Prop} {E : Er → Env → Prop} (w : (atBx i m).wp ρ Q E) : ∃ s, ρ[i]? = some s ∧ s.isBx = true ∧ m.wp ρ Q E := by
  unfold atBx at w
  simp only at w
  split at w
  · exact ⟨_, by assumption, rfl, w⟩
  · exact ⟨_, by assumption, rfl, w⟩
  · exact w.elim
/-- any number below n -/
def drawM : Sl → ME := fun s => ⟨fun ρ Q _ => match s with
  | .sh (.int n) => (0 < n ∧ n.natAbs < 2 ^ 9000) ∧ ∀ k : Int, 0 ≤ k → k < n → Q (.sh (.int k)) ρ
  | _ => False, fun {ρ Q Q' E E'} h _ w => by
    revert w
    split
    · exact fun w => ⟨w.1, fun k h1 h2 => h _ _ (w.2 k h1 h2)⟩
    · exact id⟩
def mTake (i : Nat) (n : ME) : ME := atBx i (n.bind fun s => atBx i (drawM s))
theorem Rel.box {i : Nat} {s : Sl} (h : Rel K G H σ ρ τ δ) (e : ρ[i]? = some s) (eb : s.isBx = true) : ∃ b c, σ[i]? = some (some (.ref b)) ∧ Bx H b c ∧ ∀ o, Bx (upd H b o) b c → Rel K G (upd H b o) σ ρ τ δ := by
  obtain ⟨F, f1, f2, g, ht, hs⟩ := h
  obtain ⟨o, l, f, r, e1, e2, h1, k⟩ := hs.at e
  have key : ∃ b c, o = some (.ref b) ∧ f = [b, c] ∧ Bx H b c ∧ ∀ H', Bx H' b c → SlV K F H' o s f := by
    cases h1 with
    | @bx b c r => exact ⟨b, c, rfl, rfl, r, fun _ q => .bx q⟩
    | @lb b c r => exact ⟨b, c, rfl, rfl, r, fun _ q => .lb q⟩
    | _ => cases eb
  obtain ⟨b, c, rfl, rfl, hB, kk⟩ := key
  subst e1
  refine ⟨b, c, e2, hB, fun o hB' => ?_⟩
  have hnd : ∀ a ∈ f1 ++ (l ++ r), a ≠ b := fun a ha eb => by
    subst eb
    have c1 := List.nodup_iff_count.mp g.nd a
    have c3 := List.count_pos_iff.mpr ha
    simp only [List.count_append, List.count_cons, beq_self_eq_true, if_true] at c1 c3
    omega
  have g1 := g.mut (a := b) (by simp) o
  have h0 := (k (some (.ref b)) .un [] .un).mono (F' := F) (H' := upd H b o) Le.rfl fun a ha => upd_ne (hnd a (List.mem_append_right _ (by simpa using ha)))
  rw [set_same e2] at h0
  have hlt : i < ρ.length := by
    rcases Nat.lt_or_ge i ρ.length with z | z
    · exact z
    · rw [List.getElem?_eq_none z] at e; cases e
  obtain ⟨o2, l2, f2, r2, e12, e22, h12, k2⟩ := h0.at (i := i) (s := .un) (by rw [List.getElem?_set_self hlt])
  have : f2 = [] := by cases h12; rfl
  subst this
  have h3 := k2 (some (.ref b)) s [b, c] (kk _ hB')
  rw [set_same e2, List.set_set, set_same e] at h3
  refine ⟨F, f1, _, g1.cnt fun a => ?_, ht.mono Le.rfl fun a ha => upd_ne (hnd a (List.mem_append_left _ ha)), h3⟩
  have c2 : (l ++ ([] ++ r)).count a = (l2 ++ ([] ++ r2)).count a := by rw [e12]
  simp only [List.count_append, List.count_nil] at c2 ⊢
  omega
theorem eTake {i : Nat} (hn : EOk K W tn mn) : EOk K W (Cl.tF (fun vs H Q E => sp_take (vs ++ []) H Q E) W (tCons (tVar i) (tCons tn tNil))) (mTake i mn) := fun G H σ ρ τ δ Q h w => by
  obtain ⟨s0, e0, eb0, w⟩ := atBx_go w
  obtain ⟨b0, c0, e, _⟩ := h.box e0 eb0
  refine ⟨_, e, hn G H σ ρ τ δ _ h (mn.mono (fun s ρ1 w1 u H1 h1 => ?_) (fun _ _ z => z) w)⟩
  obtain ⟨s1, e1, eb1, w2⟩ := atBx_go w1
  clear w1
  unfold drawM at w2
  simp only at w2
  split at w2
  · rename_i n
    obtain ⟨b', c, e2, hB, kb⟩ := h1.pop.box e1 eb1
    rw [e] at e2
    cases e2
    obtain rfl := h1.topv (u := .int n) rfl
    exact ⟨b0, c, n, rfl, hB, w2.1.1, w2.1.2, fun k o k0 k1 hB' => w2.2 k k0 k1 _ _ ((kb o hB').push rfl)⟩
  · exact w2.elim
/-- a new box of the script -/
def sp_box (K : PySem.W.Frag) : Sp := fun vs H Q _ => ∃ (a : Addr) (ns : List Int), vs = [.ref a] ∧ SqL K H a (ns.map V.int) ∧ ∀ (H' : Hp) (b c : Addr), Same H H' → H b = none → H c = none → Bx H' b c → Q (.ref b) H'
def boxM : Sl → ME
  | .sh .scr => M.ret .bx
  | _ => M.stuck
def mBox (a : ME) : ME := a.bind boxM
theorem Bx.ne {b c : Addr} (h : Bx H b c) : c ≠ b := by
  obtain ⟨cs, i, r, s, h1, h2, _⟩ := h
  refine ne_of h2 h1 fun z => ?_
  have z2 : cs.map V.int = [.ref c, .int i, .int r, .int s] := by injection z
  cases cs with
  | nil => cases z2
  | cons a l => cases z2
theorem Good.grow {fp fn : List Addr} (g : Good G F H fp) (s : Same H H') (here : ∀ a ∈ fp, H a ≠ none) (hf : ∀ a ∈ fn, H a = none) (nd : fn.Nodup) : Good G F H' (fn ++ fp) := by
  refine ⟨fun a o e => s _ _ (g.sub a o e), g.f0, g.fN, fun a o e hn => s _ _ (g.frm a o e hn), fun a e => ?_, fun a ha => ?_, fun a ha => ?_, List.nodup_append.mpr ⟨nd, g.nd, fun a ha b hb e => here b hb (by rw [← e]; exact hf a ha)⟩⟩
  · cases q : H a with
    | none => exact absurd q (g.all a e)
    | some o => rw [s _ _ q]; intro z; cases z
  · rcases List.mem_append.mp ha with z | z
    · refine .inr ?_
      cases q : G.H a with
      | none => rfl
      | some o => exact absurd (hf a z) (g.all a (by rw [q]; intro z; cases z))
    · exact g.own a z
  · rcases List.mem_append.mp ha with z | z
    · cases q : F a with
      | none => rfl
      | some o => have := g.sub a o q; rw [hf a z] at this; cases this
    · exact g.nf a z
theorem eBox (ha : EOk K W ta ma) : EOk K W (Cl.tF (fun vs H Q E => sp_box K (vs ++ []) H Q E) W (tCons ta tNil)) (mBox ma) := fun G H σ ρ τ δ Q h w =>
  ha G H σ ρ τ δ _ h (ma.mono (fun s ρ1 w1 v H1 h1 => by
    unfold boxM at w1
    split at w1
    · obtain ⟨F, f1, f2, g, ht, hs⟩ := h1
      cases ht with
      | cons q1 q2 =>
        cases q1 with
        | sh r =>
          cases r with
          | @scr a ns hsq =>
            rename_i fb
            refine ⟨a, ns, rfl, sql_mono g.sub hsq, fun H' b c s nb nc hB => w1 _ _ ?_⟩
            have hin : ∀ a ∈ fb ++ f2, H1 a ≠ none := fun a ha => by
              rcases List.mem_append.mp ha with z | z
              · exact q2.here a z
              · exact hs.here a z
            have hn : ∀ a ∈ fb ++ f2, H' a = H1 a := fun a ha => by
              cases q : H1 a with
              | none => exact absurd q (hin a ha)
              | some o => exact s _ _ q
            have g1 := Good.grow (fp := fb ++ f2) (fn := [b, c]) g s hin (fun a ha => by
              rcases List.mem_cons.mp ha with rfl | ha
              · exact nb
              · rw [List.mem_singleton.mp ha]; exact nc) (by simp [Ne.symm hB.ne])
            exact ⟨F, b :: c :: fb, f2, g1, .cons (f := [b, c]) (.bx hB) (q2.mono Le.rfl fun a ha => hn a (List.mem_append_left _ ha)), hs.mono Le.rfl fun a ha => hn a (List.mem_append_right _ ha)⟩
    · exact w1.elim) (fun _ _ z => z) w)
/-! ### an owned list of a slot -/
/-- the owned list of the slot i, of frozen things -/
def atOwn {α : Type} (i : Nat) (k : Sl → Sh → D → M α) : M α := ⟨fun ρ Q E => match ρ[i]? with
  | some (.ow z d) => (k (.ow z d) z d).wp ρ Q E
  | some (.le v z d) => (k (.le v z d) z d).wp ρ Q E
  | _ => False, fun {ρ Q Q' E E'} h h' w => by
    revert w
    split
    · exact fun w => (k _ _ _).mono h h' w
    · exact fun w => (k _ _ _).mono h h' w
    · exact id⟩
theorem atOwn_go {α : Type} {i : Nat} {k : Sl → Sh → D → M α} {ρ : Env} {Q : α → Env → Prop} {E : Er → Env → Prop} (w : (atOwn i k).wp ρ Q E) : ∃ s z d, ρ[i]? = some s ∧ s.own = some (z, d) ∧ (k s z d).wp ρ Q E := by
  unfold atOwn at w
  simp only at w
  split at w
  · exact ⟨_, _, _, by assumption, rfl, w⟩
  · exact ⟨_, _, _, by assumption, rfl, w⟩
  · exact w.elim
/-- the list changes: f of it, where p -/
def ownL {α : Type} (i : Nat) (f : List D → Option (Prop × List D × α)) : M α := atOwn i fun s z d => ⟨fun ρ Q _ => match z, d with
  | .ol .fr, .lst ds => match f ds with
    | some (p, ds', a) => p ∧ Q a (ρ.set i (s.put (.ol .fr) (.lst ds')))
    | none => False
  | _, _ => False, fun {ρ Q Q' E E'} h h' w => by
    revert w
    split
    · split
      · exact fun w => ⟨w.1, h _ _ w.2⟩
      · exact id
    · exact id⟩
theorem ownL_go {α : Type} {i : Nat} {f : List D → Option (Prop × List D × α)} {ρ : Env} {Q : α → Env → Prop} {E : Er → Env → Prop} (w : (ownL i f).wp ρ Q E) : ∃ s ds p ds' a, ρ[i]? = some s ∧ s.own = some (.ol .fr, .lst ds) ∧ f ds = some (p, ds', a) ∧ p ∧ Q a (ρ.set i (s.put (.ol .fr) (.lst ds'))) := by
  obtain ⟨s, z, d, e, eo, w⟩ := atOwn_go w
  simp only at w
  split at w
  · split at w
    · exact ⟨_, _, _, _, _, e, eo, by assumption, w.1, w.2⟩
    · exact w.elim
  · exact w.elim
theorem Rel.ownL {i : Nat} {s : Sl} {ds : List D} (h : Rel K G H σ ρ τ δ) (e : ρ[i]? = some s) (eo : s.own = some (.ol .fr, .lst ds)) : ∃ F f1 l vs, Slots K F H τ δ f1 ∧ Le F H ∧ σ[i]? = some (some (.ref l)) ∧ H l = some (.lst vs) ∧ RepL K F vs ds ∧ (∀ u x, Rep K F u x → Rel K G H σ ρ (some u :: τ) (.sh x :: δ)) ∧
    (∀ vs' ds', RepL K F vs' ds' → Rel K G (upd H l (.lst vs')) σ (ρ.set i (s.put (.ol .fr) (.lst ds'))) τ δ) := by
  obtain ⟨F, f1, v, f, ht, hl, e1, q, kv, k⟩ := h.own e eo
  cases q with
  | @ol _ l vs _ fp hh rl =>
    obtain ⟨rl', rfl⟩ := rl.rep
    exact ⟨F, f1, l, vs, ht, hl, e1, hh, rl', kv, fun vs' ds' r' => k l _ _ _ [l] (by simp) (.ol upd_same r'.own) (fun _ => Nat.le_refl _)⟩
def isOwnL (i : Nat) (m : ME) : ME := atOwn i fun _ z d => match z, d with
  | .ol .fr, .lst _ => m
  | _, _ => M.stuck
theorem isOwnL_go {i : Nat} {m : ME} {ρ : Env} {Q : Sl → Env → Prop} {E : Er → Env → Prop} (w : (isOwnL i m).wp ρ Q E) : ∃ s ds, ρ[i]? = some s ∧ s.own = some (.ol .fr, .lst ds) ∧ m.wp ρ Q E := by
  obtain ⟨s, z, d, e, eo, w⟩ := atOwn_go w
  split at w
  · exact ⟨s, _, e, eo, w⟩
  · exact w.elim
/-- xs.append(e) -/
def mApp (i : Nat) (e : ME) : ME := isOwnL i (e.bind fun s => match s with
  | .sh x => ownL i fun ds => some (ds.length < sizeLine, ds ++ [x], .sh .non)
  | _ => M.stuck)
theorem eApp {i : Nat} (he : EOk K W te me) : EOk K W (tBM K "list" rAppend (tVar i) (tCons te tNil)) (mApp i me) := fun G H σ ρ τ δ Q h w => by
  obtain ⟨s0, ds0, e0, eo0, w⟩ := isOwnL_go w
  obtain ⟨F, f1, l, vs, ht, hl, e1, hh, rl, kv, k⟩ := h.ownL e0 eo0
  refine ⟨_, e1, Or.inl ⟨rfl, _, SqL.of hh⟩, he G H σ ρ τ δ _ h (me.mono (fun s ρ1 w1 v H1 h1 => ?_) (fun _ _ z => z) w)⟩
  simp only at w1
  split at w1
  · rename_i x
    obtain ⟨s1, ds, p, ds', a, e2, eo, ef, hp, q⟩ := ownL_go w1
    cases ef
    obtain ⟨F2, f2, l2, vs2, ht2, hl2, e3, hh2, rl2, kv2, k2⟩ := h1.ownL e2 eo
    rw [e1] at e3
    cases e3
    cases ht2 with
    | cons q1 q2 =>
      cases q1 with
      | sh r =>
        have := (k2 _ _ (rl2.app (.cons r .nil))).pop
        exact ⟨l, vs2, v, rfl, rfl, hh2, by rw [rl2.len]; exact hp, q _ _ (this.push rfl)⟩
  · exact w1.elim
/-- xs.extend(e) -/
def mExt (i : Nat) (e : ME) : ME := isOwnL i (e.bind fun s => match s with
  | .sh (.lst xs) => ownL i fun ds => some (ds.length + xs.length ≤ sizeLine, ds ++ xs, .sh .non)
  | _ => M.stuck)
theorem eExt {i : Nat} (he : EOk K W te me) : EOk K W (tBM K "list" rExtend (tVar i) (tCons te tNil)) (mExt i me) := fun G H σ ρ τ δ Q h w => by
  obtain ⟨s0, ds0, e0, eo0, w⟩ := isOwnL_go w
  obtain ⟨F, f1, l, vs, ht, hl, e1, hh, rl, kv, k⟩ := h.ownL e0 eo0
  refine ⟨_, e1, Or.inl ⟨rfl, _, SqL.of hh⟩, he G H σ ρ τ δ _ h (me.mono (fun s ρ1 w1 v H1 h1 => ?_) (fun _ _ z => z) w)⟩
  simp only at w1
  split at w1
  · rename_i xs
    obtain ⟨s1, ds, p, ds', a, e2, eo, ef, hp, q⟩ := ownL_go w1
    cases ef
    obtain ⟨F2, f2, l2, vs2, ht2, hl2, e3, hh2, rl2, kv2, k2⟩ := h1.ownL e2 eo
    rw [e1] at e3
    cases e3
    cases ht2 with
    | cons q1 q2 =>
      cases q1 with
      | sh r =>
        cases r with
        | lst hb rb =>
          have := (k2 _ _ (rl2.app rb)).pop
          exact ⟨l, _, vs2, _, rfl, rfl, hh2, hl2 _ _ hb, by rw [rl2.len, rb.len]; exact hp, q _ _ (this.push rfl)⟩
  · exact w1.elim
/-- xs.pop() -/
def mPop (i : Nat) : ME := ownL i fun ds => match ds[ds.length - 1]? with
  | some d => some (True, ds.dropLast, .sh d)
  | none => none
theorem RepL.dropL {vs : List V} {ds : List D} (h : RepL K F vs ds) : RepL K F vs.dropLast ds.dropLast := by
  rw [List.dropLast_eq_take, List.dropLast_eq_take, h.len]
  exact h.take _
theorem ePop {i : Nat} : EOk K W (tBM0 K "list" rPop (tVar i)) (mPop i) := fun G H σ ρ τ δ Q h w => by
  obtain ⟨s1, ds, p, ds', a, e2, eo, ef, hp, q⟩ := ownL_go w
  split at ef
  · rename_i d ed
    cases ef
    obtain ⟨F2, f2, l2, vs2, ht2, hl2, e3, hh2, rl2, kv2, k2⟩ := h.ownL e2 eo
    obtain ⟨v, ev, rv⟩ := rl2.get ed
    refine ⟨_, e3, Or.inl ⟨rfl, _, SqL.of hh2⟩, l2, vs2, v, rfl, rfl, hh2, by rw [rl2.len]; exact ev, q _ _ ?_⟩
    obtain ⟨F3, f3, l3, vs3, ht3, hl3, e4, hh3, rl3, kv3, k3⟩ := (kv2 v d rv).ownL e2 eo
    rw [e3] at e4
    cases e4
    rw [hh2] at hh3
    cases hh3
    exact k3 _ _ rl3.dropL
  · cases ef
/-- xs.reverse(), xs.clear() -/
def mRev (i : Nat) : ME := ownL i fun ds => some (True, ds.reverse, .sh .non)
theorem eRev {i : Nat} : EOk K W (tBM0 K "list" rReverse (tVar i)) (mRev i) := fun G H σ ρ τ δ Q h w => by
  obtain ⟨s1, ds, p, ds', a, e2, eo, ef, hp, q⟩ := ownL_go w
  cases ef
  obtain ⟨F2, f2, l2, vs2, ht2, hl2, e3, hh2, rl2, kv2, k2⟩ := h.ownL e2 eo
  exact ⟨_, e3, Or.inl ⟨rfl, _, SqL.of hh2⟩, l2, vs2, rfl, rfl, hh2, q _ _ ((k2 _ _ rl2.rev).push rfl)⟩
def mClr (i : Nat) : ME := ownL i fun _ => some (True, [], .sh .non)
theorem eClr {i : Nat} : EOk K W (tBM0 K "list" rClear (tVar i)) (mClr i) := fun G H σ ρ τ δ Q h w => by
  obtain ⟨s1, ds, p, ds', a, e2, eo, ef, hp, q⟩ := ownL_go w
  cases ef
  obtain ⟨F2, f2, l2, vs2, ht2, hl2, e3, hh2, rl2, kv2, k2⟩ := h.ownL e2 eo
  exact ⟨_, e3, Or.inl ⟨rfl, _, SqL.of hh2⟩, l2, vs2, rfl, rfl, hh2, q _ _ ((k2 _ _ .nil).push rfl)⟩
/-- xs[i] = v -/
def isOwnU (i : Nat) (m : M Unit) : M Unit := atOwn i fun _ z d => match z, d with
  | .ol .fr, .lst _ => m
  | _, _ => M.stuck
theorem isOwnU_go {i : Nat} {m : M Unit} {ρ : Env} {Q : Unit → Env → Prop} {E : Er → Env → Prop} (w : (isOwnU i m).wp ρ Q E) : ∃ s ds, ρ[i]? = some s ∧ s.own = some (.ol .fr, .lst ds) ∧ m.wp ρ Q E := by
  obtain ⟨s, z, d, e, eo, w⟩ := atOwn_go w
  split at w
  · exact ⟨s, _, e, eo, w⟩
  · exact w.elim
@[irreducible] def gIx (i : Nat) (ix : ME) : MG := fun s => isOwnU i (ix.bind fun j => match s, j with
  | .sh x, .sh (.int n) => ownL i fun ds => match ixN ds.length n with
    | some j => some (True, ds.set j x, ())
    | none => none
  | _, _ => M.stuck)
theorem gIx' {i : Nat} {ti : TE} {mi : ME} (hi : EOk K (fun _ _ _ _ => False) ti mi) : GOk K (gSub (tVar i) ti rSetL) (gIx i mi) := fun G H σ ρ τ δ v s Q h w => by
  unfold gIx at w
  obtain ⟨s0, ds0, e0, eo0, w'⟩ := isOwnU_go w
  clear w
  obtain ⟨F, f1, l, vs, ht, hl, e1, hh, rl, kv, k⟩ := h.ownL e0 eo0
  refine ⟨_, e1, hi G H σ ρ _ _ _ h (mi.mono (fun j ρ1 w1 u H1 h1 => ?_) (fun _ _ z => z.elim) w')⟩
  simp only at w1
  split at w1
  · rename_i x n
    obtain rfl := h1.topv (u := .int n) rfl
    obtain ⟨s1, ds, p, ds', a, e2, eo, ef, hp, q⟩ := ownL_go w1
    split at ef
    · rename_i jj ej
      cases ef
      obtain ⟨F2, f2, l2, vs2, ht2, hl2, e3, hh2, rl2, kv2, k2⟩ := h1.pop.ownL e2 eo
      rw [e1] at e3
      cases e3
      cases ht2 with
      | cons q1 q2 =>
        cases q1 with
        | sh r => exact ⟨l, vs2, n, jj, rfl, rfl, hh2, by rw [rl2.len]; exact ej, q _ _ (k2 _ _ (rl2.set r _)).pop⟩
    · cases ef
  · exact w1.elim
end
end Dl
namespace Dl
open PySem PySem.Spec PyProof.Rows L2
section
variable {K : PySem.W.Frag} {W W' : WS} {ta tb tc te tn tv : TE} {ma mb mc me mn mv : ME} {t u : TS} {m k : MS} {tA tt : TT} {mA mt : MT} {tl : TA} {ml : MA} {G : Ent} {F H H' : Hp} {σ τ : L2.St} {ρ : Env} {δ : List Sl}
/-- the owned thing of the slot i takes over what is held -/
theorem Rel.own1 {i : Nat} {s sv : Sl} {o0 : Option V} {z : Sh} {d : D} (h : Rel K G H σ ρ (o0 :: τ) (sv :: δ)) (e : ρ[i]? = some s) (eo : s.own = some (z, d)) : ∃ F f0 v f, SlV K F H o0 sv f0 ∧ Le F H ∧ σ[i]? = some (some v) ∧ Own K F H z v d f ∧ (∀ a ∈ f, a ∉ f0) ∧ f.Nodup ∧
    (∀ a o z' d' f', a ∈ f → Own K F (upd H a o) z' v d' f' → (∀ b, f'.count b ≤ f0.count b + f.count b) → Rel K G (upd H a o) σ (ρ.set i (s.put z' d')) τ δ) := by
  obtain ⟨F, f1, f2, g, ht, hs⟩ := h
  cases ht with
  | cons h0 h2 =>
    rename_i f0 fb
    obtain ⟨o, l, f, r, e1, e2, h1, k⟩ := hs.at e
    obtain ⟨v, rfl, q, kk⟩ := h1.owns eo
    subst e1
    have hdis : ∀ a ∈ f, a ∉ f0 := fun a ha ha0 => by
      have c1 := List.nodup_iff_count.mp g.nd a
      have c2 := List.count_pos_iff.mpr ha
      have c3 := List.count_pos_iff.mpr ha0
      simp only [List.count_append] at c1
      omega
    have hfn : f.Nodup := List.nodup_iff_count.mpr fun a => by
      have c1 := List.nodup_iff_count.mp g.nd a
      simp only [List.count_append] at c1
      omega
    refine ⟨F, f0, v, f, h0, g.sub, e2, q, hdis, hfn, fun a o z' d' f' ha q' hc => ?_⟩
    have hnd : ∀ b ∈ fb ++ (l ++ r), b ≠ a := fun b hb eb => by
      subst eb
      have c1 := List.nodup_iff_count.mp g.nd b
      have c2 := List.count_pos_iff.mpr ha
      have c3 := List.count_pos_iff.mpr hb
      simp only [List.count_append] at c1 c3
      omega
    have g1 := g.mut (a := a) (List.mem_append_right _ (List.mem_append_right _ (List.mem_append_left _ ha))) o
    have h0' := (k (some v) .un [] .un).mono (F' := F) (H' := upd H a o) Le.rfl fun b hb => upd_ne (hnd b (List.mem_append_right _ (by simpa using hb)))
    rw [set_same e2] at h0'
    have hlt : i < ρ.length := by
      rcases Nat.lt_or_ge i ρ.length with z | z
      · exact z
      · rw [List.getElem?_eq_none z] at e; cases e
    obtain ⟨o2, l2, f2, r2, e12, e22, h12, k2⟩ := h0'.at (i := i) (s := .un) (by rw [List.getElem?_set_self hlt])
    have : f2 = [] := by cases h12; rfl
    subst this
    have h3 := k2 (some v) _ f' (kk F (upd H a o) z' d' f' q')
    rw [set_same e2, List.set_set] at h3
    refine ⟨F, fb, _, g1.cnt fun b => ?_, h2.mono Le.rfl fun b hb => upd_ne (hnd b (List.mem_append_left _ hb)), h3⟩
    have c1 := hc b
    have c2 : (l ++ ([] ++ r)).count b = (l2 ++ ([] ++ r2)).count b := by rw [e12]
    simp only [List.count_append, List.count_nil] at c1 c2 ⊢
    omega
theorem putF_new {n : Str} {y : V} : ∀ {fs : List (Str × V)}, n ∉ fs.map (·.1) → putF n y fs = fs ++ [(n, y)]
  | [], _ => rfl
  | (k, x) :: fs, h => by
    have hk : k ≠ n := fun z => h (by rw [z]; simp)
    unfold putF
    rw [if_neg hk, putF_new fun z => h (List.mem_cons_of_mem _ z)]
    rfl
theorem OwnF.app {ss ss' : List Sh} {vs vs' : List V} {ds ds' : List D} {fp fp' : List Addr} (h : OwnF K F H ss vs ds fp) (h' : OwnF K F H ss' vs' ds' fp') : OwnF K F H (ss ++ ss') (vs ++ vs') (ds ++ ds') (fp ++ fp') := by
  match h with
  | .nil => exact h'
  | .cons q r => rw [List.append_assoc]; exact .cons q (OwnF.app r h')
theorem OwnF.len : ∀ {ss : List Sh} {vs : List V} {ds : List D} {fp : List Addr}, OwnF K F H ss vs ds fp → vs.length = ds.length ∧ ss.length = ds.length
  | _, _, _, _, .nil => ⟨rfl, rfl⟩
  | _, _, _, _, .cons _ r => by
    obtain ⟨a, b⟩ := OwnF.len r
    exact ⟨by simp [a], by simp [b]⟩
/-- a value to be stored: its shape, its data -/
def Sl.part : Sl → Option (Sh × D)
  | .sh d => some (.fr, d)
  | .ow z d => some (z, d)
  | _ => none
theorem SlV.part {o : Option V} {s : Sl} {f : List Addr} {z : Sh} {d : D} (h : SlV K F H o s f) (e : s.part = some (z, d)) : ∃ v, o = some v ∧ Own K F H z v d f := by
  cases h with
  | sh r => cases e; exact ⟨_, rfl, .fr r⟩
  | ow r => cases e; exact ⟨_, rfl, r⟩
  | _ => cases e
/-- self.n = v, n the next attribute (the j-th) of the class c -/
def fldNew (c j i : Nat) (s : Sl) : M Unit := match s.part with
  | some (z', d') => atOwn i fun s0 z d => ⟨fun ρ Q _ => match z, d with
    | .oo ss, .obj c' ds => match Nat.beq c' c, Nat.beq ds.length j with
      | true, true => Q () (ρ.set i (s0.put (.oo (ss ++ [z'])) (.obj c' (ds ++ [d']))))
      | _, _ => False
    | _, _ => False, fun {ρ Q Q' E E'} h h' w => by
      revert w
      split
      · split
        · exact fun w => h _ _ w
        · exact id
      · exact id⟩
  | none => M.stuck
def sFldN (c j i : Nat) (v : ME) : MS := ⟨fun ρ M => v.wp ρ (fun s r => (fldNew c j i s).wp r (fun _ r' => M.nx r') (fun _ _ => False)) M.ex, fun h w => v.mono (fun s r z => (fldNew c j i s).mono (fun _ r' q => h.nx r' q) (fun _ _ q => q) z) h.ex w⟩
theorem zFldN {c j i : Nat} {n : Str} (cl : Cls K (He.ga K (cn c))) (na : NoAttr K (He.ga K (cn c)) n) (hj : (cf c)[j]? = some n) (hn : n ∉ (cf c).take j) (hs : j < 1000) (hv : EOk K W tv mv) : SOk K W (sFld K (tVar i) tv n) (sFldN c j i mv) := fun G H σ ρ τ δ D M h hi w =>
  hv G H σ ρ τ δ _ h (mv.mono (fun s ρ1 w1 y H1 h1 => by
    unfold fldNew at w1
    split at w1
    · rename_i z' d' ep
      obtain ⟨s0, z, d, e0, eo, w2⟩ := atOwn_go w1
      simp only at w2
      split at w2
      · rename_i ss c' ds
        have w3 : c' = c ∧ ds.length = j ∧ M.nx (ρ1.set i (s0.put (.oo (ss ++ [z'])) (.obj c' (ds ++ [d'])))) := by
          split at w2
          · rename_i g1 g2
            exact ⟨Nat.eq_of_beq_eq_true g1, Nat.eq_of_beq_eq_true g2, w2⟩
          · exact w2.elim
        obtain ⟨rfl, rfl, q⟩ := w3
        obtain ⟨F, f0, v, f, q0, hl, e1, qo, hdis, hfn, k⟩ := h1.own1 e0 eo
        obtain ⟨y', ey, qy⟩ := q0.part ep
        cases ey
        cases qo with
        | @oo _ a dx _ fs _ fp ha hdx hnm hof =>
          have hlen : fs.length = ds.length := by have := hof.len.1; rwa [List.length_map] at this
          have hnn : n ∉ fs.map (·.1) := by rw [hnm]; exact hn
          refine ⟨_, e1, a, _, dx, fs, rfl, ha, cl, na, by omega, hi.nx _ _ _ ?_ q⟩
          rw [putF_new hnn]
          refine k a _ _ _ (a :: dx :: (fp ++ f0)) (by simp) ?_ (fun b => by simp only [List.count_append, List.count_cons]; omega)
          have hadx : dx ≠ a := fun z => by rw [z, ha] at hdx; cases hdx
          have hfp : ∀ b ∈ fp, b ≠ a := fun b hb eb => (List.nodup_cons.mp hfn).1 (by rw [← eb]; exact List.mem_cons_of_mem _ hb)
          refine .oo (fs := fs ++ [(n, y)]) upd_same (by rw [upd_ne hadx]; exact hdx) ?_ ?_
          · rw [List.map_append, hnm, List.length_append, List.length_singleton]
            show _ ++ [n] = _
            rw [List.take_add_one, hj]
            rfl
          · rw [List.map_append]
            refine OwnF.app (hof.mono Le.rfl fun b hb => upd_ne (hfp b hb)) ?_
            have := OwnF.cons (qy.mono Le.rfl (H' := upd H1 a (.ins (He.ga K (cn c')) dx (fs ++ [(n, y)]))) fun b hb => upd_ne fun z => hdis a (by simp) (by rw [← z]; exact hb)) (.nil (K := K) (F := F))
            rw [List.append_nil] at this
            exact this
      · exact w2.elim
    · exact w1.elim) (fun e ρ' z => hi.ex σ e ρ' z) w)
/-! ### reading without owning: all is shared for a while, the answer holds nothing of it -/
mutual
/-- no address is within -/
def Sh.clean : Sh → D → Bool
  | .fr, d => d.flat
  | .ol s, .lst ds => Sh.cleanL s ds
  | .oo ss, .obj _ ds => Sh.cleanF ss ds
  | .ot ss, .tup ds => Sh.cleanF ss ds
  | _, _ => false
def Sh.cleanL : Sh → List D → Bool
  | _, [] => true
  | s, d :: ds => Sh.clean s d && Sh.cleanL s ds
def Sh.cleanF : List Sh → List D → Bool
  | [], [] => true
  | s :: ss, d :: ds => Sh.clean s d && Sh.cleanF ss ds
  | _, _ => false
end
theorem Rep.flatAny {v : V} {d : D} {F' : Hp} (h : Rep K F v d) (f : d.flat = true) : Rep K F' v d := by
  cases h with
  | non => exact .non
  | bl b => exact .bl b
  | int i => exact .int i
  | str x => exact .str x
  | _ => cases f
mutual
theorem Own.clean {F' : Hp} : ∀ {z : Sh} {v : V} {d : D} {fp : List Addr}, Own K F H z v d fp → Sh.clean z d = true → Own K F' H z v d fp
  | _, _, _, _, .fr r, e => .fr (r.flatAny (by unfold Sh.clean at e; exact e))
  | _, _, _, _, .ol h r, e => .ol h (OwnL.clean r (by unfold Sh.clean at e; exact e))
  | _, _, _, _, .od h r, e => by unfold Sh.clean at e; cases e
  | _, _, _, _, .ot h r, e => .ot h (OwnF.clean r (by unfold Sh.clean at e; exact e))
  | _, _, _, _, .oo h h' n r, e => .oo h h' n (OwnF.clean r (by unfold Sh.clean at e; exact e))
theorem OwnL.clean {F' : Hp} : ∀ {z : Sh} {v : List V} {d : List D} {fp : List Addr}, OwnL K F H z v d fp → Sh.cleanL z d = true → OwnL K F' H z v d fp
  | _, _, _, _, .nil, _ => .nil
  | _, _, _, _, .cons h r, e => by
    unfold Sh.cleanL at e
    rw [Bool.and_eq_true] at e
    exact .cons (Own.clean h e.1) (OwnL.clean r e.2)
theorem OwnF.clean {F' : Hp} : ∀ {z : List Sh} {v : List V} {d : List D} {fp : List Addr}, OwnF K F H z v d fp → Sh.cleanF z d = true → OwnF K F' H z v d fp
  | _, _, _, _, .nil, _ => .nil
  | _, _, _, _, .cons h r, e => by
    unfold Sh.cleanF at e
    rw [Bool.and_eq_true] at e
    exact .cons (Own.clean h e.1) (OwnF.clean r e.2)
end
def Sl.clean : Sl → Bool
  | .sh d => d.flat
  | .ow z d => Sh.clean z d
  | _ => false
theorem SlV.clean {F' : Hp} {o : Option V} {s : Sl} {f : List Addr} (h : SlV K F H o s f) (e : s.clean = true) : SlV K F' H o s f := by
  cases h with
  | sh r => exact .sh (r.flatAny e)
  | ow r => exact .ow (r.clean e)
  | _ => cases e
/-- seen as shared -/
def Sl.bz : Sl → Sl
  | .ow _ d => .sh d
  | .le _ _ d => .sh d
  | .sh d => .sh d
  | _ => .un
theorem SlV.bz {F' : Hp} {o : Option V} {s : Sl} {fp : List Addr} (l : Le F F') (e : ∀ a ∈ fp, F' a = H a) (h : SlV K F H o s fp) : SlV K F' H o s.bz [] := by
  cases h with
  | sh r => exact .sh (r.mono l)
  | ow r => exact .sh (r.fz l e)
  | le r => exact .sh (r.fz l e)
  | _ => exact .un
theorem Slots.bz {F' : Hp} {fp : List Addr} (l : Le F F') (e : ∀ a ∈ fp, F' a = H a) (h : Slots K F H σ ρ fp) : Slots K F' H σ (ρ.map Sl.bz) [] := by
  induction h with
  | nil => exact .nil
  | cons h r ih => exact .cons (f := []) (h.bz l fun a ha => e a (List.mem_append_left _ ha)) (ih fun a ha => e a (List.mem_append_right _ ha))
def mBor (m : ME) : ME := ⟨fun ρ Q E => m.wp (ρ.map Sl.bz) (fun s _ => s.clean = true ∧ Q s ρ) (fun er _ => er.d.flat = true ∧ E er ρ), fun h h' w => m.mono (fun s r z => ⟨z.1, h _ _ z.2⟩) (fun er r z => ⟨z.1, h' _ _ z.2⟩) w⟩
theorem eBor {t : TE} (ht : EOk K W t ma) : EOk K W t (mBor ma) := fun G H σ ρ τ δ Q h w => by
  obtain ⟨F, f1, f2, g, hτ, hs⟩ := h
  have hf : ∀ a ∈ f1 ++ f2, F a = none := g.nf
  have l := fzH_le (H := H) hf
  have g' : Good ⟨H, fzH F H (f1 ++ f2), []⟩ (fzH F H (f1 ++ f2)) H ([] ++ []) := ⟨fun a o e => by
    by_cases z : a ∈ f1 ++ f2
    · rw [fzH_in z] at e; exact e
    · rw [fzH_out z] at e; exact g.sub a o e, Le.rfl, fun a e => .inl e, fun a o e _ => e, fun a e => e, fun a ha => (by cases ha), fun a ha => (by cases ha), List.nodup_nil⟩
  have hin : ∀ a ∈ f1 ++ f2, H a ≠ none := fun a ha => by
    rcases List.mem_append.mp ha with z | z
    · exact hτ.here a z
    · exact hs.here a z
  have hR : Rel K ⟨H, fzH F H (f1 ++ f2), []⟩ H σ (ρ.map Sl.bz) τ (δ.map Sl.bz) := ⟨_, [], [], g', hτ.bz l fun a ha => fzH_in (List.mem_append_left _ ha), hs.bz l fun a ha => fzH_in (List.mem_append_right _ ha)⟩
  have back : ∀ (s : Sl) (ρ' : Env) (v : V) (H' : Hp), s.clean = true → Rel K ⟨H, fzH F H (f1 ++ f2), []⟩ H' σ ρ' (some v :: τ) (s :: δ.map Sl.bz) → Rel K G H' σ ρ (some v :: τ) (s :: δ) := fun s ρ' v H' hc hr => by
    obtain ⟨F', g1, g2, gg, ht, _⟩ := hr
    cases ht with
    | cons q1 q2 =>
      rename_i fa fb
      have hsame : Same H H' := fun a o e => gg.frm a o e (by simp)
      have hn : ∀ a ∈ f1 ++ f2, H' a = H a := fun a ha => by
        cases q : H a with
        | none => exact absurd q (hin a ha)
        | some o => exact hsame _ _ q
      have gn := g.grow (fn := fa) hsame hin (fun a ha => by
        rcases gg.own a (List.mem_append_left _ (List.mem_append_left _ ha)) with z | z
        · cases z
        · exact z) (by
        have := gg.nd
        rw [List.append_assoc] at this
        exact (List.nodup_append.mp this).1)
      rw [← List.append_assoc] at gn
      exact ⟨F, fa ++ f1, f2, gn, .cons (q1.clean hc) (hτ.mono Le.rfl fun a ha => hn a (List.mem_append_left _ ha)), hs.mono Le.rfl fun a ha => hn a (List.mem_append_right _ ha)⟩
  exact ht _ H σ _ τ _ Q hR (ma.mono (fun s ρ' z v H' q => z.2 v H' (back s ρ' v H' z.1 q)) (fun er ρ' z v H' q => z.2 v H' (back (.sh er.d) ρ' v H' z.1 q)) w)
def tBorM (m : MT) : MT := ⟨fun ρ Q E => m.wp (ρ.map Sl.bz) (fun s _ => Q s ρ) (fun er _ => er.d.flat = true ∧ E er ρ), fun h h' w => m.mono (fun s r z => h _ _ z) (fun er r z => ⟨z.1, h' _ _ z.2⟩) w⟩
theorem tBor {t : TT} (ht : TOk K W t mA) : TOk K W t (tBorM mA) := fun G H σ ρ τ δ Q h w => by
  obtain ⟨F, f1, f2, g, hτ, hs⟩ := h
  have hf : ∀ a ∈ f1 ++ f2, F a = none := g.nf
  have l := fzH_le (H := H) hf
  have g' : Good ⟨H, fzH F H (f1 ++ f2), []⟩ (fzH F H (f1 ++ f2)) H ([] ++ []) := ⟨fun a o e => by
    by_cases z : a ∈ f1 ++ f2
    · rw [fzH_in z] at e; exact e
    · rw [fzH_out z] at e; exact g.sub a o e, Le.rfl, fun a e => .inl e, fun a o e _ => e, fun a e => e, fun a ha => (by cases ha), fun a ha => (by cases ha), List.nodup_nil⟩
  have hin : ∀ a ∈ f1 ++ f2, H a ≠ none := fun a ha => by
    rcases List.mem_append.mp ha with z | z
    · exact hτ.here a z
    · exact hs.here a z
  have hR : Rel K ⟨H, fzH F H (f1 ++ f2), []⟩ H σ (ρ.map Sl.bz) τ (δ.map Sl.bz) := ⟨_, [], [], g', hτ.bz l fun a ha => fzH_in (List.mem_append_left _ ha), hs.bz l fun a ha => fzH_in (List.mem_append_right _ ha)⟩
  have back : ∀ (s : Sl) (ρ' : Env) (v : V) (H' : Hp), s.clean = true → Rel K ⟨H, fzH F H (f1 ++ f2), []⟩ H' σ ρ' (some v :: τ) (s :: δ.map Sl.bz) → Rel K G H' σ ρ (some v :: τ) (s :: δ) := fun s ρ' v H' hc hr => by
    obtain ⟨F', g1, g2, gg, ht, _⟩ := hr
    cases ht with
    | cons q1 q2 =>
      rename_i fa fb
      have hsame : Same H H' := fun a o e => gg.frm a o e (by simp)
      have hn : ∀ a ∈ f1 ++ f2, H' a = H a := fun a ha => by
        cases q : H a with
        | none => exact absurd q (hin a ha)
        | some o => exact hsame _ _ q
      have gn := g.grow (fn := fa) hsame hin (fun a ha => by
        rcases gg.own a (List.mem_append_left _ (List.mem_append_left _ ha)) with z | z
        · cases z
        · exact z) (by
        have := gg.nd
        rw [List.append_assoc] at this
        exact (List.nodup_append.mp this).1)
      rw [← List.append_assoc] at gn
      exact ⟨F, fa ++ f1, f2, gn, .cons (q1.clean hc) (hτ.mono Le.rfl fun a ha => hn a (List.mem_append_left _ ha)), hs.mono Le.rfl fun a ha => hn a (List.mem_append_right _ ha)⟩
  exact ht _ H σ _ τ _ Q hR (mA.mono (fun s ρ' z H' q => z H' ((back (.sh .non) ρ' .non H' rfl (q.push rfl)).pop)) (fun er ρ' z v H' q => z.2 v H' (back (.sh er.d) ρ' v H' z.1 q)) w)
/-! ### isinstance -/
/-- the built-in types of data -/
inductive BT where
  | non | bl | int | str | lst | tup | dic
def BT.nm : BT → String
  | .non => "NoneType" | .bl => "bool" | .int => "int" | .str => "str" | .lst => "list" | .tup => "tuple" | .dic => "dict"
def D.bty : D → Option BT
  | .non => some .non
  | .bl _ => some .bl
  | .int _ => some .int
  | .str _ => some .str
  | .lst _ => some .lst
  | .tup _ => some .tup
  | .dic _ => some .dic
  | .dil _ => some .dic
  | _ => none
theorem Rep.ty {v : V} {d : D} {s : BT} (h : Rep K F v d) (l : Le F H) (e : d.bty = some s) : TyX K H v (.type s.nm) := by
  cases h with
  | non => cases e; exact .base .non
  | bl b => cases e; exact .base (.bl b)
  | int i => cases e; exact .base (.int i)
  | str x => cases e; exact .base (.str x)
  | lst h r => cases e; exact .base (.lst (l _ _ h))
  | tup h r =>
    cases e
    rcases h with (h | ⟨o, h⟩) | ⟨o, its, n, h1, h2, _⟩
    · exact .base (.tup (l _ _ h))
    · exact .fTuple (l _ _ h)
    · exact .kTuple h1 h2
  | dic h r => cases e; exact .base (.dK (l _ _ h))
  | dil h r => cases e; exact .fDict (l _ _ h)
  | _ => cases e
/-- isinstance(x, T), T built in -/
def isB : BT → BT → Bool
  | .non, .non => true | .bl, .bl => true | .int, .int => true | .int, .bl => true | .str, .str => true | .lst, .lst => true | .tup, .tup => true | .dic, .dic => true
  | _, _ => false
def dIsi (T : BT) (d : D) : Option D := match d.bty with
  | some s => some (.bl (isB T s))
  | none => none
theorem kit_all (T s : BT) : kitB s.nm T.nm = some (isB T s) := by
  cases T <;> cases s <;> decide +kernel
theorem eIsi {T : BT} (ha : EOk K W ta ma) : EOk K W (tCB (rIsi K) (tCons ta (tCons (tC (.ty T.nm)) tNil))) (mUn (op1 (dIsi T)) ma) := fun G H σ ρ τ δ Q h w =>
  ha G H σ ρ τ δ _ h (ma.mono (fun s1 ρ1 w1 v1 H1 h1 => by
    obtain ⟨a, d, rfl, e, q⟩ := op1_go w1
    obtain ⟨F, r, z⟩ := h1.top
    unfold dIsi at e
    split at e
    · rename_i s es
      cases e
      exact ⟨_, _, _, _, _, rfl, .ty T.nm, r.ty z.le es, kit_ty (kit_all T s), q _ _ (h1.pop.push rfl)⟩
    · cases e) (fun _ _ z => z) w)
/-- isinstance(x, C), C an own class: by a table of classes and of built-in types -/
def dIsO (own : Nat → Option Bool) (blt : BT → Option Bool) : D → Option D
  | .obj c _ => match own c with
    | some b => some (.bl b)
    | none => none
  | d => match d.bty with
    | some s => match blt s with
      | some b => some (.bl b)
      | none => none
    | none => none
theorem eIsO {c0 : Nat} {own : Nat → Option Bool} {blt : BT → Option Bool} (ho : ∀ c b, own c = some b → PySem.W.kitOne K (.ref (He.ga K (cn c))) (.ref (He.ga K (cn c0))) = some b ∧ Cls K (He.ga K (cn c)) ∧ OpM.InsT K (He.ga K (cn c))) (hb : ∀ s b, blt s = some b → PySem.W.kitOne K (.type s.nm) (.ref (He.ga K (cn c0))) = some b) (ha : EOk K W ta ma) :
    EOk K W (tCB (rIsi K) (tCons ta (tCons (tC (.ref (He.ga K (cn c0)))) tNil))) (mUn (op1 (dIsO own blt)) ma) := fun G H σ ρ τ δ Q h w =>
  ha G H σ ρ τ δ _ h (ma.mono (fun s1 ρ1 w1 v1 H1 h1 => by
    obtain ⟨a, d, rfl, e, q⟩ := op1_go w1
    obtain ⟨F, r, z⟩ := h1.top
    unfold dIsO at e
    split at e
    · rename_i c fs
      split at e
      · rename_i b hb'
        cases e
        obtain ⟨k1, k2, k3⟩ := ho c b hb'
        cases r with
        | obj g1 g2 g3 g4 => exact ⟨_, _, _, _, _, rfl, .own _, k3.ty k2 (z.le _ _ g1), k1, q _ _ (h1.pop.push rfl)⟩
      · cases e
    · split at e
      · rename_i s es
        split at e
        · rename_i b hb'
          cases e
          exact ⟨_, _, _, _, _, rfl, .own _, r.ty z.le es, hb s b hb', q _ _ (h1.pop.push rfl)⟩
        · cases e
      · cases e) (fun _ _ z => z) w)
end
end Dl
namespace Dl
open PySem PySem.Spec PyProof.Rows L2
/-! ### operators of own classes -/
def calm {α : Type} (m : M α) : M α := ⟨fun ρ Q _ => m.wp ρ Q fun _ _ => False, fun h _ w => m.mono h (fun _ _ z => z) w⟩
/-- which operands are known: own classes, built-in types -/
structure Knows where
  own : Nat → Bool
  blt : BT → Bool
def Knows.is (T : Knows) : D → Bool
  | .obj c _ => T.own c
  | d => match d.bty with
    | some s => T.blt s
    | none => false
structure Knows.Ok (K : PySem.W.Frag) (C : Addr) (T : Knows) : Prop where
  own : ∀ c, T.own c = true → PySem.W.notFirst K C (.ref (He.ga K (cn c))) = true ∧ Cls K (He.ga K (cn c)) ∧ OpM.InsT K (He.ga K (cn c))
  blt : ∀ s, T.blt s = true → PySem.W.notFirst K C (.type s.nm) = true
section
variable {K : PySem.W.Frag} {W W' : WS} {ta tb tc te tn tv : TE} {ma mb mc me mn mv : ME} {G : Ent} {F H H' : Hp} {σ τ : L2.St} {ρ : Env} {δ : List Sl}
theorem Knows.Ok.ty {C : Addr} {T : Knows} (k : T.Ok K C) {v : V} {d : D} (h : Rep K F v d) (l : Le F H) (e : T.is d = true) : ∃ t, TyX K H v t ∧ PySem.W.notFirst K C t = true := by
  unfold Knows.is at e
  split at e
  · obtain ⟨k1, k2, k3⟩ := k.own _ e
    cases h with
    | obj g1 g2 g3 g4 => exact ⟨_, k3.ty k2 (l _ _ g1), k1⟩
  · split at e
    · rename_i s es
      exact ⟨_, h.ty l es, k.blt s e⟩
    · cases e
def opOwn (c : Nat) (T : Knows) (ds : M Sl) : Sl → Sl → ME
  | .sh (.obj c' fs), .sh d => if c' = c ∧ T.is d = true then calm (callM ds [] [.s (.sh (.obj c' fs)), .s (.sh d)]) else M.stuck
  | _, _ => M.stuck
theorem opOwn_go {c : Nat} {T : Knows} {ds : M Sl} {s1 s2 : Sl} {Q : Sl → Env → Prop} {E : Er → Env → Prop} (w : (opOwn c T ds s1 s2).wp ρ Q E) : ∃ fs d, s1 = .sh (.obj c fs) ∧ s2 = .sh d ∧ T.is d = true ∧ (callM ds [] [.s (.sh (.obj c fs)), .s (.sh d)]).wp ρ Q (fun _ _ => False) := by
  unfold opOwn at w
  split at w
  · split at w
    · rename_i h
      obtain ⟨rfl, h2⟩ := h
      exact ⟨_, _, rfl, rfl, h2, w⟩
    · exact w.elim
  · exact w.elim
theorem own_args {x y : V} {s1 s2 : Sl} (h : Rel K G H σ ρ (some y :: some x :: τ) (s2 :: s1 :: δ)) : Ags σ [x, y] [.s s1, .s s2] [some x, some y] [s1, s2] ∧ Rel K G H σ ρ ([some x, some y] ++ τ) ([s1, s2] ++ δ) := ⟨.s (.s .nil), h.swap⟩
theorem r_eqO {c : Nat} {T : Knows} {ds : M Sl} (hT : T.Ok K (He.ga K (cn c))) : R2Ok K (OpM.rCmp K (He.ga K (cn c)) (fun vs H Q E => spOf K ds (vs ++ []) H Q E)) (opOwn c T ds) := by
  intro G H σ ρ τ δ x y s1 s2 Q E hr w
  obtain ⟨fs, d, rfl, rfl, ht, w⟩ := opOwn_go w
  obtain ⟨F, r1, r2, z⟩ := hr.top2
  obtain ⟨t, h1, h2⟩ := hT.ty r2 z.le ht
  obtain ⟨a1, a2⟩ := own_args hr
  have core := callCore (dvs := []) (dv := []) (X := fun _ _ _ => False) a1 a2 (fun _ => .nil) (fun _ _ z => z.elim) w
  cases r1 with
  | obj g1 g2 g3 g4 => exact ⟨_, _, _, t, rfl, z.le _ _ g1, h1, h2, core⟩
/-- != by == -/
def opNe (c : Nat) (T : Knows) (ds : M Sl) : Sl → Sl → ME := fun s1 s2 => (opOwn c T ds s1 s2).bind fun r => match r with
  | .sh (.bl b) => M.ret (.sh (.bl (!b)))
  | _ => M.stuck
theorem r_neO {c : Nat} {T : Knows} {ds : M Sl} (hT : T.Ok K (He.ga K (cn c))) : R2Ok K (OpM.rCmpN K (He.ga K (cn c)) (fun vs H Q E => spOf K ds (vs ++ []) H Q E)) (opNe c T ds) := by
  intro G H σ ρ τ δ x y s1 s2 Q E hr w
  obtain ⟨fs, d, rfl, rfl, ht, w⟩ := opOwn_go w
  obtain ⟨F, r1, r2, z⟩ := hr.top2
  obtain ⟨t, h1, h2⟩ := hT.ty r2 z.le ht
  obtain ⟨a1, a2⟩ := own_args hr
  have core := callCore (dvs := []) (dv := []) (X := fun _ _ _ => False) (Q := fun v H' => ∃ r, v = .bl r ∧ Q (.bl (!r)) H') a1 a2 (fun _ => .nil) (fun _ _ z => z.elim) ((callM ds [] _).mono (fun s ρ' w v H' hq => by
    simp only at w
    split at w
    · rename_i b
      obtain rfl := hq.topv (u := .bl b) rfl
      exact ⟨b, rfl, w _ _ (hq.pop.push rfl)⟩
    · exact w.elim) (fun _ _ z => z) w)
  cases r1 with
  | obj g1 g2 g3 g4 => exact ⟨_, _, _, t, rfl, z.le _ _ g1, h1, h2, core⟩
/-- ~x -/
def opUn (c : Nat) (ds : M Sl) : Sl → ME
  | .sh (.obj c' fs) => if c' = c then calm (callM ds [] [.s (.sh (.obj c' fs))]) else M.stuck
  | _ => M.stuck
theorem opUn_go {c : Nat} {ds : M Sl} {s1 : Sl} {Q : Sl → Env → Prop} {E : Er → Env → Prop} (w : (opUn c ds s1).wp ρ Q E) : ∃ fs, s1 = .sh (.obj c fs) ∧ (callM ds [] [.s (.sh (.obj c fs))]).wp ρ Q (fun _ _ => False) := by
  unfold opUn at w
  split at w
  · split at w
    · rename_i h
      subst h
      exact ⟨_, rfl, w⟩
    · exact w.elim
  · exact w.elim
theorem r_unO {c : Nat} {ds : M Sl} : R1Ok K (fun x H Q => ∃ p dx fs, x = .ref p ∧ H p = some (.ins (He.ga K (cn c)) dx fs) ∧ (fun vs H Q E => spOf K ds (vs ++ []) H Q E) [x] H Q (fun _ _ _ => False)) (opUn c ds) := by
  intro G H σ ρ τ δ x s1 Q E hr w
  obtain ⟨fs, rfl, w2⟩ := opUn_go w
  clear w
  obtain ⟨F, r1, z⟩ := hr.top
  have core := callCore (dvs := []) (dv := []) (X := fun _ _ _ => False) (.s .nil) hr (fun _ => .nil) (fun _ _ z => z.elim) w2
  cases r1 with
  | obj g1 g2 g3 g4 => exact ⟨_, _, _, rfl, z.le _ _ g1, core⟩
/-- str(x), repr(x) -/
def opTxt (c : Nat) (ds : M Sl) : Sl → ME := fun s => (opUn c ds s).bind fun r => match r with
  | .sh (.str t) => M.ret (.sh (.str t))
  | _ => M.stuck
theorem c_txt {c : Nat} {ds : M Sl} : R1Ok K (fun x H Q => OpM.rTxt (He.ga K (cn c)) (fun vs H Q E => spOf K ds (vs ++ []) H Q E) [x] H Q) (opTxt c ds) := by
  intro G H σ ρ τ δ x s1 Q E hr w
  obtain ⟨fs, rfl, w2⟩ := opUn_go w
  clear w
  obtain ⟨F, r1, z⟩ := hr.top
  have core := callCore (dvs := []) (dv := []) (X := fun _ _ _ => False) (Q := fun v H' => (∃ t, v = .str t) ∧ Q v H') (.s .nil) hr (fun _ => .nil) (fun _ _ z => z.elim) ((callM ds [] _).mono (fun s ρ' w v H' hq => by
    simp only at w
    split at w
    · rename_i t
      have hv := hq.topv (u := .str t) rfl
      exact ⟨⟨t, hv⟩, w _ _ hq⟩
    · exact w.elim) (fun _ _ z => z) w2)
  cases r1 with
  | obj g1 g2 g3 g4 => exact ⟨_, _, _, rfl, z.le _ _ g1, core⟩
/-- x + y -/
def mBin (c : Nat) (ds : M Sl) (a b : ME) : ME := a.bind fun s1 => b.bind fun s2 => match s1, s2 with
  | .sh (.obj c1 f1), .sh (.obj c2 f2) => if c1 = c ∧ c2 = c then callM ds [] [.s (.sh (.obj c1 f1)), .s (.sh (.obj c2 f2))] else M.stuck
  | _, _ => M.stuck
theorem eBin {c : Nat} {ds : M Sl} (ha : EOk K W ta ma) (hb : EOk K W tb mb) : EOk K W (OpM.tBin (He.ga K (cn c)) (fun vs H Q E => spOf K ds (vs ++ []) H Q E) W ta tb) (mBin c ds ma mb) := fun G H σ ρ τ δ Q h w =>
  ha G H σ ρ τ δ _ h (ma.mono (fun s1 ρ1 w1 v1 H1 h1 => hb G H1 σ ρ1 _ _ _ h1 (mb.mono (fun s2 ρ2 w2 v2 H2 h2 => by
    simp only at w2
    split at w2
    · split at w2
      · rename_i hc
        obtain ⟨rfl, rfl⟩ := hc
        obtain ⟨F, r1, r2, z⟩ := h2.top2
        obtain ⟨a1, a2⟩ := own_args h2
        have core := callCore (dvs := []) (dv := []) a1 a2 (fun _ => .nil) (fun _ _ z => z) w2
        cases r1 with
        | obj g1 g2 g3 g4 =>
          cases r2 with
          | obj k1 k2 k3 k4 => exact ⟨_, _, _, _, _, _, rfl, z.le _ _ g1, rfl, z.le _ _ k1, core⟩
      · exact w2.elim
    · exact w2.elim) (fun e ρ' z v H' q => z v H' q.drop2) w1)) (fun _ _ z => z) w)
/-! ### texts with places -/
def fmtM : Sl → ME := fun s => ⟨fun ρ Q _ => match s with
  | .sh (.str y) => y.length ≤ sizeLine ∧ Q (.sh (.str y)) ρ
  | .sh (.int i) => i.natAbs.log2 < 1920 ∧ Q (.sh (.str (toString i))) ρ
  | _ => False, fun {ρ Q Q' E E'} h _ w => by
    revert w
    split
    · exact fun w => ⟨w.1, h _ _ w.2⟩
    · exact fun w => ⟨w.1, h _ _ w.2⟩
    · exact id⟩
def mFmt (a : ME) : ME := a.bind fmtM
theorem eFmt (ha : EOk K W ta ma) : EOk K W (tFmt ta) (mFmt ma) := fun G H σ ρ τ δ Q h w =>
  ha G H σ ρ τ δ _ h (ma.mono (fun s1 ρ1 w1 v1 H1 h1 => by
    unfold fmtM at w1
    simp only at w1
    split at w1
    · rename_i y
      obtain rfl := h1.topv (u := .str y) rfl
      exact .inl ⟨y, rfl, w1.1, w1.2 _ _ (h1.pop.push rfl)⟩
    · rename_i i
      obtain rfl := h1.topv (u := .int i) rfl
      exact .inr ⟨i, rfl, w1.1, w1.2 _ _ (h1.pop.push rfl)⟩
    · exact w1.elim) (fun _ _ z => z) w)
def jsM : List ME → Str → ME
  | [], acc => M.ret (.sh (.str acc))
  | m :: ms, acc => m.bind fun s => ⟨fun ρ Q E => match s with
    | .sh (.str y) => (acc ++ y).length ≤ sizeLine ∧ (jsM ms (acc ++ y)).wp ρ Q E
    | _ => False, fun {ρ Q Q' E E'} h h' w => by
      revert w
      split
      · exact fun w => ⟨w.1, (jsM ms _).mono h h' w.2⟩
      · exact id⟩
inductive JOk (K : PySem.W.Frag) (W : WS) : List TE → List ME → Prop
  | nil : JOk K W [] []
  | cons {t : TE} {m : ME} {ts : List TE} {ms : List ME} : EOk K W t m → JOk K W ts ms → JOk K W (t :: ts) (m :: ms)
theorem js_go {ts : List TE} {ms : List ME} (h : JOk K W ts ms) : ∀ (acc : Str) (G : Ent) (H : Hp) (σ : L2.St) (ρ : Env) (τ : L2.St) (δ : List Sl) (Q : VK), Rel K G H σ ρ τ δ → (jsM ms acc).wp ρ (fun s ρ' => ∀ v H', Rel K G H' σ ρ' (some v :: τ) (s :: δ) → Q v H') (exQ K W G σ τ δ) → tJs ts acc σ H fun out H1 => Q (.str out) H1 := by
  induction h with
  | nil => exact fun acc G H σ ρ τ δ Q h w => w _ _ (h.push rfl)
  | @cons t m ts ms h1 h2 ih =>
    intro acc G H σ ρ τ δ Q h w
    refine h1 G H σ ρ τ δ _ h (m.mono (fun s ρ1 w1 v H1 h1 => ?_) (fun _ _ z => z) w)
    simp only at w1
    split at w1
    · rename_i y
      obtain rfl := h1.topv (u := .str y) rfl
      exact ⟨y, rfl, w1.1, ih _ G H1 σ ρ1 τ δ Q h1.pop w1.2⟩
    · exact w1.elim
theorem eJs {ts : List TE} {ms : List ME} (h : JOk K W ts ms) : EOk K W (fun σ H Q => tJs ts Str.empty σ H fun out H1 => Q (.str out) H1) (jsM ms Str.empty) := fun G H σ ρ τ δ Q hr w => js_go h _ G H σ ρ τ δ Q hr w
/-- C.NAME -/
theorem eCVal {C : Addr} {mc : Value} {f : Str} {d : D} {v : V} (r : ClX.CRead K C mc) (c : ∃ u, ClX.CVal K C mc f v u) (e : d.val = some v := by rfl) : EOk K W (ClX.tCVal K (tC (.ref C)) f) (mC d) := fun G H σ ρ τ δ Q h w => by
  obtain ⟨u, c⟩ := c
  exact ⟨C, mc, v, u, rfl, r, c, w _ _ (h.push e)⟩
/-- a class as a value, a built-in name -/
theorem eGlo {v : V} {t : TE} (e : t = tC v) {d : D} (h : d.val = some v := by rfl) : EOk K W t (mC d) := by
  subst e
  exact eC h
/-- n.bit_length() -/
def dBits : D → Option D
  | .int i => some (.int (Builtin.Int.intBits i : Nat))
  | _ => none
theorem eBits (ha : EOk K W ta ma) : EOk K W (tBits ta) (mUn (op1 dBits) ma) := fun G H σ ρ τ δ Q h w =>
  ha G H σ ρ τ δ _ h (ma.mono (fun s1 ρ1 w1 v1 H1 h1 => by
    obtain ⟨a, d, rfl, e, q⟩ := op1_go w1
    unfold dBits at e
    split at e
    · rename_i i
      cases e
      obtain rfl := h1.topv (u := .int i) rfl
      exact ⟨i, rfl, q _ _ (h1.pop.push rfl)⟩
    · cases e) (fun _ _ z => z) w)
/-! ### names that may own -/
/-- a name's value; what it owned is shared from now on -/
def mVarF (i : Nat) : ME := ⟨fun ρ Q _ => match ρ[i]? with
  | some (.sh d) => Q (.sh d) ρ
  | some (.ow _ d) => Q (.sh d) (ρ.set i (.sh d))
  | _ => False, fun {ρ Q Q' E E'} h _ w => by
    revert w
    split
    · exact fun w => h _ _ w
    · exact fun w => h _ _ w
    · exact id⟩
theorem eVarF {i : Nat} : EOk K W (tVar i) (mVarF i) := by
  intro G H σ ρ τ δ Q h w
  unfold mVarF at w
  simp only at w
  split at w
  · rename_i d e
    obtain ⟨v, e1, h1⟩ := h.get e
    exact ⟨v, e1, w v H h1⟩
  · rename_i z d e
    have hlt : i < ρ.length := by
      rcases Nat.lt_or_ge i ρ.length with q | q
      · exact q
      · rw [List.getElem?_eq_none q] at e; cases e
    have h1 := h.fzAt e
    obtain ⟨v, e1, h2⟩ := h1.get (i := i) (d := d) (by rw [List.getElem?_set_self hlt]; rfl)
    exact ⟨v, e1, w v H h2⟩
  · exact w.elim
/-- the owned thing moves out of its slot -/
def mMv (i : Nat) : ME := ⟨fun ρ Q _ => match ρ[i]? with
  | some (.ow z d) => Q (.ow z d) (ρ.set i .un)
  | some (.sh d) => Q (.sh d) ρ
  | _ => False, fun {ρ Q Q' E E'} h _ w => by
    revert w
    split
    · exact fun w => h _ _ w
    · exact fun w => h _ _ w
    · exact id⟩
theorem eMv {i : Nat} : EOk K W (tVar i) (mMv i) := by
  intro G H σ ρ τ δ Q h w
  unfold mMv at w
  simp only at w
  split at w
  · rename_i z d e
    obtain ⟨F, f1, f2, g, ht, hs⟩ := h
    obtain ⟨o, l, f, r, e1, e2, h1, k⟩ := hs.at e
    cases h1 with
    | ow q =>
      rename_i v
      refine ⟨v, e2, w v H ?_⟩
      have h3 := k (some v) .un [] .un
      rw [set_same e2] at h3
      subst e1
      exact ⟨F, f ++ f1, _, g.cnt (by intro a; simp only [List.count_append, List.count_nil]; omega), .cons (.ow q) ht, h3⟩
  · rename_i d e
    obtain ⟨v, e1, h1⟩ := h.get e
    exact ⟨v, e1, w v H h1⟩
  · exact w.elim
/-- xs[j], xs an owned list -/
def mIxO (i : Nat) (ix : ME) : ME := isOwnL i (ix.bind fun j => match j with
  | .sh (.int n) => ownL i fun ds => match atI ds n with
    | some d => some (True, ds, .sh d)
    | none => none
  | _ => M.stuck)
theorem eIxO {i : Nat} {ti : TE} {mi : ME} (hi : EOk K W ti mi) : EOk K W (tOp (rIxL K) (tVar i) ti) (mIxO i mi) := fun G H σ ρ τ δ Q h w => by
  obtain ⟨s0, ds0, e0, eo0, w'⟩ := isOwnL_go w
  clear w
  obtain ⟨F, f1, l, vs, ht, hl, e1, hh, rl, kv, k⟩ := h.ownL e0 eo0
  refine ⟨_, e1, hi G H σ ρ _ _ _ h (mi.mono (fun j ρ1 w1 u H1 h1 => ?_) (fun _ _ z => z) w')⟩
  simp only at w1
  split at w1
  · rename_i n
    obtain rfl := h1.topv (u := .int n) rfl
    obtain ⟨s1, ds, p, ds', a, e2, eo, ef, hp, q⟩ := ownL_go w1
    split at ef
    · rename_i d ed
      cases ef
      obtain ⟨F2, f2, l2, vs2, ht2, hl2, e3, hh2, rl2, kv2, k2⟩ := h1.pop.ownL e2 eo
      rw [e1] at e3
      cases e3
      obtain ⟨v, ev, rv⟩ := rl2.atI ed
      refine ⟨l, vs2, n, v, rfl, rfl, SqL.of hh2, ev, q _ _ ?_⟩
      have hput : s1.put (.ol .fr) (.lst ds) = s1 := by
        cases s1 with
        | ow z d => cases eo; rfl
        | le v z d => cases eo; rfl
        | _ => cases eo
      rw [hput, set_same e2]
      exact kv2 v d rv
    · cases ef
  · exact w1.elim
/-- a class in a slot is called -/
def mMakeV (i c : Nat) (ds : M Sl) (dv : List D) (l : MB) : ME := ⟨fun ρ Q E => match ρ[i]? with
  | some (.sh (.cls c')) => c' = c ∧ (mMake c ds dv l).wp ρ Q E
  | _ => False, fun {ρ Q Q' E E'} h h' w => by
    revert w
    split
    · exact fun w => ⟨w.1, (mMake c ds dv l).mono h h' w.2⟩
    · exact id⟩
theorem eMakeV {ds : M Sl} {dv : List D} {dvs : List V} {tl : TA} {ml : MB} {i c : Nat} (hl : BOk K W tl ml) (hd : ∀ F, RepL K F dvs dv) :
    EOk K W (OpM.tMkV i (He.ga K (cn c)) (fun vs H Q E => spOf K ds (vs ++ dvs) H Q E) W tl) (mMakeV i c ds dv ml) := fun G H σ ρ τ δ Q h w => by
  unfold mMakeV at w
  simp only at w
  split at w
  · rename_i c' e
    obtain ⟨rfl, w⟩ := w
    obtain ⟨v, e1, h1⟩ := h.get e
    obtain ⟨F, r, z⟩ := h1.top
    cases r
    exact ⟨e1, eMake hl hd G H σ ρ τ δ Q h w⟩
  · exact w.elim
/-- x(..), x an instance in a slot -/
def mCI (i c : Nat) (ds : M Sl) (dv : List D) (l : MB) : ME := ⟨fun ρ Q E => match ρ[i]? with
  | some (.sh (.obj c' fs)) => match Nat.beq c' c with
    | true => (l.bind fun ags => callM ds dv (.s (.sh (.obj c' fs)) :: ags)).wp ρ Q E
    | false => False
  | _ => False, fun {ρ Q Q' E E'} h h' w => by
    revert w
    split
    · split
      · exact fun w => (l.bind _).mono h h' w
      · exact id
    · exact id⟩
theorem eCI {ds : M Sl} {dv : List D} {dvs : List V} {tl : TA} {ml : MB} {i c : Nat} (hl : BOk K W tl ml) (hd : ∀ F, RepL K F dvs dv) :
    EOk K W (OpM.tCI i (He.ga K (cn c)) (fun vs H Q E => spOf K ds (vs ++ dvs) H Q E) W tl) (mCI i c ds dv ml) := fun G H σ ρ τ δ Q h w => by
  unfold mCI at w
  simp only at w
  split at w
  · rename_i c' fs e
    split at w
    · rename_i hc
      obtain rfl := Nat.eq_of_beq_eq_true hc
      obtain ⟨v, e1, h1⟩ := h.get e
      obtain ⟨F, r, z⟩ := h1.top
      cases r with
      | @obj a dx _ fv _ k1 k2 k3 k4 =>
        refine ⟨a, e1, hl G H σ ρ _ _ _ h1 (ml.mono (fun ags ρ2 w2 vs H2 τs δs ha h2 => ?_) (fun e ρ' z v H' q => z v H' q.drop2) w)⟩
        have h3 := Rel.rot ha.len h2
        refine ⟨?_, callCore (.s ha) h3 hd (fun er ρ' z => z) w2⟩
        obtain ⟨F2, r2, z2⟩ := h3.top
        cases r2 with
        | obj g1 g2 g3 g4 => exact ⟨_, _, z2.le _ _ g1⟩
    · exact w.elim
  · exact w.elim
/-- what is never reached -/
def sNever : MS := ⟨fun _ _ => False, fun _ w => w⟩
theorem zNever : SOk K W tNever sNever := fun G H σ ρ τ δ D M h hi w => w
/-- a power of two written numbers -/
theorem ePow {a b n : Int} (h : CPow a b) (e : a ^ b.toNat = n) : EOk K W (tOp (rI CPow fun i j => .int (i ^ j.toNat)) (tC (.int a)) (tC (.int b))) (mC (.int n)) := fun G H σ ρ τ δ Q hr w => ⟨a, b, rfl, rfl, h, w _ _ (hr.push (by show some (V.int n) = some (V.int (a ^ b.toNat)); rw [e]))⟩
theorem Rel.cls (h : Rel K G H σ ρ τ δ) (c : Nat) : Rel K G H σ ρ (some (.ref (He.ga K (cn c))) :: τ) (.sh (.cls c) :: δ) := by
  obtain ⟨F, f1, f2, g, ht, hs⟩ := h
  exact ⟨F, _, f2, g, .cons (f := []) (.sh (.cls c)) ht, hs⟩
/-- C.m(..), a class method -/
def mCM (c : Nat) (ds : M Sl) (dv : List D) (l : MB) : ME := l.bind fun ags => callM ds dv (.s (.sh (.cls c)) :: ags)
theorem eCM {ds : M Sl} {dv : List D} {dvs : List V} {tl : TA} {ml : MB} {c : Nat} (hl : BOk K W tl ml) (hd : ∀ F, RepL K F dvs dv) :
    EOk K W (OpM.tCM (He.ga K (cn c)) (fun vs H Q E => spOf K ds (vs ++ dvs) H Q E) W (tC (.ref (He.ga K (cn c)))) tl) (mCM c ds dv ml) := fun G H σ ρ τ δ Q h w =>
  ⟨rfl, hl G H σ ρ τ δ _ h (ml.mono (fun ags ρ2 w2 vs H2 τs δs ha h2 => callCore (.s ha) (h2.cls c) hd (fun er ρ' z => z) w2) (fun e ρ' z v H' q => z v H' q) w)⟩
/-- o.m(..), o a slot that is lent -/
def mMethL (i c : Nat) (ds : M Sl) (dv : List D) (l : MB) : ME := atOwn i fun _ z d => match z, d with
  | .oo _, .obj c' _ => if c' = c then l.bind fun ags => callM ds dv (.l i :: ags) else M.stuck
  | _, _ => M.stuck
theorem eMethL {ds : M Sl} {dv : List D} {dvs : List V} {tl : TA} {ml : MB} {i c : Nat} {n : Str} (hn : n ∉ cf c) (hl : BOk K W tl ml) (hd : ∀ F, RepL K F dvs dv) :
    EOk K W (Cl.tM (He.ga K (cn c)) n (fun vs H Q E => spOf K ds (vs ++ dvs) H Q E) W (tVar i) tl) (mMethL i c ds dv ml) := fun G H σ ρ τ δ Q h w => by
  obtain ⟨s, z, d, e, eo, w'⟩ := atOwn_go w
  clear w
  split at w'
  · split at w'
    · rename_i ss c' fs hc
      subst hc
      obtain ⟨F, f1, v, f, ht, hle, e1, q, kv, k⟩ := h.own e eo
      cases q with
      | oo h1 h2 h3 h4 =>
        refine ⟨_, e1, _, _, _, rfl, h1, look_no (by rw [h3]; exact fun z => hn (List.mem_of_mem_take z)), ?_⟩
        exact hl G H σ ρ τ δ _ h (ml.mono (fun ags ρ2 w2 vs H2 τs δs ha h2 => callCore (.l e1 ha) h2 hd (fun er ρ' z => z) w2) (fun _ _ z => z) w')
    · exact w'.elim
  · exact w'.elim
/-- a walk over the one or the other -/
def iOr (a b : MI) : MI := ⟨fun ρ Q E => a.wp ρ Q E ∨ b.wp ρ Q E, fun h h' w => w.elim (fun w => .inl (a.mono h h' w)) (fun w => .inr (b.mono h h' w))⟩
theorem wOr {w1 w2 : TI} {m1 m2 : MI} (h1 : IOk K W w1 m1) (h2 : IOk K W w2 m2) : IOk K W (fun σ H R => w1 σ H R ∨ w2 σ H R) (iOr m1 m2) := fun G H σ ρ τ δ R h w =>
  w.elim (fun w => .inl (h1 G H σ ρ τ δ R h w)) (fun w => .inr (h2 G H σ ρ τ δ R h w))
end
end Dl
/-! ### an attribute as a target -/
namespace OpM
open PySem PySem.Spec PyProof.Rows L2
def gAttr (K : PySem.W.Frag) (to : TE) (f : Str) : TG := fun v σ H Q => to σ H fun x H1 => ∃ a C dx fs, x = .ref a ∧ H1 a = some (.ins C dx fs) ∧ Cls K C ∧ NoAttr K C f ∧ fs.length < 1000 ∧ Q σ (upd H1 a (.ins C dx (putF f v fs)))
theorem pg_attr {X : Cx} {o : Expr} {to : TE} {f : Str} {pos : Pos} (K : PySem.W.Frag) (ho : PE X o to) (hK : X.K = K := by rfl) : PG X (.Attribute o f pos) (gAttr K to f) := by
  subst hK
  refine ⟨fun pins s σ H v u Q I r h => ?_⟩
  rw [PySem.assign_Attribute]
  refine wpAny_bind (wpAny_holding (thn (ho.run pins s σ H _ I h) fun ov s1 ⟨x, H1, I1, r1, q1⟩ => ?_))
  obtain ⟨a, C, dx, fs, ex, ea, c, n, l, q2⟩ := q1
  subst ex
  obtain rfl : ov = Value.ref a := r1
  refine wpAny_bind (wpAny_standAt (wpAny_bind (wpAny_holding (setattr_ok I1 ea c n l r fun s3 I3 => ?_))))
  exact wpAny_release ⟨σ, _, I3, q2⟩
end OpM
namespace Dl
open PySem PySem.Spec PyProof.Rows L2
section
variable {K : PySem.W.Frag} {W W' : WS} {ta tb tc te ti tj tv : TE} {ma mb mc me mi' mj mv : ME} {t u : TS} {m k : MS} {tA tt : TT} {mA mt : MT} {G : Ent} {F H H' : Hp} {σ τ : L2.St} {ρ : Env} {δ : List Sl}
/-- list(range(..)) -/
def mLrg1 (ma : ME) : ME := ma.bind fun s => match s with
    | .sh (.int n) => need (RgOk 0 n) (M.ret (.ow (.ol .fr) (.lst (rgD 0 n.toNat))))
    | _ => M.stuck
theorem eListRg1 (ha : EOk K W ta ma) : EOk K W (tLstRg (tRg1 ta)) (mLrg1 ma) := fun G H σ ρ τ δ Q h w =>
  ha G H σ ρ τ δ _ h (ma.mono (fun s ρ1 w1 v H1 h1 => by
    simp only at w1
    split at w1
    · rename_i n
      obtain rfl := h1.topv (u := .int n) rfl
      refine ⟨n, rfl, w1.1, fun q hq => w1.2 _ _ ?_⟩
      have e : rgV 0 n = ((List.range n.toNat).map fun i => (0 + (i : Nat) : Int)).map V.int := by unfold rgV; rw [List.map_map]; simp
      have e2 : rgD 0 n.toNat = ((List.range n.toNat).map fun i => (0 + (i : Nat) : Int)).map D.int := by unfold rgD; rw [List.map_map]; rfl
      obtain ⟨F, r, z⟩ := h1.top
      refine z.ow _ _ _ _ hq (.ol upd_same ?_)
      rw [e, e2]
      exact (RepL.of_ints _).own
    · exact w1.elim) (fun _ _ z => z) w)
/-! ### attributes of what a slot owns -/
theorem OwnF.get : ∀ {ss : List Sh} {vs : List V} {ds : List D} {fp : List Addr} {i : Nat} {s : Sh}, OwnF K F H ss vs ds fp → ss[i]? = some s → ∃ v d l f r, vs[i]? = some v ∧ ds[i]? = some d ∧ fp = l ++ (f ++ r) ∧ Own K F H s v d f ∧
    ∀ F' H' s' v' d' f', Le F F' → (∀ a ∈ l ++ r, H' a = H a) → Own K F' H' s' v' d' f' → OwnF K F' H' (ss.set i s') (vs.set i v') (ds.set i d') (l ++ (f' ++ r))
  | _, _, _, _, i, s, .nil, e => by cases e
  | _, _, _, _, 0, s, .cons (f := f) (fp := fp) q r, e => by
    cases e
    exact ⟨_, _, [], f, fp, rfl, rfl, rfl, q, fun F' H' s' v' d' f' l hh q' => by
      have := OwnF.cons q' (r.mono l (fun a ha => hh a ha))
      exact this⟩
  | _, _, _, _, i + 1, s, .cons (f := f) (fp := fp) q r, e => by
    obtain ⟨v, d, l, f1, r1, e1, e2, e3, q1, k⟩ := OwnF.get (i := i) r e
    refine ⟨v, d, f ++ l, f1, r1, e1, e2, by rw [e3, List.append_assoc], q1, fun F' H' s' v' d' f' hl hh q' => ?_⟩
    rw [List.append_assoc]
    exact .cons (q.mono hl fun a ha => hh a (by simp [ha])) (k F' H' s' v' d' f' hl (fun a ha => hh a (by
      rcases List.mem_append.mp ha with z | z
      · simp [z]
      · simp [z])) q')
/-- a frozen attribute -/
def mFldO (c j i : Nat) : ME := atOwn i fun _ z d => match z, d with
  | .oo ss, .obj c' ds => match Nat.beq c' c, ss[j]?, ds[j]? with
    | true, some .fr, some d => M.ret (.sh d)
    | _, _, _ => M.stuck
  | _, _ => M.stuck
theorem look_take {fs : List (Str × V)} {c j : Nat} {n : Str} {v : V} {k : Nat} (kn : fs.map (·.1) = (cf c).take k) (hi : (cf c).findIdx? (· == n) = some j) (hv : (fs.map (·.2))[j]? = some v) : fs.lookup n = some v := by
  refine look_at (i := j) kn ?_ hv
  have hlt : j < fs.length := by
    rcases Nat.lt_or_ge j fs.length with z | z
    · exact z
    · rw [List.getElem?_eq_none (by rw [List.length_map]; exact z)] at hv; cases hv
  have hk : fs.length = min k (cf c).length := by
    have := congrArg List.length kn
    rwa [List.length_map, List.length_take] at this
  rw [List.findIdx?_eq_some_iff_getElem] at hi ⊢
  obtain ⟨g1, g2, g3⟩ := hi
  refine ⟨by rw [List.length_take]; omega, by rw [List.getElem_take]; exact g2, fun j hj => ?_⟩
  rw [List.getElem_take]
  exact g3 j hj
theorem eFldO {c j i : Nat} {n : Str} (cl : Cls K (He.ga K (cn c))) (na : NoAttr K (He.ga K (cn c)) n) (hi : (cf c).findIdx? (· == n) = some j) : EOk K W (tFld K (tVar i) n) (mFldO c j i) := fun G H σ ρ τ δ Q h w => by
  obtain ⟨s, z, d, e, eo, w'⟩ := atOwn_go w
  clear w
  split at w'
  · rename_i ss c' ds
    split at w'
    · rename_i d0 hc hs hd
      obtain rfl := Nat.eq_of_beq_eq_true hc
      obtain ⟨F, f1, v, f, ht, hle, e1, q, kv, k⟩ := h.own e eo
      cases q with
      | oo h1 h2 h3 h4 =>
        obtain ⟨v1, d1, l, f', r, g1, g2, g3, g4, _⟩ := h4.get hs
        rw [hd] at g2
        cases g2
        cases g4 with
        | fr g5 => exact ⟨_, e1, _, _, _, _, v1, rfl, h1, cl, na, look_take h3 hi g1, w' _ _ (kv _ _ g5)⟩
    · exact w'.elim
  · exact w'.elim
/-- self.n = v behind others: as a target -/
def gAttrN (c j i : Nat) : MG := fun s => fldNew c j i s
theorem gAttr' {c j i : Nat} {n : Str} (cl : Cls K (He.ga K (cn c))) (na : NoAttr K (He.ga K (cn c)) n) (hj : (cf c)[j]? = some n) (hn : n ∉ (cf c).take j) (hs : j < 1000) : GOk K (OpM.gAttr K (tVar i) n) (gAttrN c j i) := fun G H σ ρ τ δ v s Q h w => by
  unfold gAttrN fldNew at w
  split at w
  · rename_i z' d' ep
    obtain ⟨s0, z, d, e0, eo, w2⟩ := atOwn_go w
    simp only at w2
    split at w2
    · rename_i ss c' ds
      have w3 : c' = c ∧ ds.length = j ∧ ∀ σ' H', Rel K G H' σ' (ρ.set i (s0.put (.oo (ss ++ [z'])) (.obj c' (ds ++ [d'])))) τ δ → Q σ' H' := by
        split at w2
        · rename_i g1 g2
          exact ⟨Nat.eq_of_beq_eq_true g1, Nat.eq_of_beq_eq_true g2, w2⟩
        · exact w2.elim
      obtain ⟨rfl, rfl, q⟩ := w3
      obtain ⟨F, f0, v0, f, q0, hl, e1, qo, hdis, hfn, k⟩ := h.own1 e0 eo
      obtain ⟨y', ey, qy⟩ := q0.part ep
      cases ey
      cases qo with
      | @oo _ a dx _ fs _ fp ha hdx hnm hof =>
        have hlen : fs.length = ds.length := by have := hof.len.1; rwa [List.length_map] at this
        have hnn : n ∉ fs.map (·.1) := by rw [hnm]; exact hn
        refine ⟨_, e1, a, _, dx, fs, rfl, ha, cl, na, by omega, q _ _ ?_⟩
        rw [putF_new hnn]
        refine k a _ _ _ (a :: dx :: (fp ++ f0)) (by simp) ?_ (fun b => by simp only [List.count_append, List.count_cons]; omega)
        have hadx : dx ≠ a := fun z => by rw [z, ha] at hdx; cases hdx
        have hfp : ∀ b ∈ fp, b ≠ a := fun b hb eb => (List.nodup_cons.mp hfn).1 (by rw [← eb]; exact List.mem_cons_of_mem _ hb)
        refine .oo (fs := fs ++ [(n, v)]) upd_same (by rw [upd_ne hadx]; exact hdx) ?_ ?_
        · rw [List.map_append, hnm, List.length_append, List.length_singleton]
          show _ ++ [n] = _
          rw [List.take_add_one, hj]
          rfl
        · rw [List.map_append]
          refine OwnF.app (hof.mono Le.rfl fun b hb => upd_ne (hfp b hb)) ?_
          have := OwnF.cons (qy.mono Le.rfl (H' := upd H a (.ins (He.ga K (cn c')) dx (fs ++ [(n, v)]))) fun b hb => upd_ne fun z => hdis a (by simp) (by rw [← z]; exact hb)) (.nil (K := K) (F := F))
          rw [List.append_nil] at this
          exact this
    · exact w2.elim
  · exact w.elim
/-- self.n.append(e), n an owned list of an owned object -/
def mAppF (c j i : Nat) (e : ME) : ME := atOwn i fun _ z d => match z, d with
  | .oo ss0, .obj c0 _ => match Nat.beq c0 c, ss0[j]? with
    | true, some (.ol .fr) => e.bind fun s => match s with
      | .sh x => atOwn i fun s0 z d => ⟨fun ρ Q _ => match z, d with
        | .oo ss, .obj c' ds => match Nat.beq c' c, ss[j]?, ds[j]? with
          | true, some (.ol .fr), some (.lst xs) => xs.length < sizeLine ∧ Q (.sh .non) (ρ.set i (s0.put (.oo ss) (.obj c' (ds.set j (.lst (xs ++ [x]))))))
          | _, _, _ => False
        | _, _ => False, fun {ρ Q Q' E E'} h h' w => by
          revert w
          split
          · split
            · exact fun w => ⟨w.1, h _ _ w.2⟩
            · exact id
          · exact id⟩
      | _ => M.stuck
    | _, _ => M.stuck
  | _, _ => M.stuck
end
end Dl
namespace Dl
open PySem PySem.Spec PyProof.Rows L2
section
variable {K : PySem.W.Frag} {W W' : WS} {ta tb tc te ti tj tv : TE} {ma mb mc me mi' mj mv : ME} {t u : TS} {m k : MS} {tA tt : TT} {mA mt : MT} {G : Ent} {F H H' : Hp} {σ τ : L2.St} {ρ : Env} {δ : List Sl}
/-! ### a list of owned things -/
theorem OwnL.get {s : Sh} : ∀ {vs : List V} {ds : List D} {fp : List Addr} {i : Nat} {d : D}, OwnL K F H s vs ds fp → ds[i]? = some d → ∃ v l f r, vs[i]? = some v ∧ fp = l ++ (f ++ r) ∧ Own K F H s v d f ∧
    ∀ F' H' d' f', Le F F' → (∀ a ∈ l ++ r, H' a = H a) → Own K F' H' s v d' f' → OwnL K F' H' s vs (ds.set i d') (l ++ (f' ++ r))
  | _, _, _, i, d, .nil, e => by cases e
  | _, _, _, 0, d, .cons (f := f) (fp := fp) q r, e => by
    cases e
    exact ⟨_, [], f, fp, rfl, rfl, q, fun F' H' d' f' l hh q' => by
      have := OwnL.cons q' (r.mono l (fun a ha => hh a ha))
      exact this⟩
  | _, _, _, i + 1, d, .cons (f := f) (fp := fp) q r, e => by
    obtain ⟨v, l, f1, r1, e1, e3, q1, k⟩ := OwnL.get (i := i) r e
    refine ⟨v, f ++ l, f1, r1, e1, by rw [e3, List.append_assoc], q1, fun F' H' d' f' hl hh q' => ?_⟩
    rw [List.append_assoc]
    exact .cons (q.mono hl fun a ha => hh a (by simp [ha])) (k F' H' d' f' hl (fun a ha => hh a (by
      rcases List.mem_append.mp ha with z | z
      · simp [z]
      · simp [z])) q')
theorem OwnL.length {s : Sh} : ∀ {vs : List V} {ds : List D} {fp : List Addr}, OwnL K F H s vs ds fp → vs.length = ds.length
  | _, _, _, .nil => rfl
  | _, _, _, .cons _ r => congrArg (· + 1) r.length
theorem OwnL.app {s : Sh} : ∀ {vs vs' : List V} {ds ds' : List D} {fp fp' : List Addr}, OwnL K F H s vs ds fp → OwnL K F H s vs' ds' fp' → OwnL K F H s (vs ++ vs') (ds ++ ds') (fp ++ fp')
  | _, _, _, _, _, _, .nil, h => h
  | _, _, _, _, _, _, .cons q r, h => by rw [List.append_assoc]; exact .cons q (r.app h)
/-- xs[a][b] = v, a and b names -/
@[irreducible] def gIx2 (i a b : Nat) : MG := fun s => ⟨fun ρ Q _ => match s, ρ[a]?, ρ[b]?, ρ[i]? with
  | .sh x, some (.sh (.int n)), some (.sh (.int m)), some s0 => match s0.own with
    | some (.ol (.ol .fr), .lst ds) => match ixN ds.length n with
      | some p => match ds[p]? with
        | some (.lst xs) => match ixN xs.length m with
          | some q => Q () (ρ.set i (s0.put (.ol (.ol .fr)) (.lst (ds.set p (.lst (xs.set q x))))))
          | _ => False
        | _ => False
      | _ => False
    | _ => False
  | _, _, _, _ => False, fun {ρ Q Q' E E'} h _ w => by
    revert w
    split
    · split
      · split
        · split
          · split
            · exact h _ _
            · exact id
          · exact id
        · exact id
      · exact id
    · exact id⟩
theorem Rel.at {i : Nat} {d : D} (h : Rel K G H σ ρ τ δ) (e : ρ[i]? = some (.sh d)) : ∃ F v, Le F H ∧ σ[i]? = some (some v) ∧ Rep K F v d := by
  obtain ⟨F, f1, f2, g, ht, hs⟩ := h
  obtain ⟨o, l, f, r, e1, e2, h1, k⟩ := hs.at e
  cases h1 with
  | sh r => exact ⟨F, _, g.sub, e2, r⟩
theorem gIx2' {i a b : Nat} : GOk K (gSub (tOp (rIxL K) (tVar i) (tVar a)) (tVar b) rSetL) (gIx2 i a b) := fun G H σ ρ τ δ v s Q h w => by
  unfold gIx2 at w
  simp only at w
  split at w
  · rename_i x n m s0 ea eb ei
    split at w
    · rename_i ds eo
      split at w
      · rename_i p ep
        split at w
        · rename_i xs ex
          split at w
          · rename_i q eq
            obtain ⟨Fa, va, _, e1, ra⟩ := h.at ea
            obtain ⟨Fb, vb, _, e2, rb⟩ := h.at eb
            cases ra
            cases rb
            obtain ⟨F, f0, v0, f, q0, hl, e3, qo, hdis, hfn, k⟩ := h.own1 ei eo
            cases q0 with
            | sh rx =>
              cases qo with
              | @ol _ A vs _ fp hA rl =>
                obtain ⟨vp, l, fr, r, g1, g2, g3, g4⟩ := rl.get ex
                cases g3 with
                | @ol _ B us _ fq hB rr =>
                  obtain ⟨rr', rfl⟩ := rr.rep
                  subst g2
                  refine ⟨_, e3, _, e1, A, vs, n, .ref B, rfl, rfl, SqL.of hA, ?_, _, e2, B, us, m, q, rfl, rfl, hB, by rw [rr'.len]; exact eq, w _ _ ?_⟩
                  · unfold atI
                    rw [rl.length, ep]
                    exact g1
                  · have hn := List.nodup_cons.mp hfn
                    have hBA : A ≠ B := fun z => hn.1 (by rw [z]; simp)
                    have hne : ∀ c ∈ l ++ r, c ≠ B := fun c hc z => by
                      have c1 := List.nodup_iff_count.mp hn.2 c
                      have c2 := List.count_pos_iff.mpr hc
                      subst z
                      simp only [List.count_append, List.count_cons_self] at c1 c2
                      omega
                    refine k B _ _ _ (A :: (l ++ ([B] ++ r))) (by simp) (.ol (by rw [upd_ne hBA]; exact hA) (g4 F _ _ [B] Le.rfl (fun c hc => upd_ne (hne c hc)) (.ol upd_same (rr'.set rx _).own))) (fun c => by simp)
          · exact w.elim
        · exact w.elim
      · exact w.elim
    · exact w.elim
  · exact w.elim
/-- a comprehension whose items are owned -/
theorem Rel.growO {z : Sh} {G : Ent} {H : Hp} {σ τ : L2.St} {ρ : Env} {δ : List Sl} {D0 : Addr} {y : V} {x : D} {acc : List D} (h : Rel K G H σ ρ (some y :: some (.ref D0) :: τ) (.ow z x :: .ow (.ol z) (.lst acc) :: δ)) :
    ∃ vs, H D0 = some (.lst vs) ∧ vs.length = acc.length ∧ Rel K G (upd H D0 (.lst (vs ++ [y]))) σ ρ (some (.ref D0) :: τ) (.ow (.ol z) (.lst (acc ++ [x])) :: δ) := by
  obtain ⟨F, f1, f2, g, ht, hs⟩ := h
  cases ht with
  | cons h1 h2 =>
    cases h1 with
    | ow r =>
      cases h2 with
      | cons h3 h4 =>
        cases h3 with
        | ow q =>
          cases q with
          | @ol _ _ vs _ fp hD rl =>
            rename_i fy fb
            have hc := List.nodup_iff_count.mp g.nd
            have hne : ∀ a ∈ fy ++ fp ++ fb ++ f2, a ≠ D0 := fun a ha z => by
              have c1 := hc a
              have c2 := List.count_pos_iff.mpr ha
              subst z
              simp only [List.count_append, List.count_cons_self] at c1 c2
              omega
            have hm : ∀ {a o}, a ∈ fy ++ fp ++ fb ++ f2 → upd H D0 o a = H a := fun ha => upd_ne (hne _ ha)
            have e := (OwnL.mono (H' := upd H D0 (.lst (vs ++ [y]))) Le.rfl (fun a ha => hm (by simp [ha])) rl).app (.cons (Own.mono (H' := upd H D0 (.lst (vs ++ [y]))) Le.rfl (fun a ha => hm (by simp [ha])) r) .nil)
            refine ⟨vs, hD, rl.length, F, (D0 :: (fp ++ (fy ++ []))) ++ fb, f2, (g.mut (a := D0) (by simp) _).cnt (fun a => by simp only [List.count_append, List.count_cons, List.count_nil]; omega), .cons (.ow (.ol upd_same e)) (h4.mono Le.rfl fun a ha => hm (by simp [ha])), hs.mono Le.rfl fun a ha => hm (by simp [ha])⟩
def lcO (z : Sh) (vs : List Nat) (g : MG) (c : MT) (e : ME) : List D → List D → Env → (List D → Env → Prop) → (Er → Env → Prop) → Prop
  | [], acc, ρ, Q, _ => Q acc ρ
  | d :: ds, acc, ρ, Q, E => (g (.sh d)).wp (wipeE ρ vs) (fun _ r1 => c.wp r1 (fun b r2 => if b = true then e.wp r2 (fun s r3 => match s with
      | .ow z' x => z' = z ∧ acc.length < sizeLine ∧ lcO z vs g c e ds (acc ++ [x]) (wipeE r3 vs) Q E
      | _ => False) (fun er r => E er (wipeE r vs)) else lcO z vs g c e ds acc (wipeE r2 vs) Q E) (fun er r => E er (wipeE r vs))) (fun _ _ => False)
theorem lcO_mono {z : Sh} {vs : List Nat} {g : MG} {c : MT} {e : ME} {Q Q' : List D → Env → Prop} {E E' : Er → Env → Prop} (h : ∀ l r, Q l r → Q' l r) (h' : ∀ er r, E er r → E' er r) : ∀ {ds acc : List D} {ρ : Env}, lcO z vs g c e ds acc ρ Q E → lcO z vs g c e ds acc ρ Q' E'
  | [], acc, ρ, w => h _ _ w
  | d :: ds, acc, ρ, w => (g (.sh d)).mono (fun _ r1 w1 => c.mono (fun b r2 w2 => by
      cases b with
      | true =>
        refine e.mono (fun s r3 w3 => ?_) (fun er r z => h' _ _ z) w2
        revert w3
        split
        · exact fun w3 => ⟨w3.1, w3.2.1, lcO_mono h h' w3.2.2⟩
        · exact id
      | false => exact lcO_mono h h' w2) (fun er r z => h' _ _ z) w1) (fun _ _ z => z) w
def mLcO (z : Sh) (vs : List Nat) (i : MI) (g : MG) (c : MT) (e : ME) : ME := ⟨fun ρ Q E => i.wp ρ (fun ds r => lcO z vs g c e ds [] r (fun acc r => Q (.ow (.ol z) (.lst acc)) r) (fun _ _ => False)) E, fun h h' w => i.mono (fun ds r z => lcO_mono (fun _ _ q => h _ _ q) (fun _ _ q => q) z) h' w⟩
theorem Rel.nilO {z : Sh} {A : Addr} {o : Option V} (h : Rel K G H σ ρ (some (.ref A) :: τ) (.ow (.ol .fr) (.lst []) :: δ)) : Rel K G H σ ρ (some (.ref A) :: τ) (.ow (.ol z) (.lst []) :: δ) := by
  obtain ⟨F, f1, f2, g, ht, hs⟩ := h
  cases ht with
  | cons h1 h2 =>
    cases h1 with
    | ow r =>
      cases r with
      | ol hh rl =>
        cases rl
        exact ⟨F, _, f2, g, .cons (.ow (.ol hh .nil)) h2, hs⟩
theorem eLcO {z : Sh} {wi : TI} {mi : MI} {g : TG} {mg : MG} {vs : List Nat} (hi : IOk K W wi mi) (hw : GW vs g) (hgm : GMono g) (hg : GOk K g mg) (hc : TOk K (fun _ _ _ _ => False) tt mt) (he : EOk K (fun _ _ _ _ => False) te me) : EOk K W (tLc wi g tt te vs) (mLcO z vs mi mg mt me) := fun G H σ ρ τ δ Q h w => by
  refine hi G H σ ρ τ δ _ h (mi.mono (fun ds ρ1 w1 J H1 τ' δ' el h1 hwk A0 hD => ?_) (fun _ _ z => z) w)
  have start : Rel K G (upd H1 A0 (.lst [])) σ ρ1 (τ' ++ some (.ref A0) :: τ) (δ' ++ .ow (.ol z) (.lst []) :: δ) := by
    have := Rel.lst (K := K) (vs := []) (ds := []) hD rfl h1
    exact Rel.unrot el (this.nilO (o := none))
  refine ⟨fun i n H' => n = ds.length - i ∧ i ≤ ds.length ∧ ∃ ρ' acc, Rel K G H' σ ρ' (τ' ++ some (.ref A0) :: τ) (δ' ++ .ow (.ol z) (.lst acc) :: δ) ∧ lcO z vs mg mt me (ds.drop i) acc ρ' (fun acc r => ∀ v H', Rel K G H' σ r (some v :: τ) (.ow (.ol z) (.lst acc) :: δ) → Q v H') (fun _ _ => False), ⟨_, rfl, Nat.zero_le _, ρ1, [], start, w1⟩, ?_⟩
  rintro i n H' ⟨rfl, hle, ρ', acc, h2, w2⟩
  by_cases hlt : i < ds.length
  · have hd : ds.drop i = ds[i] :: ds.drop (i + 1) := List.drop_eq_getElem_cons hlt
    rw [hd] at w2
    refine .inr ⟨hwk.go H' σ ρ' _ _ i h2 hlt, fun H2 => ∃ ρ2 acc, Rel K G H2 σ ρ2 (τ' ++ some (.ref A0) :: τ) (δ' ++ .ow (.ol z) (.lst acc) :: δ) ∧ lcO z vs mg mt me (ds.drop (i + 1)) acc ρ2 (fun acc r => ∀ v H', Rel K G H' σ r (some v :: τ) (.ow (.ol z) (.lst acc) :: δ) → Q v H') (fun _ _ => False), fun H2 ⟨ρ2, acc2, h3, w3⟩ => ⟨_, by omega, rfl, hlt, ρ2, acc2, h3, w3⟩, fun x H2 y => ?_⟩
    have h3 := hwk.yld H' σ ρ' _ _ i x H2 ds[i] h2 (List.getElem?_eq_getElem hlt) y
    refine hw _ _ _ _ (hg G H2 _ _ _ _ x _ _ (h3.wipe vs) ((mg _).mono (fun _ ρ3 w3 σ3 H3 h4 ew => ?_) (fun _ _ z => z) w2))
    rw [wipe_wipe] at ew
    refine ⟨ew, hc G H3 σ3 ρ3 _ _ _ h4 (mt.mono (fun b ρ4 w4 H4 h5 => ?_) (fun er ρx z => z.elim) w3)⟩
    cases b with
    | false => exact ⟨_, acc, h5.unwipe ew, w4⟩
    | true =>
      refine he G H4 σ3 ρ4 _ _ _ h5 (me.mono (fun s ρ5 w5 v H5 h6 => ?_) (fun er ρx z => z.elim) w4)
      split at w5
      · rename_i z' xd
        obtain ⟨rfl, w6, w7⟩ := w5
        have h7 : Rel K G H5 σ3 ρ5 (some v :: some (.ref A0) :: (τ' ++ τ)) (.ow z' xd :: .ow (.ol z') (.lst acc) :: (δ' ++ δ)) := (Rel.rot (τ' := some v :: τ') (δ' := .ow z' xd :: δ') (by simp [el]) h6).swap
        obtain ⟨us, e1, e2, h8⟩ := h7.growO
        refine ⟨us, e1, by rw [e2]; exact w6, _, _, (Rel.unrot el h8).unwipe ew, w7⟩
      · exact w5.elim
  · have e : i = ds.length := by omega
    subst e
    rw [List.drop_length] at w2
    refine .inl ⟨hwk.stop H' σ ρ' _ _ h2, w2 _ _ ?_⟩
    exact Rel.dropN el (Rel.rot el h2)
/-! ### what only adds to the heap -/
def Grow (t : TE) : Prop := ∀ σ H Q Q', t σ H Q → (∀ v H', Le H H' → Q v H' → Q' v H') → t σ H Q'
def GrowA (t : TA) : Prop := ∀ σ H Q Q', t σ H Q → (∀ v H', Le H H' → Q v H' → Q' v H') → t σ H Q'
theorem Le.tr {A B C : Hp} (h : Le A B) (h' : Le B C) : Le A C := fun a o e => h' a o (h a o e)
theorem Le.new {A : Hp} {p : Addr} {o : HO} (h : A p = none) : Le A (upd A p o) := fun a x e => by rw [upd_ne (fun z => by rw [z, h] at e; cases e)]; exact e
theorem grow_var {i : Nat} : Grow (tVar i) := fun σ H Q Q' ⟨v, e, q⟩ h => ⟨v, e, h v H Le.rfl q⟩
theorem grow_nil : GrowA tNil := fun σ H Q Q' q h => h _ _ Le.rfl q
theorem grow_cons {tl : TA} (h1 : Grow ta) (h2 : GrowA tl) : GrowA (tCons ta tl) := fun σ H Q Q' q h => h1 _ _ _ _ q fun v H1 l1 q1 => h2 _ _ _ _ q1 fun vs H2 l2 q2 => h _ _ (l1.tr l2) q2
theorem grow_tup {tl : TA} (h1 : GrowA tl) : Grow (tTup tl) := fun σ H Q Q' q h => h1 _ _ _ _ q fun vs H1 l1 q1 => ⟨q1.1, fun p hp => h _ _ (l1.tr (.new hp)) (q1.2 p hp)⟩
/-- self.n.append(e), n an owned list of an owned object -/
theorem eAppF {c j i : Nat} {n : Str} (cl : Cls K (He.ga K (cn c))) (na : NoAttr K (He.ga K (cn c)) n) (hi : (cf c).findIdx? (· == n) = some j) (hg : Grow te) (he : EOk K W te me) : EOk K W (tBM K "list" rAppend (tFld K (tVar i) n) (tCons te tNil)) (mAppF c j i me) := fun G H σ ρ τ δ Q h w => by
  obtain ⟨s0, z0, d0, e0, eo0, w'⟩ := atOwn_go w
  clear w
  split at w'
  · rename_i ss0 c0 ds0
    split at w'
    · rename_i hc hs
      obtain rfl := Nat.eq_of_beq_eq_true hc
      obtain ⟨F, f1, v, f, ht, hle, e1, q, kv, k⟩ := h.own e0 eo0
      cases q with
      | @oo _ a dx _ fs _ fp h1 h2 h3 h4 =>
        obtain ⟨v1, d1, l, f', r, g1, g2, g3, g4, _⟩ := h4.get hs
        cases g4 with
        | @ol _ L vs _ fq hL rl =>
          refine ⟨_, e1, a, _, dx, fs, _, rfl, h1, cl, na, look_take h3 hi g1, Or.inl ⟨rfl, _, SqL.of hL⟩, ?_⟩
          refine hg _ _ _ _ (he G H σ ρ τ δ (fun v H' => ∃ s ρ1, Rel K G H' σ ρ1 (some v :: τ) (s :: δ) ∧ _) h (me.mono (fun s ρ1 w1 v H1 h1 => ⟨s, ρ1, h1, w1⟩) (fun _ _ z => z) w')) ?_
          rintro y H1 hle1 ⟨s, ρ1, r1, w1⟩
          simp only at w1
          split at w1
          · rename_i x
            obtain ⟨s2, z2, d2, e2, eo2, w2⟩ := atOwn_go w1
            simp only at w2
            split at w2
            · rename_i ss c' ds
              split at w2
              · rename_i xs hc2 hs2 hd2
                obtain rfl := Nat.eq_of_beq_eq_true hc2
                obtain ⟨F2, f0, v2, f2, q0, hl2, e3, qo, hdis, hfn, k2⟩ := r1.own1 e2 eo2
                rw [e1] at e3
                cases e3
                cases q0 with
                | sh rx =>
                  cases qo with
                  | @oo _ _ dx2 _ fs2 _ fp2 b1 b2 b3 b4 =>
                    have := hle1 _ _ h1
                    rw [b1] at this
                    cases this
                    obtain ⟨v3, d3, l3, f3, r3, m1, m2, m3, m4, m5⟩ := b4.get hs2
                    rw [g1] at m1
                    cases m1
                    rw [hd2] at m2
                    cases m2
                    cases m4 with
                    | @ol _ _ vs2 _ fq2 hL2 rl2 =>
                      obtain ⟨rl2', rfl⟩ := rl2.rep
                      have hne : ∀ b ∈ a :: dx :: (l3 ++ r3), b ≠ L := fun b hb z => by
                        have c1 := List.nodup_iff_count.mp hfn b
                        have c2 := List.count_pos_iff.mpr hb
                        subst z
                        subst m3
                        simp only [List.count_append, List.count_cons, List.count_nil, beq_self_eq_true, if_true] at c1 c2
                        omega
                      refine ⟨L, vs2, y, rfl, rfl, hL2, by rw [rl2'.len]; exact w2.1, w2.2 _ _ (Rel.push ?_ rfl)⟩
                      have q5 := m5 F2 (upd H1 L (.lst (vs2 ++ [y]))) (.ol .fr) _ (.lst (xs ++ [x])) [L] Le.rfl (fun b hb => upd_ne (hne b (by simp [List.mem_append.mp hb]))) (.ol upd_same (rl2'.app (.cons rx .nil)).own)
                      rw [set_same g1, set_same hs2] at q5
                      subst m3
                      exact k2 L _ _ _ _ (by simp) (.oo (fs := fs) (by rw [upd_ne (hne _ (by simp))]; exact b1) (by rw [upd_ne (hne _ (by simp))]; exact b2) (by rw [List.length_set]; exact b3) q5) (fun b => by simp)
              · exact w2.elim
            · exact w2.elim
          · exact w1.elim
    · exact w'.elim
  · exact w'.elim
end
end Dl
namespace Dl
open PySem PySem.Spec PyProof.Rows L2
/-- a def that is never called: the foot of a recursion -/
theorem okStuck {P : Program} {w : World} {K : PySem.W.Frag} {mg : Str → Option Value} {base : Heap} {x qual : Str} {params : Arguments} {body : List Stmt} {scope : Scope} {dvs : List V} {kws : List (Str × V)} {f : Addr} {fd : FuncData} {N ps : List Str} {k : Nat} (T : FunD K x qual params body scope dvs kws f fd) (S : FnScope N ps scope) :
    FnOk P w K mg base (L2.CX P w) (k + 1) f fd ps (spOf K M.stuck) :=
  T.ok S (fun _ _ _ _ ⟨_, _, _, _, _, _, _, h⟩ => h.elim) fun _ _ _ _ _ _ _ _ _ ⟨_, _, _, _, _, _, _, h⟩ => h.elim
end Dl
/-! ### a dict's display with one mapping put in: {**d, k: v} -/
namespace PySem
open Sem (wp)
section
variable {prog : Program} {w : World} {K : Type} [DecidableEq K] {knd : KeyKind prog w K} {A : Around} {E : Value → Shared → Prop} {s : Shared}
theorem wpAny_dictPut_pairs {d : Addr} {kvs : List (K × Value)} {k : K} {key v : Value} {Q : Unit → Shared → Prop} (hkey : knd.is k key = true) (hm : s.heap.DictOf knd d kvs)
    (hQ : ∀ h', h'.DictOf knd d (stored kvs k v) → Heap.SameBut d s.heap h' → Q () { s with heap := h' })
    (hsz : kvs.length ≤ sizeLine) : wpAny (model prog w) A (dictPut d (knd.hash k) key v) Q E s := by
  obtain ⟨o, es, ep, ho, hc, hd, hk, hp, hn⟩ := hm
  have hes : es.size ≤ sizeLine := by
    have e1 := hp.length
    have e2 : es.toList.length = es.size := by simp
    omega
  unfold dictPut
  refine wpAny_bind (wpAny_dictFind_of hkey ho hd hk ?_)
  have hidx : (es.findIdx? fun e => knd.is k e.key) = kvs.findIdx? fun kv => decide (kv.1 = k) := by
    rw [← hp.findIdx k]; obtain ⟨l⟩ := es; simp
  cases hi : es.findIdx? fun e => knd.is k e.key with
  | some i =>
    refine wpAny_updateDict ho hd (hQ _ ⟨_, _, ep, Heap.get?_update_self _ ho (Obj.isFreed_of_dict (Obj.data_mapDict hd _)), hc.mapDict _, Obj.data_mapDict hd _, hk.modify _ _, ?_, ?_⟩ (Heap.SameBut.update ..))
    · rw [stored, if_pos (any_of_findIdx_some (hidx ▸ hi))]
      have hl : (es.toList.findIdx? fun e => knd.is k e.key) = some i := by rw [← hi]; obtain ⟨l⟩ := es; simp
      have := hp.modify hn hl v
      obtain ⟨l⟩ := es
      simpa using this
    · rw [stored, if_pos (any_of_findIdx_some (hidx ▸ hi)), keys_map_store]; exact hn
  | none =>
    have hnot : k ∉ kvs.map (·.1) := not_mem_of_findIdx_none (hidx ▸ hi)
    have hany : ¬ (kvs.any fun kv => decide (kv.1 = k)) = true := by
      rw [List.any_eq_true]; rintro ⟨kv, hkv, he⟩
      exact hnot (List.mem_map.mpr ⟨kv, hkv, of_decide_eq_true he⟩)
    refine wpAny_updateDictKeys (hz := hes) ho hd (hQ _ ⟨_, _, ep + 1, Heap.get?_update_self _ ho (Obj.isFreed_of_dict (Obj.data_mapDictKeys hd _)), hc.mapDictKeys _, Obj.data_mapDictKeys hd _, hk.push hkey _, ?_, ?_⟩ (Heap.SameBut.update ..))
    · rw [stored, if_neg hany]
      have := hp.append hkey (knd.hash k) v
      obtain ⟨l⟩ := es
      simpa using this
    · rw [stored, if_neg hany, List.map_append, List.nodup_append]
      refine ⟨hn, by simp, ?_⟩
      intro a ha b hb
      simp only [List.map_cons, List.map_nil, List.mem_singleton] at hb
      subst hb
      exact fun e => hnot (e ▸ ha)
theorem not_ref_of_byValue {v : Value} (h : carriedByValue v = true) : ∀ a, v ≠ .ref a := fun a e => by
  subst e
  exact absurd h Bool.false_ne_true
theorem wpAny_mergeMapping {d o : Addr} {kvs more : List (K × Value)} {Q : Unit → Shared → Prop} (hdo : d ≠ o) (hoS : (o == sysModules) = false)
    (hd : s.heap.DictOf knd d kvs) (ho : s.heap.DictOf knd o more)
    (hQ : ∀ h', h'.DictOf knd d (merged kvs more) → h'.DictOf knd o more → Heap.SameBut d s.heap h' → Q () { s with heap := h' })
    (hsz : kvs.length + more.length ≤ sizeLine) : wpAny (model prog w) A (mergeMapping d (.ref o) false) Q E s := by
  obtain ⟨od, esd, epd, hod, hcd, hdd, hkd, hpd, hnd⟩ := id hd
  obtain ⟨oo, eso, epo, hoo, hco, hdo', hko, hpo, hno⟩ := id ho
  have hlen : more.length = eso.size := by rw [← hpo.length]; simp
  unfold mergeMapping
  refine wpAny_bind (wpAny_isInstance ho.typeIs isSubtype_dict_dict ?_)
  dsimp only
  rw [if_pos rfl]
  refine wpAny_bind (wpAny_specialOf ho.typeIs F.slot_dict_iter.lookup (wpAny_bind (wpAny_pure ?_)))
  simp only [beq_self_eq_true]
  rw [if_neg (by rw [hoS]; exact Bool.false_ne_true)]
  refine wpAny_bind (wpAny_dictEntries hod hdd ?_)
  have hloop : (forIn eso PUnit.unit fun e (_ : PUnit) => (do
      match e.key with
        | .ref _ => do
          let q ← specialOf e.key "__eq__"
          if (q != some (Value.builtin "object.__eq__")) = true then
            if (eso.filter (·.hash == e.hash)).size > 1 then (do let _ ← (unsupported "dict.merge-into-an-empty-dict:keys-of-equal-hash" : Sem PUnit); pure (ForInStep.yield PUnit.unit)) else pure (ForInStep.yield PUnit.unit)
          else pure (ForInStep.yield PUnit.unit)
        | _ => pure (ForInStep.yield PUnit.unit) : Sem (ForInStep PUnit))) = pure PUnit.unit := by
    rw [← Array.forIn_toList]
    refine forIn_yield_id _ fun e he c => ?_
    obtain ⟨k, hkey, _⟩ := hko e (Array.mem_toList_iff.mp he)
    have := not_ref_of_byValue (knd.byValue k _ hkey)
    split
    · rename_i a ea
      exact absurd ea (this a)
    · rfl
  have loop : wpAny (model prog w) A (do
      let l ← dictEntries o
      let epoch ← dictEpoch o
      forIn (List.range l.size) PUnit.unit fun i (_ : PUnit) => (do
          let l' ← dictEntries o
          match l'[i]? with
            | some e => do
              holding [e.key, e.val] (if false = true then do
                  let __do_lift ← dictFind d e.key e.hash
                  if __do_lift.isSome = true then do
                      rule "dict.merge.duplicate-key"
                      let __do_lift ← newExc (Value.type "KeyError") [e.key]
                      let __r ← (raiseNew __do_lift : Sem PUnit)
                      dictPut d e.hash e.key e.val
                    else dictPut d e.hash e.key e.val
                else dictPut d e.hash e.key e.val)
              let ep' ← dictEpoch o
              if (ep' != epoch) = true then do
                  (unsupported "dict.changed-during-merge" : Sem PUnit)
                  pure (ForInStep.yield PUnit.unit)
                else pure (ForInStep.yield PUnit.unit)
            | _ => do
              (unsupported "dict.changed-during-merge" : Sem PUnit)
              pure (ForInStep.yield PUnit.unit) : Sem (ForInStep PUnit))
      pure ()) Q E s := by
    refine wpAny_bind (wpAny_dictEntries hoo hdo' ?_)
    refine wpAny_bind (wpAny_dictEpoch hoo hdo' ?_)
    refine wpAny_bind ?_
    rw [List.range_eq_range']
    refine wpAny_forIn_list _
      (fun rest _ s' => ∃ h' i, s' = { s with heap := h' } ∧ rest = List.range' i (eso.size - i) ∧ i ≤ eso.size ∧ h'.DictOf knd d (merged kvs (more.take i)) ∧ h'.get? o = some oo ∧ Heap.SameBut d s.heap h')
      _ ?_ ?_ _ _ ⟨s.heap, 0, rfl, by simp, Nat.zero_le _, by simpa [merged] using hd, hoo, Heap.SameBut.refl _ _⟩
    · rintro x rest b s' ⟨h', i, rfl, hr, hi, hd', hoo', hs'⟩
      have hlt : i < eso.size := by
        rcases Nat.lt_or_ge i eso.size with h | h
        · exact h
        · rw [Nat.sub_eq_zero_of_le h] at hr; simp at hr
      obtain ⟨rfl, hrest⟩ : x = i ∧ rest = List.range' (i + 1) (eso.size - (i + 1)) := by
        have e : eso.size - i = (eso.size - (i + 1)) + 1 := by omega
        rw [e, List.range'_succ] at hr
        injection hr with h1 h2
        exact ⟨h1, h2⟩
      refine wpAny_bind (wpAny_dictEntries hoo' hdo' ?_)
      rw [Array.getElem?_eq_getElem hlt]
      obtain ⟨kv, hkv⟩ : ∃ kv, more[x]? = some kv := ⟨more[x]'(by rw [hlen]; exact hlt), List.getElem?_eq_getElem _⟩
      obtain ⟨k, v⟩ := kv
      obtain ⟨hkey, hval⟩ := hpo.get? (e := eso[x]) (by simp [hlt]) hkv
      obtain ⟨k', hkey', hhash⟩ := hko eso[x] (Array.getElem_mem hlt)
      obtain rfl : k' = k := knd.inj _ _ _ hkey' hkey
      dsimp only
      rw [if_neg Bool.false_ne_true, hhash, hval]
      have hmx : (merged kvs (more.take x)).length ≤ sizeLine := by
        have e1 := merged_length_le kvs (more.take x)
        have e2 : (more.take x).length ≤ more.length := by rw [List.length_take]; omega
        omega
      refine wpAny_bind (wpAny_holding (wpAny_dictPut_pairs (hsz := hmx) hkey hd' fun h'' hd'' hs'' => ?_))
      have hoo'' : h''.get? o = some oo := (hs''.2 o (Ne.symm hdo)).trans hoo'
      refine wpAny_bind (wpAny_dictEpoch hoo'' hdo' ?_)
      rw [if_neg (by simp)]
      exact wpAny_pure ⟨h'', x + 1, rfl, hrest, hlt, by rw [merged_take_succ kvs more x (k', v) hkv]; exact hd'', hoo'', hs'.trans hs''⟩
    · rintro b s' ⟨h', i, rfl, hr, hi, hd', hoo', hs'⟩
      have hin : i = eso.size := by
        rcases Nat.lt_or_ge i eso.size with h | h
        · have e : eso.size - i = (eso.size - (i + 1)) + 1 := by omega
          rw [e, List.range'_succ] at hr; exact nomatch hr
        · exact Nat.le_antisymm hi h
      refine wpAny_pure (hQ h' ?_ ⟨oo, eso, epo, hoo', hco, hdo', hko, hpo, hno⟩ hs')
      rw [hin, ← hlen, List.take_length] at hd'; exact hd'
  split
  · refine wpAny_bind (wpAny_dictEntries hoo hdo' ?_)
    exact wpAny_bind (wpAny_of_eq hloop loop)
  · exact loop
end
end PySem
namespace StX
open PySem PySem.Spec PyProof.Rows L2
open Sem (wp)
/-- {**e, k: v}: a new dict with the other's pairs, then one of its own (made by itself first) -/
def tDStar (te tk tv : TE) : TE := fun σ H Q => ∀ p, H p = none → te σ (upd H p (.dK [])) fun x H1 => ∃ a kvs, x = .ref a ∧ Rd H1 a (.dK kvs) ∧ a ≠ p ∧ H1 p = some (.dK []) ∧ kvs.length < 1000 ∧
  ∀ q, upd H1 p (.dK (mergeK [] kvs)) q = none → tk σ (upd (upd H1 p (.dK (mergeK [] kvs))) q (.dK [])) fun y H2 => tv σ H2 fun z H3 => ∃ key, y = kV key ∧ H3 q = some (.dK []) ∧ H3 p = some (.dK (mergeK [] kvs)) ∧
    Q (.ref p) (upd (upd H3 q (.dK [(key, z)])) p (.dK (mergeK (mergeK [] kvs) [(key, z)])))
section
variable {X : Cx} {pos : Pos}
theorem dictDisplay_star (v k x : Sem Value) : dictDisplay [(none, v), (some k, x)] = (do
    let d ← alloc { cls := .type "dict", data := .dict #[] }
    let m ← holding [.ref d] v
    (((holding [.ref d, m] (mergeMapping d m false)).onRaise fun x => do let _ ← holding [.ref d, m, x] (runValue (.builtin "proto.let_go" {}))).tryCatch fun e => do
        if ← isInstance e (.type "AttributeError") then
          rule "dict.display.not-a-mapping"; raiseError "TypeError" s!"'{← typeNameOf m}' object is not a mapping"
        throw e).onRaise fun x => do let _ ← holding [.ref d, x] (runValue (.builtin "proto.let_go" {}))
    let sub ← holding [.ref d] (subDict [(k, x)])
    (holding [.ref d, .ref sub] (mergeMapping d (.ref sub) false)).onRaise fun x => do let _ ← holding [.ref d, x] (runValue (.builtin "proto.let_go" {}))
    pure (.ref d)) := by
  unfold dictDisplay
  dsimp only
  rw [List.forIn_cons]
  simp only [List.isEmpty_nil, if_true, bind_assoc, pure_bind, List.forIn_cons, List.forIn_nil, List.nil_append, List.length_singleton, List.isEmpty_cons, Bool.false_eq_true, if_false, show ((1 : Nat) == 17) = false from rfl]
theorem merged_one {K : Type} [DecidableEq K] {kvs : List (K × Value)} {k : K} {v : Value} : merged kvs [(k, v)] = stored kvs k v := rfl
theorem pe_dstar {e k v : Expr} {te tk tv : TE} (he : PE X e te) (hk : PE X k tk) (hv : PE X v tv) : PE X (.Dict [none, some k] [e, v] pos) (tDStar te tk tv) := by
  refine ⟨fun pins s σ H Q I q => ?_⟩
  have hn := I.hok.fresh (Nat.le_refl s.heap.objs.size)
  have I1 := I.laid (a := s.heap.objs.size) (o := .dK []) (h' := s.heap.push { cls := .type "dict", data := .dict #[] }) (t' := s.toks) (fun _ _ q => Heap.get?_push_of_some _ q) (Nat.le_refl _) (dk_empty s.heap I.big)
  have sh : (evalEachOpt [none, some k] X.env).zip ((evalEach [e, v] X.env).map fun v => do let x ← v; standAt pos; pure x) = [(none, do let x ← eval e X.env; standAt pos; pure x), (some (eval k X.env), do let x ← eval v X.env; standAt pos; pure x)] := rfl
  rw [arm_eval_Dict, sh, dictDisplay_star]
  refine wpAny_bind (wpAny_standAt (wpAny_bind (wpAny_alloc (wpAny_bind (wpAny_holding (wpAny_bind (thn (he.run pins _ σ _ _ I1 (q _ hn)) fun u s1 ⟨x, H1, J1, rx, a, kvs, ex, ra, nap, e1, l1, q1⟩ => wpAny_bind (wpAny_standAt (wpAny_pure ?_)))))))))
  subst ex
  obtain rfl : u = Value.ref a := rx
  obtain ⟨z, hd, vs, rel, dd⟩ := dk_rd J1.hok ra
  obtain ⟨z0, hd0, vs0, rel0, dd0⟩ := dk_of J1.hok e1
  cases rel0
  have lv : vs.length = kvs.length := (Paired.length rel).symm
  have mz : (mergeK [] kvs).length ≤ kvs.length := by have := length_mergeK kvs []; simpa using this
  refine wpAny_bind (wpAny_onRaise (wpAny_tryCatch (wpAny_onRaise (wpAny_holding (wpAny_mergeMapping (knd := mixKind X.prog X.w) (Ne.symm nap) hd dd0 dd (fun h' m1 m2 hs => ?_) (by rw [lv, sizeLine_eq, List.length_nil]; omega))))))
  have J2 : Inv X pins σ (upd H1 s.heap.objs.size (.dK (mergeK [] kvs))) { s1 with heap := h' } :=
    d_write J1 (by rw [e1]; exact True.intro) hs (let ⟨q, _, _, hq, _⟩ := m1; ⟨q, hq⟩) (dk_new (by rw [sizeLine_eq]; omega) hd0 (rel.merge .nil) m1)
  generalize hS : ({ s1 with heap := h' } : Shared) = s2 at J2
  have n2 := J2.hok.fresh (Nat.le_refl s2.heap.objs.size)
  have J3 := J2.laid (a := s2.heap.objs.size) (o := .dK []) (h' := s2.heap.push { cls := .type "dict", data := .dict #[] }) (t' := s2.toks) (fun _ _ q => Heap.get?_push_of_some _ q) (Nat.le_refl _) (dk_empty s2.heap J2.big)
  refine wpAny_bind (wpAny_holding (wpAny_subDict (knd := mixKind X.prog X.w) (by show 1 ≤ 15; decide) (evalPairs_cons (thn (hk.run pins _ σ _ _ J3 (q1 _ n2)) fun u3 s3 ⟨y, H2, J4, ry, q2⟩ => wpAny_bind (thn (hv.run pins s3 σ H2 _ J4 q2) fun u4 s4 ⟨z, H3, J5, rz, key, ey, eq, ep, q3⟩ => wpAny_bind (wpAny_standAt (wpAny_pure (evalPairs_nil ?_))))))))
  subst ey
  obtain ⟨_, hdq, vsq, relq, ddq⟩ := dk_of J5.hok eq
  cases relq
  refine ⟨[(key, u4)], ⟨kV_is ry, rfl, True.intro⟩, ddq, fun h5 m5 s5 => ?_⟩
  have J6 : Inv X pins σ (upd H3 s2.heap.objs.size (.dK [(key, z)])) { s4 with heap := h5, toks := s4.toks + 1 } :=
    d_write J5 (by rw [eq]; exact True.intro) s5 (let ⟨q, _, _, hq, _⟩ := m5; ⟨q, hq⟩) (dk_new (by rw [sizeLine_eq]; show 1 ≤ _; decide) hdq (.cons ⟨rfl, rz⟩ .nil) m5)
  have npq : s.heap.objs.size ≠ s2.heap.objs.size := fun z => by
    have : upd H1 s.heap.objs.size (.dK (mergeK [] kvs)) s2.heap.objs.size = some (.dK (mergeK [] kvs)) := by rw [← z, upd_same]
    rw [n2] at this
    cases this
  obtain ⟨_, hdp, vsp, relp, ddp⟩ := dk_of J6.hok (a := s.heap.objs.size) (kvs := mergeK [] kvs) (by rw [upd_ne npq]; exact ep)
  obtain ⟨_, _, vsr, relr, ddr⟩ := dk_of J6.hok (a := s2.heap.objs.size) (kvs := [(key, z)]) upd_same
  have l3 : vsp.length = (mergeK [] kvs).length := (Paired.length relp).symm
  have l4 : vsr.length = 1 := (Paired.length relr).symm
  refine wpAny_bind (wpAny_onRaise (wpAny_holding (wpAny_mergeMapping (knd := mixKind X.prog X.w) npq hdq ddp ddr (fun h7 m7 m8 s7 => wpAny_pure ⟨.ref s.heap.objs.size, _, ?_, rfl, q3⟩) (by rw [l3, l4, sizeLine_eq]; omega))))
  refine d_write J6 (by rw [upd_ne npq, ep]; exact True.intro) s7 (let ⟨q, _, _, hq, _⟩ := m7; ⟨q, hq⟩) (dk_new ?_ hdp (relr.merge relp) m7)
  have := length_mergeK [(key, z)] (mergeK [] kvs)
  rw [sizeLine_eq]
  simp at this
  omega
end
end StX
/-! ### dicts of the data layer -/
namespace Dl
open PySem PySem.Spec PyProof.Rows L2
def D.key : D → Option Key
  | .int i => some (.inl i)
  | .str x => some (.inr x)
  | _ => none
def keyD : Key → D
  | .inl i => .int i
  | .inr x => .str x
def D.pairs : D → Option (List (Key × D))
  | .dic es => some es
  | .dil es => some es
  | _ => none
def getE (es : List (Key × D)) (k : Key) : Option D := (es.find? fun p => decide (p.1 = k)).map (·.2)
def putE (es : List (Key × D)) (k : Key) (x : D) : List (Key × D) := if (es.any fun p => decide (p.1 = k)) = true then es.map (fun p => if p.1 = k then (p.1, x) else p) else es ++ [(k, x)]
section
variable {K : PySem.W.Frag} {W W' : WS} {ta tb tc te tn tk tv : TE} {ma mb mc me mn mk mv : ME} {t u : TS} {m k : MS} {tA tt : TT} {mA mt : MT} {tl : TA} {ml : MA} {G : Ent} {F H H' : Hp} {σ τ : L2.St} {ρ : Env} {δ : List Sl}
theorem Rep.key {v : V} {d : D} {k : Key} (h : Rep K F v d) (e : d.key = some k) : v = kV k := by
  cases h <;> first | (cases e; rfl) | (cases e; done)
theorem rep_key {k : Key} : Rep K F (kV k) (keyD k) := by
  cases k with
  | inl i => exact .int i
  | inr x => exact .str x
theorem RepK.keys : ∀ {kvs : List (Key × V)} {es : List (Key × D)}, RepK K F kvs es → kvs.map (·.1) = es.map (·.1)
  | _, _, .nil => rfl
  | _, _, .cons r t => by rw [List.map_cons, List.map_cons, RepK.keys t]
theorem RepK.len {kvs : List (Key × V)} {es : List (Key × D)} (h : RepK K F kvs es) : kvs.length = es.length := by
  have := congrArg List.length h.keys
  simpa using this
theorem RepK.val : ∀ {kvs : List (Key × V)} {es : List (Key × D)}, RepK K F kvs es → ∀ k, (∃ v d, valV kvs k = some v ∧ getE es k = some d ∧ Rep K F v d) ∨ (valV kvs k = none ∧ getE es k = none)
  | _, _, .nil, k => .inr ⟨rfl, rfl⟩
  | _, _, .cons (k := k0) (v := v) (d := d) r t, k => by
    by_cases e : k0 = k
    · exact .inl ⟨v, d, valV_pos (p := (k0, v)) e, by simp [getE, List.find?_cons, e], r⟩
    · rw [valV_neg (p := (k0, v)) e]
      have : ∀ es : List (Key × D), getE ((k0, d) :: es) k = getE es k := fun es => by simp [getE, List.find?_cons, e]
      rw [this]
      exact RepK.val t k
theorem RepK.any : ∀ {kvs : List (Key × V)} {es : List (Key × D)}, RepK K F kvs es → ∀ k, (kvs.any fun p => decide (p.1 = k)) = es.any fun p => decide (p.1 = k)
  | _, _, .nil, k => rfl
  | _, _, .cons r t, k => by rw [List.any_cons, List.any_cons, RepK.any t k]
theorem RepK.app : ∀ {kvs kvs' : List (Key × V)} {es es' : List (Key × D)}, RepK K F kvs es → RepK K F kvs' es' → RepK K F (kvs ++ kvs') (es ++ es')
  | _, _, _, _, .nil, h => h
  | _, _, _, _, .cons r t, h => .cons r (t.app h)
theorem RepK.repl {k : Key} {v : V} {d : D} (q : Rep K F v d) : ∀ {kvs : List (Key × V)} {es : List (Key × D)}, RepK K F kvs es → RepK K F (kvs.map fun p => if p.1 = k then (p.1, v) else p) (es.map fun p => if p.1 = k then (p.1, d) else p)
  | _, _, .nil => .nil
  | _, _, .cons (k := k0) r t => by
    rw [List.map_cons, List.map_cons]
    by_cases e : k0 = k
    · rw [if_pos e, if_pos e]; exact .cons q (t.repl q)
    · rw [if_neg e, if_neg e]; exact .cons r (t.repl q)
theorem RepK.put {k : Key} {v : V} {d : D} {kvs : List (Key × V)} {es : List (Key × D)} (h : RepK K F kvs es) (q : Rep K F v d) : RepK K F (putK kvs k v) (putE es k d) := by
  unfold putK putE
  rw [h.any k]
  split
  · exact h.repl q
  · exact h.app (.cons q .nil)
/-- what a dict is -/
theorem Rep.dict {v : V} {d : D} {es : List (Key × D)} (h : Rep K F v d) (l : Le F H) (e : d.pairs = some es) : ∃ a kvs, v = .ref a ∧ F a ≠ none ∧ Rd H a (.dK kvs) ∧ RepK K F kvs es := by
  cases h with
  | dic h r => cases e; exact ⟨_, _, rfl, (by rw [h]; intro z; cases z), .inl (l _ _ h), r⟩
  | dil h r => cases e; exact ⟨_, _, rfl, (by rw [h]; intro z; cases z), .inr ⟨_, l _ _ h⟩, r⟩
  | _ => cases e
/-! d[k], k in d, len(d), list(d) -/
def dDGet : D → D → Option D := fun d k => match d.pairs, k.key with
  | some es, some k => getE es k
  | _, _ => none
theorem r_dget : R2Ok K (fun x y H Q => ∃ a v, x = .ref a ∧ DGet H a y (some v) ∧ Q v H) (op2 dDGet) := by
  intro G H σ ρ τ δ x y s1 s2 Q E hr w
  obtain ⟨a, b, d, rfl, rfl, e, q⟩ := op2_go w
  obtain ⟨F, r1, r2, z⟩ := hr.top2
  unfold dDGet at e
  split at e
  · rename_i es k he hk
    obtain ⟨p, kvs, rfl, _, rd, rk⟩ := r1.dict z.le he
    obtain rfl := r2.key hk
    rcases rk.val k with ⟨v, d', e1, e2, r⟩ | ⟨_, e2⟩
    · rw [e] at e2
      cases e2
      exact ⟨p, v, rfl, .inl ⟨kvs, k, rd, rfl, e1.symm⟩, q _ _ (z.sh _ _ r)⟩
    · rw [e] at e2; cases e2
  · cases e
theorem eDGet (ha : EOk K W ta ma) (hb : EOk K W tb mb) : EOk K W (tDGet ta tb) (mOp (op2 dDGet) ma mb) := eOp r_dget ha hb
def dDIn (neg : Bool) : D → D → Option D := fun k d => match d.pairs, k.key with
  | some es, some k => some (.bl (neg ^^ (getE es k).isSome))
  | _, _ => none
theorem r_din {neg : Bool} : R2Ok K (fun y x H Q => ∃ a o, x = .ref a ∧ DGet H a y o ∧ Q (.bl (neg ^^ o.isSome)) H) (op2 (dDIn neg)) := by
  intro G H σ ρ τ δ y x s1 s2 Q E hr w
  obtain ⟨a, b, d, rfl, rfl, e, q⟩ := op2_go w
  obtain ⟨F, r1, r2, z⟩ := hr.top2
  unfold dDIn at e
  split at e
  · rename_i es k he hk
    cases e
    obtain ⟨p, kvs, rfl, _, rd, rk⟩ := r2.dict z.le he
    obtain rfl := r1.key hk
    refine ⟨p, valV kvs k, rfl, .inl ⟨kvs, k, rd, rfl, rfl⟩, ?_⟩
    have : (valV kvs k).isSome = (getE es k).isSome := by
      rcases rk.val k with ⟨v, d', e1, e2, _⟩ | ⟨e1, e2⟩
      · rw [e1, e2]; rfl
      · rw [e1, e2]; rfl
    rw [this]
    exact q _ _ (hr.pop.pop.push rfl)
  · cases e
theorem eDIn (ha : EOk K W ta ma) (hb : EOk K W tb mb) : EOk K W (tDIn ta tb) (mOp (op2 (dDIn false)) ma mb) := fun G H σ ρ τ δ Q h w =>
  (eOp (r_din (neg := false)) ha hb G H σ ρ τ δ Q h w : tOp _ _ _ _ _ _) |> fun z => by simpa only [tOp, tDIn, Bool.false_xor] using z
theorem eDInN (ha : EOk K W ta ma) (hb : EOk K W tb mb) : EOk K W (tDNotIn ta tb) (mOp (op2 (dDIn true)) ma mb) := fun G H σ ρ τ δ Q h w =>
  (eOp (r_din (neg := true)) ha hb G H σ ρ τ δ Q h w : tOp _ _ _ _ _ _) |> fun z => by simpa only [tOp, tDNotIn, Bool.true_xor] using z
def qLenD : List V → Hp → VK → Prop := fun xs H Q => ∃ a kvs, xs = [V.ref a] ∧ Rd H a (.dK kvs) ∧ Q (.int kvs.length) H
theorem call_lenDR {X : Cx} : CallR X (.builtin "len") qLenD := by
  intro pins s σ H xs us Q I r h
  obtain ⟨a, kvs, rfl, ha, q⟩ := h
  obtain ⟨u, rfl, ru⟩ := vals1 r
  cases ru
  exact d_len I ha fun t s' I' => ⟨.int kvs.length, H, I', ⟨t, rfl⟩, q⟩
def dLenD : D → Option D := fun d => match d.pairs with
  | some es => some (.int es.length)
  | none => none
theorem c_lenD : R1Ok K (fun x H Q => qLenD [x] H Q) (op1 dLenD) := by
  intro G H σ ρ τ δ x s1 Q E hr w
  obtain ⟨a, d, rfl, e, q⟩ := op1_go w
  obtain ⟨F, r1, z⟩ := hr.top
  unfold dLenD at e
  split at e
  · rename_i es he
    cases e
    obtain ⟨p, kvs, rfl, _, rd, rk⟩ := r1.dict z.le he
    refine ⟨p, kvs, rfl, rd, ?_⟩
    rw [rk.len]
    exact q _ _ (hr.pop.push rfl)
  · cases e
def qListD : List V → Hp → VK → Prop := fun xs H Q => ∃ (a : Addr) (kvs : List (Key × V)), xs = [.ref a] ∧ Rd H a (.dK kvs) ∧ ∀ p, H p = none → Q (.ref p) (upd H p (.lst (kvs.map fun kv => kV kv.1)))
theorem call_listDR {X : Cx} (hc : X.calm = true := by rfl) : CallR X (.type "list") qListD := call_listD hc
def pListD : D → Option (Prop × Sl) := fun d => match d.pairs with
  | some es => some (True, .ow (.ol .fr) (.lst (es.map fun p => keyD p.1)))
  | none => none
theorem RepK.keyL : ∀ {kvs : List (Key × V)} {es : List (Key × D)}, RepK K F kvs es → RepL K F (kvs.map fun kv => kV kv.1) (es.map fun p => keyD p.1)
  | _, _, .nil => .nil
  | _, _, .cons r t => .cons rep_key (RepK.keyL t)
theorem c_listD : R1Ok K (fun x H Q => qListD [x] H Q) (op1P pListD) := by
  intro G H σ ρ τ δ x s1 Q E hr w
  obtain ⟨a, p, s, rfl, e, hp, q⟩ := op1P_go w
  obtain ⟨F, r1, z⟩ := hr.top
  unfold pListD at e
  split at e
  · rename_i es he
    cases e
    obtain ⟨p, kvs, rfl, _, rd, rk⟩ := r1.dict z.le he
    exact ⟨p, kvs, rfl, rd, fun l hl => q _ _ (z.ow _ _ _ _ hl (.ol upd_same rk.keyL.own))⟩
  · cases e
/-! {} -/
def mDNew : ME := M.ret (.ow (.od .fr) (.dic []))
theorem eDNew : EOk K W tDNewK mDNew := fun G H σ ρ τ δ Q h w p hp => by
  obtain ⟨F, r1, z⟩ := (h.push (d := .non) (v := .non) rfl).top
  exact w _ _ (z.ow p _ _ _ hp (.od upd_same .nil))
/-! a dict is locked for good -/
def tLk (t : TE) : TE := fun σ H Q => t σ H fun x H1 => ∃ d kvs, x = .ref d ∧ H1 d = some (.dK kvs) ∧ ∀ od, Q x (upd H1 d (.frz od (.dK kvs)))
theorem pe_lk {X : Cx} {e : Expr} {t : TE} (h : PE X e t) : PE X e (tLk t) := by
  refine ⟨fun pins s σ H Q I hw => ?_⟩
  refine thn (h.run pins s σ H _ I hw) fun v s1 ⟨x, H1, I2, r, d, kvs, ex, e2, q⟩ => ?_
  obtain ⟨od, I3⟩ := I2.lock e2 True.intro
  exact ⟨x, _, I3, r, q od⟩
theorem Rel.lock {v : V} {es : List (Key × D)} (h : Rel K G H σ ρ (some v :: τ) (.ow (.od .fr) (.dic es) :: δ)) : ∃ d kvs, v = .ref d ∧ H d = some (.dK kvs) ∧ ∀ od, Rel K G (upd H d (.frz od (.dK kvs))) σ ρ (some v :: τ) (.sh (.dil es) :: δ) := by
  obtain ⟨F, f1, f2, g, ht, hs⟩ := h
  cases ht with
  | cons h1 h2 =>
    rename_i f fp
    cases h1 with
    | ow q =>
      cases q with
      | @od _ a kvs _ fp' hh rk =>
        obtain ⟨rk', rfl⟩ := rk.rep
        refine ⟨a, kvs, rfl, hh, fun od => ?_⟩
        have g0 : Good G F H ([a] ++ (fp ++ f2)) := by simpa using g
        have g1 := g0.mut (a := a) (by simp) (.frz od (.dK kvs))
        have g2 := g1.fz
        have hne : ∀ b ∈ fp ++ f2, b ≠ a := fun b hb e => by
          have := (List.nodup_append.mp g0.nd).2.2 a (by simp) b hb
          exact this e.symm
        have le : Le F (fzH F (upd H a (.frz od (.dK kvs))) [a]) := fzH_le fun b hb => g1.nf b (List.mem_append_left _ hb)
        refine ⟨_, fp, f2, g2, .cons (f := []) (.sh (.dil (o := od) (kvs := kvs) ?_ (rk'.mono le))) (h2.mono le fun b hb => upd_ne (hne b (List.mem_append_left _ hb))), hs.mono le fun b hb => upd_ne (hne b (List.mem_append_right _ hb))⟩
        rw [fzH_in (by simp), upd_same]
def mLk (a : ME) : ME := a.bind fun s => match s with
  | .ow (.od .fr) (.dic es) => M.ret (.sh (.dil es))
  | _ => M.stuck
theorem eLk (ha : EOk K W ta ma) : EOk K W (tLk ta) (mLk ma) := fun G H σ ρ τ δ Q h w =>
  ha G H σ ρ τ δ _ h (ma.mono (fun s ρ1 w1 v H1 h1 => by
    simp only at w1
    split at w1
    · obtain ⟨d, kvs, ex, e, k⟩ := h1.lock
      exact ⟨d, kvs, ex, e, fun od => w1 _ _ (k od)⟩
    · exact w1.elim) (fun _ _ z => z) w)
/-- the slot's dict, locked -/
theorem Rel.lockV {i : Nat} {es : List (Key × D)} (h : Rel K G H σ ρ τ δ) (e : ρ[i]? = some (.ow (.od .fr) (.dic es))) : ∃ d kvs, σ[i]? = some (some (.ref d)) ∧ H d = some (.dK kvs) ∧ ∀ od, Rel K G (upd H d (.frz od (.dK kvs))) σ (ρ.set i (.sh (.dil es))) (some (.ref d) :: τ) (.sh (.dil es) :: δ) := by
  obtain ⟨F, f1, f2, g, ht, hs⟩ := h
  obtain ⟨o, l, f, r, e1, e2, h1, k⟩ := hs.at e
  cases h1 with
  | ow q =>
    cases q with
    | @od _ a kvs _ fp' hh rk =>
      obtain ⟨rk', rfl⟩ := rk.rep
      subst e1
      refine ⟨a, kvs, e2, hh, fun od => ?_⟩
      have h0 := k (some (.ref a)) .un [] .un
      rw [set_same e2] at h0
      have g0 : Good G F H ([a] ++ (f1 ++ (l ++ ([] ++ r)))) := by
        refine g.perm ?_
        refine List.perm_iff_count.mpr fun b => ?_
        simp only [List.count_append, List.count_nil]
        omega
      have g1 := g0.mut (a := a) (by simp) (.frz od (.dK kvs))
      have g2 := g1.fz
      have hne : ∀ b ∈ f1 ++ (l ++ ([] ++ r)), b ≠ a := fun b hb e => by
        have := (List.nodup_append.mp g0.nd).2.2 a (by simp) b hb
        exact this e.symm
      have le : Le F (fzH F (upd H a (.frz od (.dK kvs))) [a]) := fzH_le fun b hb => g1.nf b (List.mem_append_left _ hb)
      have rp : Rep K (fzH F (upd H a (.frz od (.dK kvs))) [a]) (.ref a) (.dil es) := .dil (o := od) (kvs := kvs) (by rw [fzH_in (by simp), upd_same]) (rk'.mono le)
      have h3 := h0.mono le (H' := upd H a (.frz od (.dK kvs))) fun b hb => upd_ne (hne b (List.mem_append_right _ hb))
      have hlt : i < ρ.length := by
        rcases Nat.lt_or_ge i ρ.length with z | z
        · exact z
        · rw [List.getElem?_eq_none z] at e; cases e
      obtain ⟨o2, l2, f2, r2, e12, e22, h12, k2⟩ := h3.at (i := i) (s := .un) (by rw [List.getElem?_set_self hlt])
      have : f2 = [] := by cases h12; rfl
      subst this
      have h4 := k2 (some (.ref a)) (.sh (.dil es)) [] (.sh rp)
      rw [set_same e2, List.set_set] at h4
      refine ⟨_, f1, _, g2.cnt fun b => ?_, .cons (f := []) (.sh rp) (ht.mono le fun b hb => upd_ne (hne b (List.mem_append_left _ hb))), h4⟩
      have c2 : (l ++ ([] ++ r)).count b = (l2 ++ ([] ++ r2)).count b := by rw [e12]
      simp only [List.count_append, List.count_nil] at c2 ⊢
      omega
def mVarL (i : Nat) : ME := ⟨fun ρ Q _ => match ρ[i]? with
  | some (.ow (.od .fr) (.dic es)) => Q (.sh (.dil es)) (ρ.set i (.sh (.dil es)))
  | _ => False, fun {ρ Q Q' E E'} h _ w => by
    revert w
    split
    · exact fun w => h _ _ w
    · exact id⟩
theorem eVarL {i : Nat} : EOk K W (tLk (tVar i)) (mVarL i) := fun G H σ ρ τ δ Q h w => by
  unfold mVarL at w
  simp only at w
  split at w
  · rename_i es e
    obtain ⟨d, kvs, e1, e2, k⟩ := h.lockV e
    exact ⟨_, e1, d, kvs, rfl, e2, fun od => w _ _ (k od)⟩
  · exact w.elim
/-! d[k] = v -/
theorem Rel.ownD {i : Nat} {s : Sl} {es : List (Key × D)} (h : Rel K G H σ ρ τ δ) (e : ρ[i]? = some s) (eo : s.own = some (.od .fr, .dic es)) : ∃ F f1 l kvs, Slots K F H τ δ f1 ∧ Le F H ∧ σ[i]? = some (some (.ref l)) ∧ H l = some (.dK kvs) ∧ RepK K F kvs es ∧ (∀ u x, Rep K F u x → Rel K G H σ ρ (some u :: τ) (.sh x :: δ)) ∧
    (∀ vs' ds', RepK K F vs' ds' → Rel K G (upd H l (.dK vs')) σ (ρ.set i (s.put (.od .fr) (.dic ds'))) τ δ) := by
  obtain ⟨F, f1, v, f, ht, hl, e1, q, kv, k⟩ := h.own e eo
  cases q with
  | @od _ l vs _ fp hh rl =>
    obtain ⟨rl', rfl⟩ := rl.rep
    exact ⟨F, f1, l, vs, ht, hl, e1, hh, rl', kv, fun vs' ds' r' => k l _ _ _ [l] (by simp) (.od upd_same r'.own) (fun _ => Nat.le_refl _)⟩
def isOwnD {α : Type} (i : Nat) (m : M α) : M α := atOwn i fun _ z d => match z, d with
  | .od .fr, .dic _ => m
  | _, _ => M.stuck
theorem isOwnD_go {α : Type} {i : Nat} {m : M α} {ρ : Env} {Q : α → Env → Prop} {E : Er → Env → Prop} (w : (isOwnD i m).wp ρ Q E) : ∃ s es, ρ[i]? = some s ∧ s.own = some (.od .fr, .dic es) ∧ m.wp ρ Q E := by
  obtain ⟨s, z, d, e, eo, w⟩ := atOwn_go w
  split at w
  · exact ⟨s, _, e, eo, w⟩
  · exact w.elim
/-- the pair is put -/
@[irreducible] def dPutM (i : Nat) (v k : Sl) : M Unit := match v, k with
  | .sh x, .sh kd => match kd.key with
    | some key => atOwn i fun s z d => ⟨fun ρ Q _ => match z, d with
      | .od .fr, .dic es => es.length < sizeLine ∧ Q () (ρ.set i (s.put (.od .fr) (.dic (putE es key x))))
      | _, _ => False, fun {ρ Q Q' E E'} h _ w => by
        revert w
        split
        · exact fun w => ⟨w.1, h _ _ w.2⟩
        · exact id⟩
    | none => M.stuck
  | _, _ => M.stuck
def sDPutM (i : Nat) (mk mv : ME) : MS := ⟨fun ρ M => mv.wp ρ (fun v r => (isOwnD i mk).wp r (fun k r => (dPutM i v k).wp r (fun _ r => M.nx r) (fun _ _ => False)) M.ex) M.ex,
  fun h w => mv.mono (fun v r z => (isOwnD i mk).mono (fun k r z => (dPutM i v k).mono (fun _ r z => h.nx r z) (fun _ _ z => z) z) h.ex z) h.ex w⟩
theorem zDPut {i : Nat} (hk : EOk K W tk mk) (hv : EOk K W tv mv) : SOk K W (sDPut (tVar i) tk tv) (sDPutM i mk mv) := fun G H σ ρ τ δ D M h hi w => by
  refine hv G H σ ρ τ δ _ h (mv.mono (fun s ρ1 w1 v H1 h1 => ?_) (fun e ρ' z => hi.ex σ e ρ' z) w)
  obtain ⟨s0, es0, e0, eo0, w1⟩ := isOwnD_go w1
  obtain ⟨F0, f0, l0, kvs0, _, _, el0, _⟩ := h1.ownD e0 eo0
  refine ⟨_, el0, hk G H1 σ ρ1 _ _ _ h1 (mk.mono (fun s2 ρ2 w2 y H2 h2 => ?_) (fun e ρ' z v' H' q => hi.ex σ e ρ' z v' H' q.drop2) w1)⟩
  unfold dPutM at w2
  split at w2
  · rename_i x kd
    split at w2
    · rename_i key ek
      obtain ⟨s1, z, d, e, eo, w2⟩ := atOwn_go w2
      simp only at w2
      split at w2
      · rename_i es
        obtain ⟨F, f1, l, kvs, ht, hl, e1, hh, rk, kv, k⟩ := h2.ownD e eo
        rw [el0] at e1
        cases e1
        cases ht with
        | cons q1 q2 =>
          cases q1 with
          | sh r1 =>
            cases q2 with
            | cons q3 q4 =>
              cases q3 with
              | sh r2 =>
                obtain rfl := r1.key ek
                refine ⟨l0, _, rfl, DPut.k hh (by rw [rk.len]; exact w2.1), hi.nx _ _ _ ((k _ _ (rk.put r2)).pop.pop) w2.2⟩
      · exact w2.elim
    · exact w2.elim
  · exact w2.elim
end
end Dl
/-! ### what stands is pinned: walks over dicts, stars -/
namespace Dl
open PySem PySem.Spec PyProof.Rows L2
section
variable {K : PySem.W.Frag} {W W' : WS} {ta tb tc te tn tk tv : TE} {ma mb mc me mn mk mv : ME} {t u : TS} {m k : MS} {tA tt : TT} {mA mt : MT} {tl : TA} {ml : MA} {G : Ent} {F H H' : Hp} {σ τ : L2.St} {ρ : Env} {δ : List Sl}
theorem Rel.enter (h : Rel K G H σ ρ τ δ) : ∃ F f1 f2, Slots K F H τ δ f1 ∧ Le F H ∧ Rel K ⟨H, F, f1 ++ f2⟩ H σ ρ τ δ ∧ ∀ H' σ' ρ' τ' δ', Rel K ⟨H, F, f1 ++ f2⟩ H' σ' ρ' τ' δ' → Rel K G H' σ' ρ' τ' δ' := by
  obtain ⟨F, f1, f2, g, ht, hs⟩ := h
  refine ⟨F, f1, f2, ht, g.sub, ⟨F, f1, f2, ⟨g.sub, Le.rfl, fun a e => .inl e, fun a o e _ => e, fun a e => e, fun a ha => .inl ha, g.nf, g.nd⟩, ht, hs⟩, ?_⟩
  rintro H' σ' ρ' τ' δ' ⟨F', g1, g2, g', ht', hs'⟩
  refine ⟨F', g1, g2, ?_, ht', hs'⟩
  have := Good.call (fR := []) (by simpa using g) g' (fun a ha => by cases ha)
  simpa using this
/-! walks over a locked dict's keys -/
def sForK (i : ME) (g : MG) (b : MS) : MS := ⟨fun ρ M => i.wp ρ (fun s r => match s with
  | .sh (.dil es) => forM g b (es.map fun p => keyD p.1) r M
  | _ => False) M.ex, fun {ρ M M'} h w => i.mono (fun s r z => by
    revert z
    split
    · exact fun z => forM_mono h z
    · exact id) h.ex w⟩
theorem walks_keys {d : Addr} {o : Obj} {kvs : List (Key × V)} {es : List (Key × D)} {H0 : Hp} {fp : List Addr} (hd : F d = some (.frz o (.dK kvs))) (rk : RepK K F kvs es) : Walks K ⟨H0, F, fp⟩ (Itk d o kvs) (es.map fun p => keyD p.1) [some (.ref d)] [.sh (.dil es)] where
  go := fun H σ ρ τ δ i h hi => by
    obtain ⟨F2, g1, g2, g, ht, hs⟩ := h
    refine ⟨g.sub _ _ (g.f0 _ _ hd), ?_⟩
    rw [List.length_map] at hi
    rw [rk.len]
    exact hi
  stop := fun H σ ρ τ δ h => by
    obtain ⟨F2, g1, g2, g, ht, hs⟩ := h
    refine ⟨g.sub _ _ (g.f0 _ _ hd), ?_⟩
    rw [List.length_map, rk.len]
    exact Nat.le_refl _
  yld := fun H σ ρ τ δ i x H' d' h hi y => by
    obtain ⟨rfl, k, v, e1, rfl⟩ := y
    have : d' = keyD k := by
      have e2 := congrArg (fun l => l[i]?) rk.keys
      simp only [List.getElem?_map] at e2 hi
      rw [e1] at e2
      cases e3 : es[i]? with
      | none => rw [e3] at hi; cases hi
      | some p =>
        rw [e3] at e2 hi
        cases e2
        exact (Option.some.inj hi).symm
    subst this
    obtain ⟨F2, g1, g2, g, ht, hs⟩ := h
    exact ⟨F2, g1, g2, g, .cons (f := []) (.sh rep_key) ht, hs⟩
theorem zForK {g : TG} {mg : MG} (ha : EOk K W ta ma) (hg : GOk K g mg) (hb : SOk K W t m) : SOk K W (tFor (iKeys ta) g t) (sForK ma mg m) := fun G H σ ρ τ δ D M h hi' w => by
  refine ha G H σ ρ τ δ _ h (ma.mono (fun s ρ1 w1 v H1 h1 => ?_) (fun e ρ' z => hi'.ex σ e ρ' z) w)
  split at w1
  · rename_i es
    obtain ⟨F, f1, f2, ht, hl, h2, back⟩ := h1.enter
    cases ht with
    | cons q1 q2 =>
      cases q1 with
      | sh r =>
        cases r with
        | @dil d o kvs _ hd rk =>
          refine ⟨d, o, rfl, .inl ⟨kvs, hl _ _ hd, ?_⟩⟩
          exact for_go hg hb (τ' := [some (.ref d)]) (δ' := [.sh (.dil es)]) rfl h2 (walks_keys hd rk) ⟨fun σ ρ H q => hi'.nx σ ρ H (back _ _ _ _ _ q), fun s ρ v σ H q => hi'.rt s ρ v σ H (back _ _ _ _ _ q), fun σ ρ H q => hi'.bk σ ρ H (back _ _ _ _ _ q), fun σ ρ H q => hi'.ct σ ρ H (back _ _ _ _ _ q), fun σ er ρ z v H q => hi'.ex σ er ρ z v H (back _ _ _ _ _ q)⟩ w1
  · exact w1.elim
/-- a comprehension over a locked dict's keys; nothing is raised within -/
def mLcK (vs : List Nat) (i : ME) (g : MG) (c : MT) (e : ME) : ME := ⟨fun ρ Q E => i.wp ρ (fun s r => match s with
  | .sh (.dil es) => lcM vs g c e (es.map fun p => keyD p.1) [] r (fun acc r => Q (.ow (.ol .fr) (.lst acc)) r) (fun _ _ => False)
  | _ => False) E, fun {ρ Q Q' E E'} h h' w => i.mono (fun s r z => by
    revert z
    split
    · exact fun z => lcM_mono (fun _ _ q => h _ _ q) (fun _ _ q => q) z
    · exact id) h' w⟩
theorem eLcK {g : TG} {mg : MG} {vs : List Nat} (ha : EOk K W ta ma) (hw : GW vs g) (hgm : GMono g) (hg : GOk K g mg) (hc : TOk K (fun _ _ _ _ => False) tt mt) (he : EOk K (fun _ _ _ _ => False) te me) : EOk K W (tLc (iKeys ta) g tt te vs) (mLcK vs ma mg mt me) := fun G H σ ρ τ δ Q h w => by
  refine ha G H σ ρ τ δ _ h (ma.mono (fun s ρ1 w1 v H1 h1 => ?_) (fun _ _ z => z) w)
  split at w1
  · rename_i es
    obtain ⟨F, f1, f2, ht, hl, h2, back⟩ := h1.enter
    cases ht with
    | cons q1 q2 =>
      cases q1 with
      | sh r =>
        cases r with
        | @dil d o kvs _ hd rk =>
          refine ⟨d, o, rfl, .inl ⟨kvs, hl _ _ hd, fun A0 hD => ?_⟩⟩
          exact lc_core_go (W' := fun _ _ _ _ => False) (E1 := fun _ _ => False) (fun _ _ z => z.elim) hw hgm hg hc he (τ' := [some (.ref d)]) (δ' := [.sh (.dil es)]) rfl h2 (walks_keys hd rk) (lcM_mono (fun acc r z v H' q => z v H' (back _ _ _ _ _ q)) (fun _ _ z => z) w1) A0 hD
  · exact w1.elim
/-! [*xs, y] -/
theorem Slots.ofRepL : ∀ {vs : List V} {ds : List D}, RepL K F vs ds → Slots K F H (vs.map some) (ds.map Sl.sh) []
  | _, _, .nil => .nil
  | _, _, .cons r t => .cons (f := []) (.sh r) (Slots.ofRepL t)
def mStar (a : ME) (l : MA) : MA := a.bind fun s => match s with
  | .sh d => match d.seq with
    | some xs => l.bind fun ss => M.ret (xs.map Sl.sh ++ ss)
    | none => M.stuck
  | _ => M.stuck
theorem aStar (ha : EOk K W ta ma) (hl : AOk K W tl ml) : AOk K W (StX.tStar K ta tl) (mStar ma ml) := fun G H σ ρ τ δ Q h w => by
  refine ha G H σ ρ τ δ _ h (ma.mono (fun s ρ1 w1 v H1 h1 => ?_) (fun _ _ z => z) w)
  simp only at w1
  split at w1
  · rename_i d
    split at w1
    · rename_i xs hx
      obtain ⟨F, f1, f2, ht, hle, h2, back⟩ := h1.enter
      cases ht with
      | cons q1 q2 =>
        cases q1 with
        | sh r =>
          obtain ⟨p, vs, rfl, rl, k⟩ := r.seq hle hx
          refine ⟨p, vs, rfl, ?_, ?_⟩
          · rcases k with k | k
            · exact .inr k.1
            · exact .inl k.1
          refine hl _ H1 σ ρ1 _ _ _ h2 (ml.mono (fun ss ρ2 w2 ys H2 el h3 => ?_) (fun e ρ' z v' H' q => z v' H' (back _ _ _ _ _ q).drop2) w1)
          refine w2 (vs ++ ys) H2 (by rw [List.length_append, List.length_append, List.length_map, rl.len, el]) (back _ _ _ _ _ ?_)
          obtain ⟨F2, g1, g2, g, ht2, hs2⟩ := h3
          obtain ⟨a1, a2, rfl, s1, s2⟩ := Slots.split (by rw [List.length_map, el]) ht2
          generalize hfp : a2 = A2 at s2
          cases s2 with
          | @cons _ _ fz fp _ _ z1 z2 =>
            cases z1 with
            | sh rr =>
              refine ⟨F2, a1 ++ fp, g2, ?_, ?_, hs2⟩
              rotate_left
              · have := (Slots.ofRepL (H := H2) (rl.mono g.f0)).app (s1.app z2)
                rw [← List.append_assoc, ← List.append_assoc, ← List.map_append] at this
                simpa using this
              · subst hfp
                simpa using g
    · exact w1.elim
  · exact w1.elim
/-! {**d, k: v} -/
theorem merge_nodup : ∀ {kvs acc : List (Key × V)}, ((acc ++ kvs).map (·.1)).Nodup → mergeK acc kvs = acc ++ kvs
  | [], acc, _ => (List.append_nil _).symm
  | p :: kvs, acc, h => by
    have fr : ¬ (acc.any fun kv => decide (kv.1 = p.1)) = true := fun z => by
      obtain ⟨x, hx, e⟩ := List.any_eq_true.mp z
      rw [List.map_append, List.map_cons, List.nodup_append] at h
      exact h.2.2 x.1 (List.mem_map.mpr ⟨x, hx, rfl⟩) p.1 List.mem_cons_self (of_decide_eq_true e)
    have e1 : putK acc p.1 p.2 = acc ++ [p] := by unfold putK; rw [if_neg fr]
    show mergeK (putK acc p.1 p.2) kvs = _
    rw [e1, merge_nodup (by simpa using h), List.append_assoc]
    rfl
def mDStar (a k v : ME) : ME := a.bind fun s => match s with
  | .sh d => match d.pairs with
    | some es => need ((es.map (fun p => p.1)).Nodup ∧ es.length < 1000) (k.bind fun s1 => v.bind fun s2 => match s1, s2 with
      | .sh kd, .sh x => match kd.key with
        | some key => M.ret (.ow (.od .fr) (.dic (putE es key x)))
        | none => M.stuck
      | _, _ => M.stuck)
    | none => M.stuck
  | _ => M.stuck
theorem eDStar (ha : EOk K W ta ma) (hk : EOk K W tk mk) (hv : EOk K W tv mv) : EOk K W (StX.tDStar ta tk tv) (mDStar ma mk mv) := fun G H σ ρ τ δ Q h w p hp => by
  obtain ⟨F0, r0, z0⟩ := (h.push (d := .non) (v := .non) rfl).top
  have h0 := z0.ow p (.dK []) (.od .fr) (.dic []) hp (.od upd_same .nil)
  refine ha G _ σ ρ _ _ _ h0 (ma.mono (fun s ρ1 w1 v H1 h1 => ?_) (fun e ρ' z v' H' q => z v' H' q.drop2) w)
  simp only at w1
  split at w1
  · rename_i d
    split at w1
    · rename_i es hx
      obtain ⟨⟨hn, hl⟩, w1⟩ := w1
      obtain ⟨F, f1, f2, g, ht, hs⟩ := h1
      cases ht with
      | cons q1 q2 =>
        cases q1 with
        | sh r =>
          cases q2 with
          | cons q3 q4 =>
            cases q3 with
            | ow o =>
              cases o with
              | @od _ _ kvs0 _ fp0 hh rk0 =>
                obtain ⟨rk0', rfl⟩ := rk0.rep
                cases rk0'
                rename_i fT
                obtain ⟨a, kvs, rfl, hFa, rd, rk⟩ := r.dict g.sub hx
                have g0 : Good G F H1 ([p] ++ (fT ++ f2)) := by simpa using g
                have hFp : F p = none := g0.nf p (by simp)
                have hap : a ≠ p := fun z => hFa (z ▸ hFp)
                have em : mergeK [] kvs = kvs := merge_nodup (acc := []) (by rw [List.nil_append, rk.keys]; exact hn)
                refine ⟨a, kvs, rfl, rd, hap, hh, by rw [rk.len]; exact hl, fun q hq => ?_⟩
                rw [em] at hq ⊢
                have g1 := g0.mut (a := p) (by simp) (.dK kvs)
                have ne1 : ∀ b ∈ fT ++ f2, b ≠ p := fun b hb e => (List.nodup_append.mp g0.nd).2.2 p (by simp) b hb e.symm
                have here1 : ∀ b ∈ [p] ++ (fT ++ f2), upd H1 p (.dK kvs) b ≠ none := fun b hb => by
                  rcases List.mem_append.mp hb with hb | hb
                  · rw [List.mem_singleton.mp hb, upd_same]; intro z; cases z
                  · rw [upd_ne (ne1 b hb)]
                    rcases List.mem_append.mp hb with hb | hb
                    · exact q4.here b hb
                    · exact hs.here b hb
                have g2 := g1.newO here1 hq (.dK [])
                have ne2 : ∀ b ∈ fT ++ f2, b ≠ q := fun b hb e => by
                  have := here1 b (List.mem_append_right _ hb)
                  rw [e] at this
                  exact this hq
                have npq : p ≠ q := fun e => by
                  have := here1 p (by simp)
                  rw [e] at this
                  exact this (by rw [← e] at hq ⊢; exact hq)
                have same : ∀ b ∈ fT ++ f2, upd (upd H1 p (.dK kvs)) q (.dK []) b = H1 b := fun b hb => by rw [upd_ne (ne2 b hb), upd_ne (ne1 b hb)]
                have s1 := q4.mono (F' := F) (H' := upd (upd H1 p (.dK kvs)) q (.dK [])) Le.rfl fun b hb => same b (List.mem_append_left _ hb)
                have s2 := hs.mono (F' := F) (H' := upd (upd H1 p (.dK kvs)) q (.dK [])) Le.rfl fun b hb => same b (List.mem_append_right _ hb)
                have g3 : Good G F (upd (upd H1 p (.dK kvs)) q (.dK [])) ((fT ++ f2) ++ [p, q]) := g2.perm (by
                  refine List.perm_iff_count.mpr fun b => ?_
                  simp only [List.count_append, List.count_cons, List.count_nil]
                  omega)
                have here3 : ∀ b ∈ [p, q], upd (upd H1 p (.dK kvs)) q (.dK []) b ≠ none := fun b hb => by
                  rcases List.mem_cons.mp hb with rfl | hb
                  · rw [upd_ne npq, upd_same]; intro z; cases z
                  · rw [List.mem_singleton.mp hb, upd_same]; intro z; cases z
                generalize hHH : upd (upd H1 p (.dK kvs)) q (.dK []) = HH at s1 s2 g3 here3
                have hHp : HH p = some (.dK kvs) := by rw [← hHH, upd_ne npq, upd_same]
                have hHq : HH q = some (.dK []) := by rw [← hHH, upd_same]
                have h2 : Rel K ⟨HH, F, fT ++ f2⟩ HH σ ρ1 τ δ := ⟨F, fT, f2, ⟨g3.sub, Le.rfl, fun a e => .inl e, fun a o e _ => e, fun a e => e, fun a ha => .inl ha, fun a ha => g3.nf a (List.mem_append_left _ ha), (List.nodup_append.mp g3.nd).1⟩, s1, s2⟩
                have back : ∀ {σ' : L2.St} {ρ' : Env} {τ' : L2.St} {δ' : List Sl} {Hx : Hp}, Rel K ⟨HH, F, fT ++ f2⟩ Hx σ' ρ' τ' δ' → Rel K G Hx σ' ρ' τ' δ' := fun {σ' ρ' τ' δ' Hx} ⟨F', x1, x2, c, y1, y2⟩ => ⟨F', x1, x2, (Good.call g3 c here3).less (List.sublist_append_left _ _), y1, y2⟩
                refine hk _ HH σ ρ1 τ δ _ h2 (mk.mono (fun t1 ρ2 w2 y H2 h3 => ?_) (fun e ρ' z v' H' qq => z v' H' (back qq)) w1)
                refine hv _ H2 σ ρ2 _ _ _ h3 (mv.mono (fun t2 ρ3 w3 u H3 h4 => ?_) (fun e ρ' z v' H' qq => z v' H' (back qq).drop2) w2)
                simp only at w3
                split at w3
                · rename_i kd x
                  split at w3
                  · rename_i key ek
                    obtain ⟨F', x1, x2, c, y1, y2⟩ := h4
                    cases y1 with
                    | cons a1 a2 =>
                      cases a1 with
                      | sh ru =>
                        cases a2 with
                        | cons b1 b2 =>
                          cases b1 with
                          | sh ry =>
                            rename_i fW
                            obtain rfl := ry.key ek
                            have pn : p ∉ fT ++ f2 := fun z => ne1 p z rfl
                            have qn : q ∉ fT ++ f2 := fun z => ne2 q z rfl
                            have e1 : H3 p = some (.dK kvs) := c.frm p _ hHp pn
                            have e2 : H3 q = some (.dK []) := c.frm q _ hHq qn
                            refine ⟨key, rfl, e2, e1, w3 _ _ ?_⟩
                            have g4 := Good.call g3 c here3
                            have g5 := (g4.mut (a := q) (by simp) (.dK [(key, u)])).mut (a := p) (by simp) (.dK (mergeK kvs [(key, u)]))
                            have nin : ∀ b ∈ fW ++ x2, b ≠ p ∧ b ≠ q := fun b hb => by
                              have := (List.nodup_append.mp g4.nd).2.2 b (by simpa using hb)
                              exact ⟨fun e => this p (by simp) e, fun e => this q (by simp) e⟩
                            have same2 : ∀ b ∈ fW ++ x2, upd (upd H3 q (.dK [(key, u)])) p (.dK (mergeK kvs [(key, u)])) b = H3 b := fun b hb => by rw [upd_ne (nin b hb).1, upd_ne (nin b hb).2]
                            refine ⟨F', [p] ++ fW, x2, ?_, .cons (f := [p]) (.ow (.od upd_same (RepK.own (RepK.put (rk.mono c.f0) ru)))) (b2.mono Le.rfl fun b hb => same2 b (List.mem_append_left _ hb)), y2.mono Le.rfl fun b hb => same2 b (List.mem_append_right _ hb)⟩
                            refine g5.cnt fun b => ?_
                            simp only [List.count_append, List.count_cons, List.count_nil]
                            omega
                  · exact w3.elim
                · exact w3.elim
    · exact w1.elim
  · exact w1.elim
end
end Dl
/-! ### calls with keywords; default tuples -/
namespace Cl
open PySem PySem.Spec PyProof.Rows L2
section
variable {X : Cx} {CX : CXT} {k n : Nat} {f C : Addr} {fd : FuncData} {ps ks : List Str} {sp : Sp} {E : L2.St → XK} {x m : Str} {p pos apos : Pos} {e o : Expr} {es : List Expr} {kws : List Keyword} {ta : TE} {t tk : TA} {g : List Value → List Value → List Value} {gV : List V → List V → List V}
theorem runKw {pins : List (Addr × Obj)} {σ : L2.St} {H : Hp} {s : Shared} {Q : VK} {us ws : List Value} {vs zs : List V} (F : FnOk X.prog X.w X.K X.mg X.base CX k f fd ps sp) (hr : Room k X.A) (hb : KBn X.K fd ps n ks g gV) (hx : PassesAt CX X σ (E σ)) (I : Inv X pins σ H s)
    (r : Vals vs us) (rz : Vals zs ws) (l1 : vs.length = n) (l2 : zs.length = ks.length) (h : sp (gV vs zs) H Q (E σ)) :
    codeAny (model X.prog X.w) X.A (.call (.ref f) ⟨us, ks.zip ws⟩) (fun r s' => match r with | .ok (.ret v) => EP X pins σ Q v s' | .ok _ => False | .error e => X.xe e s') s :=
  codeAny_mono (F.run X.A X.stack s H ⟨us, ks.zip ws⟩ (g us ws) (gV vs zs) Q (E σ) hr I.env0 (hb.to s us ws I.kIn (r.length.symm.trans l1) (rz.length.symm.trans l2)) (hb.rel r rz) h) fun r s' hq => by
    cases r with
    | error er => exact hx pins H s er s' I hq
    | ok fl => cases fl <;> first | exact I.after hq | exact False.elim hq
/-- f(e, .., k = v, ..) -/
def tKw (n m : Nat) (sp : Sp) (gV : List V → List V → List V) (E : L2.St → XK) (t tk : TA) : TE := fun σ H Q => t σ H fun vs H1 => tk σ H1 fun zs H2 => vs.length = n ∧ zs.length = m ∧ sp (gV vs zs) H2 Q (E σ)
theorem pe_kw (F : FnOk X.prog X.w X.K X.mg X.base CX k f fd ps sp) (hb : KBn X.K fd ps n ks g gV) (hr : Room k X.A) (hg : Gl X x) (hm : X.mg x = some (.ref f)) (hk : PySem.W.keepIn X.K (.ref f) = true) (hx : ∀ σ, PassesAt CX X σ (E σ))
    (ha : PA X (e :: es) t) (hkw : PK X kws tk) (hall : (backToKw pos (keywordEach kws X.env)).all (·.1.isSome) = true := by rfl) (hks : (backToKw pos (keywordEach kws X.env)).filterMap (·.1) = ks := by rfl)
    (hdb : (x == ("__debug__" : Str)) = false := by decide) (he : starEach (e :: es) X.env = (false, eval e X.env) :: starEach es X.env := by rfl)
    (hpl : ((backTo pos (starEach (e :: es) X.env)).any (·.1) || (backToKw pos (keywordEach kws X.env)).any (·.1.isNone)) = false := by rfl) :
    PE X (.Call (.Name x p) (e :: es) kws pos) (tKw n ks.length sp gV E t tk) := by
  refine ⟨fun pins s σ H Q I h => ?_⟩
  refine wpAny_Call_Name_kw (ld_glob I hg hm ?_ hdb)
  refine PySem.W.callWith_KW (h₀ := X.base) I.ok.mod.kin hk hall (thn (ha.run pos pins s σ H _ I h) fun us s1 ⟨vs, H1, I1, r, q⟩ => ?_) hpl he
  refine thn (hkw.run pos pins s1 σ H1 _ I1 q) fun ws s2 ⟨zs, H2, I2, rz, l1, l2, q2⟩ => ⟨I2.kIn, ?_⟩
  rw [hks]
  exact wpAny_call (runKw F hr hb (hx σ) I2 r rz l1 l2 q2)
/-- o.m(e, .., k = v, ..) -/
def tMkw (C : Addr) (m : Str) (n l : Nat) (sp : Sp) (gV : List V → List V → List V) (E : L2.St → XK) (ta : TE) (t tk : TA) : TE := fun σ H Q => ta σ H fun x H1 => ∃ a dx fs, x = .ref a ∧ H1 a = some (.ins C dx fs) ∧ fs.lookup m = none ∧ t σ H1 fun vs H2 => tk σ H2 fun zs H3 => vs.length = n ∧ zs.length = l ∧ sp (gV (.ref a :: vs) zs) H3 Q (E σ)
theorem pe_mkw {pl : Sem Bool} (he : PE X o ta) (c : Cls X.K C) (hm : Meth X.K C m f) (F : FnOk X.prog X.w X.K X.mg X.base CX k f fd ps sp) (hb : KBn X.K fd ps (n + 1) ks g gV) (hr : Room k X.A) (hx : ∀ σ, PassesAt CX X σ (E σ)) (ha : PA X (e :: es) t) (hkw : PK X kws tk)
    (hall : (backToKw pos (keywordEach kws X.env)).all (·.1.isSome) = true := by rfl) (hks : (backToKw pos (keywordEach kws X.env)).filterMap (·.1) = ks := by rfl)
    (hst : starEach (e :: es) X.env = (false, eval e X.env) :: starEach es X.env := by rfl)
    (hpl : ((backTo pos (starEach (e :: es) X.env)).any (·.1) || (backToKw pos (keywordEach kws X.env)).any (·.1.isNone)) = false := by rfl)
    (ht : eval (.Call (.Attribute o m apos) (e :: es) kws pos) X.env = (do
      let ov ← eval o X.env
      standAt apos.atName
      let (f, first) ← holding [ov] (getMethod ov m pl)
      callWith pos f first (backTo pos (starEach (e :: es) X.env)) (backToKw pos (keywordEach kws X.env))) := by rfl) :
    PE X (.Call (.Attribute o m apos) (e :: es) kws pos) (tMkw C m n ks.length sp gV E ta t tk) := by
  refine ⟨fun pins s σ H Q I h => PySem.W.methodCall_KW (pl := pl) (thn (he.run pins s σ H _ I h) fun u s1 ⟨x, H1, I1, rx, a, dx, fs, ex, ea, l, q⟩ => ?_) ht⟩
  subst ex
  obtain rfl : u = Value.ref a := rx
  refine getmeth_ok I1 ea c hm l (PySem.W.callWith_KW (first := [.ref a]) (h₀ := X.base) I.ok.mod.kin hm.kp hall (thn (ha.run pos pins s1 σ H1 _ I1 q) fun us s2 ⟨vs, H2, I2, r, q2⟩ => ?_) hpl hst)
  refine thn (hkw.run pos pins s2 σ H2 _ I2 q2) fun ws s3 ⟨zs, H3, I3, rz, l1, l2, q3⟩ => ⟨I3.kIn, ?_⟩
  rw [hks]
  exact wpAny_call (runKw (us := .ref a :: us) (vs := .ref a :: vs) F hr hb (hx σ) I3 (.cons rfl r) rz (by rw [List.length_cons, l1]) l2 q3)
end
end Cl
namespace Dl
open PySem PySem.Spec PyProof.Rows L2
section
variable {K : PySem.W.Frag} {W W' : WS} {ta tb tc te tn : TE} {ma mb mc me mn : ME} {t tk tB tl : TA} {mB ml : MB} {gV : List V → List V → List V} {n l c : Nat} {ds : M Sl}
/-- a default stands here -/
def tDf (v : V) (t : TA) : TA := fun σ H Q => t σ H fun vs H1 => Q (v :: vs) H1
def bDf (d : D) (m : MB) : MB := m.bind fun as => M.ret (.s (.sh d) :: as)
theorem bDfl {v : V} {d : D} (hr : ∀ F, Rep K F v d) (hl : BOk K W tl ml) : BOk K W (tDf v tl) (bDf d ml) := fun G H σ ρ τ δ Q h w =>
  hl G H σ ρ τ δ _ h (ml.mono (fun ss ρ2 w2 vs H2 τs δs ha h2 => w2 (v :: vs) H2 _ _ (.s ha) (by
    obtain ⟨F, f1, f2, g, ht, hs⟩ := h2
    exact ⟨F, f1, f2, g, .cons (f := []) (.sh (hr F)) ht, hs⟩)) (fun _ _ z => z) w)
theorem eKw (hB : BOk K W tB mB) (hT : ∀ σ H Q, tB σ H (fun l' H' => n = n ∧ l = l ∧ spOf K ds l' H' Q (W σ)) → Cl.tKw n l (spOf K ds) gV W t tk σ H Q) : EOk K W (Cl.tKw n l (spOf K ds) gV W t tk) (mCall ds [] mB) := fun G H σ ρ τ δ Q h w =>
  hT σ H Q (hB G H σ ρ τ δ _ h (mB.mono (fun ags ρ1 w1 vs H1 τs δs ha h1 => ⟨rfl, rfl, by
    have := callCore (dvs := []) (dv := []) ha h1 (fun _ => .nil) (fun er ρ' z => z) w1
    rwa [List.append_nil] at this⟩) (fun _ _ z => z) w))
theorem eMKw {m : Str} (hn : m ∉ cf c) (ha : EOk K W ta ma) (hB : BOk K W tB mB) (hT : ∀ a σ H Q, tB σ H (fun l' H' => n = n ∧ l = l ∧ spOf K ds (.ref a :: l') H' Q (W σ)) → t σ H fun vs H2 => tk σ H2 fun zs H3 => vs.length = n ∧ zs.length = l ∧ spOf K ds (gV (.ref a :: vs) zs) H3 Q (W σ)) :
    EOk K W (Cl.tMkw (He.ga K (cn c)) m n l (spOf K ds) gV W ta t tk) (mMeth c ds [] ma mB) := fun G H σ ρ τ δ Q h w =>
  ha G H σ ρ τ δ _ h (ma.mono (fun s1 ρ1 w1 v1 H1 h1 => by
    simp only at w1
    split at w1
    · split at w1
      · rename_i c' fs hc
        subst hc
        obtain ⟨F, r, z⟩ := h1.top
        cases r with
        | obj k1 k2 kn kr =>
          refine ⟨_, _, _, rfl, z.le _ _ k1, look_no (by rw [kn]; exact fun z => hn (List.mem_of_mem_take z)), hT _ σ H1 Q ?_⟩
          refine hB G H1 σ ρ1 _ _ _ h1 (mB.mono (fun ags ρ2 w2 vs H2 τs δs ha h2 => ⟨rfl, rfl, ?_⟩) (fun e ρ' z v H' q => z v H' q.drop2) w1)
          have := callCore (dvs := []) (dv := []) (.s ha) (Rel.rot ha.len h2) (fun _ => .nil) (fun er ρ' z => z) w2
          rwa [List.append_nil] at this
      · exact w1.elim
    · exact w1.elim) (fun _ _ z => z) w)
end
end Dl
namespace Cl
open PySem PySem.Spec PyProof.Rows L2
def rIxQ (K : PySem.W.Frag) : R2 := fun x y H Q => rIxL K x y H Q ∨ rIxT K x y H Q
theorem ixQ {X : Cx} (K : PySem.W.Frag) (hK : X.K = K := by rfl) : IxR X (rIxQ K) := by
  intro value slice pins s σ H x y v u Q I r1 r2 h hs
  rcases h with h | h
  · exact ixL K hK value slice pins s σ H x y v u Q I r1 r2 h hs
  · exact ixT K hK value slice pins s σ H x y v u Q I r1 r2 h hs
end Cl
namespace Dl
open PySem PySem.Spec PyProof.Rows L2
/-- an item of a list or a tuple -/
def dIxQ : D → D → Option D
  | .lst xs, .int i => L2.atI xs i
  | .tup xs, .int i => L2.atI xs i
  | _, _ => none
theorem r_ixQ {K : PySem.W.Frag} : R2Ok K (Cl.rIxQ K) (op2 dIxQ) := by
  intro G H σ ρ τ δ x y s1 s2 Q E hr w
  obtain ⟨a, b, d, rfl, rfl, e, q⟩ := op2_go w
  obtain ⟨F, r1, r2, z⟩ := hr.top2
  unfold dIxQ at e
  split at e
  · cases r1 with
    | lst h r =>
      cases r2
      obtain ⟨v, h1, h2⟩ := r.atI e
      exact .inl ⟨_, _, _, v, rfl, rfl, SqL.of (z.le _ _ h), h1, q _ _ (z.sh _ _ h2)⟩
  · cases r1 with
    | tup h r =>
      cases r2
      obtain ⟨v, h1, h2⟩ := r.atI e
      exact .inr ⟨_, _, _, v, rfl, rfl, sqt_mono z.le h, h1, q _ _ (z.sh _ _ h2)⟩
  · cases e
end Dl
/-! ### a walk over an owned list that its body leaves alone -/
namespace Dl
open PySem PySem.Spec PyProof.Rows L2
section
variable {K : PySem.W.Frag} {W W' : WS} {ta tb tc te tn tk tv : TE} {ma mb mc me mn mk mv : ME} {t u : TS} {m k : MS} {tA tt : TT} {mA mt : MT} {tl : TA} {ml : MA} {G : Ent} {F H H' : Hp} {σ τ : L2.St} {ρ : Env} {δ : List Sl}
def leL (v : V) (xs : List D) : Sl := .le v (.ol .fr) (.lst xs)
def owL (xs : List D) : Sl := .ow (.ol .fr) (.lst xs)
def offO (i : Nat) (v : V) (xs : List D) (k : Env → Prop) : Env → Prop := fun r => r[i]? = some (leL v xs) ∧ k (r.set i (owL xs))
def forO (i : Nat) (v : V) (xs : List D) (g : MG) (b : MS) : List D → Env → MEnds → Prop
  | [], ρ, M => offO i v xs M.nx ρ
  | d :: ds, ρ, M => ρ[i]? = some (leL v xs) ∧ (g (.sh d)).wp ρ (fun _ r => b.wp r { M with nx := fun r => forO i v xs g b ds r M, ct := fun r => forO i v xs g b ds r M, bk := offO i v xs M.nx }) (fun _ _ => False)
theorem forO_mono {i : Nat} {v : V} {xs : List D} {g : MG} {b : MS} {M M' : MEnds} (h : M.Le M') : ∀ {ds : List D} {ρ : Env}, forO i v xs g b ds ρ M → forO i v xs g b ds ρ M'
  | [], ρ, w => ⟨w.1, h.nx _ w.2⟩
  | d :: ds, ρ, w => ⟨w.1, (g (.sh d)).mono (fun _ r z => b.mono (M := { M with nx := fun r => forO i v xs g b ds r M, ct := fun r => forO i v xs g b ds r M, bk := offO i v xs M.nx }) ⟨fun r z => forO_mono h z, h.rt, fun r z => ⟨z.1, h.nx _ z.2⟩, fun r z => forO_mono h z, h.ex⟩ z) (fun _ _ z => z) w.2⟩
theorem forO_at {i : Nat} {v : V} {xs : List D} {g : MG} {b : MS} {M : MEnds} {ds : List D} {ρ : Env} (w : forO i v xs g b ds ρ M) : ρ[i]? = some (leL v xs) := by
  cases ds with
  | nil => exact w.1
  | cons d ds => exact w.1
def sForO (i : Nat) (g : MG) (b : MS) : MS := ⟨fun ρ M => match ρ[i]? with
  | some (.ow (.ol .fr) (.lst xs)) => ∀ v, forO i v xs g b xs (ρ.set i (leL v xs)) M
  | _ => False, fun {ρ M M'} h w => by
    revert w
    split
    · exact fun w v => forO_mono h (w v)
    · exact id⟩
theorem Rel.toLe {i : Nat} {xs : List D} (h : Rel K G H σ ρ τ δ) (e : ρ[i]? = some (owL xs)) : ∃ a, σ[i]? = some (some (.ref a)) ∧ Rel K G H σ (ρ.set i (leL (.ref a) xs)) τ δ := by
  obtain ⟨F, f1, f2, g, ht, hs⟩ := h
  obtain ⟨o, l, f, r, e1, e2, h1, k⟩ := hs.at e
  cases h1 with
  | ow q =>
    cases q with
    | @ol _ a vs _ fp hh rl =>
      refine ⟨a, e2, ?_⟩
      have := k (some (.ref a)) (leL (.ref a) xs) _ (.le (.ol hh rl))
      rw [set_same e2, ← e1] at this
      exact ⟨F, f1, _, g, ht, this⟩
theorem Rel.ofLe {i : Nat} {v : V} {xs : List D} (h : Rel K G H σ ρ τ δ) (e : ρ[i]? = some (leL v xs)) : Rel K G H σ (ρ.set i (owL xs)) τ δ := by
  obtain ⟨F, f1, f2, g, ht, hs⟩ := h
  obtain ⟨o, l, f, r, e1, e2, h1, k⟩ := hs.at e
  cases h1 with
  | le q =>
    have := k (some v) (owL xs) _ (.ow q)
    rw [set_same e2, ← e1] at this
    exact ⟨F, f1, _, g, ht, this⟩
theorem Rel.atLe {i : Nat} {v : V} {xs : List D} (h : Rel K G H σ ρ τ δ) (e : ρ[i]? = some (leL v xs)) : ∃ a vs, v = .ref a ∧ H a = some (.lst vs) ∧ vs.length = xs.length ∧ ∀ (j : Nat) x d, vs[j]? = some x → xs[j]? = some d → Rel K G H σ ρ (some x :: τ) (.sh d :: δ) := by
  obtain ⟨F, f1, f2, g, ht, hs⟩ := h
  obtain ⟨o, l, f, r, e1, e2, h1, k⟩ := hs.at e
  cases h1 with
  | le q =>
    cases q with
    | @ol _ a vs _ fp hh rl =>
      obtain ⟨rl', _⟩ := rl.rep
      exact ⟨a, vs, rfl, hh, rl'.len, fun j x d e3 e4 => by
        obtain ⟨v, e5, rv⟩ := rl'.get e4
        rw [e3] at e5
        cases e5
        exact ⟨F, f1, _, g, .cons (f := []) (.sh rv) ht, hs⟩⟩
theorem zForO {i : Nat} {g : TG} {mg : MG} (hg : GOk K g mg) (hb : SOk K W t m) : SOk K W (tFor (iList K (tVar i)) g t) (sForO i mg m) := fun G H σ ρ τ δ D M h hi' w => by
  unfold sForO at w
  simp only at w
  split at w
  · rename_i xs e
    obtain ⟨a, ea, h1⟩ := h.toLe e
    have hlt : i < ρ.length := by
      rcases Nat.lt_or_ge i ρ.length with z | z
      · exact z
      · rw [List.getElem?_eq_none z] at e; cases e
    obtain ⟨a', vs0, q0, hh0, hl0, _⟩ := h1.atLe (i := i) (v := .ref a) (xs := xs) (by rw [List.getElem?_set_self hlt])
    cases q0
    refine ⟨_, ea, a, rfl, ⟨_, SqL.of hh0⟩, ?_⟩
    refine ⟨fun j n σ' H' => n = xs.length - j ∧ j ≤ xs.length ∧ ∃ ρ', Rel K G H' σ' ρ' τ δ ∧ forO i (.ref a) xs mg m (xs.drop j) ρ' M, ⟨_, rfl, Nat.zero_le _, _, h1, w (.ref a)⟩, ?_⟩
    rintro j n σ' H' ⟨rfl, hle, ρ', h2, w2⟩
    obtain ⟨a', vs, q, hh, hl, kk⟩ := h2.atLe (forO_at w2)
    cases q
    by_cases hj : j < xs.length
    · have hd : xs.drop j = xs[j] :: xs.drop (j + 1) := List.drop_eq_getElem_cons hj
      rw [hd] at w2
      refine .inr ⟨(walk_list (K := K)).goes j H' (by omega) (SqL.of hh), fun σ2 H2 => ∃ ρ2, Rel K G H2 σ2 ρ2 τ δ ∧ forO i (.ref a) xs mg m (xs.drop (j + 1)) ρ2 M, fun σ2 H2 ⟨ρ2, h3, w3⟩ => ⟨_, by omega, rfl, hj, ρ2, h3, w3⟩, fun x H2 y => ?_⟩
      obtain ⟨e1, e2⟩ := (walk_list (K := K) (a := a) (xs := vs)).yields j H' x H2 (by omega) (SqL.of hh) y
      subst e1
      have h3 := kk j x xs[j] e2 (List.getElem?_eq_getElem hj)
      refine hg G H2 σ' ρ' _ _ x _ _ h3 ((mg _).mono (fun _ ρ3 w3 σ3 H3 h4 => ?_) (fun _ _ z => z) w2.2)
      exact hb G H3 σ3 ρ3 _ _ _ { M with nx := fun r => forO i (.ref a) xs mg m (xs.drop (j + 1)) r M, ct := fun r => forO i (.ref a) xs mg m (xs.drop (j + 1)) r M, bk := offO i (.ref a) xs M.nx } h4 ⟨fun σ4 ρ4 H4 h5 w4 => ⟨ρ4, h5, w4⟩, fun s ρ4 v σ4 H4 h5 w4 => hi'.rt s ρ4 v σ4 H4 h5 w4, fun σ4 ρ4 H4 h5 w4 => hi'.nx σ4 _ H4 (h5.ofLe w4.1) w4.2, fun σ4 ρ4 H4 h5 w4 => ⟨ρ4, h5, w4⟩, fun σ4 er ρ4 w4 v H4 h5 => hi'.ex σ4 er ρ4 w4 v H4 h5⟩ w3
    · have e : j = xs.length := by omega
      subst e
      rw [List.drop_length] at w2
      refine .inl ⟨?_, hi'.nx σ' _ H' (h2.ofLe w2.1) w2.2⟩
      rw [← hl]
      exact (walk_list (K := K)).stops H' (SqL.of hh)
  · exact w.elim
end
end Dl
/-! ### lists of objects with an own ==, seen to be equal -/
namespace Dl
open PySem PySem.Spec PyProof.Rows L2
section
variable {K : PySem.W.Frag} {G : Ent} {F H H' : Hp} {σ τ : L2.St} {ρ : Env} {δ : List Sl}
theorem Rel.ext (h : Rel K G H σ ρ τ δ) (e : Ext H H') : Rel K G H' σ ρ τ δ := by
  obtain ⟨F, f1, f2, g, ht, hs⟩ := h
  have same : ∀ a, H a ≠ none → H' a = H a := fun a ha => by
    cases q : H a with
    | none => exact absurd q ha
    | some o => exact e a o q
  refine ⟨F, f1, f2, ⟨fun a o q => e a o (g.sub a o q), g.f0, g.fN, fun a o q n => e a o (g.frm a o q n), fun a q => ?_, g.own, g.nf, g.nd⟩, ht.mono Le.rfl fun a ha => same a (ht.here a ha), hs.mono Le.rfl fun a ha => same a (hs.here a ha)⟩
  have := g.all a q
  rw [same a this]
  exact this
def eqYes (c : Nat) (ds : M Sl) (fs : List D) : Prop := ds.wp [.sh (.obj c fs), .sh (.obj c fs)] (fun r _ => r = .sh (.bl true)) (fun _ _ => False)
def RObj (K : PySem.W.Frag) (c : Nat) (ds : M Sl) : Addr → Addr → Hp → Prop := fun a b H => ∃ fs, Rep K H (.ref a) (.obj c fs) ∧ Rep K H (.ref b) (.obj c fs) ∧ eqYes c ds fs
theorem robj_mon {c : Nat} {ds : M Sl} : ∀ a b H H', Ext H H' → RObj K c ds a b H → RObj K c ds a b H' := fun a b H H' e ⟨fs, r1, r2, q⟩ => ⟨fs, r1.mono e, r2.mono e, q⟩
theorem sp_eq {c : Nat} {ds : M Sl} : ∀ vs H Q E, spEq (RObj K c ds) vs H Q E → spOf K ds vs H Q E := fun vs H Q E h => by
  obtain ⟨a, b, rfl, ⟨fs, r1, r2, q⟩, k⟩ := h
  refine ⟨H, [.sh (.obj c fs), .sh (.obj c fs)], [], Le.rfl, .cons (f := []) (.sh r1) (.cons (f := []) (.sh r2) .nil), List.nodup_nil, fun a ha => (by cases ha), ds.mono (fun r as' e v H' hr => ?_) (fun _ _ z => z.elim) q⟩
  subst e
  obtain rfl := hr.topv (u := .bl true) rfl
  refine k H' fun a o e => ?_
  obtain ⟨F', g1, g2, g, _, _⟩ := hr
  exact g.frm a o e (by intro z; cases z)
def pEqL (c : Nat) (ds : M Sl) : D → D → Option (Prop × Sl)
  | .lst xs, .lst ys => some (xs = ys ∧ ∀ x ∈ xs, ∃ fs, x = .obj c fs ∧ eqYes c ds fs, .sh (.bl true))
  | _, _ => none
theorem r_eqL {c : Nat} {ds : M Sl} : R2Ok K (rEqG (DList (DIns (He.ga K (cn c)) (RObj K c ds)))) (op2P (pEqL c ds)) := by
  intro G H σ ρ τ δ x y s1 s2 Q E hr w
  obtain ⟨a, b, p, s, rfl, rfl, e, hp, q⟩ := op2P_go w
  obtain ⟨F, r1, r2, z⟩ := hr.top2
  unfold pEqL at e
  split at e
  · rename_i xs ys
    cases e
    obtain ⟨rfl, ho⟩ := hp
    cases r1 with
    | lst h1 k1 =>
      cases r2 with
      | lst h2 k2 =>
        refine ⟨⟨_, _, _, _, rfl, rfl, z.le _ _ h1, z.le _ _ h2, k1.len.trans k2.len.symm, fun i u v e1 e2 => ?_⟩, fun H' e => q _ _ ((hr.pop.pop.push rfl).ext e)⟩
        have hlt : i < xs.length := by
          rw [← k1.len]
          rcases Nat.lt_or_ge i _ with z | z
          · exact z
          · rw [List.getElem?_eq_none z] at e1; cases e1
        obtain ⟨u', g1, ru⟩ := k1.get (List.getElem?_eq_getElem hlt)
        obtain ⟨v', g2, rv⟩ := k2.get (List.getElem?_eq_getElem hlt)
        rw [e1] at g1
        rw [e2] at g2
        cases g1
        cases g2
        obtain ⟨fs, ex, hq⟩ := ho xs[i] (List.getElem_mem hlt)
        rw [ex] at ru rv
        have ru' := ru.mono z.le
        have rv' := rv.mono z.le
        cases id ru' with
        | obj a1 a2 a3 a4 =>
          cases id rv' with
          | obj b1 b2 b3 b4 => exact ⟨_, _, _, _, _, _, rfl, rfl, a1, b1, fs, ru', rv', hq⟩
  · cases e
end
end Dl
namespace Cl
open PySem PySem.Spec PyProof.Rows L2
theorem eqLs {X : Cx} (K : PySem.W.Frag) {k c : Nat} {f : Addr} {fd : FuncData} {ps : List Str} {ds : Dl.M Dl.Sl} (O : OpM.Own K (He.ga K (Dl.cn c)) "__eq__" f) (F : FnOk X.prog X.w X.K X.mg X.base (L2.CX X.prog X.w) k f fd ps (Dl.spOf K ds)) (hb : Binds X.K fd ps []) (hr : Room (k + 1) X.A) (hK : X.K = K := by rfl) :
    OpR X (compareOp .Eq) (rEqG (DList (DIns (He.ga K (Dl.cn c)) (Dl.RObj K c ds)))) := by
  subst hK
  exact op_eqG (rcG_list (mon_ins Dl.robj_mon) (eqG_ins (E := fun _ _ _ => False) (F.imp Dl.sp_eq) O.at_ O.fn hb fun pins σ H s e s' I z => none_ σ pins H s e s' I z)) hr
end Cl
/-! ### owned tuples; a walk over two owned lists -/
namespace Dl
open PySem PySem.Spec PyProof.Rows L2
section
variable {K : PySem.W.Frag} {W W' : WS} {ta tb tc te tn tk tv : TE} {ma mb mc me mn mk mv : ME} {t u : TS} {m k : MS} {tA tt : TT} {mA mt : MT} {tl : TA} {ml : MA} {G : Ent} {F H H' : Hp} {σ τ : L2.St} {ρ : Env} {δ : List Sl}
def allOw : List Sl → Option (List Sh × List D)
  | [] => some ([], [])
  | .sh d :: ss => match allOw ss with
    | some (zs, ds) => some (.fr :: zs, d :: ds)
    | none => none
  | .ow z d :: ss => match allOw ss with
    | some (zs, ds) => some (z :: zs, d :: ds)
    | none => none
  | _ :: _ => none
theorem slots_own : ∀ {vs : List V} {ss : List Sl} {zs : List Sh} {ds : List D} {fp : List Addr}, Slots K F H (vs.map some) ss fp → allOw ss = some (zs, ds) → OwnF K F H zs vs ds fp
  | [], [], zs, ds, fp, h, e => by
    cases e
    cases h
    exact .nil
  | v :: vs, s :: ss, zs, ds, fp, h, e => by
    cases h with
    | cons h1 h2 =>
      cases h1 with
      | sh r =>
        rename_i d
        have e' : (match allOw ss with | some (zs, ds) => some (Sh.fr :: zs, d :: ds) | none => none) = some (zs, ds) := e
        cases q : allOw ss with
        | none => rw [q] at e'; cases e'
        | some p => rw [q] at e'; cases e'; exact .cons (.fr r) (slots_own h2 q)
      | ow r =>
        rename_i z d
        have e' : (match allOw ss with | some (zs, ds) => some (z :: zs, d :: ds) | none => none) = some (zs, ds) := e
        cases q : allOw ss with
        | none => rw [q] at e'; cases e'
        | some p => rw [q] at e'; cases e'; exact .cons r (slots_own h2 q)
      | _ => cases e
  | [], _ :: _, _, _, _, h, _ => by cases h
  | _ :: _, [], _, _, _, h, _ => by cases h
def mkTupO (ss : List Sl) : ME := ⟨fun ρ Q _ => match allOw ss with
  | some (zs, ds) => match Nat.ble ss.length sizeLine with
    | true => Q (.ow (.ot zs) (.tup ds)) ρ
    | false => False
  | none => False, fun {ρ Q Q' E E'} h _ w => by
    revert w
    split
    · split
      · exact fun w => h _ _ w
      · exact id
    · exact id⟩
def mTupO (l : MA) : ME := l.bind mkTupO
theorem eTupO (hl : AOk K W tl ml) : EOk K W (tTup tl) (mTupO ml) := fun G H σ ρ τ δ Q h w =>
  hl G H σ ρ τ δ _ h (ml.mono (fun ss ρ1 w1 vs H1 hn h1 => by
    unfold mkTupO at w1
    simp only at w1
    split at w1
    · rename_i zs ds eo
      split at w1
      · rename_i hb
        refine ⟨by rw [hn]; exact Nat.le_of_ble_eq_true hb, fun p hp => w1 _ _ ?_⟩
        obtain ⟨F, f1, f2, g, ht, hs⟩ := h1
        obtain ⟨fa, fb, rfl, s1, s2⟩ := Slots.split (by rw [List.length_map]; exact hn) ht
        have ow := slots_own s1 eo
        have here : ∀ a ∈ (fa ++ fb) ++ f2, H1 a ≠ none := fun a ha => by
          rcases List.mem_append.mp ha with z | z
          · exact ht.here a z
          · exact hs.here a z
        have g1 := g.newO here hp (.tup vs)
        have ne : ∀ a ∈ (fa ++ fb) ++ f2, upd H1 p (.tup vs) a = H1 a := fun a ha => upd_ne fun z => here a ha (by rw [z]; exact hp)
        refine ⟨F, (p :: fa) ++ fb, f2, g1.cnt fun a => Nat.le_of_eq (by simp only [List.count_append, List.count_cons, List.cons_append]), .cons (f := p :: fa) (.ow (.ot upd_same (ow.mono Le.rfl fun a ha => ne a (by simp [ha])))) (s2.mono Le.rfl fun a ha => ne a (by simp [ha])), hs.mono Le.rfl fun a ha => ne a (by simp [ha])⟩
      · exact w1.elim
    · exact w1.elim) (fun _ _ z => z) w)
theorem OwnF.getD : ∀ {zs : List Sh} {vs : List V} {ds : List D} {fp : List Addr} {j : Nat} {z : Sh} {d : D}, OwnF K F H zs vs ds fp → zs[j]? = some z → ds[j]? = some d → ∃ v f, vs[j]? = some v ∧ Own K F H z v d f ∧ f.Sublist fp
  | _, _, _, _, 0, z, d, .cons (f := f) (fp := fp) h r, e1, e2 => by
    cases e1
    cases e2
    exact ⟨_, f, rfl, h, List.sublist_append_left _ _⟩
  | _, _, _, _, j + 1, z, d, .cons (f := f) (fp := fp) h r, e1, e2 => by
    obtain ⟨v, g, a1, a2, a3⟩ := OwnF.getD (j := j) r e1 e2
    exact ⟨v, g, a1, a2, a3.trans (List.sublist_append_right _ _)⟩
def mIxTO (a : ME) (j : Nat) : ME := a.bind fun s => match s with
  | .ow (.ot zs) (.tup ds) => match zs[j]?, ds[j]? with
    | some z, some d => M.ret (.ow z d)
    | _, _ => M.stuck
  | _ => M.stuck
theorem atI_of {α : Type} {xs : List α} {j : Nat} {x : α} (e : xs[j]? = some x) : L2.atI xs ((j : Nat) : Int) = some x := atI_nat e
theorem eIxTO {j : Nat} (ha : EOk K W ta ma) : EOk K W (tOp (rIxT K) ta (tC (.int ((j : Nat) : Int)))) (mIxTO ma j) := fun G H σ ρ τ δ Q h w =>
  ha G H σ ρ τ δ _ h (ma.mono (fun s ρ1 w1 v H1 h1 => by
    simp only at w1
    split at w1
    · rename_i zs ds
      split at w1
      · rename_i z d ez ed
        obtain ⟨F, f1, f2, g, ht, hs⟩ := h1
        cases ht with
        | cons q1 q2 =>
          cases q1 with
          | ow o =>
            rename_i fT
            cases o with
            | @ot _ a vs _ fp hh r =>
              obtain ⟨x, f, ex, ox, sub⟩ := r.getD ez ed
              refine ⟨a, vs, _, x, rfl, rfl, .inl (.inl hh), atI_of ex, w1 _ _ ⟨F, f ++ fT, f2, g.less ?_, .cons (.ow ox) q2, hs⟩⟩
              exact ((sub.trans (List.sublist_cons_self _ _)).append (List.Sublist.refl _)).append (List.Sublist.refl _)
      · exact w1.elim
    · exact w1.elim) (fun _ _ z => z) w)
/-! for a, b in zip(x, y): two owned lists that the body leaves alone -/
def atZ (i : Nat) (v : V) (xs : List D) (j : Nat) (u : V) (ys : List D) (r : Env) : Prop := r[i]? = some (leL v xs) ∧ r[j]? = some (leL u ys)
def offZ (i : Nat) (v : V) (xs : List D) (j : Nat) (u : V) (ys : List D) (k : Env → Prop) : Env → Prop := fun r => atZ i v xs j u ys r ∧ k ((r.set i (owL xs)).set j (owL ys))
def forZ (i : Nat) (v : V) (xs : List D) (j : Nat) (u : V) (ys : List D) (g : MG) (b : MS) : List D → Env → MEnds → Prop
  | [], ρ, M => offZ i v xs j u ys M.nx ρ
  | d :: ds, ρ, M => atZ i v xs j u ys ρ ∧ (g (.sh d)).wp ρ (fun _ r => b.wp r { M with nx := fun r => forZ i v xs j u ys g b ds r M, ct := fun r => forZ i v xs j u ys g b ds r M, bk := offZ i v xs j u ys M.nx }) (fun _ _ => False)
theorem forZ_mono {i : Nat} {v : V} {xs : List D} {j : Nat} {u : V} {ys : List D} {g : MG} {b : MS} {M M' : MEnds} (h : M.Le M') : ∀ {ds : List D} {ρ : Env}, forZ i v xs j u ys g b ds ρ M → forZ i v xs j u ys g b ds ρ M'
  | [], ρ, w => ⟨w.1, h.nx _ w.2⟩
  | d :: ds, ρ, w => ⟨w.1, (g (.sh d)).mono (fun _ r z => b.mono (M := { M with nx := fun r => forZ i v xs j u ys g b ds r M, ct := fun r => forZ i v xs j u ys g b ds r M, bk := offZ i v xs j u ys M.nx }) ⟨fun r z => forZ_mono h z, h.rt, fun r z => ⟨z.1, h.nx _ z.2⟩, fun r z => forZ_mono h z, h.ex⟩ z) (fun _ _ z => z) w.2⟩
theorem forZ_at {i : Nat} {v : V} {xs : List D} {j : Nat} {u : V} {ys : List D} {g : MG} {b : MS} {M : MEnds} {ds : List D} {ρ : Env} (w : forZ i v xs j u ys g b ds ρ M) : atZ i v xs j u ys ρ := by
  cases ds with
  | nil => exact w.1
  | cons d ds => exact w.1
def sForZ (i j : Nat) (g : MG) (b : MS) : MS := ⟨fun ρ M => match ρ[i]?, ρ[j]? with
  | some (.ow (.ol .fr) (.lst xs)), some (.ow (.ol .fr) (.lst ys)) => i ≠ j ∧ ∀ v u, forZ i v xs j u ys g b (zipD xs ys) ((ρ.set i (leL v xs)).set j (leL u ys)) M
  | _, _ => False, fun {ρ M M'} h w => by
    revert w
    split
    · exact fun w => ⟨w.1, fun v u => forZ_mono h (w.2 v u)⟩
    · exact id⟩
theorem Rel.atLe2 {i j : Nat} {v u : V} {xs ys : List D} (h : Rel K G H σ ρ τ δ) (e : ρ[i]? = some (leL v xs)) (e' : ρ[j]? = some (leL u ys)) : ∃ a vs b us, v = .ref a ∧ u = .ref b ∧ H a = some (.lst vs) ∧ H b = some (.lst us) ∧ vs.length = xs.length ∧ us.length = ys.length ∧ ∀ (n : Nat) x y d d', vs[n]? = some x → us[n]? = some y → xs[n]? = some d → ys[n]? = some d' → Rel K G H σ ρ (some x :: some y :: τ) (.sh d :: .sh d' :: δ) := by
  obtain ⟨b, us, rfl, hb, lb, kb⟩ := h.atLe e'
  obtain ⟨F, f1, f2, g, ht, hs⟩ := h
  obtain ⟨o, l, f, r, e1, e2, h1, k⟩ := hs.at e
  cases h1 with
  | le q =>
    cases q with
    | @ol _ a vs _ fp hh rl =>
      obtain ⟨rl', _⟩ := rl.rep
      refine ⟨a, vs, b, us, rfl, rfl, hh, hb, rl'.len, lb, fun n x y d d' h1 h2 h3 h4 => ?_⟩
      obtain ⟨x', g1, rx⟩ := rl'.get h3
      rw [h1] at g1
      cases g1
      obtain ⟨o', l', f', r', e1', e2', h1', _⟩ := hs.at e'
      cases h1' with
      | le q' =>
        cases q' with
        | @ol _ b' us' _ fp' hh' rl2 =>
          rw [hh'] at hb
          cases hb
          obtain ⟨rl2', _⟩ := rl2.rep
          obtain ⟨y', g2, ry⟩ := rl2'.get h4
          rw [h2] at g2
          cases g2
          exact ⟨F, f1, _, g, .cons (f := []) (.sh rx) (.cons (f := []) (.sh ry) ht), hs⟩
theorem zForZ {i j : Nat} {g : TG} {mg : MG} (hg : GOk K g mg) (hb : SOk K W t m) : SOk K W (tFor (iZip K (tCons (tVar i) (tCons (tVar j) tNil))) g t) (sForZ i j mg m) := fun G H σ ρ τ δ D M h hi' w => by
  unfold sForZ at w
  simp only at w
  split at w
  · rename_i xs ys e e'
    obtain ⟨nij, w⟩ := w
    have lti : i < ρ.length := by
      rcases Nat.lt_or_ge i ρ.length with z | z
      · exact z
      · rw [List.getElem?_eq_none z] at e; cases e
    have ltj : j < ρ.length := by
      rcases Nat.lt_or_ge j ρ.length with z | z
      · exact z
      · rw [List.getElem?_eq_none z] at e'; cases e'
    obtain ⟨a, ea, h1⟩ := h.toLe e
    obtain ⟨b, eb, h2⟩ := h1.toLe (i := j) (xs := ys) (by rw [List.getElem?_set_ne nij]; exact e')
    have at0 : atZ i (.ref a) xs j (.ref b) ys ((ρ.set i (leL (.ref a) xs)).set j (leL (.ref b) ys)) := ⟨by rw [List.getElem?_set_ne (Ne.symm nij), List.getElem?_set_self lti], by rw [List.getElem?_set_self (by rw [List.length_set]; exact ltj)]⟩
    have back : ∀ {σ' : L2.St} {ρ' : Env} {H' : Hp}, Rel K G H' σ' ρ' τ δ → atZ i (.ref a) xs j (.ref b) ys ρ' → Rel K G H' σ' ((ρ'.set i (owL xs)).set j (owL ys)) τ δ := fun {σ' ρ' H'} hr z => (hr.ofLe z.1).ofLe (i := j) (v := .ref b) (xs := ys) (by rw [List.getElem?_set_ne nij]; exact z.2)
    obtain ⟨a', vs0, b', us0, q1, q2, hh0, hk0, _, _, _⟩ := h2.atLe2 at0.1 at0.2
    cases q1
    cases q2
    refine ⟨_, ea, _, eb, a, b, _, _, rfl, SqL.of hh0, SqL.of hk0, ?_⟩
    refine ⟨fun n k σ' H' => k = (zipD xs ys).length - n ∧ n ≤ (zipD xs ys).length ∧ ∃ ρ', Rel K G H' σ' ρ' τ δ ∧ forZ i (.ref a) xs j (.ref b) ys mg m ((zipD xs ys).drop n) ρ' M, ⟨_, rfl, Nat.zero_le _, _, h2, w (.ref a) (.ref b)⟩, ?_⟩
    rintro n k σ' H' ⟨rfl, hle, ρ', h3, w2⟩
    have az := forZ_at w2
    obtain ⟨a', vs, b', us, q1, q2, hh, hk, lv, lu, kk⟩ := h3.atLe2 az.1 az.2
    cases q1
    cases q2
    have lz : (zipD xs ys).length = min vs.length us.length := by unfold zipD; rw [List.length_zipWith, lv, lu]
    by_cases hn : n < (zipD xs ys).length
    · have hd : (zipD xs ys).drop n = (zipD xs ys)[n] :: (zipD xs ys).drop (n + 1) := List.drop_eq_getElem_cons hn
      rw [hd] at w2
      refine .inr ⟨(walk_zip (K := K) (n := min vs.length us.length) rfl).goes n H' (by omega) ⟨SqL.of hh, SqL.of hk⟩, fun σ2 H2 => ∃ ρ2, Rel K G H2 σ2 ρ2 τ δ ∧ forZ i (.ref a) xs j (.ref b) ys mg m ((zipD xs ys).drop (n + 1)) ρ2 M, fun σ2 H2 ⟨ρ2, h4, w3⟩ => ⟨_, by omega, rfl, hn, ρ2, h4, w3⟩, fun x H2 y => ?_⟩
      have nx : n < xs.length := by omega
      have ny : n < ys.length := by omega
      obtain ⟨T, x1, y1, rfl, hT, rfl, e2, e3⟩ := (walk_zip (K := K) (a := a) (b := b) (xs := vs) (ys := us) (n := min vs.length us.length) rfl).yields n H' x H2 (by omega) ⟨SqL.of hh, SqL.of hk⟩ y
      have ez0 : (zipD xs ys)[n]? = some (.tup [xs[n], ys[n]]) := by unfold zipD; rw [List.getElem?_zipWith, List.getElem?_eq_getElem nx, List.getElem?_eq_getElem ny]
      have ez : (zipD xs ys)[n] = .tup [xs[n], ys[n]] := Option.some.inj ((List.getElem?_eq_getElem hn).symm.trans ez0)
      have h5 := (kk n x1 y1 xs[n] ys[n] e2 e3 (List.getElem?_eq_getElem nx) (List.getElem?_eq_getElem ny)).pair hT
      rw [← ez] at h5
      refine hg G _ σ' ρ' _ _ _ _ _ h5 ((mg _).mono (fun _ ρ3 w3 σ3 H3 h4 => ?_) (fun _ _ z => z) w2.2)
      exact hb G H3 σ3 ρ3 _ _ _ { M with nx := fun r => forZ i (.ref a) xs j (.ref b) ys mg m ((zipD xs ys).drop (n + 1)) r M, ct := fun r => forZ i (.ref a) xs j (.ref b) ys mg m ((zipD xs ys).drop (n + 1)) r M, bk := offZ i (.ref a) xs j (.ref b) ys M.nx } h4 ⟨fun σ4 ρ4 H4 h5 w4 => ⟨ρ4, h5, w4⟩, fun s ρ4 v σ4 H4 h5 w4 => hi'.rt s ρ4 v σ4 H4 h5 w4, fun σ4 ρ4 H4 h5 w4 => hi'.nx σ4 _ H4 (back h5 w4.1) w4.2, fun σ4 ρ4 H4 h5 w4 => ⟨ρ4, h5, w4⟩, fun σ4 er ρ4 w4 v H4 h5 => hi'.ex σ4 er ρ4 w4 v H4 h5⟩ w3
    · have e : n = (zipD xs ys).length := by omega
      subst e
      rw [List.drop_length] at w2
      refine .inl ⟨?_, hi'.nx σ' _ H' (back h3 w2.1) w2.2⟩
      rw [lz]
      exact (walk_zip (K := K) rfl).stops H' ⟨SqL.of hh, SqL.of hk⟩
  · exact w.elim
end
end Dl
/-! ### != of two lists whose items are seen to be equal by an own == -/
namespace NeG
open PySem PySem.SeqAt GQ
open AutoSeq1 (wpAny_loadPart')
open MeetsSeq MeetsSeq2 MeetsSeq3 SeqRoads2
section
variable {prog : Program} {w : World} {A : Around} {R : Result → Shared → Prop}
theorem ne_loop (l b : Addr) (N : Nat) (I : Nat → Shared → Prop) (hl : ListI prog w A (fun e s' => R (.error e) s') l b N I)
    (fin : ∀ s, I N s → R (.ok (.ret (.bool false))) s) (k : Nat) :
    ∀ i : Nat, N - i = k → i ≤ N → ∀ s, I i s →
      wpAny (model prog w) A.in1 (Builtin.«list.__eq__.loop» ⟨[.ref l, .ref b, rawInt i, rawInt 3], []⟩) (FinOf prog w A R) (fun e s' => R (.error e) s') s := by
  induction k with
  | zero =>
    intro i hk hi s h
    obtain ⟨items, items2, n, n2, hl1, hb1, hs1, hs2, _⟩ := hl _ _ h
    have hi' : i = N := by omega
    have hR : R (.ok (.ret (.bool false))) s := fin s (hi' ▸ h)
    obtain ⟨hp, g, d, tk, os⟩ := s
    wp_walk using wpAny_loadPart' hl1, wpAny_loadPart' hb1
    have hi1 : items[((i : Nat) : Int).toNat]? = none := by simp; omega
    have hi2 : items2[((i : Nat) : Int).toNat]? = none := by simp; omega
    rw [hi1, hi2]
    wp_walk using wpAny_loadPart' hl1, wpAny_loadPart' hb1
    show R (.ok (.ret (.bool (items.size != items2.size)))) _
    rw [hs1, hs2]
    simpa using hR
  | succ k ih =>
    intro i hk hi s h
    obtain ⟨items, items2, n, n2, hl1, hb1, hs1, hs2, turn⟩ := hl _ _ h
    have hlt : i < items.size := by omega
    have hlt2 : i < items2.size := by omega
    have ht := turn hlt hlt2
    obtain ⟨hp, g, d, tk, os⟩ := s
    wp_walk using wpAny_loadPart' hl1, wpAny_loadPart' hb1
    have hi1 : items[((i : Nat) : Int).toNat]? = some items[i] := by simp [hlt]
    have hi2 : items2[((i : Nat) : Int).toNat]? = some items2[i] := by simp [hlt2]
    have hc : ((i : Int) + 1) = ((i + 1 : Nat) : Int) := by omega
    rw [hi1, hi2]
    refine wpAny_bind (wpAny_mono ht (fun r s2 h2 => ?_) fun _ _ x => x)
    obtain ⟨hr, h2⟩ := h2
    subst hr
    have hrec := ih (i + 1) (by omega) (by omega) s2 h2
    obtain ⟨hp2, g2, d2, tk2, os2⟩ := s2
    wp_walk
    rw [hc]
    exact ⟨plainId_quiet plain_eq_loop _, codeAny_builtin entry_eq_loop (by
      rw [Around.under_plainId plain_eq_loop _]
      exact hrec)⟩
theorem list_ne (l b : Addr) (N : Nat) (I : Nat → Shared → Prop) (hl : ListI prog w A (fun e s' => R (.error e) s') l b N I)
    (fin : ∀ s, I N s → R (.ok (.ret (.bool false))) s) {s : Shared} (h : I 0 s) :
    wpAny (model prog w) A.in1 (Builtin.«list.__ne__» ⟨[.ref l, .ref b], []⟩) (FinOf prog w A R) (fun e s' => R (.error e) s') s := by
  obtain ⟨items, items2, n, n2, hl1, hb1, hs1, hs2, _⟩ := hl _ _ h
  have hrec := ne_loop (A := A) (R := R) l b N I hl fin _ 0 rfl (Nat.zero_le _) s h
  obtain ⟨hp, g, d, tk, os⟩ := s
  have f3 := AutoSeq1.sub_list_list
  have hne : ¬ (items.size != items2.size) = true := by simp [hs1, hs2]
  wp_walk using wpAny_loadPart' hl1, wpAny_loadPart' hb1
  exact ⟨plainId_quiet plain_eq_loop _, codeAny_builtin entry_eq_loop (by
    rw [Around.under_plainId plain_eq_loop _]
    exact hrec)⟩
end
section
variable {prog : Program} {w : World} {A : Around} {E : Value → Shared → Prop} {s : Shared}
theorem rc_list {l b : Addr} {N : Nat} {Q : Value → Shared → Prop} (hu : A.units < cLine) (I : Nat → Shared → Prop) (hl : ListI prog w A E l b N I)
    (fin : ∀ s, I N s → Q (.bool false) s) (h : I 0 s) : wpAny (model prog w) A (richCompare .NotEq (.ref l) (.ref b)) Q E s := by
  obtain ⟨items, items2, n, n2, hl1, hb1, _, _, _⟩ := hl _ _ h
  refine wpAny_richCompare_same_room (op := .NotEq) ⟨_, hl1, rfl⟩ ⟨_, hb1, rfl⟩ F.slot_list_ne (call_here F.slot_list_ne ⟨_, hl1, rfl⟩ F.entry_list_ne (F.args_list_ne_2 _ _) ?_) hu
  exact list_ne (R := wants (fun v s' => v ≠ .notImplemented ∧ Q v s') E) l b N I hl (fun s' q => ⟨(fun x => nomatch x), fin s' q⟩) h
end
end NeG
namespace L2
open PySem PySem.Spec PyProof.Rows
section
variable {X : Cx} {n : Nat} {D : Eqv}
/-- != gives False for what D says, and only makes objects -/
def RcN (X : Cx) (n : Nat) (D : Eqv) : Prop :=
  ∀ (A : Around) (pins : List (Addr × Obj)) (s : Shared) (σ : St) (H : Hp) (x y : V) (u v : Value), Sub X n A → Inv X pins σ H s → RelV x u → RelV y v → D x y H →
    wpAny (model X.prog X.w) A (richCompare .NotEq u v) (fun r s' => r = .bool false ∧ ∃ H', Inv X pins σ H' s' ∧ Ext H H') X.xe s
theorem rcN_list (hD : Mon D) (h : EqG X n D) : RcN X (n + 1) (DList D) := by
  intro A pins s σ H x y u v sb I rx ry d
  obtain ⟨a, b, xs, ys, rfl, rfl, ha, hb, p⟩ := d
  cases rx
  cases ry
  refine NeG.rc_list (N := xs.length) sb.room.units0 (fun _ s' => LoopI X pins σ H s') (fun i s' q => ?_) (fun s' q => ⟨rfl, q⟩) ⟨H, I, Ext.rfl'⟩
  obtain ⟨H1, I1, e1⟩ := id q
  obtain ⟨z, its, k, r, e⟩ := I1.hok a _ (e1 _ _ ha)
  obtain ⟨z2, its2, k2, r2, e2⟩ := I1.hok b _ (e1 _ _ hb)
  refine ⟨its.toArray, its2.toArray, k, k2, e, e2, by rw [List.size_toArray, ← r.length], by rw [List.size_toArray, ← r2.length, ← p.1], fun h1 h2 => ?_⟩
  exact turnG hD h sb p r r2 i h1 h2 s' q
def rNeG (D : Eqv) : R2 := fun x y H Q => D x y H ∧ ∀ H', Ext H H' → Q (.bl false) H'
theorem op_neG (h : RcN X n D) (hr : Room n X.A) : OpR X (compareOp .NotEq) (rNeG D) := by
  intro pins s σ H x y v u Q I rx ry hq
  obtain ⟨d, q⟩ := hq
  show wpAny (model X.prog X.w) X.A (richCompare .NotEq v u) (EP X pins σ Q) X.xe s
  refine wpAny_mono (h X.A pins s σ H x y v u ⟨hr, rfl⟩ I rx ry d) (fun r s' z => ?_) fun _ _ x => x
  obtain ⟨hr', H', I', e⟩ := z
  subst hr'
  exact ⟨.bl false, H', I', rfl, q H' e⟩
end
end L2
namespace Dl
open PySem PySem.Spec PyProof.Rows L2
section
variable {K : PySem.W.Frag}
def pNeL (c : Nat) (ds : M Sl) : D → D → Option (Prop × Sl)
  | .lst xs, .lst ys => some (xs = ys ∧ ∀ x ∈ xs, ∃ fs, x = .obj c fs ∧ eqYes c ds fs, .sh (.bl false))
  | _, _ => none
theorem r_neL {c : Nat} {ds : M Sl} : R2Ok K (rNeG (DList (DIns (He.ga K (cn c)) (RObj K c ds)))) (op2P (pNeL c ds)) := by
  intro G H σ ρ τ δ x y s1 s2 Q E hr w
  obtain ⟨a, b, p, s, rfl, rfl, e, hp, q⟩ := op2P_go w
  unfold pNeL at e
  split at e
  · rename_i xs ys
    cases e
    have yes : (op2P (pEqL c ds) (.sh (.lst xs)) (.sh (.lst ys))).wp ρ (fun s ρ' => ∀ v H', Rel K G H' σ ρ' (some v :: τ) (s :: δ) → v = .bl true → True) E := ⟨hp, fun _ _ _ _ => trivial⟩
    have hd := (r_eqL (K := K) (c := c) (ds := ds) G H σ ρ τ δ x y _ _ (fun _ _ => True) E hr ⟨hp, fun _ _ _ => trivial⟩).1
    exact ⟨hd, fun H' e => q _ _ ((hr.pop.pop.push rfl).ext e)⟩
  · cases e
end
end Dl
namespace Cl
open PySem PySem.Spec PyProof.Rows L2
theorem neLs {X : Cx} (K : PySem.W.Frag) {k c : Nat} {f : Addr} {fd : FuncData} {ps : List Str} {ds : Dl.M Dl.Sl} (O : OpM.Own K (He.ga K (Dl.cn c)) "__eq__" f) (F : FnOk X.prog X.w X.K X.mg X.base (L2.CX X.prog X.w) k f fd ps (Dl.spOf K ds)) (hb : Binds X.K fd ps []) (hr : Room (k + 1) X.A) (hK : X.K = K := by rfl) :
    OpR X (compareOp .NotEq) (rNeG (DList (DIns (He.ga K (Dl.cn c)) (Dl.RObj K c ds)))) := by
  subst hK
  exact op_neG (rcN_list (mon_ins Dl.robj_mon) (eqG_ins (E := fun _ _ _ => False) (F.imp Dl.sp_eq) O.at_ O.fn hb fun pins σ H s e s' I z => none_ σ pins H s e s' I z)) hr
end Cl
namespace Cl
open PySem PySem.Spec PyProof.Rows L2
theorem u65 {k : Nat} {A : Around} (r : Room k A) : A.units + 65 < cLine := by have := r.un; omega
theorem inDp {X : Cx} (K : PySem.W.Frag) (hu : X.A.units + 65 < cLine) (hK : X.K = K := by rfl) : OpR X (compareOp .In) (rInD K) := hK ▸ op_inD hu
theorem ninDp {X : Cx} (K : PySem.W.Frag) (hu : X.A.units + 65 < cLine) (hK : X.K = K := by rfl) : OpR X (compareOp .NotIn) (rNotInD K) := hK ▸ op_notInD hu
end Cl
namespace Dl
open PySem PySem.Spec PyProof.Rows L2
section
variable {K : PySem.W.Frag}
/-- x in xs, xs a list of data of any depth -/
def pInD (neg : Bool) : D → D → Option (Prop × Sl) := fun a b => match b with
  | .lst xs => some (a.fit 64 ∧ (D.lst xs).fit 64, .sh (.bl (neg ^^ xs.any fun z => D.eq z a)))
  | _ => none
theorem pys_any {f : PyData → Bool} : ∀ xs : List D, (D.pys xs).any f = xs.any fun z => f z.py
  | [] => rfl
  | x :: xs => by
    show (f x.py || (D.pys xs).any f) = _
    rw [pys_any xs]
    rfl
theorem r_inD : R2Ok K (rInD K) (op2P (pInD false)) := by
  intro G H σ ρ τ δ x y s1 s2 Q E hr w
  obtain ⟨a, b, p, s, rfl, rfl, e, hp, q⟩ := op2P_go w
  obtain ⟨F, r1, r2, z⟩ := hr.top2
  unfold pInD at e
  split at e
  · rename_i xs
    cases e
    refine ⟨_, D.pys xs, r1.dp z.le hp.1.1, r2.dp z.le hp.2.1, hp.1.shaped, hp.2.shaped, q _ _ (hr.pop.pop.push ?_)⟩
    rw [pys_any]
    simp [D.val, D.eq]
  · cases e
theorem r_ninD : R2Ok K (rNotInD K) (op2P (pInD true)) := by
  intro G H σ ρ τ δ x y s1 s2 Q E hr w
  obtain ⟨a, b, p, s, rfl, rfl, e, hp, q⟩ := op2P_go w
  obtain ⟨F, r1, r2, z⟩ := hr.top2
  unfold pInD at e
  split at e
  · rename_i xs
    cases e
    refine ⟨_, D.pys xs, r1.dp z.le hp.1.1, r2.dp z.le hp.2.1, hp.1.shaped, hp.2.shaped, q _ _ (hr.pop.pop.push ?_)⟩
    rw [pys_any]
    simp [D.val, D.eq]
  · cases e
end
end Dl
/-! ### xs.insert(i, y) on an owned list -/
namespace Dl
open PySem PySem.Spec PyProof.Rows L2
def rIns : V → List V → Hp → VK → Prop := fun x vs H Q => ∃ (l : Addr) (xs : List V) (i : Int) (y : V), x = .ref l ∧ vs = [.int i, y] ∧ H l = some (.lst xs) ∧ xs.length < sizeLine ∧ 0 ≤ i ∧ i < 2 ^ 63 ∧ Q .non (upd H l (.lst (xs.take i.toNat ++ [y] ++ xs.drop i.toNat)))
theorem mt_ins {X : Cx} : MtR X "list.insert" rIns := mt_insert
section
variable {K : PySem.W.Frag} {W : WS} {te tf : TE} {me mf : ME}
def mIns (i : Nat) (e f : ME) : ME := isOwnL i (e.bind fun s => f.bind fun s' => match s, s' with
  | .sh (.int j), .sh x => ownL i fun ds => some (ds.length < sizeLine ∧ 0 ≤ j ∧ j < 2 ^ 63, ds.take j.toNat ++ [x] ++ ds.drop j.toNat, .sh .non)
  | _, _ => M.stuck)
theorem eIns {i : Nat} (he : EOk K W te me) (hf : EOk K W tf mf) : EOk K W (tBM K "list" rIns (tVar i) (tCons te (tCons tf tNil))) (mIns i me mf) := fun G H σ ρ τ δ Q h w => by
  obtain ⟨s0, ds0, e0, eo0, w⟩ := isOwnL_go w
  obtain ⟨F, f1, l, vs, ht, hl, e1, hh, rl, kv, k⟩ := h.ownL e0 eo0
  refine ⟨_, e1, Or.inl ⟨rfl, _, SqL.of hh⟩, he G H σ ρ τ δ _ h (me.mono (fun s ρ1 w1 v H1 h1 => ?_) (fun _ _ z => z) w)⟩
  refine hf G H1 σ ρ1 _ _ _ h1 (mf.mono (fun s' ρ2 w2 v' H2 h2 => ?_) (fun e ρ' z v H' q => z v H' q.drop2) w1)
  simp only at w2
  split at w2
  · rename_i j x
    obtain ⟨s1, ds, p, ds', a, e2, eo, ef, hp, q⟩ := ownL_go w2
    cases ef
    obtain ⟨F2, f2, l2, vs2, ht2, hl2, e3, hh2, rl2, kv2, k2⟩ := h2.ownL e2 eo
    rw [e1] at e3
    cases e3
    cases ht2 with
    | cons q1 q2 =>
      cases q1 with
      | sh r =>
        cases q2 with
        | cons q3 q4 =>
          cases q3 with
          | sh r' =>
            cases r' with
            | int j =>
              have := (k2 _ _ (((rl2.take j.toNat).app (.cons r .nil)).app (rl2.drop j.toNat))).pop.pop
              exact ⟨l, vs2, j, v', rfl, rfl, hh2, by rw [rl2.len]; exact hp.1, hp.2.1, hp.2.2, q _ _ (this.push rfl)⟩
  · exact w2.elim
end
end Dl
/-! ### several except clauses, each with or without a name -/
namespace TryM
open PySem PySem.Spec PyProof.Rows L2
abbrev Sui := Addr → Value → Option Addr → TS
/-- the ends of a suite whose name is taken away behind it -/
def offE (o : Option Nat) (D : Ends) : Ends := match o with
  | none => D
  | some i => { nx := fun r H => D.nx (r.set i none) H, rt := D.rt, bk := fun r H => D.bk (r.set i none) H, ct := fun r H => D.ct (r.set i none) H }
def onS (o : Option Nat) (a : Addr) (r : L2.St) : L2.St := match o with
  | none => r
  | some i => r.set i (some (.ref a))
def wMix (K : PySem.W.Frag) (Wo : WX) (D : Ends) : List (Value × Option Nat × Sui) → WX
  | [] => Wo
  | (c, o, t) :: l => fun cls d r H => ∃ b, PySem.W.exmOne K cls c = some b ∧ (b = true → ∀ a, H a = none → t a cls d (offE o D) (onS o a r) H) ∧ (b = false → wMix K Wo D l cls d r H)
/-- a clause's name -/
def NmOk (X : Cx) : Option Str → Option Nat → Prop
  | none, none => True
  | some n, some i => X.N.Nodup ∧ X.N[i]? = some n ∧ X.env.kindOf n = some .local
  | _, _ => False
inductive HdM (X : Cx) : List ExceptHandler → List (Value × Option Nat × Sui) → Prop
  | nil : HdM X [] []
  | cons {x : Str} {c : Value} {m : Option Str} {o : Option Nat} {t : Sui} {b : Stmt} {bs : List Stmt} {p q : Pos} {hs : List ExceptHandler} {l : List (Value × Option Nat × Sui)} (hc : Names X x c) (hm : NmOk X m o)
      (ht : ∀ (a : Addr) (u : Obj) (cls : Value) (d : Option Addr) (pn : List (Addr × Obj)), Zc cls d u → (∃ vs, u.data = .fields vs) → PSs (X.suite a ((a, u) :: pn)) (b :: bs) (t a cls d)) (r : HdM X hs l) :
      HdM X (.ExceptHandler (some (.Name x p)) m (b :: bs) q :: hs) ((c, o, t) :: l)
/-- what is known where an exception has landed -/
structure Landed (X : Cx) (pins : List (Addr × Obj)) (B : Heap) (a : Addr) (cls : Value) (d : Option Addr) (r : L2.St) (H : Hp) (sI s : Shared) (h : Heap) : Prop where
  inv : Inv X pins r H sI
  old : ∀ b o, sI.heap.get? b = some o → b ∉ frs X.stack → B.get? b = some o
  fly : HandSPX.FlyingZ B (X.env :: X.outer) a (Zc cls d) h
  slo : sI.heap.UpToSlots h
  osE : s.os = sI.os
  bar : AllBare s.gens
  new : H a = none
section
variable {X : Cx} {pins : List (Addr × Obj)} {D : Ends} {Wo : WX} {B : Heap} {a : Addr} {cls : Value} {d : Option Addr} {r : L2.St} {H : Hp} {sI s : Shared} {h : Heap}
theorem Landed.up (L : Landed X pins B a cls d r H sI s h) {h' : Heap} (f : HandSPX.FlyingZ B (X.env :: X.outer) a (Zc cls d) h') (u : h.UpToSlots h') : Landed X pins B a cls d r H sI s h' :=
  ⟨L.inv, L.old, f, L.slo.trans u, L.osE, L.bar, L.new⟩
theorem Landed.here (L : Landed X pins B a cls d r H sI s h) (hf : X.env.frame = some X.env.locals) : ∃ u vs, h.get? a = some u ∧ Zc cls d u ∧ u.data = .fields vs ∧ Inv X pins r H { s with heap := h } ∧ Inv (X.suite a ((a, u) :: (X.pn ++ pins))) [] r H { s with heap := h } := by
  have I : Inv X pins r H { s with heap := h } := L.inv.landed L.old L.fly.1 L.slo L.osE L.bar
  obtain ⟨u, vs, hu, hz, hd⟩ := L.fly.there
  have no : a ∉ frs (X.env :: X.outer) := fun m => by
    obtain ⟨_, u', e, n⟩ := L.fly.2.2.1.mem m
    cases hu.symm.trans e
    exact n _ hd
  refine ⟨u, vs, hu, hz, hd, I, I.suite hu hd L.new (fun z => no ?_) (fun m => no ?_)⟩
  · exact List.mem_filterMap.mpr ⟨_, List.mem_cons_self, z ▸ hf⟩
  · obtain ⟨v, hv, q⟩ := List.mem_filterMap.mp m
    exact List.mem_filterMap.mpr ⟨v, List.mem_cons_of_mem _ hv, q⟩
/-- no clause takes it -/
theorem Landed.pass (L : Landed X pins B a cls d r H sI s h) (hs : X.stack = X.env :: X.outer) (hf : X.env.frame = some X.env.locals) (tk : Takes X Wo) (w : Wo cls d r H) :
    wpAny (model X.prog X.w) X.A (handleBy (.ref a) X.env []) (SP X pins D) X.xe { s with heap := h } := by
  refine wpAny_handleBy_nil ?_
  obtain ⟨_, _, _, u, vs, T, _, _, hu, _, hd, ht, _⟩ := id L.fly
  have on : wpAny (model X.prog X.w) X.A (setFlight (.ref a) X.env.frame) (fun _ z => wpAny (model X.prog X.w) X.A (throw (.ref a) : Sem Flow) (SP X pins D) X.xe z) X.xe { s with heap := h } := by
    rw [hf]
    exact HandSPX.setFlight_upZ L.fly fun g hg ug => wpAny_throw (tk _ _ ⟨a, B, sI, pins, r, H, cls, d, rfl, L.inv, L.old, L.slo.trans ug, .inr (.inr (hs ▸ hg)), L.new, L.osE, L.bar, w⟩)
  unfold PySem.passOn
  refine wpAny_bind (wpAny_field hu hd ht ?_)
  rw [if_neg (by simp)]
  first
    | exact wpAny_bind (wpAny_pure (wpAny_bind on))
    | exact wpAny_bind on
/-- the clauses, one behind the other -/
theorem Landed.clauses (hs : X.stack = X.env :: X.outer) (hf : X.env.frame = some X.env.locals) (tk : Takes X Wo) {hds : List ExceptHandler} {l : List (Value × Option Nat × Sui)} (hh : HdM X hds l) :
    ∀ {h : Heap}, Landed X pins B a cls d r H sI s h → wMix X.K Wo D l cls d r H → wpAny (model X.prog X.w) X.A (handleBy (.ref a) X.env hds) (SP X pins D) X.xe { s with heap := h } := by
  induction hh with
  | nil => exact fun L w => L.pass hs hf tk w
  | @cons x c m o t b bs p q hds l hc hm ht hr ih =>
    intro h L w
    obtain ⟨y, hy, yes, no⟩ := w
    have ok := L.inv.ok
    obtain ⟨u, vs, hu, hz, hd, I, S⟩ := L.here hf
    refine wpAny_handleBy_cons (codeAny_handlers_test ?_) (by intro q; cases q)
    have ty : PySem.W.Looks (model X.prog X.w) h (typeOf (.ref a)) cls := fun A Q E z k e => wpAny_typeOf_ref (k _ _ hu) (by rw [hz.1]; exact e)
    have mt := PySem.W.exm_one (M := model X.prog X.w) I.kIn ty hy
    have nm : ∀ {Q E : Value → Shared → Prop}, Q c { s with heap := h } → wpAny (model X.prog X.w) (X.A.mark (some (.ref a))) (eval (.Name x p) X.env) Q E { s with heap := h } := fun k => by
      obtain ⟨g1, g2, g3 | ⟨g3, g4, g5⟩⟩ := hc
      · exact ld_glob (X := X.suite a ((a, u) :: (X.pn ++ pins))) S g1 g3 k g2
      · exact ld_blt (X := X.suite a ((a, u) :: (X.pn ++ pins))) S g1 g3 g4 k g5 g2
    refine nm (mt.here ?_)
    cases y with
    | false => exact ih L (no rfl)
    | true =>
      have run := yes rfl a L.new
      cases m with
      | none =>
        cases o with
        | some i => exact hm.elim
        | none =>
          refine codeAny_handlers_suite (HandSPX.lands_againZ L.fly fun h4 f4 u4 => ?_)
          obtain ⟨u', vs', hu', hz', hd', I', S'⟩ := (L.up f4 u4).here hf
          refine wpAny_mono ((ht a u' cls d (X.pn ++ pins) hz' ⟨_, hd'⟩).run [] _ _ H _ S' run) (fun f s6 e => ?_) (fun _ _ z => z.elim)
          cases f with
          | ret v => exact let ⟨v6, r6, H6, S6, rv, k⟩ := e; ⟨v6, r6, H6, S6.unsuite ok, rv, k⟩
          | next => exact let ⟨r6, H6, S6, k⟩ := e; ⟨r6, H6, S6.unsuite ok, k⟩
          | brk => exact let ⟨r6, H6, S6, k⟩ := e; ⟨r6, H6, S6.unsuite ok, k⟩
          | cont => exact let ⟨r6, H6, S6, k⟩ := e; ⟨r6, H6, S6.unsuite ok, k⟩
      | some n =>
        cases o with
        | none => exact hm.elim
        | some i =>
          obtain ⟨n1, n2, n3⟩ := hm
          refine codeAny_handlers_suite_as (HandSPX.lands_againZ L.fly fun h4 f4 u4 => ?_)
          obtain ⟨u', vs', hu', hz', hd', I', S'⟩ := (L.up f4 u4).here hf
          refine store_ok (X := X.suite a ((a, u') :: (X.pn ++ pins))) (v := .ref a) S' n1 n2 (.inl n3) rfl (fun s5 S5 => ?_) (.inr n3)
          refine wpAny_mono ((ht a u' cls d (X.pn ++ pins) hz' ⟨_, hd'⟩).run [] s5 _ H _ S5 run) (fun f s6 e => ?_) (fun _ _ z => z.elim)
          have off : ∀ {r6 : L2.St} {H6 : Hp} {Q : Shared → Prop}, Inv (X.suite a ((a, u') :: (X.pn ++ pins))) [] r6 H6 s6 → (∀ s7, Inv X pins (r6.set i none) H6 s7 → Q s7) → wpAny (model X.prog X.w) X.A (do bindName X.env n .none; unbindBehindTheSuite X.env n q) (fun _ s7 => Q s7) X.xe s6 := fun S6 k => gone_ok (S6.unsuite ok) n1 n2 n3 k
          cases f with
          | ret v => exact let ⟨v6, r6, H6, S6, rv, k⟩ := e; off S6 fun s7 J => ⟨v6, _, H6, J, rv, k⟩
          | next => exact let ⟨r6, H6, S6, k⟩ := e; off S6 fun s7 J => ⟨_, H6, J, k⟩
          | brk => exact let ⟨r6, H6, S6, k⟩ := e; off S6 fun s7 J => ⟨_, H6, J, k⟩
          | cont => exact let ⟨r6, H6, S6, k⟩ := e; off S6 fun s7 J => ⟨_, H6, J, k⟩
end
theorem ps_try {X : Cx} {body : List Stmt} {h0 : ExceptHandler} {hds : List ExceptHandler} {l : List (Value × Option Nat × Sui)} {pos : Pos} {tb : WX → TS} {Wo : WX} (hs : X.stack = X.env :: X.outer) (hf : X.env.frame = some X.env.locals) (tk : Takes X Wo)
    (hb : ∀ (W : WX) (pn : List (Addr × Obj)) (xe : Value → Shared → Prop), Takes (X.tr pn xe) W → PassesOwn (model X.prog X.w) X.A X.env xe → PSs (X.tr pn xe) body (tb W)) (hh : HdM X (h0 :: hds) l) :
    PS X (.Try body (h0 :: hds) [] [] pos) (fun D r H => tb (wMix X.K Wo D l) D r H) := ⟨fun pins s r H D I w => by
  have ok := I.ok
  refine wpAny_Try_except (wpAny_mono ((hb (wMix X.K Wo D l) (X.pn ++ pins) (fun v z => wpAny (model X.prog X.w) X.A (noteFrame v X.env) (fun _ z => wpAny (model X.prog X.w) X.A (setFlight v none) (fun _ z => wpAny (model X.prog X.w) X.A (handleBy v X.env (h0 :: hds)) (SP X pins D) X.xe z) X.xe z) X.xe z) (fun v z e => ?_) PassesOwn.looking).run [] s r H D (I.toTry _) w) (fun f z e => ?_) (fun _ _ e => e))
  · obtain ⟨a, B, sI, pins', r', H', cls, d, rfl, J, old, up, sky, na, os, ag, w'⟩ := e
    show wpAny (model X.prog X.w) X.A (noteFrame (.ref a) X.env) _ _ _
    have sky' : Sky B (X.env :: X.outer) a (Zc cls d) X.env.locals z.heap := by rw [← hs]; exact sky
    exact Sky.land Zc.steady (by rw [ok.frames, hs]) hf sky' fun h3 f3 u3 => Landed.clauses hs hf tk hh ⟨J.ofTry ok, old, f3, up.trans u3, os, ag, na⟩ w'
  · cases f with
    | ret v => exact let ⟨v6, r6, H6, S6, rv, k⟩ := e; ⟨v6, r6, H6, S6.ofTry ok, rv, k⟩
    | next => exact wpAny_execs_nil (let ⟨r6, H6, S6, k⟩ := e; ⟨r6, H6, S6.ofTry ok, k⟩)
    | brk => exact let ⟨r6, H6, S6, k⟩ := e; ⟨r6, H6, S6.ofTry ok, k⟩
    | cont => exact let ⟨r6, H6, S6, k⟩ := e; ⟨r6, H6, S6.ofTry ok, k⟩⟩
end TryM
namespace Dl
open PySem PySem.Spec PyProof.Rows L2
abbrev HdD := (Nat → Option Bool) × Option Nat × (Addr → Addr → Nat → MS)
def quiet (M : MEnds) : MEnds := ⟨M.nx, M.rt, M.bk, M.ct, fun _ _ => False⟩
def nGo (M : MEnds) (er : Er) (r : Env) : List HdD → Prop
  | [] => M.ex er r
  | (tbl, o, hd) :: l => match tbl er.c with
    | some true => match o with
      | some i => match r[i]? with
        | some _ => ∀ a dd, (hd a dd er.c).wp (r.set i (.er a dd er.c er.d)) (hEnds i M)
        | none => False
      | none => ∀ a dd, (hd a dd er.c).wp r (quiet M)
    | some false => nGo M er r l
    | none => False
def nEnds (l : List HdD) (M : MEnds) : MEnds := ⟨M.nx, M.rt, M.bk, M.ct, fun er r => nGo M er r l⟩
theorem quiet_le {M M' : MEnds} (h : M.Le M') : (quiet M).Le (quiet M') := ⟨h.nx, h.rt, h.bk, h.ct, fun _ _ q => q⟩
theorem nGo_le {M M' : MEnds} (h : M.Le M') {er : Er} {r : Env} : ∀ {l : List HdD}, nGo M er r l → nGo M' er r l
  | [], z => h.ex _ _ z
  | (tbl, o, hd) :: l, z => by
    unfold nGo at z ⊢
    split at z
    · split at z
      · split at z
        · exact fun a dd => (hd a dd er.c).mono (hEnds_le h) (z a dd)
        · exact z.elim
      · exact fun a dd => (hd a dd er.c).mono (quiet_le h) (z a dd)
    · exact nGo_le h z
    · exact z.elim
def sTryN (l : List HdD) (b : MS) : MS := ⟨fun ρ M => b.wp ρ (nEnds l M), fun {ρ M M'} h w => b.mono (M := nEnds l M) (M' := nEnds l M') ⟨h.nx, h.rt, h.bk, h.ct, fun _ _ z => nGo_le h z⟩ w⟩
section
variable {K : PySem.W.Frag}
inductive NOk (K : PySem.W.Frag) : List (Value × Option Nat × TryM.Sui) → List HdD → Prop
  | nil : NOk K [] []
  | cons {c : Value} {o : Option Nat} {ts : TryM.Sui} {tbl : Nat → Option Bool} {mh : Addr → Addr → Nat → MS} {l : List (Value × Option Nat × TryM.Sui)} {m : List HdD} (ht : ∀ n b, tbl n = some b → PySem.W.exmOne K (.ref (He.ga K (en n))) c = some b)
      (hh : ∀ a dd n, SOk K (fun _ _ _ _ => False) (ts a (.ref (He.ga K (en n))) (some dd)) (mh a dd n)) (r : NOk K l m) : NOk K ((c, o, ts) :: l) ((tbl, o, mh) :: m)
theorem Rel.leak {G : Ent} {H : Hp} {σ τ : L2.St} {ρ : Env} {δ : List Sl} {v : V} {x : D} {p : Addr} {o : HO} (h : Rel K G H σ ρ (some v :: τ) (.sh x :: δ)) (hp : H p = none) : Rel K G (upd H p o) σ ρ τ δ := by
  obtain ⟨F, f1, f2, g, ht, hs⟩ := h
  cases ht with
  | cons q1 q2 =>
    rename_i fa fb
    cases q1 with
    | sh r =>
      have hin : ∀ b ∈ fb ++ f2, H b ≠ none := fun b hb => by
        rcases List.mem_append.mp hb with z | z
        · exact q2.here b z
        · exact hs.here b z
      have hn : ∀ b ∈ fb ++ f2, upd H p o b = H b := fun b hb => upd_ne fun z => hin b hb (by rw [z]; exact hp)
      exact ⟨F, fb, f2, (Good.newO (fp := fb ++ f2) g hin hp o).less (List.sublist_cons_self _ _), q2.mono Le.rfl fun b hb => hn b (List.mem_append_left _ hb), hs.mono Le.rfl fun b hb => hn b (List.mem_append_right _ hb)⟩
theorem Rel.caught {G : Ent} {H : Hp} {σ τ : L2.St} {ρ : Env} {δ : List Sl} {v : V} {x : D} {a p : Addr} {c i : Nat} (h : Rel K G H σ ρ (some v :: τ) (.sh x :: δ)) (hp : H p = none) (hi : i < ρ.length) : Rel K G (upd H p (.xd [(ef c, v)])) (σ.set i (some (.ref a))) (ρ.set i (.er a p c x)) τ δ := by
  obtain ⟨F, f1, f2, g, ht, hs⟩ := h
  cases ht with
  | cons q1 q2 =>
    rename_i fa fb
    cases q1 with
    | sh r =>
      have hin : ∀ b ∈ fb ++ f2, H b ≠ none := fun b hb => by
        rcases List.mem_append.mp hb with z | z
        · exact q2.here b z
        · exact hs.here b z
      have hn : ∀ b ∈ fb ++ f2, upd H p (.xd [(ef c, v)]) b = H b := fun b hb => upd_ne fun z => hin b hb (by rw [z]; exact hp)
      exact Rel.set (τ := τ) (δ := δ) (o := some (.ref a)) (s := .er a p c x) ⟨F, p :: fb, f2, Good.newO (fp := fb ++ f2) g hin hp _, .cons (f := [p]) (.er upd_same r) (q2.mono Le.rfl fun b hb => hn b (List.mem_append_left _ hb)), hs.mono Le.rfl fun b hb => hn b (List.mem_append_right _ hb)⟩ hi
theorem zTryN {tb : WX → TS} {Wo : WX} {mb : MS} {l : List (Value × Option Nat × TryM.Sui)} {m : List HdD} (hb : ∀ X, SOk K (WE X) (tb X) mb) (hl : NOk K l m) : SOk K (WE Wo) (fun D σ H => tb (TryM.wMix K Wo D l) D σ H) (sTryN m mb) := fun G H σ ρ τ δ D M h hi w => by
  refine hb _ G H σ ρ τ δ D (nEnds m M) h ⟨hi.nx, hi.rt, hi.bk, hi.ct, fun σ1 er ρ1 z v H1 h1 d hd => ?_⟩ w
  have z' : nGo M er ρ1 m := z
  clear z w
  induction hl with
  | nil => exact hi.ex σ1 er ρ1 z' v H1 h1 d hd
  | @cons c o ts tbl mh l m ht hh r ih =>
    unfold nGo at z'
    split at z'
    · rename_i e
      refine ⟨true, ht _ _ e, fun _ a ha => ?_, fun q => Bool.noConfusion q⟩
      split at z'
      · rename_i i
        split at z'
        · rename_i e'
          have hlt : i < ρ1.length := by
            rcases Nat.lt_or_ge i ρ1.length with q | q
            · exact q
            · rw [List.getElem?_eq_none q] at e'; cases e'
          exact hh a d er.c G _ _ _ τ δ _ (hEnds i M) (h1.caught hd hlt) ⟨fun σ2 ρ2 H2 h3 w3 => hi.nx _ _ _ h3.clr w3, hi.rt, fun σ2 ρ2 H2 h3 w3 => hi.bk _ _ _ h3.clr w3, fun σ2 ρ2 H2 h3 w3 => hi.ct _ _ _ h3.clr w3, fun _ _ _ q => q.elim⟩ (z' a d)
        · exact z'.elim
      · exact hh a d er.c G _ _ _ τ δ _ (quiet M) (h1.leak hd) ⟨hi.nx, hi.rt, hi.bk, hi.ct, fun _ _ _ q => q.elim⟩ (z' a d)
    · rename_i e
      exact ⟨false, ht _ _ e, fun q => Bool.noConfusion q, fun _ => ih z'⟩
    · exact z'.elim
end
end Dl
/-! ### keywords in another order than the parameters -/
namespace Cl
open PySem PySem.Spec PyProof.Rows L2
def pm {α : Type} : List Nat → List α → List α
  | [], _ => []
  | i :: is, l => match l[i]? with
    | some x => x :: pm is l
    | none => pm is l
theorem pm_rel {vs : List V} {us : List Value} (r : Vals vs us) : ∀ (is : List Nat), Vals (pm is vs) (pm is us)
  | [] => .nil
  | i :: is => by
    unfold pm
    cases e : vs[i]? with
    | some x =>
      obtain ⟨u, eu, ru⟩ := r.get e
      rw [eu]
      exact .cons ru (pm_rel r is)
    | none =>
      have l := r.length
      have : us[i]? = none := by
        rw [List.getElem?_eq_none_iff] at e ⊢
        omega
      rw [this]
      exact pm_rel r is
end Cl
namespace PySem
namespace ErrX
open PySem.W PySem.Calls PyProof.Rows PySem.HandSPX
/-! ### an error's __init__ that lays a copy: super().__init__(msg); self.f = list(x) -/
def iBL (x f msg : Str) (q1 q2 q3 q4 q5 q6 q7 q8 q9 q10 qa qb : Pos) : List Stmt :=
  [.Expr (.Call (.Attribute (.Call (.Name "super" q1) [] [] q2) "__init__" q3) [.Constant (.str msg) 0 q4] [] q5) q6,
   .Assign [.Attribute (.Name "self" q7) f q8] (.Call (.Name "list" qa) [.Name x q9] [] qb) q10]
def iSL (x : Str) : Scope := { kind := .function, names := [(PySem.Str.ofString "self", .local), (x, .local), (PySem.Str.ofString "__class__", .free), (PySem.Str.ofString "super", .globalImplicit), (PySem.Str.ofString "list", .globalImplicit)], isGenerator := false, isCoroutine := false, more := [] }
/-- what the written part says of the error class at C and of its __init__ at fI; x the parameter, f the field -/
structure ErrTxtL (P : Program) (K : Frag) (C : Addr) (x f : Str) : Prop where
  cls : ∃ nm q N bs bm sn sub ab col dd k0 k1 k2 k3 k5, K.lookup C = some (excClassObj nm q C N bs bm true sn sub ab col dd k0 k1 k2 k3 k5 "ValueError.__new__") ∧ refsVE bm = true
  along : ∃ cd, clsIn K C = some cd ∧ alongIn K "__init__" ((cd.mro.dropWhile (· != .ref C)).drop 1) = some (some (.builtin "ValueError.__init__"))
  opq : nsIn K cStatics "thirdparty.any" = some none
  selfC : mroIn K C (.ref C) = some true
  ve : subIn K (.ref C) (.type "ValueError") = some true
  sa : findIn K (.ref C) "__setattr__" = some (some (.builtin "object.__setattr__"))
  ga : findIn K (.ref C) "__getattribute__" = some (some (.builtin "BaseException.__getattribute__"))
  gg : findIn K (.ref C) "__getattr__" = some none
  noN : findIn K (.ref C) f = some none
  kC : keepIn K (.ref C) = true
  exC : subIn K (.ref C) (.type "BaseException") = some true
  tyC : typeIn K (.ref C) = some (.type "type")
  hdC : hasDictIn K C = true
  fn : ∃ fI, findIn K (.ref C) "__init__" = some (some (.ref fI)) ∧ typeIn K (.ref fI) = some (.type "function") ∧
    ∃ (oc : Value) (od : Option Addr) (doc pm kV : Value) (an : Option Addr) (cda cc : Addr) (ct : Value) (osl : Array (Option Value)) (nm qual msg : Str) (p1 p2 q1 q2 q3 q4 q5 q6 q7 q8 q9 q10 qa qb : Pos),
      (q3.endLine == q5.line) = true ∧ K.lookup fI = some ⟨oc, od, .func (ksFn nm qual (iA x p1 p2) (iBL x f msg q1 q2 q3 q4 q5 q6 q7 q8 q9 q10 qa qb) (iSL x) .none kV doc pm an (.ref cda) ct cc), osl⟩ ∧ codeIn K (.ref cda) qual = true ∧
      (∃ ccl cdd vs ccs file tf, K.lookup cda = some ⟨ccl, cdd, .fields vs, ccs⟩ ∧ vs[2]? = some (.str file tf) ∧ ((P.main.file : Str) == file) = true) ∧
      ∃ cl cld csl, K.lookup cc = some ⟨cl, cld, .cell (some (.ref C)), csl⟩
  topl : (P.main.scope.names.lookup ("list" : Str)).isSome = false
  top : (P.main.scope.names.lookup ("super" : Str)).isSome = false
  xs : (x == ("self" : Str)) = false
  xc : (("__class__" : Str) == x) = false
  xu : (("super" : Str) == x) = false
  xl : (("list" : Str) == x) = false
  xd : (x == ("__debug__" : Str)) = false
  bnd : ∀ (nm qual : Str) (Bd : List Stmt) (kV doc pm : Value) (an : Option Addr) (cdv ct : Value) (cc : Addr) (p1 p2 : Pos) (u v : Value), bindArgs (ksFn nm qual (iA x p1 p2) Bd (iSL x) .none kV doc pm an cdv ct cc) ⟨[u, v], []⟩ = pure [(("self" : Str), u), (x, v)]
structure InitEndL (h h' : Heap) (e C dx : Addr) (f : Str) (l : Addr) (items : Array Value) (cl : Nat) : Prop where
  ini : InitEnd h h' e C dx f (.ref l)
  lbig : h.objs.size ≤ l
  lne : l ≠ e
  lnd : l ≠ dx
  lobj : h'.get? l = some { cls := .type "list", dict := none, data := .seq items cl, slots := #[] }
structure MadeL (h h' : Heap) (e C d : Addr) (f : Str) (l : Addr) (items : Array Value) (cl : Nat) : Prop where
  made : Made h h' e C d f (.ref l)
  lbig : h.objs.size ≤ l
  lne : l ≠ e
  lnd : l ≠ d
  lobj : h'.get? l = some { cls := .type "list", dict := none, data := .seq items cl, slots := #[] }
section
variable {prog : Program} {w : World} {A : Around} {E : Value → Shared → Prop} {R : Result → Shared → Prop} {s : Shared} {K : Frag} {mg mb : Str → Option Value} {C : Addr} {x f : Str}
theorem lookL_x (T : ErrTxtL prog K C x f) : (iSL x).names.lookup x = some .local := by
  have e := T.xs
  have e2 : (x == PySem.Str.ofString "self") = false := e
  simp [iSL, List.lookup, e2]
theorem lookL_c (T : ErrTxtL prog K C x f) : (iSL x).names.lookup ("__class__" : Str) = some .free := by
  have e := T.xc
  have e0 : ((PySem.Str.ofString "__class__") == PySem.Str.ofString "self") = false := by decide +kernel
  have e2 : (PySem.Str.ofString "__class__" == x) = false := e
  show List.lookup (PySem.Str.ofString "__class__") (iSL x).names = _
  simp [iSL, List.lookup, e2, e0]
theorem lookL_u (T : ErrTxtL prog K C x f) : (iSL x).names.lookup ("super" : Str) = some .globalImplicit := by
  have e := T.xu
  have e0 : ((PySem.Str.ofString "super") == PySem.Str.ofString "self") = false := by decide +kernel
  have e1 : ((PySem.Str.ofString "super") == PySem.Str.ofString "__class__") = false := by decide +kernel
  have e2 : (PySem.Str.ofString "super" == x) = false := e
  show List.lookup (PySem.Str.ofString "super") (iSL x).names = _
  simp [iSL, List.lookup, e2, e0, e1]
theorem lookL_l (T : ErrTxtL prog K C x f) : (iSL x).names.lookup ("list" : Str) = some .globalImplicit := by
  have e := T.xl
  have e0 : ((PySem.Str.ofString "list") == PySem.Str.ofString "self") = false := by decide +kernel
  have e1 : ((PySem.Str.ofString "list") == PySem.Str.ofString "__class__") = false := by decide +kernel
  have e3 : ((PySem.Str.ofString "list") == PySem.Str.ofString "super") = false := by decide +kernel
  have e2 : (PySem.Str.ofString "list" == x) = false := e
  show List.lookup (PySem.Str.ofString "list") (iSL x).names = _
  simp [iSL, List.lookup, e2, e0, e1, e3]
theorem lookL_s : (iSL x).names.lookup ("self" : Str) = some .local := by
  show List.lookup (PySem.Str.ofString "self") (iSL x).names = _
  simp [iSL, List.lookup]
theorem err_initL (T : ErrTxtL prog K C x f) {e t0 fI p : Addr} {Tn : String} {ol : Obj} {items : Array Value} {nl : Nat} (hTn : Tn = "list" ∨ Tn = "tuple") (hol : s.heap.get? p = some ol) (hoc : ol.cls = .type Tn) (hod : ol.data = .seq items nl) (hsz : items.size ≤ sizeLine) (hfI : findIn K (.ref C) "__init__" = some (some (.ref fI))) (X : K.In s.heap) (G : s.heap.Ns mainGlobals mg) (Gs : mg "super" = none) (B : s.heap.Ns builtinsNs mb) (Bs : mb "super" = some (.type "super")) (Gl : mg "list" = none) (Bl : mb "list" = some (.type "list"))
    (hlim : s.heap.NoLimit) (hx : s.heap.get? e = some (excO C t0)) (hnx : K.lookup e = none) (hroom : A.depth < recursionLimit)
    (hq : ∀ h' tk dx l cl, InitEndL s.heap h' e C dx f l items cl → R (.ok (.ret .none)) { s with heap := h', toks := tk }) :
    codeAny (model prog w) A (.call (.ref fI) ⟨[.ref e, .ref p], []⟩) R s := by
  obtain ⟨fI', hfI', hty, oc, od, doc, pm, kV, an, cda, cc, ct, osl, nm0, qual, msg, p1, p2, q1, q2, q3, q4, q5, q6, q7, q8, q9, q10, qa, qb, hln, ho, hcd, ⟨ccl, cdd, cvs, ccs, file, tf, hcode, hvs, hfile⟩, ⟨cl, cld, csl, hcell⟩⟩ := T.fn
  have ef : fI' = fI := by
    have z := hfI'.symm.trans hfI
    simpa using z
  subst ef
  obtain ⟨nm, q, N, bs, bm, sn, sub, ab, col, dd, k0, k1, k2, k3, k5, hC, hbm⟩ := T.cls
  have hcl := clsIn_of hC
  obtain ⟨cd', hcd', hal⟩ := T.along
  have hcdE := hcd'
  rw [hcl] at hcd'
  have hcd'' := (Option.some.inj hcd')
  have hlx := lookL_x T
  have hlc := lookL_c T
  have hlu := lookL_u T
  have hls := lookL_s (x := x)
  have hll := lookL_l T
  refine ks_codeAny_call_defAt (fd := ksFn nm0 qual (iA x p1 p2) (iBL x f msg q1 q2 q3 q4 q5 q6 q7 q8 q9 q10 qa qb) (iSL x) .none kV doc pm an (.ref cda) ct cc) (binds := [("self", .ref e), (x, .ref p)]) hroom (X _ _ ho) rfl hlim (codeRec_of X hcd) rfl
    (BindsTo.of_eq (T.bnd ..)) ?hcell ?hloc (fun h₁ hns hk₁ => ?_) rfl rfl rfl
  case hcell =>
    intro y hy
    have hy' : y ∈ [(PySem.Str.ofString "self", NameKind.local), (x, NameKind.local), (PySem.Str.ofString "__class__", NameKind.free), (PySem.Str.ofString "super", NameKind.globalImplicit), (PySem.Str.ofString "list", NameKind.globalImplicit)] := hy
    simp only [List.mem_cons, List.not_mem_nil, or_false] at hy'
    rcases hy' with rfl | rfl | rfl | rfl | rfl <;> (intro z; cases z)
  case hloc =>
    intro y hy
    simp only [List.mem_cons, List.not_mem_nil, or_false] at hy
    rcases hy with rfl | rfl
    · exact hls
    · exact hlx
  have X₁ : K.In h₁ := X.keeps hk₁
  have hx₁ := hk₁ _ _ hx
  have hmx : (fun y => List.lookup y ([(("self" : Str), Value.ref e), (x, .ref p)] : List (Str × Value)).reverse) x = some (.ref p) := by simp [List.lookup]
  have hms : (fun y => List.lookup y ([(("self" : Str), Value.ref e), (x, .ref p)] : List (Str × Value)).reverse) ("self" : Str) = some (.ref e) := by
    have e1 : (("self" : Str) == x) = false := by
      rw [Bool.eq_false_iff]
      intro z
      have z2 := (beq_iff_eq.mp z)
      have z3 := T.xs
      rw [← z2] at z3
      simp at z3
    simp [List.lookup, e1]
  obtain ⟨hp, g, dr, tk, os⟩ := s
  have hlc' : (ksEnv qual (iSL x) hp.objs.size fI' (.ref cda) cc).kindOf "__class__" = some .free := hlc
  have hlu' : (ksEnv qual (iSL x) hp.objs.size fI' (.ref cda) cc).kindOf "super" = some .globalImplicit := hlu
  have hls' : (ksEnv qual (iSL x) hp.objs.size fI' (.ref cda) cc).kindOf "self" = some .local := hls
  have hll' : (ksEnv qual (iSL x) hp.objs.size fI' (.ref cda) cc).kindOf "list" = some .globalImplicit := hll
  have hlx' : (ksEnv qual (iSL x) hp.objs.size fI' (.ref cda) cc).kindOf x = some .local := hlx
  obtain ⟨oD, hD1, hD2⟩ : ∃ oD, h₁.get? C = some oD ∧ ∃ cdc, oD.data = .cls cdc := ⟨_, X₁ _ _ hC, _, rfl⟩
  obtain ⟨cdc, hD2⟩ := hD2
  have I1 : InstAt h₁ e (excO C t0) C none := ⟨hx₁, rfl, rfl, trivial⟩
  show wpAt _ _ _ (execs (iBL x f msg q1 q2 q3 q4 q5 q6 q7 q8 q9 q10 qa qb) (ksEnv qual (iSL x) hp.objs.size fI' (.ref cda) cc)) _ _ _
  refine ks_wpAt_execs_cons (ks_wpAt_Expr_any (ks_wpAt_MethodCall (pl := (do return (← importBound (.Call (.Name "super" q1) [] [] q2) (ksEnv qual (iSL x) hp.objs.size fI' (.ref cda) cc)).getD true)) ?_ ?he))
  case he =>
    rw [arm_eval_Call]
    refine congrArg _ (funext fun ov => ?_)
    refine congrArg _ (funext fun _ => ?_)
    exact mcall_one rfl hln
  refine ks_wpAt_super_base (env := ksEnv qual (iSL x) hp.objs.size fI' (.ref cda) cc) hlu' hlc' (by decide +kernel) rfl (X₁ _ _ ho) rfl rfl rfl (X₁ _ _ hcode) rfl hvs hfile T.top ?_
  refine ks_loadName_global rfl hlu' (loadGlobal_builtin (env := ksEnv qual (iSL x) hp.objs.size fI' (.ref cda) cc) (G.keeps hk₁) Gs (B.keeps hk₁) Bs ⟨rfl, ?_⟩)
  refine wpAny_loadName_free rfl hlc' rfl ⟨_, X₁ _ _ hcell, rfl⟩ ?_
  refine wpAny_loadName_local rfl hls' hns hms ?_
  refine ks_wpAny_isType_cls hD1 hD2 ⟨rfl, ?_⟩
  refine ks_wpAny_call_super hD1 hD2 hx₁ rfl (fun c z => by cases z) (looks_mroIn X₁ T.selfC) (fun h₂ e₂ k₂ => ?_)
  have X₂ : K.In h₂ := X₁.keeps k₂
  have hx₂ := k₂ _ _ hx₁
  have I2 : InstAt h₂ e (excO C t0) C none := ⟨hx₂, rfl, rfl, trivial⟩
  have hI2 : Looks (model prog w) h₂ (isInstance (.ref e) (.type "ValueError")) true := I2.type.andThen (looks_subIn X₂ T.ve)
  refine kxs_getMethod kxs_ValueError e₂ (looks_opaque X₂ T.opq) (l₀ := cd'.mro) (fun A Q E s k q => wpAny_bind ((looks_clsIn X₂ hcdE) A _ E s k (wpAny_pure q))) rfl X₂ hal hI2 (ks_ne X₂ I2 hcdE) (by decide +kernel) ?_
  have hu₃ : (h₂.push (kxs_mw "ValueError.__init__" e)).get? h₂.objs.size = some (kxs_mw "ValueError.__init__" e) := Heap.get?_push_at rfl rfl
  have k₃ : ∀ b o, h₂.get? b = some o → (h₂.push (kxs_mw "ValueError.__init__" e)).get? b = some o := fun b o z => Heap.get?_push_of_some _ z
  refine kxs_callWith (i := "ValueError.__init__") (x := e) rfl ?_
  refine evalArgs_plain (PyProof.Rows.spliced_more (Constant_str (PyProof.Rows.spliced_none ?_)))
  refine ⟨hu₃, ?_⟩
  show wpAny _ _ (call (.ref h₂.objs.size) [_]) _ _ _
  refine call_bw (nm := nm) (q := q) (N := N) (bs := bs) (bm := bm) (hdct := true) (sn := sn) (sub := sub) (ab := ab) (col := col) (dd := dd) (k0 := k0) (k1 := k1) (k2 := k2) (k3 := k3) (k5 := k5) (X₂.keeps k₃ _ _ hC) (k₃ _ _ hx₂) hu₃ (one_size _) (fun h₄ t1 k₄ hx₄ => ?_)
  have hk14 : ∀ b o, b ≠ e → h₁.get? b = some o → h₄.get? b = some o := fun b o hb z => k₄ b o hb (k₃ b o (k₂ b o z))
  have hLe : hp.objs.size ≠ e := Nat.ne_of_gt (Heap.lt_size hx)
  have hns₄ : h₄.Ns hp.objs.size (fun y => List.lookup y ([(("self" : Str), Value.ref e), (x, .ref p)] : List (Str × Value)).reverse) := by
    obtain ⟨o, es, ep, ho1, r⟩ := hns
    exact ⟨o, es, ep, hk14 _ _ hLe ho1, r⟩
  have X₄ : K.In h₄ := fun a o z => hk14 a o (fun y => by rw [y, hnx] at z; cases z) (X₁ a o z)
  have hpe : p ≠ e := fun z => by
    subst z
    have q := hol.symm.trans hx
    cases q
    have hc0 : (excO C t0).cls = .ref C := rfl
    rw [hc0] at hoc
    cases hoc
  have hp₄ : h₄.get? p = some ol := hk14 _ _ hpe (hk₁ _ _ hol)
  refine ks_wpAt_execs_cons (ks_wpAt_Assign_Attr (wpAt_of_wpAny ?_))
  have nsk : ∀ {a : Addr} {m : Str → Option Value}, hp.Ns a m → h₄.Ns a m := fun {a m} h => by
    obtain ⟨o, es, ep, ho1, r⟩ := h
    refine ⟨o, es, ep, hk14 _ _ (fun z => ?_) (hk₁ _ _ ho1), r⟩
    subst z
    have q := ho1.symm.trans hx
    cases q
    have r1 := r.1
    cases r1
  refine wpAny_Call_Name_kw (wpAny_Name (ks_loadName_global rfl hll' (loadGlobal_builtin (env := ksEnv qual (iSL x) hp.objs.size fI' (.ref cda) cc) (nsk G) Gl (nsk B) Bl ?_)) (by decide))
  refine PyProof.Rows.callWith_type1 (PyProof.Rows.spliced_more (ESX.ldL (env := ksEnv qual (iSL x) hp.objs.size fI' (.ref cda) cc) hns₄ hmx (PyProof.Rows.spliced_none ?_) rfl hlx' T.xd)) rfl rfl
  refine call_list_seq p hTn hp₄ hoc hod (fun h₆ c₆ k₆ l₆ => ?_) hsz
  have hns₆ : h₆.Ns hp.objs.size (fun y => List.lookup y ([(("self" : Str), Value.ref e), (x, .ref p)] : List (Str × Value)).reverse) := by
    obtain ⟨o, es, ep, ho1, r⟩ := hns₄
    exact ⟨o, es, ep, k₆ _ _ ho1, r⟩
  have X₆ : K.In h₆ := X₄.keeps k₆
  have hx₆ := k₆ _ _ hx₄
  have hle : h₄.objs.size ≠ e := Nat.ne_of_gt (Heap.lt_size hx₄)
  refine ESX.ldL (env := ksEnv qual (iSL x) hp.objs.size fI' (.ref cda) cc) hns₆ hms ?_ rfl hls' (by decide)
  refine set_plain X₆ (ox := excO C t1) (od := none) ⟨hx₆, rfl, rfl, trivial⟩ T.sa ?_
  refine exc_osa X₆ hx₆ hcl (show refsVE (.ref C :: bm) = true from hbm) rfl T.noN (fun h₅ tk₅ dx k₅ dn dne hx₅ hn₅ => ?_)
  have hL4 : hp.objs.size ≤ h₄.objs.size := by
    obtain ⟨o, es, ep, ho1, r⟩ := hns₄
    exact Nat.le_of_lt (Heap.lt_size ho1)
  have hL6 : h₄.objs.size < h₆.objs.size := Heap.lt_size l₆
  have dn' : h₆.objs.size ≤ dx := dn
  refine wpAt_of_wpAny (wpAny_execs_nil (hq h₅ tk₅ dx h₄.objs.size c₆ ⟨⟨fun b o hb z => k₅ b o hb (k₆ b o (hk14 b o hb (hk₁ b o z))), ⟨t1, hx₅⟩, ?_, dne, hn₅⟩, hL4, hle, fun z => ?_, k₅ _ _ hle l₆⟩))
  · show hp.objs.size ≤ dx
    omega
  · have z' : h₄.objs.size = dx := z
    omega
theorem err_madeL (T : ErrTxtL prog K C x f) {p : Addr} {Tn : String} {ol : Obj} {items : Array Value} {nl : Nat} (hTn : Tn = "list" ∨ Tn = "tuple") (hol : s.heap.get? p = some ol) (hoc : ol.cls = .type Tn) (hod : ol.data = .seq items nl) (hsz : items.size ≤ sizeLine) (X : K.In s.heap) (G : s.heap.Ns mainGlobals mg) (Gs : mg "super" = none) (B : s.heap.Ns builtinsNs mb) (Bs : mb "super" = some (.type "super")) (Gl : mg "list" = none) (Bl : mb "list" = some (.type "list")) (hlim : s.heap.NoLimit) (hroom : A.depth + 1 < recursionLimit)
    (hq : ∀ h' tk e d l cl, MadeL s.heap h' e C d f l items cl → R (.ok (.ret (.ref e))) { s with heap := h', toks := tk }) :
    codeAny (model prog w) A (.call (.ref C) ⟨[.ref p], []⟩) R s := by
  obtain ⟨nm, q, N, bs, bm, sn, sub, ab, col, dd, k0, k1, k2, k3, k5, hC, hbm⟩ := T.cls
  obtain ⟨fI, iC, tC, _⟩ := id T.fn
  obtain ⟨hp, g, dr, tk, os⟩ := s
  have k : ∀ b o, hp.get? b = some o → ((hp.push (kdv_tup [.ref p])).push (excO C hp.objs.size)).get? b = some o := fun b o e => Heap.get?_push_of_some _ (Heap.get?_push_of_some _ e)
  have hget : ((hp.push (kdv_tup [.ref p])).push (excO C hp.objs.size)).get? (hp.objs.size + 1) = some (excO C hp.objs.size) := by heap_get
  have hnx : K.lookup (hp.objs.size + 1) = none := by
    cases e : K.lookup (hp.objs.size + 1) with
    | none => rfl
    | some o =>
      have z : hp.get? (hp.objs.size + 1) = some o := X _ _ e
      exact absurd (Nat.lt_of_succ_lt (Heap.lt_size z)) (Nat.lt_irrefl _)
  refine call_own F.excBase_ValueError (fun X => refsVE_contains X bm hbm) (X _ _ hC) (looks_findIn X iC) (fun self => bind_fn X self tC) (one_size _) ?_
  refine err_initL (s := ⟨(hp.push (kdv_tup [.ref p])).push (excO C hp.objs.size), g, dr, tk, os⟩) T hTn (k _ _ hol) hoc hod hsz iC (X.keeps k) (G.keeps k) Gs (B.keeps k) Bs Gl Bl (hlim.keeps k) hget hnx ?_ fun h' tk' dx l cl ⟨⟨k', ⟨t1, hx⟩, dn, dne, hns⟩, l1, l2, l3, l4⟩ => ?_
  · show A.depth + 1 < recursionLimit
    exact hroom
  · have old : ∀ b o, hp.get? b = some o → h'.get? b = some o := fun b o e => k' b o (Nat.ne_of_lt (Nat.lt_succ_of_lt (Heap.lt_size e))) (k b o e)
    have z : hp.objs.size + 1 + 1 ≤ dx := by
      first
        | (simpa only [Heap.size_push] using dn)
        | exact dn
        | (have q := dn; rw [Heap.size_push, Heap.size_push] at q; exact q)
    have z2 : hp.objs.size + 1 + 1 ≤ l := by
      first
        | (simpa only [Heap.size_push] using l1)
        | exact l1
        | (have q := l1; rw [Heap.size_push, Heap.size_push] at q; exact q)
    exact ⟨rfl, hq h' tk' (hp.objs.size + 1) dx l cl ⟨⟨old, Nat.le_succ _, ⟨_, _, hx, rfl, rfl, rfl, rfl⟩, Nat.le_trans (Nat.le_trans (Nat.le_succ _) (Nat.le_succ _)) z, dne, hns⟩, Nat.le_trans (Nat.le_trans (Nat.le_succ _) (Nat.le_succ _)) z2, l2, l3, l4⟩⟩
end
end ErrX
end PySem
namespace L2
open PySem PySem.Spec PyProof.Rows
section
variable {X : Cx} {C : Addr} {x f nm : Str}
theorem pmk_errL {K : PySem.W.Frag} {a : Expr} {ta : TA} {p pos : Pos} {k : Nat} (hK : X.K = K) (T : PySem.ErrX.ErrTxtL X.prog X.K C x f) (hm : X.mg nm = some (.ref C)) (hsu : X.mg "super" = none) (hli : X.mg "list" = none) (hr : Room k X.A) (ha : PA X [a] ta) (hg : Gl X nm := by rfl) (hdb : (nm == ("__debug__" : Str)) = false := by decide)
    (he : starEach (a :: []) X.env = (false, eval a X.env) :: starEach [] X.env := by rfl) (hpl : (backTo pos (starEach [] X.env)).any (·.1) = false := by rfl) :
    PMk X (.Call (.Name nm p) [a] [] pos) (tMkErr C f (tCons (tCB (Cl.qList K) ta) tNil)) := by
  subst hK
  intro pins s σ H Q I h
  refine wpAny_Call_Name_kw (ld_glob I hg hm ?_ hdb)
  refine PySem.W.callWith_K (h₀ := X.base) I.ok.mod.kin T.kC (thn (ha.run pos pins s σ H _ I h) fun us s1 hh => ?_) he hpl
  obtain ⟨vs, H1, I1, r1, q, ys, ev, hq, qn⟩ := hh
  subst ev
  refine ⟨I1.kIn, ?_⟩
  obtain ⟨u, rfl, rx⟩ := vals1 r1
  cases rx
  show wpAny _ _ (call (.ref C) [.ref q]) _ _ _
  have lobj : ∃ (Tn : String) (ol : Obj) (its : List Value) (nl : Nat), (Tn = "list" ∨ Tn = "tuple") ∧ s1.heap.get? q = some ol ∧ ol.cls = .type Tn ∧ ol.data = .seq its.toArray nl ∧ Vals ys its ∧ ys.length ≤ sizeLine := by
    rcases hq with hq | hq
    · obtain ⟨its, r', pl, hz⟩ := I1.list hq
      obtain ⟨o, ho, hc, n, hd⟩ := pl.isList
      exact ⟨_, o, its, n, .inl rfl, ho, hc, hd, r', hz⟩
    · obtain ⟨its, r', pl, hz⟩ := I1.tuple hq
      obtain ⟨o, ho, hc, n, hd⟩ := pl
      exact ⟨_, o, its, n, .inr rfl, ho, hc, hd, r', hz⟩
  obtain ⟨Tn, ol, its, nl, hTn, hol, hoc, hod, rits, hz⟩ := lobj
  have hlim := I1.nolimit
  have hG := I1.mod.glob.keeps I1.bk
  obtain ⟨mb, hb1, hb2⟩ := I1.mod.blt
  have hB := hb1.keeps I1.bk
  obtain ⟨hp, g, dr, tk, os⟩ := s1
  have hlen := rits.length
  refine wpAny_call (PySem.ErrX.err_madeL T hTn hol hoc hod (by simp only [List.size_toArray]; omega) I1.kIn hG hsu hB ((hb2 "super" (by decide)).trans (by decide +kernel)) hli ((hb2 "list" (by decide)).trans (by decide +kernel)) hlim (by have := hr.dp; omega) fun h' tk' e d l cl ML => ?_)
  show MkP X pins σ Q (.ref e) ⟨h', g, dr, tk', os⟩
  have M := ML.made
  obtain ⟨oe, fv, hoe, hc, hd, hdat, h1⟩ := M.obj
  have hns := M.ns
  obtain ⟨G', g1, g2⟩ := restrict h' fun b => decide (b ≠ e)
  have gk : ∀ b, b ≠ e → G'.get? b = h'.get? b := fun b hb => g1 b (decide_eq_true hb)
  have ge : G'.get? e = none := g2 e (by simp)
  obtain ⟨G1, k1, k2⟩ := restrict h' fun b => decide (b ≠ e ∧ b ≠ d)
  have gk1 : ∀ b, b ≠ e → b ≠ d → G1.get? b = h'.get? b := fun b hb hb2 => k1 b (decide_eq_true ⟨hb, hb2⟩)
  have gd1 : G1.get? d = none := k2 d (by simp)
  have ge1 : G1.get? e = none := k2 e (by simp)
  have old1 : ∀ b o, hp.get? b = some o → G1.get? b = some o := fun b o q => (gk1 b (Nat.ne_of_lt (Nat.lt_of_lt_of_le (Heap.lt_size q) M.new)) (Nat.ne_of_lt (Nat.lt_of_lt_of_le (Heap.lt_size q) M.dbig))).trans (M.keep b o q)
  have J1 : Inv X pins σ (upd H1 l (.lst ys)) ⟨G1, g, dr, tk', os⟩ := I1.laid (t' := tk') old1 ML.lbig (show ObjOk X.prog X.w _ G1 _ (.lst ys) from ⟨hz, its, cl, rits, (gk1 l ML.lne ML.lnd).trans ML.lobj⟩)
  have hdn : upd H1 l (.lst ys) d = none := by
    rw [upd_ne (Ne.symm ML.lnd)]
    exact I1.hok.fresh M.dbig
  have old2 : ∀ b o, G1.get? b = some o → G'.get? b = some o := fun b o q => by
    have n1 : b ≠ e := fun z => by rw [z, ge1] at q; cases q
    have n2 : b ≠ d := fun z => by rw [z, gd1] at q; cases q
    rw [gk b n1, ← gk1 b n1 n2]
    exact q
  have ob : ObjOk X.prog X.w (upd (upd H1 l (.lst ys)) d (.xd [(f, .ref l)])) G' d (.xd [(f, .ref l)]) :=
    ⟨_, hns.at (fun o q => (gk d M.dne).trans q), fun y => relO_one (v := .ref l) (v' := .ref l) rfl f y⟩
  have J : Inv X pins σ (upd (upd H1 l (.lst ys)) d (.xd [(f, .ref l)])) ⟨G', g, dr, tk', os⟩ := J1.laidN (t' := tk') old2 gd1 hdn ob
  obtain ⟨v, ev, q1⟩ := qn l (I1.hok.fresh ML.lbig)
  cases ev
  refine ⟨e, oe, fv, ⟨G', g, dr, tk', os⟩, _, .ref C, some d, rfl, J, fun b o q => ?_, ge, hoe, ⟨hc, hd⟩, hdat, h1, ?_, rfl, I1.bare, raises_own T.exC T.tyC, q1 d hdn⟩
  · by_cases hb : b = e
    · have q' : G'.get? b = some o := q
      rw [hb, ge] at q'; cases q'
    · exact (gk b hb).symm.trans q
  · rw [upd_ne (Ne.symm M.dne), upd_ne (Ne.symm ML.lne)]
    exact I1.hok.fresh M.new
theorem ps_raiseErrL {K : PySem.W.Frag} {a : Expr} {ta : TA} {W : WX} {p pos pos2 : Pos} {k : Nat} (hc : X.calm = true) (hK : X.K = K) (T : PySem.ErrX.ErrTxtL X.prog X.K C x f) (hm : X.mg nm = some (.ref C)) (hsu : X.mg "super" = none) (hli : X.mg "list" = none) (hr : Room k X.A) (tk : Takes X W) (ha : PA X [a] ta) (hg : Gl X nm := by rfl) (hdb : (nm == ("__debug__" : Str)) = false := by decide)
    (he : starEach (a :: []) X.env = (false, eval a X.env) :: starEach [] X.env := by rfl) (hpl : (backTo pos (starEach [] X.env)).any (·.1) = false := by rfl) :
    PS X (.Raise (some (.Call (.Name nm p) [a] [] pos)) none pos2) (tRaiseErr C f W (tCons (tCB (Cl.qList K) ta) tNil)) := ps_raise hc tk (pmk_errL hK T hm hsu hli hr ha hg hdb he hpl)
theorem errXfL {P : Program} {K : PySem.W.Frag} (T : PySem.ErrX.ErrTxtL P K C x f) : XfC K C := ⟨T.ga, T.gg, T.exC, T.hdC⟩
end
end L2
namespace Hd
open PySem PySem.Spec PyProof.Rows L2 He
theorem err_mkL {P : Program} {K : PySem.W.Frag} {c f x qual msg : Str} {st : Stmt} {p1 p2 q1 q2 q3 q4 q5 q6 q7 q8 q9 q10 qa qb : Pos} (h : errB P K c f qual = true) (e : fnE K (c, some "__init__") = (ErD.mk c qual st).val)
    (hA : defArgs st = PySem.ErrX.iA x p1 p2) (hB : defBody st = PySem.ErrX.iBL x f msg q1 q2 q3 q4 q5 q6 q7 q8 q9 q10 qa qb) (hS : defScope st = PySem.ErrX.iSL x) (hl : (q3.endLine == q5.line) = true)
    (topl : (P.main.scope.names.lookup ("list" : Str)).isSome = false) (top : (P.main.scope.names.lookup ("super" : Str)).isSome = false) (xs : (x == ("self" : Str)) = false) (xc : (("__class__" : Str) == x) = false) (xu : (("super" : Str) == x) = false) (xl : (("list" : Str) == x) = false) (xd : (x == ("__debug__" : Str)) = false)
    (bnd : ∀ (nm qual : Str) (Bd : List Stmt) (kV doc pm : Value) (an : Option Addr) (cdv ct : Value) (cc : Addr) (p1 p2 : Pos) (u v : Value), bindArgs (PySem.W.ksFn nm qual (PySem.ErrX.iA x p1 p2) Bd (PySem.ErrX.iSL x) .none kV doc pm an cdv ct cc) ⟨[u, v], []⟩ = pure [(("self" : Str), u), (x, v)]) :
    PySem.ErrX.ErrTxtL P K (ga K c) x f := by
  unfold errB at h
  obtain ⟨h1, h⟩ := ba h
  obtain ⟨h2, h⟩ := ba h
  obtain ⟨h3, h⟩ := ba h
  obtain ⟨h4, h⟩ := ba h
  obtain ⟨h5, h⟩ := ba h
  obtain ⟨h6, h⟩ := ba h
  obtain ⟨h7, h⟩ := ba h
  obtain ⟨h8, h⟩ := ba h
  obtain ⟨h9, h⟩ := ba h
  obtain ⟨h10, h⟩ := ba h
  obtain ⟨h11, h⟩ := ba h
  obtain ⟨h12, h⟩ := ba h
  obtain ⟨h13, h⟩ := ba h
  obtain ⟨h14, h⟩ := ba h
  obtain ⟨h15, h16⟩ := ba h
  refine ⟨clsB_ok h1, alongB_ok h2, of_decide_eq_true h3, of_decide_eq_true h4, of_decide_eq_true h5, eqO_ok h6, eqO_ok h7, eqO_ok h8, eqO_ok h9, h10, of_decide_eq_true h11, of_decide_eq_true h12, h13,
    ⟨ma K (ga K c) "__init__", eqO_ok h14, of_decide_eq_true h15, ?_⟩, topl, top, xs, xc, xu, xl, xd, bnd⟩
  unfold initB at h16
  have e2 : fnE K (c, some "__init__") = (match K.lookup (ma K (ga K c) "__init__") with
    | some ⟨_, _, .func fd, _⟩ => some (fd.name, fd.qualname, fd.params, fd.body, fd.scope, fd.globals, fd.closure.map (·.1), fd.builtins)
    | _ => none) := rfl
  rw [e2] at e
  cases q : K.lookup (ma K (ga K c) "__init__") with
  | none =>
    rw [q] at h16
    cases h16
  | some o =>
    obtain ⟨oc, od, dt, osl⟩ := o
    rw [q] at h16 e
    cases dt with
    | func fd =>
      obtain ⟨n1, n2, n3, n4, n5, n6, n7, n8, n9, n10, n11, n12, n13, n14, n15⟩ := fd
      have e3 : (some (n1, n2, n3, n4, n5, n6, n7.map (·.1), n15) : FnE) = (some (("__init__" : Str), qual, defArgs st, FuncBody.stmts (defBody st), defScope st, mainGlobals, [("__class__" : Str)], builtinsNs) : FnE) := e
      simp only [Option.some.injEq, Prod.mk.injEq] at e3
      obtain ⟨e1, e2, e3, e4, e5, e6, e7, e8⟩ := e3
      subst e1 e2 e3 e4 e5 e6 e8
      dsimp only at h16
      split at h16
      · rename_i cda nn cc
        obtain ⟨k1, k2⟩ := ba h16
        obtain ⟨k2, k3⟩ := ba k2
        have en : nn = ("__class__" : Str) := by simpa using e7
        subst en
        refine ⟨oc, od, n10, n11, n9, n12, cda, cc, n14, osl, "__init__", n2, msg, p1, p2, q1, q2, q3, q4, q5, q6, q7, q8, q9, q10, qa, qb, hl, ?_, k1, ?_, ?_⟩
        · rw [← hA, ← hB, ← hS]
        · split at k2
          · rename_i ccl cdd vs ccs hc
            split at k2
            · rename_i file tf hv
              exact ⟨ccl, cdd, vs, ccs, file, tf, hc, hv, k2⟩
            · cases k2
          · cases k2
        · split at k3
          · rename_i cl cld C' csl hc
            have ec : C' = ga K c := by simpa using k3
            subst ec
            exact ⟨cl, cld, csl, hc⟩
          · cases k3
      · cases h16
    | _ => cases h16
end Hd
/-! ### {e for x in ..}: whole numbers gathered in a new set, for sorted(..) -/
namespace ScI
open PySem PySem.Spec PyProof.Rows L2
/-- one number more -/
abbrev plusS (S : Int → Bool) (k : Int) : Int → Bool := fun j => S j || decide (j = k)
abbrev plusN (S : Int → Bool) (k : Int) (n : Nat) : Nat := if S k = true then n else n + 1
/-- the reading: the set stands at a new place q, turn by turn; Z i m: what holds ahead of turn i, m turns to come at most -/
def tScI (w : World) (wi : TI) (g : TG) (tt : TT) (te : TE) (vs : List Nat) : TE := fun σ H Q => wi σ H fun J H1 => ∀ q, H1 q = none →
  ∃ Z : Nat → Nat → Hp → Prop, (∃ m, Z 0 m (upd H1 q (SetO w q (fun _ => false) 0))) ∧ ∀ i m H, Z i m H →
    (J.stop i H ∧ Q (.ref q) H) ∨ (J.go i H ∧ ∃ On : Hp → Prop, (∀ H', On H' → ∃ m', m' < m ∧ Z (i + 1) m' H') ∧
      ∀ x H', J.yld i H x H' → g x (wipe σ vs) H' fun σ2 H2 => wipe σ2 vs = wipe σ vs ∧ tt σ2 H2 fun b H3 =>
        if b = true then te σ2 H3 fun y H4 => ∃ (k : Int) (S : Int → Bool) (n : Nat), y = .int k ∧ H4 q = some (SetO w q S n) ∧ n + 1 < scanBound ∧ On (upd H4 q (SetO w q (plusS S k) (plusN S k n))) else On H3)
section
variable {X : Cx}
theorem add_ok {pins : List (Addr × Obj)} {σ : L2.St} {H : Hp} {s : Shared} {E : Value → Shared → Prop} {q : Addr} {S : Int → Bool} {n : Nat} {k : Int} {u : Value} {Q : Value → Shared → Prop} (I : Inv X pins σ H s) (hu : RelV (.int k) u) (hq : H q = some (SetO X.w q S n)) (room : n + 1 < scanBound)
    (h : ∀ s', Inv X pins σ (upd H q (SetO X.w q (plusS S k) (plusN S k n))) s' → Q .none s') : wpAny (model X.prog X.w) X.A (call (.builtin "set.add") [.ref q, u]) Q E s := by
  obtain ⟨tk, rfl⟩ := hu
  refine setR_add (setO_get I hq) room fun h' sb new => ?_
  obtain ⟨o, _, _, _, ho, _⟩ := id new
  exact h _ (I.write (e := q) (t' := s.toks + 1) (by rw [hq]; trivial) (.inl rfl) (fun b v hb hv => (sb.2 b hb).trans hv) ⟨o, ho⟩ (setO_new new))
/-- the block with its set, run to the end -/
theorem sc_run {pins : List (Addr × Obj)} {s : Shared} {σ : L2.St} {H : Hp} {Q : VK} {el tg it0 : Expr} {ifs : List Expr} {sc : Scope} {own : List (PySem.Str × Nat)} {pos pos' : Pos} {wi : TI} {g : TG} {tt : TT} {te : TE} {use : Option (Value → Sem Unit)} {Qf : Value → Shared → Prop}
    (calm : X.calm = true) (nd : X.N.Nodup) (I : Inv X pins σ H s) (hi : PI X tg it0 wi) (ok : BlkOk X.N X.env.scope sc own)
    (hg : ∀ s H C cl fp, PG (X.blk s H sc (compEnvC sc cl C X.env) fp) tg g) (ht : ∀ s H C cl fp, PTs (X.blk s H sc (compEnvC sc cl C X.env) fp) ifs tt) (he : ∀ s H C cl fp, PE (X.blk s H sc (compEnvC sc cl C X.env) fp) el te)
    (fold : ∀ x, foldedSetIterable it0 X.env x = pure x) (h : tScI X.w wi g tt te (own.map (·.2)) σ H Q)
    (fin : ∀ q C s' m H', Inv X pins σ H' s' → Q (.ref q) H' → s'.heap.Ns C m → FpOk X pins H' C → compPost (model X.prog X.w) X.A X.xe use Qf (.ref q) C (.ok .next) s') :
    wpAny (model X.prog X.w) X.A (comprehension (.SetComp el [⟨tg, it0, ifs, 0⟩] sc pos) sc X.env pos' (newSet (.type "set")) false (eval it0 X.env) use) Qf X.xe s := by
  have cells : ∀ y ∈ sc.names, y.2 = .free → ∃ c, X.env.cells.lookup y.1 = some c := fun y hy e => (ok.free y hy e).elim (fun z => I.ok.has _ (.inl z)) fun z => I.ok.has _ (.inr z)
  refine wpAny_comprehension_free (use := use) rfl fold (closure_ok cells) ok.kind (fun y hy e => by rw [ok.uniq y hy, e]) (thn (hi.run pins s σ H _ I h) fun xv s1 hx => thn hx fun iv s2 h2 => ?_)
  obtain ⟨it, fp, tn, J, H2, rfl, I2, T, st2, f2, rest⟩ := h2
  refine PpSet.newSet_ok (newEnv_comp ?_)
  have fresh : H2 s2.heap.objs.size = none := I2.hok.fresh (Nat.le_refl _)
  obtain ⟨Z, ⟨m0, z0⟩, turn⟩ := rest _ fresh
  generalize eq : s2.heap.objs.size = q at fresh z0 turn ⊢
  generalize e3 : ({ s2 with heap := s2.heap.push { cls := .type "set", dict := none, data := .set #[] 0 (.fresh 0 0 (!X.w.params.followText "set-order")) } } : Shared) = s3
  have p3 : s3.heap = s2.heap.push { cls := .type "set", dict := none, data := .set #[] 0 (.fresh 0 0 (!X.w.params.followText "set-order")) } := by rw [← e3]
  generalize eH : upd H2 q (SetO X.w q (fun _ => false) 0) = H3 at z0
  have I3 : Inv X pins σ H3 s3 := by
    rw [← eH, ← e3]
    refine I2.laid (t' := s2.toks) (fun b o e => Heap.get?_push_of_some _ e) (Nat.le_of_eq eq) ?_
    rw [← eq]
    exact setO_new (setR_fresh X.w)
  have low : ∀ b ∈ fp, b < s2.heap.objs.size := fun b hb => let ⟨_, e, _⟩ := T.obj _ _ st2 b hb; Heap.lt_size e
  have f3 : ∀ b ∈ fp, FpOk X pins H3 b ∧ b < s3.heap.objs.size := fun b hb => by
    have lt := low b hb
    refine ⟨⟨?_, (f2 b hb).2⟩, by rw [p3, Heap.size_push]; exact Nat.lt_succ_of_lt lt⟩
    rw [← eH, upd_ne (by rw [← eq]; exact Nat.ne_of_lt lt)]
    exact (f2 b hb).1
  have st3 : tn 0 s3.heap := T.keep _ _ _ st2 fun b _ o e => by rw [p3]; exact Heap.get?_push_of_some _ e
  have I4 := block_start I3 ok nd f3
  have pg := hg s3 H3 s3.heap.objs.size (cellsFrom (s3.heap.objs.size + 1) sc.names (cloFrom X.env.cells sc.names [])) fp
  have pt := ht s3 H3 s3.heap.objs.size (cellsFrom (s3.heap.objs.size + 1) sc.names (cloFrom X.env.cells sc.names [])) fp
  have pe := he s3 H3 s3.heap.objs.size (cellsFrom (s3.heap.objs.size + 1) sc.names (cloFrom X.env.cells sc.names [])) fp
  have n3 : ∀ b ∈ fp, H3 b = none := fun b hb => (f3 b hb).1.1
  show codeAny _ _ (.compStart (.SetComp el [⟨tg, it0, ifs, 0⟩] sc pos) 0 (.ref it) (.ref q) (compEnvC sc (cellsFrom (s3.heap.objs.size + 1) sc.names (cloFrom X.env.cells sc.names [])) s3.heap.objs.size X.env)) (compPost (model X.prog X.w) X.A X.xe use Qf (.ref q) s3.heap.objs.size) { s3 with heap := pushCells (s3.heap.push { cls := .type "dict", data := .dict #[] }) sc.names }
  generalize ec : compEnvC sc (cellsFrom (s3.heap.objs.size + 1) sc.names (cloFrom X.env.cells sc.names [])) s3.heap.objs.size X.env = ce at I4 pg pt pe ⊢
  have loc : ce.locals = s3.heap.objs.size := by rw [← ec]; rfl
  generalize e4 : ({ s3 with heap := pushCells (s3.heap.push { cls := .type "dict", data := .dict #[] }) sc.names } : Shared) = s4 at I4 ⊢
  have st4 : tn 0 s4.heap := T.keep _ _ _ st3 fun b _ o e => by rw [← e4]; exact pushCells_keeps _ _ _ _ (Heap.get?_push_of_some _ e)
  have own1 : ∀ {σ' : L2.St} {H' : Hp} {s' : Shared}, Inv (X.blk s3 H3 sc ce fp) [] σ' H' s' → (∀ b ∈ fp, H' b = none) → ∀ b ∈ fp, FpOk (X.blk s3 H3 sc ce fp) [] H' b := fun {σ' H' s'} K hn b hb =>
    ⟨hn b hb, (K.ok.exf b hb).1, K.ok.exfs b hb, .inl hb, fun x c e => (K.ok.exf b hb).2 x c e, fun p hp => absurd (show p ∈ ([] : List (Addr × Obj)) ++ [] from hp) (by simp)⟩
  have loop : codeAny (model X.prog X.w) X.A (.compLoop (.SetComp el [⟨tg, it0, ifs, 0⟩] sc pos) 0 (.ref it) (.ref q) ce) (compPost (model X.prog X.w) X.A X.xe use Qf (.ref q) s3.heap.objs.size) s4 := by
    refine PpSet.compLoopS_any (fun n s' => ∃ i H', Inv (X.blk s3 H3 sc ce fp) [] (wipe σ (own.map (·.2))) H' s' ∧ tn i s'.heap ∧ (∀ b ∈ fp, H' b = none) ∧ Z i n H') ?_ m0 ⟨0, H3, I4, st4, n3, z0⟩
    rintro n s5 ⟨i, H5, I5, st5, n5, z5⟩
    rcases turn i n H5 z5 with ⟨stop, done⟩ | ⟨go, On, next, step⟩
    · refine thnF (T.done (X.blk s3 H3 sc ce fp) rfl rfl rfl calm i [] s5 _ H5 (fun _ _ => False) I5 (own1 I5 n5) st5 stop) fun r s6 ⟨hr, I6⟩ => ?_
      subst hr
      have I7 : Inv X pins σ H5 s6 := I3.call' (ch := fp) I6.os I6.base I6.hok I6.bare fun b hb => ⟨(f3 b hb).1.2.2.2.1, (f3 b hb).1.2.1, (f3 b hb).1.2.2.2.2.1, (f3 b hb).1.2.2.2.2.2⟩
      have nc : H5 s3.heap.objs.size = none := by have z : H5 ce.locals = none := I6.free; rwa [loc] at z
      obtain ⟨m, hn, _⟩ := I6.loc
      have hn : s6.heap.Ns ce.locals m := hn
      rw [loc] at hn
      exact fin q _ s6 m H5 I7 done hn (I3.fpOk (Nat.le_refl _) nc)
    · refine thnF (T.item (X.blk s3 H3 sc ce fp) rfl rfl rfl calm i [] s5 _ H5 (fun _ _ => False) I5 (own1 I5 n5) st5 go) fun r s6 ⟨u, hr, h6⟩ => ?_
      subst hr
      refine thnF h6 fun _ s7 ⟨x, H7, I7, r7, y7, st7, n7⟩ => ?_
      refine thnF (pg.run _ s7 _ H7 x u _ (I7.pinned (own1 I7 n7) (T.obj _ _ st7)) r7 (step x H7 y7)) fun _ s8 ⟨σ8, H8, I8, w8, q8⟩ => ?_
      refine thnF (pt.run _ s8 σ8 H8 _ I8 q8) fun b s9 ⟨H9, I9, q9⟩ => ?_
      have more : ∀ {s' : Shared} {H' : Hp}, Inv (X.blk s3 H3 sc ce fp) ([] ++ pinsAt fp s7.heap) σ8 H' s' → On H' → ∃ m, m < n ∧ ∃ i H', Inv (X.blk s3 H3 sc ce fp) [] (wipe σ (own.map (·.2))) H' s' ∧ tn i s'.heap ∧ (∀ b ∈ fp, H' b = none) ∧ Z i m H' := fun {s' H'} K on => by
        obtain ⟨m', lt, z'⟩ := next H' on
        have at' : ∀ b ∈ fp, ∀ o, s7.heap.get? b = some o → s'.heap.get? b = some o ∧ H' b = none := fun b hb o e => let z := K.pin (b, o) (List.mem_append_right _ (List.mem_append_right _ (mem_pinsAt hb e))); ⟨z.1, z.2.1⟩
        refine ⟨m', lt, i + 1, H', (K.unpinned (pins := [])).weak (by rw [← w8, wipe_length]) (fun j v e => (wipe_some (w8 ▸ e)).1), T.keep _ _ _ st7 fun b hb o e => (at' b hb o e).1, fun b hb => ?_, z'⟩
        obtain ⟨o, e, _⟩ := T.obj _ _ st7 b hb
        exact (at' b hb o e).2
      cases b with
      | false =>
        simp only [Bool.false_eq_true, if_false] at q9 ⊢
        exact more I9 q9
      | true =>
        simp only [if_true] at q9 ⊢
        refine thnF (pe.run _ s9 σ8 H9 _ I9 q9) fun z s10 ⟨y, H10, I10, r10, k, S, c, ey, hq10, room, on⟩ => ?_
        subst ey
        exact add_ok (X := X.blk s3 H3 sc ce fp) I10 r10 hq10 room fun s11 I11 => more I11 on
  exact PpSet.codeAny_compStart_set loop (T.self X.A 0 _ _ _ st4 loop)
theorem pe_scI {w : World} {el tg it0 : Expr} {ifs : List Expr} {sc : Scope} {own : List (PySem.Str × Nat)} {pos : Pos} {wi : TI} {g : TG} {tt : TT} {te : TE} (hw : X.w = w) (calm : X.calm = true) (nd : X.N.Nodup) (hi : PI X tg it0 wi) (ok : BlkOk X.N X.env.scope sc own)
    (hg : ∀ s H C cl fp, PG (X.blk s H sc (compEnvC sc cl C X.env) fp) tg g) (ht : ∀ s H C cl fp, PTs (X.blk s H sc (compEnvC sc cl C X.env) fp) ifs tt) (he : ∀ s H C cl fp, PE (X.blk s H sc (compEnvC sc cl C X.env) fp) el te)
    (fold : ∀ x, foldedSetIterable it0 X.env x = pure x := by intro _; rfl) : PE X (.SetComp el [⟨tg, it0, ifs, 0⟩] sc pos) (tScI w wi g tt te (own.map (·.2))) := by
  subst hw
  refine ⟨fun pins s σ H Q I h => ?_⟩
  rw [PpSet.eval_SetComp]
  refine sc_run calm nd I hi ok hg ht he fold h fun q C s' m H' K done hn f => ⟨m, hn, fun h'' sb => ?_⟩
  obtain ⟨f0, f1, _, f3, f4, f5⟩ := f
  exact ⟨.ref q, H', K.turned (t' := s'.toks) (fun b o hb e => (sb.2 b hb).trans e) f0 f1 f3 f4 f5, rfl, done⟩
end
end ScI
namespace L2
open PySem PySem.Spec PyProof.Rows
theorem cr_sortedSetW {X : Cx} {w : World} (hw : X.w = w) (hc : X.calm = true) : CallR X (.builtin "sorted") (rSortedSet w) := hw ▸ cr_sortedSet hc
end L2
/-! ### sorted({e for x in xs if c}) as data -/
namespace Dl
open PySem PySem.Spec PyProof.Rows L2
section
variable {K : PySem.W.Frag} {W : WS} {ta te : TE} {ma me : ME} {tt : TT} {mt : MT} {g : TG} {mg : MG} {vs : List Nat}
/-- a foreign thing at q is not touched -/
def RelQ (K : PySem.W.Frag) (G : Ent) (H : Hp) (σ : L2.St) (ρ : Env) (τ : L2.St) (δ : List Sl) (q : Addr) : Prop := ∃ F f1 f2, Good G F H (f1 ++ f2) ∧ Slots K F H τ δ f1 ∧ Slots K F H σ ρ f2 ∧ q ∉ f1 ++ f2 ∧ F q = none ∧ G.H q = none
theorem RelQ.rel {G : Ent} {H : Hp} {σ τ : L2.St} {ρ : Env} {δ : List Sl} {q : Addr} (h : RelQ K G H σ ρ τ δ q) : Rel K G H σ ρ τ δ := let ⟨F, f1, f2, g, a, b, _⟩ := h; ⟨F, f1, f2, g, a, b⟩
theorem RelQ.start {G : Ent} {H : Hp} {σ τ : L2.St} {ρ : Env} {δ : List Sl} {q : Addr} {o : HO} (h : Rel K G H σ ρ τ δ) (hq : H q = none) : RelQ K G (upd H q o) σ ρ τ δ q := by
  obtain ⟨F, f1, f2, g, a, b⟩ := h
  have hin : ∀ x ∈ f1 ++ f2, H x ≠ none := fun x hx => (List.mem_append.mp hx).elim (a.here x) (b.here x)
  have nq : q ∉ f1 ++ f2 := fun z => hin q z hq
  have ne : ∀ x ∈ f1 ++ f2, upd H q o x = H x := fun x hx => upd_ne fun z => nq (z ▸ hx)
  have Fq : F q = none := by
    cases e : F q with
    | none => rfl
    | some u => have := g.sub q u e; rw [hq] at this; cases this
  have Gq : G.H q = none := by
    cases e : G.H q with
    | none => rfl
    | some u => exact absurd hq (g.all q (by rw [e]; exact fun z => by cases z))
  exact ⟨F, f1, f2, (g.newO hin hq o).less (List.sublist_cons_self _ _), a.mono Le.rfl fun x hx => ne x (List.mem_append_left _ hx), b.mono Le.rfl fun x hx => ne x (List.mem_append_right _ hx), nq, Fq, Gq⟩
theorem RelQ.put {G : Ent} {H : Hp} {σ τ : L2.St} {ρ : Env} {δ : List Sl} {q : Addr} {o : HO} (h : RelQ K G H σ ρ τ δ q) : RelQ K G (upd H q o) σ ρ τ δ q := by
  obtain ⟨F, f1, f2, g, a, b, nq, Fq, Gq⟩ := h
  have ne : ∀ x ∈ f1 ++ f2, upd H q o x = H x := fun x hx => upd_ne fun z => nq (z ▸ hx)
  refine ⟨F, f1, f2, ⟨fun x u e => ?_, g.f0, g.fN, fun x u e hn => ?_, fun x e => ?_, g.own, g.nf, g.nd⟩, a.mono Le.rfl fun x hx => ne x (List.mem_append_left _ hx), b.mono Le.rfl fun x hx => ne x (List.mem_append_right _ hx), nq, Fq, Gq⟩
  · rw [upd_ne fun z => by rw [z, Fq] at e; cases e]
    exact g.sub x u e
  · rw [upd_ne fun z => by rw [z, Gq] at e; cases e]
    exact g.frm x u e hn
  · by_cases z : x = q
    · rw [z, upd_same]; exact fun z => by cases z
    · rw [upd_ne z]; exact g.all x e
/-- from here on: what is reached within keeps q -/
theorem RelQ.enter {G : Ent} {H : Hp} {σ τ : L2.St} {ρ : Env} {δ : List Sl} {q : Addr} {o : HO} (h : RelQ K G H σ ρ τ δ q) (hq : H q = some o) : ∃ G1 : Ent, Rel K G1 H σ ρ τ δ ∧ ∀ H' σ' ρ' τ' δ', Rel K G1 H' σ' ρ' τ' δ' → RelQ K G H' σ' ρ' τ' δ' q ∧ H' q = some o := by
  obtain ⟨F, f1, f2, g, a, b, nq, Fq, Gq⟩ := h
  refine ⟨⟨H, F, f1 ++ f2⟩, ⟨F, f1, f2, ⟨g.sub, Le.rfl, fun x e => .inl e, fun x u e _ => e, fun x e => e, fun x hx => .inl hx, g.nf, g.nd⟩, a, b⟩, ?_⟩
  rintro H' σ' ρ' τ' δ' ⟨F', e1, e2, g', a', b'⟩
  have gg := Good.call (fA := f1 ++ f2) (fR := []) (by rw [List.append_nil]; exact g) g' (fun _ z => by cases z)
  rw [List.append_nil] at gg
  refine ⟨⟨F', e1, e2, gg, a', b', fun z => ?_, ?_, Gq⟩, g'.frm q o hq nq⟩
  · rcases g'.own q z with y | y
    · exact nq y
    · have y' : H q = none := y
      rw [hq] at y'
      cases y'
  · cases e : F' q with
    | none => rfl
    | some u =>
      rcases g'.fN q (by rw [e]; exact fun z => by cases z) with y | y | y
      · exact absurd Fq y
      · have y' : H q = none := y
        rw [hq] at y'
        cases y'
      · exact absurd y nq
def scM (vs : List Nat) (g : MG) (c : MT) (e : ME) : List D → List Int → Env → (List Int → Env → Prop) → Prop
  | [], acc, ρ, Q => Q acc ρ
  | d :: ds, acc, ρ, Q => (g (.sh d)).wp (wipeE ρ vs) (fun _ r1 => c.wp r1 (fun b r2 => if b = true then e.wp r2 (fun s r3 => match s with
      | .sh (.int k) => acc.length < 62 ∧ scM vs g c e ds (acc ++ [k]) (wipeE r3 vs) Q
      | _ => False) (fun _ _ => False) else scM vs g c e ds acc (wipeE r2 vs) Q) (fun _ _ => False)) (fun _ _ => False)
theorem scM_mono {vs : List Nat} {g : MG} {c : MT} {e : ME} {Q Q' : List Int → Env → Prop} (h : ∀ l r, Q l r → Q' l r) : ∀ {ds : List D} {acc : List Int} {ρ : Env}, scM vs g c e ds acc ρ Q → scM vs g c e ds acc ρ Q'
  | [], acc, ρ, w => h _ _ w
  | d :: ds, acc, ρ, w => (g (.sh d)).mono (fun _ r1 w1 => c.mono (fun b r2 w2 => by
      cases b with
      | true =>
        refine e.mono (fun s r3 w3 => ?_) (fun er r z => z) w2
        revert w3
        split
        · exact fun w3 => ⟨w3.1, scM_mono h w3.2⟩
        · exact id
      | false => exact scM_mono h w2) (fun er r z => z) w1) (fun _ _ z => z) w
def mSrt (vs : List Nat) (a : ME) (g : MG) (c : MT) (e : ME) : ME := ⟨fun ρ Q E => a.wp ρ (fun s r => match s with
  | .sh (.lst ds) => scM vs g c e ds [] r (fun acc r => ∀ ns : List Int, ns.Pairwise (· < ·) → (∀ k, k ∈ ns ↔ k ∈ acc) → Q (.ow (.ol .fr) (.lst (ns.map D.int))) r)
  | _ => False) E, fun h h' w => a.mono (fun s r z => by
    revert z
    split
    · exact fun z => scM_mono (fun _ _ q ns h1 h2 => h _ _ (q ns h1 h2)) z
    · exact id) h' w⟩
theorem eSrt {w : World} (ha : EOk K W ta ma) (hw : GW vs g) (hgm : GMono g) (hg : GOk K g mg) (hc : TOk K (fun _ _ _ _ => False) tt mt) (he : EOk K (fun _ _ _ _ => False) te me) :
    EOk K W (tCB (rSortedSet w) (tCons (ScI.tScI w (iList K ta) g tt te vs) tNil)) (mSrt vs ma mg mt me) := fun G H σ ρ τ δ Q h wp =>
  ha G H σ ρ τ δ _ h (ma.mono (fun s ρ1 w1 v H1 h1 => by
    split at w1
    · rename_i ds
      obtain ⟨F0, r0, z0⟩ := h1.top
      cases r0 with
      | lst hl0 rl0 =>
        rename_i a us
        refine ⟨_, rfl, ⟨_, SqL.of (z0.le _ _ hl0)⟩, fun q hq => ?_⟩
        refine ⟨fun i n H' => n = ds.length - i ∧ i ≤ ds.length ∧ ∃ ρ' acc S c, RelQ K G H' σ ρ' (some (.ref a) :: τ) (.sh (.lst ds) :: δ) q ∧ H' q = some (SetO w q S c) ∧ (∀ k, S k = true ↔ k ∈ acc) ∧ c ≤ acc.length ∧ acc.length ≤ 62 ∧ scM vs mg mt me (ds.drop i) acc ρ' (fun acc r => ∀ ns : List Int, ns.Pairwise (· < ·) → (∀ k, k ∈ ns ↔ k ∈ acc) → ∀ v H', Rel K G H' σ r (some v :: τ) (.ow (.ol .fr) (.lst (ns.map D.int)) :: δ) → Q v H'), ⟨_, rfl, Nat.zero_le _, ρ1, [], _, 0, RelQ.start h1 hq, upd_same, fun k => ⟨fun z => Bool.noConfusion z, fun z => (List.not_mem_nil z).elim⟩, Nat.le_refl _, by decide, w1⟩, ?_⟩
        rintro i n H' ⟨rfl, hle, ρ', acc, S, c, hr, hq', hS, hcn, ha62, w2⟩
        by_cases hlt : i < ds.length
        · have hd : ds.drop i = ds[i] :: ds.drop (i + 1) := List.drop_eq_getElem_cons hlt
          rw [hd] at w2
          have wk : ∀ G, Walks K G (Itl K a) ds [some (.ref a)] [.sh (.lst ds)] := fun G => walks_list
          refine .inr ⟨(wk G).go H' σ ρ' τ δ i hr.rel hlt, fun H2 => ∃ ρ2 acc2 S2 c2, RelQ K G H2 σ ρ2 (some (.ref a) :: τ) (.sh (.lst ds) :: δ) q ∧ H2 q = some (SetO w q S2 c2) ∧ (∀ k, S2 k = true ↔ k ∈ acc2) ∧ c2 ≤ acc2.length ∧ acc2.length ≤ 62 ∧ scM vs mg mt me (ds.drop (i + 1)) acc2 ρ2 (fun acc r => ∀ ns : List Int, ns.Pairwise (· < ·) → (∀ k, k ∈ ns ↔ k ∈ acc) → ∀ v H', Rel K G H' σ r (some v :: τ) (.ow (.ol .fr) (.lst (ns.map D.int)) :: δ) → Q v H'), fun H2 ⟨ρ2, acc2, S2, c2, h3⟩ => ⟨_, by omega, rfl, hlt, ρ2, acc2, S2, c2, h3⟩, fun x H2 y => ?_⟩
          obtain ⟨G1, hr1, back⟩ := hr.enter hq'
          have h3 := (wk G1).yld H' σ ρ' τ δ i x H2 ds[i] hr1 (List.getElem?_eq_getElem hlt) y
          refine hw _ _ _ _ (hg G1 H2 _ _ _ _ x _ _ (h3.wipe vs) ((mg _).mono (fun _ ρ3 w3 σ3 H3 h4 ew => ?_) (fun _ _ z => z) w2))
          rw [wipe_wipe] at ew
          refine ⟨ew, hc G1 H3 σ3 ρ3 _ _ _ h4 (mt.mono (fun b ρ4 w4 H4 h5 => ?_) (fun er ρx z v Hx q => z.elim) w3)⟩
          cases b with
          | false =>
            obtain ⟨k1, k2⟩ := back _ _ _ _ _ (h5.unwipe ew)
            exact ⟨_, acc, S, c, k1, k2, hS, hcn, ha62, w4⟩
          | true =>
            refine he G1 H4 σ3 ρ4 _ _ _ h5 (me.mono (fun s ρ5 w5 v H5 h6 => ?_) (fun er ρx z v Hx q => z.elim) w4)
            split at w5
            · rename_i k
              obtain ⟨F6, r6, z6⟩ := h6.top
              cases r6
              obtain ⟨k1, k2⟩ := back _ _ _ _ _ (h6.pop.unwipe ew)
              refine ⟨k, S, c, rfl, k2, ?_, _, acc ++ [k], _, _, k1.put, upd_same, fun j => ?_, ?_, ?_, w5.2⟩
              · have := w5.1
                have e : scanBound = 2147483647 ∨ 100 < scanBound := .inr (by decide)
                have h100 : 100 < scanBound := by decide
                omega
              · show (S j || decide (j = k)) = true ↔ _
                rw [Bool.or_eq_true, decide_eq_true_eq, hS, List.mem_append, List.mem_singleton]
              · rw [List.length_append, List.length_singleton]
                show (if S k = true then c else c + 1) ≤ _
                split <;> omega
              · rw [List.length_append, List.length_singleton]
                have := w5.1
                omega
            · exact w5.elim
        · have e : i = ds.length := by omega
          subst e
          rw [List.drop_length] at w2
          refine .inl ⟨(walks_list (G := G)).stop H' σ ρ' τ δ hr.rel, q, S, c, rfl, hq', by omega, fun ns p h1 h2 h3 hp => ?_⟩
          refine w2 ns h1 (fun k => (h2 k).trans (hS k)) _ _ ?_
          have hr' := hr.rel.pop
          obtain ⟨F, f1, f2, gg, ta', sa⟩ := hr'
          exact (Rel.newO (K := K) (vs := []) (ds := []) (s := .ol .fr) (d := .lst (ns.map D.int)) (o := .lst (ns.map V.int)) hp rfl (show Rel K G H' σ ρ' ([] ++ τ) ([] ++ δ) from ⟨F, f1, f2, gg, ta', sa⟩) fun F _ => .ol upd_same (RepL.of_ints _).own)
    · exact w1.elim) (fun _ _ z => z) wp)
end
end Dl
/-! ### two keywords in the other order -/
namespace Dl
open PySem PySem.Spec PyProof.Rows L2
section
variable {K : PySem.W.Frag} {W : WS} {ta : TE} {ma : ME} {tl : TA} {ml : MB}
def tSw (ta : TE) (tl : TA) : TA := fun σ H Q => ta σ H fun v H1 => tl σ H1 fun vs H2 => match vs with
  | x :: r => Q (x :: v :: r) H2
  | [] => False
def bSw (a : ME) (l : MB) : MB := a.bind fun s => l.bind fun ss => match ss with
  | x :: r => M.ret (x :: .s s :: r)
  | [] => M.stuck
theorem bSwap (ha : EOk K W ta ma) (hl : BOk K W tl ml) : BOk K W (tSw ta tl) (bSw ma ml) := fun G H σ ρ τ δ Q h w =>
  ha G H σ ρ τ δ _ h (ma.mono (fun s1 ρ1 w1 v1 H1 h1 => hl G H1 σ ρ1 _ _ _ h1 (ml.mono (fun ss ρ2 w2 vs H2 τs δs hs h2 => by
    have h3 := Rel.rot hs.len h2
    cases hs with
    | nil => exact w2.elim
    | s r => exact w2 _ H2 _ _ (.s (.s r)) h3.swap
    | l e r => exact w2 _ H2 _ _ (.l e (.s r)) h3) (fun e ρ' z v H' q => z v H' q.drop2) w1)) (fun _ _ z => z) w)
/-- x, y = a, b -/
def sPar (i j : Nat) (l : MA) : MS := ⟨fun ρ M => l.wp ρ (fun ss r => match ss with
  | [s, s'] => (gSet i s).wp r (fun _ r1 => (gSet j s').wp r1 (fun _ r2 => M.nx r2) (fun _ _ => False)) (fun _ _ => False)
  | _ => False) M.ex, fun {ρ M M'} h w => l.mono (fun ss r z => by
    revert z
    split
    · exact fun z => (gSet i _).mono (fun _ r1 q => (gSet j _).mono (fun _ r2 p => h.nx r2 p) (fun _ _ p => p) q) (fun _ _ p => p) z
    · exact id) h.ex w⟩
theorem zPar {i j : Nat} {tA : TA} {mA : MA} (hl : AOk K W tA mA) : SOk K W (tPar i j tA) (sPar i j mA) := fun G H σ ρ τ δ D M h hi w =>
  hl G H σ ρ τ δ _ h (mA.mono (fun ss ρ1 w1 vs H1 hn h1 => by
    split at w1
    · rename_i s s'
      match vs, hn with
      | [a, b], _ =>
        refine ⟨a, b, rfl, ?_⟩
        have h2 : Rel K G H1 σ ρ1 (some a :: some b :: τ) (s :: s' :: δ) := h1
        exact gNm (i := i) G H1 σ ρ1 (some b :: τ) (s' :: δ) a s (fun σ2 H2 => D.nx (σ2.set j (some b)) H2) h2 ((gSet i s).mono (fun _ ρ2 w2 σ2 H2 h3 => gNm (i := j) G H2 σ2 ρ2 τ δ b s' (fun σ3 H3 => D.nx σ3 H3) h3 ((gSet j s').mono (fun _ ρ3 w3 σ3 H3 h4 => hi.nx σ3 ρ3 H3 h4 w3) (fun _ _ z => z) w2)) (fun _ _ z => z) w1)
    · exact w1.elim) (fun e ρ' z => hi.ex σ e ρ' z) w)
end
end Dl
/-! ### a name that is set by what is read without owning, looked at once, and forgotten -/
namespace Dl
open PySem PySem.Spec PyProof.Rows L2
section
variable {K : PySem.W.Frag} {W : WS} {te : TE} {me : ME} {tA : TT} {mA : MT}
/-- x = e; if c: return b -/
def sBorIf (i : Nat) (e : ME) (c : MT) (b : Bool) : MS := ⟨fun ρ M => i < ρ.length ∧ e.wp (ρ.map Sl.bz) (fun s r1 => (gSet i s).wp r1 (fun _ r2 => c.wp r2 (fun k _ => if k = true then M.rt (.sh (.bl b)) (ρ.set i .un) else M.nx (ρ.set i .un)) (fun _ _ => False)) (fun _ _ => False)) (fun _ _ => False), fun {ρ M M'} h w => ⟨w.1, e.mono (fun s r1 z => (gSet i s).mono (fun _ r2 z => c.mono (fun k r q => by
    cases k with
    | true => exact h.rt _ _ q
    | false => exact h.nx _ q) (fun _ _ q => q) z) (fun _ _ q => q) z) (fun _ _ q => q) w.2⟩⟩
theorem zBorIf {i : Nat} {b : Bool} (he : EOk K W te me) (hc : TOk K W tA mA) : SOk K W (tSeq (tAsg te (gName i)) (tIfS tA (tRet (tC (.bl b))) tNext)) (sBorIf i me mA b) := fun G H σ ρ τ δ D M h hi w => by
  obtain ⟨hlt, w⟩ := w
  obtain ⟨F, f1, f2, g, hτ, hs⟩ := h
  have hf : ∀ a ∈ f1 ++ f2, F a = none := g.nf
  have l := fzH_le (H := H) hf
  have g' : Good ⟨H, fzH F H (f1 ++ f2), []⟩ (fzH F H (f1 ++ f2)) H ([] ++ []) := ⟨fun a o e => by
    by_cases z : a ∈ f1 ++ f2
    · rw [fzH_in z] at e; exact e
    · rw [fzH_out z] at e; exact g.sub a o e, Le.rfl, fun a e => .inl e, fun a o e _ => e, fun a e => e, fun a ha => (by cases ha), fun a ha => (by cases ha), List.nodup_nil⟩
  have hin : ∀ a ∈ f1 ++ f2, H a ≠ none := fun a ha => by
    rcases List.mem_append.mp ha with z | z
    · exact hτ.here a z
    · exact hs.here a z
  have hR : Rel K ⟨H, fzH F H (f1 ++ f2), []⟩ H σ (ρ.map Sl.bz) τ (δ.map Sl.bz) := ⟨_, [], [], g', hτ.bz l fun a ha => fzH_in (List.mem_append_left _ ha), hs.bz l fun a ha => fzH_in (List.mem_append_right _ ha)⟩
  have back : ∀ (ρ' : Env) (v : V) (σ' : L2.St) (H' : Hp), Rel K ⟨H, fzH F H (f1 ++ f2), []⟩ H' σ' ρ' τ (δ.map Sl.bz) → Rel K G H' (σ.set i (some v)) (ρ.set i .un) τ δ := fun ρ' v σ' H' hr => by
    obtain ⟨F', g1, g2, gg, ht, _⟩ := hr
    have hsame : Same H H' := fun a o e => gg.frm a o e (by simp)
    have hn : ∀ a ∈ f1 ++ f2, H' a = H a := fun a ha => by
      cases q : H a with
      | none => exact absurd q (hin a ha)
      | some o => exact hsame _ _ q
    have gn := g.grow (fn := []) hsame hin (fun a ha => by cases ha) List.nodup_nil
    have hs2 := hs.mono Le.rfl fun a ha => hn a (List.mem_append_right _ ha)
    have hτ2 := hτ.mono Le.rfl fun a ha => hn a (List.mem_append_left _ ha)
    obtain ⟨o1, la, f, r, e1, e2, h1, k⟩ := hs2.at (i := i) (s := ρ[i]) (by rw [List.getElem?_eq_getElem hlt])
    subst e1
    exact ⟨F, f1, _, gn.cnt (by intro a; simp only [List.count_append, List.nil_append, List.count_nil]; omega), hτ2, k (some v) .un [] .un⟩
  refine he _ H σ _ τ _ _ hR (me.mono (fun s r1 z v H1 h1 => ?_) (fun _ _ z => z.elim) w)
  show tIfS tA (tRet (tC (.bl b))) tNext D (σ.set i (some v)) H1
  unfold gSet at z
  simp only at z
  split at z
  · rename_i e
    have h2 := h1.set (i := i) (by
      rcases Nat.lt_or_ge i r1.length with q | q
      · exact q
      · rw [List.getElem?_eq_none q] at e; cases e)
    refine hc _ H1 (σ.set i (some v)) (r1.set i s) τ (δ.map Sl.bz) _ h2 (mA.mono (fun k r q H2 h3 => ?_) (fun _ _ q => q.elim) z)
    have hb := back r v _ H2 h3
    cases k with
    | true =>
      rw [if_pos rfl] at q ⊢
      exact hi.rt _ (ρ.set i .un) (.bl b) _ H2 (hb.push rfl) q
    | false =>
      rw [if_neg (by decide)] at q ⊢
      exact hi.nx _ _ H2 hb q
  · exact z.elim
end
end Dl
/-! ### len, in, [..], <= that a class of the text has of its own -/
namespace OpM
open PySem PySem.Spec PyProof.Rows L2
section
variable {X : Cx} {CX : CXT} {k : Nat} {f C : Addr} {sp : Sp} {E : L2.St → XK} {pos : Pos} {a b : Expr} {ta tb : TE}
/-- a[b] by the class's own def -/
def tSubO (C : Addr) (sp : Sp) (E : L2.St → XK) (ta tb : TE) : TE := fun σ H Q => ta σ H fun x H1 => tb σ H1 fun y H2 => ∃ p dx fs, x = .ref p ∧ H2 p = some (.ins C dx fs) ∧ sp [x, y] H2 Q (E σ)
theorem pe_subO (O : Own X.K C "__getitem__" f) (hfn : PySem.W.fnIn X.K f = true) (F : FnR X.prog X.w X.K X.mg X.base CX k f sp) (hr : Room (k + 1) X.A) (hx : ∀ σ, PassesAt CX X σ (E σ)) (ha : PE X a ta) (hb : PE X b tb)
    (hsl : ∀ o i, subscripted b true o i = runValue (.builtin "lifetime.subscript" ⟨[o, i], []⟩) := by intro _ _; rfl) : PE X (.Subscript a b pos) (tSubO C sp E ta tb) := by
  refine ⟨fun pins s σ H Q I h => PyProof.Rows.Subscript_ (thn (ha.run pins s σ H _ I h) fun u s1 ⟨x, H1, I1, rx, q1⟩ => thn (hb.run pins s1 σ H1 _ I1 q1) fun v s2 ⟨y, H2, I2, ry, q2⟩ => ?_)⟩
  obtain ⟨p, dx, fs, rfl, hp, q2⟩ := q2
  obtain rfl : u = Value.ref p := rx
  obtain ⟨ox, od, J⟩ := inst I2 hp
  obtain ⟨m, hF⟩ := I2.fr
  exact PySem.W.sub_K hF I2.ok.mod.kin J O.at_ hfn O.fn (runB F hr.in1 rfl (hx σ) I2 (us := [.ref p, v]) (vs := [.ref p, y]) (.cons rfl (.cons ry .nil)) q2) (hsl _ _)
/-- v in x -/
def rInO (C : Addr) (sp : Sp) : R2 := fun v x H Q => ∃ p dx fs, x = .ref p ∧ H p = some (.ins C dx fs) ∧ sp [.ref p, v] H (fun r H' => ∃ b, r = .bl b ∧ Q (.bl b) H') (fun _ _ _ => False)
theorem inO (K : PySem.W.Frag) (O : Own K C "__contains__" f) (F : FnR X.prog X.w X.K X.mg X.base CX k f sp) (hr : Room k X.A) (hx : ∀ σ, PassesAt CX X σ (fun _ _ _ => False)) (hK : X.K = K := by rfl) : OpR X (compareOp .In) (rInO C sp) := by
  subst hK
  intro pins s σ H x y u v Q I rx ry h
  obtain ⟨p, dx, fs, rfl, hp, q⟩ := h
  obtain rfl : v = Value.ref p := ry
  obtain ⟨ox, od, J⟩ := inst I hp
  obtain ⟨m, hF⟩ := I.fr
  refine PySem.W.in_K hF I.ok.mod.kin J O.at_ O.fn (wpAny_mono (runB (E := fun _ _ _ _ => False) F hr rfl (hx σ) I (us := [.ref p, u]) (vs := [.ref p, x]) (.cons rfl (.cons rx .nil)) q) (fun w s' z => ?_) fun _ _ z => z)
  obtain ⟨z, H', I', rz, b, rfl, q'⟩ := z
  cases (show w = Value.bool b from rz)
  exact wpAny_truthy_bool ⟨.bl b, H', I', rfl, q'⟩
/-- len(x) -/
def rLenO (C : Addr) (sp : Sp) : List V → Hp → VK → Prop := fun xs H Q => ∃ p dx fs, xs = [.ref p] ∧ H p = some (.ins C dx fs) ∧ sp [.ref p] H (fun v H' => ∃ n, v = .int n ∧ 0 ≤ n ∧ n < 2 ^ 63 ∧ Q (.int n) H') (fun _ _ _ => False)
theorem lenO (K : PySem.W.Frag) (O : Own K C "__len__" f) (F : FnR X.prog X.w X.K X.mg X.base CX k f sp) (hr : Room (k + 1) X.A) (hx : ∀ σ, PassesAt CX X σ (fun _ _ _ => False)) (hK : X.K = K := by rfl) : CallR X (.builtin "len") (rLenO C sp) := by
  subst hK
  intro pins s σ H xs us Q I r h
  obtain ⟨p, dx, fs, rfl, hp, q⟩ := h
  obtain ⟨u, rfl, ru⟩ := vals1 r
  obtain rfl : u = Value.ref p := ru
  obtain ⟨ox, od, J⟩ := inst I hp
  obtain ⟨m, hF⟩ := I.fr
  refine PySem.W.len_K hF I.ok.mod.kin J O.at_ O.fn (wpAny_mono (runB (E := fun _ _ _ _ => False) F hr.in1 rfl (hx σ) I (us := [.ref p]) (vs := [.ref p]) (.cons rfl .nil) q) (fun w s' z => ?_) fun _ _ z => z)
  obtain ⟨z, H', I', rz, n, rfl, h0, h1, q'⟩ := z
  obtain ⟨t, rfl⟩ := (show ∃ t, w = Value.int n t from rz)
  exact ⟨⟨h0, h1⟩, .int n, H', I'.tok _, ⟨_, rfl⟩, q'⟩
theorem leO (K : PySem.W.Frag) (O : Own K C "__le__" f) (F : FnR X.prog X.w X.K X.mg X.base CX k f sp) (hr : Room k X.A) (hx : ∀ σ, PassesAt CX X σ (fun _ _ _ => False)) (hK : X.K = K := by rfl) : OpR X (compareOp .LtE) (rCmp K C sp) := by
  subst hK
  exact op_cmp (op := .LtE) O F hr hx
end
end OpM
namespace Dl
open PySem PySem.Spec PyProof.Rows L2
section
variable {K : PySem.W.Frag} {W : WS} {G : Ent} {H : Hp} {σ τ : L2.St} {ρ δ : List Sl} {ta tb : TE} {ma mb : ME}
/-- x[y] by the class's own def -/
def mSubO (c : Nat) (ds : M Sl) (a b : ME) : ME := a.bind fun s1 => b.bind fun s2 => match s1, s2 with
  | .sh (.obj c1 f1), .sh d => if c1 = c then callM ds [] [.s (.sh (.obj c1 f1)), .s (.sh d)] else M.stuck
  | _, _ => M.stuck
theorem eSubO {c : Nat} {ds : M Sl} (ha : EOk K W ta ma) (hb : EOk K W tb mb) : EOk K W (OpM.tSubO (He.ga K (cn c)) (fun vs H Q E => spOf K ds (vs ++ []) H Q E) W ta tb) (mSubO c ds ma mb) := fun G H σ ρ τ δ Q h w =>
  ha G H σ ρ τ δ _ h (ma.mono (fun s1 ρ1 w1 v1 H1 h1 => hb G H1 σ ρ1 _ _ _ h1 (mb.mono (fun s2 ρ2 w2 v2 H2 h2 => by
    simp only at w2
    split at w2
    · split at w2
      · rename_i hc
        subst hc
        obtain ⟨F, r1, r2, z⟩ := h2.top2
        obtain ⟨a1, a2⟩ := own_args h2
        have core := callCore (dvs := []) (dv := []) a1 a2 (fun _ => .nil) (fun _ _ z => z) w2
        cases r1 with
        | obj g1 g2 g3 g4 => exact ⟨_, _, _, rfl, z.le _ _ g1, core⟩
      · exact w2.elim
    · exact w2.elim) (fun e ρ' z v H' q => z v H' q.drop2) w1)) (fun _ _ z => z) w)
/-- y in x by the class's own def: a truth -/
def opInO (c : Nat) (ds : M Sl) : Sl → Sl → ME := fun s1 s2 => match s1, s2 with
  | .sh d, .sh (.obj c2 fs) => if c2 = c then (calm (callM ds [] [.s (.sh (.obj c2 fs)), .s (.sh d)])).bind fun r => match r with
    | .sh (.bl b) => M.ret (.sh (.bl b))
    | _ => M.stuck
    else M.stuck
  | _, _ => M.stuck
theorem r_inO {c : Nat} {ds : M Sl} : R2Ok K (OpM.rInO (He.ga K (cn c)) (fun vs H Q E => spOf K ds (vs ++ []) H Q E)) (opInO c ds) := by
  intro G H σ ρ τ δ x y s1 s2 Q E hr w
  unfold opInO at w
  split at w
  · rename_i d c2 fs
    split at w
    · rename_i hc
      subst hc
      obtain ⟨F, r1, r2, z⟩ := hr.top2
      have core := callCore (dvs := []) (dv := []) (X := fun _ _ _ => False) (Q := fun v H' => ∃ b, v = .bl b ∧ Q (.bl b) H') (.s (.s .nil)) hr (fun _ => .nil) (fun _ _ z => z.elim) ((callM ds [] _).mono (fun s ρ' w v H' hq => by
        simp only at w
        split at w
        · rename_i b
          have hv := hq.topv (u := .bl b) rfl
          exact ⟨b, hv, w _ _ (hv ▸ hq)⟩
        · exact w.elim) (fun _ _ z => z) w)
      cases r2 with
      | obj g1 g2 g3 g4 => exact ⟨_, _, _, rfl, z.le _ _ g1, core⟩
    · exact w.elim
  · exact w.elim
/-- len(x) by the class's own def -/
def opLenO (c : Nat) (ds : M Sl) : Sl → ME := fun s => (opUn c ds s).bind fun r => match r with
  | .sh (.int n) => ⟨fun ρ Q _ => 0 ≤ n ∧ n < 2 ^ 63 ∧ Q (.sh (.int n)) ρ, fun h _ w => ⟨w.1, w.2.1, h _ _ w.2.2⟩⟩
  | _ => M.stuck
theorem c_lenO {c : Nat} {ds : M Sl} : R1Ok K (fun x H Q => OpM.rLenO (He.ga K (cn c)) (fun vs H Q E => spOf K ds (vs ++ []) H Q E) [x] H Q) (opLenO c ds) := by
  intro G H σ ρ τ δ x s1 Q E hr w
  obtain ⟨fs, rfl, w2⟩ := opUn_go w
  clear w
  obtain ⟨F, r1, z⟩ := hr.top
  have core := callCore (dvs := []) (dv := []) (X := fun _ _ _ => False) (Q := fun v H' => ∃ n, v = .int n ∧ 0 ≤ n ∧ n < 2 ^ 63 ∧ Q (.int n) H') (.s .nil) hr (fun _ => .nil) (fun _ _ z => z.elim) ((callM ds [] _).mono (fun s ρ' w v H' hq => by
    simp only at w
    split at w
    · rename_i n
      have hv := hq.topv (u := .int n) rfl
      exact ⟨n, hv, w.1, w.2.1, w.2.2 _ _ (hv ▸ hq)⟩
    · exact w.elim) (fun _ _ z => z) w2)
  cases r1 with
  | obj g1 g2 g3 g4 => exact ⟨_, _, _, rfl, z.le _ _ g1, core⟩
end
end Dl
namespace Dl
open PySem PySem.Spec PyProof.Rows L2
section
variable {K : PySem.W.Frag} {W : WS} {G : Ent} {H : Hp} {σ τ : L2.St} {ρ δ : List Sl}
/-- a copy of an owned list of shared things -/
theorem Rel.copyL {i : Nat} {s : Sl} {ds : List D} (h : Rel K G H σ ρ τ δ) (e : ρ[i]? = some s) (eo : s.own = some (.ol .fr, .lst ds)) : ∃ l vs, σ[i]? = some (some (.ref l)) ∧ H l = some (.lst vs) ∧
    ∀ p, H p = none → Rel K G (upd H p (.lst vs)) σ ρ (some (.ref p) :: τ) (.ow (.ol .fr) (.lst ds) :: δ) := by
  obtain ⟨F, f1, f2, g, ht, hs⟩ := h
  obtain ⟨o, la, f, r, e1, e2, h1, _⟩ := hs.at e
  have key : ∃ l vs, o = some (.ref l) ∧ H l = some (.lst vs) ∧ RepL K F vs ds := by
    cases h1 with
    | ow q =>
      cases eo
      cases q with
      | ol hh rl => exact ⟨_, _, rfl, hh, rl.rep.1⟩
    | le q =>
      cases eo
      cases q with
      | ol hh rl => exact ⟨_, _, rfl, hh, rl.rep.1⟩
    | _ => cases eo
  obtain ⟨l, vs, rfl, hh, rl⟩ := key
  refine ⟨l, vs, e2, hh, fun p hp => ?_⟩
  have hin : ∀ a ∈ f1 ++ f2, H a ≠ none := fun a ha => by
    rcases List.mem_append.mp ha with z | z
    · exact ht.here a z
    · exact hs.here a z
  have hn : ∀ a ∈ f1 ++ f2, upd H p (.lst vs) a = H a := fun a ha => upd_ne fun z => hin a ha (by rw [z]; exact hp)
  exact ⟨F, p :: f1, f2, g.newO hin hp _, .cons (f := [p]) (.ow (.ol upd_same rl.own)) (ht.mono Le.rfl fun a ha => hn a (List.mem_append_left _ ha)), hs.mono Le.rfl fun a ha => hn a (List.mem_append_right _ ha)⟩
/-- list(x), x a name that may own its list -/
def mListV (i : Nat) : ME := ⟨fun ρ Q E => match ρ[i]? with
  | some (.sh d) => (op1P pList (.sh d)).wp ρ Q E
  | some s => match s.own with
    | some (.ol .fr, .lst ds) => Q (.ow (.ol .fr) (.lst ds)) ρ
    | _ => False
  | none => False, fun {ρ Q Q' E E'} h h' w => by
    revert w
    split
    · exact fun w => (op1P pList _).mono h h' w
    · split
      · exact fun w => h _ _ w
      · exact id
    · exact id⟩
theorem eListV {i : Nat} : EOk K W (tCB (Cl.qList K) (tCons (tVar i) tNil)) (mListV i) := fun G H σ ρ τ δ Q h w => by
  unfold mListV at w
  simp only at w
  split at w
  · rename_i d e
    refine eCB1 (W := W) c_list (eVar (i := i)) G H σ ρ τ δ Q h ?_
    show (mVar i).wp ρ (fun a r => (op1P pList a).wp r (fun s ρ' => ∀ v H', Rel K G H' σ ρ' (some v :: τ) (s :: δ) → Q v H') (exQ K W G σ τ δ)) (exQ K W G σ τ δ)
    unfold mVar
    simp only [e]
    exact w
  · rename_i s _ e
    split at w
    · rename_i ds eo
      obtain ⟨l, vs, e1, hh, k⟩ := h.copyL e eo
      exact ⟨_, e1, l, vs, rfl, .inl (SqL.of hh), fun p hp => w _ _ (k p hp)⟩
    · exact w.elim
  · exact w.elim
end
end Dl
/-! ### o.m(e, ..) of a list, where the fragment is named apart (inside a `try`, inside a `for`) -/
namespace OpM
open PySem PySem.Spec PyProof.Rows L2
variable {X : Cx} {o e : Expr} {es : List Expr} {to : TE} {t : TA} {name : Str} {apos cpos : Pos} {TT id : String} {r : V → List V → Hp → VK → Prop}
theorem pe_bmK {K : PySem.W.Frag} (hK : X.K = K) (pa : PlainAttrs TT) (slot : Slot TT name id) (hty : typeOf (.builtin id) = pure (.type "method_descriptor")) (hm : MtR X id r) (ho : PE X o to) (ha : PA X (e :: es) t)
    (hbase : attributeBase o name X.env (eval o X.env) = eval o X.env := by rfl)
    (hfew : ((backTo cpos (starEach (e :: es) X.env)).all (fun x => !x.1) && (backToKw cpos (keywordEach [] X.env)).all (fun x => x.1.isSome)
      && decide ((e :: es).length + ([] : List Keyword).length + (if ([] : List Keyword).isEmpty then 0 else 1) < 30)) = true := by rfl)
    (hline : (apos.endLine == cpos.line) = true := by rfl) (hs : starEach (e :: es) X.env = (false, eval e X.env) :: starEach es X.env := by rfl) (hplain : (backTo cpos (starEach es X.env)).any (·.1) = false := by rfl) :
    PE X (.Call (.Attribute o name apos) (e :: es) [] cpos) (tBM K TT r to t) := by subst hK; exact pe_bm pa slot hty hm ho ha hbase hfew hline hs hplain
end OpM
/-! ### a comprehension with two `for`s (nothing is raised within) -/
namespace Dl
open PySem PySem.Spec PyProof.Rows L2
section
variable {K : PySem.W.Frag} {W : WS} {te : TE} {me : ME} {tt tt1 : TT} {mt mt1 : MT}
abbrev NoX : WS := fun _ _ _ _ => False
theorem Rel.dropP {G : Ent} {H : Hp} {σ τ : L2.St} {ρ : Env} {δ : List Sl} : ∀ {τ' : L2.St} {δ' : List Sl}, τ'.length = δ'.length → Rel K G H σ ρ (τ' ++ τ) (δ' ++ δ) → Rel K G H σ ρ τ δ
  | [], [], _, h => h
  | o :: τ', s :: δ', e, h => Rel.dropP (τ' := τ') (δ' := δ') (Nat.succ.inj e) (Rel.pop h)
theorem lc_in_go {J : It} {g : TG} {mg : MG} {vs : List Nat} {G : Ent} {H1 : Hp} {σ τ τ' τ1 : L2.St} {ρ1 : Env} {δ δ' δ1 : List Sl} {ds acc0 : List D} {A0 : Addr} {P : List D → Env → Prop} {Nx : Hp → Prop}
    (hNx : ∀ acc r H', Rel K G H' σ r (τ' ++ some (.ref A0) :: τ) (δ' ++ .ow (.ol .fr) (.lst acc) :: δ) → P acc r → Nx H')
    (hw : GW vs g) (hgm : GMono g) (hg : GOk K g mg) (hc : TOk K NoX tt mt) (he : EOk K NoX te me) (el : τ'.length = δ'.length) (el1 : τ1.length = δ1.length)
    (h1 : Rel K G H1 σ ρ1 (τ1 ++ (τ' ++ some (.ref A0) :: τ)) (δ1 ++ (δ' ++ .ow (.ol .fr) (.lst acc0) :: δ))) (hwk : Walks K G J ds τ1 δ1)
    (w1 : lcM vs mg mt me ds acc0 ρ1 P (fun _ _ => False)) :
    ∃ W : Nat → Nat → Hp → Prop, (∃ m, W 0 m H1) ∧ ∀ i m H, W i m H →
      (J.stop i H ∧ Nx H) ∨ (J.go i H ∧ ∃ Nx1 : Hp → Prop, (∀ H', Nx1 H' → ∃ m', m' < m ∧ W (i + 1) m' H') ∧ ∀ x H', J.yld i H x H' → g x (L2.wipe σ vs) H' fun σ2 H2 => L2.wipe σ2 vs = L2.wipe σ vs ∧ tt σ2 H2 fun b H3 =>
        if b = true then te σ2 H3 fun y H4 => ∃ acc, H4 A0 = some (.lst acc) ∧ acc.length < sizeLine ∧ Nx1 (upd H4 A0 (.lst (acc ++ [y]))) else Nx1 H3) := by
  refine ⟨fun i n H' => n = ds.length - i ∧ i ≤ ds.length ∧ ∃ ρ' acc, Rel K G H' σ ρ' (τ1 ++ (τ' ++ some (.ref A0) :: τ)) (δ1 ++ (δ' ++ .ow (.ol .fr) (.lst acc) :: δ)) ∧ lcM vs mg mt me (ds.drop i) acc ρ' P (fun _ _ => False), ⟨_, rfl, Nat.zero_le _, ρ1, acc0, h1, w1⟩, ?_⟩
  rintro i n H' ⟨rfl, hle, ρ', acc, h2, w2⟩
  by_cases hlt : i < ds.length
  · have hd : ds.drop i = ds[i] :: ds.drop (i + 1) := List.drop_eq_getElem_cons hlt
    rw [hd] at w2
    refine .inr ⟨hwk.go H' σ ρ' _ _ i h2 hlt, fun H2 => ∃ ρ2 acc, Rel K G H2 σ ρ2 (τ1 ++ (τ' ++ some (.ref A0) :: τ)) (δ1 ++ (δ' ++ .ow (.ol .fr) (.lst acc) :: δ)) ∧ lcM vs mg mt me (ds.drop (i + 1)) acc ρ2 P (fun _ _ => False), fun H2 ⟨ρ2, acc2, h3, w3⟩ => ⟨_, by omega, rfl, hlt, ρ2, acc2, h3, w3⟩, fun x H2 y => ?_⟩
    have h3 := hwk.yld H' σ ρ' _ _ i x H2 ds[i] h2 (List.getElem?_eq_getElem hlt) y
    refine hw _ _ _ _ (hg G H2 _ _ _ _ x _ _ (h3.wipe vs) ((mg _).mono (fun _ ρ3 w3 σ3 H3 h4 ew => ?_) (fun _ _ z => z) w2))
    rw [wipe_wipe] at ew
    refine ⟨ew, hc G H3 σ3 ρ3 _ _ _ h4 (mt.mono (fun b ρ4 w4 H4 h5 => ?_) (fun er ρx z => z.elim) w3)⟩
    cases b with
    | false => exact ⟨_, acc, h5.unwipe ew, w4⟩
    | true =>
      refine he G H4 σ3 ρ4 _ _ _ h5 (me.mono (fun s ρ5 w5 v H5 h6 => ?_) (fun er ρx z => z.elim) w4)
      split at w5
      · rename_i xd
        have h6' : Rel K G H5 σ3 ρ5 ((some v :: (τ1 ++ τ')) ++ some (.ref A0) :: τ) ((.sh xd :: (δ1 ++ δ')) ++ .ow (.ol .fr) (.lst acc) :: δ) := by
          simpa [List.append_assoc] using h6
        have h7 : Rel K G H5 σ3 ρ5 (some v :: some (.ref A0) :: ((τ1 ++ τ') ++ τ)) (.sh xd :: .ow (.ol .fr) (.lst acc) :: ((δ1 ++ δ') ++ δ)) := (Rel.rot (τ' := some v :: (τ1 ++ τ')) (δ' := .sh xd :: (δ1 ++ δ')) (by simp [el, el1]) h6').swap
        obtain ⟨us, e1, e2, h8⟩ := h7.grow
        have h9 := Rel.unrot (τ' := τ1 ++ τ') (δ' := δ1 ++ δ') (by simp [el, el1]) h8
        refine ⟨us, e1, by rw [e2]; exact w5.1, _, _, Rel.unwipe (τ := τ1 ++ (τ' ++ some (.ref A0) :: τ)) (δ := δ1 ++ (δ' ++ _ :: δ)) (by simpa [List.append_assoc] using h9) ew, w5.2⟩
      · exact w5.elim
  · have e : i = ds.length := by omega
    subst e
    rw [List.drop_length] at w2
    exact .inl ⟨hwk.stop H' σ ρ' _ _ h2, hNx _ _ _ (Rel.dropP el1 h2) w2⟩
def lcM2 (vs vs1 : List Nat) (g : MG) (c : MT) (i1 : MI) (g1 : MG) (c1 : MT) (e : ME) : List D → List D → Env → (List D → Env → Prop) → Prop
  | [], acc, ρ, Q => Q acc ρ
  | d :: ds, acc, ρ, Q => (g (.sh d)).wp (wipeE ρ vs) (fun _ r1 => c.wp r1 (fun b r2 => if b = true then i1.wp r2 (fun ds1 r3 => lcM vs1 g1 c1 e ds1 acc r3 (fun acc' r4 => lcM2 vs vs1 g c i1 g1 c1 e ds acc' (wipeE r4 vs) Q) (fun _ _ => False)) (fun _ _ => False) else lcM2 vs vs1 g c i1 g1 c1 e ds acc (wipeE r2 vs) Q) (fun _ _ => False)) (fun _ _ => False)
theorem lcM2_mono {vs vs1 : List Nat} {g : MG} {c : MT} {i1 : MI} {g1 : MG} {c1 : MT} {e : ME} {Q Q' : List D → Env → Prop} (h : ∀ l r, Q l r → Q' l r) : ∀ {ds acc : List D} {ρ : Env}, lcM2 vs vs1 g c i1 g1 c1 e ds acc ρ Q → lcM2 vs vs1 g c i1 g1 c1 e ds acc ρ Q'
  | [], acc, ρ, w => h _ _ w
  | d :: ds, acc, ρ, w => (g (.sh d)).mono (fun _ r1 w1 => c.mono (fun b r2 w2 => by
      cases b with
      | true => exact i1.mono (fun ds1 r3 w3 => lcM_mono (fun _ _ q => lcM2_mono h q) (fun _ _ z => z) w3) (fun _ _ z => z) w2
      | false => exact lcM2_mono h w2) (fun _ _ z => z) w1) (fun _ _ z => z) w
def mLc2 (vs vs1 : List Nat) (i : MI) (g : MG) (c : MT) (i1 : MI) (g1 : MG) (c1 : MT) (e : ME) : ME := ⟨fun ρ Q E => i.wp ρ (fun ds r => lcM2 vs vs1 g c i1 g1 c1 e ds [] r (fun acc r => Q (.ow (.ol .fr) (.lst acc)) r)) E, fun h h' w => i.mono (fun ds r z => lcM2_mono (fun _ _ q => h _ _ q) z) h' w⟩
theorem eLc2 {wi wi1 : TI} {mi mi1 : MI} {g g1 : TG} {mg mg1 : MG} {vs vs1 : List Nat} (hi : IOk K W wi mi) (hw : GW vs g) (hgm : GMono g) (hg : GOk K g mg) (hc : TOk K NoX tt mt) (hi1 : IOk K NoX wi1 mi1) (hw1 : GW vs1 g1) (hgm1 : GMono g1) (hg1 : GOk K g1 mg1) (hc1 : TOk K NoX tt1 mt1) (he : EOk K NoX te me) :
    EOk K W (tLc2 wi g tt wi1 g1 tt1 te vs vs1) (mLc2 vs vs1 mi mg mt mi1 mg1 mt1 me) := fun G H0 σ ρ0 τ δ Q h0 w0 =>
  hi G H0 σ ρ0 τ δ _ h0 (mi.mono (fun ds ρ1 w1 J H1 τ' δ' el h1 hwk A0 hD => by
    have start : Rel K G (upd H1 A0 (.lst [])) σ ρ1 (τ' ++ some (.ref A0) :: τ) (δ' ++ .ow (.ol .fr) (.lst []) :: δ) := by
      have := Rel.lst (K := K) (vs := []) (ds := []) hD rfl h1
      exact Rel.unrot el this
    refine ⟨fun i n H' => n = ds.length - i ∧ i ≤ ds.length ∧ ∃ ρ' acc, Rel K G H' σ ρ' (τ' ++ some (.ref A0) :: τ) (δ' ++ .ow (.ol .fr) (.lst acc) :: δ) ∧ lcM2 vs vs1 mg mt mi1 mg1 mt1 me (ds.drop i) acc ρ' (fun acc r => ∀ v H', Rel K G H' σ r (some v :: τ) (.ow (.ol .fr) (.lst acc) :: δ) → Q v H'), ⟨_, rfl, Nat.zero_le _, ρ1, [], start, w1⟩, ?_⟩
    rintro i n H' ⟨rfl, hle, ρ', acc, h2, w2⟩
    by_cases hlt : i < ds.length
    · have hd : ds.drop i = ds[i] :: ds.drop (i + 1) := List.drop_eq_getElem_cons hlt
      rw [hd] at w2
      refine .inr ⟨hwk.go H' σ ρ' _ _ i h2 hlt, fun H2 => ∃ ρ2 acc, Rel K G H2 σ ρ2 (τ' ++ some (.ref A0) :: τ) (δ' ++ .ow (.ol .fr) (.lst acc) :: δ) ∧ lcM2 vs vs1 mg mt mi1 mg1 mt1 me (ds.drop (i + 1)) acc ρ2 (fun acc r => ∀ v H', Rel K G H' σ r (some v :: τ) (.ow (.ol .fr) (.lst acc) :: δ) → Q v H'), fun H2 ⟨ρ2, acc2, h3, w3⟩ => ⟨_, by omega, rfl, hlt, ρ2, acc2, h3, w3⟩, fun x H2 y => ?_⟩
      have h3 := hwk.yld H' σ ρ' _ _ i x H2 ds[i] h2 (List.getElem?_eq_getElem hlt) y
      refine hw _ _ _ _ (hg G H2 _ _ _ _ x _ _ (h3.wipe vs) ((mg _).mono (fun _ ρ3 w3 σ3 H3 h4 ew => ?_) (fun _ _ z => z) w2))
      rw [wipe_wipe] at ew
      refine ⟨ew, hc G H3 σ3 ρ3 _ _ _ h4 (mt.mono (fun b ρ4 w4 H4 h5 => ?_) (fun er ρx z => z.elim) w3)⟩
      cases b with
      | false => exact ⟨_, acc, h5.unwipe ew, w4⟩
      | true =>
        refine hi1 G H4 σ3 ρ4 _ _ _ h5 (mi1.mono (fun ds1 ρ5 w5 J1 H5 τ1 δ1 el1 h6 hwk1 => ?_) (fun er ρx z => z.elim) w4)
        exact lc_in_go (fun acc' r H' hr hp => ⟨_, acc', hr.unwipe ew, hp⟩) hw1 hgm1 hg1 hc1 he el el1 h6 hwk1 w5
    · have e : i = ds.length := by omega
      subst e
      rw [List.drop_length] at w2
      refine .inl ⟨hwk.stop H' σ ρ' _ _ h2, w2 _ _ ?_⟩
      exact Rel.dropN el (Rel.rot el h2)) (fun _ _ z => z) w0)
end
end Dl
/-! ### xs > ys, xs < ys of lists of numbers -/
namespace Dl
open PySem PySem.Spec PyProof.Rows L2
section
variable {X : Cx} {K : PySem.W.Frag}
def rGtD (K : PySem.W.Frag) : R2 := fun x y H Q => ∃ d e, Dp K H x d ∧ Dp K H y e ∧ PySem.W.alike d e = true ∧ d ≠ .none ∧ min d.depth e.depth ≤ 64 ∧ Q (.bl (PySem.W.dataLt e d)) H
theorem op_gtD (hu : X.A.units + 64 < cLine) : OpR X (compareOp .Gt) (rGtD X.K) := by
  intro pins s σ H x y v u Q I rx ry h
  obtain ⟨d, e, hd, he, al, nn, dp, q⟩ := h
  obtain ⟨as, r1⟩ := Dp.reads I d x v hd rx
  obtain ⟨bs, r2⟩ := Dp.reads I e y u he ry
  exact PySem.W.gt_data r1 r2 al nn (by omega) ⟨.bl _, H, I, rfl, q⟩
theorem gtD (K : PySem.W.Frag) (hu : X.A.units + 64 < cLine) (hK : X.K = K := by rfl) : OpR X (compareOp .Gt) (rGtD K) := hK ▸ op_gtD hu
def rLtD (K : PySem.W.Frag) : R2 := fun x y H Q => ∃ d e, Dp K H x d ∧ Dp K H y e ∧ PySem.W.alike d e = true ∧ d ≠ .none ∧ min d.depth e.depth ≤ 64 ∧ Q (.bl (PySem.W.dataLt d e)) H
theorem op_ltD (hu : X.A.units + 64 < cLine) : OpR X (compareOp .Lt) (rLtD X.K) := by
  intro pins s σ H x y v u Q I rx ry h
  obtain ⟨d, e, hd, he, al, nn, dp, q⟩ := h
  obtain ⟨as, r1⟩ := Dp.reads I d x v hd rx
  obtain ⟨bs, r2⟩ := Dp.reads I e y u he ry
  exact PySem.W.lt_data r1 r2 al nn (by omega) ⟨.bl _, H, I, rfl, q⟩
theorem ltD (K : PySem.W.Frag) (hu : X.A.units + 64 < cLine) (hK : X.K = K := by rfl) : OpR X (compareOp .Lt) (rLtD K) := hK ▸ op_ltD hu
def pGtD : D → D → Option (Prop × Sl) := fun a b => some (a.fit 64 ∧ b.fit 64 ∧ PySem.W.alike a.py b.py = true ∧ a.py ≠ .none, .sh (.bl (PySem.W.dataLt b.py a.py)))
def pLtD : D → D → Option (Prop × Sl) := fun a b => some (a.fit 64 ∧ b.fit 64 ∧ PySem.W.alike a.py b.py = true ∧ a.py ≠ .none, .sh (.bl (PySem.W.dataLt a.py b.py)))
theorem r_gtD : R2Ok K (rGtD K) (op2P pGtD) := by
  intro G H σ ρ τ δ x y s1 s2 Q E hr w
  obtain ⟨a, b, p, s, rfl, rfl, e, hp, q⟩ := op2P_go w
  obtain ⟨F, r1, r2, z⟩ := hr.top2
  cases e
  obtain ⟨h1, h2, h3, h4⟩ := hp
  exact ⟨_, _, r1.dp z.le h1.1, r2.dp z.le h2.1, h3, h4, Nat.le_trans (Nat.min_le_left _ _) h1.2.2, q _ _ (hr.pop.pop.push (by simp [D.val]))⟩
theorem r_ltD : R2Ok K (rLtD K) (op2P pLtD) := by
  intro G H σ ρ τ δ x y s1 s2 Q E hr w
  obtain ⟨a, b, p, s, rfl, rfl, e, hp, q⟩ := op2P_go w
  obtain ⟨F, r1, r2, z⟩ := hr.top2
  cases e
  obtain ⟨h1, h2, h3, h4⟩ := hp
  exact ⟨_, _, r1.dp z.le h1.1, r2.dp z.le h2.1, h3, h4, Nat.le_trans (Nat.min_le_left _ _) h1.2.2, q _ _ (hr.pop.pop.push (by simp [D.val]))⟩
theorem pys_ints : ∀ ns : List Int, D.pys (ns.map D.int) = ns.map PyData.int
  | [] => rfl
  | n :: ns => by show PyData.int n :: D.pys (ns.map D.int) = _; rw [pys_ints ns]; rfl
theorem gtD_ints {xs ys : List Int} : PySem.W.alike (D.lst (xs.map D.int)).py (D.lst (ys.map D.int)).py = true ∧ (D.lst (xs.map D.int)).py ≠ .none ∧ PySem.W.dataLt (D.lst (ys.map D.int)).py (D.lst (xs.map D.int)).py = decide (ys < xs) := by
  refine ⟨?_, (fun z => by cases z), ?_⟩
  · show PySem.W.alike (.list (D.pys (xs.map D.int))) (.list (D.pys (ys.map D.int))) = true
    rw [pys_ints, pys_ints, PySem.W.alike]
    exact PySem.W.alike_ints xs ys
  · show PySem.W.dataLt (.list (D.pys (ys.map D.int))) (.list (D.pys (xs.map D.int))) = _
    rw [pys_ints, pys_ints, PySem.W.dataLt_list]
    exact PySem.W.dataLt_ints ys xs
end
end Dl
/-! ### reading without owning, with a new answer: what is owned are lists alone, the answer holds no list but its own -/
namespace Dl
open PySem PySem.Spec PyProof.Rows L2
mutual
/-- no list within -/
def D.noL : D → Bool
  | .non => true
  | .bl _ => true
  | .int _ => true
  | .str _ => true
  | .lst _ => false
  | .tup xs => D.noLs xs
  | .dic es => D.noLk es
  | .dil es => D.noLk es
  | .obj _ fs => D.noLs fs
  | .cls _ => true
  | .scr => false
def D.noLs : List D → Bool
  | [] => true
  | d :: ds => D.noL d && D.noLs ds
def D.noLk : List (Key × D) → Bool
  | [] => true
  | (_, d) :: ds => D.noL d && D.noLk ds
end
section
variable {K : PySem.W.Frag} {G : Ent} {F F3 H H' : Hp} {σ τ : L2.St} {ρ δ : List Sl} {v x : V} {s : Sl} {d : D}
def OffL (F F3 : Hp) : Prop := ∀ a o, F a = some o → F3 a = some o ∨ ∃ xs, o = .lst xs
theorem rd_off (l : OffL F F3) {a : Addr} {u : HO} (hu : ∀ xs, u ≠ .lst xs) (h : Rd F a u) : Rd F3 a u := by
  rcases h with h | ⟨o, h⟩
  · rcases l a _ h with z | ⟨xs, z⟩
    · exact .inl z
    · exact absurd z (hu xs)
  · rcases l a _ h with z | ⟨xs, z⟩
    · exact .inr ⟨o, z⟩
    · cases z
theorem sqt_off (l : OffL F F3) {a : Addr} {vs : List V} (h : SqT K F a vs) : SqT K F3 a vs := by
  rcases h with h | h
  · exact .inl (rd_off l (fun _ z => by cases z) h)
  · exact .inr h
mutual
theorem Rep.off (l : OffL F F3) : ∀ {v : V} {d : D}, Rep K F v d → D.noL d = true → Rep K F3 v d
  | _, _, .non, _ => .non
  | _, _, .bl b, _ => .bl b
  | _, _, .int i, _ => .int i
  | _, _, .str x, _ => .str x
  | _, _, .lst h r, e => by unfold D.noL at e; cases e
  | _, _, .tup h r, e => .tup (sqt_off l h) (RepL.off l r (by unfold D.noL at e; exact e))
  | _, _, .dic h r, e => .dic ((l _ _ h).resolve_right fun ⟨_, z⟩ => by cases z) (RepK.off l r (by unfold D.noL at e; exact e))
  | _, _, .dil h r, e => .dil ((l _ _ h).resolve_right fun ⟨_, z⟩ => by cases z) (RepK.off l r (by unfold D.noL at e; exact e))
  | _, _, .obj h h' n r, e => .obj ((l _ _ h).resolve_right fun ⟨_, z⟩ => by cases z) ((l _ _ h').resolve_right fun ⟨_, z⟩ => by cases z) n (RepL.off l r (by unfold D.noL at e; exact e))
  | _, _, .cls c, _ => .cls c
  | _, _, .scr h, e => by unfold D.noL at e; cases e
theorem RepL.off (l : OffL F F3) : ∀ {v : List V} {d : List D}, RepL K F v d → D.noLs d = true → RepL K F3 v d
  | _, _, .nil, _ => .nil
  | _, _, .cons h r, e => by
    unfold D.noLs at e
    rw [Bool.and_eq_true] at e
    exact .cons (Rep.off l h e.1) (RepL.off l r e.2)
theorem RepK.off (l : OffL F F3) : ∀ {v : List (Key × V)} {d : List (Key × D)}, RepK K F v d → D.noLk d = true → RepK K F3 v d
  | _, _, .nil, _ => .nil
  | _, _, .cons h r, e => by
    unfold D.noLk at e
    rw [Bool.and_eq_true] at e
    exact .cons (Rep.off l h e.1) (RepK.off l r e.2)
end
def Sh.listy : Sh → Bool
  | .fr => true
  | .ol s => Sh.listy s
  | _ => false
def Sl.listy : Sl → Bool
  | .un => true
  | .sh _ => true
  | .ow z _ => z.listy
  | .le _ z _ => z.listy
  | .bx => true
  | .lb _ => true
  | .er .. => false
mutual
theorem Own.listy : ∀ {z : Sh} {v : V} {d : D} {fp : List Addr}, Own K F H z v d fp → z.listy = true → ∀ a ∈ fp, ∃ xs, H a = some (.lst xs)
  | _, _, _, _, .fr r, _, a, ha => by cases ha
  | _, _, _, _, .ol h r, e, a, ha => by
    rcases List.mem_cons.mp ha with rfl | ha
    · exact ⟨_, h⟩
    · exact OwnL.listy r (by unfold Sh.listy at e; exact e) a ha
  | _, _, _, _, .od h r, e, a, ha => by unfold Sh.listy at e; cases e
  | _, _, _, _, .oo h h' n r, e, a, ha => by unfold Sh.listy at e; cases e
  | _, _, _, _, .ot h r, e, a, ha => by unfold Sh.listy at e; cases e
theorem OwnL.listy : ∀ {z : Sh} {v : List V} {d : List D} {fp : List Addr}, OwnL K F H z v d fp → z.listy = true → ∀ a ∈ fp, ∃ xs, H a = some (.lst xs)
  | _, _, _, _, .nil, _, a, ha => by cases ha
  | _, _, _, _, .cons h r, e, a, ha => by
    rcases List.mem_append.mp ha with ha | ha
    · exact Own.listy h e a ha
    · exact OwnL.listy r e a ha
end
theorem SlV.listy {o : Option V} {s : Sl} {fp : List Addr} (h : SlV K F H o s fp) (e : s.listy = true) : ∀ a ∈ fp, ∃ xs, H a = some (.lst xs) := by
  cases h with
  | un => intro a ha; cases ha
  | sh r => intro a ha; cases ha
  | ow r => exact r.listy e
  | le r => exact r.listy e
  | er h r => cases e
  | bx r =>
    obtain ⟨cs, i, r, s, h1, h2, h3⟩ := r
    intro a ha
    rcases List.mem_cons.mp ha with rfl | ha
    · exact ⟨_, h1⟩
    · rw [List.mem_singleton.mp ha]; exact ⟨_, h2⟩
  | lb r =>
    obtain ⟨cs, i, r, s, h1, h2, h3⟩ := r
    intro a ha
    rcases List.mem_cons.mp ha with rfl | ha
    · exact ⟨_, h1⟩
    · rw [List.mem_singleton.mp ha]; exact ⟨_, h2⟩
theorem Slots.listy {fp : List Addr} (h : Slots K F H σ ρ fp) : ρ.all Sl.listy = true → ∀ a ∈ fp, ∃ xs, H a = some (.lst xs) := by
  induction h with
  | nil => intro _ a ha; cases ha
  | cons h r ih =>
    intro e a ha
    rw [List.all_cons, Bool.and_eq_true] at e
    rcases List.mem_append.mp ha with ha | ha
    · exact h.listy e.1 a ha
    · exact ih e.2 a ha
/-- no list but its own -/
def Sl.noL : Sl → Bool
  | .sh d => d.noL
  | .ow (.ol .fr) (.lst ds) => D.noLs ds
  | _ => false
theorem SlV.noL {o : Option V} {s : Sl} {f : List Addr} (l : OffL F F3) (h : SlV K F H o s f) (e : s.noL = true) : SlV K F3 H o s f := by
  cases h with
  | sh r => exact .sh (r.off l e)
  | ow r =>
    unfold Sl.noL at e
    split at e
    · rename_i q
      cases q
    · rename_i q
      cases q
      cases r with
      | ol h r =>
        obtain ⟨r', rfl⟩ := OwnL.rep r
        exact .ow (.ol h (RepL.own (r'.off l e)))
    · cases e
  | _ => cases e
def mBorN (m : ME) : ME := ⟨fun ρ Q E => ρ.all Sl.listy = true ∧ m.wp (ρ.map Sl.bz) (fun s _ => s.noL = true ∧ Q s ρ) (fun er _ => er.d.flat = true ∧ E er ρ), fun h h' w => ⟨w.1, m.mono (fun s r z => ⟨z.1, h _ _ z.2⟩) (fun er r z => ⟨z.1, h' _ _ z.2⟩) w.2⟩⟩
theorem eBorN {W : WS} {ma : ME} {t : TE} (ht : EOk K W t ma) : EOk K W t (mBorN ma) := fun G H σ ρ τ δ Q h ⟨ly, w⟩ => by
  obtain ⟨F, f1, f2, g, hτ, hs⟩ := h
  have lst := hs.listy ly
  have hf : ∀ a ∈ f2, F a = none := fun a ha => g.nf a (List.mem_append_right _ ha)
  have l := fzH_le (H := H) hf
  have g' : Good ⟨H, fzH F H f2, []⟩ (fzH F H f2) H ([] ++ []) := ⟨fun a o e => by
    by_cases z : a ∈ f2
    · rw [fzH_in z] at e; exact e
    · rw [fzH_out z] at e; exact g.sub a o e, Le.rfl, fun a e => .inl e, fun a o e _ => e, fun a e => e, fun a ha => (by cases ha), fun a ha => (by cases ha), List.nodup_nil⟩
  have hin : ∀ a ∈ f1 ++ f2, H a ≠ none := fun a ha => by
    rcases List.mem_append.mp ha with z | z
    · exact hτ.here a z
    · exact hs.here a z
  have hR : Rel K ⟨H, fzH F H f2, []⟩ H σ (ρ.map Sl.bz) [] [] := ⟨_, [], [], g', .nil, hs.bz l fun a ha => fzH_in ha⟩
  have back : ∀ (s : Sl) (ρ' : Env) (v : V) (H' : Hp), s.noL = true → Rel K ⟨H, fzH F H f2, []⟩ H' σ ρ' [some v] [s] → Rel K G H' σ ρ (some v :: τ) (s :: δ) := fun s ρ' v H' hc hr => by
    obtain ⟨F', g1, g2, gg, ht, _⟩ := hr
    cases ht with
    | cons q1 q2 =>
      cases q2
      rename_i fa
      have hsame : Same H H' := fun a o e => gg.frm a o e (by simp)
      have hn : ∀ a ∈ f1 ++ f2, H' a = H a := fun a ha => by
        cases q : H a with
        | none => exact absurd q (hin a ha)
        | some o => exact hsame _ _ q
      have hnew : ∀ a ∈ fa, H a = none := fun a ha => by
        rcases gg.own a (by simp [ha]) with z | z
        · cases z
        · exact z
      have hF' : ∀ a, F' a ≠ none → fzH F H f2 a ≠ none ∨ H a = none := fun a e => by
        rcases gg.fN a e with z | z | z
        · exact .inl z
        · exact .inr z
        · cases z
      let F3 : Hp := fun a => if a ∈ f2 then none else F' a
      have f3in : ∀ a, a ∈ f2 → F3 a = none := fun a z => if_pos z
      have f3out : ∀ a, a ∉ f2 → F3 a = F' a := fun a z => if_neg z
      have off : OffL F' F3 := fun a o e => by
        by_cases z : a ∈ f2
        · obtain ⟨xs, hx⟩ := lst a z
          have e1 := gg.sub a o e
          have e2 := hsame _ _ hx
          rw [e1] at e2
          exact .inr ⟨xs, Option.some.inj e2⟩
        · exact .inl (by rw [f3out a z]; exact e)
      have le3 : Le F F3 := fun a o e => by
        have z : a ∉ f2 := fun z => by rw [hf a z] at e; cases e
        rw [f3out a z]
        exact gg.f0 a o (by show fzH F H f2 a = _; rw [fzH_out z]; exact e)
      have gn : Good G F3 H' (fa ++ (f1 ++ f2)) := by
        refine ⟨fun a o e => ?_, g.f0.trans le3, fun a e => ?_, fun a o e hn' => hsame _ _ (g.frm a o e hn'), fun a e => ?_, fun a ha => ?_, fun a ha => ?_, ?_⟩
        · by_cases z : a ∈ f2
          · rw [f3in a z] at e; cases e
          · rw [f3out a z] at e; exact gg.sub a o e
        · by_cases z : a ∈ f2
          · rw [f3in a z] at e; exact absurd rfl e
          · rw [f3out a z] at e
            rcases hF' a e with y | y
            · rw [fzH_out z] at y
              exact g.fN a y
            · refine .inr (.inl ?_)
              cases q : G.H a with
              | none => rfl
              | some o => exact absurd y (g.all a (by rw [q]; intro z; cases z))
        · have h1 := g.all a e
          cases q : H a with
          | none => exact absurd q h1
          | some o => rw [hsame _ _ q]; intro z; cases z
        · rcases List.mem_append.mp ha with z | z
          · refine .inr ?_
            cases q : G.H a with
            | none => rfl
            | some o => exact absurd (hnew a z) (g.all a (by rw [q]; intro z; cases z))
          · exact g.own a z
        · rcases List.mem_append.mp ha with z | z
          · have : a ∉ f2 := fun y => hin a (List.mem_append_right _ y) (hnew a z)
            rw [f3out a this]
            exact gg.nf a (by simp [z])
          · rcases List.mem_append.mp z with y | y
            · have h2 : a ∉ f2 := fun y2 => (List.nodup_append.mp g.nd).2.2 a y a y2 rfl
              rw [f3out a h2]
              cases q : F' a with
              | none => rfl
              | some o =>
                rcases hF' a (by rw [q]; intro z; cases z) with e | e
                · rw [fzH_out h2] at e
                  exact absurd (g.nf a z) e
                · exact absurd e (hin a z)
            · exact f3in a y
        · refine List.nodup_append.mpr ⟨?_, g.nd, fun a ha b hb e => ?_⟩
          · have := gg.nd
            simp only [List.append_nil, List.nodup_append] at this
            exact this.1
          · subst e
            exact hin a hb (hnew a ha)
      rw [← List.append_assoc] at gn
      exact ⟨F3, fa ++ f1, f2, gn, .cons (q1.noL off hc) (hτ.mono le3 fun a ha => hn a (List.mem_append_left _ ha)), hs.mono le3 fun a ha => hn a (List.mem_append_right _ ha)⟩
  exact ht _ H σ _ [] [] Q hR (ma.mono (fun s ρ' z v H' q => z.2 v H' (back s ρ' v H' z.1 q)) (fun er ρ' z v H' q => z.2 v H' (back (.sh er.d) ρ' v H' (by
    have := z.1
    cases hd : er.d <;> rw [hd] at this <;> first | rfl | cases this) q)) w)
end
section
variable {K : PySem.W.Frag} {W : WS} {ta tb tc : TE} {ma mb mc : ME}
/-- range(i, j, -1) -/
def iR3 (a b c : ME) : MI := a.bind (asI fun i => b.bind (asI fun j => c.bind (asI fun k => need (k = -1 ∧ -(2 ^ 62) ≤ i ∧ i < 2 ^ 62 ∧ -(2 ^ 62) ≤ j ∧ j < 2 ^ 62) (M.ret (rgC i (-1) (i - j).toNat)))))
theorem wR3 (ha : EOk K W ta ma) (hb : EOk K W tb mb) (hc : EOk K W tc mc) : IOk K W (iRng3 (tCons ta (tCons tb (tCons tc tNil)))) (iR3 ma mb mc) := fun G H σ ρ τ δ R h w =>
  ha G H σ ρ τ δ _ h (ma.mono (fun s ρ1 w1 v H1 h1 => by
    obtain ⟨i, rfl, w2⟩ := asI_go w1
    obtain rfl := h1.topv (u := .int i) rfl
    refine hb G H1 σ ρ1 _ _ _ h1 (mb.mono (fun s ρ2 w3 v H2 h2 => ?_) (fun e ρ' z v H' q => z v H' q.drop2) w2)
    obtain ⟨j, rfl, w4⟩ := asI_go w3
    obtain rfl := h2.topv (u := .int j) rfl
    refine hc G H2 σ ρ2 _ _ _ h2 (mc.mono (fun s ρ3 w5 v H3 h3 => ?_) (fun e ρ' z v H' q => z v H' q.drop2.drop2) w4)
    obtain ⟨k, rfl, ⟨rfl, w6, w7, w8, w9⟩, w10⟩ := asI_go w5
    obtain rfl := h3.topv (u := .int (-1)) rfl
    exact ⟨i, j, -1, _, rfl, RgC.neg w6 w7 w8 w9, w10 _ _ [] [] rfl h3.pop.pop.pop walks_rangeC⟩) (fun _ _ z => z) w)
end
end Dl
/-! ### a method of the text that calls super().__init__(..), the class above being one of the text too -/
namespace SupX
open PySem PySem.Spec PyProof.Rows L2 PySem.Calls
structure ScopeS (N P : List Str) (sc : Scope) : Prop where
  kind : sc.kind = .function
  co : sc.isCoroutine = false
  gen : sc.isGenerator = false
  nd : N.Nodup
  pre : N.take P.length = P
  par : ∀ x ∈ P, sc.names.lookup x = some .local
  free : ∀ y ∈ sc.names, (y.2 = .free → y.1 = ("__class__" : Str)) ∧ y.2 ≠ .cell
  cls : sc.names.lookup ("__class__" : Str) = some .free
  sup : sc.names.lookup ("super" : Str) = some .globalImplicit
abbrev envS (qual : Str) (scope : Scope) (L f cda cc : Addr) : Env := PySem.W.ksEnv qual scope L f (.ref cda) cc
def cxS (CX : CXT) (P : Program) (w : World) (K : PySem.W.Frag) (mg : Str → Option Value) (base : Heap) (N : List Str) (qual : Str) (scope : Scope) (f cda cc : Addr) (A : Around) (outer : List Env) (s : Shared) (H : Hp) (E : XK) : Cx where
  prog := P
  w := w
  K := K
  mg := mg
  base := base
  A := A.deeper (envS qual scope s.heap.objs.size f cda cc)
  N := N
  s_0 := s
  H_0 := H
  env := envS qual scope s.heap.objs.size f cda cc
  outer := outer
  stack := envS qual scope s.heap.objs.size f cda cc :: outer
  ex := []
  calm := true
  fn := fun x => !(x == ("__class__" : Str))
  pn := []
  xe := fun e s' => wpAny (model P w) (A.deeper (envS qual scope s.heap.objs.size f cda cc)) (leaving (envS qual scope s.heap.objs.size f cda cc) e) (fun _ s'' => CX outer H s E e s'') (fun e' s'' => CX outer H s E e' s'') s'
theorem look_mem {l : List (Str × Value)} (nd : (l.map (·.1)).Nodup) {x : Str} {v : Value} (h : (x, v) ∈ l) : l.lookup x = some v := by
  induction l with
  | nil => cases h
  | cons a l ih =>
    obtain ⟨n, u⟩ := a
    rw [List.map_cons, List.nodup_cons] at nd
    rcases List.mem_cons.mp h with e | e
    · cases e
      simp [List.lookup]
    · have ne : (x == n) = false := by
        rw [Bool.eq_false_iff]
        intro z
        have z2 : x = n := beq_iff_eq.mp z
        exact nd.1 (by rw [← z2]; exact List.mem_map.mpr ⟨_, e, rfl⟩)
      simp only [List.lookup, ne]
      exact ih nd.2 e
theorem look_zip {ps : List Str} {us : List Value} (nd : ps.Nodup) {i : Nat} {x : Str} {v : Value} (h1 : ps[i]? = some x) (h2 : us[i]? = some v) : (ps.zip us).reverse.lookup x = some v := by
  refine look_mem ?_ ?_
  · rw [List.map_reverse]
    refine (List.reverse_perm _).nodup_iff.mpr ?_
    have sub : ∀ (ps : List Str) (us : List Value), ((ps.zip us).map (·.1)).Sublist ps := by
      intro ps
      induction ps with
      | nil => intro us; exact .slnil
      | cons a l ih =>
        intro us
        cases us with
        | nil => exact List.nil_sublist _
        | cons u us => exact (ih us).cons₂ a
    exact nd.sublist (sub ps us)
  · rw [List.mem_reverse]
    refine List.mem_of_getElem? (i := i) ?_
    rw [List.getElem?_zip_eq_some]
    exact ⟨h1, h2⟩
section
variable {CX : CXT} {P : Program} {w : World} {K : PySem.W.Frag} {mg : Str → Option Value} {base : Heap} {N ps : List Str} {qual : Str} {scope : Scope} {f cda cc : Addr} {A : Around} {outer : List Env} {s : Shared} {H : Hp} {E : XK} {us : List Value} {vs : List V}
theorem inv_sup {cl : Value} {cld : Option Addr} {csl : Array (Option Value)} {v0 : Value} {h₁ : Heap} {t : Nat} (S : ScopeS N ps scope) (hd : A.handled = none) (e0 : Env0 P w K mg base A outer s H) (hl : vs.length = ps.length) (r : Vals vs us)
    (hcc : K.lookup cc = some ⟨cl, cld, .cell (some v0), csl⟩) (hns : h₁.Ns s.heap.objs.size (fun x => (ps.zip us).reverse.lookup x)) (hk : ∀ b o, s.heap.get? b = some o → h₁.get? b = some o) :
    Inv (cxS CX P w K mg base N qual scope f cda cc A outer s H E) [] (L2.start N vs) H { s with heap := h₁, toks := t } := by
  have hpl : ps.length ≤ N.length := by have := congrArg List.length S.pre; rw [List.length_take] at this; omega
  have noA : ∀ b : Addr, b ∉ (cxS CX P w K mg base N qual scope f cda cc A outer s H E).ex := fun b z => absurd (show b ∈ ([] : List Addr) from z) (by simp)
  have one : ∀ {y c}, (cxS CX P w K mg base N qual scope f cda cc A outer s H E).env.cells.lookup y = some c → y = ("__class__" : Str) ∧ c = cc := fun {y c} h => by
    have h' : List.lookup y [(("__class__" : Str), cc)] = some c := h
    simp only [List.lookup] at h'
    split at h'
    · rename_i e
      exact ⟨beq_iff_eq.mp e, (Option.some.inj h').symm⟩
    · cases h'
  have bcc := (e0.mod.kin _ _ hcc)
  have scc := e0.bs _ _ bcc
  refine ⟨⟨e0.mod, S.kind, rfl, rfl, Nat.le_refl _, fun y z c h1 h2 => (one h1).1.trans (one h2).1.symm, fun y hy => ?_, fun y c hf h => ?_, fun _ => hd, Around.frames_deeper e0.frames, .inr ⟨rfl, rfl⟩, fun b z => absurd z (noA b), e0.bs, e0.bsz, fun b _ _ => noA b, fun b z => absurd z (noA b), e0.funs, e0.frf⟩,
    rfl, e0.bare, Un.kept hk, ⟨_, hns, fun i y v h1 h2 h3 => ?_⟩, fun y c h => ?_, e0.hok.fresh (Nat.le_refl _), fun y c h => ?_, fun p hp => absurd (show p ∈ ([] : List (Addr × Obj)) from hp) (by simp), e0.hok.kept hk, ?_⟩
  · have hy : scope.names.lookup y = some .cell ∨ scope.names.lookup y = some .free := hy
    rcases hy with hy | hy
    · exact absurd rfl (S.free _ (PySem.mem_of_lookup hy)).2
    · have e := (S.free _ (PySem.mem_of_lookup hy)).1 rfl
      have e' : y = ("__class__" : Str) := e
      subst e'
      exact ⟨cc, by show List.lookup _ [_] = _; simp [List.lookup]⟩
  · have e := (one h).1
    subst e
    have : (!(("__class__" : Str) == ("__class__" : Str))) = true := hf
    simp at this
  · have hi : i < vs.length := by
      unfold L2.start at h2
      by_cases hi : i < vs.length
      · exact hi
      · rw [List.getElem?_append_right (by simpa using hi)] at h2
        rw [List.getElem?_replicate] at h2
        split at h2 <;> cases h2
    have ha : vs[i]? = some v := by
      unfold L2.start at h2
      rw [List.getElem?_append_left (by simpa using hi), List.getElem?_map] at h2
      cases e : vs[i]? with
      | none => rw [e] at h2; cases h2
      | some a => rw [e] at h2; cases h2; rfl
    obtain ⟨u, hu, rv⟩ := r.get ha
    have hp : ps[i]? = some y := by
      rw [← S.pre, List.getElem?_take_of_lt (by omega)]; exact h1
    have ndP : ps.Nodup := by rw [← S.pre]; exact S.nd.sublist (List.take_sublist _ _)
    exact ⟨u, rv, .inl ⟨S.par y (List.mem_of_getElem? hp), look_zip ndP hp hu⟩⟩
  · have e := (one h).2
    subst e
    exact ⟨_, _, hk _ _ scc.1, rfl⟩
  · have e := (one h).2
    subst e
    exact scc.2
  · unfold L2.start
    show _ = N.length
    rw [List.length_append, List.length_map, List.length_replicate]
    omega
theorem wpAt_app {M : Model} {A : Around} {E : Value → Shared → Prop} {c : Code} {env : Env} {rest : List Stmt} {Q : Flow → Shared → Prop} {pre : List Stmt} {s : Shared} (h : wpAny M A (execs pre env) (fun f s' => match f with | .next => PySem.wpAt M A c (execs rest env) Q E s' | f => Q f s') E s) : PySem.wpAt M A c (execs (pre ++ rest) env) Q E s := fun Γ p hc hΓ => by
  have main : ∀ (pre : List Stmt) (p : Pos) (s : Shared), Sem.wp M Γ (execs pre env) (fun f _ s' => match f with | .next => PySem.wpAt M A c (execs rest env) Q E s' | f => Q f s') (fun e _ s' => E e s') p s → Sem.wp M Γ (execs (pre ++ rest) env) (fun f _ s' => Q f s') (fun e _ s' => E e s') p s := by
    intro pre
    induction pre with
    | nil => exact fun p s h => h Γ p hc hΓ
    | cons a pre ih =>
      intro p s h
      rw [List.cons_append, execs_cons, Sem.wp_bind']
      rw [execs_cons, Sem.wp_bind'] at h
      refine Sem.wp_mono M Γ _ (fun f p' s' h' => ?_) (fun _ _ _ h' => h') _ _ h
      cases f with
      | next => exact ih p' s' h'
      | _ => exact h'
  exact main pre p s (h Γ p hΓ)
/-- what is asked at super().__init__ -/
def supQ (C : Addr) (sp2 : Sp) (ta : TA) (W : L2.St → XK) (tr : TS) (D : Ends) : L2.St → Hp → Prop := fun σ H => ∃ a dx fs, σ[0]? = some (some (.ref a)) ∧ H a = some (.ins C dx fs) ∧ ta σ H fun vs H2 => sp2 (.ref a :: vs) H2 (fun _ H3 => tr D σ H3) (W σ)
theorem callWith_Mp {M : Model} {A : Around} {Q : Value → Shared → Prop} {E : Value → Shared → Prop} {s : Shared} {pos : Pos} {env : Env} {q g : Addr} {self : Value} {e : Expr} {rest : List Expr} (hf : PySem.W.fnIn K g = true)
    (h : wpAny M A (spliced (backTo pos (starEach (e :: rest) env))) (fun vs s₁ => PySem.W.MethP K q g self s₁.heap ∧ wpAny M A (call (.ref q) ([] ++ vs)) Q E s₁) E s)
    (he : starEach (e :: rest) env = (false, eval e env) :: starEach rest env := by rfl) (hplain : (backTo pos (starEach rest env)).any (·.1) = false := by rfl) :
    wpAny M A (callWith pos (.ref q) [] (backTo pos (starEach (e :: rest) env)) []) Q E s := by
  rw [he] at h ⊢
  exact PySem.W.callWith_of (by show ((false || (backTo pos (starEach rest env)).any (·.1)) || false) = false; rw [hplain]; rfl) (PySem.W.keeps_M hf) (evalArgs_plain h)
/-- super().__init__(e, ..) and what follows -/
theorem sup_run {pl : Sem Bool} {k2 : Nat} {f2 C : Addr} {body : List Stmt} {e1 : Expr} {es : List Expr} {rest : List Stmt} {q1 q2 q3 q5 q6 : Pos} {fd : FuncData} {oc ccl cl : Value} {od cdd cld : Option Addr} {osl ccs csl : Array (Option Value)} {cvv : Array Value} {file : Str} {tf : Tok} {cdC : ClassData} {ar : Arg} {ps' : List Str}
    {sp2 : Sp} {ta : TA} {tr : TS} {D : Ends} {σ : L2.St} {H1 : Hp} {s1 : Shared} {W : L2.St → XK}
    (lk : K.lookup f = some ⟨oc, od, .func fd, osl⟩) (S : ScopeS N ps scope) (hps : ps = ar.arg :: ps')
    (har : (fd.params.posonlyargs ++ fd.params.args).head? = some ar)
    (hcode : K.lookup cda = some ⟨ccl, cdd, .fields cvv, ccs⟩) (hvs : cvv[2]? = some (.str file tf)) (hfile : ((P.main.file : Str) == file) = true)
    (hcell : K.lookup cc = some ⟨cl, cld, .cell (some (.ref C)), csl⟩) (hC : PySem.W.clsIn K C = some cdC) (hself : PySem.W.mroIn K C (.ref C) = some true) (hsup : PySem.W.ks_superIn K C C "__init__" = some (some (.ref f2))) (hty : PySem.W.typeIn K (.ref f2) = some (.type "function")) (hf2 : PySem.W.fnIn K f2 = true)
    (hopq : PySem.W.nsIn K cStatics "thirdparty.any" = some none) (htop : (P.main.scope.names.lookup ("super" : Str)).isSome = false) (hmg : mg "super" = none)
    (F2 : FnR P w K mg base CX k2 f2 sp2) (hr : Room k2 (A.deeper (envS qual scope s.heap.objs.size f cda cc)))
    (hx : ∀ σ, PassesAt CX (cxS CX P w K mg base N qual scope f cda cc A outer s H E) σ (W σ))
    (hargs : PA (cxS CX P w K mg base N qual scope f cda cc A outer s H E) (e1 :: es) ta) (hrest : PSs (cxS CX P w K mg base N qual scope f cda cc A outer s H E) rest tr)
    (I : Inv (cxS CX P w K mg base N qual scope f cda cc A outer s H E) [] σ H1 s1) (hq : supQ C sp2 ta W tr D σ H1)
    (hcall : eval (.Call (.Attribute (.Call (.Name "super" q1) [] [] q2) "__init__" q3) (e1 :: es) [] q5) (envS qual scope s.heap.objs.size f cda cc) = (do
      let ov ← attributeBase (.Call (.Name "super" q1) [] [] q2) "__init__" (envS qual scope s.heap.objs.size f cda cc) (eval (.Call (.Name "super" q1) [] [] q2) (envS qual scope s.heap.objs.size f cda cc))
      standAt q3.atName
      let (g, first) ← holding [ov] (getMethod ov "__init__" pl)
      callWith q5 g first (backTo q5 (starEach (e1 :: es) (envS qual scope s.heap.objs.size f cda cc))) []))
    (he : starEach (e1 :: es) (envS qual scope s.heap.objs.size f cda cc) = (false, eval e1 (envS qual scope s.heap.objs.size f cda cc)) :: starEach es (envS qual scope s.heap.objs.size f cda cc) := by rfl)
    (hpl : (backTo q5 (starEach es (envS qual scope s.heap.objs.size f cda cc))).any (·.1) = false := by rfl) :
    PySem.wpAt (model P w) (A.deeper (envS qual scope s.heap.objs.size f cda cc)) (.func body (envS qual scope s.heap.objs.size f cda cc)) (execs (.Expr (.Call (.Attribute (.Call (.Name "super" q1) [] [] q2) "__init__" q3) (e1 :: es) [] q5) q6 :: rest) (envS qual scope s.heap.objs.size f cda cc))
      (SP (cxS CX P w K mg base N qual scope f cda cc A outer s H E) [] D) (cxS CX P w K mg base N qual scope f cda cc A outer s H E).xe s1 := by
  obtain ⟨a, dx, fs, hσ, hx1, hta⟩ := hq
  have X1 : K.In s1.heap := I.kIn
  obtain ⟨mA, O, _, _, _, _⟩ := ins_get I.hok hx1
  refine ks_wpAt_execs_cons (ks_wpAt_Expr_any (ks_wpAt_MethodCall (pl := pl) ?_ hcall) I.quiet ?_)
  rotate_left
  · rfl
  obtain ⟨oD, hD1, hD2⟩ : ∃ oD, s1.heap.get? C = some oD ∧ oD.data = .cls cdC := by
    unfold PySem.W.clsIn at hC
    split at hC
    · rename_i c d cd' sl ho
      cases hC
      exact ⟨_, X1 _ _ ho, rfl⟩
    · cases hC
  refine ks_wpAt_super_base (env := envS qual scope s.heap.objs.size f cda cc) S.sup S.cls rfl rfl (X1 _ _ lk) rfl har rfl (X1 _ _ hcode) rfl hvs hfile htop ?_
  obtain ⟨m, hns, hloc⟩ := I.loc
  obtain ⟨mb, hb1, hb2⟩ := I.mod.blt
  have hn0 : N[0]? = some ar.arg := by
    have e := S.pre
    rw [hps] at e
    have : (N.take (ar.arg :: ps').length)[0]? = some ar.arg := by rw [e]; rfl
    rwa [List.getElem?_take_of_lt (by simp)] at this
  have hpar : scope.names.lookup ar.arg = some .local := S.par _ (by rw [hps]; exact List.mem_cons_self)
  obtain ⟨u0, ru0, hlk⟩ := hloc 0 ar.arg (.ref a) hn0 hσ (.inl hpar)
  obtain rfl : u0 = .ref a := by cases u0 <;> first | exact ru0 | exact ru0.elim
  have hm0 : m ar.arg = some (.ref a) := by
    rcases hlk with ⟨_, z⟩ | ⟨z, _⟩
    · exact z
    · have z' : scope.names.lookup ar.arg = some .cell ∨ scope.names.lookup ar.arg = some .free := z
      rw [hpar] at z'
      rcases z' with z | z <;> cases z
  refine PySem.W.ks_loadName_global S.kind S.sup (Calls.loadGlobal_builtin (I.mod.glob.keeps I.bk) hmg (hb1.keeps I.bk) ((hb2 "super" (by decide)).trans (by decide +kernel)) ⟨rfl, ?_⟩)
  refine wpAny_loadName_free S.kind S.cls (by show List.lookup _ [_] = _; simp [List.lookup]) ⟨_, X1 _ _ hcell, rfl⟩ ?_
  refine wpAny_loadName_local S.kind hpar hns hm0 ?_
  refine ks_wpAny_isType_cls hD1 hD2 ⟨rfl, ?_⟩
  have hneC : a ≠ C := by
    rintro rfl
    rw [O.obj] at hD1
    cases hD1
    cases hD2
  obtain ⟨of, hof, hofc⟩ : ∃ of, K.lookup f2 = some of ∧ of.cls = .type "function" := by
    have ht' : (K.lookup f2).map (·.cls) = some (.type "function") := hty
    cases z : K.lookup f2 with
    | none => rw [z] at ht'; cases ht'
    | some of => rw [z] at ht'; exact ⟨of, rfl, Option.some.inj ht'⟩
  unfold PySem.W.ks_superIn at hsup
  rw [hC] at hsup
  obtain ⟨hh, gg, dd, tt, oo⟩ := s1
  refine ks_wpAny_call_super hD1 hD2 O.obj rfl (fun c e => by cases e) (PySem.W.looks_mroIn X1 hself) (fun h' e k => ?_)
  have I2 : Inv (cxS CX P w K mg base N qual scope f cda cc A outer s H E) [] σ H1 ⟨h', gg, dd, tt, oo⟩ := I.kept (t' := tt) k
  have X2 : K.In h' := I2.kIn
  refine ks_wpAny_getMethod_super (l₀ := cdC.mro) e (PySem.W.looks_opaque X2 hopq) (fun A Q E s k q => wpAny_bind ((PySem.W.looks_clsIn X2 hC) A _ E s k (wpAny_pure q))) rfl X2 hsup (X2 _ _ hof) hofc hneC rfl ?_
  have kp : ∀ b u, h'.get? b = some u → (h'.push { cls := .type "method", data := .fields #[.ref f2, .ref a] }).get? b = some u := fun b u z => Heap.get?_push_of_some _ z
  have I3 : Inv (cxS CX P w K mg base N qual scope f cda cc A outer s H E) [] σ H1 ⟨h'.push { cls := .type "method", data := .fields #[.ref f2, .ref a] }, gg, dd, tt + 1, oo⟩ := I2.kept (t' := tt + 1) kp
  have I4 : Inv (cxS CX P w K mg base N qual scope f cda cc A outer s H E) [(h'.objs.size, PySem.W.methodObj (.ref f2) (.ref a))] σ H1 ⟨h'.push { cls := .type "method", data := .fields #[.ref f2, .ref a] }, gg, dd, tt + 1, oo⟩ := by
    refine I3.pins_of fun p hp => ?_
    have hp' : p ∈ [(h'.objs.size, PySem.W.methodObj (.ref f2) (.ref a))] := hp
    rw [List.mem_singleton.mp hp']
    exact ⟨Heap.get?_push_size _ rfl, I2.hok.fresh (Nat.le_refl _), fun z => absurd I2.lt (by rw [← z]; exact Nat.lt_irrefl _), I2.nofs (Nat.le_refl _), fun v z => by cases z⟩
  refine callWith_Mp (g := f2) (self := .ref a) hf2 (thn (hargs.run q5 _ _ σ H1 _ I4 hta) fun us s4 ⟨vs, H2, I5, r, q⟩ => ?_) he hpl
  have hb := (I5.pin (h'.objs.size, PySem.W.methodObj (.ref f2) (.ref a)) (by show _ ∈ [] ++ [_]; simp)).1
  refine ⟨⟨hb, I5.kIn⟩, ?_⟩
  refine wpAny_call (ks_codeAny_call_bound hb ?_)
  have I6 := I5.pins_of (pins' := []) fun p hp => I5.pin p (by
    have hp' : p ∈ ([] : List (Addr × Obj)) := hp
    cases hp')
  refine codeAny_mono (Cl.runS (X := cxS CX P w K mg base N qual scope f cda cc A outer s H E) F2 hr (hx σ) I6 (us := .ref a :: us) (vs := .ref a :: vs) (.cons rfl r) q) fun r s' hq => ?_
  cases r with
  | error er => exact hq
  | ok fl =>
    cases fl with
    | ret v =>
      obtain ⟨v0, H3, I7, _, q3⟩ := hq
      exact wpAt_of_wpAny (hrest.run [] s' σ H3 D I7 q3)
    | _ => exact hq.elim
end
end SupX
/-! ### a def with super().__init__(..): its promise; a def with a star parameter in the data layer; either of two readings -/
namespace SupX
open PySem PySem.Spec PyProof.Rows L2 PySem.Calls
/-- what the top has written of such a def f of the class C, its parent's __init__ f2 -/
structure FunS (P : Program) (K : PySem.W.Frag) (x qual : Str) (params : Arguments) (body : List Stmt) (scope : Scope) (C f f2 : Addr) (fd : FuncData) : Prop where
  ex : ∃ (oc : Value) (od : Option Addr) (kV doc pm : Value) (an : Option Addr) (cda : Addr) (ct : Value) (cc : Addr) (osl : Array (Option Value)),
    fd = PySem.W.ksFn x qual params body scope .none kV doc pm an (.ref cda) ct cc ∧ K.lookup f = some ⟨oc, od, .func fd, osl⟩ ∧ PySem.W.codeIn K (.ref cda) qual = true ∧
    (∃ (ccl : Value) (cdd : Option Addr) (cvv : Array Value) (ccs : Array (Option Value)) (file : Str) (tf : Tok), K.lookup cda = some ⟨ccl, cdd, .fields cvv, ccs⟩ ∧ cvv[2]? = some (.str file tf) ∧ ((P.main.file : Str) == file) = true) ∧
    (∃ (cl : Value) (cld : Option Addr) (csl : Array (Option Value)), K.lookup cc = some ⟨cl, cld, .cell (some (.ref C)), csl⟩)
  cls : ∃ cd, PySem.W.clsIn K C = some cd
  self : PySem.W.mroIn K C (.ref C) = some true
  sup : PySem.W.ks_superIn K C C "__init__" = some (some (.ref f2))
  ty : PySem.W.typeIn K (.ref f2) = some (.type "function")
  fn2 : PySem.W.fnIn K f2 = true
  opq : PySem.W.nsIn K cStatics "thirdparty.any" = some none
  top : (P.main.scope.names.lookup ("super" : Str)).isSome = false
section
variable {CX : CXT} {P : Program} {w : World} {K : PySem.W.Frag} {mg : Str → Option Value} {base : Heap} {N ps ps' : List Str} {x qual : Str} {params : Arguments} {scope : Scope} {f f2 C : Addr} {fd : FuncData} {k : Nat} {sp sp2 : Sp} {ar : Arg}
  {pre rest : List Stmt} {e1 : Expr} {es : List Expr} {q1 q2 q3 q5 q6 : Pos}
/-- the call by super() reads so in every frame -/
def CallsUp (q1 q2 q3 q5 : Pos) (e1 : Expr) (es : List Expr) : Prop := ∀ env : Env, ∃ pl : Sem Bool, eval (.Call (.Attribute (.Call (.Name "super" q1) [] [] q2) "__init__" q3) (e1 :: es) [] q5) env = (do
      let ov ← attributeBase (.Call (.Name "super" q1) [] [] q2) "__init__" env (eval (.Call (.Name "super" q1) [] [] q2) env)
      standAt q3.atName
      let (g, first) ← holding [ov] (getMethod ov "__init__" pl)
      callWith q5 g first (backTo q5 (starEach (e1 :: es) env)) [])
def NoStar (q5 : Pos) (e1 : Expr) (es : List Expr) : Prop := ∀ env : Env, starEach (e1 :: es) env = (false, eval e1 env) :: starEach es env ∧ (backTo q5 (starEach es env)).any (·.1) = false
theorem run_sup {A : Around} {outer : List Env} {s : Shared} {H : Hp} {args : Args} {Q : VK} {E : XK} {G : List V → Hp → Prop} (T : FunS P K x qual params (pre ++ .Expr (.Call (.Attribute (.Call (.Name "super" q1) [] [] q2) "__init__" q3) (e1 :: es) [] q5) q6 :: rest) scope C f f2 fd) (S : ScopeS N ps scope)
    (hps : ps = ar.arg :: ps') (har : (params.posonlyargs ++ params.args).head? = some ar) (hcl : CallsUp q1 q2 q3 q5 e1 es) (hns : NoStar q5 e1 es) (hmg : mg "super" = none) (F2 : FnR P w K mg base CX k f2 sp2)
    (hnone : ∀ (X : Cx) (σ : L2.St), PassesAt CX X σ (fun _ _ _ => False)) (hr : Room (k + 1) A) (e0 : Env0 P w K mg base A outer s H) (hb : StX.Bnd CX P w K mg base fd args ps A outer s H E G)
    (hbody : ∀ (s2 : Shared) (H2 : Hp) (vs : List V) (cda cc : Addr), G vs H2 → Room k (A.deeper (envS qual scope s2.heap.objs.size f cda cc)) →
      ∃ tp ta tr m, PSs (cxS CX P w K mg base N qual scope f cda cc A outer s2 H2 E) pre tp ∧ PA (cxS CX P w K mg base N qual scope f cda cc A outer s2 H2 E) (e1 :: es) ta ∧ PSs (cxS CX P w K mg base N qual scope f cda cc A outer s2 H2 E) rest tr ∧
        tSeq tp (tSeq (tDrop (Cl.tM C m sp2 (fun _ _ _ _ => False) (tVar 0) ta)) tr) { nx := fun _ H' => Q .non H', rt := Q } (L2.start N vs) H2) : codeAny (model P w) A (.call (.ref f) args) (CR CX outer P w H s Q E) s := by
  obtain ⟨oc, od, kV, doc, pm, an, cda, ct, cc, osl, rfl, lk, hcd, ⟨ccl, cdd, cvv, ccs, file, tf, hcode, hvs, hfile⟩, ⟨cl, cld, csl, hcell⟩⟩ := T.ex
  obtain ⟨cdC, hC⟩ := T.cls
  have KX : K.In s.heap := e0.mod.kin.keeps fun b o e => (e0.bs b o e).1
  refine codeAny_call_function hr.depth (KX _ _ lk) rfl S.co S.gen rfl (PySem.W.codeRec_of KX hcd) ?_
  refine hb _ _ _ fun s2 H2 vs us e2 un ho hx r hl g => ?_
  have lim : s2.heap.NoLimit := e0.mod.nolimit.keeps fun b o e => (e2.bs b o e).1
  have hloc : ∀ y ∈ ps.zip us, scope.names.lookup y.1 = some .local := fun ⟨n, v⟩ hy => S.par n (List.of_mem_zip hy).1
  refine wpAny_newFunctionEnv (fun y hy => (S.free y hy).2) hloc (fun h₀ hns₀ hsb₀ => ⟨lim.fresh _ hsb₀, ks_codeAny_funcAt ?_⟩) S.kind
  have hk : ∀ b o, s2.heap.get? b = some o → h₀.get? b = some o := fun b o e => hsb₀.extBut b o (Nat.ne_of_lt (Heap.lt_size e)) (Heap.get?_push_of_some _ e)
  have I0 : Inv (cxS CX P w K mg base N qual scope f cda cc A outer s2 H2 E) [] (L2.start N vs) H2 { s2 with heap := h₀, toks := s2.toks + (ps.zip us).length } := inv_sup S hr.hd e2 hl r hcell hns₀ hk
  obtain ⟨tp, ta, tr, m, h1, h2, h3, h4⟩ := hbody s2 H2 vs cda cc g (hr.deeper _)
  have fin : ∀ {σ' : L2.St} {H' : Hp} {v' : V} {u' : Value} {s' : Shared}, Inv (cxS CX P w K mg base N qual scope f cda cc A outer s2 H2 E) [] σ' H' s' → RelV v' u' → Q v' H' → CE outer P w H s Q u' s' :=
    fun {σ' H' v' u' s'} J rv' q => ⟨v', H', J.os.trans ho, J.bare, un.trans J.base, J.hok, rv', q⟩
  show PySem.wpAt _ _ (.func _ (envS qual scope s2.heap.objs.size f cda cc)) (execs _ (envS qual scope s2.heap.objs.size f cda cc)) _ _ _
  refine PySem.wpAt_mono (Q := SP (cxS CX P w K mg base N qual scope f cda cc A outer s2 H2 E) [] { nx := fun _ H' => Q .non H', rt := Q }) (E := (cxS CX P w K mg base N qual scope f cda cc A outer s2 H2 E).xe) ?_ (fun fl s' hs => ?_) (fun e s' hs => ?_)
  · refine wpAt_app (wpAny_mono (h1.run [] _ (L2.start N vs) H2 _ I0 h4) (fun fl s1 hs => ?_) fun _ _ z => z)
    cases fl with
    | ret u => exact hs
    | brk => obtain ⟨_, _, _, q⟩ := hs; exact False.elim q
    | cont => obtain ⟨_, _, _, q⟩ := hs; exact False.elim q
    | next =>
      obtain ⟨σ1, H1, I1, a0, ea, a, dx, fs, rfl, hx1, _, hta⟩ := hs
      obtain ⟨pl, hcall⟩ := hcl (envS qual scope s2.heap.objs.size f cda cc)
      obtain ⟨n1, n2⟩ := hns (envS qual scope s2.heap.objs.size f cda cc)
      exact sup_run (pl := pl) (q2 := q2) (W := fun _ _ _ _ => False) lk S hps har hcode hvs hfile hcell hC T.self T.sup T.ty T.fn2 T.opq T.top hmg F2 (hr.deeper _) (hnone _) h2 h3 I1 ⟨a, dx, fs, ea, hx1, hta⟩ hcall n1 n2
  · cases fl with
    | ret u' =>
      obtain ⟨v', σ', H', J, rv', q⟩ := hs
      exact fin J rv' q
    | next =>
      obtain ⟨σ', H', J, q⟩ := hs
      exact fin (v' := V.non) (u' := Value.none) J rfl q
    | brk =>
      obtain ⟨_, _, _, q⟩ := hs
      exact False.elim q
    | cont =>
      obtain ⟨_, _, _, q⟩ := hs
      exact False.elim q
  · exact wpAny_mono hs (fun _ s'' z => hx e s'' z) fun e' s'' z => hx e' s'' z
theorem bnd_of {A : Around} {outer : List Env} {s : Shared} {H : Hp} {args : Args} {E : XK} {G : List V → Hp → Prop} {us : List Value} {vs : List V} (hb : BindsTo s fd args (ps.zip us)) (e0 : Env0 P w K mg base A outer s H) (r : Vals vs us) (hl : vs.length = ps.length) (g : G vs H) : StX.Bnd CX P w K mg base fd args ps A outer s H E G :=
  fun A' Ex Q' h => hb _ _ _ _ (h s H vs us e0 Un.refl rfl (fun _ _ z => z) r hl g)
theorem ok_sup (T : FunS P K x qual params (pre ++ .Expr (.Call (.Attribute (.Call (.Name "super" q1) [] [] q2) "__init__" q3) (e1 :: es) [] q5) q6 :: rest) scope C f f2 fd) (S : ScopeS N ps scope)
    (hps : ps = ar.arg :: ps') (har : (params.posonlyargs ++ params.args).head? = some ar) (hcl : CallsUp q1 q2 q3 q5 e1 es) (hns : NoStar q5 e1 es) (hmg : mg "super" = none) (F2 : FnR P w K mg base CX k f2 sp2)
    (hnone : ∀ (X : Cx) (σ : L2.St), PassesAt CX X σ (fun _ _ _ => False)) (len : ∀ vs H Q E, sp vs H Q E → vs.length = ps.length)
    (hbody : ∀ (A : Around) (outer : List Env) (s : Shared) (H : Hp) (vs : List V) (Q : VK) (E : XK) (cda cc : Addr), Room k (A.deeper (envS qual scope s.heap.objs.size f cda cc)) → sp vs H Q E →
      ∃ tp ta tr m, PSs (cxS CX P w K mg base N qual scope f cda cc A outer s H E) pre tp ∧ PA (cxS CX P w K mg base N qual scope f cda cc A outer s H E) (e1 :: es) ta ∧ PSs (cxS CX P w K mg base N qual scope f cda cc A outer s H E) rest tr ∧
        tSeq tp (tSeq (tDrop (Cl.tM C m sp2 (fun _ _ _ _ => False) (tVar 0) ta)) tr) { nx := fun _ H' => Q .non H', rt := Q } (L2.start N vs) H) : FnOk P w K mg base CX (k + 1) f fd ps sp :=
  ⟨len, fun A outer s H args us vs Q E hr e0 hb r hsp => run_sup (G := fun vs' H' => vs' = vs ∧ H' = H) T S hps har hcl hns hmg F2 hnone hr e0 (bnd_of hb e0 r (len _ _ _ _ hsp) ⟨rfl, rfl⟩) fun s2 H2 vs' cda cc g hr' => by
    obtain ⟨rfl, rfl⟩ := g
    exact hbody A outer s2 H2 vs' Q E cda cc hr' hsp⟩
theorem fn_supstar {pv : Str} (T : FunS P K x qual params (pre ++ .Expr (.Call (.Attribute (.Call (.Name "super" q1) [] [] q2) "__init__" q3) (e1 :: es) [] q5) q6 :: rest) scope C f f2 fd) (S : ScopeS N (ps ++ [pv]) scope)
    (hps : ps ++ [pv] = ar.arg :: ps') (har : (params.posonlyargs ++ params.args).head? = some ar) (hcl : CallsUp q1 q2 q3 q5 e1 es) (hns : NoStar q5 e1 es) (hmg : mg "super" = none) (F2 : FnR P w K mg base CX k f2 sp2)
    (hnone : ∀ (X : Cx) (σ : L2.St), PassesAt CX X σ (fun _ _ _ => False)) (hCX : StX.CXUp CX)
    (hb : ∀ us rest : List Value, us.length = ps.length → bindArgs fd ⟨us ++ rest, []⟩ = (newTuple rest >>= fun t => pure (ps.zip us ++ [(pv, t)])))
    (hbody : ∀ (A : Around) (outer : List Env) (s : Shared) (H : Hp) (vs : List V) (Q : VK) (E : XK) (cda cc : Addr), Room k (A.deeper (envS qual scope s.heap.objs.size f cda cc)) → sp vs H Q E →
      ∃ tp ta tr m, PSs (cxS CX P w K mg base N qual scope f cda cc A outer s H E) pre tp ∧ PA (cxS CX P w K mg base N qual scope f cda cc A outer s H E) (e1 :: es) ta ∧ PSs (cxS CX P w K mg base N qual scope f cda cc A outer s H E) rest tr ∧
        tSeq tp (tSeq (tDrop (Cl.tM C m sp2 (fun _ _ _ _ => False) (tVar 0) ta)) tr) { nx := fun _ H' => Q .non H', rt := Q } (L2.start N vs) H) :
    FnR P w K mg base CX (k + 1) f (fun vs H Q E => ∃ ws rest, vs = ws ++ rest ∧ ws.length = ps.length ∧ rest.length ≤ sizeLine ∧ ∀ p, H p = Option.none → sp (ws ++ [V.ref p]) (upd H p (.tup rest)) Q E) := by
  intro A outer s H us vs Q E hr e0 r hsp
  obtain ⟨ws, rest, ev, hl, hz, hq⟩ := hsp
  subst ev
  obtain ⟨u1, u2, eu, r1, r2⟩ := StX.vals_split r
  subst eu
  have hn : H s.heap.objs.size = Option.none := e0.hok.fresh (Nat.le_refl _)
  have hl1 : u1.length = ps.length := by rw [← r1.length]; exact hl
  have hl2 : u2.length ≤ sizeLine := by rw [← r2.length]; exact hz
  refine run_sup (G := fun xs H2 => ∃ p, H p = Option.none ∧ xs = ws ++ [V.ref p] ∧ H2 = upd H p (.tup rest)) T S hps har hcl hns hmg F2 hnone hr e0 (fun A' Ex Q' h => ?_) fun s2 H2 xs cda cc ⟨p, hp, ex, eH⟩ hr' => ?_
  · rw [hb u1 u2 hl1]
    refine wpAny_bind (wpAny_newTuple (wpAny_pure ?_) hl2)
    have new : ObjOk P w (upd H s.heap.objs.size (.tup rest)) (s.heap.push ({ cls := .type "tuple", data := .seq u2.toArray } : Obj)) s.heap.objs.size (.tup rest) := ⟨hz, u2, r2, ⟨_, Heap.get?_push_size _ rfl, rfl, _, rfl⟩⟩
    have un := StX.un_laid (fs := frs outer) (s := s) (o := ({ cls := .type "tuple", data := .seq u2.toArray } : Obj)) (u := .tup rest) hn
    have z := h _ _ (ws ++ [V.ref s.heap.objs.size]) (u1 ++ [Value.ref s.heap.objs.size]) (StX.env0_laid e0 new) un rfl (fun e s' => hCX outer s H _ _ E e s' un (fun b o q => Heap.get?_push_of_some _ q) rfl) (r1.append (.cons rfl .nil))
      (by rw [List.length_append, List.length_append, hl] <;> rfl) ⟨_, hn, rfl, rfl⟩
    rw [List.zip_append hl1.symm] at z
    exact z
  · subst ex eH
    exact hbody A outer s2 _ _ Q E cda cc hr' (hq p hp)
end
theorem sup_mk {P : Program} {K : PySem.W.Frag} {c qual : Str} {f2 : Addr} {st : Stmt} (h : supB P K c qual f2 = true) (e : Hd.fnE K (c, some "__init__") = (Hd.ErD.mk c qual st).val) (top : (P.main.scope.names.lookup ("super" : Str)).isSome = false) :
    ∃ fd, FunS P K "__init__" qual (defArgs st) (defBody st) (defScope st) (He.ga K c) (He.ma K (He.ga K c) "__init__") f2 fd := by
  unfold supB at h
  obtain ⟨h1, h⟩ := He.ba h
  obtain ⟨h2, h⟩ := He.ba h
  obtain ⟨h3, h⟩ := He.ba h
  obtain ⟨h4, h⟩ := He.ba h
  obtain ⟨h5, h⟩ := He.ba h
  obtain ⟨h6, h16⟩ := He.ba h
  unfold Hd.initB at h16
  have e2 : Hd.fnE K (c, some "__init__") = (match K.lookup (He.ma K (He.ga K c) "__init__") with
    | some ⟨_, _, .func fd, _⟩ => some (fd.name, fd.qualname, fd.params, fd.body, fd.scope, fd.globals, fd.closure.map (·.1), fd.builtins)
    | _ => none) := rfl
  rw [e2] at e
  cases q : K.lookup (He.ma K (He.ga K c) "__init__") with
  | none =>
    rw [q] at h16
    cases h16
  | some o =>
    obtain ⟨oc, od, dt, osl⟩ := o
    rw [q] at h16 e
    cases dt with
    | func fd =>
      obtain ⟨n1, n2, n3, n4, n5, n6, n7, n8, n9, n10, n11, n12, n13, n14, n15⟩ := fd
      have e3 : (some (n1, n2, n3, n4, n5, n6, n7.map (·.1), n15) : Hd.FnE) = (some (("__init__" : Str), qual, defArgs st, FuncBody.stmts (defBody st), defScope st, mainGlobals, [("__class__" : Str)], builtinsNs) : Hd.FnE) := e
      simp only [Option.some.injEq, Prod.mk.injEq] at e3
      obtain ⟨e1, e2, e3, e4, e5, e6, e7, e8⟩ := e3
      subst e1 e2 e3 e4 e5 e6 e8
      dsimp only at h16
      split at h16
      · rename_i cda nn cc
        obtain ⟨k1, k2⟩ := He.ba h16
        obtain ⟨k2, k3⟩ := He.ba k2
        have en : nn = ("__class__" : Str) := by simpa using e7
        subst en
        refine ⟨_, ⟨oc, od, n9, n10, n11, n12, cda, n14, cc, osl, rfl, q, k1, ?_, ?_⟩, Option.isSome_iff_exists.mp h1, of_decide_eq_true h2, He.eqO_ok h3, of_decide_eq_true h4, h5, of_decide_eq_true h6, top⟩
        · split at k2
          · rename_i ccl cdd vs ccs hc
            split at k2
            · rename_i file tf hv
              exact ⟨ccl, cdd, vs, ccs, file, tf, hc, hv, k2⟩
            · cases k2
          · cases k2
        · split at k3
          · rename_i cl cld C' csl hc
            have ec : C' = He.ga K c := by simpa using k3
            subst ec
            exact ⟨cl, cld, csl, hc⟩
          · cases k3
      · cases h16
    | _ => cases h16
end SupX
namespace SupX
open PySem PySem.Spec PyProof.Rows L2 PySem.Calls
theorem FunS.bindsN {P : Program} {K : PySem.W.Frag} {x qual : Str} {params : Arguments} {body : List Stmt} {scope : Scope} {C f f2 : Addr} {fd : FuncData} {ps : List Str} (T : FunS P K x qual params body scope C f f2 fd)
    (h : ∀ (kV doc pm : Value) (an : Option Addr) (cdv ct : Value) (cc : Addr) (us : List Value), us.length = ps.length → bindArgs (PySem.W.ksFn x qual params body scope .none kV doc pm an cdv ct cc) ⟨us, []⟩ = pure (ps.zip us)) : Binds K fd ps [] := by
  obtain ⟨oc, od, kV, doc, pm, an, cda, ct, cc, osl, rfl, _⟩ := T.ex
  exact .all (h kV doc pm an _ ct cc)
end SupX
/-! ### the data layer: a star parameter, super().__init__, either of two readings -/
namespace Dl
open PySem PySem.Spec PyProof.Rows L2
section
variable {K : PySem.W.Frag} {W : WS} {F H : Hp} {P : Program} {w : World} {mg : Str → Option Value} {base : Heap} {x qual : Str} {params : Arguments} {body : List Stmt} {scope : Scope} {kws : List (Str × V)} {f : Addr} {fd : FuncData}
theorem slots_sh : ∀ {vs : List V} {ds : List D}, RepL K F vs ds → Slots K F H (vs.map some) (ds.map Sl.sh) []
  | _, _, .nil => .nil
  | _, _, .cons r t => .cons (f := []) (.sh r) (slots_sh t)
theorem rel_star {p : Addr} {o : HO} {ws rest : List V} {rd : List D} {as as' δ : List Sl} {τ : L2.St} {f1 fp : List Addr} {H' : Hp} {n : Nat} (hF : F p = none) (hp : H p = none) (sub : ∀ a ∈ f1, a ∈ fp) (hw : ws.length = n) (ha : as'.length = n + 1) (rr : RepL K F rest rd) (ed : as.drop n = rd.map Sl.sh)
    (h : Rel K ⟨upd H p o, upd F p o, f1⟩ H' ((ws ++ [V.ref p]).map some) as' τ δ) : Rel K ⟨H, F, fp⟩ H' ((ws ++ rest).map some) (as'.take n ++ as.drop n) τ δ := by
  obtain ⟨F2, g1, g2, gg, ht, hs⟩ := h
  have e1 : as' = as'.take n ++ as'.drop n := (List.take_append_drop n as').symm
  rw [e1, List.map_append] at hs
  obtain ⟨ga, gb, rfl, s1, s2⟩ := Slots.split (by rw [List.length_map, List.length_take, hw]; omega) hs
  have ne : ∀ {a u}, H a = some u → a ≠ p := fun e z => by rw [z, hp] at e; cases e
  have le : Le F (upd F p o) := le_new hF
  have l2 : Le F F2 := le.trans gg.f0
  refine ⟨F2, g1, ga ++ [], ⟨gg.sub, l2, fun a e => ?_, fun a u e hn => ?_, fun a e => ?_, fun a ha => ?_, fun a ha => ?_, ?_⟩, ht, ?_⟩
  · rcases gg.fN a e with z | z | z
    · by_cases q : a = p
      · exact .inr (.inl (by rw [q]; exact hp))
      · refine .inl ?_
        have z' : upd F p o a ≠ none := z
        rwa [upd_ne q] at z'
    · refine .inr (.inl ?_)
      have z' : upd H p o a = none := z
      have q : a ≠ p := fun q => by rw [q, upd_same] at z'; cases z'
      rwa [upd_ne q] at z'
    · exact .inr (.inr (sub a z))
  · exact gg.frm a u (by show upd H p o a = _; rw [upd_ne (ne e)]; exact e) fun z => hn (sub a z)
  · refine gg.all a ?_
    show upd H p o a ≠ none
    cases q : H a with
    | none => exact absurd q e
    | some u => rw [upd_ne (ne q), q]; intro z; cases z
  · rw [List.append_nil] at ha
    rcases gg.own a (by rw [← List.append_assoc]; exact List.mem_append_left _ ha) with z | z
    · exact .inl (sub a z)
    · refine .inr ?_
      have z' : upd H p o a = none := z
      have q : a ≠ p := fun q => by rw [q, upd_same] at z'; cases z'
      rwa [upd_ne q] at z'
  · rw [List.append_nil] at ha
    exact gg.nf a (by rw [← List.append_assoc]; exact List.mem_append_left _ ha)
  · rw [List.append_nil]
    have := gg.nd
    rw [← List.append_assoc] at this
    exact (List.nodup_append.mp this).1
  · rw [List.map_append, ed]
    exact s1.app (slots_sh (rr.mono l2))
theorem star_sp {ds : M Sl} {n : Nat} {vs : List V} {Q : VK} {E : XK} (hl : ∀ as Q E, ds.wp as Q E → as.length = n + 1) (hk : ∀ as Q E, ds.wp as Q E → ds.wp as (fun r as' => as'.length = as.length ∧ Q r as') (fun er as' => as'.length = as.length ∧ E er as')) (h : spOf K (packM n ds) vs H Q E) :
    ∃ ws rest, vs = ws ++ rest ∧ ws.length = n ∧ rest.length ≤ sizeLine ∧ ∀ p, H p = none → spOf K ds (ws ++ [V.ref p]) (upd H p (.tup rest)) Q E := by
  obtain ⟨F, as, fp, h1, h2, h3, h4, h5⟩ := h
  unfold packM at h5
  simp only at h5
  split at h5
  · rename_i rd er
    obtain ⟨hn, hr, w⟩ := h5
    have ed := allSh_go er
    have la : vs.length = as.length := by have := h2.len; rwa [List.length_map] at this
    have ea : as.take n ++ as.drop n = as := List.take_append_drop n as
    have ev : vs.take n ++ vs.drop n = vs := List.take_append_drop n vs
    have h2' : Slots K F H ((vs.take n).map some ++ (vs.drop n).map some) (as.take n ++ rd.map Sl.sh) fp := by
      rw [← List.map_append, ev, ← ed, ea]; exact h2
    obtain ⟨f1, f2, rfl, s1, s2⟩ := Slots.split (by rw [List.length_map, List.length_take, List.length_take, la]) h2'
    have lr : (vs.drop n).length = rd.length := by
      have := congrArg List.length ed
      rw [List.length_map, List.length_drop] at this
      rw [List.length_drop, la]; exact this
    obtain ⟨rr, _⟩ := Slots.shs (τ := []) (δ := []) lr (by simpa using s2)
    have hw : (vs.take n).length = n := by rw [List.length_take]; omega
    refine ⟨vs.take n, vs.drop n, ev.symm, hw, by rw [lr]; exact hr, fun p hp => ?_⟩
    have hF : F p = none := by
      cases q : F p with
      | none => rfl
      | some u => have := h1 p u q; rw [hp] at this; cases this
    have hne : ∀ a ∈ f1, a ≠ p := fun a ha z => s1.here a ha (by rw [z]; exact hp)
    have le : Le F (upd F p (.tup (vs.drop n))) := le_new hF
    refine ⟨upd F p (.tup (vs.drop n)), as.take n ++ [.sh (.tup rd)], f1, fun a u e => ?_, ?_, (List.nodup_append.mp h3).1, fun a ha => ?_, ?_⟩
    · by_cases q : a = p
      · subst q; rw [upd_same] at e ⊢; exact e
      · rw [upd_ne q] at e ⊢; exact h1 a u e
    · rw [List.map_append]
      have s1' := s1.mono (H' := upd H p (.tup (vs.drop n))) le fun a ha => upd_ne (hne a ha)
      have one : Slots K (upd F p (.tup (vs.drop n))) (upd H p (.tup (vs.drop n))) [some (V.ref p)] [.sh (.tup rd)] [] := .cons (f := []) (.sh (.tup (SqT.of upd_same) (rr.mono le))) .nil
      have := s1'.app one
      rwa [List.append_nil] at this
    · rw [upd_ne (hne a ha)]; exact h4 a (List.mem_append_left _ ha)
    · have ln : (as.take n ++ [Sl.sh (.tup rd)]).length = n + 1 := by rw [List.length_append, List.length_take]; simp; omega
      refine ds.mono (fun r as' z v H' hr => ?_) (fun er as' z v H' hr => ?_) (hk _ _ _ w)
      · have q := rel_star (as := as) (rest := vs.drop n) (fp := f1 ++ f2) hF hp (fun a ha => List.mem_append_left _ ha) hw (z.1.trans ln) rr ed hr
        rw [ev] at q
        exact z.2 v H' q
      · have q := rel_star (as := as) (rest := vs.drop n) (fp := f1 ++ f2) hF hp (fun a ha => List.mem_append_left _ ha) hw (z.1.trans ln) rr ed hr
        rw [ev] at q
        exact z.2 v H' q
  · exact h5.elim
theorem keepP_len : ∀ {as : List Sl} {ρ : Env} {k : List Sl → Prop}, keepP as ρ k → keepP as ρ fun l => l.length = as.length ∧ k l
  | [], _, _, w => ⟨rfl, w⟩
  | a :: as, ρ, k, w => by
    unfold keepP at w ⊢
    split at w
    · cases ‹a :: as = []›
    · rename_i d as' s ρ' e
      cases e
      exact keepP_mono (as := as) (fun l z => ⟨by show l.length + 1 = as.length + 1; rw [z.1], z.2⟩) (keepP_len w)
    · rename_i v z d as' v' z' d' ρ' e
      cases e
      exact ⟨w.1, keepP_mono (as := as) (fun l z => ⟨by show l.length + 1 = as.length + 1; rw [z.1], z.2⟩) (keepP_len w.2)⟩
    · rename_i v as' v' ρ' e
      cases e
      exact ⟨w.1, keepP_mono (as := as) (fun l z => ⟨by show l.length + 1 = as.length + 1; rw [z.1], z.2⟩) (keepP_len w.2)⟩
    · exact w.elim
theorem defM_keep {n N : Nat} {m : MS} : ∀ as Q E, (defM n N m).wp as Q E → (defM n N m).wp as (fun r as' => as'.length = as.length ∧ Q r as') (fun er as' => as'.length = as.length ∧ E er as') := fun as Q E w => by
  obtain ⟨hn, w'⟩ := defM_go w
  have e : Nat.beq as.length n = true := by rw [hn]; exact Nat.beq_refl n
  unfold defM
  show (match Nat.beq as.length n with
    | true => m.wp (as ++ List.replicate (N - n) .un) (mends as _ _)
    | false => False)
  rw [e]
  exact m.mono (M := mends as Q E) (M' := mends as (fun r as' => as'.length = as.length ∧ Q r as') (fun er as' => as'.length = as.length ∧ E er as')) ⟨fun r z => keepP_len z, fun s r z => keepP_len z, fun _ z => z, fun _ z => z, fun e r z => keepP_len z⟩ w'
/-- a def with a star parameter -/
theorem okStarD {ds : M Sl} {N ps : List Str} {pv : Str} {k : Nat} {m : MS} (T : FunD K x qual params body scope [] kws f fd) (S : FnScope N (ps ++ [pv]) scope) (hl : ∀ as Q E, ds.wp as Q E → as.length = ps.length + 1) (hm : ∀ as Q E, ds.wp as Q E → (defM (ps.length + 1) N.length m).wp as Q E) (hk : ∀ as Q E, ds.wp as Q E → ds.wp as (fun r as' => as'.length = as.length ∧ Q r as') (fun er as' => as'.length = as.length ∧ E er as'))
    (hb : ∀ (kV doc pm : Value) (an : Option Addr) (cdv ct : Value) (us rest : List Value), us.length = ps.length → bindArgs (PySem.W.fnOf x qual params body scope .none kV doc pm an cdv ct) ⟨us ++ rest, []⟩ = (newTuple rest >>= fun t => pure (ps.zip us ++ [(pv, t)])))
    (hbody : ∀ (cdv : Value) (A : Around) (outer : List PySem.Env) (s : Shared) (H : Hp) (E : XK), Room k (A.deeper (envOfC qual scope s.heap.objs.size f cdv)) → ∃ t, PSs (cxOf (L2.CX P w) P w K mg base N qual scope f cdv A outer s H E) body t ∧ SOk K (fun _ => E) t m) :
    FnR P w K mg base (L2.CX P w) (k + 1) f (spOf K (packM ps.length ds)) :=
  (Cl.okStar T S StX.cxUp hb fun cdv A outer s H vs Q E hr h => by
    obtain ⟨t, h1, h2⟩ := hbody cdv A outer s H E hr
    exact ⟨t, h1, body_ok (ps := ps ++ [pv]) (by rw [List.length_append]; exact hm) h h2⟩).imp fun vs H Q E h => star_sp hl hk h
/-- nothing is raised -/
def mNo (m : ME) : ME := ⟨fun ρ Q _ => m.wp ρ Q (fun _ _ => False), fun h _ w => m.mono h (fun _ _ z => z) w⟩
theorem eNo {t : TE} {m : ME} (h : EOk K (fun _ _ _ _ => False) t m) : EOk K W t (mNo m) := fun G H σ ρ τ δ Q hr w => h G H σ ρ τ δ Q hr (m.mono (fun _ _ z => z) (fun _ _ z => z.elim) w)
/-- a def that says super().__init__(e, ..) -/
theorem okSupD {ds : M Sl} {N ps ps' : List Str} {k : Nat} {m : MS} {C f2 : Addr} {ar : Arg} {pre rest : List Stmt} {e1 : Expr} {es : List Expr} {q1 q2 q3 q5 q6 : Pos} {sp2 : Sp}
    (T : SupX.FunS P K x qual params (pre ++ .Expr (.Call (.Attribute (.Call (.Name "super" q1) [] [] q2) "__init__" q3) (e1 :: es) [] q5) q6 :: rest) scope C f f2 fd) (S : SupX.ScopeS N ps scope)
    (hps : ps = ar.arg :: ps') (har : (params.posonlyargs ++ params.args).head? = some ar) (hcl : SupX.CallsUp q1 q2 q3 q5 e1 es) (hns : SupX.NoStar q5 e1 es) (hmg : mg "super" = none) (F2 : FnR P w K mg base (L2.CX P w) k f2 sp2)
    (hl : ∀ as Q E, ds.wp as Q E → as.length = ps.length) (hm : ∀ as Q E, ds.wp as Q E → (defM ps.length N.length m).wp as Q E)
    (hbody : ∀ (cda cc : Addr) (A : Around) (outer : List PySem.Env) (s : Shared) (H : Hp) (E : XK), Room k (A.deeper (SupX.envS qual scope s.heap.objs.size f cda cc)) →
      ∃ tp ta tr, PSs (SupX.cxS (L2.CX P w) P w K mg base N qual scope f cda cc A outer s H E) pre tp ∧ PA (SupX.cxS (L2.CX P w) P w K mg base N qual scope f cda cc A outer s H E) (e1 :: es) ta ∧ PSs (SupX.cxS (L2.CX P w) P w K mg base N qual scope f cda cc A outer s H E) rest tr ∧
        SOk K (fun _ => E) (tSeq tp (tSeq (tDrop (Cl.tM C "__init__" sp2 (fun _ _ _ _ => False) (tVar 0) ta)) tr)) m) :
    FnOk P w K mg base (L2.CX P w) (k + 1) f fd ps (spOf K ds) :=
  SupX.ok_sup T S hps har hcl hns hmg F2 (fun X σ => Cl.none_ σ) (spOf_len hl) fun A outer s H vs Q E cda cc hr h => by
    obtain ⟨tp, ta, tr, h1, h2, h3, h4⟩ := hbody cda cc A outer s H E hr
    exact ⟨tp, ta, tr, "__init__", h1, h2, h3, body_ok hm h h4⟩
theorem okSupStarD {ds : M Sl} {N ps ps' : List Str} {pv : Str} {k : Nat} {m : MS} {C f2 : Addr} {ar : Arg} {pre rest : List Stmt} {e1 : Expr} {es : List Expr} {q1 q2 q3 q5 q6 : Pos} {sp2 : Sp}
    (T : SupX.FunS P K x qual params (pre ++ .Expr (.Call (.Attribute (.Call (.Name "super" q1) [] [] q2) "__init__" q3) (e1 :: es) [] q5) q6 :: rest) scope C f f2 fd) (S : SupX.ScopeS N (ps ++ [pv]) scope)
    (hps : ps ++ [pv] = ar.arg :: ps') (har : (params.posonlyargs ++ params.args).head? = some ar) (hcl : SupX.CallsUp q1 q2 q3 q5 e1 es) (hns : SupX.NoStar q5 e1 es) (hmg : mg "super" = none) (F2 : FnR P w K mg base (L2.CX P w) k f2 sp2)
    (hl : ∀ as Q E, ds.wp as Q E → as.length = ps.length + 1) (hm : ∀ as Q E, ds.wp as Q E → (defM (ps.length + 1) N.length m).wp as Q E) (hk : ∀ as Q E, ds.wp as Q E → ds.wp as (fun r as' => as'.length = as.length ∧ Q r as') (fun er as' => as'.length = as.length ∧ E er as'))
    (hb : ∀ (kV doc pm : Value) (an : Option Addr) (cdv ct : Value) (cc : Addr) (us rest' : List Value), us.length = ps.length → bindArgs (PySem.W.ksFn x qual params (pre ++ .Expr (.Call (.Attribute (.Call (.Name "super" q1) [] [] q2) "__init__" q3) (e1 :: es) [] q5) q6 :: rest) scope .none kV doc pm an cdv ct cc) ⟨us ++ rest', []⟩ = (newTuple rest' >>= fun t => pure (ps.zip us ++ [(pv, t)])))
    (hbody : ∀ (cda cc : Addr) (A : Around) (outer : List PySem.Env) (s : Shared) (H : Hp) (E : XK), Room k (A.deeper (SupX.envS qual scope s.heap.objs.size f cda cc)) →
      ∃ tp ta tr, PSs (SupX.cxS (L2.CX P w) P w K mg base N qual scope f cda cc A outer s H E) pre tp ∧ PA (SupX.cxS (L2.CX P w) P w K mg base N qual scope f cda cc A outer s H E) (e1 :: es) ta ∧ PSs (SupX.cxS (L2.CX P w) P w K mg base N qual scope f cda cc A outer s H E) rest tr ∧
        SOk K (fun _ => E) (tSeq tp (tSeq (tDrop (Cl.tM C "__init__" sp2 (fun _ _ _ _ => False) (tVar 0) ta)) tr)) m) :
    FnR P w K mg base (L2.CX P w) (k + 1) f (spOf K (packM ps.length ds)) := by
  have hb' : ∀ us rest' : List Value, us.length = ps.length → bindArgs fd ⟨us ++ rest', []⟩ = (newTuple rest' >>= fun t => pure (ps.zip us ++ [(pv, t)])) := by
    obtain ⟨oc, od, kV, doc, pm, an, cda, ct, cc, osl, rfl, _⟩ := T.ex
    exact hb _ _ _ _ _ _ _
  exact (SupX.fn_supstar T S hps har hcl hns hmg F2 (fun X σ => Cl.none_ σ) StX.cxUp hb' fun A outer s H vs Q E cda cc hr h => by
    obtain ⟨tp, ta, tr, h1, h2, h3, h4⟩ := hbody cda cc A outer s H E hr
    exact ⟨tp, ta, tr, "__init__", h1, h2, h3, body_ok (ps := ps ++ [pv]) (by rw [List.length_append]; exact hm) h h4⟩).imp fun vs H Q E h => star_sp hl hk h
/-! ### either of two readings -/
def tAlt (t u : TE) : TE := fun σ H Q => t σ H Q ∨ u σ H Q
theorem pe_alt {X : Cx} {e : Expr} {t u : TE} (h1 : PE X e t) (h2 : PE X e u) : PE X e (tAlt t u) := ⟨fun pins s σ H Q I h => h.elim (h1.run pins s σ H Q I) (h2.run pins s σ H Q I)⟩
def mAlt (a b : ME) : ME := ⟨fun ρ Q E => a.wp ρ Q E ∨ b.wp ρ Q E, fun h h' w => w.imp (a.mono h h') (b.mono h h')⟩
theorem eAlt2 {t u : TE} {a b : ME} (h1 : EOk K W t a) (h2 : EOk K W u b) : EOk K W (tAlt t u) (mAlt a b) := fun G H σ ρ τ δ Q hr w => w.imp (h1 G H σ ρ τ δ Q hr) (h2 G H σ ρ τ δ Q hr)
theorem eAlt {t : TE} {a b : ME} (h1 : EOk K W t a) (h2 : EOk K W t b) : EOk K W t (mAlt a b) := fun G H σ ρ τ δ Q hr w => w.elim (h1 G H σ ρ τ δ Q hr) (h2 G H σ ρ τ δ Q hr)
def sAlt (a b : MS) : MS := ⟨fun ρ M => a.wp ρ M ∨ b.wp ρ M, fun h w => w.imp (a.mono h) (b.mono h)⟩
theorem zAlt {t : TS} {a b : MS} (h1 : SOk K W t a) (h2 : SOk K W t b) : SOk K W t (sAlt a b) := fun G H σ ρ τ δ D M hr i w => w.elim (h1 G H σ ρ τ δ D M hr i) (h2 G H σ ρ τ δ D M hr i)
end
end Dl
namespace Hd
open PySem PySem.Spec PyProof.Rows L2
theorem inhB_ok {K : PySem.W.Frag} {C : Addr} {m : Str} {f : Addr} (h : inhB K C m f = true) : Meth K C m f := ⟨of_decide_eq_true (He.ba h).1, (He.ba (He.ba h).2).1, (He.ba (He.ba h).2).2⟩
end Hd
/-! ### a & b of two own classes, one perhaps below the other, no reflected method -/
namespace AndX
open PySem PySem.Spec PyProof.Rows L2 PySem.Calls
section
variable {α : Type} {prog : Program} {w : World} {A : Around} {E : Value → Shared → Prop} {s : Shared} {K : PySem.W.Frag}
theorem raise_str {msg : Str} {Q : α → Shared → Prop} (hh : A.handled = none) (hm : msg.length ≤ sizeLine)
    (h : ∀ h' tk e u, (∀ b ob, s.heap.get? b = some ob → h'.get? b = some ob) → h'.get? e = some { cls := .type "AttributeError", data := .fields u } → E (.ref e) { s with heap := h', toks := tk }) :
    wpAny (model prog w) A (raiseErrorStr "AttributeError" msg : Sem α) Q E s := by
  unfold raiseErrorStr
  refine wpAny_bind (wpAny_mkStr (wpAny_bind ?_) hm)
  unfold newExc newTuple
  refine wpAny_bind (wpAny_newObj_type ?_ (by size_fits))
  refine wpAny_bind (m := firstArgMember _ _) (wpAny_of_eq (a := Value.none) (by simp only [firstArgMember, attrError_no_first]; rfl) ?_)
  rw [ownMembersOf_AttributeError]
  refine wpAny_newObj_type ?_ (by size_fits)
  obtain ⟨hp, g, d, tk, os⟩ := s
  unfold raiseNew
  refine wpAny_bind (wpAny_handled ?_)
  rw [hh]
  first
    | refine wpAny_throw ?_
    | refine wpAny_bind (wpAny_pure (wpAny_throw ?_))
  dsimp only
  exact h _ _ _ _ (fun b ob hb => Heap.get?_push_of_some _ (Heap.get?_push_of_some _ hb)) (Heap.get?_push_size _ rfl)
theorem tga_miss {D : Addr} {name : Str} {tk : Tok} {cd : ClassData} {Q : Fin → Shared → Prop} (hh : A.handled = none) (X : K.In s.heap) (hc : PySem.W.clsIn K D = some cd) (ht : PySem.W.Looks (model prog w) s.heap (typeOf (.ref D)) (.type "type")) (opq : PySem.W.nsIn K cStatics "thirdparty.any" = some none)
    (hm : PySem.W.findIn K (.type "type") name = some none) (hn : PySem.W.findIn K (.ref D) name = some none) (hk : cd.name.cps.foldl (fun k c => k + (Str.utf8Of c).length) 0 ≤ 100) (hl : (missMsg cd.name name).length ≤ sizeLine)
    (h : ∀ h' tk e u, (∀ b ob, s.heap.get? b = some ob → h'.get? b = some ob) → h'.get? e = some { cls := .type "AttributeError", data := .fields u } → E (.ref e) { s with heap := h', toks := tk }) :
    wpAny (model prog w) A (Builtin.«type.__getattribute__» ⟨[.ref D, .str name tk], []⟩) Q E s := by
  obtain ⟨hh', g, d, t, os⟩ := s
  dsimp only at X ht
  unfold Builtin.«type.__getattribute__»
  refine wpAny_bind (wpAny_pure (wpAny_bind ((PySem.W.looks_opaque X opq).at (wpAny_bind (ht.at (wpAny_bind ((PySem.W.looks_findIn X hm).at ?_)))))))
  refine wpAny_bind (wpAny_pure ?_)
  refine wpAny_bind ((PySem.W.looks_findIn X hn).at ?_)
  dsimp only
  refine wpAny_bind (wpAny_rule ?_)
  unfold typeNameCut
  refine wpAny_bind (wpAny_bind ((PySem.W.looks_clsIn X hc).at ?_))
  dsimp only
  rw [if_pos hk]
  refine wpAny_pure ?_
  exact raise_str hh hl h
/-- what of the text a class must have to lack the name -/
structure Lacks (K : PySem.W.Frag) (D : Addr) (name : Str) : Prop where
  cd : ∃ cd, PySem.W.clsIn K D = some cd ∧ cd.name.cps.foldl (fun k c => k + (Str.utf8Of c).length) 0 ≤ 100 ∧ (missMsg cd.name name).length ≤ sizeLine
  ty : PySem.W.typeIn K (.ref D) = some (.type "type")
  no : PySem.W.findIn K (.ref D) name = some none
  nt : PySem.W.findIn K (.type "type") name = some none
  opq : PySem.W.nsIn K cStatics "thirdparty.any" = some none
theorem at_miss {D : Addr} {name : Str} {tk : Tok} {Q : Option Value → Shared → Prop} (hh : A.handled = none) (X : K.In s.heap) (L : Lacks K D name)
    (hga : PySem.W.findIn K (.type "type") "__getattribute__" = some (some (.builtin "type.__getattribute__"))) (hi : PySem.W.subIn K (.type "type") (.type "type") = some true)
    (h : ∀ h' tk, (∀ b ob, s.heap.get? b = some ob → h'.get? b = some ob) → Q none { s with heap := h', toks := tk }) :
    wpAny (model prog w) A (getAttrBy? (.ref D) (.str name tk)) Q E s := by
  obtain ⟨cd, hc, hk, hl⟩ := L.cd
  have ht : PySem.W.Looks (model prog w) s.heap (typeOf (.ref D)) (.type "type") := PySem.W.looks_typeIn X L.ty
  have f1 := sub_AttributeError
  have f2 : typeLookup (.type "type") "__getattr__" = pure none := am_miss_of_fast (by kernel_rfl)
  unfold getAttrBy?
  refine wpAny_bind (wpAny_attempt ?_)
  unfold getAttrBy
  refine wpAny_holding (wpAny_bind (ht _ _ _ _ (fun _ _ e => e) (wpAny_bind (PySem.W.looks_findIn X hga _ _ _ _ (fun _ _ e => e) ?_))))
  dsimp only
  rw [show (onTheHeap (.type "type") && Value.builtin "type.__getattribute__" == Value.builtin "object.__getattribute__") = false from rfl, if_neg (by decide)]
  unfold getAttrByItsOwn
  refine wpAny_bind (wpAny_of_eq (show hookBefore (.type "type") = pure none from rfl) ?_)
  refine wpAny_bind (wpAny_attempt (wpAny_holding ?_))
  unfold callGetattribute
  rw [show (false && onTheHeap (Value.builtin "type.__getattribute__")) = false from rfl, if_neg (by decide)]
  unfold boundAndCalled
  rw [PySem.W.KF.slot_tga.bind]
  refine wpAny_bind (wpAny_pure ?_)
  show wpAny _ _ (call (.builtin "type.__getattribute__") [.ref D, .str name tk]) _ _ _
  refine wpAny_call ?_
  refine codeAny_call_builtin PySem.W.KF.slot_tga.plain PySem.W.KF.entry_tga ?_
  refine @PySem.W.check_slot (model prog w) _ _ s "type.__getattribute__" "type" "__getattribute__" (.ref D) [.str name tk] [] _ (by decide +kernel) (by decide +kernel) (ht.andThen (PySem.W.looks_subIn X hi)) (PySem.W.KF.args_tga (.ref D) (.str name tk)) ?_
  refine tga_miss hh X hc ht L.opq L.nt L.no hk hl fun h' tk' e u kp he => ?_
  show wpAny _ _ (getattributeRaised _ _ _ _ _ _ _) _ _ _
  have hT : ∀ tk'', ({ s with heap := h', toks := tk'' } : Shared).TypeIs (.ref e) "AttributeError" := fun _ => ⟨_, he, rfl⟩
  unfold getattributeRaised
  refine wpAny_bind (wpAny_isInstance (hT _) f1 ?_)
  rw [if_pos rfl]
  refine wpAny_bind (wpAny_of_eq (show hookBehind (.type "type") none = pure none from f2) ?_)
  unfold hookOrError attributeErrorLeaves
  dsimp only
  rw [if_pos (show (!false) = true from rfl)]
  refine wpAny_bind (wpAny_throw ?_)
  refine wpAny_bind (wpAny_isInstance (hT _) f1 ?_)
  rw [if_pos rfl]
  exact wpAny_pure (h _ _ kp)
/-- what of the text a class must have for its operator -/
structure OpC (K : PySem.W.Frag) (C : Addr) (nm : String) (f : Addr) : Prop where
  at_ : PySem.W.findIn K (.ref C) (dunder nm) = some (some (.ref f))
  fn : PySem.W.isFn K (.ref f) = true
  first : PySem.W.selfFirst K C = true
  lack : Lacks K C (dunderR nm)
theorem slot_py {M : Model} {h : Heap} {C : Addr} {nm : String} {f : Addr} (X : K.In h) (O : OpC K C nm f) : PySem.W.Looks M h (numberSlotInPython (.ref C) nm) true := by
  intro A Q E s k q
  unfold numberSlotInPython
  dsimp only
  refine wpAny_bind (PySem.W.looks_findIn X O.at_ A _ E s k ?_)
  refine wpAny_bind (wpAny_pure ?_)
  refine wpAny_bind (PySem.W.looks_findIn X O.lack.no A _ E s k ?_)
  refine wpAny_bind (wpAny_pure ?_)
  exact wpAny_pure q
theorem slot_fills {M : Model} {h : Heap} {C : Addr} {nm : String} {f : Addr} (X : K.In h) (O : OpC K C nm f) : PySem.W.Looks M h (fillsNumberSlot (.ref C) nm) true := by
  obtain ⟨cd, hcd, hm⟩ := PySem.W.any_some O.first
  obtain ⟨rest, hm⟩ : ∃ rest, cd.mro = .ref C :: rest := by
    cases q : cd.mro with
    | nil => rw [q] at hm; cases hm
    | cons a r => rw [q] at hm; exact ⟨r, by rw [List.head?_cons] at hm; cases (beq_iff_eq.mp hm); rfl⟩
  exact PySem.W.fills_K X hcd hm O.at_
theorem refl_no {C D : Addr} {nm : String} {f : Addr} {Q : Bool → Shared → Prop} (hh : A.handled = none) (X : K.In s.heap) (O : OpC K C nm f) (O' : OpC K D nm f)
    (hga : PySem.W.findIn K (.type "type") "__getattribute__" = some (some (.builtin "type.__getattribute__"))) (hi : PySem.W.subIn K (.type "type") (.type "type") = some true) (hz : (dunderR nm).length ≤ sizeLine)
    (h : ∀ h' tk, (∀ b ob, s.heap.get? b = some ob → h'.get? b = some ob) → Q false { s with heap := h', toks := tk }) :
    wpAny (model prog w) A (reflectedDiffers (.ref C) (.ref D) nm) Q E s := by
  unfold reflectedDiffers
  dsimp only
  refine wpAny_bind ((slot_py X O).here ?_)
  rw [if_neg (by decide)]
  refine wpAny_bind ((slot_py X O').here ?_)
  rw [if_neg (by decide)]
  refine wpAny_bind (wpAny_mkStr ?_ hz)
  refine wpAny_bind (at_miss (s := { s with toks := s.toks + 1 }) hh X O'.lack hga hi fun h' tk kp => ?_)
  exact wpAny_pure (h _ _ kp)
end
section
variable {X : Cx} {CX : CXT} {k : Nat} {f : Addr} {sp : Sp} {E : L2.St → XK} {a b : Expr} {ta tb : TE} {pos : Pos} {P : Addr → Prop}
/-- the facts of the classes that P admits -/
structure Kin (K : PySem.W.Frag) (P : Addr → Prop) (nm : String) (f : Addr) : Prop where
  op : ∀ C, P C → OpC K C nm f
  sub : ∀ C D, P C → P D → ∃ b, PySem.W.mroIn K D (.ref C) = some b
  ga : PySem.W.findIn K (.type "type") "__getattribute__" = some (some (.builtin "type.__getattribute__"))
  tt : PySem.W.subIn K (.type "type") (.type "type") = some true
  sz : (dunderR nm).length ≤ sizeLine
def tBinP (P : Addr → Prop) (sp : Sp) (E : L2.St → XK) (ta tb : TE) : TE := fun σ H Q => ta σ H fun x H1 => tb σ H1 fun y H2 => ∃ p C dx fs q D dy gs, x = .ref p ∧ H2 p = some (.ins C dx fs) ∧ P C ∧ y = .ref q ∧ H2 q = some (.ins D dy gs) ∧ P D ∧ sp [x, y] H2 Q (E σ)
theorem pe_binP {op : Operator} (O : Kin X.K P op.info.2 f) (hcalm : X.calm = true) (F : FnR X.prog X.w X.K X.mg X.base CX k f sp) (hr : Room k X.A) (hx : ∀ σ, PassesAt CX X σ (E σ)) (ha : PE X a ta) (hb : PE X b tb) :
    PE X (.BinOp a op b pos) (tBinP P sp E ta tb) := by
  refine ⟨fun pins s σ H Q I h => wpAny_BinOp (thn (ha.run pins s σ H _ I h) fun u s1 ⟨x, H1, I1, rx, q1⟩ => thn (hb.run pins s1 σ H1 _ I1 q1) fun v s2 ⟨y, H2, I2, ry, q2⟩ => ?_)⟩
  obtain ⟨p, C, dx, fs, q, D, dy, gs, rfl, hp, pC, rfl, hq, pD, q2⟩ := q2
  obtain rfl : u = Value.ref p := rx
  obtain rfl : v = Value.ref q := ry
  obtain ⟨ox, od, J⟩ := OpM.inst I2 hp
  obtain ⟨oy, oe, J'⟩ := OpM.inst I2 hq
  have X2 := I2.kIn
  have hh := I2.ok.hd hcalm
  have OC := O.op C pC
  have OD := O.op D pD
  obtain ⟨sb, hsb⟩ := O.sub C D pC pD
  have fin : ∀ (s3 : Shared), Inv X pins σ H2 s3 → wpAny (model X.prog X.w) X.A (tryMethod (.ref p) (dunder op.info.2) (.ref q)) (fun r s' => match r with | some v => EP X pins σ Q v s' | none => False) X.xe s3 := fun s3 I3 => by
    obtain ⟨ox3, od3, J3⟩ := OpM.inst I3 hp
    unfold tryMethod
    refine wpAny_bind (PySem.W.special_fn I3.kIn J3 OC.at_ (beq_iff_eq.mp OC.fn) (wpAny_mono (OpM.runB F hr rfl (hx σ) I3 (us := [.ref p, .ref q]) (vs := [.ref p, .ref q]) (.cons rfl (.cons rfl .nil)) q2) (fun v s' hv => ?_) fun _ _ e => e))
    have hv0 := hv
    obtain ⟨z, H', I', rz, q'⟩ := hv
    have hv' := OpM.back (Q := EP X pins σ Q) rz hv0
    cases v <;> first | exact hv'.elim | exact wpAny_pure hv'
  unfold binaryOp
  refine wpAny_holding (wpAny_bind ?_)
  unfold binaryOp1
  refine wpAny_bind (J.type.here (wpAny_bind (J'.type.here (wpAny_bind ((slot_fills X2 OC).here ?_)))))
  have last : ∀ (s3 : Shared) (t : Sem (Option Value)), Inv X pins σ H2 s3 → (∀ (v : Value) (s' : Shared), EP X pins σ Q v s' → True) → wpAny (model X.prog X.w) X.A (tryMethod (.ref p) (dunder op.info.2) (.ref q)) (fun r s' => match r with | some v => EP X pins σ Q v s' | none => False) X.xe s3 := fun s3 t I3 _ => fin s3 I3
  by_cases hCD : C = D
  · subst hCD
    simp only [beq_self_eq_true, if_true]
    refine wpAny_bind (wpAny_pure ?_)
    simp only [Bool.and_false, Bool.false_eq_true, if_false, Bool.false_and]
    refine wpAny_bind (wpAny_pure ?_)
    simp only [Bool.false_eq_true, if_false, if_true]
    refine wpAny_bind (wpAny_mono (fin _ I2) (fun r s' hr => ?_) fun _ _ e => e)
    cases r with
    | none => exact hr.elim
    | some v => exact wpAny_pure (wpAny_pure hr)
  · have ne : ((Value.ref C) == (Value.ref D)) = false := by simp [hCD]
    rw [ne, if_neg (by decide)]
    refine wpAny_bind ((slot_fills X2 OD).here ?_)
    dsimp only
    rw [if_pos (show (true && true) = true from rfl)]
    refine wpAny_bind ((PySem.W.looks_mroIn X2 hsb).here ?_)
    cases sb with
    | true =>
      rw [if_pos rfl]
      refine wpAny_bind (refl_no hh X2 OC OD O.ga O.tt O.sz fun h' tk kp => ?_)
      have I3 : Inv X pins σ H2 { s2 with heap := h', toks := tk } := I2.kept kp
      have X3 := I3.kIn
      rw [if_neg (by decide), if_pos (show (true && true && !false) = true from rfl)]
      refine wpAny_bind ((slot_py X3 OC).here ?_)
      rw [if_pos rfl]
      refine wpAny_bind ((slot_py X3 OD).here ?_)
      rw [if_neg (by decide), if_pos rfl]
      refine wpAny_bind (wpAny_mono (fin _ I3) (fun r s' hr => ?_) fun _ _ e => e)
      cases r with
      | none => exact hr.elim
      | some v => exact wpAny_pure (wpAny_pure hr)
    | false =>
      rw [if_neg (by decide), if_neg (by decide), if_pos (show (true && true && !false) = true from rfl)]
      refine wpAny_bind ((slot_py X2 OC).here ?_)
      rw [if_pos rfl]
      refine wpAny_bind ((slot_py X2 OD).here ?_)
      rw [if_neg (by decide), if_pos rfl]
      refine wpAny_bind (wpAny_mono (fin _ I2) (fun r s' hr => ?_) fun _ _ e => e)
      cases r with
      | none => exact hr.elim
      | some v => exact wpAny_pure (wpAny_pure hr)
end
/-! the facts, decided -/
theorem lackB_ok {K : PySem.W.Frag} {D : Addr} {name : Str} (h : lackB K D name = true) : Lacks K D name := by
  unfold lackB at h
  obtain ⟨h1, h⟩ := He.ba h
  obtain ⟨h2, h⟩ := He.ba h
  obtain ⟨h3, h⟩ := He.ba h
  obtain ⟨h4, h5⟩ := He.ba h
  refine ⟨?_, of_decide_eq_true h2, He.eqO_ok h3, He.eqO_ok h4, of_decide_eq_true h5⟩
  split at h1
  · rename_i cd hc
    exact ⟨cd, hc, of_decide_eq_true (He.ba h1).1, of_decide_eq_true (He.ba h1).2⟩
  · cases h1
theorem opCB_ok {K : PySem.W.Frag} {C f : Addr} {nm : String} (h : opCB K C nm f = true) : OpC K C nm f := by
  unfold opCB at h
  obtain ⟨h1, h⟩ := He.ba h
  obtain ⟨h2, h⟩ := He.ba h
  obtain ⟨h3, h4⟩ := He.ba h
  exact ⟨He.eqO_ok h1, h2, h3, lackB_ok h4⟩
theorem kinB_ok {K : PySem.W.Frag} {cs : List Addr} {f : Addr} {nm : String} (h : kinB K cs nm f = true) : Kin K (fun C => C ∈ cs) nm f := by
  unfold kinB at h
  obtain ⟨h1, h⟩ := He.ba h
  obtain ⟨h2, h⟩ := He.ba h
  obtain ⟨h3, h4⟩ := He.ba h
  have one := List.all_eq_true.mp h1
  exact ⟨fun C hC => opCB_ok (He.ba (one C hC)).1, fun C D hC hD => Option.isSome_iff_exists.mp (List.all_eq_true.mp (He.ba (one C hC)).2 D hD), He.eqO_ok h2, of_decide_eq_true h3, of_decide_eq_true h4⟩
end AndX
namespace Dl
open PySem PySem.Spec PyProof.Rows L2
section
variable {K : PySem.W.Frag} {W : WS} {ta tb : TE} {ma mb : ME}
/-- x & y of classes told by number -/
def mBinP (cs : List Nat) (ds : M Sl) (a b : ME) : ME := a.bind fun s1 => b.bind fun s2 => match s1, s2 with
  | .sh (.obj c1 f1), .sh (.obj c2 f2) => if c1 ∈ cs ∧ c2 ∈ cs then callM ds [] [.s (.sh (.obj c1 f1)), .s (.sh (.obj c2 f2))] else M.stuck
  | _, _ => M.stuck
theorem eBinP {cs : List Nat} {ds : M Sl} (ha : EOk K W ta ma) (hb : EOk K W tb mb) : EOk K W (AndX.tBinP (fun C => C ∈ cs.map fun c => He.ga K (cn c)) (fun vs H Q E => spOf K ds (vs ++ []) H Q E) W ta tb) (mBinP cs ds ma mb) := fun G H σ ρ τ δ Q h w =>
  ha G H σ ρ τ δ _ h (ma.mono (fun s1 ρ1 w1 v1 H1 h1 => hb G H1 σ ρ1 _ _ _ h1 (mb.mono (fun s2 ρ2 w2 v2 H2 h2 => by
    simp only at w2
    split at w2
    · split at w2
      · rename_i hc
        obtain ⟨m1, m2⟩ := hc
        obtain ⟨F, r1, r2, z⟩ := h2.top2
        obtain ⟨a1, a2⟩ := own_args h2
        have core := callCore (dvs := []) (dv := []) a1 a2 (fun _ => .nil) (fun _ _ z => z) w2
        cases r1 with
        | obj g1 g2 g3 g4 =>
          cases r2 with
          | obj k1 k2 k3 k4 => exact ⟨_, _, _, _, _, _, _, _, rfl, z.le _ _ g1, List.mem_map.mpr ⟨_, m1, rfl⟩, rfl, z.le _ _ k1, List.mem_map.mpr ⟨_, m2, rfl⟩, core⟩
      · exact w2.elim
    · exact w2.elim) (fun e ρ' z v H' q => z v H' q.drop2) w1)) (fun _ _ z => z) w)
end
end Dl
/-! ### zip of two tuples; a list unpacked -/
namespace Cl
open PySem PySem.Spec PyProof.Rows L2 RZ
section
variable {X : Cx} {e : Expr} {pos : Pos}
def qIntB : List V → Hp → VK → Prop := fun xs H Q => ∃ k : Bool, xs = [.bl k] ∧ Q (.int (if k then 1 else 0)) H
theorem intB : CallR X (.type "int") qIntB := fun pins s σ H xs us Q I r h => call_int1 pins s σ H xs us Q I r (.inr h)
theorem slA (K : PySem.W.Frag) (hK : X.K = K := by rfl) : SlR X (rSlA K) := hK ▸ sl_tupA
theorem pgU (K : PySem.W.Frag) {es : List Expr} {k : Nat} {t : TGs} {n : Nat} (h : PGs X es t) (hc : X.calm = true := by rfl) (hn : (assignEach es X.env).length = n := by rfl) (hst : (assignEach es X.env).findIdx? (·.1) = none := by rfl) (hK : X.K = K := by rfl) : PG X (.Tuple es k pos) (gLst K n t) := hK ▸ pg_lst hc h hn hst
theorem piZA (K : PySem.W.Frag) {e2 : Expr} {ta : TA} {p tpos : Pos} {elts : List Expr} {kk : Nat} (hg : Gl X "zip") (hm : X.mg "zip" = none) (ha : PA X [e, e2] ta)
    (hs : starEach [e, e2] X.env = (false, eval e X.env) :: starEach [e2] X.env := by rfl) (hpl : (backTo pos (starEach [e2] X.env)).any (·.1) = false := by rfl) (hK : X.K = K := by rfl) :
    PI X (.Tuple elts kk tpos) (.Call (.Name "zip" p) [e, e2] [] pos) (iZipA K ta) := hK ▸ pi_zipA hg hm ha hs hpl
end
end Cl
namespace Dl
open PySem PySem.Spec PyProof.Rows L2 RZ
section
variable {K : PySem.W.Frag} {W : WS} {G : Ent} {ta tb : TE} {ma mb : ME}
theorem Rel.lparts {H : Hp} {σ : L2.St} {ρ : Env} {τ : L2.St} {δ : List Sl} {v : V} {ds : List D} (h : Rel K G H σ ρ (some v :: τ) (.sh (.lst ds) :: δ)) : ∃ a vs, v = .ref a ∧ SqL K H a vs ∧ vs.length = ds.length ∧ Rel K G H σ ρ (vs.map some ++ τ) (ds.map Sl.sh ++ δ) := by
  obtain ⟨F, f1, f2, g, ht, hs⟩ := h
  cases ht with
  | cons h1 h2 =>
    cases h1 with
    | sh r =>
      cases r with
      | @lst a vs _ h1 r =>
        refine ⟨a, vs, rfl, SqL.of (g.sub _ _ h1), r.len, F, _, f2, g, ?_, hs⟩
        exact RepL.slots h2 r
def gUl (n : Nat) (mgs : List D → M Unit) : MG
  | .sh (.lst ds) => if ds.length = n then mgs ds else M.stuck
  | _ => M.stuck
theorem gUp {n : Nat} {gs : TGs} {mgs : List D → M Unit} (hg : GsOk K gs mgs) : GOk K (gLst K n gs) (gUl n mgs) := fun G H σ ρ τ δ v s Q h w => by
  unfold gUl at w
  split at w
  · split at w
    · rename_i ds hn
      obtain ⟨a, vs, rfl, h1, h2, h3⟩ := h.lparts
      exact ⟨a, vs, rfl, h1, h2.trans hn, hg G H σ ρ τ δ vs ds Q h2 h3 w⟩
    · exact w.elim
  · exact w.elim
def iZT (a b : ME) : MI := a.bind fun s => (asSeq D.asTp s).bind fun xs => b.bind fun s' => (asSeq D.asTp s').bind fun ys => M.ret (zipD xs ys)
theorem walks_zipT {a b : Addr} {xs ys : List D} : Walks K G (ItzT K a b) (zipD xs ys) [some (.ref b), some (.ref a)] [.sh (.tup ys), .sh (.tup xs)] where
  go := fun H σ ρ τ δ i h hi => by
    obtain ⟨vs, h1, h2, _⟩ := h.tupAt
    obtain ⟨us, k1, k2, _⟩ := h.pop.tupAt
    unfold zipD at hi
    rw [List.length_zipWith] at hi
    exact ⟨us, vs, us[i], vs[i], k1, h1, List.getElem?_eq_getElem _, List.getElem?_eq_getElem _⟩
  stop := fun H σ ρ τ δ h => by
    obtain ⟨vs, h1, h2, _⟩ := h.tupAt
    obtain ⟨us, k1, k2, _⟩ := h.pop.tupAt
    unfold zipD
    rw [List.length_zipWith, ← h2, ← k2]
    exact ⟨us, vs, k1, h1, by omega⟩
  yld := fun H σ ρ τ δ i x H' d h hi y => by
    obtain ⟨vs, h1, h2, h3⟩ := h.tupAt
    unfold zipD at hi
    rw [List.getElem?_zipWith] at hi
    cases ex : xs[i]? with
    | none => rw [ex] at hi; cases hi
    | some p =>
      cases ey : ys[i]? with
      | none => rw [ex, ey] at hi; cases hi
      | some q =>
        rw [ex, ey] at hi
        have hd : d = .tup [p, q] := (Option.some.inj hi).symm
        obtain ⟨T, x1, y1, rfl, hT, rfl, e2, e3⟩ := y
        rw [hd]
        have r1 := h3 i y1 q (e3 _ h1) ey
        have r2 : Rel K G H σ ρ (some (.ref a) :: ([some y1, some (.ref b)] ++ τ)) (.sh (.tup xs) :: ([.sh q, .sh (.tup ys)] ++ δ)) := Rel.rot (τ' := [some y1, some (.ref b)]) (δ' := [.sh q, .sh (.tup ys)]) rfl r1
        obtain ⟨us, k1, k2, k3⟩ := r2.tupAt
        have r3 := (k3 i x1 p (e2 _ k1) ex).swap
        have r4 : Rel K G H σ ρ (some x1 :: some y1 :: some (.ref b) :: some (.ref a) :: τ) (.sh p :: .sh q :: .sh (.tup ys) :: .sh (.tup xs) :: δ) := Rel.unrot (τ' := [some x1, some y1, some (.ref b)]) (δ' := [.sh p, .sh q, .sh (.tup ys)]) rfl r3
        exact r4.pair hT
theorem wZipT (ha : EOk K W ta ma) (hb : EOk K W tb mb) : IOk K W (iZipA K (tCons ta (tCons tb tNil))) (iZT ma mb) := fun G H σ ρ τ δ R h w =>
  ha G H σ ρ τ δ _ h (ma.mono (fun s ρ1 w1 v H1 h1 => by
    obtain ⟨d, xs, rfl, e, q⟩ := asSeq_go w1
    unfold D.asTp at e
    split at e
    · cases e
      refine hb G H1 σ ρ1 _ _ _ h1 (mb.mono (fun s ρ2 w3 v2 H2 h2 => ?_) (fun e ρ' z v H' q => z v H' q.drop2) q)
      obtain ⟨d, ys, rfl, e, q2⟩ := asSeq_go w3
      unfold D.asTp at e
      split at e
      · cases e
        obtain ⟨F, r1, r2, z⟩ := h2.top2
        cases r1 with
        | tup k1 r1 =>
          cases r2 with
          | tup k2 r2 => exact ⟨_, _, _, _, rfl, .inr ⟨sqt_mono z.le k1, sqt_mono z.le k2, q2 _ _ [_, _] [_, _] rfl h2 walks_zipT⟩⟩
      · cases e
    · cases e) (fun _ _ z => z) w)
def dIntB : D → Option D
  | .bl k => some (.int (if k then 1 else 0))
  | _ => none
theorem c_intB : R1Ok K (fun x H Q => Cl.qIntB [x] H Q) (op1 dIntB) := by
  intro G H σ ρ τ δ x s1 Q E hr w
  obtain ⟨a, d, rfl, e, q⟩ := op1_go w
  unfold dIntB at e
  split at e
  · rename_i i
    cases e
    obtain rfl := hr.topv (u := .bl i) rfl
    exact ⟨i, rfl, q _ _ (hr.pop.push rfl)⟩
  · cases e
/-- any part of a tuple, the whole too -/
def fSlA (s : Sl) (lo hi : Option Int) : ME := op1P (fun d => match d with
  | .tup xs => some (True, .sh (.tup (cutD xs lo hi)))
  | _ => none) s
theorem s_ta : S3Ok K (rSlA K) fSlA := by
  intro lo hi G H σ ρ τ δ x s1 Q E hr w
  obtain ⟨a, p, s, rfl, e, hp, q⟩ := op1P_go w
  obtain ⟨F, r1, z⟩ := hr.top
  split at e
  · rename_i xs
    cases e
    have hr' := hr
    cases r1 with
    | tup h1 r1 =>
      refine ⟨_, _, rfl, sqt_mono z.le h1, fun hw => ?_, fun _ p hp' => q _ _ (z.nw _ _ _ hp' fun F' l z' => .tup (SqT.of z') ((r1.cut lo hi).mono l))⟩
      rw [r1.len] at hw
      have e : cutD xs lo hi = xs := by
        unfold cutD
        rw [hw.1, hw.2]
        simp
      have q' := q
      rw [e] at q'
      exact q' _ _ hr
  · cases e
end
end Dl
namespace Pf
open PySem PySem.Spec PyProof.Rows L2 Dl
noncomputable section
def is_Wish : Nat → Option Bool := fun c => if c = 5 then some true else if c = 6 then some true else if c = 7 then some true else if c = 8 then some true else if c = 9 then some true else none
def ib_Wish : BT → Option Bool := fun s => match s with | _ => none
/-! ### helpers of the plain part -/
def onE (k : List Sl → M Sl) : M Sl := ⟨fun ρ Q E => (k ρ).wp ρ Q E, fun h h' w => (k _).mono h h' w⟩
theorem al {α : Sort u} {P : α → Prop} (h : ∀ v, P v) : ∀ v, P v := h
theorem if2 {c : Prop} [Decidable c] {a b : Prop} (h1 : c → a) (h2 : ¬ c → b) : if c then a else b := by
  split
  · exact h1 (by assumption)
  · exact h2 (by assumption)
/-- a middle is named -/
theorem cut {a b : MS} {ρ : Dl.Env} {M : MEnds} (P : Dl.Env → Prop) (h1 : a.wp ρ { M with nx := P }) (h2 : ∀ r, P r → b.wp r M) : (sSeq a b).wp ρ M := a.mono (M := { M with nx := P }) ⟨fun r z => h2 r z, fun _ _ z => z, fun _ z => z, fun _ z => z, fun _ _ z => z⟩ h1
theorem dt {p : Prop} [Decidable p] (h : decide p = true) : p := of_decide_eq_true h
theorem df {p : Prop} [Decidable p] (h : ¬ decide p = true) : ¬ p := fun z => h (decide_eq_true z)
theorem eqS_yes {α : Type} [DecidableEq α] {A B : α} (e : A = B) : (false ^^ decide (A = B)) = true := by simp [e]
theorem neS_no {α : Type} [DecidableEq α] {A B : α} (e : A = B) : (true ^^ decide (A = B)) = false := by simp [e]
theorem to_bl {Q : Sl → List Sl → Prop} {as : List Sl} {a b : Bool} (e : a = b) (k : Q (.sh (.bl b)) as) : Q (.sh (.bl a)) as := e ▸ k
theorem op2_ok {g : D → D → Option D} {a b d : D} {ρ : Dl.Env} {Q : Sl → Dl.Env → Prop} {E : Er → Dl.Env → Prop} (h : g a b = some d) (k : Q (.sh d) ρ) : (op2 g (.sh a) (.sh b)).wp ρ Q E := by
  show (match g a b with | some d => M.ret (.sh d) | none => M.stuck : ME).wp ρ Q E
  rw [h]
  exact k
theorem atI_map {hs : List Int} {p : Int} (p0 : 0 ≤ p) (p1 : p < (hs.length : Int)) : atI (hs.map D.int) p = some (.int (hs.getD p.toNat 0)) := by
  have hj : p.toNat < hs.length := by omega
  unfold atI ixN
  rw [if_pos p0, List.length_map, if_pos p1]
  show (hs.map D.int)[p.toNat]? = _
  rw [List.getElem?_map, List.getElem?_eq_getElem hj, List.getD_eq_getElem?_getD, List.getElem?_eq_getElem hj]
  rfl
/-- data that may be compared -/
theorem fit_int {n : Nat} (i : Int) : (D.int i).fit n := ⟨.int i, rfl, Nat.zero_le _⟩
theorem fit_bl {n : Nat} (b : Bool) : (D.bl b).fit n := ⟨.bl b, rfl, Nat.zero_le _⟩
theorem fit_non {n : Nat} : D.non.fit n := ⟨.non, rfl, Nat.zero_le _⟩
theorem fit_str {n : Nat} {x : Str} (h : PyData.strOk x = true) : (D.str x).fit n := ⟨.str x, h, Nat.zero_le _⟩
theorem fit_all {n : Nat} : ∀ {ds : List D}, (∀ d ∈ ds, D.fit n d) → Plains ds ∧ PyData.canLayAll0 (D.pys ds) = true ∧ PyData.depthAll (D.pys ds) ≤ n
  | [], _ => ⟨.nil, rfl, Nat.zero_le _⟩
  | d :: ds, h => by
    obtain ⟨a1, a2, a3⟩ := h d List.mem_cons_self
    obtain ⟨b1, b2, b3⟩ := fit_all (ds := ds) fun e he => h e (List.mem_cons_of_mem _ he)
    refine ⟨.cons a1 b1, ?_, Nat.max_le.mpr ⟨a3, b3⟩⟩
    show (PyData.canLay0 d.py && PyData.canLayAll0 (D.pys ds)) = true
    rw [a2, b2]
    rfl
theorem fit_lst {n : Nat} {ds : List D} (h : ∀ d ∈ ds, D.fit n d) : (D.lst ds).fit (n + 1) := let ⟨a, b, c⟩ := fit_all h; ⟨.lst a, b, Nat.succ_le_succ c⟩
theorem fit_tup {n : Nat} {ds : List D} (h : ∀ d ∈ ds, D.fit n d) : (D.tup ds).fit (n + 1) := let ⟨a, b, c⟩ := fit_all h; ⟨.tup a, b, Nat.succ_le_succ c⟩
theorem eq_refl {n : Nat} {d : D} (h : d.fit n) : D.eq d d = true := SeqAt.eqv_refl _ h.2.1
theorem forall2 {α : Type} {p : α → Prop} {a b : α} (h1 : p a) (h2 : p b) : ∀ x ∈ [a, b], p x := fun x hx => by
  rcases List.mem_cons.mp hx with rfl | hx
  · exact h1
  · rw [List.mem_singleton.mp hx]; exact h2
theorem forall3 {α : Type} {p : α → Prop} {a b c : α} (h1 : p a) (h2 : p b) (h3 : p c) : ∀ x ∈ [a, b, c], p x := fun x hx => by
  rcases List.mem_cons.mp hx with rfl | hx
  · exact h1
  · exact forall2 h2 h3 x hx
theorem log_ok {n : Nat} {b : Nat} (h : n < 2 ^ b) (hb : b ≤ 1920) (h0 : 0 < b) : n.log2 < 1920 := Nat.lt_of_lt_of_le (PySem.Flt.log2_lt_of h0 h) hb
/-- a comprehension by what holds between two turns (i items taken) -/
theorem lc_inv {vs : List Nat} {g : MG} {c : MT} {e : ME} {all : List D} {ρ : Dl.Env} {Q : List D → Dl.Env → Prop} {E : Er → Dl.Env → Prop} (P : Nat → List D → Dl.Env → Prop) (h0 : P 0 [] ρ)
    (hs : ∀ i d acc ρ, all[i]? = some d → P i acc ρ → (g (.sh d)).wp (wipeE ρ vs) (fun _ r1 => c.wp r1 (fun b r2 => if b = true then e.wp r2 (fun s r3 => match s with
      | .sh x => acc.length < sizeLine ∧ P (i + 1) (acc ++ [x]) (wipeE r3 vs)
      | _ => False) (fun er r => E er (wipeE r vs)) else P (i + 1) acc (wipeE r2 vs)) (fun er r => E er (wipeE r vs))) (fun _ _ => False))
    (hd : ∀ acc ρ, P all.length acc ρ → Q acc ρ) : lcM vs g c e all [] ρ Q E := by
  have main : ∀ n i acc ρ, i + n = all.length → P i acc ρ → lcM vs g c e (all.drop i) acc ρ Q E := by
    intro n
    induction n with
    | zero =>
      intro i acc ρ hi hp
      have e0 : i = all.length := by omega
      subst e0
      rw [List.drop_length]
      exact hd acc ρ hp
    | succ n ih =>
      intro i acc ρ hi hp
      have hlt : i < all.length := by omega
      rw [List.drop_eq_getElem_cons hlt]
      refine (g _).mono (fun _ r1 w1 => c.mono (fun b r2 w2 => ?_) (fun _ _ z => z) w1) (fun _ _ z => z) (hs i _ acc ρ (List.getElem?_eq_getElem hlt) hp)
      cases b with
      | true =>
        refine e.mono (fun s r3 w3 => ?_) (fun _ _ z => z) w2
        split at w3
        · exact ⟨w3.1, ih (i + 1) _ _ (by omega) w3.2⟩
        · exact w3.elim
      | false => exact ih (i + 1) _ _ (by omega) w2
  exact main all.length 0 [] ρ (by omega) h0
/-- a loop by what holds between two turns -/
theorem for_inv {g : MG} {b : MS} {all : List D} {ρ : Dl.Env} {M : MEnds} (P : Nat → Dl.Env → Prop) (h0 : P 0 ρ)
    (hs : ∀ i d ρ, all[i]? = some d → P i ρ → (g (.sh d)).wp ρ (fun _ r => b.wp r { M with nx := P (i + 1), ct := P (i + 1), bk := M.nx }) (fun _ _ => False))
    (hd : ∀ ρ, P all.length ρ → M.nx ρ) : forM g b all ρ M := by
  have main : ∀ n i ρ, i + n = all.length → P i ρ → forM g b (all.drop i) ρ M := by
    intro n
    induction n with
    | zero =>
      intro i ρ hi hp
      have e0 : i = all.length := by omega
      subst e0
      rw [List.drop_length]
      exact hd ρ hp
    | succ n ih =>
      intro i ρ hi hp
      have hlt : i < all.length := by omega
      rw [List.drop_eq_getElem_cons hlt]
      refine (g _).mono (fun _ r1 w1 => b.mono (M := { M with nx := P (i + 1), ct := P (i + 1), bk := M.nx }) ⟨fun r z => ih (i + 1) r (by omega) z, fun _ _ z => z, fun _ z => z, fun r z => ih (i + 1) r (by omega) z, fun _ _ z => z⟩ w1) (fun _ _ z => z) (hs i _ ρ (List.getElem?_eq_getElem hlt) hp)
  exact main all.length 0 ρ (by omega) h0
theorem for_of {i : MI} {g : MG} {b : MS} {ρ ρ' : Dl.Env} {ds : List D} {M : MEnds} (hi : i.wp ρ (fun d r => d = ds ∧ r = ρ') M.ex) (h : forM g b ds ρ' M) : (sFor i g b).wp ρ M := i.mono (fun d r z => by obtain ⟨rfl, rfl⟩ := z; exact h) (fun _ _ z => z) hi
theorem flt_yes {α : Type} {p : α → Bool} {l : List α} {i : Nat} {x : α} (e : l[i]? = some x) (c : p x = true) : (l.take (i + 1)).filter p = (l.take i).filter p ++ [x] := by
  rw [List.take_add_one, e, List.filter_append]
  show _ ++ [x].filter p = _
  rw [List.filter_cons_of_pos c]
  rfl
theorem flt_no {α : Type} {p : α → Bool} {l : List α} {i : Nat} {x : α} (e : l[i]? = some x) (c : ¬ p x = true) : (l.take (i + 1)).filter p = (l.take i).filter p := by
  rw [List.take_add_one, e, List.filter_append]
  show _ ++ [x].filter p = _
  rw [List.filter_cons_of_neg c, List.filter_nil, List.append_nil]
theorem flt_len {α : Type} {p : α → Bool} {l : List α} {i : Nat} : ((l.take i).filter p).length ≤ i := Nat.le_trans (List.length_filter_le _ _) (by rw [List.length_take]; omega)
theorem flen {α : Type} {p : α → Bool} {l : List α} {i : Nat} (h : i < l.length) : ((l.take i).filter p).length < l.length := Nat.lt_of_le_of_lt flt_len h
theorem get_lt {α : Type} {l : List α} {i : Nat} {x : α} (e : l[i]? = some x) : i < l.length := (List.getElem?_eq_some_iff.mp e).1
theorem map_at {α β : Type} {f : α → β} {l : List α} {i : Nat} {y : β} (h : (l.map f)[i]? = some y) : ∃ x, l[i]? = some x ∧ y = f x := by
  rw [List.getElem?_map] at h
  cases e : l[i]? with
  | none => rw [e] at h; cases h
  | some x => rw [e] at h; cases h; exact ⟨x, rfl, rfl⟩
theorem take_snoc {α : Type} {l : List α} {i : Nat} {x : α} (e : l[i]? = some x) : l.take (i + 1) = l.take i ++ [x] := by rw [List.take_add_one, e]; rfl
theorem rgD_len (lo : Int) (n : Nat) : (rgD lo n).length = n := by unfold rgD; rw [List.length_map, List.length_range]
theorem fit_ints {n : Nat} (hs : List Int) : (D.lst (hs.map D.int)).fit (n + 1) := fit_lst fun d hd => by
  obtain ⟨x, _, rfl⟩ := List.mem_map.mp hd
  exact fit_int x
/-- a name is set: the new slots are named -/
theorem gs_ok {i : Nat} {s : Sl} {ρ ρ' : Dl.Env} {b : MS} {M : MEnds} {E : Er → Dl.Env → Prop} (h : (gSet i s).wp ρ (fun _ r => r = ρ') (fun _ _ => False)) (k : b.wp ρ' M) : (gSet i s).wp ρ (fun _ r => b.wp r M) E := (gSet i s).mono (fun _ r e => by subst e; exact k) (fun _ _ z => z.elim) h
/-- a def is entered: the slots are named (no unfolding of what follows) -/
theorem df_in {n N : Nat} {m : MS} {as : List Sl} {Q : Sl → List Sl → Prop} {E : Er → List Sl → Prop} (ρ : Dl.Env) (hl : as.length = n) (hρ : as ++ List.replicate (N - n) .un = ρ) (h : m.wp ρ (mends as Q E)) : (defM n N m).wp as Q E := by
  subst hl
  subst hρ
  unfold defM
  show (match Nat.beq as.length as.length with
    | true => m.wp (as ++ List.replicate (N - as.length) .un) (mends as Q E)
    | false => False)
  rw [Nat.beq_refl]
  exact h
/-- a loop with a number that goes down -/
theorem wh_inv {c : MT} {b : MS} {M : MEnds} (P : Nat → Dl.Env → Prop) (h0 : ∀ ρ, P 0 ρ → c.wp ρ (fun k r => k = false ∧ M.nx r) M.ex)
    (hs : ∀ n ρ, P (n + 1) ρ → c.wp ρ (fun k r => if k = true then b.wp r { M with nx := P n, ct := P n, bk := M.nx } else M.nx r) M.ex) : ∀ n ρ, P n ρ → whM c b (n + 1) ρ M
  | 0, ρ, h => c.mono (fun k r z => by
      obtain ⟨rfl, z⟩ := z
      exact z) (fun _ _ z => z) (h0 ρ h)
  | n + 1, ρ, h => c.mono (fun k r z => by
      cases k with
      | false => exact z
      | true => exact b.mono (M := { M with nx := P n, ct := P n, bk := M.nx }) ⟨fun r z => wh_inv P h0 hs n r z, fun _ _ z => z, fun _ z => z, fun r z => wh_inv P h0 hs n r z, fun _ _ z => z⟩ z) (fun _ _ z => z) (hs n ρ h)
/-! ### the law's box of numbers -/
/-! ### trials, plain (where the text has no site) -/
abbrev Tr := Nat × Int × Bool
def agX (x : Nat → Int) (t : Tr) : Bool := decide (x t.1 ≤ t.2.1) == t.2.2
def trOk (n : Nat) (ts : List Tr) : Prop := ∀ t ∈ ts, t.1 < n
def tD (t : Tr) : D := .obj 0 [.int ((t.1 : Nat) : Int), .int t.2.1, .bl t.2.2]
theorem rg_at {lo : Int} {n i : Nat} {d : D} (h : (rgD lo n)[i]? = some d) : i < n ∧ d = .int (lo + (i : Nat)) := by
  have hi : i < n := by
    rcases Nat.lt_or_ge i n with z | z
    · exact z
    · rw [List.getElem?_eq_none (by rw [rgD_len]; exact z)] at h; cases h
  unfold rgD at h
  rw [List.getElem?_map, List.getElem?_range hi] at h
  exact ⟨hi, (Option.some.inj h).symm⟩
theorem small_line {n : Nat} (h : n < 1000) : n < sizeLine := by rw [sizeLine_eq]; omega
theorem atOwn_ok {α : Type} {i : Nat} {k : Sl → Sh → D → M α} {ρ : Dl.Env} {Q : α → Dl.Env → Prop} {E : Er → Dl.Env → Prop} {s : Sl} {z : Sh} {d : D} (ei : ρ[i]? = some s) (eo : s.own = some (z, d)) (w : (k s z d).wp ρ Q E) : (atOwn i k).wp ρ Q E := by
  unfold atOwn
  simp only [ei]
  cases s with
  | ow z' d' => cases eo; exact w
  | le v z' d' => cases eo; exact w
  | _ => cases eo
def m_TrialU_initU_2 : MS := (sFldN 0 2 0 (mVar 3))
def m_TrialU_initU_1 : MS := sSeq (sFldN 0 1 0 (mVar 2)) m_TrialU_initU_2
def m_TrialU_initU : MS := sSeq (sFldN 0 0 0 (mVar 1)) m_TrialU_initU_1
@[irreducible] def ds_TrialU_initU : M Sl := defM 4 4 m_TrialU_initU
theorem hm_TrialU_initU : ∀ as Q E, ds_TrialU_initU.wp as Q E → (defM 4 4 m_TrialU_initU).wp as Q E := by unfold ds_TrialU_initU; exact fun _ _ _ w => w
theorem mh_TrialU_initU {as : List Sl} {Q : Sl → List Sl → Prop} {E : Er → List Sl → Prop} (h : (defM 4 4 m_TrialU_initU).wp as Q E) : ds_TrialU_initU.wp as Q E := by unfold ds_TrialU_initU; exact h
theorem hl_TrialU_initU : ∀ as Q E, ds_TrialU_initU.wp as Q E → as.length = 4 := fun as Q E w => defM_len as Q E (hm_TrialU_initU as Q E w)

theorem new_tr {t : Tr} {ρ : Dl.Env} {Q : Sl → Dl.Env → Prop} {E : Er → Dl.Env → Prop} (k : Q (.ow (.oo [.fr, .fr, .fr]) (tD t)) ρ) : (newI 0 ds_TrialU_initU [] [.s (.sh (.int ((t.1 : Nat) : Int))), .s (.sh (.int t.2.1)), .s (.sh (.bl t.2.2))]).wp ρ Q E := by
  rw [newI_eq]
  exact fun v => mh_TrialU_initU ⟨rfl, k⟩
/-! ### a trial agrees with a list of heights -/
def m_Trial_agrees_1 : MS := (sRet (mOp (op2 (dEq false)) (mOp (op2 dLe) (mOp (op2 dIxL) (mVar 1) (mFld 0 0 (mVar 0))) (mFld 0 1 (mVar 0))) (mFld 0 2 (mVar 0))))
def m_Trial_agrees : MS := sSeq (sIf (mNot (mTest (mChain (op2 dLe) (op2 dLt) (mC (.int 0)) (mFld 0 0 (mVar 0)) (mUn (op1 dLen) (mVar 1)))))
      sNever
      sNext) m_Trial_agrees_1
@[irreducible] def ds_Trial_agrees : M Sl := defM 2 2 m_Trial_agrees
theorem hm_Trial_agrees : ∀ as Q E, ds_Trial_agrees.wp as Q E → (defM 2 2 m_Trial_agrees).wp as Q E := by unfold ds_Trial_agrees; exact fun _ _ _ w => w
theorem mh_Trial_agrees {as : List Sl} {Q : Sl → List Sl → Prop} {E : Er → List Sl → Prop} (h : (defM 2 2 m_Trial_agrees).wp as Q E) : ds_Trial_agrees.wp as Q E := by unfold ds_Trial_agrees; exact h
theorem hl_Trial_agrees : ∀ as Q E, ds_Trial_agrees.wp as Q E → as.length = 2 := fun as Q E w => defM_len as Q E (hm_Trial_agrees as Q E w)

/-- the heights as a function -/
def hF (hs : List Int) (p : Nat) : Int := hs.getD p 0
theorem agr_ok {t : Tr} {hs : List Int} {Q : Sl → List Sl → Prop} {E : Er → List Sl → Prop} (p1 : t.1 < hs.length) (k : Q (.sh (.bl (agX (hF hs) t))) [.sh (tD t), .sh (.lst (hs.map D.int))]) : ds_Trial_agrees.wp [.sh (tD t), .sh (.lst (hs.map D.int))] Q E := by
  have hl : (hs.map D.int).length = hs.length := List.length_map ..
  refine mh_Trial_agrees (if2 (fun c2 => ?_) (fun c2 => ?_))
  · exfalso
    simp at c2
    omega
  · refine op2_ok (g := dIxL) (atI_map (Int.natCast_nonneg t.1) (by omega)) ?_
    refine to_bl ?_ k
    unfold agX hF
    rw [Int.toNat_natCast]
    cases decide (hs.getD t.1 0 ≤ t.2.1) <;> cases t.2.2 <;> rfl
/-! ### wishes, plain -/
abbrev Pr := Nat × Int
def prD (p : Pr) : D := .tup [.int ((p.1 : Nat) : Int), .int p.2]
def prT (r : Bool) (p : Pr) : Tr := (p.1, p.2, r)
inductive Wi where
  | non : Wi
  | all : List Pr → Wi
  | som : List Pr → Wi
  | band : Nat → List Int → Wi
  | both : Wi → Wi → Wi
def Wi.size : Wi → Int
  | .non => 1
  | .all _ => 2
  | .som _ => 2
  | .band _ cs => (cs.length : Int) + 1
  | .both a b => a.size * b.size
/-- at least the size, and the number of cases -/
def Wi.num : Wi → Nat
  | .non => 1
  | .all ps => ps.length + 2
  | .som ps => ps.length + 2
  | .band _ cs => cs.length + 1
  | .both a b => a.num * b.num
/-- at least the number of trials of a case -/
def Wi.tl : Wi → Nat
  | .non => 0
  | .all ps => ps.length + 1
  | .som ps => ps.length + 1
  | .band _ _ => 2
  | .both a b => a.tl + b.tl
def Wi.dep : Wi → Nat
  | .both a b => max a.dep b.dep + 1
  | _ => 0
def Wi.d : Wi → D
  | .non => .obj 5 [.int 1]
  | .all ps => .obj 6 [.int 2, .lst (ps.map prD)]
  | .som ps => .obj 7 [.int 2, .lst (ps.map prD)]
  | .band p cs => .obj 8 [.int ((cs.length : Int) + 1), .int ((p : Nat) : Int), .lst (cs.map D.int)]
  | .both a b => .obj 9 [.int (a.size * b.size), a.d, b.d]
abbrev Cs := Int × List Tr
def caD (c : Cs) : D := .tup [.int c.1, .lst (c.2.map tD)]
def bdC (p : Nat) (cs : List Int) (i : Nat) : Cs := ((i : Nat), (if 0 < i then [(p, cs.getD (i - 1) 0, false)] else []) ++ if i < cs.length then [(p, cs.getD i 0, true)] else [])
def Wi.cases : Wi → List Cs
  | .non => [(0, [])]
  | .all ps => (1, ps.map (prT true)) :: ps.map fun p => (0, [prT false p])
  | .som ps => ps.map (fun p => (1, [prT true p])) ++ [(0, ps.map (prT false))]
  | .band p cs => (List.range (cs.length + 1)).map (bdC p cs)
  | .both a b => a.cases.flatMap fun x => b.cases.map fun y => (x.1 * b.size + y.1, x.2 ++ y.2)
def Wi.places : Wi → List Nat
  | .non => []
  | .all ps => ps.map fun p => p.1
  | .som ps => ps.map fun p => p.1
  | .band p _ => [p]
  | .both a b => a.places ++ b.places
def Wi.ok (n : Nat) : Wi → Prop
  | .non => True
  | .all ps => ∀ p ∈ ps, p.1 < n
  | .som ps => ∀ p ∈ ps, p.1 < n
  | .band p cs => p < n ∧ cs.Pairwise (· < ·)
  | .both a b => a.ok n ∧ b.ok n
/-- small enough -/
def Wi.sm : Wi → Prop
  | .both a b => a.sm ∧ b.sm ∧ a.num * b.num < 900 ∧ a.tl + b.tl < 900
  | .band _ cs => cs.length < 898
  | w => w.num < 900 ∧ w.tl < 900
theorem Wi.size_pos : ∀ w : Wi, 0 < w.size
  | .non => by show (0 : Int) < 1; decide
  | .all _ => by show (0 : Int) < 2; decide
  | .som _ => by show (0 : Int) < 2; decide
  | .band _ cs => by show (0 : Int) < (cs.length : Int) + 1; omega
  | .both a b => Int.mul_pos a.size_pos b.size_pos
theorem Wi.num_pos : ∀ w : Wi, 0 < w.num
  | .non => by show 0 < 1; decide
  | .all ps => by show 0 < ps.length + 2; omega
  | .som ps => by show 0 < ps.length + 2; omega
  | .band _ cs => by show 0 < cs.length + 1; omega
  | .both a b => Nat.mul_pos a.num_pos b.num_pos
theorem Wi.size_num : ∀ w : Wi, w.size ≤ w.num
  | .non => by show (1 : Int) ≤ ((1 : Nat) : Int); decide
  | .all ps => by show (2 : Int) ≤ ((ps.length + 2 : Nat) : Int); omega
  | .som ps => by show (2 : Int) ≤ ((ps.length + 2 : Nat) : Int); omega
  | .band _ cs => by show (cs.length : Int) + 1 ≤ ((cs.length + 1 : Nat) : Int); omega
  | .both a b => by
    show a.size * b.size ≤ ((a.num * b.num : Nat) : Int)
    rw [Int.natCast_mul]
    have := a.size_pos
    have := b.size_pos
    exact Int.mul_le_mul a.size_num b.size_num (by omega) (by omega)
theorem Wi.len_cases : ∀ w : Wi, w.cases.length ≤ w.num
  | .non => by show 1 ≤ 1; decide
  | .all ps => by unfold Wi.cases Wi.num; simp
  | .som ps => by unfold Wi.cases Wi.num; simp
  | .band _ cs => by unfold Wi.cases Wi.num; simp
  | .both a b => by
    unfold Wi.cases Wi.num
    rw [List.length_flatMap]
    have h : ∀ l : List Cs, (l.map fun x => (b.cases.map fun y => ((x.1 * b.size + y.1, x.2 ++ y.2) : Cs)).length).sum = l.length * b.cases.length := by
      intro l
      induction l with
      | nil => simp
      | cons x l ih => rw [List.map_cons, List.sum_cons, ih, List.length_map, List.length_cons, Nat.succ_mul]; omega
    rw [h]
    exact Nat.mul_le_mul a.len_cases b.len_cases
theorem bdC_tl {p : Nat} {cs : List Int} {i : Nat} : (bdC p cs i).2.length ≤ 2 := by
  unfold bdC
  by_cases a : 0 < i <;> by_cases b : i < cs.length <;> simp [a, b]
theorem Wi.len_tl : ∀ w : Wi, ∀ c ∈ w.cases, c.2.length ≤ w.tl
  | .non, c, h => by rw [List.mem_singleton.mp h]; exact Nat.le_refl _
  | .all ps, c, h => by
    rcases List.mem_cons.mp h with rfl | h
    · show (ps.map (prT true)).length ≤ ps.length + 1
      rw [List.length_map]; omega
    · obtain ⟨p, _, rfl⟩ := List.mem_map.mp h
      show 1 ≤ ps.length + 1
      omega
  | .som ps, c, h => by
    rcases List.mem_append.mp h with h | h
    · obtain ⟨p, _, rfl⟩ := List.mem_map.mp h
      show 1 ≤ ps.length + 1
      omega
    · rw [List.mem_singleton.mp h]
      show (ps.map (prT false)).length ≤ ps.length + 1
      rw [List.length_map]; omega
  | .band p cs, c, h => by
    obtain ⟨i, _, rfl⟩ := List.mem_map.mp h
    exact bdC_tl
  | .both a b, c, h => by
    obtain ⟨x, hx, h⟩ := List.mem_flatMap.mp h
    obtain ⟨y, hy, rfl⟩ := List.mem_map.mp h
    show (x.2 ++ y.2).length ≤ a.tl + b.tl
    rw [List.length_append]
    exact Nat.add_le_add (a.len_tl x hx) (b.len_tl y hy)
theorem Wi.tr_ok {n : Nat} : ∀ w : Wi, w.ok n → ∀ c ∈ w.cases, trOk n c.2
  | .non, _, c, h => by rw [List.mem_singleton.mp h]; exact fun _ z => (List.not_mem_nil z).elim
  | .all ps, o, c, h => by
    rcases List.mem_cons.mp h with rfl | h
    · intro t ht
      obtain ⟨p, hp, rfl⟩ := List.mem_map.mp ht
      exact o p hp
    · obtain ⟨p, hp, rfl⟩ := List.mem_map.mp h
      intro t ht
      rw [List.mem_singleton.mp ht]
      exact o p hp
  | .som ps, o, c, h => by
    rcases List.mem_append.mp h with h | h
    · obtain ⟨p, hp, rfl⟩ := List.mem_map.mp h
      intro t ht
      rw [List.mem_singleton.mp ht]
      exact o p hp
    · rw [List.mem_singleton.mp h]
      intro t ht
      obtain ⟨p, hp, rfl⟩ := List.mem_map.mp ht
      exact o p hp
  | .band p cs, o, c, h => by
    obtain ⟨i, _, rfl⟩ := List.mem_map.mp h
    intro t ht
    have e : t.1 = p := by
      rcases List.mem_append.mp ht with z | z
      · split at z
        · rw [List.mem_singleton.mp z]
        · cases z
      · split at z
        · rw [List.mem_singleton.mp z]
        · cases z
    rw [e]
    exact o.1
  | .both a b, o, c, h => by
    obtain ⟨x, hx, h⟩ := List.mem_flatMap.mp h
    obtain ⟨y, hy, rfl⟩ := List.mem_map.mp h
    intro t ht
    rcases List.mem_append.mp ht with z | z
    · exact a.tr_ok o.1 x hx t z
    · exact b.tr_ok o.2 y hy t z
/-- the answer, as the document says it -/
def Wi.ans (x : Nat → Int) : Wi → Int
  | .non => 0
  | .all ps => if (ps.all fun p => decide (x p.1 ≤ p.2)) = true then 1 else 0
  | .som ps => if (ps.any fun p => decide (x p.1 ≤ p.2)) = true then 1 else 0
  | .band p cs => (cs.filter fun c => decide (c < x p)).length
  | .both a b => a.ans x * b.size + b.ans x
theorem ag_t {x : Nat → Int} {p : Pr} : agX x (prT true p) = decide (x p.1 ≤ p.2) := by
  unfold agX prT
  cases decide (x p.1 ≤ p.2) <;> rfl
theorem ag_f {x : Nat → Int} {p : Pr} : agX x (prT false p) = !decide (x p.1 ≤ p.2) := by
  unfold agX prT
  cases decide (x p.1 ≤ p.2) <;> rfl
/-- lesser cuts: those ahead of the place -/
theorem less_take {cs : List Int} (h : cs.Pairwise (· < ·)) {v : Int} : ∀ {i : Nat}, i ≤ cs.length → (∀ j, j < i → cs.getD j 0 < v) → (∀ j, i ≤ j → j < cs.length → v ≤ cs.getD j 0) → (cs.filter fun c => decide (c < v)).length = i := by
  induction cs with
  | nil =>
    intro i hi _ _
    have : i = 0 := by simpa using hi
    rw [this]
    rfl
  | cons c cs ih =>
    intro i hi h1 h2
    cases i with
    | zero =>
      have e : (c :: cs).filter (fun c => decide (c < v)) = [] := by
        rw [List.filter_eq_nil_iff]
        intro a ha
        obtain ⟨j, hj, e⟩ := List.mem_iff_getElem.mp ha
        have := h2 j (Nat.zero_le _) hj
        rw [List.getD_eq_getElem?_getD, List.getElem?_eq_getElem hj] at this
        have this' : v ≤ (c :: cs)[j] := this
        rw [e] at this'
        simp
        omega
      rw [e]
      rfl
    | succ i =>
      have hc : c < v := h1 0 (Nat.succ_pos _)
      rw [List.filter_cons_of_pos (by simpa using hc), List.length_cons]
      rw [ih (List.pairwise_cons.mp h).2 (i := i) (by simpa using hi) (fun j hj => h1 (j + 1) (by omega)) (fun j hj hl => h2 (j + 1) (by omega) (by simpa using hl))]
theorem asc {cs : List Int} (h : cs.Pairwise (· < ·)) {i j : Nat} (hij : i < j) (hj : j < cs.length) : cs.getD i 0 < cs.getD j 0 := by
  rw [List.getD_eq_getElem?_getD, List.getD_eq_getElem?_getD, List.getElem?_eq_getElem hj, List.getElem?_eq_getElem (Nat.lt_trans hij hj)]
  exact List.pairwise_iff_getElem.mp h i j (Nat.lt_trans hij hj) hj hij
theorem band_in {p : Nat} {cs : List Int} {i : Nat} {x : Nat → Int} : ((bdC p cs i).2.all (agX x)) = true ↔ (0 < i → cs.getD (i - 1) 0 < x p) ∧ (i < cs.length → x p ≤ cs.getD i 0) := by
  have e1 : ∀ c : Int, agX x (p, c, true) = decide (x p ≤ c) := fun c => ag_t (p := (p, c))
  have e2 : ∀ c : Int, agX x (p, c, false) = !decide (x p ≤ c) := fun c => ag_f (p := (p, c))
  unfold bdC
  by_cases a : 0 < i <;> by_cases b : i < cs.length <;> simp [a, b, e1, e2]
theorem band_ans {p : Nat} {cs : List Int} {x : Nat → Int} (h : cs.Pairwise (· < ·)) {i : Nat} (hi : i ≤ cs.length) (a : ((bdC p cs i).2.all (agX x)) = true) : (cs.filter fun c => decide (c < x p)).length = i := by
  obtain ⟨a1, a2⟩ := band_in.mp a
  refine less_take h hi (fun j hj => ?_) (fun j hj hl => ?_)
  · have := a1 (by omega)
    rcases Nat.lt_or_eq_of_le (show j ≤ i - 1 by omega) with z | z
    · have := asc h z (by omega)
      omega
    · rw [z]; exact this
  · have := a2 (by omega)
    rcases Nat.lt_or_eq_of_le hj with z | z
    · have := asc h z hl
      omega
    · rw [← z]; exact this
theorem Wi.sound {n : Nat} {x : Nat → Int} : ∀ w : Wi, w.ok n → ∀ c ∈ w.cases, c.2.all (agX x) = true → c.1 = w.ans x
  | .non, _, c, h, _ => by rw [List.mem_singleton.mp h]; rfl
  | .all ps, _, c, h, a => by
    unfold Wi.ans
    rcases List.mem_cons.mp h with rfl | h
    · rw [if_pos]
      rw [List.all_eq_true] at a ⊢
      intro p hp
      have := a _ (List.mem_map.mpr ⟨p, hp, rfl⟩)
      rwa [ag_t] at this
    · obtain ⟨p, hp, rfl⟩ := List.mem_map.mp h
      rw [if_neg]
      intro z
      have z' := List.all_eq_true.mp z p hp
      have := List.all_eq_true.mp a _ (List.mem_singleton.mpr rfl)
      rw [ag_f, z'] at this
      cases this
  | .som ps, _, c, h, a => by
    unfold Wi.ans
    rcases List.mem_append.mp h with h | h
    · obtain ⟨p, hp, rfl⟩ := List.mem_map.mp h
      rw [if_pos]
      rw [List.any_eq_true]
      have := List.all_eq_true.mp a _ (List.mem_singleton.mpr rfl)
      rw [ag_t] at this
      exact ⟨p, hp, this⟩
    · obtain rfl := List.mem_singleton.mp h
      rw [if_neg]
      intro z
      obtain ⟨p, hp, z'⟩ := List.any_eq_true.mp z
      have := List.all_eq_true.mp a _ (List.mem_map.mpr ⟨p, hp, rfl⟩)
      rw [ag_f, z'] at this
      cases this
  | .band p cs, o, c, h, a => by
    obtain ⟨i, hi, rfl⟩ := List.mem_map.mp h
    rw [List.mem_range] at hi
    unfold Wi.ans
    rw [band_ans o.2 (by omega) a]
    rfl
  | .both u v, o, c, h, a => by
    obtain ⟨s, hs, h⟩ := List.mem_flatMap.mp h
    obtain ⟨t, ht, rfl⟩ := List.mem_map.mp h
    have a' : (s.2 ++ t.2).all (agX x) = true := a
    rw [List.all_append, Bool.and_eq_true] at a'
    unfold Wi.ans
    rw [← u.sound o.1 s hs a'.1, ← v.sound o.2 t ht a'.2]
theorem Wi.full {n : Nat} {x : Nat → Int} : ∀ w : Wi, w.ok n → ∃ c ∈ w.cases, c.2.all (agX x) = true
  | .non, _ => ⟨_, List.mem_singleton.mpr rfl, rfl⟩
  | .all ps, _ => by
    by_cases h : (ps.all fun p => decide (x p.1 ≤ p.2)) = true
    · refine ⟨_, List.mem_cons_self, ?_⟩
      rw [List.all_eq_true] at h ⊢
      intro t ht
      obtain ⟨p, hp, rfl⟩ := List.mem_map.mp ht
      rw [ag_t]
      exact h p hp
    · have h' : ¬ ∀ p ∈ ps, decide (x p.1 ≤ p.2) = true := fun z => h (List.all_eq_true.mpr z)
      have : ∃ p ∈ ps, ¬ decide (x p.1 ≤ p.2) = true := by
        refine Classical.byContradiction fun z => h' fun p hp => Classical.byContradiction fun q => z ⟨p, hp, q⟩
      obtain ⟨p, hp, q⟩ := this
      refine ⟨_, List.mem_cons_of_mem _ (List.mem_map.mpr ⟨p, hp, rfl⟩), ?_⟩
      rw [List.all_eq_true]
      intro t ht
      rw [List.mem_singleton.mp ht, ag_f, Bool.eq_false_iff.mpr q]
      rfl
  | .som ps, _ => by
    by_cases h : (ps.any fun p => decide (x p.1 ≤ p.2)) = true
    · obtain ⟨p, hp, q⟩ := List.any_eq_true.mp h
      refine ⟨_, List.mem_append_left _ (List.mem_map.mpr ⟨p, hp, rfl⟩), ?_⟩
      rw [List.all_eq_true]
      intro t ht
      rw [List.mem_singleton.mp ht, ag_t]
      exact q
    · refine ⟨_, List.mem_append_right _ (List.mem_singleton.mpr rfl), ?_⟩
      rw [List.all_eq_true]
      intro t ht
      obtain ⟨p, hp, rfl⟩ := List.mem_map.mp ht
      have q : decide (x p.1 ≤ p.2) = false := Bool.eq_false_iff.mpr fun q => h (List.any_eq_true.mpr ⟨p, hp, q⟩)
      rw [ag_f, q]
      rfl
  | .band p cs, o => by
    have key : ∀ k, k ≤ cs.length → (∀ j, j < k → cs.getD j 0 < x p) → ∃ i, i ≤ cs.length ∧ ((bdC p cs i).2.all (agX x)) = true := by
      intro k hk
      induction h : cs.length - k generalizing k with
      | zero =>
        intro hl
        refine ⟨k, hk, band_in.mpr ⟨fun z => hl _ (by omega), fun z => by omega⟩⟩
      | succ m ih =>
        intro hl
        by_cases c : x p ≤ cs.getD k 0
        · exact ⟨k, hk, band_in.mpr ⟨fun z => hl _ (by omega), fun _ => c⟩⟩
        · refine ih (k + 1) (by omega) (by omega) fun j hj => ?_
          rcases Nat.lt_or_eq_of_le (Nat.lt_succ_iff.mp hj) with z | z
          · exact hl j z
          · rw [z]; omega
    obtain ⟨i, hi, a⟩ := key 0 (Nat.zero_le _) fun j hj => by omega
    exact ⟨_, List.mem_map.mpr ⟨i, List.mem_range.mpr (by omega), rfl⟩, a⟩
  | .both u v, o => by
    obtain ⟨s, hs, a⟩ := u.full o.1
    obtain ⟨t, ht, b⟩ := v.full o.2
    refine ⟨_, List.mem_flatMap.mpr ⟨s, hs, List.mem_map.mpr ⟨t, ht, rfl⟩⟩, ?_⟩
    show (s.2 ++ t.2).all (agX x) = true
    rw [List.all_append, a, b]
    rfl
/-! ### wishes, the program's defs -/
def m_WishU_initU : MS := (sAlt (sFldN 5 0 0 (mVar 1)) (sAlt (sFldN 6 0 0 (mVar 1)) (sAlt (sFldN 7 0 0 (mVar 1)) (sAlt (sFldN 8 0 0 (mVar 1)) (sFldN 9 0 0 (mVar 1))))))
@[irreducible] def ds_WishU_initU : M Sl := defM 2 2 m_WishU_initU
theorem hm_WishU_initU : ∀ as Q E, ds_WishU_initU.wp as Q E → (defM 2 2 m_WishU_initU).wp as Q E := by unfold ds_WishU_initU; exact fun _ _ _ w => w
theorem mh_WishU_initU {as : List Sl} {Q : Sl → List Sl → Prop} {E : Er → List Sl → Prop} (h : (defM 2 2 m_WishU_initU).wp as Q E) : ds_WishU_initU.wp as Q E := by unfold ds_WishU_initU; exact h
theorem hl_WishU_initU : ∀ as Q E, ds_WishU_initU.wp as Q E → as.length = 2 := fun as Q E w => defM_len as Q E (hm_WishU_initU as Q E w)

def m_AllWithinU_initU : MS := sSeq sNext (sSeq (sDrop (mNo (mMethL 0 6 ds_WishU_initU [] (bCo (mC (.int 2)) bNo)))) ((sFldN 6 1 0 (mFz (mLc0 [2, 3] (iT (mVar 1)) (gTu 2 (gCo (gSet 2) (gCo (gSet 3) gNo))) mYes (mTup (mCons (mVar 2) (mCons (mVar 3) mNil))))))))
@[irreducible] def ds_AllWithinU_initU : M Sl := defM 2 4 m_AllWithinU_initU
theorem hm_AllWithinU_initU : ∀ as Q E, ds_AllWithinU_initU.wp as Q E → (defM 2 4 m_AllWithinU_initU).wp as Q E := by unfold ds_AllWithinU_initU; exact fun _ _ _ w => w
theorem mh_AllWithinU_initU {as : List Sl} {Q : Sl → List Sl → Prop} {E : Er → List Sl → Prop} (h : (defM 2 4 m_AllWithinU_initU).wp as Q E) : ds_AllWithinU_initU.wp as Q E := by unfold ds_AllWithinU_initU; exact h
theorem hl_AllWithinU_initU : ∀ as Q E, ds_AllWithinU_initU.wp as Q E → as.length = 2 := fun as Q E w => defM_len as Q E (hm_AllWithinU_initU as Q E w)
theorem hk_AllWithinU_initU : ∀ as Q E, ds_AllWithinU_initU.wp as Q E → ds_AllWithinU_initU.wp as (fun r as' => as'.length = as.length ∧ Q r as') (fun er as' => as'.length = as.length ∧ E er as') := by unfold ds_AllWithinU_initU; exact defM_keep

def m_SomeWithinU_initU : MS := sSeq sNext (sSeq (sDrop (mNo (mMethL 0 7 ds_WishU_initU [] (bCo (mC (.int 2)) bNo)))) ((sFldN 7 1 0 (mFz (mLc0 [2, 3] (iT (mVar 1)) (gTu 2 (gCo (gSet 2) (gCo (gSet 3) gNo))) mYes (mTup (mCons (mVar 2) (mCons (mVar 3) mNil))))))))
@[irreducible] def ds_SomeWithinU_initU : M Sl := defM 2 4 m_SomeWithinU_initU
theorem hm_SomeWithinU_initU : ∀ as Q E, ds_SomeWithinU_initU.wp as Q E → (defM 2 4 m_SomeWithinU_initU).wp as Q E := by unfold ds_SomeWithinU_initU; exact fun _ _ _ w => w
theorem mh_SomeWithinU_initU {as : List Sl} {Q : Sl → List Sl → Prop} {E : Er → List Sl → Prop} (h : (defM 2 4 m_SomeWithinU_initU).wp as Q E) : ds_SomeWithinU_initU.wp as Q E := by unfold ds_SomeWithinU_initU; exact h
theorem hl_SomeWithinU_initU : ∀ as Q E, ds_SomeWithinU_initU.wp as Q E → as.length = 2 := fun as Q E w => defM_len as Q E (hm_SomeWithinU_initU as Q E w)
theorem hk_SomeWithinU_initU : ∀ as Q E, ds_SomeWithinU_initU.wp as Q E → ds_SomeWithinU_initU.wp as (fun r as' => as'.length = as.length ∧ Q r as') (fun er as' => as'.length = as.length ∧ E er as') := by unfold ds_SomeWithinU_initU; exact defM_keep

def m_BandU_initU_L1 : MS := (sIf (mTest (mOp (op2 dLe) (mVar 4) (mVar 3)))
      sNever
      sNext)
def m_BandU_initU_3 : MS := (sFldN 8 2 0 (mFz (mUn (op1P pList) (mVar 2))))
def m_BandU_initU : MS := sSeq (sFor (iZT (mVar 2) (mSl fSlA (mVar 2) (mPart (mC (.int 1))) mNoPart)) (gTu 2 (gCo (gSet 3) (gCo (gSet 4) gNo))) m_BandU_initU_L1) (sSeq (sDrop (mNo (mMethL 0 8 ds_WishU_initU [] (bCo (mOp (op2 dAdd) (mUn (op1 dLen) (mVar 2)) (mC (.int 1))) bNo)))) (sSeq (sFldN 8 1 0 (mVar 1)) m_BandU_initU_3))
@[irreducible] def ds_BandU_initU : M Sl := defM 3 5 m_BandU_initU
theorem hm_BandU_initU : ∀ as Q E, ds_BandU_initU.wp as Q E → (defM 3 5 m_BandU_initU).wp as Q E := by unfold ds_BandU_initU; exact fun _ _ _ w => w
theorem mh_BandU_initU {as : List Sl} {Q : Sl → List Sl → Prop} {E : Er → List Sl → Prop} (h : (defM 3 5 m_BandU_initU).wp as Q E) : ds_BandU_initU.wp as Q E := by unfold ds_BandU_initU; exact h
theorem hl_BandU_initU : ∀ as Q E, ds_BandU_initU.wp as Q E → as.length = 3 := fun as Q E w => defM_len as Q E (hm_BandU_initU as Q E w)
theorem hk_BandU_initU : ∀ as Q E, ds_BandU_initU.wp as Q E → ds_BandU_initU.wp as (fun r as' => as'.length = as.length ∧ Q r as') (fun er as' => as'.length = as.length ∧ E er as') := by unfold ds_BandU_initU; exact defM_keep

def m_BothU_initU_2 : MS := (sFldN 9 2 0 (mVar 2))
def m_BothU_initU : MS := sSeq sNext (sSeq (sDrop (mNo (mMethL 0 9 ds_WishU_initU [] (bCo (mOp (opC CMulX fun i j => .int (i * j)) (mAlt (mFld 5 0 (mVar 1)) (mAlt (mFld 6 0 (mVar 1)) (mAlt (mFld 7 0 (mVar 1)) (mAlt (mFld 8 0 (mVar 1)) (mFld 9 0 (mVar 1)))))) (mAlt (mFld 5 0 (mVar 2)) (mAlt (mFld 6 0 (mVar 2)) (mAlt (mFld 7 0 (mVar 2)) (mAlt (mFld 8 0 (mVar 2)) (mFld 9 0 (mVar 2))))))) bNo)))) (sSeq (sFldN 9 1 0 (mVar 1)) m_BothU_initU_2))
@[irreducible] def ds_BothU_initU : M Sl := defM 3 3 m_BothU_initU
theorem hm_BothU_initU : ∀ as Q E, ds_BothU_initU.wp as Q E → (defM 3 3 m_BothU_initU).wp as Q E := by unfold ds_BothU_initU; exact fun _ _ _ w => w
theorem mh_BothU_initU {as : List Sl} {Q : Sl → List Sl → Prop} {E : Er → List Sl → Prop} (h : (defM 3 3 m_BothU_initU).wp as Q E) : ds_BothU_initU.wp as Q E := by unfold ds_BothU_initU; exact h
theorem hl_BothU_initU : ∀ as Q E, ds_BothU_initU.wp as Q E → as.length = 3 := fun as Q E w => defM_len as Q E (hm_BothU_initU as Q E w)

theorem lend_sh : ∀ {xs : List D} {ρ : Dl.Env} {k : List Sl → Dl.Env → Prop}, k (xs.map Sl.sh) ρ → lendP ρ (xs.map fun d => Ag.s (.sh d)) k
  | [], _, _, h => h
  | x :: xs, ρ, k, h => lend_sh (xs := xs) (k := fun as r => k (.sh x :: as) r) h
theorem back_sh : ∀ {xs : List D} {ρ0 ρ : Dl.Env} {k : Dl.Env → Prop}, k ρ → backP ρ0 (xs.map fun d => Ag.s (.sh d)) (xs.map Sl.sh) ρ k
  | [], _, _, _, h => h
  | _ :: xs, _, _, _, h => back_sh (xs := xs) h
theorem allSh_map : ∀ {xs : List D}, allSh (xs.map Sl.sh) = some xs
  | [] => rfl
  | x :: xs => by
    show (match allSh (xs.map Sl.sh) with | some ds => some (x :: ds) | none => none) = _
    rw [allSh_map]
/-- an object made by a def with a star -/
theorem new_star {c : Nat} {ds : M Sl} {pre xs : List D} {z : Sh} {d : D} {ρ : Dl.Env} {Q : Sl → Dl.Env → Prop} {E : Er → Dl.Env → Prop} (hl : xs.length ≤ sizeLine)
    (h : ∀ v Q E, Q (.sh .non) (.le v z d :: (pre.map Sl.sh ++ [.sh (.tup xs)])) → ds.wp (.le v (.oo []) (.obj c []) :: (pre.map Sl.sh ++ [.sh (.tup xs)])) Q E) (k : Q (.ow z d) ρ) :
    (newI c (packM (pre.length + 1) ds) [] ((pre ++ xs).map fun d => .s (.sh d))).wp ρ Q E := by
  rw [newI_eq]
  intro v
  refine lend_sh ?_
  have e0 : (Sl.le v (.oo []) (.obj c []) :: (pre ++ xs).map Sl.sh ++ [].map Sl.sh) = Sl.le v (.oo []) (.obj c []) :: (pre.map Sl.sh ++ xs.map Sl.sh) := by rw [List.map_nil, List.append_nil, List.map_append]
  rw [e0]
  have e1 : allSh ((Sl.le v (.oo []) (.obj c []) :: (pre.map Sl.sh ++ xs.map Sl.sh)).drop (pre.length + 1)) = some xs := by
    rw [List.drop_succ_cons, List.drop_append_of_le_length (by rw [List.length_map]; exact Nat.le_refl _)]
    rw [show (pre.map Sl.sh).drop pre.length = [] from List.drop_eq_nil_of_le (by rw [List.length_map]; exact Nat.le_refl _), List.nil_append]
    exact allSh_map
  have e2 : (Sl.le v (.oo []) (.obj c []) :: (pre.map Sl.sh ++ xs.map Sl.sh)).take (pre.length + 1) = Sl.le v (.oo []) (.obj c []) :: pre.map Sl.sh := by
    rw [List.take_succ_cons, List.take_append_of_le_length (by rw [List.length_map]; exact Nat.le_refl _), List.take_of_length_le (by rw [List.length_map]; exact Nat.le_refl _)]
  have e3 : (Sl.le v (.oo []) (.obj c []) :: (pre.map Sl.sh ++ xs.map Sl.sh)).drop (pre.length + 1) = xs.map Sl.sh := by
    rw [List.drop_succ_cons, List.drop_append_of_le_length (by rw [List.length_map]; exact Nat.le_refl _)]
    rw [show (pre.map Sl.sh).drop pre.length = [] from List.drop_eq_nil_of_le (by rw [List.length_map]; exact Nat.le_refl _), List.nil_append]
  unfold packM
  show (match allSh ((Sl.le v (.oo []) (.obj c []) :: (pre.map Sl.sh ++ xs.map Sl.sh)).drop (pre.length + 1)) with | some rest => _ | none => False)
  rw [e1]
  refine ⟨by rw [List.length_cons, List.length_append, List.length_map]; omega, hl, ?_⟩
  rw [e2, e3]
  refine h v _ _ ?_
  have e4 : (Sl.le v z d :: (pre.map Sl.sh ++ [Sl.sh (.tup xs)])).take (pre.length + 1) = Sl.le v z d :: pre.map Sl.sh := by
    rw [List.take_succ_cons, List.take_append_of_le_length (by rw [List.length_map]; exact Nat.le_refl _), List.take_of_length_le (by rw [List.length_map]; exact Nat.le_refl _)]
  rw [e4]
  show backP _ _ (pre.map Sl.sh ++ xs.map Sl.sh) _ _
  rw [← List.map_append]
  exact back_sh k
theorem winit_ok {c : Nat} (hc : c = 5 ∨ c = 6 ∨ c = 7 ∨ c = 8 ∨ c = 9) {n : Int} {v : V} {Q : Sl → List Sl → Prop} {E : Er → List Sl → Prop} (k : Q (.sh .non) [.le v (.oo [.fr]) (.obj c [.int n]), .sh (.int n)]) : ds_WishU_initU.wp [.le v (.oo []) (.obj c []), .sh (.int n)] Q E := by
  refine mh_WishU_initU ?_
  rcases hc with rfl | rfl | rfl | rfl | rfl
  · exact .inl ⟨rfl, k⟩
  · exact .inr (.inl ⟨rfl, k⟩)
  · exact .inr (.inr (.inl ⟨rfl, k⟩))
  · exact .inr (.inr (.inr (.inl ⟨rfl, k⟩)))
  · exact .inr (.inr (.inr (.inr ⟨rfl, k⟩)))
theorem new_non {ρ : Dl.Env} {Q : Sl → Dl.Env → Prop} {E : Er → Dl.Env → Prop} (k : Q (.ow (.oo [.fr]) Wi.non.d) ρ) : (newI 5 ds_WishU_initU [.int 1] []).wp ρ Q E := by
  rw [newI_eq]
  exact fun v => winit_ok (.inl rfl) k
theorem pairs_lc {ps : List Pr} {s0 s1 : Sl} {M : List D → Dl.Env → Prop} {E : Er → Dl.Env → Prop} (hl : ps.length < 900) (k : M (ps.map prD) [s0, s1, .un, .un]) :
    lcM [2, 3] (gTu 2 (gCo (gSet 2) (gCo (gSet 3) gNo))) mYes (mTup (mCons (mVar 2) (mCons (mVar 3) mNil))) (ps.map prD) [] [s0, s1, .un, .un] M E := by
  refine lc_inv (fun i acc r => acc = (ps.take i).map prD ∧ r = [s0, s1, .un, .un]) ⟨rfl, rfl⟩ ?_ ?_
  · rintro i d acc r hi ⟨rfl, rfl⟩
    obtain ⟨t, et, rfl⟩ := map_at hi
    refine ⟨?_, ?_, rfl⟩
    · rw [List.length_map, List.length_take]
      exact small_line (by omega)
    · rw [take_snoc et, List.map_append]
      rfl
  · rintro acc r ⟨rfl, rfl⟩
    rw [List.length_map, List.take_length]
    exact k
theorem all_init {ps : List Pr} {v : V} {Q : Sl → List Sl → Prop} {E : Er → List Sl → Prop} (hl : ps.length < 900) (k : Q (.sh .non) [.le v (.oo [.fr, .fr]) (Wi.all ps).d, .sh (.tup (ps.map prD))]) :
    ds_AllWithinU_initU.wp [.le v (.oo []) (.obj 6 []), .sh (.tup (ps.map prD))] Q E := by
  refine mh_AllWithinU_initU ?_
  refine winit_ok (.inr (.inl rfl)) ?_
  show lcM [2, 3] (gTu 2 (gCo (gSet 2) (gCo (gSet 3) gNo))) mYes (mTup (mCons (mVar 2) (mCons (mVar 3) mNil))) (ps.map prD) [] [.le v (.oo [.fr]) (.obj 6 [.int 2]), .sh (.tup (ps.map prD)), .un, .un] _ _
  refine pairs_lc hl ?_
  exact ⟨rfl, k⟩
theorem som_init {ps : List Pr} {v : V} {Q : Sl → List Sl → Prop} {E : Er → List Sl → Prop} (hl : ps.length < 900) (k : Q (.sh .non) [.le v (.oo [.fr, .fr]) (Wi.som ps).d, .sh (.tup (ps.map prD))]) :
    ds_SomeWithinU_initU.wp [.le v (.oo []) (.obj 7 []), .sh (.tup (ps.map prD))] Q E := by
  refine mh_SomeWithinU_initU ?_
  refine winit_ok (.inr (.inr (.inl rfl))) ?_
  show lcM [2, 3] (gTu 2 (gCo (gSet 2) (gCo (gSet 3) gNo))) mYes (mTup (mCons (mVar 2) (mCons (mVar 3) mNil))) (ps.map prD) [] [.le v (.oo [.fr]) (.obj 7 [.int 2]), .sh (.tup (ps.map prD)), .un, .un] _ _
  refine pairs_lc hl ?_
  exact ⟨rfl, k⟩
theorem new_all {ps : List Pr} {ρ : Dl.Env} {Q : Sl → Dl.Env → Prop} {E : Er → Dl.Env → Prop} (hl : ps.length < 900) (k : Q (.ow (.oo [.fr, .fr]) (Wi.all ps).d) ρ) : (newI 6 (packM 1 ds_AllWithinU_initU) [] ((ps.map prD).map fun d => .s (.sh d))).wp ρ Q E :=
  new_star (pre := []) (by rw [List.length_map]; exact Nat.le_of_lt (small_line (by omega))) (fun _ _ _ q => all_init hl q) k
theorem new_som {ps : List Pr} {ρ : Dl.Env} {Q : Sl → Dl.Env → Prop} {E : Er → Dl.Env → Prop} (hl : ps.length < 900) (k : Q (.ow (.oo [.fr, .fr]) (Wi.som ps).d) ρ) : (newI 7 (packM 1 ds_SomeWithinU_initU) [] ((ps.map prD).map fun d => .s (.sh d))).wp ρ Q E :=
  new_star (pre := []) (by rw [List.length_map]; exact Nat.le_of_lt (small_line (by omega))) (fun _ _ _ q => som_init hl q) k
theorem cut1 {xs : List D} : Dl.cutD xs (some 1) none = xs.drop 1 := by
  unfold Dl.cutD HT.sIx
  cases xs with
  | nil => rfl
  | cons x xs => simp
theorem band_init {p : Nat} {cs : List Int} {v : V} {Q : Sl → List Sl → Prop} {E : Er → List Sl → Prop} (hl : cs.length < 900) (ha : cs.Pairwise (· < ·)) (k : Q (.sh .non) [.le v (.oo [.fr, .fr, .fr]) (Wi.band p cs).d, .sh (.int ((p : Nat) : Int)), .sh (.tup (cs.map D.int))]) :
    ds_BandU_initU.wp [.le v (.oo []) (.obj 8 []), .sh (.int ((p : Nat) : Int)), .sh (.tup (cs.map D.int))] Q E := by
  refine mh_BandU_initU ?_
  show m_BandU_initU.wp [.le v (.oo []) (.obj 8 []), .sh (.int ((p : Nat) : Int)), .sh (.tup (cs.map D.int)), .un, .un] _
  refine cut (fun r => ∃ s3 s4, r = [.le v (.oo []) (.obj 8 []), .sh (.int ((p : Nat) : Int)), .sh (.tup (cs.map D.int)), s3, s4]) ?_ ?_
  · refine ⟨trivial, ?_⟩
    rw [cut1]
    refine for_inv (fun i r => ∃ s3 s4, r = [.le v (.oo []) (.obj 8 []), .sh (.int ((p : Nat) : Int)), .sh (.tup (cs.map D.int)), s3, s4]) ⟨_, _, rfl⟩ ?_ (fun r z => z)
    rintro i d r hd ⟨s3, s4, rfl⟩
    unfold zipD at hd
    rw [← List.map_drop, List.getElem?_zipWith, List.getElem?_map, List.getElem?_map, List.getElem?_drop] at hd
    cases ex : cs[i]? with
    | none => rw [ex] at hd; cases hd
    | some a =>
      cases ey : cs[1 + i]? with
      | none => rw [ex, ey] at hd; cases hd
      | some b =>
        rw [ex, ey] at hd
        cases hd
        refine if2 (fun z => ?_) (fun _ => ⟨_, _, rfl⟩)
        exfalso
        have z' := dt z
        obtain ⟨h1, e1⟩ := List.getElem?_eq_some_iff.mp ex
        obtain ⟨h2, e2⟩ := List.getElem?_eq_some_iff.mp ey
        have := List.pairwise_iff_getElem.mp ha i (1 + i) h1 h2 (by omega)
        rw [e1, e2] at this
        omega
  rintro _ ⟨s3, s4, rfl⟩
  refine winit_ok (.inr (.inr (.inr (.inl rfl)))) ?_
  rw [List.length_map]
  exact ⟨trivial, rfl, k⟩
theorem new_band {p : Nat} {cs : List Int} {ρ : Dl.Env} {Q : Sl → Dl.Env → Prop} {E : Er → Dl.Env → Prop} (hl : cs.length < 900) (ha : cs.Pairwise (· < ·)) (k : Q (.ow (.oo [.fr, .fr, .fr]) (Wi.band p cs).d) ρ) :
    (newI 8 (packM 2 ds_BandU_initU) [] (.s (.sh (.int ((p : Nat) : Int))) :: (cs.map D.int).map fun d => .s (.sh d))).wp ρ Q E :=
  new_star (pre := [.int ((p : Nat) : Int)]) (by rw [List.length_map]; exact Nat.le_of_lt (small_line (by omega))) (fun _ _ _ q => band_init hl ha q) k
/-! ### wishes: cases, places, answer, & -/
def m_Wish_cases : MS := (sRet (mFz (mLst (mCons (mTup (mCons (mC (.int 0)) (mCons (mFz (mLst mNil)) mNil))) mNil))))
@[irreducible] def ds_Wish_cases : M Sl := defM 1 1 m_Wish_cases
theorem hm_Wish_cases : ∀ as Q E, ds_Wish_cases.wp as Q E → (defM 1 1 m_Wish_cases).wp as Q E := by unfold ds_Wish_cases; exact fun _ _ _ w => w
theorem mh_Wish_cases {as : List Sl} {Q : Sl → List Sl → Prop} {E : Er → List Sl → Prop} (h : (defM 1 1 m_Wish_cases).wp as Q E) : ds_Wish_cases.wp as Q E := by unfold ds_Wish_cases; exact h
theorem hl_Wish_cases : ∀ as Q E, ds_Wish_cases.wp as Q E → as.length = 1 := fun as Q E w => defM_len as Q E (hm_Wish_cases as Q E w)

def m_AllWithin_cases_L1 : MS := (sDrop (mApp 3 (mTup (mCons (mC (.int 0)) (mCons (mFz (mLst (mCons (mFz (mMake 0 ds_TrialU_initU [] (bCo (mVar 1) (bCo (mVar 2) (bCo (mC (.bl false)) bNo))))) mNil))) mNil)))))
def m_AllWithin_cases_2 : MS := (sRet (mVarF 3))
def m_AllWithin_cases_1 : MS := sSeq (sFor (iL (mFld 6 1 (mVar 0))) (gTu 2 (gCo (gSet 1) (gCo (gSet 2) gNo))) m_AllWithin_cases_L1) m_AllWithin_cases_2
def m_AllWithin_cases : MS := sSeq (sAsg (mLst (mCons (mTup (mCons (mC (.int 1)) (mCons (mFz (mLc0 [1, 2] (iL (mFld 6 1 (mVar 0))) (gTu 2 (gCo (gSet 1) (gCo (gSet 2) gNo))) mYes (mFz (mMake 0 ds_TrialU_initU [] (bCo (mVar 1) (bCo (mVar 2) (bCo (mC (.bl true)) bNo))))))) mNil))) mNil)) (gSet 3)) m_AllWithin_cases_1
@[irreducible] def ds_AllWithin_cases : M Sl := defM 1 4 m_AllWithin_cases
theorem hm_AllWithin_cases : ∀ as Q E, ds_AllWithin_cases.wp as Q E → (defM 1 4 m_AllWithin_cases).wp as Q E := by unfold ds_AllWithin_cases; exact fun _ _ _ w => w
theorem mh_AllWithin_cases {as : List Sl} {Q : Sl → List Sl → Prop} {E : Er → List Sl → Prop} (h : (defM 1 4 m_AllWithin_cases).wp as Q E) : ds_AllWithin_cases.wp as Q E := by unfold ds_AllWithin_cases; exact h
theorem hl_AllWithin_cases : ∀ as Q E, ds_AllWithin_cases.wp as Q E → as.length = 1 := fun as Q E w => defM_len as Q E (hm_AllWithin_cases as Q E w)

def m_SomeWithin_cases_2 : MS := (sRet (mVarF 3))
def m_SomeWithin_cases_1 : MS := sSeq (sDrop (mApp 3 (mTup (mCons (mC (.int 0)) (mCons (mFz (mLc0 [1, 2] (iL (mFld 7 1 (mVar 0))) (gTu 2 (gCo (gSet 1) (gCo (gSet 2) gNo))) mYes (mFz (mMake 0 ds_TrialU_initU [] (bCo (mVar 1) (bCo (mVar 2) (bCo (mC (.bl false)) bNo))))))) mNil))))) m_SomeWithin_cases_2
def m_SomeWithin_cases : MS := sSeq (sAsg (mLc0 [1, 2] (iL (mFld 7 1 (mVar 0))) (gTu 2 (gCo (gSet 1) (gCo (gSet 2) gNo))) mYes (mTup (mCons (mC (.int 1)) (mCons (mFz (mLst (mCons (mFz (mMake 0 ds_TrialU_initU [] (bCo (mVar 1) (bCo (mVar 2) (bCo (mC (.bl true)) bNo))))) mNil))) mNil)))) (gSet 3)) m_SomeWithin_cases_1
@[irreducible] def ds_SomeWithin_cases : M Sl := defM 1 4 m_SomeWithin_cases
theorem hm_SomeWithin_cases : ∀ as Q E, ds_SomeWithin_cases.wp as Q E → (defM 1 4 m_SomeWithin_cases).wp as Q E := by unfold ds_SomeWithin_cases; exact fun _ _ _ w => w
theorem mh_SomeWithin_cases {as : List Sl} {Q : Sl → List Sl → Prop} {E : Er → List Sl → Prop} (h : (defM 1 4 m_SomeWithin_cases).wp as Q E) : ds_SomeWithin_cases.wp as Q E := by unfold ds_SomeWithin_cases; exact h
theorem hl_SomeWithin_cases : ∀ as Q E, ds_SomeWithin_cases.wp as Q E → as.length = 1 := fun as Q E w => defM_len as Q E (hm_SomeWithin_cases as Q E w)

def m_Band_cases_L1_3 : MS := (sDrop (mApp 1 (mTup (mCons (mVar 2) (mCons (mVarF 3) mNil)))))
def m_Band_cases_L1_2 : MS := sSeq (sIf (mTest (mOp (op2 dLt) (mVar 2) (mUn (op1 dLen) (mFld 8 2 (mVar 0)))))
      (sDrop (mApp 3 (mFz (mMake 0 ds_TrialU_initU [] (bCo (mFld 8 1 (mVar 0)) (bCo (mOp (op2 dIxL) (mFld 8 2 (mVar 0)) (mVar 2)) (bCo (mC (.bl true)) bNo)))))))
      sNext) m_Band_cases_L1_3
def m_Band_cases_L1_1 : MS := sSeq (sIf (mTest (mOp (op2 dGt) (mVar 2) (mC (.int 0))))
      (sDrop (mApp 3 (mFz (mMake 0 ds_TrialU_initU [] (bCo (mFld 8 1 (mVar 0)) (bCo (mOp (op2 dIxL) (mFld 8 2 (mVar 0)) (mOp (op2 dSub) (mVar 2) (mC (.int 1)))) (bCo (mC (.bl false)) bNo)))))))
      sNext) m_Band_cases_L1_2
def m_Band_cases_L1 : MS := sSeq (sAsg (mLst mNil) (gSet 3)) m_Band_cases_L1_1
def m_Band_cases_2 : MS := (sRet (mVarF 1))
def m_Band_cases_1 : MS := sSeq (sFor (iR1 (mOp (op2 dAdd) (mUn (op1 dLen) (mFld 8 2 (mVar 0))) (mC (.int 1)))) (gSet 2) m_Band_cases_L1) m_Band_cases_2
def m_Band_cases : MS := sSeq (sAsg (mLst mNil) (gSet 1)) m_Band_cases_1
@[irreducible] def ds_Band_cases : M Sl := defM 1 4 m_Band_cases
theorem hm_Band_cases : ∀ as Q E, ds_Band_cases.wp as Q E → (defM 1 4 m_Band_cases).wp as Q E := by unfold ds_Band_cases; exact fun _ _ _ w => w
theorem mh_Band_cases {as : List Sl} {Q : Sl → List Sl → Prop} {E : Er → List Sl → Prop} (h : (defM 1 4 m_Band_cases).wp as Q E) : ds_Band_cases.wp as Q E := by unfold ds_Band_cases; exact h
theorem hl_Band_cases : ∀ as Q E, ds_Band_cases.wp as Q E → as.length = 1 := fun as Q E w => defM_len as Q E (hm_Band_cases as Q E w)

def m_Both_cases_L2 (R : M Sl) : MS := (sDrop (mApp 1 (mTup (mCons (mOp (op2 dAdd) (mOp (opC CMulX fun i j => .int (i * j)) (mVar 2) (mAlt (mFld 5 0 (mFld 9 2 (mVar 0))) (mAlt (mFld 6 0 (mFld 9 2 (mVar 0))) (mAlt (mFld 7 0 (mFld 9 2 (mVar 0))) (mAlt (mFld 8 0 (mFld 9 2 (mVar 0))) (mFld 9 0 (mFld 9 2 (mVar 0)))))))) (mVar 4)) (mCons (mFz (mOp (op2P pCat) (mVar 3) (mVar 5))) mNil)))))
def m_Both_cases_L1 (R : M Sl) : MS := (sFor (iL (mAlt (mMeth 5 ds_Wish_cases [] (mFld 9 2 (mVar 0)) bNo) (mAlt (mMeth 6 ds_AllWithin_cases [] (mFld 9 2 (mVar 0)) bNo) (mAlt (mMeth 7 ds_SomeWithin_cases [] (mFld 9 2 (mVar 0)) bNo) (mAlt (mMeth 8 ds_Band_cases [] (mFld 9 2 (mVar 0)) bNo) (mMeth 9 R [] (mFld 9 2 (mVar 0)) bNo)))))) (gTu 2 (gCo (gSet 4) (gCo (gSet 5) gNo))) (m_Both_cases_L2 R))
def m_Both_cases_2 (R : M Sl) : MS := (sRet (mVarF 1))
def m_Both_cases_1 (R : M Sl) : MS := sSeq (sFor (iL (mAlt (mMeth 5 ds_Wish_cases [] (mFld 9 1 (mVar 0)) bNo) (mAlt (mMeth 6 ds_AllWithin_cases [] (mFld 9 1 (mVar 0)) bNo) (mAlt (mMeth 7 ds_SomeWithin_cases [] (mFld 9 1 (mVar 0)) bNo) (mAlt (mMeth 8 ds_Band_cases [] (mFld 9 1 (mVar 0)) bNo) (mMeth 9 R [] (mFld 9 1 (mVar 0)) bNo)))))) (gTu 2 (gCo (gSet 2) (gCo (gSet 3) gNo))) (m_Both_cases_L1 R)) (m_Both_cases_2 R)
def m_Both_cases (R : M Sl) : MS := sSeq (sAsg (mLst mNil) (gSet 1)) (m_Both_cases_1 R)
def dn_Both_cases : Nat → M Sl
  | 0 => M.stuck
  | n + 1 => defM 1 6 (m_Both_cases (dn_Both_cases n))
@[irreducible] def ds_Both_cases (n : Nat) : M Sl := dn_Both_cases n
theorem dx_Both_cases (n : Nat) : ds_Both_cases (n + 1) = defM 1 6 (m_Both_cases (ds_Both_cases n)) := by unfold ds_Both_cases; rfl
theorem ds0_Both_cases : ds_Both_cases 0 = M.stuck := by unfold ds_Both_cases; rfl
theorem hm_Both_cases (n : Nat) : ∀ as Q E, (ds_Both_cases (n + 1)).wp as Q E → (defM 1 6 (m_Both_cases (ds_Both_cases n))).wp as Q E := by intro as Q E; rw [dx_Both_cases]; exact id
theorem mh_Both_cases {n : Nat} {as : List Sl} {Q : Sl → List Sl → Prop} {E : Er → List Sl → Prop} (h : (defM 1 6 (m_Both_cases (ds_Both_cases n))).wp as Q E) : (ds_Both_cases (n + 1)).wp as Q E := by rw [dx_Both_cases]; exact h
theorem hl_Both_cases (n : Nat) : ∀ as Q E, (ds_Both_cases (n + 1)).wp as Q E → as.length = 1 := fun as Q E w => defM_len as Q E (hm_Both_cases n as Q E w)
theorem ex_Both_cases : ∃ R : M Sl, R = ds_Both_cases 4 := ⟨_, rfl⟩
noncomputable def dd_Both_cases : M Sl := Classical.choose ex_Both_cases
theorem dd_Both_cases_eq : dd_Both_cases = ds_Both_cases 4 := Classical.choose_spec ex_Both_cases

theorem size_of {w : Wi} {e : ME} {ρ : Dl.Env} {Q : Sl → Dl.Env → Prop} {E : Er → Dl.Env → Prop} (he : ∀ (Q' : Sl → Dl.Env → Prop) (E' : Er → Dl.Env → Prop), Q' (.sh w.d) ρ → e.wp ρ Q' E') (k : Q (.sh (.int w.size)) ρ) :
    (mAlt (mFld 5 0 e) (mAlt (mFld 6 0 e) (mAlt (mFld 7 0 e) (mAlt (mFld 8 0 e) (mFld 9 0 e))))).wp ρ Q E := by
  cases w with
  | non => exact .inl (he _ _ k)
  | all ps => exact .inr (.inl (he _ _ k))
  | som ps => exact .inr (.inr (.inl (he _ _ k)))
  | band p cs => exact .inr (.inr (.inr (.inl (he _ _ k))))
  | both a b => exact .inr (.inr (.inr (.inr (he _ _ k))))
theorem size_mul {a b : Wi} (h : a.num * b.num < 900) : CMulX a.size b.size := by
  have a1 := a.size_num
  have b1 := b.size_num
  have a2 := a.size_pos
  have b2 := b.size_pos
  have a3 : a.num < 900 := Nat.lt_of_le_of_lt (Nat.le_mul_of_pos_right _ b.num_pos) h
  have b3 : b.num < 900 := Nat.lt_of_le_of_lt (Nat.le_mul_of_pos_left _ a.num_pos) h
  exact mulx_ok (a := 10) (b := 10) (by omega) (by omega) (by omega)
theorem both_init {a b : Wi} {v : V} {Q : Sl → List Sl → Prop} {E : Er → List Sl → Prop} (hm : a.num * b.num < 900) (k : Q (.sh .non) [.le v (.oo [.fr, .fr, .fr]) (Wi.both a b).d, .sh a.d, .sh b.d]) :
    ds_BothU_initU.wp [.le v (.oo []) (.obj 9 []), .sh a.d, .sh b.d] Q E := by
  refine mh_BothU_initU ?_
  refine size_of (w := a) (fun _ _ q => q) ?_
  refine size_of (w := b) (fun _ _ q => q) ?_
  refine ⟨size_mul hm, ?_⟩
  refine winit_ok (.inr (.inr (.inr (.inr rfl)))) ?_
  exact ⟨rfl, k⟩
theorem new_both {a b : Wi} {ρ : Dl.Env} {Q : Sl → Dl.Env → Prop} {E : Er → Dl.Env → Prop} (hm : a.num * b.num < 900) (k : Q (.ow (.oo [.fr, .fr, .fr]) (Wi.both a b).d) ρ) : (newI 9 ds_BothU_initU [] [.s (.sh a.d), .s (.sh b.d)]).wp ρ Q E := by
  rw [newI_eq]
  exact fun v => both_init hm k
theorem trs_lc {r : Bool} {ps : List Pr} {s0 s3 : Sl} {M : List D → Dl.Env → Prop} {E : Er → Dl.Env → Prop} (hl : ps.length < 900) (k : M ((ps.map (prT r)).map tD) [s0, .un, .un, s3]) :
    lcM [1, 2] (gTu 2 (gCo (gSet 1) (gCo (gSet 2) gNo))) mYes (mFz (mMake 0 ds_TrialU_initU [] (bCo (mVar 1) (bCo (mVar 2) (bCo (mC (.bl r)) bNo))))) (ps.map prD) [] [s0, .un, .un, s3] M E := by
  refine lc_inv (fun i acc ρ => acc = ((ps.take i).map (prT r)).map tD ∧ ρ = [s0, .un, .un, s3]) ⟨rfl, rfl⟩ ?_ ?_
  · rintro i d acc ρ hi ⟨rfl, rfl⟩
    obtain ⟨t, et, rfl⟩ := map_at hi
    refine new_tr (t := prT r t) ?_
    refine ⟨?_, ?_, rfl⟩
    · rw [List.length_map, List.length_map, List.length_take]
      exact small_line (by omega)
    · rw [take_snoc et, List.map_append, List.map_append]
      rfl
  · rintro acc ρ ⟨rfl, rfl⟩
    rw [List.length_map, List.take_length]
    exact k
theorem all_cases {ps : List Pr} {Q : Sl → List Sl → Prop} {E : Er → List Sl → Prop} (hl : ps.length < 898) (k : Q (.sh (.lst ((Wi.all ps).cases.map caD))) [.sh (Wi.all ps).d]) : ds_AllWithin_cases.wp [.sh (Wi.all ps).d] Q E := by
  refine mh_AllWithin_cases ?_
  refine trs_lc (by omega) ?_
  show m_AllWithin_cases_1.wp [.sh (Wi.all ps).d, .un, .un, .ow (.ol .fr) (.lst ((((1, ps.map (prT true)) : Cs) :: ([] : List Pr).map fun p => (0, [prT false p])).map caD))] _
  refine cut (fun r => ∃ s1 s2, r = [.sh (Wi.all ps).d, s1, s2, .ow (.ol .fr) (.lst ((Wi.all ps).cases.map caD))]) ?_ ?_
  · refine for_inv (fun i r => ∃ s1 s2, r = [.sh (Wi.all ps).d, s1, s2, .ow (.ol .fr) (.lst ((((1, ps.map (prT true)) : Cs) :: (ps.take i).map fun p => (0, [prT false p])).map caD))]) ⟨_, _, rfl⟩ ?_ ?_
    · rintro i d r hi ⟨s1, s2, rfl⟩
      obtain ⟨p, et, rfl⟩ := map_at hi
      refine new_tr (t := prT false p) ?_
      refine ⟨?_, .sh (.int ((p.1 : Nat) : Int)), .sh (.int p.2), ?_⟩
      · rw [List.length_map, List.length_cons, List.length_map, List.length_take]
        exact small_line (by omega)
      · rw [take_snoc et, List.map_append, List.map_cons, List.map_cons, List.map_append]
        rfl
    · rintro r ⟨s1, s2, rfl⟩
      rw [List.length_map, List.take_length]
      exact ⟨_, _, rfl⟩
  rintro _ ⟨s1, s2, rfl⟩
  exact k
theorem som_cases {ps : List Pr} {Q : Sl → List Sl → Prop} {E : Er → List Sl → Prop} (hl : ps.length < 898) (k : Q (.sh (.lst ((Wi.som ps).cases.map caD))) [.sh (Wi.som ps).d]) : ds_SomeWithin_cases.wp [.sh (Wi.som ps).d] Q E := by
  refine mh_SomeWithin_cases ?_
  refine lc_inv (fun i acc ρ => acc = ((ps.take i).map fun p => ((1, [prT true p]) : Cs)).map caD ∧ ρ = [.sh (Wi.som ps).d, .un, .un, .un]) ⟨rfl, rfl⟩ ?_ ?_
  · rintro i d acc ρ hi ⟨rfl, rfl⟩
    obtain ⟨t, et, rfl⟩ := map_at hi
    refine new_tr (t := prT true t) ?_
    refine ⟨?_, ?_, rfl⟩
    · rw [List.length_map, List.length_map, List.length_take]
      exact small_line (by omega)
    · rw [take_snoc et, List.map_append, List.map_append]
      rfl
  · rintro acc ρ ⟨rfl, rfl⟩
    rw [List.length_map, List.take_length]
    refine trs_lc (by omega) ?_
    refine ⟨?_, ?_⟩
    · rw [List.length_map, List.length_map]
      exact small_line (by omega)
    · have e : (Wi.som ps).cases.map caD = (ps.map fun p => ((1, [prT true p]) : Cs)).map caD ++ [caD (0, ps.map (prT false))] := by
        unfold Wi.cases
        rw [List.map_append]
        rfl
      rw [e] at k
      exact k
theorem dix_ints {cs : List Int} {i : Int} (h0 : 0 ≤ i) (h1 : i < cs.length) : dIxL (.lst (cs.map D.int)) (.int i) = some (.int (cs.getD i.toNat 0)) := atI_map h0 h1
theorem band_cases {p : Nat} {cs : List Int} {Q : Sl → List Sl → Prop} {E : Er → List Sl → Prop} (hl : cs.length < 898) (k : Q (.sh (.lst ((Wi.band p cs).cases.map caD))) [.sh (Wi.band p cs).d]) : ds_Band_cases.wp [.sh (Wi.band p cs).d] Q E := by
  refine mh_Band_cases ?_
  show m_Band_cases_1.wp [.sh (Wi.band p cs).d, .ow (.ol .fr) (.lst (((List.range 0).map (bdC p cs)).map caD)), .un, .un] _
  refine cut (fun r => ∃ s2 s3, r = [.sh (Wi.band p cs).d, .ow (.ol .fr) (.lst ((Wi.band p cs).cases.map caD)), s2, s3]) ?_ ?_
  · refine ⟨⟨by rw [List.length_map]; omega, by rw [List.length_map]; omega⟩, ?_⟩
    refine for_inv (fun i r => ∃ s2 s3, r = [.sh (Wi.band p cs).d, .ow (.ol .fr) (.lst (((List.range i).map (bdC p cs)).map caD)), s2, s3]) ⟨_, _, rfl⟩ ?_ ?_
    · rintro i d r hd ⟨s2, s3, rfl⟩
      obtain ⟨hi, rfl⟩ := rg_at hd
      rw [List.length_map] at hi
      rw [Int.zero_add]
      have hi' : i ≤ cs.length := by omega
      show m_Band_cases_L1_1.wp [.sh (Wi.band p cs).d, .ow (.ol .fr) (.lst (((List.range i).map (bdC p cs)).map caD)), .sh (.int ((i : Nat) : Int)), .ow (.ol .fr) (.lst [])] _
      refine cut (fun r => r = [.sh (Wi.band p cs).d, .ow (.ol .fr) (.lst (((List.range i).map (bdC p cs)).map caD)), .sh (.int ((i : Nat) : Int)), .ow (.ol .fr) (.lst ((if 0 < i then [((p, cs.getD (i - 1) 0, false) : Tr)] else []).map tD))]) ?_ ?_
      · refine if2 (fun z => ?_) (fun z => ?_)
        · have z' : 0 < i := by have := dt z; omega
          refine op2_ok (dix_ints (by omega) (by omega)) ?_
          rw [if_pos z', show ((i : Nat) : Int) - 1 = ((i - 1 : Nat) : Int) by omega, Int.toNat_natCast]
          refine new_tr (t := (p, cs.getD (i - 1) 0, false)) ?_
          exact ⟨small_line (by show 0 < 1000; decide), rfl⟩
        · have z' : ¬ 0 < i := fun q => df z (by omega)
          rw [if_neg z']
          rfl
      rintro _ rfl
      refine cut (fun r => r = [.sh (Wi.band p cs).d, .ow (.ol .fr) (.lst (((List.range i).map (bdC p cs)).map caD)), .sh (.int ((i : Nat) : Int)), .ow (.ol .fr) (.lst ((bdC p cs i).2.map tD))]) ?_ ?_
      · unfold bdC
        rw [List.map_append]
        refine if2 (fun z => ?_) (fun z => ?_)
        · have z' : i < cs.length := by have := dt z; rw [List.length_map] at this; omega
          refine op2_ok (dix_ints (by omega) (by omega)) ?_
          rw [if_pos z', Int.toNat_natCast]
          refine new_tr (t := (p, cs.getD i 0, true)) ?_
          refine ⟨small_line ?_, rfl⟩
          rw [List.length_map]
          split <;> simp
        · have z' : ¬ i < cs.length := fun q => df z (by rw [List.length_map]; omega)
          rw [if_neg z', List.map_nil, List.append_nil]
          rfl
      rintro _ rfl
      refine ⟨?_, .sh (.int ((i : Nat) : Int)), .sh (.lst ((bdC p cs i).2.map tD)), ?_⟩
      · rw [List.length_map, List.length_map, List.length_range]
        exact small_line (by omega)
      · rw [List.range_succ, List.map_append, List.map_append]
        rfl
    · rintro r ⟨s2, s3, rfl⟩
      refine ⟨s2, s3, ?_⟩
      rw [rgD_len, List.length_map]
      have e : (((cs.length : Nat) : Int) + 1).toNat = cs.length + 1 := by omega
      rw [e]
      rfl
  rintro _ ⟨s2, s3, rfl⟩
  exact k
/-- a case of both -/
def bothC (v : Int) (x y : Cs) : Cs := (x.1 * v + y.1, x.2 ++ y.2)
theorem both_eq {a b : Wi} : (Wi.both a b).cases = a.cases.flatMap fun x => b.cases.map (bothC b.size x) := rfl
theorem ans_lt {w : Wi} : ∀ c ∈ w.cases, 0 ≤ c.1 ∧ c.1 < w.size := by
  induction w with
  | non => intro c h; rw [List.mem_singleton.mp h]; exact ⟨Int.le_refl _, by show (0 : Int) < 1; decide⟩
  | all ps =>
    intro c h
    rcases List.mem_cons.mp h with rfl | h
    · exact ⟨by show (0 : Int) ≤ 1; decide, by show (1 : Int) < 2; decide⟩
    · obtain ⟨p, _, rfl⟩ := List.mem_map.mp h
      exact ⟨Int.le_refl _, by show (0 : Int) < 2; decide⟩
  | som ps =>
    intro c h
    rcases List.mem_append.mp h with h | h
    · obtain ⟨p, _, rfl⟩ := List.mem_map.mp h
      exact ⟨by show (0 : Int) ≤ 1; decide, by show (1 : Int) < 2; decide⟩
    · rw [List.mem_singleton.mp h]
      exact ⟨Int.le_refl _, by show (0 : Int) < 2; decide⟩
  | band p cs =>
    intro c h
    obtain ⟨i, hi, rfl⟩ := List.mem_map.mp h
    rw [List.mem_range] at hi
    exact ⟨by show (0 : Int) ≤ ((i : Nat) : Int); omega, by show ((i : Nat) : Int) < (cs.length : Int) + 1; omega⟩
  | both a b iha ihb =>
    intro c h
    obtain ⟨x, hx, h⟩ := List.mem_flatMap.mp h
    obtain ⟨y, hy, rfl⟩ := List.mem_map.mp h
    obtain ⟨x0, x1⟩ := iha x hx
    obtain ⟨y0, y1⟩ := ihb y hy
    have bp := b.size_pos
    have m1 := Int.mul_nonneg x0 (Int.le_of_lt bp)
    have m2 : x.1 * b.size ≤ (a.size - 1) * b.size := Int.mul_le_mul_of_nonneg_right (by omega) (by omega)
    rw [Int.sub_mul, Int.one_mul] at m2
    refine ⟨by show 0 ≤ x.1 * b.size + y.1; omega, ?_⟩
    show x.1 * b.size + y.1 < a.size * b.size
    omega
theorem size_small {a b : Wi} (h : a.num * b.num < 900) : a.size < 900 ∧ b.size < 900 := by
  have a1 := a.size_num
  have b1 := b.size_num
  have a3 : a.num < 900 := Nat.lt_of_le_of_lt (Nat.le_mul_of_pos_right _ b.num_pos) h
  have b3 : b.num < 900 := Nat.lt_of_le_of_lt (Nat.le_mul_of_pos_left _ a.num_pos) h
  omega
/-- what answers for a wish, one step down -/
def CasesOk (R : M Sl) (w : Wi) : Prop := ∀ a b, w = .both a b → ∀ (Q : Sl → List Sl → Prop) (E : Er → List Sl → Prop), Q (.sh (.lst (w.cases.map caD))) [.sh w.d] → R.wp [.sh w.d] Q E
theorem cases_of {R : M Sl} {w : Wi} {e : ME} {ρ : Dl.Env} {Q : Sl → Dl.Env → Prop} {E : Er → Dl.Env → Prop} (hs : w.sm) (hR : CasesOk R w) (he : ∀ (Q' : Sl → Dl.Env → Prop) (E' : Er → Dl.Env → Prop), Q' (.sh w.d) ρ → e.wp ρ Q' E') (k : Q (.sh (.lst (w.cases.map caD))) ρ) :
    (mAlt (mMeth 5 ds_Wish_cases [] e bNo) (mAlt (mMeth 6 ds_AllWithin_cases [] e bNo) (mAlt (mMeth 7 ds_SomeWithin_cases [] e bNo) (mAlt (mMeth 8 ds_Band_cases [] e bNo) (mMeth 9 R [] e bNo))))).wp ρ Q E := by
  cases w with
  | non => exact .inl (he _ _ (mh_Wish_cases k))
  | all ps => exact .inr (.inl (he _ _ (all_cases (by have h : ps.length + 2 < 900 := hs.1; omega) k)))
  | som ps => exact .inr (.inr (.inl (he _ _ (som_cases (by have h : ps.length + 2 < 900 := hs.1; omega) k))))
  | band p cs => exact .inr (.inr (.inr (.inl (he _ _ (band_cases hs k)))))
  | both a b => exact .inr (.inr (.inr (.inr (he _ _ (hR a b rfl _ _ k)))))
theorem both_cases : ∀ (n : Nat) (a b : Wi), (Wi.both a b).dep ≤ n → (Wi.both a b).sm → CasesOk (ds_Both_cases n) (.both a b)
  | 0, a, b, hd, _ => by
    have : max a.dep b.dep + 1 ≤ 0 := hd
    omega
  | n + 1, a, b, hd, hs => by
    have hd' : max a.dep b.dep + 1 ≤ n + 1 := hd
    obtain ⟨sa, sb, hn, ht⟩ := hs
    have ca : CasesOk (ds_Both_cases n) a := fun u v e => by
      subst e
      exact both_cases n u v (by omega) sa u v rfl
    have cb : CasesOk (ds_Both_cases n) b := fun u v e => by
      subst e
      exact both_cases n u v (by omega) sb u v rfl
    intro u v e Q E k
    cases e
    refine mh_Both_cases ?_
    show (m_Both_cases_1 (ds_Both_cases n)).wp [.sh (Wi.both a b).d, .ow (.ol .fr) (.lst (([] : List Cs).map caD)), .un, .un, .un, .un] _
    have la := a.len_cases
    have lb := b.len_cases
    have hlen : ∀ i j : Nat, i < a.cases.length → j < b.cases.length → ((a.cases.take i).flatMap (fun x => b.cases.map (bothC b.size x)) ++ (b.cases.take j).map (bothC b.size (a.cases.getD i (0, [])))).length < 900 := by
      intro i j hi hj
      have h : ∀ l : List Cs, (l.flatMap fun x => b.cases.map (bothC b.size x)).length = l.length * b.cases.length := by
        intro l
        induction l with
        | nil => simp
        | cons x l ih => rw [List.flatMap_cons, List.length_append, ih, List.length_map, List.length_cons, Nat.succ_mul]; omega
      rw [List.length_append, h, List.length_map, List.length_take, List.length_take]
      have e1 : min i a.cases.length = i := by omega
      have e2 : min j b.cases.length = j := by omega
      rw [e1, e2]
      have h1 : (i + 1) * b.cases.length ≤ a.num * b.num := Nat.mul_le_mul (by omega) lb
      rw [Nat.succ_mul] at h1
      omega
    refine cut (fun r => ∃ s2 s3 s4 s5, r = [.sh (Wi.both a b).d, .ow (.ol .fr) (.lst ((Wi.both a b).cases.map caD)), s2, s3, s4, s5]) ?_ ?_
    · refine cases_of (w := a) sa ca (fun _ _ q => q) ?_
      refine for_inv (fun i r => ∃ s2 s3 s4 s5, r = [.sh (Wi.both a b).d, .ow (.ol .fr) (.lst (((a.cases.take i).flatMap fun x => b.cases.map (bothC b.size x)).map caD)), s2, s3, s4, s5]) ⟨_, _, _, _, rfl⟩ ?_ ?_
      · rintro i d r hi ⟨s2, s3, s4, s5, rfl⟩
        obtain ⟨x, ex, rfl⟩ := map_at hi
        have il := get_lt ex
        show (m_Both_cases_L1 (ds_Both_cases n)).wp [.sh (Wi.both a b).d, .ow (.ol .fr) (.lst (((a.cases.take i).flatMap (fun x => b.cases.map (bothC b.size x))).map caD)), .sh (.int x.1), .sh (.lst (x.2.map tD)), s4, s5] _
        refine cases_of (w := b) sb cb (fun _ _ q => q) ?_
        refine for_inv (fun j r => ∃ s4 s5, r = [.sh (Wi.both a b).d, .ow (.ol .fr) (.lst (((a.cases.take i).flatMap (fun x => b.cases.map (bothC b.size x)) ++ (b.cases.take j).map (bothC b.size x)).map caD)), .sh (.int x.1), .sh (.lst (x.2.map tD)), s4, s5]) ⟨s4, s5, by rw [List.take_zero, List.map_nil, List.append_nil]⟩ ?_ ?_
        · rintro j d r hj ⟨s4, s5, rfl⟩
          obtain ⟨y, ey, rfl⟩ := map_at hj
          have jl := get_lt ey
          obtain ⟨x0, x1⟩ := ans_lt x (List.mem_of_getElem? ex)
          obtain ⟨y0, y1⟩ := ans_lt y (List.mem_of_getElem? ey)
          obtain ⟨za, zb⟩ := size_small hn
          have bp := b.size_pos
          refine size_of (w := b) (fun _ _ q => q) ?_
          refine ⟨mulx_ok (a := 10) (b := 10) (by omega) (by omega) (by omega), ?_⟩
          have tx := a.len_tl x (List.mem_of_getElem? ex)
          have ty := b.len_tl y (List.mem_of_getElem? ey)
          refine ⟨by rw [List.length_map, List.length_map]; exact Nat.le_of_lt (small_line (by omega)), ?_⟩
          refine ⟨?_, .sh (.int y.1), .sh (.lst (y.2.map tD)), ?_⟩
          · have := hlen i j il jl
            rw [List.length_map, show a.cases.getD i (0, []) = x by rw [List.getD_eq_getElem?_getD, ex]; rfl] at *
            exact small_line (by omega)
          · rw [take_snoc ey, List.map_append (l₁ := b.cases.take j), ← List.append_assoc, List.map_append (l₁ := _ ++ _)]
            have e : [bothC b.size x y].map caD = [D.tup [.int (x.1 * b.size + y.1), .lst (x.2.map tD ++ y.2.map tD)]] := by
              show [D.tup [.int (x.1 * b.size + y.1), .lst ((x.2 ++ y.2).map tD)]] = _
              rw [List.map_append]
            rw [List.map_cons, List.map_nil, e]
            rfl
        · rintro r ⟨s4, s5, rfl⟩
          refine ⟨.sh (.int x.1), .sh (.lst (x.2.map tD)), s4, s5, ?_⟩
          rw [List.length_map, List.take_length, take_snoc ex, List.flatMap_append]
          simp only [List.flatMap_cons, List.flatMap_nil, List.append_nil]
      · rintro r ⟨s2, s3, s4, s5, rfl⟩
        rw [List.length_map, List.take_length]
        exact ⟨s2, s3, s4, s5, rfl⟩
    rintro _ ⟨s2, s3, s4, s5, rfl⟩
    exact k
/-! ### wishes: places, answer, & -/
def m_Wish_places : MS := (sRet (mLst mNil))
@[irreducible] def ds_Wish_places : M Sl := defM 1 1 m_Wish_places
theorem hm_Wish_places : ∀ as Q E, ds_Wish_places.wp as Q E → (defM 1 1 m_Wish_places).wp as Q E := by unfold ds_Wish_places; exact fun _ _ _ w => w
theorem mh_Wish_places {as : List Sl} {Q : Sl → List Sl → Prop} {E : Er → List Sl → Prop} (h : (defM 1 1 m_Wish_places).wp as Q E) : ds_Wish_places.wp as Q E := by unfold ds_Wish_places; exact h
theorem hl_Wish_places : ∀ as Q E, ds_Wish_places.wp as Q E → as.length = 1 := fun as Q E w => defM_len as Q E (hm_Wish_places as Q E w)

def m_AllWithin_places : MS := (sRet (mLc0 [1, 2] (iL (mFld 6 1 (mVar 0))) (gTu 2 (gCo (gSet 1) (gCo (gSet 2) gNo))) mYes (mVar 1)))
@[irreducible] def ds_AllWithin_places : M Sl := defM 1 3 m_AllWithin_places
theorem hm_AllWithin_places : ∀ as Q E, ds_AllWithin_places.wp as Q E → (defM 1 3 m_AllWithin_places).wp as Q E := by unfold ds_AllWithin_places; exact fun _ _ _ w => w
theorem mh_AllWithin_places {as : List Sl} {Q : Sl → List Sl → Prop} {E : Er → List Sl → Prop} (h : (defM 1 3 m_AllWithin_places).wp as Q E) : ds_AllWithin_places.wp as Q E := by unfold ds_AllWithin_places; exact h
theorem hl_AllWithin_places : ∀ as Q E, ds_AllWithin_places.wp as Q E → as.length = 1 := fun as Q E w => defM_len as Q E (hm_AllWithin_places as Q E w)

def m_SomeWithin_places : MS := (sRet (mLc0 [1, 2] (iL (mFld 7 1 (mVar 0))) (gTu 2 (gCo (gSet 1) (gCo (gSet 2) gNo))) mYes (mVar 1)))
@[irreducible] def ds_SomeWithin_places : M Sl := defM 1 3 m_SomeWithin_places
theorem hm_SomeWithin_places : ∀ as Q E, ds_SomeWithin_places.wp as Q E → (defM 1 3 m_SomeWithin_places).wp as Q E := by unfold ds_SomeWithin_places; exact fun _ _ _ w => w
theorem mh_SomeWithin_places {as : List Sl} {Q : Sl → List Sl → Prop} {E : Er → List Sl → Prop} (h : (defM 1 3 m_SomeWithin_places).wp as Q E) : ds_SomeWithin_places.wp as Q E := by unfold ds_SomeWithin_places; exact h
theorem hl_SomeWithin_places : ∀ as Q E, ds_SomeWithin_places.wp as Q E → as.length = 1 := fun as Q E w => defM_len as Q E (hm_SomeWithin_places as Q E w)

def m_Band_places : MS := (sRet (mLst (mCons (mFld 8 1 (mVar 0)) mNil)))
@[irreducible] def ds_Band_places : M Sl := defM 1 1 m_Band_places
theorem hm_Band_places : ∀ as Q E, ds_Band_places.wp as Q E → (defM 1 1 m_Band_places).wp as Q E := by unfold ds_Band_places; exact fun _ _ _ w => w
theorem mh_Band_places {as : List Sl} {Q : Sl → List Sl → Prop} {E : Er → List Sl → Prop} (h : (defM 1 1 m_Band_places).wp as Q E) : ds_Band_places.wp as Q E := by unfold ds_Band_places; exact h
theorem hl_Band_places : ∀ as Q E, ds_Band_places.wp as Q E → as.length = 1 := fun as Q E w => defM_len as Q E (hm_Band_places as Q E w)

def m_Both_places (R : M Sl) : MS := (sRet (mOp (op2P pCat) (mFz (mAlt (mMeth 5 ds_Wish_places [] (mFld 9 1 (mVar 0)) bNo) (mAlt (mMeth 6 ds_AllWithin_places [] (mFld 9 1 (mVar 0)) bNo) (mAlt (mMeth 7 ds_SomeWithin_places [] (mFld 9 1 (mVar 0)) bNo) (mAlt (mMeth 8 ds_Band_places [] (mFld 9 1 (mVar 0)) bNo) (mMeth 9 R [] (mFld 9 1 (mVar 0)) bNo)))))) (mFz (mAlt (mMeth 5 ds_Wish_places [] (mFld 9 2 (mVar 0)) bNo) (mAlt (mMeth 6 ds_AllWithin_places [] (mFld 9 2 (mVar 0)) bNo) (mAlt (mMeth 7 ds_SomeWithin_places [] (mFld 9 2 (mVar 0)) bNo) (mAlt (mMeth 8 ds_Band_places [] (mFld 9 2 (mVar 0)) bNo) (mMeth 9 R [] (mFld 9 2 (mVar 0)) bNo))))))))
def dn_Both_places : Nat → M Sl
  | 0 => M.stuck
  | n + 1 => defM 1 1 (m_Both_places (dn_Both_places n))
@[irreducible] def ds_Both_places (n : Nat) : M Sl := dn_Both_places n
theorem dx_Both_places (n : Nat) : ds_Both_places (n + 1) = defM 1 1 (m_Both_places (ds_Both_places n)) := by unfold ds_Both_places; rfl
theorem ds0_Both_places : ds_Both_places 0 = M.stuck := by unfold ds_Both_places; rfl
theorem hm_Both_places (n : Nat) : ∀ as Q E, (ds_Both_places (n + 1)).wp as Q E → (defM 1 1 (m_Both_places (ds_Both_places n))).wp as Q E := by intro as Q E; rw [dx_Both_places]; exact id
theorem mh_Both_places {n : Nat} {as : List Sl} {Q : Sl → List Sl → Prop} {E : Er → List Sl → Prop} (h : (defM 1 1 (m_Both_places (ds_Both_places n))).wp as Q E) : (ds_Both_places (n + 1)).wp as Q E := by rw [dx_Both_places]; exact h
theorem hl_Both_places (n : Nat) : ∀ as Q E, (ds_Both_places (n + 1)).wp as Q E → as.length = 1 := fun as Q E w => defM_len as Q E (hm_Both_places n as Q E w)
theorem ex_Both_places : ∃ R : M Sl, R = ds_Both_places 4 := ⟨_, rfl⟩
noncomputable def dd_Both_places : M Sl := Classical.choose ex_Both_places
theorem dd_Both_places_eq : dd_Both_places = ds_Both_places 4 := Classical.choose_spec ex_Both_places

def m_Wish_answer_L1 : MS := (sIf (mTest (mUn (op1 (dBools fun bs => bs.all id)) (mFz (mLc0 [4] (iL (mVar 3)) (gSet 4) mYes (mMeth 0 ds_Trial_agrees [] (mVar 4) (bCo (mVar 1) bNo))))))
      (sRet (mVar 2))
      sNext)
def m_Wish_answer_1 : MS := (sRet (mC (.int 0)))
def m_Wish_answer : MS := sSeq (sFor (iL (mAlt (mMeth 5 ds_Wish_cases [] (mVar 0) bNo) (mAlt (mMeth 6 ds_AllWithin_cases [] (mVar 0) bNo) (mAlt (mMeth 7 ds_SomeWithin_cases [] (mVar 0) bNo) (mAlt (mMeth 8 ds_Band_cases [] (mVar 0) bNo) (mMeth 9 dd_Both_cases [] (mVar 0) bNo)))))) (gTu 2 (gCo (gSet 2) (gCo (gSet 3) gNo))) m_Wish_answer_L1) m_Wish_answer_1
@[irreducible] def ds_Wish_answer : M Sl := defM 2 5 m_Wish_answer
theorem hm_Wish_answer : ∀ as Q E, ds_Wish_answer.wp as Q E → (defM 2 5 m_Wish_answer).wp as Q E := by unfold ds_Wish_answer; exact fun _ _ _ w => w
theorem mh_Wish_answer {as : List Sl} {Q : Sl → List Sl → Prop} {E : Er → List Sl → Prop} (h : (defM 2 5 m_Wish_answer).wp as Q E) : ds_Wish_answer.wp as Q E := by unfold ds_Wish_answer; exact h
theorem hl_Wish_answer : ∀ as Q E, ds_Wish_answer.wp as Q E → as.length = 2 := fun as Q E w => defM_len as Q E (hm_Wish_answer as Q E w)

def m_WishU_andU_1 : MS := (sRet (mFz (mMake 9 ds_BothU_initU [] (bCo (mVar 0) (bCo (mVar 1) bNo)))))
def m_WishU_andU : MS := sSeq (sIf (mNot (mTest (mUn (op1 (dIsO is_Wish ib_Wish)) (mVar 1))))
      sNever
      sNext) m_WishU_andU_1
@[irreducible] def ds_WishU_andU : M Sl := defM 2 2 m_WishU_andU
theorem hm_WishU_andU : ∀ as Q E, ds_WishU_andU.wp as Q E → (defM 2 2 m_WishU_andU).wp as Q E := by unfold ds_WishU_andU; exact fun _ _ _ w => w
theorem mh_WishU_andU {as : List Sl} {Q : Sl → List Sl → Prop} {E : Er → List Sl → Prop} (h : (defM 2 2 m_WishU_andU).wp as Q E) : ds_WishU_andU.wp as Q E := by unfold ds_WishU_andU; exact h
theorem hl_WishU_andU : ∀ as Q E, ds_WishU_andU.wp as Q E → as.length = 2 := fun as Q E w => defM_len as Q E (hm_WishU_andU as Q E w)

def plD (w : Wi) : List D := w.places.map fun p => D.int ((p : Nat) : Int)
theorem all_places {ps : List Pr} {Q : Sl → List Sl → Prop} {E : Er → List Sl → Prop} (hl : ps.length < 900) (k : Q (.ow (.ol .fr) (.lst (plD (.all ps)))) [.sh (Wi.all ps).d]) : ds_AllWithin_places.wp [.sh (Wi.all ps).d] Q E := by
  refine mh_AllWithin_places ?_
  refine lc_inv (fun i acc ρ => acc = (ps.take i).map (fun p => D.int ((p.1 : Nat) : Int)) ∧ ρ = [.sh (Wi.all ps).d, .un, .un]) ⟨rfl, rfl⟩ ?_ ?_
  · rintro i d acc ρ hi ⟨rfl, rfl⟩
    obtain ⟨t, et, rfl⟩ := map_at hi
    refine ⟨?_, ?_, rfl⟩
    · rw [List.length_map, List.length_take]
      exact small_line (by omega)
    · rw [take_snoc et, List.map_append]
      rfl
  · rintro acc ρ ⟨rfl, rfl⟩
    rw [List.length_map, List.take_length]
    have e : plD (.all ps) = ps.map fun p => D.int ((p.1 : Nat) : Int) := by unfold plD Wi.places; rw [List.map_map]; rfl
    rw [e] at k
    exact k
theorem som_places {ps : List Pr} {Q : Sl → List Sl → Prop} {E : Er → List Sl → Prop} (hl : ps.length < 900) (k : Q (.ow (.ol .fr) (.lst (plD (.som ps)))) [.sh (Wi.som ps).d]) : ds_SomeWithin_places.wp [.sh (Wi.som ps).d] Q E := by
  refine mh_SomeWithin_places ?_
  refine lc_inv (fun i acc ρ => acc = (ps.take i).map (fun p => D.int ((p.1 : Nat) : Int)) ∧ ρ = [.sh (Wi.som ps).d, .un, .un]) ⟨rfl, rfl⟩ ?_ ?_
  · rintro i d acc ρ hi ⟨rfl, rfl⟩
    obtain ⟨t, et, rfl⟩ := map_at hi
    refine ⟨?_, ?_, rfl⟩
    · rw [List.length_map, List.length_take]
      exact small_line (by omega)
    · rw [take_snoc et, List.map_append]
      rfl
  · rintro acc ρ ⟨rfl, rfl⟩
    rw [List.length_map, List.take_length]
    have e : plD (.som ps) = ps.map fun p => D.int ((p.1 : Nat) : Int) := by unfold plD Wi.places; rw [List.map_map]; rfl
    rw [e] at k
    exact k
def PlacesOk (R : M Sl) (w : Wi) : Prop := ∀ a b, w = .both a b → ∀ (Q : Sl → List Sl → Prop) (E : Er → List Sl → Prop), Q (.ow (.ol .fr) (.lst (plD w))) [.sh w.d] → R.wp [.sh w.d] Q E
theorem places_of {R : M Sl} {w : Wi} {e : ME} {ρ : Dl.Env} {Q : Sl → Dl.Env → Prop} {E : Er → Dl.Env → Prop} (hs : w.sm) (hR : PlacesOk R w) (he : ∀ (Q' : Sl → Dl.Env → Prop) (E' : Er → Dl.Env → Prop), Q' (.sh w.d) ρ → e.wp ρ Q' E') (k : Q (.ow (.ol .fr) (.lst (plD w))) ρ) :
    (mAlt (mMeth 5 ds_Wish_places [] e bNo) (mAlt (mMeth 6 ds_AllWithin_places [] e bNo) (mAlt (mMeth 7 ds_SomeWithin_places [] e bNo) (mAlt (mMeth 8 ds_Band_places [] e bNo) (mMeth 9 R [] e bNo))))).wp ρ Q E := by
  cases w with
  | non => exact .inl (he _ _ (mh_Wish_places k))
  | all ps => exact .inr (.inl (he _ _ (all_places (by have h : ps.length + 2 < 900 := hs.1; omega) k)))
  | som ps => exact .inr (.inr (.inl (he _ _ (som_places (by have h : ps.length + 2 < 900 := hs.1; omega) k))))
  | band p cs => exact .inr (.inr (.inr (.inl (he _ _ (mh_Band_places k)))))
  | both a b => exact .inr (.inr (.inr (.inr (he _ _ (hR a b rfl _ _ k)))))
theorem Wi.len_places : ∀ w : Wi, w.sm → w.places.length ≤ w.tl
  | .non, _ => Nat.le_refl _
  | .all ps, _ => by show (ps.map _).length ≤ ps.length + 1; rw [List.length_map]; omega
  | .som ps, _ => by show (ps.map _).length ≤ ps.length + 1; rw [List.length_map]; omega
  | .band _ _, _ => by show 1 ≤ 2; decide
  | .both a b, h => by
    show (a.places ++ b.places).length ≤ a.tl + b.tl
    rw [List.length_append]
    exact Nat.add_le_add (a.len_places h.1) (b.len_places h.2.1)
theorem both_places : ∀ (n : Nat) (a b : Wi), (Wi.both a b).dep ≤ n → (Wi.both a b).sm → PlacesOk (ds_Both_places n) (.both a b)
  | 0, a, b, hd, _ => by
    have : max a.dep b.dep + 1 ≤ 0 := hd
    omega
  | n + 1, a, b, hd, hs => by
    have hd' : max a.dep b.dep + 1 ≤ n + 1 := hd
    obtain ⟨sa, sb, hn, ht⟩ := hs
    have ca : PlacesOk (ds_Both_places n) a := fun u v e => by
      subst e
      exact both_places n u v (by omega) sa u v rfl
    have cb : PlacesOk (ds_Both_places n) b := fun u v e => by
      subst e
      exact both_places n u v (by omega) sb u v rfl
    intro u v e Q E k
    cases e
    refine mh_Both_places ?_
    refine places_of (w := a) sa ca (fun _ _ q => q) ?_
    refine places_of (w := b) sb cb (fun _ _ q => q) ?_
    have la := a.len_places sa
    have lb := b.len_places sb
    refine ⟨by unfold plD; rw [List.length_map, List.length_map]; exact Nat.le_of_lt (small_line (by omega)), ?_⟩
    have e : plD (.both a b) = plD a ++ plD b := by
      unfold plD
      show (a.places ++ b.places).map _ = _
      rw [List.map_append]
    rw [e] at k
    exact k
theorem un_ok {g : D → Option D} {a d : D} {ρ : Dl.Env} {Q : Sl → Dl.Env → Prop} {E : Er → Dl.Env → Prop} (h : g a = some d) (k : Q (.sh d) ρ) : (op1 g (.sh a)).wp ρ Q E := by
  show (match g a with | some d => M.ret (.sh d) | none => M.stuck : ME).wp ρ Q E
  rw [h]
  exact k
theorem bools_map : ∀ {bs : List Bool}, bools (bs.map D.bl) = some bs
  | [] => rfl
  | b :: bs => by
    show (match bools (bs.map D.bl) with | some ns => some (b :: ns) | none => none) = _
    rw [bools_map]
theorem cases4 {w : Wi} (hd : w.dep ≤ 4) (hs : w.sm) : CasesOk dd_Both_cases w := by
  rw [dd_Both_cases_eq]
  intro a b e
  subst e
  exact both_cases 4 a b hd hs a b rfl
theorem places4 {w : Wi} (hd : w.dep ≤ 4) (hs : w.sm) : PlacesOk dd_Both_places w := by
  rw [dd_Both_places_eq]
  intro a b e
  subst e
  exact both_places 4 a b hd hs a b rfl
theorem answer_ok {w : Wi} {hs : List Int} {Q : Sl → List Sl → Prop} {E : Er → List Sl → Prop} (hd : w.dep ≤ 4) (sm : w.sm) (ok : w.ok hs.length) (hn : w.tl < 900) (k : Q (.sh (.int (w.ans (hF hs)))) [.sh w.d, .sh (.lst (hs.map D.int))]) :
    ds_Wish_answer.wp [.sh w.d, .sh (.lst (hs.map D.int))] Q E := by
  refine mh_Wish_answer ?_
  refine cases_of (w := w) sm (cases4 hd sm) (fun _ _ q => q) ?_
  refine for_inv (fun i r => (∀ c ∈ w.cases.take i, ¬ c.2.all (agX (hF hs)) = true) ∧ ∃ s2 s3, r = [.sh w.d, .sh (.lst (hs.map D.int)), s2, s3, .un]) ⟨fun c h => (by rw [List.take_zero] at h; cases h), _, _, rfl⟩ ?_ ?_
  · rintro i d r hi ⟨no, s2, s3, rfl⟩
    obtain ⟨c, ec, rfl⟩ := map_at hi
    have hc := List.mem_of_getElem? ec
    refine lc_inv (fun i acc ρ => acc = ((c.2.take i).map (agX (hF hs))).map D.bl ∧ ρ = [.sh w.d, .sh (.lst (hs.map D.int)), .sh (.int c.1), .sh (.lst (c.2.map tD)), .un]) ⟨rfl, rfl⟩ ?_ ?_
    · rintro j d acc ρ hj ⟨rfl, rfl⟩
      obtain ⟨t, et, rfl⟩ := map_at hj
      have jl := get_lt et
      have tl := w.len_tl c hc
      refine agr_ok (t := t) (w.tr_ok ok c hc t (List.mem_of_getElem? et)) ?_
      refine ⟨?_, ?_, rfl⟩
      · rw [List.length_map, List.length_map, List.length_take]
        exact small_line (by omega)
      · rw [take_snoc et, List.map_append, List.map_append]
        rfl
    · rintro acc ρ ⟨rfl, rfl⟩
      rw [List.length_map, List.take_length]
      have e : dBools (fun bs => bs.all id) (.lst ((c.2.map (agX (hF hs))).map D.bl)) = some (.bl (c.2.all (agX (hF hs)))) := by
        unfold dBools
        show (match bools ((c.2.map (agX (hF hs))).map D.bl) with | some ns => some (D.bl (ns.all id)) | none => none) = _
        rw [bools_map]
        show some (D.bl ((c.2.map (agX (hF hs))).all id)) = _
        rw [List.all_map]
        rfl
      refine un_ok e ?_
      refine if2 (fun z => ?_) (fun z => ?_)
      · rw [← w.sound ok c hc z] at k
        exact k
      · refine ⟨fun c' h => ?_, _, _, rfl⟩
        rw [take_snoc ec] at h
        rcases List.mem_append.mp h with h | h
        · exact no c' h
        · rw [List.mem_singleton.mp h]
          exact z
  · rintro r ⟨no, _⟩
    rw [List.length_map, List.take_length] at no
    obtain ⟨c, hc, a⟩ := w.full (x := hF hs) ok
    exact absurd a (no c hc)
theorem and_ok {a b : Wi} {Q : Sl → List Sl → Prop} {E : Er → List Sl → Prop} (hm : a.num * b.num < 900) (k : Q (.sh (Wi.both a b).d) [.sh a.d, .sh b.d]) : ds_WishU_andU.wp [.sh a.d, .sh b.d] Q E := by
  refine mh_WishU_andU ?_
  have e : dIsO is_Wish ib_Wish b.d = some (.bl true) := by cases b <;> rfl
  refine un_ok e ?_
  exact new_both hm k
theorem wd_cls {w : Wi} : ∃ c fs, w.d = .obj c fs ∧ c ∈ [5, 6, 7, 8, 9] := by
  cases w
  · exact ⟨_, _, rfl, by decide⟩
  · exact ⟨_, _, rfl, by decide⟩
  · exact ⟨_, _, rfl, by decide⟩
  · exact ⟨_, _, rfl, by decide⟩
  · exact ⟨_, _, rfl, by decide⟩
theorem bin_ok {a b : Wi} {ρ : Dl.Env} {Q : Sl → Dl.Env → Prop} {E : Er → Dl.Env → Prop} (hm : a.num * b.num < 900) (k : Q (.sh (Wi.both a b).d) ρ) : (mBinP [5, 6, 7, 8, 9] ds_WishU_andU (M.ret (.sh a.d)) (M.ret (.sh b.d))).wp ρ Q E := by
  obtain ⟨c1, f1, q1, m1⟩ := wd_cls (w := a)
  obtain ⟨c2, f2, q2, m2⟩ := wd_cls (w := b)
  have h : (callM ds_WishU_andU [] [.s (.sh a.d), .s (.sh b.d)]).wp ρ Q E := and_ok hm k
  rw [q1, q2] at h ⊢
  show (if c1 ∈ [5, 6, 7, 8, 9] ∧ c2 ∈ [5, 6, 7, 8, 9] then callM ds_WishU_andU [] [.s (.sh (.obj c1 f1)), .s (.sh (.obj c2 f2))] else M.stuck : ME).wp ρ Q E
  rw [if_pos ⟨m1, m2⟩]
  exact h
def m_law_number : MS := (sRet (mAndV (mUn (op1 (dIsi .int)) (mVar 0)) (mNotV (mUn (op1 (dIsi .bl)) (mVar 0)))))
@[irreducible] def ds_law_number : M Sl := defM 1 1 m_law_number
theorem hm_law_number : ∀ as Q E, ds_law_number.wp as Q E → (defM 1 1 m_law_number).wp as Q E := by unfold ds_law_number; exact fun _ _ _ w => w
theorem mh_law_number {as : List Sl} {Q : Sl → List Sl → Prop} {E : Er → List Sl → Prop} (h : (defM 1 1 m_law_number).wp as Q E) : ds_law_number.wp as Q E := by unfold ds_law_number; exact h
theorem hl_law_number : ∀ as Q E, ds_law_number.wp as Q E → as.length = 1 := fun as Q E w => defM_len as Q E (hm_law_number as Q E w)

theorem number_int {i : Int} {Q : Sl → List Sl → Prop} {E : Er → List Sl → Prop} (k : Q (.sh (.bl true)) [.sh (.int i)]) : ds_law_number.wp [.sh (.int i)] Q E := mh_law_number k
def m_law_numbers_L1 : MS := (sIf (mOr (mNot (mTest (mUn (op1 (dIsi .int)) (mOp (op2 dIxL) (mVar 0) (mVar 2))))) (mOr (mTest (mUn (op1 (dIsi .bl)) (mOp (op2 dIxL) (mVar 0) (mVar 2)))) (mTest (mOp (op2 (dEq true)) (mOp (op2 dIxL) (mVar 0) (mVar 2)) (mOp (op2 dIxL) (mVar 1) (mVar 2))))))
      (sRet (mC (.bl false)))
      sNext)
def m_law_numbers_2 : MS := (sRet (mC (.bl true)))
def m_law_numbers_1 : MS := sSeq (sFor (iR1 (mUn (op1 dLen) (mVar 1))) (gSet 2) m_law_numbers_L1) m_law_numbers_2
def m_law_numbers : MS := sSeq (sIf (mOr (mNot (mTest (mUn (op1 (dIsi .lst)) (mVar 0)))) (mTest (mOp (op2 (dEq true)) (mUn (op1 dLen) (mVar 0)) (mUn (op1 dLen) (mVar 1)))))
      (sRet (mC (.bl false)))
      sNext) m_law_numbers_1
@[irreducible] def ds_law_numbers : M Sl := defM 2 3 m_law_numbers
theorem hm_law_numbers : ∀ as Q E, ds_law_numbers.wp as Q E → (defM 2 3 m_law_numbers).wp as Q E := by unfold ds_law_numbers; exact fun _ _ _ w => w
theorem mh_law_numbers {as : List Sl} {Q : Sl → List Sl → Prop} {E : Er → List Sl → Prop} (h : (defM 2 3 m_law_numbers).wp as Q E) : ds_law_numbers.wp as Q E := by unfold ds_law_numbers; exact h
theorem hl_law_numbers : ∀ as Q E, ds_law_numbers.wp as Q E → as.length = 2 := fun as Q E w => defM_len as Q E (hm_law_numbers as Q E w)

theorem numbers_ok {xs : List Int} {Q : Sl → List Sl → Prop} {E : Er → List Sl → Prop} (hl : xs.length < 900) (k : Q (.sh (.bl true)) [.sh (.lst (xs.map D.int)), .sh (.lst (xs.map D.int))]) : ds_law_numbers.wp [.sh (.lst (xs.map D.int)), .sh (.lst (xs.map D.int))] Q E := by
  refine mh_law_numbers ?_
  show m_law_numbers.wp [.sh (.lst (xs.map D.int)), .sh (.lst (xs.map D.int)), .un] _
  refine if2 (fun z => absurd z (by rw [decide_eq_true rfl]; decide)) (fun _ => ?_)
  show m_law_numbers_1.wp [.sh (.lst (xs.map D.int)), .sh (.lst (xs.map D.int)), .un] _
  refine cut (fun r => ∃ s2, r = [.sh (.lst (xs.map D.int)), .sh (.lst (xs.map D.int)), s2]) ?_ ?_
  · refine ⟨⟨by rw [List.length_map]; omega, by rw [List.length_map]; omega⟩, ?_⟩
    refine for_inv (fun i r => ∃ s2, r = [.sh (.lst (xs.map D.int)), .sh (.lst (xs.map D.int)), s2]) ⟨_, rfl⟩ ?_ (fun r z => z)
    rintro i d r hd ⟨s2, rfl⟩
    obtain ⟨hi, rfl⟩ := rg_at hd
    rw [List.length_map] at hi
    rw [Int.zero_add]
    have e := atI_map (hs := xs) (p := ((i : Nat) : Int)) (by omega) (by omega)
    refine op2_ok e ?_
    refine op2_ok e ?_
    refine op2_ok e ?_
    refine op2_ok e ?_
    refine if2 (fun z => absurd z (by rw [decide_eq_true rfl]; decide)) (fun _ => ⟨_, rfl⟩)
  rintro _ ⟨s2, rfl⟩
  exact k
/-! ### the law's wishes -/
def m_law_pairs_L1_3 : MS := (sDrop (mApp 3 (mTup (mCons (mVar 5) (mCons (mOp (op2 dIxL) (mFz (mLst (mCons (mVar 6) (mCons (mVar 7) mNil)))) (mTake 0 (mC (.int 2)))) mNil)))))
def m_law_pairs_L1_2 : MS := sSeq (sAsg (mOp (op2 dSub) (mTake 0 (mOp (op2 dAdd) (mVar 2) (mC (.int 3)))) (mC (.int 1))) (gSet 7)) m_law_pairs_L1_3
def m_law_pairs_L1_1 : MS := sSeq (sAsg (mOp (op2 dSub) (mOp (op2 dAdd) (mOp (op2 dIxL) (mVar 1) (mVar 5)) (mTake 0 (mC (.int 5)))) (mC (.int 2))) (gSet 6)) m_law_pairs_L1_2
def m_law_pairs_L1 : MS := sSeq (sAsg (mTake 0 (mUn (op1 dLen) (mVar 1))) (gSet 5)) m_law_pairs_L1_1
def m_law_pairs_2 : MS := (sRet (mVarF 3))
def m_law_pairs_1 : MS := sSeq (sFor (iR1 (mTake 0 (mC (.int 4)))) (gSet 4) m_law_pairs_L1) m_law_pairs_2
def m_law_pairs : MS := sSeq (sAsg (mLst mNil) (gSet 3)) m_law_pairs_1
@[irreducible] def ds_law_pairs : M Sl := defM 3 8 m_law_pairs
theorem hm_law_pairs : ∀ as Q E, ds_law_pairs.wp as Q E → (defM 3 8 m_law_pairs).wp as Q E := by unfold ds_law_pairs; exact fun _ _ _ w => w
theorem mh_law_pairs {as : List Sl} {Q : Sl → List Sl → Prop} {E : Er → List Sl → Prop} (h : (defM 3 8 m_law_pairs).wp as Q E) : ds_law_pairs.wp as Q E := by unfold ds_law_pairs; exact h
theorem hl_law_pairs : ∀ as Q E, ds_law_pairs.wp as Q E → as.length = 3 := fun as Q E w => defM_len as Q E (hm_law_pairs as Q E w)

def m_law_many_4 : MS := (sRet (mFz (mMake 7 (packM 1 ds_SomeWithinU_initU) [] (bCo (mOp (op2 dIxL) (mVar 0) (mC (.int 0))) (bCo (mOp (op2 dIxL) (mVar 0) (mC (.int 1))) (bCo (mOp (op2 dIxL) (mVar 0) (mC (.int 2))) bNo))))))
def m_law_many_3 : MS := sSeq (sIf (mTest (mVar 1))
      (sRet (mFz (mMake 6 (packM 1 ds_AllWithinU_initU) [] (bCo (mOp (op2 dIxL) (mVar 0) (mC (.int 0))) (bCo (mOp (op2 dIxL) (mVar 0) (mC (.int 1))) (bCo (mOp (op2 dIxL) (mVar 0) (mC (.int 2))) bNo))))))
      sNext) m_law_many_4
def m_law_many_2 : MS := sSeq (sIf (mTest (mOp (op2 (dEq false)) (mUn (op1 dLen) (mVar 0)) (mC (.int 2))))
      (sRet (mFz (mIf (mTest (mVar 1)) (mFz (mMake 6 (packM 1 ds_AllWithinU_initU) [] (bCo (mOp (op2 dIxL) (mVar 0) (mC (.int 0))) (bCo (mOp (op2 dIxL) (mVar 0) (mC (.int 1))) bNo)))) (mFz (mMake 7 (packM 1 ds_SomeWithinU_initU) [] (bCo (mOp (op2 dIxL) (mVar 0) (mC (.int 0))) (bCo (mOp (op2 dIxL) (mVar 0) (mC (.int 1))) bNo)))))))
      sNext) m_law_many_3
def m_law_many_1 : MS := sSeq (sIf (mTest (mOp (op2 (dEq false)) (mUn (op1 dLen) (mVar 0)) (mC (.int 1))))
      (sRet (mFz (mIf (mTest (mVar 1)) (mFz (mMake 6 (packM 1 ds_AllWithinU_initU) [] (bCo (mOp (op2 dIxL) (mVar 0) (mC (.int 0))) bNo))) (mFz (mMake 7 (packM 1 ds_SomeWithinU_initU) [] (bCo (mOp (op2 dIxL) (mVar 0) (mC (.int 0))) bNo))))))
      sNext) m_law_many_2
def m_law_many : MS := sSeq (sIf (mTest (mOp (op2 (dEq false)) (mUn (op1 dLen) (mVar 0)) (mC (.int 0))))
      (sRet (mFz (mIf (mTest (mVar 1)) (mFz (mMake 6 (packM 1 ds_AllWithinU_initU) [] bNo)) (mFz (mMake 7 (packM 1 ds_SomeWithinU_initU) [] bNo)))))
      sNext) m_law_many_1
@[irreducible] def ds_law_many : M Sl := defM 2 2 m_law_many
theorem hm_law_many : ∀ as Q E, ds_law_many.wp as Q E → (defM 2 2 m_law_many).wp as Q E := by unfold ds_law_many; exact fun _ _ _ w => w
theorem mh_law_many {as : List Sl} {Q : Sl → List Sl → Prop} {E : Er → List Sl → Prop} (h : (defM 2 2 m_law_many).wp as Q E) : ds_law_many.wp as Q E := by unfold ds_law_many; exact h
theorem hl_law_many : ∀ as Q E, ds_law_many.wp as Q E → as.length = 2 := fun as Q E w => defM_len as Q E (hm_law_many as Q E w)

def m_law_band_3 : MS := (sRet (mFz (mMake 8 (packM 2 ds_BandU_initU) [] (bCo (mVar 0) (bCo (mOp (op2 dIxL) (mVar 1) (mC (.int 0))) (bCo (mOp (op2 dIxL) (mVar 1) (mC (.int 1))) (bCo (mOp (op2 dIxL) (mVar 1) (mC (.int 2))) bNo)))))))
def m_law_band_2 : MS := sSeq (sIf (mTest (mOp (op2 (dEq false)) (mUn (op1 dLen) (mVar 1)) (mC (.int 2))))
      (sRet (mFz (mMake 8 (packM 2 ds_BandU_initU) [] (bCo (mVar 0) (bCo (mOp (op2 dIxL) (mVar 1) (mC (.int 0))) (bCo (mOp (op2 dIxL) (mVar 1) (mC (.int 1))) bNo))))))
      sNext) m_law_band_3
def m_law_band_1 : MS := sSeq (sIf (mTest (mOp (op2 (dEq false)) (mUn (op1 dLen) (mVar 1)) (mC (.int 1))))
      (sRet (mFz (mMake 8 (packM 2 ds_BandU_initU) [] (bCo (mVar 0) (bCo (mOp (op2 dIxL) (mVar 1) (mC (.int 0))) bNo)))))
      sNext) m_law_band_2
def m_law_band : MS := sSeq (sIf (mTest (mOp (op2 (dEq false)) (mUn (op1 dLen) (mVar 1)) (mC (.int 0))))
      (sRet (mFz (mMake 8 (packM 2 ds_BandU_initU) [] (bCo (mVar 0) bNo))))
      sNext) m_law_band_1
@[irreducible] def ds_law_band : M Sl := defM 2 2 m_law_band
theorem hm_law_band : ∀ as Q E, ds_law_band.wp as Q E → (defM 2 2 m_law_band).wp as Q E := by unfold ds_law_band; exact fun _ _ _ w => w
theorem mh_law_band {as : List Sl} {Q : Sl → List Sl → Prop} {E : Er → List Sl → Prop} (h : (defM 2 2 m_law_band).wp as Q E) : ds_law_band.wp as Q E := by unfold ds_law_band; exact h
theorem hl_law_band : ∀ as Q E, ds_law_band.wp as Q E → as.length = 2 := fun as Q E w => defM_len as Q E (hm_law_band as Q E w)

def m_law_single_L1_1 : MS := (sAsg (mOp (op2 dAdd) (mOp (op2 dAdd) (mVar 6) (mC (.int 1))) (mTake 0 (mC (.int 3)))) (gSet 6))
def m_law_single_L1 : MS := sSeq (sDrop (mApp 7 (mVar 6))) m_law_single_L1_1
def m_law_single_7 : MS := (sRet (mTup (mCons (mCall ds_law_band [] (bCo (mVar 5) (bCo (mVarF 7) bNo))) (mCons (mTup (mCons (mC (.str "band")) (mCons (mVar 5) (mCons (mVarF 7) mNil)))) mNil))))
def m_law_single_6 : MS := sSeq (sFor (iR1 (mTake 0 (mC (.int 4)))) (gSet 8) m_law_single_L1) m_law_single_7
def m_law_single_5 : MS := sSeq (sAsg (mLst mNil) (gSet 7)) m_law_single_6
def m_law_single_4 : MS := sSeq (sAsg (mOp (op2 dSub) (mOp (op2 dAdd) (mOp (op2 dIxL) (mVar 1) (mVar 5)) (mTake 0 (mC (.int 5)))) (mC (.int 3))) (gSet 6)) m_law_single_5
def m_law_single_3 : MS := sSeq (sAsg (mTake 0 (mUn (op1 dLen) (mVar 1))) (gSet 5)) m_law_single_4
def m_law_single_2 : MS := sSeq (sIf (mTest (mOp (op2 dLt) (mVar 3) (mC (.int 3))))
      (sSeq (sAsg (mCall ds_law_pairs [] (bLe 0 (bCo (mVar 1) (bCo (mVar 2) bNo)))) (gSet 4))
      (sRet (mTup (mCons (mCall ds_law_many [] (bCo (mVar 4) (bCo (mOp (op2 (dEq false)) (mVar 3) (mC (.int 1))) bNo))) (mCons (mTup (mCons (mOp (op2 dIxL) (mFz (mLst (mCons (mC (.str "none")) (mCons (mC (.str "all")) (mCons (mC (.str "some")) mNil))))) (mVar 3)) (mCons (mVar 4) mNil))) mNil)))))
      sNext) m_law_single_3
def m_law_single_1 : MS := sSeq (sIf (mTest (mOp (op2 (dEq false)) (mVar 3) (mC (.int 0))))
      (sRet (mTup (mCons (mFz (mMake 5 ds_WishU_initU [.int 1] bNo)) (mCons (mTup (mCons (mC (.str "none")) mNil)) mNil))))
      sNext) m_law_single_2
def m_law_single : MS := sSeq (sAsg (mTake 0 (mC (.int 4))) (gSet 3)) m_law_single_1
@[irreducible] def ds_law_single : M Sl := defM 3 9 m_law_single
theorem hm_law_single : ∀ as Q E, ds_law_single.wp as Q E → (defM 3 9 m_law_single).wp as Q E := by unfold ds_law_single; exact fun _ _ _ w => w
theorem mh_law_single {as : List Sl} {Q : Sl → List Sl → Prop} {E : Er → List Sl → Prop} (h : (defM 3 9 m_law_single).wp as Q E) : ds_law_single.wp as Q E := by unfold ds_law_single; exact h
theorem hl_law_single : ∀ as Q E, ds_law_single.wp as Q E → as.length = 3 := fun as Q E w => defM_len as Q E (hm_law_single as Q E w)

def m_law_wish_2 : MS := (sRet (mVar 3))
def m_law_wish_1 : MS := sSeq (sIf (mTest (mOp (op2 (dEq false)) (mTake 0 (mC (.int 3))) (mC (.int 1))))
      (sSeq (sAsg (mCall ds_law_single [] (bLe 0 (bCo (mVar 1) (bCo (mVar 2) bNo)))) (gSet 4))
      (sRet (mTup (mCons (mBinP [5, 6, 7, 8, 9] ds_WishU_andU (mOp (op2 dIxT) (mVar 3) (mC (.int 0))) (mOp (op2 dIxT) (mVar 4) (mC (.int 0)))) (mCons (mTup (mCons (mC (.str "both")) (mCons (mOp (op2 dIxT) (mVar 3) (mC (.int 1))) (mCons (mOp (op2 dIxT) (mVar 4) (mC (.int 1))) mNil)))) mNil)))))
      sNext) m_law_wish_2
def m_law_wish : MS := sSeq (sAsg (mCall ds_law_single [] (bLe 0 (bCo (mVar 1) (bCo (mVar 2) bNo)))) (gSet 3)) m_law_wish_1
@[irreducible] def ds_law_wish : M Sl := defM 3 5 m_law_wish
theorem hm_law_wish : ∀ as Q E, ds_law_wish.wp as Q E → (defM 3 5 m_law_wish).wp as Q E := by unfold ds_law_wish; exact fun _ _ _ w => w
theorem mh_law_wish {as : List Sl} {Q : Sl → List Sl → Prop} {E : Er → List Sl → Prop} (h : (defM 3 5 m_law_wish).wp as Q E) : ds_law_wish.wp as Q E := by unfold ds_law_wish; exact h
theorem hl_law_wish : ∀ as Q E, ds_law_wish.wp as Q E → as.length = 3 := fun as Q E w => defM_len as Q E (hm_law_wish as Q E w)

def m_law_size_3 (R : M Sl) : MS := (sRet (mC (.int 2)))
def m_law_size_2 (R : M Sl) : MS := sSeq (sIf (mTest (mOp (op2 (dEq false)) (mOp (op2 dIxT) (mVar 0) (mC (.int 0))) (mC (.str "band"))))
      (sRet (mOp (op2 dAdd) (mUn (op1 dLen) (mOp (op2 dIxT) (mVar 0) (mC (.int 2)))) (mC (.int 1))))
      sNext) (m_law_size_3 R)
def m_law_size_1 (R : M Sl) : MS := sSeq (sIf (mTest (mOp (op2 (dEq false)) (mOp (op2 dIxT) (mVar 0) (mC (.int 0))) (mC (.str "none"))))
      (sRet (mC (.int 1)))
      sNext) (m_law_size_2 R)
def m_law_size (R : M Sl) : MS := sSeq (sIf (mTest (mOp (op2 (dEq false)) (mOp (op2 dIxT) (mVar 0) (mC (.int 0))) (mC (.str "both"))))
      (sRet (mOp (opC CMulX fun i j => .int (i * j)) (mCall R [] (bCo (mOp (op2 dIxT) (mVar 0) (mC (.int 1))) bNo)) (mCall R [] (bCo (mOp (op2 dIxT) (mVar 0) (mC (.int 2))) bNo))))
      sNext) (m_law_size_1 R)
def dn_law_size : Nat → M Sl
  | 0 => M.stuck
  | n + 1 => defM 1 1 (m_law_size (dn_law_size n))
@[irreducible] def ds_law_size (n : Nat) : M Sl := dn_law_size n
theorem dx_law_size (n : Nat) : ds_law_size (n + 1) = defM 1 1 (m_law_size (ds_law_size n)) := by unfold ds_law_size; rfl
theorem ds0_law_size : ds_law_size 0 = M.stuck := by unfold ds_law_size; rfl
theorem hm_law_size (n : Nat) : ∀ as Q E, (ds_law_size (n + 1)).wp as Q E → (defM 1 1 (m_law_size (ds_law_size n))).wp as Q E := by intro as Q E; rw [dx_law_size]; exact id
theorem mh_law_size {n : Nat} {as : List Sl} {Q : Sl → List Sl → Prop} {E : Er → List Sl → Prop} (h : (defM 1 1 (m_law_size (ds_law_size n))).wp as Q E) : (ds_law_size (n + 1)).wp as Q E := by rw [dx_law_size]; exact h
theorem hl_law_size (n : Nat) : ∀ as Q E, (ds_law_size (n + 1)).wp as Q E → as.length = 1 := fun as Q E w => defM_len as Q E (hm_law_size n as Q E w)
theorem ex_law_size : ∃ R : M Sl, R = ds_law_size 4 := ⟨_, rfl⟩
noncomputable def dd_law_size : M Sl := Classical.choose ex_law_size
theorem dd_law_size_eq : dd_law_size = ds_law_size 4 := Classical.choose_spec ex_law_size

def m_law_answer_5 (R : M Sl) : MS := (sRet (mUn (op1 dIntB) (mOp (op2 dGt) (mUn (op1 dLen) (mVar 5)) (mC (.int 0)))))
def m_law_answer_4 (R : M Sl) : MS := sSeq (sIf (mTest (mOp (op2 (dEq false)) (mOp (op2 dIxT) (mVar 0) (mC (.int 0))) (mC (.str "all"))))
      (sRet (mUn (op1 dIntB) (mOp (op2 (dEq false)) (mUn (op1 dLen) (mVar 5)) (mUn (op1 dLen) (mOp (op2 dIxT) (mVar 0) (mC (.int 1)))))))
      sNext) (m_law_answer_5 R)
def m_law_answer_3 (R : M Sl) : MS := sSeq (sAsg (mFz (mLc0 [4] (iL (mOp (op2 dIxT) (mVar 0) (mC (.int 1)))) (gSet 4) (mTest (mOp (op2 dLe) (mOp (op2 dIxL) (mVar 1) (mOp (op2 dIxT) (mVar 4) (mC (.int 0)))) (mOp (op2 dIxT) (mVar 4) (mC (.int 1))))) (mVar 4))) (gSet 5)) (m_law_answer_4 R)
def m_law_answer_2 (R : M Sl) : MS := sSeq (sIf (mTest (mOp (op2 (dEq false)) (mOp (op2 dIxT) (mVar 0) (mC (.int 0))) (mC (.str "band"))))
      (sRet (mUn (op1 dLen) (mFz (mLc0 [3] (iL (mOp (op2 dIxT) (mVar 0) (mC (.int 2)))) (gSet 3) (mTest (mOp (op2 dLt) (mVar 3) (mOp (op2 dIxL) (mVar 1) (mOp (op2 dIxT) (mVar 0) (mC (.int 1)))))) (mVar 3)))))
      sNext) (m_law_answer_3 R)
def m_law_answer_1 (R : M Sl) : MS := sSeq (sIf (mTest (mOp (op2 (dEq false)) (mOp (op2 dIxT) (mVar 0) (mC (.int 0))) (mC (.str "none"))))
      (sRet (mC (.int 0)))
      sNext) (m_law_answer_2 R)
def m_law_answer (R : M Sl) : MS := sSeq (sIf (mTest (mOp (op2 (dEq false)) (mOp (op2 dIxT) (mVar 0) (mC (.int 0))) (mC (.str "both"))))
      (sSeq (sAsg (mCall R [] (bCo (mOp (op2 dIxT) (mVar 0) (mC (.int 1))) (bCo (mVar 1) bNo))) (gSet 2))
      (sRet (mOp (op2 dAdd) (mOp (opC CMulX fun i j => .int (i * j)) (mVar 2) (mCall dd_law_size [] (bCo (mOp (op2 dIxT) (mVar 0) (mC (.int 2))) bNo))) (mCall R [] (bCo (mOp (op2 dIxT) (mVar 0) (mC (.int 2))) (bCo (mVar 1) bNo))))))
      sNext) (m_law_answer_1 R)
def dn_law_answer : Nat → M Sl
  | 0 => M.stuck
  | n + 1 => defM 2 6 (m_law_answer (dn_law_answer n))
@[irreducible] def ds_law_answer (n : Nat) : M Sl := dn_law_answer n
theorem dx_law_answer (n : Nat) : ds_law_answer (n + 1) = defM 2 6 (m_law_answer (ds_law_answer n)) := by unfold ds_law_answer; rfl
theorem ds0_law_answer : ds_law_answer 0 = M.stuck := by unfold ds_law_answer; rfl
theorem hm_law_answer (n : Nat) : ∀ as Q E, (ds_law_answer (n + 1)).wp as Q E → (defM 2 6 (m_law_answer (ds_law_answer n))).wp as Q E := by intro as Q E; rw [dx_law_answer]; exact id
theorem mh_law_answer {n : Nat} {as : List Sl} {Q : Sl → List Sl → Prop} {E : Er → List Sl → Prop} (h : (defM 2 6 (m_law_answer (ds_law_answer n))).wp as Q E) : (ds_law_answer (n + 1)).wp as Q E := by rw [dx_law_answer]; exact h
theorem hl_law_answer (n : Nat) : ∀ as Q E, (ds_law_answer (n + 1)).wp as Q E → as.length = 2 := fun as Q E w => defM_len as Q E (hm_law_answer n as Q E w)
theorem ex_law_answer : ∃ R : M Sl, R = ds_law_answer 4 := ⟨_, rfl⟩
noncomputable def dd_law_answer : M Sl := Classical.choose ex_law_answer
theorem dd_law_answer_eq : dd_law_answer = ds_law_answer 4 := Classical.choose_spec ex_law_answer

def m_law_places_3 (R : M Sl) : MS := (sRet (mFz (mLc0 [1] (iL (mOp (op2 dIxT) (mVar 0) (mC (.int 1)))) (gSet 1) mYes (mOp (op2 dIxT) (mVar 1) (mC (.int 0))))))
def m_law_places_2 (R : M Sl) : MS := sSeq (sIf (mTest (mOp (op2 (dEq false)) (mOp (op2 dIxT) (mVar 0) (mC (.int 0))) (mC (.str "band"))))
      (sRet (mFz (mLst (mCons (mOp (op2 dIxT) (mVar 0) (mC (.int 1))) mNil))))
      sNext) (m_law_places_3 R)
def m_law_places_1 (R : M Sl) : MS := sSeq (sIf (mTest (mOp (op2 (dEq false)) (mOp (op2 dIxT) (mVar 0) (mC (.int 0))) (mC (.str "none"))))
      (sRet (mFz (mLst mNil)))
      sNext) (m_law_places_2 R)
def m_law_places (R : M Sl) : MS := sSeq (sIf (mTest (mOp (op2 (dEq false)) (mOp (op2 dIxT) (mVar 0) (mC (.int 0))) (mC (.str "both"))))
      (sRet (mFz (mOp (op2P pCat) (mCall R [] (bCo (mOp (op2 dIxT) (mVar 0) (mC (.int 1))) bNo)) (mCall R [] (bCo (mOp (op2 dIxT) (mVar 0) (mC (.int 2))) bNo)))))
      sNext) (m_law_places_1 R)
def dn_law_places : Nat → M Sl
  | 0 => M.stuck
  | n + 1 => defM 1 2 (m_law_places (dn_law_places n))
@[irreducible] def ds_law_places (n : Nat) : M Sl := dn_law_places n
theorem dx_law_places (n : Nat) : ds_law_places (n + 1) = defM 1 2 (m_law_places (ds_law_places n)) := by unfold ds_law_places; rfl
theorem ds0_law_places : ds_law_places 0 = M.stuck := by unfold ds_law_places; rfl
theorem hm_law_places (n : Nat) : ∀ as Q E, (ds_law_places (n + 1)).wp as Q E → (defM 1 2 (m_law_places (ds_law_places n))).wp as Q E := by intro as Q E; rw [dx_law_places]; exact id
theorem mh_law_places {n : Nat} {as : List Sl} {Q : Sl → List Sl → Prop} {E : Er → List Sl → Prop} (h : (defM 1 2 (m_law_places (ds_law_places n))).wp as Q E) : (ds_law_places (n + 1)).wp as Q E := by rw [dx_law_places]; exact h
theorem hl_law_places (n : Nat) : ∀ as Q E, (ds_law_places (n + 1)).wp as Q E → as.length = 1 := fun as Q E w => defM_len as Q E (hm_law_places n as Q E w)
theorem ex_law_places : ∃ R : M Sl, R = ds_law_places 4 := ⟨_, rfl⟩
noncomputable def dd_law_places : M Sl := Classical.choose ex_law_places
theorem dd_law_places_eq : dd_law_places = ds_law_places 4 := Classical.choose_spec ex_law_places

/-- what the law knows of a wish -/
def Wi.sp : Wi → D
  | .non => .tup [.str "none"]
  | .all ps => .tup [.str "all", .lst (ps.map prD)]
  | .som ps => .tup [.str "some", .lst (ps.map prD)]
  | .band p cs => .tup [.str "band", .int ((p : Nat) : Int), .lst (cs.map D.int)]
  | .both a b => .tup [.str "both", a.sp, b.sp]
theorem size_spec : ∀ (n : Nat) (w : Wi), w.dep < n → w.sm → ∀ (Q : Sl → List Sl → Prop) (E : Er → List Sl → Prop), Q (.sh (.int w.size)) [.sh w.sp] → (ds_law_size n).wp [.sh w.sp] Q E
  | 0, w, h, _, _, _, _ => by omega
  | n + 1, .non, _, _, Q, E, k => mh_law_size k
  | n + 1, .all ps, _, _, Q, E, k => mh_law_size k
  | n + 1, .som ps, _, _, Q, E, k => mh_law_size k
  | n + 1, .band p cs, _, _, Q, E, k => by
    refine mh_law_size ?_
    show Q (.sh (.int (((cs.map D.int).length : Int) + 1))) [.sh (Wi.band p cs).sp]
    rw [List.length_map]
    exact k
  | n + 1, .both a b, h, s, Q, E, k => by
    have h' : max a.dep b.dep + 1 < n + 1 := h
    refine mh_law_size ?_
    refine size_spec n a (by omega) s.1 _ _ ?_
    refine size_spec n b (by omega) s.2.1 _ _ ?_
    exact ⟨size_mul s.2.2.1, k⟩
theorem ans_sm {n : Nat} {x : Nat → Int} {w : Wi} (o : w.ok n) : 0 ≤ w.ans x ∧ w.ans x < w.size := by
  obtain ⟨c, hc, a⟩ := w.full (x := x) o
  rw [← w.sound o c hc a]
  exact ans_lt c hc
theorem size4 {w : Wi} (hd : w.dep < 4) (hs : w.sm) {Q : Sl → List Sl → Prop} {E : Er → List Sl → Prop} (k : Q (.sh (.int w.size)) [.sh w.sp]) : dd_law_size.wp [.sh w.sp] Q E := by
  rw [dd_law_size_eq]
  exact size_spec 4 w hd hs _ _ k
theorem fl_all {ps : List Pr} {hs : List Int} : decide (((ps.filter fun p => decide (hF hs p.1 ≤ p.2)).length : Int) = (ps.length : Int)) = (ps.all fun p => decide (hF hs p.1 ≤ p.2)) := by
  rw [Bool.eq_iff_iff, decide_eq_true_eq, List.all_eq_true]
  constructor
  · intro h
    have e : (ps.filter fun p => decide (hF hs p.1 ≤ p.2)) = ps := List.length_filter_eq_length_iff.mp (by omega) |> fun z => List.filter_eq_self.mpr z
    intro p hp
    exact List.filter_eq_self.mp e p hp
  · intro h
    rw [List.filter_eq_self.mpr h]
theorem fl_any {ps : List Pr} {hs : List Int} : decide (((ps.filter fun p => decide (hF hs p.1 ≤ p.2)).length : Int) > 0) = (ps.any fun p => decide (hF hs p.1 ≤ p.2)) := by
  rw [Bool.eq_iff_iff, decide_eq_true_eq, List.any_eq_true]
  constructor
  · intro h
    have h' : 0 < (ps.filter fun p => decide (hF hs p.1 ≤ p.2)).length := by omega
    obtain ⟨p, hp⟩ := List.exists_mem_of_length_pos h'
    rw [List.mem_filter] at hp
    exact ⟨p, hp⟩
  · rintro ⟨p, hp⟩
    have := List.length_pos_of_mem (List.mem_filter (p := fun p : Pr => decide (hF hs p.1 ≤ p.2)).mpr hp)
    omega
theorem kept_lc {ps : List Pr} {hs : List Int} {s0 s2 s3 s5 : Sl} {M : List D → Dl.Env → Prop} {E : Er → Dl.Env → Prop} (hl : ps.length < 900) (ok : ∀ p ∈ ps, p.1 < hs.length) (k : M ((ps.filter fun p => decide (hF hs p.1 ≤ p.2)).map prD) [s0, .sh (.lst (hs.map D.int)), s2, s3, .un, s5]) :
    lcM [4] (gSet 4) (mTest (mOp (op2 dLe) (mOp (op2 dIxL) (mVar 1) (mOp (op2 dIxT) (mVar 4) (mC (.int 0)))) (mOp (op2 dIxT) (mVar 4) (mC (.int 1))))) (mVar 4) (ps.map prD) [] [s0, .sh (.lst (hs.map D.int)), s2, s3, .un, s5] M E := by
  refine lc_inv (fun i acc ρ => acc = ((ps.take i).filter fun p => decide (hF hs p.1 ≤ p.2)).map prD ∧ ρ = [s0, .sh (.lst (hs.map D.int)), s2, s3, .un, s5]) ⟨rfl, rfl⟩ ?_ ?_
  · rintro i d acc ρ hi ⟨rfl, rfl⟩
    obtain ⟨p, ep, rfl⟩ := map_at hi
    have pl := ok p (List.mem_of_getElem? ep)
    have hl' := get_lt ep
    refine op2_ok (g := dIxL) (atI_map (p := ((p.1 : Nat) : Int)) (by omega) (by omega)) ?_
    rw [Int.toNat_natCast]
    refine if2 (fun z => ?_) (fun z => ?_)
    · refine ⟨?_, ?_, rfl⟩
      · rw [List.length_map]
        exact small_line (by have := flen (p := fun p : Pr => decide (hF hs p.1 ≤ p.2)) hl'; omega)
      · rw [flt_yes (p := fun p : Pr => decide (hF hs p.1 ≤ p.2)) ep z, List.map_append]
        rfl
    · exact ⟨by rw [flt_no (p := fun p : Pr => decide (hF hs p.1 ≤ p.2)) ep z], rfl⟩
  · rintro acc ρ ⟨rfl, rfl⟩
    rw [List.length_map, List.take_length]
    exact k
theorem ans_spec : ∀ (n : Nat) (w : Wi) (hs : List Int), w.dep < n → w.dep < 4 → w.sm → w.ok hs.length → ∀ (Q : Sl → List Sl → Prop) (E : Er → List Sl → Prop), Q (.sh (.int (w.ans (hF hs)))) [.sh w.sp, .sh (.lst (hs.map D.int))] → (ds_law_answer n).wp [.sh w.sp, .sh (.lst (hs.map D.int))] Q E
  | 0, w, hs, h, _, _, _, _, _, _ => by omega
  | n + 1, .non, hs, _, _, _, _, Q, E, k => mh_law_answer k
  | n + 1, .all ps, hs, _, _, s, ok, Q, E, k => by
    have hl : ps.length + 2 < 900 := s.1
    refine mh_law_answer ?_
    refine kept_lc (by omega) ok ?_
    refine ?_
    have e : (false ^^ decide ((((ps.filter fun p => decide (hF hs p.1 ≤ p.2)).map prD).length : Int) = ((ps.map prD).length : Int))) = (ps.all fun p => decide (hF hs p.1 ≤ p.2)) := by rw [List.length_map, List.length_map, Bool.false_xor]; exact fl_all
    show Q (.sh (.int (if (false ^^ decide ((((ps.filter fun p => decide (hF hs p.1 ≤ p.2)).map prD).length : Int) = ((ps.map prD).length : Int))) = true then 1 else 0))) [.sh (Wi.all ps).sp, .sh (.lst (hs.map D.int))]
    rw [e]
    exact k
  | n + 1, .som ps, hs, _, _, s, ok, Q, E, k => by
    have hl : ps.length + 2 < 900 := s.1
    refine mh_law_answer ?_
    refine kept_lc (by omega) ok ?_
    refine ?_
    have e : decide ((((ps.filter fun p => decide (hF hs p.1 ≤ p.2)).map prD).length : Int) > 0) = (ps.any fun p => decide (hF hs p.1 ≤ p.2)) := by rw [List.length_map]; exact fl_any
    show Q (.sh (.int (if decide ((((ps.filter fun p => decide (hF hs p.1 ≤ p.2)).map prD).length : Int) > 0) = true then 1 else 0))) [.sh (Wi.som ps).sp, .sh (.lst (hs.map D.int))]
    rw [e]
    exact k
  | n + 1, .band p cs, hs, _, _, s, ok, Q, E, k => by
    have hl : cs.length < 898 := s
    refine mh_law_answer ?_
    refine lc_inv (fun i acc ρ => acc = ((cs.take i).filter fun c => decide (c < hF hs p)).map D.int ∧ ρ = [.sh (Wi.band p cs).sp, .sh (.lst (hs.map D.int)), .un, .un, .un, .un]) ⟨rfl, rfl⟩ ?_ ?_
    · rintro i d acc ρ hi ⟨rfl, rfl⟩
      obtain ⟨c, ec, rfl⟩ := map_at hi
      have hl' := get_lt ec
      have pl := ok.1
      refine op2_ok (g := dIxL) (atI_map (p := ((p : Nat) : Int)) (by omega) (by omega)) ?_
      rw [Int.toNat_natCast]
      refine if2 (fun z => ?_) (fun z => ?_)
      · refine ⟨?_, ?_, rfl⟩
        · rw [List.length_map]
          exact small_line (by have := flen (p := fun c : Int => decide (c < hF hs p)) hl'; omega)
        · rw [flt_yes (p := fun c : Int => decide (c < hF hs p)) ec z, List.map_append]
          rfl
      · exact ⟨by rw [flt_no (p := fun c : Int => decide (c < hF hs p)) ec z], rfl⟩
    · rintro acc ρ ⟨rfl, rfl⟩
      rw [List.length_map, List.take_length]
      show Q (.sh (.int (((cs.filter fun c => decide (c < hF hs p)).map D.int).length : Int))) [.sh (Wi.band p cs).sp, .sh (.lst (hs.map D.int))]
      rw [List.length_map]
      exact k
  | n + 1, .both a b, hs, h, h4, s, ok, Q, E, k => by
    have h' : max a.dep b.dep + 1 < n + 1 := h
    have h4' : max a.dep b.dep + 1 < 4 := h4
    obtain ⟨za, zb⟩ := size_small s.2.2.1
    obtain ⟨a0, a1⟩ := ans_sm (x := hF hs) ok.1
    have b1 := b.size_pos
    refine mh_law_answer ?_
    refine ans_spec n a hs (by omega) (by omega) s.1 ok.1 _ _ ?_
    refine size4 (w := b) (by omega) s.2.1 ?_
    refine ⟨mulx_ok (a := 10) (b := 10) (by omega) (by omega) (by omega), ?_⟩
    refine ans_spec n b hs (by omega) (by omega) s.2.1 ok.2 _ _ ?_
    exact k
theorem ans4 {w : Wi} {hs : List Int} (hd : w.dep < 4) (s : w.sm) (ok : w.ok hs.length) {Q : Sl → List Sl → Prop} {E : Er → List Sl → Prop} (k : Q (.sh (.int (w.ans (hF hs)))) [.sh w.sp, .sh (.lst (hs.map D.int))]) : dd_law_answer.wp [.sh w.sp, .sh (.lst (hs.map D.int))] Q E := by
  rw [dd_law_answer_eq]
  exact ans_spec 4 w hs hd hd s ok _ _ k
theorem pls_lc {ps : List Pr} {s0 : Sl} {M : List D → Dl.Env → Prop} {E : Er → Dl.Env → Prop} (hl : ps.length < 900) (k : M (ps.map fun p => D.int ((p.1 : Nat) : Int)) [s0, .un]) :
    lcM [1] (gSet 1) mYes (mOp (op2 dIxT) (mVar 1) (mC (.int 0))) (ps.map prD) [] [s0, .un] M E := by
  refine lc_inv (fun i acc ρ => acc = ((ps.take i).map fun p => D.int ((p.1 : Nat) : Int)) ∧ ρ = [s0, .un]) ⟨rfl, rfl⟩ ?_ ?_
  · rintro i d acc ρ hi ⟨rfl, rfl⟩
    obtain ⟨t, et, rfl⟩ := map_at hi
    refine ⟨?_, ?_, rfl⟩
    · rw [List.length_map, List.length_take]
      exact small_line (by omega)
    · rw [take_snoc et, List.map_append]
      rfl
  · rintro acc ρ ⟨rfl, rfl⟩
    rw [List.length_map, List.take_length]
    exact k
theorem pl_all {ps : List Pr} : plD (.all ps) = ps.map fun p => D.int ((p.1 : Nat) : Int) := by unfold plD Wi.places; rw [List.map_map]; rfl
theorem pl_both {a b : Wi} : plD (.both a b) = plD a ++ plD b := by
  unfold plD
  show (a.places ++ b.places).map _ = _
  rw [List.map_append]
theorem places_spec : ∀ (n : Nat) (w : Wi), w.dep < n → w.sm → ∀ (Q : Sl → List Sl → Prop) (E : Er → List Sl → Prop), Q (.sh (.lst (plD w))) [.sh w.sp] → (ds_law_places n).wp [.sh w.sp] Q E
  | 0, w, h, _, _, _, _ => by omega
  | n + 1, .non, _, _, Q, E, k => mh_law_places k
  | n + 1, .all ps, _, s, Q, E, k => by
    have hl : ps.length + 2 < 900 := s.1
    refine mh_law_places ?_
    refine pls_lc (by omega) ?_
    rw [pl_all] at k
    exact k
  | n + 1, .som ps, _, s, Q, E, k => by
    have hl : ps.length + 2 < 900 := s.1
    refine mh_law_places ?_
    refine pls_lc (by omega) ?_
    rw [show plD (.som ps) = plD (.all ps) from rfl, pl_all] at k
    exact k
  | n + 1, .band p cs, _, _, Q, E, k => mh_law_places k
  | n + 1, .both a b, h, s, Q, E, k => by
    have h' : max a.dep b.dep + 1 < n + 1 := h
    have la := a.len_places s.1
    have lb := b.len_places s.2.1
    have lt := s.2.2.2
    refine mh_law_places ?_
    refine places_spec n a (by omega) s.1 _ _ ?_
    refine places_spec n b (by omega) s.2.1 _ _ ?_
    refine ⟨by unfold plD; rw [List.length_map, List.length_map]; exact Nat.le_of_lt (small_line (by omega)), ?_⟩
    rw [pl_both] at k
    exact k
theorem places_ok4 {w : Wi} (hd : w.dep < 4) (hs : w.sm) {Q : Sl → List Sl → Prop} {E : Er → List Sl → Prop} (k : Q (.sh (.lst (plD w))) [.sh w.sp]) : dd_law_places.wp [.sh w.sp] Q E := by
  rw [dd_law_places_eq]
  exact places_spec 4 w hd hs _ _ k
/-! ### how the law makes its wishes -/
theorem pairs_ok {v : V} {hs : List Int} {tall : Int} {Q : Sl → List Sl → Prop} {E : Er → List Sl → Prop} (hn : 0 < hs.length) (hn2 : hs.length < 900) (ht : 0 ≤ tall) (ht2 : tall < 2 ^ 90)
    (k : ∀ ps : List Pr, (∀ p ∈ ps, p.1 < hs.length) → ps.length ≤ 3 → Q (.sh (.lst (ps.map prD))) [.lb v, .sh (.lst (hs.map D.int)), .sh (.int tall)]) : ds_law_pairs.wp [.lb v, .sh (.lst (hs.map D.int)), .sh (.int tall)] Q E := by
  refine mh_law_pairs ?_
  have hlen : ((hs.map D.int).length : Int) = (hs.length : Nat) := by rw [List.length_map]
  show m_law_pairs_1.wp [.lb v, .sh (.lst (hs.map D.int)), .sh (.int tall), .ow (.ol .fr) (.lst (([] : List Pr).map prD)), .un, .un, .un, .un] _
  refine cut (fun r => ∃ (ps : List Pr) (s4 s5 s6 s7 : Sl), (∀ p ∈ ps, p.1 < hs.length) ∧ ps.length ≤ 3 ∧ r = [.lb v, .sh (.lst (hs.map D.int)), .sh (.int tall), .ow (.ol .fr) (.lst (ps.map prD)), s4, s5, s6, s7]) ?_ ?_
  · refine ⟨⟨by first | decide | omega, by first | decide | omega⟩, fun n n0 n1 => ?_⟩
    refine ⟨⟨by omega, by omega⟩, ?_⟩
    refine for_inv (fun i r => ∃ (ps : List Pr) (s4 s5 s6 s7 : Sl), (∀ p ∈ ps, p.1 < hs.length) ∧ ps.length = i ∧ r = [.lb v, .sh (.lst (hs.map D.int)), .sh (.int tall), .ow (.ol .fr) (.lst (ps.map prD)), s4, s5, s6, s7]) ⟨[], .un, .un, .un, .un, fun _ h => (by cases h), rfl, rfl⟩ ?_ ?_
    · rintro i d r hd ⟨ps, s4, s5, s6, s7, ok, hl, rfl⟩
      obtain ⟨hi, rfl⟩ := rg_at hd
      refine ⟨⟨by omega, by omega⟩, fun a a0 a1 => ?_⟩
      rw [hlen] at a1
      refine op2_ok (atI_map a0 a1) ?_
      refine ⟨⟨by first | decide | omega, by first | decide | omega⟩, fun x x0 x1 => ?_⟩
      refine ⟨⟨by first | decide | omega, by first | decide | omega⟩, fun z z0 z1 => ?_⟩
      refine ⟨⟨by first | decide | omega, by first | decide | omega⟩, fun b b0 b1 => ?_⟩
      have e : dIxL (.lst [.int (hs.getD a.toNat 0 + x - 2), .int (z - 1)]) (.int b) = some (.int (if b = 0 then hs.getD a.toNat 0 + x - 2 else z - 1)) := by
        have : b = 0 ∨ b = 1 := by omega
        rcases this with rfl | rfl
        · rfl
        · rfl
      refine op2_ok e ?_
      refine ⟨small_line (by rw [List.length_map]; omega), ps ++ [(a.toNat, if b = 0 then hs.getD a.toNat 0 + x - 2 else z - 1)], .sh (.int (0 + (i : Nat))), .sh (.int a), .sh (.int (hs.getD a.toNat 0 + x - 2)), .sh (.int (z - 1)), ?_, by rw [List.length_append, hl]; rfl, ?_⟩
      · intro p hp
        rcases List.mem_append.mp hp with h | h
        · exact ok p h
        · rw [List.mem_singleton.mp h]
          show a.toNat < _
          omega
      · rw [List.map_append]
        show _ = [_, _, _, Sl.ow (.ol .fr) (.lst (ps.map prD ++ [D.tup [.int ((a.toNat : Nat) : Int), _]])), _, _, _, _]
        rw [Int.toNat_of_nonneg a0]
        rfl
    · rintro r ⟨ps, s4, s5, s6, s7, ok, hl, rfl⟩
      rw [rgD_len] at hl
      exact ⟨ps, s4, s5, s6, s7, ok, by omega, rfl⟩
  rintro _ ⟨ps, s4, s5, s6, s7, ok, hl, rfl⟩
  exact ⟨rfl, k ps ok hl⟩
theorem many_ok {ps : List Pr} {e : Bool} {Q : Sl → List Sl → Prop} {E : Er → List Sl → Prop} (hl : ps.length ≤ 3) (k : Q (.sh (if e = true then Wi.all ps else Wi.som ps).d) [.sh (.lst (ps.map prD)), .sh (.bl e)]) : ds_law_many.wp [.sh (.lst (ps.map prD)), .sh (.bl e)] Q E := by
  cases e with
  | true =>
    match ps, hl with
    | [], _ => exact mh_law_many (new_all (ps := []) (by decide) k)
    | [a], _ => exact mh_law_many (new_all (ps := [a]) (by show 1 < 900; decide) k)
    | [a, b], _ => exact mh_law_many (new_all (ps := [a, b]) (by show 2 < 900; decide) k)
    | [a, b, c], _ => exact mh_law_many (new_all (ps := [a, b, c]) (by show 3 < 900; decide) k)
    | _ :: _ :: _ :: _ :: _, h => exact absurd h (by simp)
  | false =>
    match ps, hl with
    | [], _ => exact mh_law_many (new_som (ps := []) (by decide) k)
    | [a], _ => exact mh_law_many (new_som (ps := [a]) (by show 1 < 900; decide) k)
    | [a, b], _ => exact mh_law_many (new_som (ps := [a, b]) (by show 2 < 900; decide) k)
    | [a, b, c], _ => exact mh_law_many (new_som (ps := [a, b, c]) (by show 3 < 900; decide) k)
    | _ :: _ :: _ :: _ :: _, h => exact absurd h (by simp)
theorem lband_ok {p : Nat} {cs : List Int} {Q : Sl → List Sl → Prop} {E : Er → List Sl → Prop} (hl : cs.length ≤ 3) (ha : cs.Pairwise (· < ·)) (k : Q (.sh (Wi.band p cs).d) [.sh (.int ((p : Nat) : Int)), .sh (.lst (cs.map D.int))]) : ds_law_band.wp [.sh (.int ((p : Nat) : Int)), .sh (.lst (cs.map D.int))] Q E := by
  match cs, hl, ha with
  | [], _, ha => exact mh_law_band (new_band (cs := []) (by decide) ha k)
  | [a], _, ha => exact mh_law_band (new_band (cs := [a]) (by show 1 < 900; decide) ha k)
  | [a, b], _, ha => exact mh_law_band (new_band (cs := [a, b]) (by show 2 < 900; decide) ha k)
  | [a, b, c], _, ha => exact mh_law_band (new_band (cs := [a, b, c]) (by show 3 < 900; decide) ha k)
  | _ :: _ :: _ :: _ :: _, h, _ => exact absurd h (by simp)
/-- a wish of the law -/
structure Wi.lw (n d m t : Nat) (w : Wi) : Prop where
  ok : w.ok n
  dep : w.dep ≤ d
  num : w.num ≤ m
  tl : w.tl ≤ t
  sm : w.sm
theorem pw_snoc {cs : List Int} {l : Int} (h : cs.Pairwise (· < ·)) (h2 : ∀ c ∈ cs, c < l) : (cs ++ [l]).Pairwise (· < ·) := by
  rw [List.pairwise_append]
  refine ⟨h, List.pairwise_singleton _ _, fun a ha b hb => ?_⟩
  rw [List.mem_singleton.mp hb]
  exact h2 a ha
theorem single_ok {v : V} {hs : List Int} {tall : Int} {Q : Sl → List Sl → Prop} {E : Er → List Sl → Prop} (hn : 0 < hs.length) (hn2 : hs.length < 900) (ht : 0 ≤ tall) (ht2 : tall < 2 ^ 90)
    (k : ∀ w : Wi, w.lw hs.length 0 5 4 → Q (.sh (.tup [w.d, w.sp])) [.lb v, .sh (.lst (hs.map D.int)), .sh (.int tall)]) : ds_law_single.wp [.lb v, .sh (.lst (hs.map D.int)), .sh (.int tall)] Q E := by
  refine mh_law_single ?_
  have hlen : ((hs.map D.int).length : Int) = (hs.length : Nat) := by rw [List.length_map]
  refine ⟨⟨by first | decide | omega, by first | decide | omega⟩, fun y y0 y1 => ?_⟩
  show m_law_single_1.wp [.lb v, .sh (.lst (hs.map D.int)), .sh (.int tall), .sh (.int y), .un, .un, .un, .un, .un] _
  refine if2 (fun _ => ?_) (fun c0 => ?_)
  · refine new_non ?_
    exact ⟨rfl, k .non ⟨trivial, Nat.le_refl _, by decide, by decide, by decide, by decide⟩⟩
  have c0' : ¬ y = 0 := fun z => c0 (by rw [z]; rfl)
  show m_law_single_2.wp [.lb v, .sh (.lst (hs.map D.int)), .sh (.int tall), .sh (.int y), .un, .un, .un, .un, .un] _
  refine if2 (fun c1 => ?_) (fun c1 => ?_)
  · have c1' := dt c1
    refine pairs_ok hn hn2 ht ht2 fun ps ok hl => ?_
    refine many_ok hl ?_
    have e : dIxL (.lst [.str "none", .str "all", .str "some"]) (.int y) = some (.str (if y = 1 then "all" else "some")) := by
      have : y = 1 ∨ y = 2 := by omega
      rcases this with rfl | rfl
      · rfl
      · rfl
    refine op2_ok e ?_
    by_cases c : y = 1
    · subst c
      exact ⟨rfl, k (.all ps) ⟨ok, Nat.le_refl _, by show ps.length + 2 ≤ 5; omega, by show ps.length + 1 ≤ 4; omega, by show ps.length + 2 < 900; omega, by show ps.length + 1 < 900; omega⟩⟩
    · have e2 : y = 2 := by omega
      subst e2
      exact ⟨rfl, k (.som ps) ⟨ok, Nat.le_refl _, by show ps.length + 2 ≤ 5; omega, by show ps.length + 1 ≤ 4; omega, by show ps.length + 2 < 900; omega, by show ps.length + 1 < 900; omega⟩⟩
  show m_law_single_3.wp [.lb v, .sh (.lst (hs.map D.int)), .sh (.int tall), .sh (.int y), .un, .un, .un, .un, .un] _
  refine ⟨⟨by omega, by omega⟩, fun a a0 a1 => ?_⟩
  rw [hlen] at a1
  show m_law_single_4.wp [.lb v, .sh (.lst (hs.map D.int)), .sh (.int tall), .sh (.int y), .un, .sh (.int a), .un, .un, .un] _
  refine op2_ok (atI_map a0 a1) ?_
  refine ⟨⟨by first | decide | omega, by first | decide | omega⟩, fun x x0 x1 => ?_⟩
  show m_law_single_6.wp [.lb v, .sh (.lst (hs.map D.int)), .sh (.int tall), .sh (.int y), .un, .sh (.int a), .sh (.int (hs.getD a.toNat 0 + x - 3)), .ow (.ol .fr) (.lst (([] : List Int).map D.int)), .un] _
  refine cut (fun r => ∃ (cs : List Int) (l : Int) (s8 : Sl), cs.length ≤ 3 ∧ cs.Pairwise (· < ·) ∧ r = [.lb v, .sh (.lst (hs.map D.int)), .sh (.int tall), .sh (.int y), .un, .sh (.int a), .sh (.int l), .ow (.ol .fr) (.lst (cs.map D.int)), s8]) ?_ ?_
  · refine ⟨⟨by first | decide | omega, by first | decide | omega⟩, fun n n0 n1 => ?_⟩
    refine ⟨⟨by omega, by omega⟩, ?_⟩
    refine for_inv (fun i r => ∃ (cs : List Int) (l : Int) (s8 : Sl), cs.length = i ∧ cs.Pairwise (· < ·) ∧ (∀ c ∈ cs, c < l) ∧ r = [.lb v, .sh (.lst (hs.map D.int)), .sh (.int tall), .sh (.int y), .un, .sh (.int a), .sh (.int l), .ow (.ol .fr) (.lst (cs.map D.int)), s8]) ⟨[], _, _, rfl, List.Pairwise.nil, fun _ h => (by cases h), rfl⟩ ?_ ?_
    · rintro i d r hd ⟨cs, l, s8, hl, pw, lt, rfl⟩
      obtain ⟨hi, rfl⟩ := rg_at hd
      refine ⟨small_line (by rw [List.length_map]; omega), ?_⟩
      refine ⟨⟨by first | decide | omega, by first | decide | omega⟩, fun q q0 q1 => ?_⟩
      refine ⟨cs ++ [l], l + 1 + q, .sh (.int (0 + (i : Nat))), by rw [List.length_append, hl]; rfl, pw_snoc pw lt, fun c hc => ?_, by rw [List.map_append]; rfl⟩
      rcases List.mem_append.mp hc with h | h
      · have := lt c h; omega
      · rw [List.mem_singleton.mp h]; omega
    · rintro r ⟨cs, l, s8, hl, pw, lt, rfl⟩
      rw [rgD_len] at hl
      exact ⟨cs, l, s8, by omega, pw, rfl⟩
  rintro _ ⟨cs, l, s8, hl, pw, rfl⟩
  have ea : a = ((a.toNat : Nat) : Int) := (Int.toNat_of_nonneg a0).symm
  rw [ea]
  refine lband_ok hl pw ?_
  exact ⟨rfl, k (.band a.toNat cs) ⟨⟨by omega, pw⟩, Nat.le_refl _, by show cs.length + 1 ≤ 5; omega, by show 2 ≤ 4; decide, by show cs.length < 898; omega⟩⟩
theorem lw_both {n : Nat} {a b : Wi} {d m t d2 m2 t2 d3 m3 t3 : Nat} (ha : a.lw n d m t) (hb : b.lw n d2 m2 t2) (h1 : d < d3) (h2 : d2 < d3) (h3 : m * m2 ≤ m3) (h4 : t + t2 ≤ t3) (h5 : m3 < 900) (h6 : t3 < 900) : (Wi.both a b).lw n d3 m3 t3 := by
  have hm := Nat.mul_le_mul ha.num hb.num
  have ht := Nat.add_le_add ha.tl hb.tl
  have hd := ha.dep
  have hd2 := hb.dep
  refine ⟨⟨ha.ok, hb.ok⟩, ?_, by show a.num * b.num ≤ m3; omega, by show a.tl + b.tl ≤ t3; omega, ha.sm, hb.sm, by omega, by omega⟩
  show max a.dep b.dep + 1 ≤ d3
  omega
theorem lw_up {n : Nat} {a : Wi} {d m t d2 m2 t2 : Nat} (ha : a.lw n d m t) (h1 : d ≤ d2) (h2 : m ≤ m2) (h3 : t ≤ t2) : a.lw n d2 m2 t2 := ⟨ha.ok, Nat.le_trans ha.dep h1, Nat.le_trans ha.num h2, Nat.le_trans ha.tl h3, ha.sm⟩
theorem wish_ok {v : V} {hs : List Int} {tall : Int} {Q : Sl → List Sl → Prop} {E : Er → List Sl → Prop} (hn : 0 < hs.length) (hn2 : hs.length < 900) (ht : 0 ≤ tall) (ht2 : tall < 2 ^ 90)
    (k : ∀ w : Wi, w.lw hs.length 1 25 8 → Q (.sh (.tup [w.d, w.sp])) [.lb v, .sh (.lst (hs.map D.int)), .sh (.int tall)]) : ds_law_wish.wp [.lb v, .sh (.lst (hs.map D.int)), .sh (.int tall)] Q E := by
  refine mh_law_wish ?_
  refine single_ok hn hn2 ht ht2 fun a la => ?_
  show m_law_wish_1.wp [.lb v, .sh (.lst (hs.map D.int)), .sh (.int tall), .sh (.tup [a.d, a.sp]), .un] _
  refine ⟨⟨by first | decide | omega, by first | decide | omega⟩, fun x x0 x1 => ?_⟩
  refine if2 (fun _ => ?_) (fun _ => ?_)
  · refine single_ok hn hn2 ht ht2 fun b lb => ?_
    have L := lw_both (d3 := 1) (m3 := 25) (t3 := 8) la lb (by decide) (by decide) (by decide) (by decide) (by decide) (by decide)
    refine bin_ok (a := a) (b := b) L.sm.2.2.1 ?_
    exact ⟨rfl, k (.both a b) L⟩
  · exact ⟨rfl, k a (lw_up la (by decide) (by decide) (by decide))⟩
/-! ### wishes of eight -/
def m_law_eight_L1_3 : MS := (sAsg (mOp (op2 dAdd) (mOp (op2 dAdd) (mVar 4) (mC (.int 1))) (mTake 0 (mC (.int 4)))) (gSet 4))
def m_law_eight_L1_2 : MS := sSeq (sDrop (mApp 3 (mVar 4))) m_law_eight_L1_3
def m_law_eight_L1_1 : MS := sSeq (sDrop (mApp 2 (mTup (mCons (mVar 6) (mCons (mOp (op2 dAdd) (mOp (op2 dIxL) (mVar 1) (mVar 6)) (mTake 0 (mC (.int 3)))) mNil))))) m_law_eight_L1_2
def m_law_eight_L1 : MS := sSeq (sAsg (mTake 0 (mUn (op1 dLen) (mVar 1))) (gSet 6)) m_law_eight_L1_1
def m_law_eight_11 : MS := (sRet (mFz (mLst (mCons (mTup (mCons (mVar 15) (mCons (mTup (mCons (mC (.str "all")) (mCons (mVarF 2) mNil))) mNil))) (mCons (mTup (mCons (mVar 16) (mCons (mTup (mCons (mC (.str "some")) (mCons (mVarF 2) mNil))) mNil))) (mCons (mTup (mCons (mVar 17) (mCons (mTup (mCons (mC (.str "band")) (mCons (mC (.int 0)) (mCons (mVarF 3) mNil)))) mNil))) mNil))))))
def m_law_eight_10 : MS := sSeq (sAsg (mFz (mMake 8 (packM 2 ds_BandU_initU) [] (bCo (mC (.int 0)) (bCo (mVar 7) (bCo (mVar 8) (bCo (mVar 9) (bCo (mVar 10) (bCo (mVar 11) (bCo (mVar 12) (bCo (mVar 13) (bCo (mVar 14) bNo))))))))))) (gSet 17)) m_law_eight_11
def m_law_eight_9 : MS := sSeq (sAsg (mFz (mSl fSlL (mVarF 3) (mPart (mC (.int 4))) mNoPart)) (gUl 4 (gCo (gSet 11) (gCo (gSet 12) (gCo (gSet 13) (gCo (gSet 14) gNo)))))) m_law_eight_10
def m_law_eight_8 : MS := sSeq (sAsg (mFz (mSl fSlL (mVarF 3) mNoPart (mPart (mC (.int 4))))) (gUl 4 (gCo (gSet 7) (gCo (gSet 8) (gCo (gSet 9) (gCo (gSet 10) gNo)))))) m_law_eight_9
def m_law_eight_7 : MS := sSeq (sAsg (mFz (mMake 7 (packM 1 ds_SomeWithinU_initU) [] (bCo (mVar 7) (bCo (mVar 8) (bCo (mVar 9) (bCo (mVar 10) (bCo (mVar 11) (bCo (mVar 12) (bCo (mVar 13) (bCo (mVar 14) bNo)))))))))) (gSet 16)) m_law_eight_8
def m_law_eight_6 : MS := sSeq (sAsg (mFz (mMake 6 (packM 1 ds_AllWithinU_initU) [] (bCo (mVar 7) (bCo (mVar 8) (bCo (mVar 9) (bCo (mVar 10) (bCo (mVar 11) (bCo (mVar 12) (bCo (mVar 13) (bCo (mVar 14) bNo)))))))))) (gSet 15)) m_law_eight_7
def m_law_eight_5 : MS := sSeq (sAsg (mFz (mSl fSlL (mVarF 2) (mPart (mC (.int 4))) mNoPart)) (gUl 4 (gCo (gSet 11) (gCo (gSet 12) (gCo (gSet 13) (gCo (gSet 14) gNo)))))) m_law_eight_6
def m_law_eight_4 : MS := sSeq (sAsg (mFz (mSl fSlL (mVarF 2) mNoPart (mPart (mC (.int 4))))) (gUl 4 (gCo (gSet 7) (gCo (gSet 8) (gCo (gSet 9) (gCo (gSet 10) gNo)))))) m_law_eight_5
def m_law_eight_3 : MS := sSeq (sFor (iR1 (mC (.int 8))) (gSet 5) m_law_eight_L1) m_law_eight_4
def m_law_eight_2 : MS := sSeq (sAsg (mOp (op2 dSub) (mOp (op2 dIxL) (mVar 1) (mC (.int 0))) (mC (.int 9))) (gSet 4)) m_law_eight_3
def m_law_eight_1 : MS := sSeq (sAsg (mLst mNil) (gSet 3)) m_law_eight_2
def m_law_eight : MS := sSeq (sAsg (mLst mNil) (gSet 2)) m_law_eight_1
@[irreducible] def ds_law_eight : M Sl := defM 2 18 m_law_eight
theorem hm_law_eight : ∀ as Q E, ds_law_eight.wp as Q E → (defM 2 18 m_law_eight).wp as Q E := by unfold ds_law_eight; exact fun _ _ _ w => w
theorem mh_law_eight {as : List Sl} {Q : Sl → List Sl → Prop} {E : Er → List Sl → Prop} (h : (defM 2 18 m_law_eight).wp as Q E) : ds_law_eight.wp as Q E := by unfold ds_law_eight; exact h
theorem hl_law_eight : ∀ as Q E, ds_law_eight.wp as Q E → as.length = 2 := fun as Q E w => defM_len as Q E (hm_law_eight as Q E w)

theorem len_succ {α : Type} {l : List α} {n : Nat} (h : l.length = n + 1) : ∃ a t, l = a :: t ∧ t.length = n := by
  cases l with
  | nil => cases h
  | cons a t => exact ⟨a, t, rfl, by simpa using h⟩
theorem len8 {α : Type} {l : List α} (h : l.length = 8) : ∃ a b c d e f g i, l = [a, b, c, d, e, f, g, i] := by
  obtain ⟨a, l0, e0, h0⟩ := len_succ h
  obtain ⟨b, l1, e1, h1⟩ := len_succ h0
  obtain ⟨c, l2, e2, h2⟩ := len_succ h1
  obtain ⟨d, l3, e3, h3⟩ := len_succ h2
  obtain ⟨e, l4, e4, h4⟩ := len_succ h3
  obtain ⟨f, l5, e5, h5⟩ := len_succ h4
  obtain ⟨g, l6, e6, h6⟩ := len_succ h5
  obtain ⟨i, l7, e7, h7⟩ := len_succ h6
  rw [List.length_eq_zero_iff.mp h7] at e7
  exact ⟨a, b, c, d, e, f, g, i, by rw [e0, e1, e2, e3, e4, e5, e6, e7]⟩
theorem cut4a {a b c d e f g i : D} : Dl.cutD [a, b, c, d, e, f, g, i] none (some 4) = [a, b, c, d] := rfl
theorem cut4b {a b c d e f g i : D} : Dl.cutD [a, b, c, d, e, f, g, i] (some 4) none = [e, f, g, i] := rfl
theorem gul4 {a b c d : D} {gs : List D → M Unit} {ρ : Dl.Env} {Q : Unit → Dl.Env → Prop} {E : Er → Dl.Env → Prop} {xs : List D} (h : xs = [a, b, c, d]) (k : (gs [a, b, c, d]).wp ρ Q E) : (gUl 4 gs (.sh (.lst xs))).wp ρ Q E := by
  subst h
  exact k
theorem asg_lo {gs : List D → M Unit} {m : ME} {ρ ρ1 : Dl.Env} {xs : List D} {a b c d : D} {M : MEnds} (hm : ∀ (Q : Sl → Dl.Env → Prop) (E : Er → Dl.Env → Prop), Q (.sh (.lst xs)) ρ1 → m.wp ρ Q E) (e : Dl.cutD xs none (some 4) = [a, b, c, d]) (k : (gs [a, b, c, d]).wp ρ1 (fun _ r => M.nx r) (fun _ _ => False)) :
    (sAsg (mFz (mSl fSlL m mNoPart (mPart (mC (.int 4))))) (gUl 4 gs)).wp ρ M := by
  refine hm _ _ ?_
  refine ⟨trivial, ?_⟩
  exact gul4 e k
theorem asg_hi {gs : List D → M Unit} {m : ME} {ρ ρ1 : Dl.Env} {xs : List D} {a b c d : D} {M : MEnds} (hm : ∀ (Q : Sl → Dl.Env → Prop) (E : Er → Dl.Env → Prop), Q (.sh (.lst xs)) ρ1 → m.wp ρ Q E) (e : Dl.cutD xs (some 4) none = [a, b, c, d]) (k : (gs [a, b, c, d]).wp ρ1 (fun _ r => M.nx r) (fun _ _ => False)) :
    (sAsg (mFz (mSl fSlL m (mPart (mC (.int 4))) mNoPart)) (gUl 4 gs)).wp ρ M := by
  refine hm _ _ ?_
  refine ⟨trivial, ?_⟩
  exact gul4 e k
theorem eight_ok {v : V} {hs : List Int} {Q : Sl → List Sl → Prop} {E : Er → List Sl → Prop} (hn : 0 < hs.length) (hn2 : hs.length < 900)
    (k : ∀ us : List Wi, (∀ u ∈ us, u.lw hs.length 0 10 9) → Q (.sh (.lst (us.map fun u => D.tup [u.d, u.sp]))) [.lb v, .sh (.lst (hs.map D.int))]) :
    ds_law_eight.wp [.lb v, .sh (.lst (hs.map D.int))] Q E := by
  refine mh_law_eight ?_
  have hlen : ((hs.map D.int).length : Int) = (hs.length : Nat) := by rw [List.length_map]
  refine op2_ok (atI_map (p := 0) (by decide) (by omega)) ?_
  show m_law_eight_3.wp [.lb v, .sh (.lst (hs.map D.int)), .ow (.ol .fr) (.lst (([] : List Pr).map prD)), .ow (.ol .fr) (.lst (([] : List Int).map D.int)), .sh (.int (hs.getD (0 : Int).toNat 0 - 9)), .un, .un, .un, .un, .un, .un, .un, .un, .un, .un, .un, .un, .un] _
  refine cut (fun r => ∃ (ps : List Pr) (cs : List Int) (s4 s5 s6 : Sl), (∀ p ∈ ps, p.1 < hs.length) ∧ ps.length = 8 ∧ cs.length = 8 ∧ cs.Pairwise (· < ·) ∧ r = [.lb v, .sh (.lst (hs.map D.int)), .ow (.ol .fr) (.lst (ps.map prD)), .ow (.ol .fr) (.lst (cs.map D.int)), s4, s5, s6, .un, .un, .un, .un, .un, .un, .un, .un, .un, .un, .un]) ?_ ?_
  · refine ⟨⟨by decide, by decide⟩, ?_⟩
    refine for_inv (fun i r => ∃ (ps : List Pr) (cs : List Int) (l : Int) (s5 s6 : Sl), (∀ p ∈ ps, p.1 < hs.length) ∧ ps.length = i ∧ cs.length = i ∧ cs.Pairwise (· < ·) ∧ (∀ c ∈ cs, c < l) ∧ r = [.lb v, .sh (.lst (hs.map D.int)), .ow (.ol .fr) (.lst (ps.map prD)), .ow (.ol .fr) (.lst (cs.map D.int)), .sh (.int l), s5, s6, .un, .un, .un, .un, .un, .un, .un, .un, .un, .un, .un]) ⟨[], [], _, .un, .un, fun _ h => (by cases h), rfl, rfl, List.Pairwise.nil, fun _ h => (by cases h), rfl⟩ ?_ ?_
    · rintro i d r hd ⟨ps, cs, l, s5, s6, ok, hl, hl2, pw, lt, rfl⟩
      obtain ⟨hi, rfl⟩ := rg_at hd
      have hi' : i < 8 := hi
      refine ⟨⟨by omega, by omega⟩, fun a a0 a1 => ?_⟩
      rw [hlen] at a1
      refine op2_ok (atI_map a0 a1) ?_
      refine ⟨⟨by first | decide | omega, by first | decide | omega⟩, fun x x0 x1 => ?_⟩
      refine ⟨small_line (by rw [List.length_map]; omega), ?_⟩
      refine ⟨small_line (by rw [List.length_map]; omega), ?_⟩
      refine ⟨⟨by first | decide | omega, by first | decide | omega⟩, fun q q0 q1 => ?_⟩
      refine ⟨ps ++ [(a.toNat, hs.getD a.toNat 0 + x)], cs ++ [l], l + 1 + q, .sh (.int (0 + (i : Nat))), .sh (.int a), ?_, by rw [List.length_append, hl]; rfl, by rw [List.length_append, hl2]; rfl, pw_snoc pw lt, fun c hc => ?_, ?_⟩
      · intro p hp
        rcases List.mem_append.mp hp with h | h
        · exact ok p h
        · rw [List.mem_singleton.mp h]
          show a.toNat < _
          omega
      · rcases List.mem_append.mp hc with h | h
        · have := lt c h; omega
        · rw [List.mem_singleton.mp h]; omega
      · have e : (ps ++ [((a.toNat, hs.getD a.toNat 0 + x) : Pr)]).map prD = ps.map prD ++ [D.tup [.int a, .int (hs.getD a.toNat 0 + x)]] := by
          rw [List.map_append]
          show _ ++ [D.tup [.int ((a.toNat : Nat) : Int), _]] = _
          rw [Int.toNat_of_nonneg a0]
        rw [e, List.map_append (l₁ := cs)]
        rfl
    · rintro r ⟨ps, cs, l, s5, s6, ok, hl, hl2, pw, lt, rfl⟩
      rw [rgD_len] at hl hl2
      exact ⟨ps, cs, _, s5, s6, ok, hl, hl2, pw, rfl⟩
  rintro _ ⟨ps, cs, s4, s5, s6, ok, hl, hl2, pw, rfl⟩
  have k' := k [Wi.all ps, Wi.som ps, Wi.band 0 cs] (forall3 ⟨ok, Nat.le_refl _, by show ps.length + 2 ≤ 10; omega, by show ps.length + 1 ≤ 9; omega, by show ps.length + 2 < 900; omega, by show ps.length + 1 < 900; omega⟩
    ⟨ok, Nat.le_refl _, by show ps.length + 2 ≤ 10; omega, by show ps.length + 1 ≤ 9; omega, by show ps.length + 2 < 900; omega, by show ps.length + 1 < 900; omega⟩
    ⟨⟨hn, pw⟩, Nat.le_refl _, by show cs.length + 1 ≤ 10; omega, by show 2 ≤ 9; decide, by show cs.length < 898; omega⟩)
  obtain ⟨p1, p2, p3, p4, p5, p6, p7, p8, ep⟩ := len8 hl
  obtain ⟨c1, c2, c3, c4, c5, c6, c7, c8, ec⟩ := len8 hl2
  subst ep
  subst ec
  show m_law_eight_4.wp [.lb v, .sh (.lst (hs.map D.int)), .ow (.ol .fr) (.lst (List.map prD [p1, p2, p3, p4, p5, p6, p7, p8])), .ow (.ol .fr) (.lst (List.map D.int [c1, c2, c3, c4, c5, c6, c7, c8])), s4, s5, s6, .un, .un, .un, .un, .un, .un, .un, .un, .un, .un, .un] _
  refine cut (fun r => r = [.lb v, .sh (.lst (hs.map D.int)), .sh (.lst (List.map prD [p1, p2, p3, p4, p5, p6, p7, p8])), .ow (.ol .fr) (.lst (List.map D.int [c1, c2, c3, c4, c5, c6, c7, c8])), s4, s5, s6, .sh (prD p1), .sh (prD p2), .sh (prD p3), .sh (prD p4), .un, .un, .un, .un, .un, .un, .un]) ?_ ?_
  · refine asg_lo (ρ1 := [.lb v, .sh (.lst (hs.map D.int)), .sh (.lst (List.map prD [p1, p2, p3, p4, p5, p6, p7, p8])), .ow (.ol .fr) (.lst (List.map D.int [c1, c2, c3, c4, c5, c6, c7, c8])), s4, s5, s6, .un, .un, .un, .un, .un, .un, .un, .un, .un, .un, .un]) (xs := List.map prD [p1, p2, p3, p4, p5, p6, p7, p8]) (a := prD p1) (b := prD p2) (c := prD p3) (d := prD p4) ?_ cut4a ?_
    · exact fun _ _ q => q
    · rfl
  rintro _ rfl
  show m_law_eight_5.wp [.lb v, .sh (.lst (hs.map D.int)), .sh (.lst (List.map prD [p1, p2, p3, p4, p5, p6, p7, p8])), .ow (.ol .fr) (.lst (List.map D.int [c1, c2, c3, c4, c5, c6, c7, c8])), s4, s5, s6, .sh (prD p1), .sh (prD p2), .sh (prD p3), .sh (prD p4), .un, .un, .un, .un, .un, .un, .un] _
  refine cut (fun r => r = [.lb v, .sh (.lst (hs.map D.int)), .sh (.lst (List.map prD [p1, p2, p3, p4, p5, p6, p7, p8])), .ow (.ol .fr) (.lst (List.map D.int [c1, c2, c3, c4, c5, c6, c7, c8])), s4, s5, s6, .sh (prD p1), .sh (prD p2), .sh (prD p3), .sh (prD p4), .sh (prD p5), .sh (prD p6), .sh (prD p7), .sh (prD p8), .un, .un, .un]) ?_ ?_
  · refine asg_hi (ρ1 := [.lb v, .sh (.lst (hs.map D.int)), .sh (.lst (List.map prD [p1, p2, p3, p4, p5, p6, p7, p8])), .ow (.ol .fr) (.lst (List.map D.int [c1, c2, c3, c4, c5, c6, c7, c8])), s4, s5, s6, .sh (prD p1), .sh (prD p2), .sh (prD p3), .sh (prD p4), .un, .un, .un, .un, .un, .un, .un]) (xs := List.map prD [p1, p2, p3, p4, p5, p6, p7, p8]) (a := prD p5) (b := prD p6) (c := prD p7) (d := prD p8) ?_ cut4b ?_
    · exact fun _ _ q => q
    · rfl
  rintro _ rfl
  show m_law_eight_6.wp [.lb v, .sh (.lst (hs.map D.int)), .sh (.lst (List.map prD [p1, p2, p3, p4, p5, p6, p7, p8])), .ow (.ol .fr) (.lst (List.map D.int [c1, c2, c3, c4, c5, c6, c7, c8])), s4, s5, s6, .sh (prD p1), .sh (prD p2), .sh (prD p3), .sh (prD p4), .sh (prD p5), .sh (prD p6), .sh (prD p7), .sh (prD p8), .un, .un, .un] _
  refine new_all (ps := [p1, p2, p3, p4, p5, p6, p7, p8]) (by show 8 < 900; decide) ?_
  show m_law_eight_7.wp [.lb v, .sh (.lst (hs.map D.int)), .sh (.lst (List.map prD [p1, p2, p3, p4, p5, p6, p7, p8])), .ow (.ol .fr) (.lst (List.map D.int [c1, c2, c3, c4, c5, c6, c7, c8])), s4, s5, s6, .sh (prD p1), .sh (prD p2), .sh (prD p3), .sh (prD p4), .sh (prD p5), .sh (prD p6), .sh (prD p7), .sh (prD p8), .sh (Wi.all [p1, p2, p3, p4, p5, p6, p7, p8]).d, .un, .un] _
  refine new_som (ps := [p1, p2, p3, p4, p5, p6, p7, p8]) (by show 8 < 900; decide) ?_
  show m_law_eight_8.wp [.lb v, .sh (.lst (hs.map D.int)), .sh (.lst (List.map prD [p1, p2, p3, p4, p5, p6, p7, p8])), .ow (.ol .fr) (.lst (List.map D.int [c1, c2, c3, c4, c5, c6, c7, c8])), s4, s5, s6, .sh (prD p1), .sh (prD p2), .sh (prD p3), .sh (prD p4), .sh (prD p5), .sh (prD p6), .sh (prD p7), .sh (prD p8), .sh (Wi.all [p1, p2, p3, p4, p5, p6, p7, p8]).d, .sh (Wi.som [p1, p2, p3, p4, p5, p6, p7, p8]).d, .un] _
  refine cut (fun r => r = [.lb v, .sh (.lst (hs.map D.int)), .sh (.lst (List.map prD [p1, p2, p3, p4, p5, p6, p7, p8])), .sh (.lst (List.map D.int [c1, c2, c3, c4, c5, c6, c7, c8])), s4, s5, s6, .sh (.int c1), .sh (.int c2), .sh (.int c3), .sh (.int c4), .sh (prD p5), .sh (prD p6), .sh (prD p7), .sh (prD p8), .sh (Wi.all [p1, p2, p3, p4, p5, p6, p7, p8]).d, .sh (Wi.som [p1, p2, p3, p4, p5, p6, p7, p8]).d, .un]) ?_ ?_
  · refine asg_lo (ρ1 := [.lb v, .sh (.lst (hs.map D.int)), .sh (.lst (List.map prD [p1, p2, p3, p4, p5, p6, p7, p8])), .sh (.lst (List.map D.int [c1, c2, c3, c4, c5, c6, c7, c8])), s4, s5, s6, .sh (prD p1), .sh (prD p2), .sh (prD p3), .sh (prD p4), .sh (prD p5), .sh (prD p6), .sh (prD p7), .sh (prD p8), .sh (Wi.all [p1, p2, p3, p4, p5, p6, p7, p8]).d, .sh (Wi.som [p1, p2, p3, p4, p5, p6, p7, p8]).d, .un]) (xs := List.map D.int [c1, c2, c3, c4, c5, c6, c7, c8]) (a := .int c1) (b := .int c2) (c := .int c3) (d := .int c4) ?_ cut4a ?_
    · exact fun _ _ q => q
    · rfl
  rintro _ rfl
  show m_law_eight_9.wp [.lb v, .sh (.lst (hs.map D.int)), .sh (.lst (List.map prD [p1, p2, p3, p4, p5, p6, p7, p8])), .sh (.lst (List.map D.int [c1, c2, c3, c4, c5, c6, c7, c8])), s4, s5, s6, .sh (.int c1), .sh (.int c2), .sh (.int c3), .sh (.int c4), .sh (prD p5), .sh (prD p6), .sh (prD p7), .sh (prD p8), .sh (Wi.all [p1, p2, p3, p4, p5, p6, p7, p8]).d, .sh (Wi.som [p1, p2, p3, p4, p5, p6, p7, p8]).d, .un] _
  refine cut (fun r => r = [.lb v, .sh (.lst (hs.map D.int)), .sh (.lst (List.map prD [p1, p2, p3, p4, p5, p6, p7, p8])), .sh (.lst (List.map D.int [c1, c2, c3, c4, c5, c6, c7, c8])), s4, s5, s6, .sh (.int c1), .sh (.int c2), .sh (.int c3), .sh (.int c4), .sh (.int c5), .sh (.int c6), .sh (.int c7), .sh (.int c8), .sh (Wi.all [p1, p2, p3, p4, p5, p6, p7, p8]).d, .sh (Wi.som [p1, p2, p3, p4, p5, p6, p7, p8]).d, .un]) ?_ ?_
  · refine asg_hi (ρ1 := [.lb v, .sh (.lst (hs.map D.int)), .sh (.lst (List.map prD [p1, p2, p3, p4, p5, p6, p7, p8])), .sh (.lst (List.map D.int [c1, c2, c3, c4, c5, c6, c7, c8])), s4, s5, s6, .sh (.int c1), .sh (.int c2), .sh (.int c3), .sh (.int c4), .sh (prD p5), .sh (prD p6), .sh (prD p7), .sh (prD p8), .sh (Wi.all [p1, p2, p3, p4, p5, p6, p7, p8]).d, .sh (Wi.som [p1, p2, p3, p4, p5, p6, p7, p8]).d, .un]) (xs := List.map D.int [c1, c2, c3, c4, c5, c6, c7, c8]) (a := .int c5) (b := .int c6) (c := .int c7) (d := .int c8) ?_ cut4b ?_
    · exact fun _ _ q => q
    · rfl
  rintro _ rfl
  show m_law_eight_10.wp [.lb v, .sh (.lst (hs.map D.int)), .sh (.lst (List.map prD [p1, p2, p3, p4, p5, p6, p7, p8])), .sh (.lst (List.map D.int [c1, c2, c3, c4, c5, c6, c7, c8])), s4, s5, s6, .sh (.int c1), .sh (.int c2), .sh (.int c3), .sh (.int c4), .sh (.int c5), .sh (.int c6), .sh (.int c7), .sh (.int c8), .sh (Wi.all [p1, p2, p3, p4, p5, p6, p7, p8]).d, .sh (Wi.som [p1, p2, p3, p4, p5, p6, p7, p8]).d, .un] _
  refine cut (fun r => r = [.lb v, .sh (.lst (hs.map D.int)), .sh (.lst (List.map prD [p1, p2, p3, p4, p5, p6, p7, p8])), .sh (.lst (List.map D.int [c1, c2, c3, c4, c5, c6, c7, c8])), s4, s5, s6, .sh (.int c1), .sh (.int c2), .sh (.int c3), .sh (.int c4), .sh (.int c5), .sh (.int c6), .sh (.int c7), .sh (.int c8), .sh (Wi.all [p1, p2, p3, p4, p5, p6, p7, p8]).d, .sh (Wi.som [p1, p2, p3, p4, p5, p6, p7, p8]).d, .sh (Wi.band 0 [c1, c2, c3, c4, c5, c6, c7, c8]).d]) ?_ ?_
  · refine new_band (p := 0) (cs := [c1, c2, c3, c4, c5, c6, c7, c8]) (by show 8 < 900; decide) pw ?_
    rfl
  rintro _ rfl
  exact ⟨rfl, k'⟩
/-! ### the law -/
def m_law_L1 : MS := (sDrop (mApp 8 (mFz (mLc0 [9] (iL (mVar 4)) (gSet 9) mYes (mOp (op2 dSub) (mOp (op2 dAdd) (mVar 9) (mTake 1 (mC (.int 7)))) (mC (.int 3)))))))
def m_law_L2_2 : MS := (sIf (mOr (mNot (mTest (mCall ds_law_number [] (bCo (mVar 12) bNo)))) (mOr (mTest (mOp (op2 (dEq true)) (mVar 12) (mCall dd_law_answer [] (bCo (mVar 6) (bCo (mVar 10) bNo))))) (mTest (mOp (op2P (pEqD true)) (mVar 11) (mVar 10)))))
      (sRet (mC (.bl false)))
      sNext)
def m_law_L2_1 : MS := sSeq (sAsg (mAlt (mMeth 5 ds_Wish_answer [] (mVar 5) (bCo (mVar 11) bNo)) (mAlt (mMeth 6 ds_Wish_answer [] (mVar 5) (bCo (mVar 11) bNo)) (mAlt (mMeth 7 ds_Wish_answer [] (mVar 5) (bCo (mVar 11) bNo)) (mAlt (mMeth 8 ds_Wish_answer [] (mVar 5) (bCo (mVar 11) bNo)) (mMeth 9 ds_Wish_answer [] (mVar 5) (bCo (mVar 11) bNo)))))) (gSet 12)) m_law_L2_2
def m_law_L2 : MS := sSeq (sAsg (mFz (mUn (op1P pList) (mVar 10))) (gSet 11)) m_law_L2_1
def m_law_L3_2 : MS := (sDrop (mApp 14 (mC (.int 77))))
def m_law_L3_1 : MS := sSeq (sIf (tBorM (mNot (mTest (mCall ds_law_numbers [] (bCo (mVar 14) (bCo (mCall dd_law_places [] (bCo (mVar 6) bNo)) bNo))))))
      (sRet (mC (.bl false)))
      sNext) m_law_L3_2
def m_law_L3 : MS := sSeq (sAsg (mAlt (mMeth 5 ds_Wish_places [] (mVar 5) bNo) (mAlt (mMeth 6 ds_AllWithin_places [] (mVar 5) bNo) (mAlt (mMeth 7 ds_SomeWithin_places [] (mVar 5) bNo) (mAlt (mMeth 8 ds_Band_places [] (mVar 5) bNo) (mMeth 9 dd_Both_places [] (mVar 5) bNo))))) (gSet 14)) m_law_L3_1
def m_law_L5_2 : MS := (sIf (tBorM (mTest (mOp (op2 (dEq true)) (mAlt (mMeth 5 ds_Wish_answer [] (mVar 15) (bCo (mVar 18) bNo)) (mAlt (mMeth 6 ds_Wish_answer [] (mVar 15) (bCo (mVar 18) bNo)) (mAlt (mMeth 7 ds_Wish_answer [] (mVar 15) (bCo (mVar 18) bNo)) (mAlt (mMeth 8 ds_Wish_answer [] (mVar 15) (bCo (mVar 18) bNo)) (mMeth 9 ds_Wish_answer [] (mVar 15) (bCo (mVar 18) bNo)))))) (mCall dd_law_answer [] (bCo (mVar 16) (bCo (mVar 18) bNo))))))
      (sRet (mC (.bl false)))
      sNext)
def m_law_L5_1 : MS := sSeq (sAsg (mOp (op2 dSub) (mOp (op2 dAdd) (mBor (mOp (op2 dIxL) (mVar 18) (mVar 17))) (mTake 1 (mC (.int 30)))) (mC (.int 12))) (gIx 18 (mVar 17))) m_law_L5_2
def m_law_L5 : MS := sSeq (sAsg (mUn (op1P pList) (mVar 4)) (gSet 18)) m_law_L5_1
def m_law_L4_1 : MS := (sFor (iR1 (mUn (op1 dLen) (mVar 4))) (gSet 17) m_law_L5)
def m_law_L4 : MS := sSeq (sIf (mOr (mTest (mOp (op2 (dEq true)) (mAlt (mFld 5 0 (mVar 15)) (mAlt (mFld 6 0 (mVar 15)) (mAlt (mFld 7 0 (mVar 15)) (mAlt (mFld 8 0 (mVar 15)) (mFld 9 0 (mVar 15)))))) (mCall dd_law_size [] (bCo (mVar 16) bNo)))) (mNot (mTest (mCall ds_law_numbers [] (bCo (mFz (mAlt (mMeth 5 ds_Wish_places [] (mVar 15) bNo) (mAlt (mMeth 6 ds_AllWithin_places [] (mVar 15) bNo) (mAlt (mMeth 7 ds_SomeWithin_places [] (mVar 15) bNo) (mAlt (mMeth 8 ds_Band_places [] (mVar 15) bNo) (mMeth 9 dd_Both_places [] (mVar 15) bNo)))))) (bCo (mCall dd_law_places [] (bCo (mVar 16) bNo)) bNo))))))
      (sRet (mC (.bl false)))
      sNext) m_law_L4_1
def m_law_17 : MS := (sRet (mAndV (mOp (op2 (dEq false)) (mAlt (mMeth 5 ds_Wish_answer [] (mVar 22) (bCo (mVar 4) bNo)) (mAlt (mMeth 6 ds_Wish_answer [] (mVar 22) (bCo (mVar 4) bNo)) (mAlt (mMeth 7 ds_Wish_answer [] (mVar 22) (bCo (mVar 4) bNo)) (mAlt (mMeth 8 ds_Wish_answer [] (mVar 22) (bCo (mVar 4) bNo)) (mMeth 9 ds_Wish_answer [] (mVar 22) (bCo (mVar 4) bNo)))))) (mOp (op2 dAdd) (mOp (opC CMul fun i j => .int (i * j)) (mC (.int 2)) (mCall dd_law_answer [] (bCo (mVar 6) (bCo (mVar 4) bNo)))) (mC (.int 1)))) (mOp (op2 (dEq false)) (mAlt (mMeth 5 ds_Wish_answer [] (mVar 7) (bCo (mVar 4) bNo)) (mAlt (mMeth 6 ds_Wish_answer [] (mVar 7) (bCo (mVar 4) bNo)) (mAlt (mMeth 7 ds_Wish_answer [] (mVar 7) (bCo (mVar 4) bNo)) (mAlt (mMeth 8 ds_Wish_answer [] (mVar 7) (bCo (mVar 4) bNo)) (mMeth 9 ds_Wish_answer [] (mVar 7) (bCo (mVar 4) bNo)))))) (mC (.int 0)))))
def m_law_16 : MS := sSeq (sIf (mOr (mTest (mOp (op2 (dEq true)) (mAlt (mFld 5 0 (mVar 22)) (mAlt (mFld 6 0 (mVar 22)) (mAlt (mFld 7 0 (mVar 22)) (mAlt (mFld 8 0 (mVar 22)) (mFld 9 0 (mVar 22)))))) (mOp (opC CMul fun i j => .int (i * j)) (mC (.int 2)) (mCall dd_law_size [] (bCo (mVar 6) bNo))))) (mTest (mOp (op2 (dEq true)) (mAlt (mFld 5 0 (mVar 5)) (mAlt (mFld 6 0 (mVar 5)) (mAlt (mFld 7 0 (mVar 5)) (mAlt (mFld 8 0 (mVar 5)) (mFld 9 0 (mVar 5)))))) (mCall dd_law_size [] (bCo (mVar 6) bNo)))))
      (sRet (mC (.bl false)))
      sNext) m_law_17
def m_law_15 : MS := sSeq (sAsg (mBinP [5, 6, 7, 8, 9] ds_WishU_andU (mVar 5) (mFz (mMake 7 (packM 1 ds_SomeWithinU_initU) [] (bCo (mTup (mCons (mC (.int 0)) (mCons (mOp (op2 dIxL) (mVar 4) (mC (.int 0))) mNil))) bNo)))) (gSet 22)) m_law_16
def m_law_14 : MS := sSeq (sIf (mTest (mOp (op2 (dEq true)) (mAlt (mMeth 5 ds_Wish_answer [] (mVar 21) (bCo (mVar 4) bNo)) (mAlt (mMeth 6 ds_Wish_answer [] (mVar 21) (bCo (mVar 4) bNo)) (mAlt (mMeth 7 ds_Wish_answer [] (mVar 21) (bCo (mVar 4) bNo)) (mAlt (mMeth 8 ds_Wish_answer [] (mVar 21) (bCo (mVar 4) bNo)) (mMeth 9 ds_Wish_answer [] (mVar 21) (bCo (mVar 4) bNo)))))) (mOp (opC CMulX fun i j => .int (i * j)) (mCall dd_law_answer [] (bCo (mVar 20) (bCo (mVar 4) bNo))) (mOp (op2 dAdd) (mCall dd_law_size [] (bCo (mVar 20) bNo)) (mC (.int 1))))))
      (sRet (mC (.bl false)))
      sNext) m_law_15
def m_law_13 : MS := sSeq (sIf (mOr (mTest (mOp (op2 (dEq true)) (mAlt (mFld 5 0 (mVar 21)) (mAlt (mFld 6 0 (mVar 21)) (mAlt (mFld 7 0 (mVar 21)) (mAlt (mFld 8 0 (mVar 21)) (mFld 9 0 (mVar 21)))))) (mOp (opC CMulX fun i j => .int (i * j)) (mCall dd_law_size [] (bCo (mVar 20) bNo)) (mCall dd_law_size [] (bCo (mVar 20) bNo))))) (mTest (mOp (op2P (pEqD true)) (mFz (mAlt (mMeth 5 ds_Wish_places [] (mVar 21) bNo) (mAlt (mMeth 6 ds_AllWithin_places [] (mVar 21) bNo) (mAlt (mMeth 7 ds_SomeWithin_places [] (mVar 21) bNo) (mAlt (mMeth 8 ds_Band_places [] (mVar 21) bNo) (mMeth 9 dd_Both_places [] (mVar 21) bNo)))))) (mFz (mOp (op2P pCat) (mCall dd_law_places [] (bCo (mVar 20) bNo)) (mCall dd_law_places [] (bCo (mVar 20) bNo)))))))
      (sRet (mC (.bl false)))
      sNext) m_law_14
def m_law_12 : MS := sSeq (sAsg (mBinP [5, 6, 7, 8, 9] ds_WishU_andU (mVar 19) (mVar 19)) (gSet 21)) m_law_13
def m_law_11 : MS := sSeq (sAsg (mCall ds_law_single [] (bLe 1 (bCo (mVar 4) (bCo (mVar 2) bNo)))) (gTu 2 (gCo (gSet 19) (gCo (gSet 20) gNo)))) m_law_12
def m_law_10 : MS := sSeq (sFor (iL (mCall ds_law_eight [] (bLe 1 (bCo (mVar 4) bNo)))) (gTu 2 (gCo (gSet 15) (gCo (gSet 16) gNo))) m_law_L4) m_law_11
def m_law_9 : MS := sSeq (sFor (iR1 (mC (.int 2))) (gSet 13) m_law_L3) m_law_10
def m_law_8 : MS := sSeq (sFor (iL (mVarF 8)) (gSet 10) m_law_L2) m_law_9
def m_law_7 : MS := sSeq (sFor (iR1 (mC (.int 5))) (gSet 3) m_law_L1) m_law_8
def m_law_6 : MS := sSeq (sAsg (mLst (mCons (mVar 4) mNil)) (gSet 8)) m_law_7
def m_law_5 : MS := sSeq (sIf (mOr (mNot (mTest (mCall ds_law_number [] (bCo (mAlt (mFld 5 0 (mVar 5)) (mAlt (mFld 6 0 (mVar 5)) (mAlt (mFld 7 0 (mVar 5)) (mAlt (mFld 8 0 (mVar 5)) (mFld 9 0 (mVar 5)))))) bNo)))) (mOr (mTest (mOp (op2 (dEq true)) (mAlt (mFld 5 0 (mVar 5)) (mAlt (mFld 6 0 (mVar 5)) (mAlt (mFld 7 0 (mVar 5)) (mAlt (mFld 8 0 (mVar 5)) (mFld 9 0 (mVar 5)))))) (mCall dd_law_size [] (bCo (mVar 6) bNo)))) (mTest (mOp (op2 (dEq true)) (mAlt (mFld 5 0 (mVar 7)) (mAlt (mFld 6 0 (mVar 7)) (mAlt (mFld 7 0 (mVar 7)) (mAlt (mFld 8 0 (mVar 7)) (mFld 9 0 (mVar 7)))))) (mC (.int 1))))))
      (sRet (mC (.bl false)))
      sNext) m_law_6
def m_law_4 : MS := sSeq (sAsg (mFz (mMake 5 ds_WishU_initU [.int 1] bNo)) (gSet 7)) m_law_5
def m_law_3 : MS := sSeq (sAsg (mCall ds_law_wish [] (bLe 1 (bCo (mVar 4) (bCo (mVar 2) bNo)))) (gTu 2 (gCo (gSet 5) (gCo (gSet 6) gNo)))) m_law_4
def m_law_2 : MS := sSeq (sAsg (mFz (mLc0 [3] (iR1 (mOp (op2 dAdd) (mC (.int 1)) (mTake 1 (mC (.int 5))))) (gSet 3) mYes (mTake 1 (mOp (op2 dAdd) (mVar 2) (mC (.int 1)))))) (gSet 4)) m_law_3
def m_law_1 : MS := sSeq (sAsg (mOp (op2 dIxL) (mFz (mLst (mCons (mC (.int 9)) (mCons (mC (.int 100000000000000000000)) mNil)))) (mTake 1 (mC (.int 2)))) (gSet 2)) m_law_2
def m_law : MS := sSeq (sAsg (mBox (mVar 0)) (gSet 1)) m_law_1
@[irreducible] def ds_law : M Sl := defM 1 23 m_law
theorem hm_law : ∀ as Q E, ds_law.wp as Q E → (defM 1 23 m_law).wp as Q E := by unfold ds_law; exact fun _ _ _ w => w
theorem mh_law {as : List Sl} {Q : Sl → List Sl → Prop} {E : Er → List Sl → Prop} (h : (defM 1 23 m_law).wp as Q E) : ds_law.wp as Q E := by unfold ds_law; exact h
theorem hl_law : ∀ as Q E, ds_law.wp as Q E → as.length = 1 := fun as Q E w => defM_len as Q E (hm_law as Q E w)

theorem answer_of {w : Wi} {hs : List Int} {e f : ME} {ρ : Dl.Env} {Q : Sl → Dl.Env → Prop} {E : Er → Dl.Env → Prop} {n d m t : Nat} (lw : w.lw n d m t) (hn : n = hs.length) (hd : d ≤ 4) (ht : t < 900) (he : ∀ (Q' : Sl → Dl.Env → Prop) (E' : Er → Dl.Env → Prop), Q' (.sh w.d) ρ → e.wp ρ Q' E')
    (hf : ∀ (Q' : Sl → Dl.Env → Prop) (E' : Er → Dl.Env → Prop), Q' (.sh (.lst (hs.map D.int))) ρ → f.wp ρ Q' E') (k : Q (.sh (.int (w.ans (hF hs)))) ρ) :
    (mAlt (mMeth 5 ds_Wish_answer [] e (bCo f bNo)) (mAlt (mMeth 6 ds_Wish_answer [] e (bCo f bNo)) (mAlt (mMeth 7 ds_Wish_answer [] e (bCo f bNo)) (mAlt (mMeth 8 ds_Wish_answer [] e (bCo f bNo)) (mMeth 9 ds_Wish_answer [] e (bCo f bNo)))))).wp ρ Q E := by
  subst hn
  have A : ∀ {Q : Sl → List Sl → Prop} {E : Er → List Sl → Prop}, Q (.sh (.int (w.ans (hF hs)))) [.sh w.d, .sh (.lst (hs.map D.int))] → ds_Wish_answer.wp [.sh w.d, .sh (.lst (hs.map D.int))] Q E := fun q => answer_ok (Nat.le_trans lw.dep hd) lw.sm lw.ok (Nat.lt_of_le_of_lt lw.tl ht) q
  cases w with
  | non => exact .inl (he _ _ (hf _ _ (A k)))
  | all ps => exact .inr (.inl (he _ _ (hf _ _ (A k))))
  | som ps => exact .inr (.inr (.inl (he _ _ (hf _ _ (A k)))))
  | band p cs => exact .inr (.inr (.inr (.inl (he _ _ (hf _ _ (A k))))))
  | both a b => exact .inr (.inr (.inr (.inr (he _ _ (hf _ _ (A k))))))
theorem nez {α : Type} [DecidableEq α] {a : α} : ¬ (true ^^ decide (a = a)) = true := by rw [decide_eq_true rfl]; decide
theorem nez2 {α : Type} [DecidableEq α] {a b : α} (h : a = b) : ¬ (true ^^ decide (a = b)) = true := by rw [decide_eq_true h]; decide
abbrev eW (a2 a3 a4 a5 a6 a7 a8 a9 a10 a11 a12 a13 a14 a15 a16 a17 a18 a19 a20 a21 a22 : Sl) : Dl.Env := [.sh .scr, .bx, a2, a3, a4, a5, a6, a7, a8, a9, a10, a11, a12, a13, a14, a15, a16, a17, a18, a19, a20, a21, a22]
theorem set_ix {i j : Nat} {hs : List Int} {x : Int} {mi : ME} {ρ : Dl.Env} {Q : Unit → Dl.Env → Prop} {E : Er → Dl.Env → Prop} (ei : ρ[i]? = some (.ow (.ol .fr) (.lst (hs.map D.int)))) (hj : j < hs.length) (hm : ∀ (Q' : Sl → Dl.Env → Prop) (E' : Er → Dl.Env → Prop), Q' (.sh (.int ((j : Nat) : Int))) ρ → mi.wp ρ Q' E')
    (k : Q () (ρ.set i (.ow (.ol .fr) (.lst ((hs.set j x).map D.int))))) : (gIx i mi (.sh (.int x))).wp ρ Q E := by
  unfold gIx isOwnU
  refine atOwn_ok ei rfl ?_
  refine hm _ _ ?_
  show (ownL i _).wp _ _ _
  unfold ownL
  refine atOwn_ok ei rfl ?_
  have e : L2.ixN (hs.map D.int).length ((j : Nat) : Int) = some j := by
    unfold L2.ixN
    rw [if_pos (by omega), List.length_map, if_pos (by omega), Int.toNat_natCast]
  simp only [e]
  refine ⟨trivial, ?_⟩
  have e2 : (hs.map D.int).set j (.int x) = (hs.set j x).map D.int := by rw [List.map_set]
  rw [e2]
  exact k
abbrev plI (w : Wi) : List Int := w.places.map fun p => ((p : Nat) : Int)
theorem plD_eq {w : Wi} : plD w = (plI w).map D.int := by unfold plD plI; rw [List.map_map]; rfl
/-- the joined wishes -/
theorem law_c {hs : List Int} {tall : Int} {w u : Wi} {s3 s8 s10 s11 s12 s13 s14 s15 s16 s17 s18 : Sl} (hn : 0 < hs.length) (lw : w.lw hs.length 1 25 8) (lu : u.lw hs.length 0 5 4) (L2 : (Wi.both u u).lw hs.length 1 25 8) :
    m_law_13.wp (eW (.sh (.int tall)) s3 (.sh (.lst (hs.map D.int))) (.sh w.d) (.sh w.sp) (.sh Wi.non.d) s8 .un s10 s11 s12 s13 s14 s15 s16 s17 s18 (.sh u.d) (.sh u.sp) (.sh (Wi.both u u).d) .un) (mends [.sh .scr] (fun r (_ : Dl.Env) => r = .sh (.bl true)) (fun (_ : Er) (_ : Dl.Env) => False)) := by
  have wd4 : w.dep < 4 := Nat.lt_of_le_of_lt lw.dep (by decide)
  have ud4 : u.dep < 4 := Nat.lt_of_le_of_lt lu.dep (by decide)
  refine cut (fun r => r = eW (.sh (.int tall)) s3 (.sh (.lst (hs.map D.int))) (.sh w.d) (.sh w.sp) (.sh Wi.non.d) s8 .un s10 s11 s12 s13 s14 s15 s16 s17 s18 (.sh u.d) (.sh u.sp) (.sh (Wi.both u u).d) .un) ?_ ?_
  · refine size_of (w := .both u u) (fun _ _ q => q) ?_
    refine size4 ud4 lu.sm ?_
    refine size4 ud4 lu.sm ?_
    refine ⟨size_mul L2.sm.2.2.1, ?_⟩
    refine if2 (fun z => absurd z (nez2 rfl)) (fun _ => ?_)
    refine places_of (w := .both u u) L2.sm (places4 (Nat.le_trans L2.dep (by decide)) L2.sm) (fun _ _ q => q) ?_
    refine places_ok4 ud4 lu.sm ?_
    refine places_ok4 ud4 lu.sm ?_
    have lp := u.len_places lu.sm
    have lt := lu.tl
    refine ⟨by unfold plD; rw [List.length_map]; exact Nat.le_of_lt (small_line (by omega)), ?_⟩
    have e : plD u ++ plD u = (plI (.both u u)).map D.int := by rw [← pl_both, plD_eq]
    rw [e, plD_eq]
    refine ⟨⟨fit_ints _, fit_ints _⟩, if2 (fun z => ?_) (fun _ => rfl)⟩
    rw [eq_refl (fit_ints (n := 3) _)] at z
    exact absurd z (by decide)
  rintro _ rfl
  refine cut (fun r => r = eW (.sh (.int tall)) s3 (.sh (.lst (hs.map D.int))) (.sh w.d) (.sh w.sp) (.sh Wi.non.d) s8 .un s10 s11 s12 s13 s14 s15 s16 s17 s18 (.sh u.d) (.sh u.sp) (.sh (Wi.both u u).d) .un) ?_ ?_
  · refine answer_of (w := .both u u) (hs := hs) L2 rfl (by decide) (by decide) (fun _ _ q => q) (fun _ _ q => q) ?_
    refine ans4 ud4 lu.sm lu.ok ?_
    refine size4 ud4 lu.sm ?_
    obtain ⟨a0, a1⟩ := ans_sm (x := hF hs) lu.ok
    have sn := u.size_num
    have nn := lu.num
    have sp := u.size_pos
    refine ⟨mulx_ok (a := 10) (b := 10) (by omega) (by omega) (by omega), ?_⟩
    refine if2 (fun z => absurd z (nez2 ?_)) (fun _ => rfl)
    show u.ans (hF hs) * u.size + u.ans (hF hs) = u.ans (hF hs) * (u.size + 1)
    rw [Int.mul_add, Int.mul_one]
  rintro _ rfl
  refine op2_ok (atI_map (p := 0) (by decide) (by omega)) ?_
  refine new_som (ps := [(0, hs.getD (0 : Int).toNat 0)]) (by show 1 < 900; decide) ?_
  have ls : (Wi.som [(0, hs.getD (0 : Int).toNat 0)]).lw hs.length 0 3 2 := ⟨fun p hp => by rw [List.mem_singleton.mp hp]; exact hn, Nat.le_refl _, by show 3 ≤ 3; decide, by show 2 ≤ 2; decide, by show 3 < 900; decide, by show 2 < 900; decide⟩
  have L3 := lw_both (d3 := 2) (m3 := 75) (t3 := 10) lw ls (by decide) (by decide) (by decide) (by decide) (by decide) (by decide)
  refine bin_ok (a := w) (b := .som [(0, hs.getD (0 : Int).toNat 0)]) L3.sm.2.2.1 ?_
  generalize ev : Wi.som [(0, hs.getD (0 : Int).toNat 0)] = y at L3 ls
  have ysz : y.size = 2 := by rw [← ev]; rfl
  have yans : y.ans (hF hs) = 1 := by
    rw [← ev]
    unfold Wi.ans
    rw [if_pos]
    show (decide (hF hs 0 ≤ hs.getD (0 : Int).toNat 0) || false) = true
    rw [Bool.or_false, decide_eq_true_eq]
    exact Int.le_refl _
  clear ev
  show m_law_16.wp (eW (.sh (.int tall)) s3 (.sh (.lst (hs.map D.int))) (.sh w.d) (.sh w.sp) (.sh Wi.non.d) s8 .un s10 s11 s12 s13 s14 s15 s16 s17 s18 (.sh u.d) (.sh u.sp) (.sh (Wi.both u u).d) (.sh (Wi.both w y).d)) _
  refine cut (fun r => r = eW (.sh (.int tall)) s3 (.sh (.lst (hs.map D.int))) (.sh w.d) (.sh w.sp) (.sh Wi.non.d) s8 .un s10 s11 s12 s13 s14 s15 s16 s17 s18 (.sh u.d) (.sh u.sp) (.sh (Wi.both u u).d) (.sh (Wi.both w y).d)) ?_ ?_
  · refine size_of (w := .both w y) (fun _ _ q => q) ?_
    refine size4 wd4 lw.sm ?_
    refine ⟨.inl ⟨by decide, by decide⟩, ?_⟩
    have e : (Wi.both w y).size = 2 * w.size := by
      show w.size * y.size = _
      rw [ysz, Int.mul_comm]
    refine if2 (fun z => absurd z (nez2 e)) (fun _ => ?_)
    refine size_of (w := w) (fun _ _ q => q) ?_
    refine size4 wd4 lw.sm ?_
    exact if2 (fun z => absurd z nez) (fun _ => rfl)
  rintro _ rfl
  refine answer_of (w := .both w y) (hs := hs) L3 rfl (by decide) (by decide) (fun _ _ q => q) (fun _ _ q => q) ?_
  refine ans4 wd4 lw.sm lw.ok ?_
  refine ⟨.inl ⟨by decide, by decide⟩, ?_⟩
  have e : (false ^^ decide ((Wi.both w y).ans (hF hs) = 2 * w.ans (hF hs) + 1)) = true := by
    rw [decide_eq_true]
    · rfl
    · show w.ans (hF hs) * y.size + y.ans (hF hs) = _
      rw [ysz, yans, Int.mul_comm]
  show ((asB (.sh (.bl (false ^^ decide ((Wi.both w y).ans (hF hs) = 2 * w.ans (hF hs) + 1))))).bind fun c => M.ite c _ (mBl false) : ME).wp _ _ _
  rw [e]
  have ln : Wi.non.lw hs.length 0 1 0 := ⟨trivial, Nat.le_refl _, by decide, by decide, by decide, by decide⟩
  refine answer_of (w := .non) (hs := hs) ln rfl (by decide) (by decide) (fun _ _ q => q) (fun _ _ q => q) ?_
  exact rfl
/-- from the wishes of eight on -/
theorem law_b (v : V) {hs : List Int} {tall : Int} {w : Wi} {s3 s8 s10 s11 s12 s13 s14 : Sl} (hn : 0 < hs.length) (hn2 : hs.length < 900) (t0 : 0 ≤ tall) (t1 : tall < 2 ^ 90) (lw : w.lw hs.length 1 25 8) :
    m_law_10.wp (eW (.sh (.int tall)) s3 (.sh (.lst (hs.map D.int))) (.sh w.d) (.sh w.sp) (.sh Wi.non.d) s8 .un s10 s11 s12 s13 s14 .un .un .un .un .un .un .un .un) (mends [.sh .scr] (fun r (_ : Dl.Env) => r = .sh (.bl true)) (fun (_ : Er) (_ : Dl.Env) => False)) := by
  have wd4 : w.dep < 4 := Nat.lt_of_le_of_lt lw.dep (by decide)
  refine cut (fun r => ∃ s15 s16 s17 s18, r = eW (.sh (.int tall)) s3 (.sh (.lst (hs.map D.int))) (.sh w.d) (.sh w.sp) (.sh Wi.non.d) s8 .un s10 s11 s12 s13 s14 s15 s16 s17 s18 .un .un .un .un) ?_ ?_
  · refine fun v => eight_ok hn hn2 fun us hall => ?_
    refine for_inv (all := us.map fun u => D.tup [u.d, u.sp]) (fun i r => ∃ s15 s16 s17 s18, r = eW (.sh (.int tall)) s3 (.sh (.lst (hs.map D.int))) (.sh w.d) (.sh w.sp) (.sh Wi.non.d) s8 .un s10 s11 s12 s13 s14 s15 s16 s17 s18 .un .un .un .un) ⟨_, _, _, _, rfl⟩ ?_ ?_
    rotate_left
    · exact fun r z => z
    rintro i d r hd ⟨s15, s16, s17, s18, rfl⟩
    obtain ⟨u, eu, rfl⟩ := map_at hd
    have lu := hall u (List.mem_of_getElem? eu)
    have ud4 : u.dep < 4 := Nat.lt_of_le_of_lt lu.dep (by decide)
    show m_law_L4.wp (eW (.sh (.int tall)) s3 (.sh (.lst (hs.map D.int))) (.sh w.d) (.sh w.sp) (.sh Wi.non.d) s8 .un s10 s11 s12 s13 s14 (.sh u.d) (.sh u.sp) s17 s18 .un .un .un .un) _
    refine cut (fun r => r = eW (.sh (.int tall)) s3 (.sh (.lst (hs.map D.int))) (.sh w.d) (.sh w.sp) (.sh Wi.non.d) s8 .un s10 s11 s12 s13 s14 (.sh u.d) (.sh u.sp) s17 s18 .un .un .un .un) ?_ ?_
    · have lp := u.len_places lu.sm
      have lt := lu.tl
      have epl : plD u = (u.places.map fun p => ((p : Nat) : Int)).map D.int := by unfold plD; rw [List.map_map]; rfl
      refine size_of (w := u) (fun _ _ q => q) ?_
      refine size4 ud4 lu.sm ?_
      refine if2 (fun z => absurd z nez) (fun _ => ?_)
      refine places_of (w := u) lu.sm (places4 (by omega) lu.sm) (fun _ _ q => q) ?_
      refine places_ok4 ud4 lu.sm ?_
      rw [epl]
      refine numbers_ok (by rw [List.length_map]; omega) ?_
      exact rfl
    rintro _ rfl
    refine ⟨⟨by rw [List.length_map]; omega, by rw [List.length_map]; omega⟩, ?_⟩
    refine for_inv (fun i r => ∃ s17 s18, r = eW (.sh (.int tall)) s3 (.sh (.lst (hs.map D.int))) (.sh w.d) (.sh w.sp) (.sh Wi.non.d) s8 .un s10 s11 s12 s13 s14 (.sh u.d) (.sh u.sp) s17 s18 .un .un .un .un) ⟨_, _, rfl⟩ ?_ ?_
    rotate_left
    · exact fun r ⟨s17, s18, e⟩ => ⟨_, _, s17, s18, e⟩
    rintro j d r hj ⟨s17, s18, rfl⟩
    obtain ⟨hj1, rfl⟩ := rg_at hj
    have hL : (hs.map D.int).length = hs.length := List.length_map ..
    have hj' : j < hs.length := by omega
    rw [Int.zero_add]
    refine ⟨trivial, ?_⟩
    show m_law_L5_1.wp (eW (.sh (.int tall)) s3 (.sh (.lst (hs.map D.int))) (.sh w.d) (.sh w.sp) (.sh Wi.non.d) s8 .un s10 s11 s12 s13 s14 (.sh u.d) (.sh u.sp) (.sh (.int ((j : Nat) : Int))) (.ow (.ol .fr) (.lst (hs.map D.int))) .un .un .un .un) _
    refine cut (fun r => ∃ x, r = eW (.sh (.int tall)) s3 (.sh (.lst (hs.map D.int))) (.sh w.d) (.sh w.sp) (.sh Wi.non.d) s8 .un s10 s11 s12 s13 s14 (.sh u.d) (.sh u.sp) (.sh (.int ((j : Nat) : Int))) (.ow (.ol .fr) (.lst ((hs.set j x).map D.int))) .un .un .un .un) ?_ ?_
    · refine op2_ok (atI_map (p := ((j : Nat) : Int)) (by omega) (by omega)) ?_
      refine ⟨rfl, ?_⟩
      refine ⟨⟨by first | decide | omega, by first | decide | omega⟩, fun x x0 x1 => ?_⟩
      refine set_ix (j := j) (hs := hs) rfl hj' (fun _ _ q => q) ?_
      exact ⟨_, rfl⟩
    rintro _ ⟨x, rfl⟩
    have hls : (hs.set j x).length = hs.length := List.length_set ..
    generalize hs.set j x = h at hls
    refine answer_of (w := u) (hs := h) lu hls.symm (by decide) (by decide) (fun _ _ q => q) (fun _ _ q => q) ?_
    refine ans4 ud4 lu.sm (by rw [hls]; exact lu.ok) ?_
    exact if2 (fun z => absurd z nez) (fun _ => ⟨_, _, rfl⟩)
  rintro _ ⟨s15, s16, s17, s18, rfl⟩
  refine fun v => single_ok hn hn2 t0 t1 fun u lu => ?_
  show m_law_12.wp (eW (.sh (.int tall)) s3 (.sh (.lst (hs.map D.int))) (.sh w.d) (.sh w.sp) (.sh Wi.non.d) s8 .un s10 s11 s12 s13 s14 s15 s16 s17 s18 (.sh u.d) (.sh u.sp) .un .un) _
  have ud4 : u.dep < 4 := Nat.lt_of_le_of_lt lu.dep (by decide)
  have L2 := lw_both (d3 := 1) (m3 := 25) (t3 := 8) lu lu (by decide) (by decide) (by decide) (by decide) (by decide) (by decide)
  refine bin_ok (a := u) (b := u) L2.sm.2.2.1 ?_
  exact law_c hn lw lu L2
theorem law_true : ds_law.wp [.sh .scr] (fun r _ => r = .sh (.bl true)) (fun _ _ => False) := by
  refine mh_law ?_
  refine ⟨⟨by first | decide | omega, by first | decide | omega⟩, fun b b0 b1 => ?_⟩
  obtain ⟨tall, et, t0, t1⟩ : ∃ tall, dIxL (.lst [.int 9, .int 100000000000000000000]) (.int b) = some (.int tall) ∧ 0 ≤ tall ∧ tall < 2 ^ 90 := by
    have : b = 0 ∨ b = 1 := by omega
    rcases this with rfl | rfl
    · exact ⟨_, rfl, by decide, by decide⟩
    · exact ⟨_, rfl, by decide, by decide⟩
  refine op2_ok et ?_
  show m_law_2.wp (eW (.sh (.int tall)) .un .un .un .un .un .un .un .un .un .un .un .un .un .un .un .un .un .un .un .un) _
  refine cut (fun r => ∃ hs : List Int, 0 < hs.length ∧ hs.length < 900 ∧ r = eW (.sh (.int tall)) .un (.sh (.lst (hs.map D.int))) .un .un .un .un .un .un .un .un .un .un .un .un .un .un .un .un .un .un) ?_ ?_
  · refine ⟨⟨by first | decide | omega, by first | decide | omega⟩, fun n n0 n1 => ?_⟩
    refine ⟨⟨by omega, by omega⟩, ?_⟩
    refine lc_inv (fun i acc r => ∃ hs : List Int, hs.length = i ∧ acc = hs.map D.int ∧ r = eW (.sh (.int tall)) .un .un .un .un .un .un .un .un .un .un .un .un .un .un .un .un .un .un .un .un) ⟨[], rfl, rfl, rfl⟩ ?_ ?_
    · rintro i d acc r hd ⟨hs, hl, rfl, rfl⟩
      obtain ⟨hi, rfl⟩ := rg_at hd
      refine ⟨⟨by omega, by omega⟩, fun x x0 x1 => ?_⟩
      refine ⟨small_line (by rw [List.length_map]; omega), hs ++ [x], by rw [List.length_append, hl]; rfl, by rw [List.map_append]; rfl, rfl⟩
    · rintro acc r ⟨hs, hl, rfl, rfl⟩
      rw [rgD_len] at hl
      exact ⟨hs, by omega, by omega, rfl⟩
  rintro _ ⟨hs, hn, hn2, rfl⟩
  refine fun v => wish_ok hn hn2 t0 t1 fun w lw => ?_
  show m_law_4.wp (eW (.sh (.int tall)) .un (.sh (.lst (hs.map D.int))) (.sh w.d) (.sh w.sp) .un .un .un .un .un .un .un .un .un .un .un .un .un .un .un .un) _
  refine new_non ?_
  show m_law_5.wp (eW (.sh (.int tall)) .un (.sh (.lst (hs.map D.int))) (.sh w.d) (.sh w.sp) (.sh Wi.non.d) .un .un .un .un .un .un .un .un .un .un .un .un .un .un .un) _
  have wd4 : w.dep < 4 := Nat.lt_of_le_of_lt lw.dep (by decide)
  refine cut (fun r => r = eW (.sh (.int tall)) .un (.sh (.lst (hs.map D.int))) (.sh w.d) (.sh w.sp) (.sh Wi.non.d) .un .un .un .un .un .un .un .un .un .un .un .un .un .un .un) ?_ ?_
  · refine size_of (w := w) (fun _ _ q => q) ?_
    refine number_int ?_
    refine size_of (w := w) (fun _ _ q => q) ?_
    refine size4 wd4 lw.sm ?_
    refine if2 (fun z => absurd z nez) (fun _ => ?_)
    refine size_of (w := .non) (fun _ _ q => q) ?_
    exact rfl
  rintro _ rfl
  show m_law_7.wp (eW (.sh (.int tall)) .un (.sh (.lst (hs.map D.int))) (.sh w.d) (.sh w.sp) (.sh Wi.non.d) (.ow (.ol .fr) (.lst ([hs].map fun h => D.lst (h.map D.int)))) .un .un .un .un .un .un .un .un .un .un .un .un .un .un) _
  refine cut (fun r => ∃ (L : List (List Int)) (s3 : Sl), (∀ h ∈ L, h.length = hs.length) ∧ r = eW (.sh (.int tall)) s3 (.sh (.lst (hs.map D.int))) (.sh w.d) (.sh w.sp) (.sh Wi.non.d) (.ow (.ol .fr) (.lst (L.map fun h => D.lst (h.map D.int)))) .un .un .un .un .un .un .un .un .un .un .un .un .un .un) ?_ ?_
  · refine ⟨⟨by decide, by decide⟩, ?_⟩
    refine for_inv (fun i r => ∃ (L : List (List Int)) (s3 : Sl), (∀ h ∈ L, h.length = hs.length) ∧ L.length = i + 1 ∧ r = eW (.sh (.int tall)) s3 (.sh (.lst (hs.map D.int))) (.sh w.d) (.sh w.sp) (.sh Wi.non.d) (.ow (.ol .fr) (.lst (L.map fun h => D.lst (h.map D.int)))) .un .un .un .un .un .un .un .un .un .un .un .un .un .un) ⟨[hs], .un, fun h z => (by rw [List.mem_singleton.mp z]), rfl, rfl⟩ ?_ ?_
    · rintro i d r hd ⟨L, s3, okL, hl, rfl⟩
      obtain ⟨hi, rfl⟩ := rg_at hd
      have hi' : i < 5 := hi
      refine lc_inv (fun j acc r => ∃ h : List Int, h.length = j ∧ acc = h.map D.int ∧ r = eW (.sh (.int tall)) (.sh (.int (0 + (i : Nat)))) (.sh (.lst (hs.map D.int))) (.sh w.d) (.sh w.sp) (.sh Wi.non.d) (.ow (.ol .fr) (.lst (L.map fun h => D.lst (h.map D.int)))) .un .un .un .un .un .un .un .un .un .un .un .un .un .un) ⟨[], rfl, rfl, rfl⟩ ?_ ?_
      · rintro j d acc r hj ⟨h, hlj, rfl, rfl⟩
        obtain ⟨y, ey, rfl⟩ := map_at hj
        have jl := get_lt ey
        refine ⟨⟨by first | decide | omega, by first | decide | omega⟩, fun x x0 x1 => ?_⟩
        refine ⟨small_line (by rw [List.length_map]; omega), h ++ [y + x - 3], by rw [List.length_append, hlj]; rfl, by rw [List.map_append]; rfl, rfl⟩
      · rintro acc r ⟨h, hlj, rfl, rfl⟩
        rw [List.length_map] at hlj
        refine ⟨small_line (by rw [List.length_map]; omega), L ++ [h], .sh (.int (0 + (i : Nat))), fun h' z => ?_, by rw [List.length_append, hl]; rfl, by rw [List.map_append]; rfl⟩
        rcases List.mem_append.mp z with z | z
        · exact okL h' z
        · rw [List.mem_singleton.mp z]; exact hlj
    · rintro r ⟨L, s3, okL, hl, rfl⟩
      exact ⟨L, s3, okL, rfl⟩
  rintro _ ⟨L, s3, okL, rfl⟩
  refine cut (fun r => ∃ s8 s10 s11 s12, r = eW (.sh (.int tall)) s3 (.sh (.lst (hs.map D.int))) (.sh w.d) (.sh w.sp) (.sh Wi.non.d) s8 .un s10 s11 s12 .un .un .un .un .un .un .un .un .un .un) ?_ ?_
  · refine for_inv (fun i r => ∃ s8 s10 s11 s12, r = eW (.sh (.int tall)) s3 (.sh (.lst (hs.map D.int))) (.sh w.d) (.sh w.sp) (.sh Wi.non.d) s8 .un s10 s11 s12 .un .un .un .un .un .un .un .un .un .un) ⟨.sh (.lst (L.map fun h => D.lst (h.map D.int))), .un, .un, .un, rfl⟩ ?_ (fun r z => z)
    rintro i d r hd ⟨s8, s10, s11, s12, rfl⟩
    obtain ⟨h, eh, rfl⟩ := map_at hd
    have hlen := okL h (List.mem_of_getElem? eh)
    refine ⟨trivial, ?_⟩
    show m_law_L2_1.wp (eW (.sh (.int tall)) s3 (.sh (.lst (hs.map D.int))) (.sh w.d) (.sh w.sp) (.sh Wi.non.d) s8 .un (.sh (.lst (h.map D.int))) (.sh (.lst (h.map D.int))) s12 .un .un .un .un .un .un .un .un .un .un) _
    refine answer_of (w := w) (hs := h) lw hlen.symm (by decide) (by decide) (fun _ _ q => q) (fun _ _ q => q) ?_
    show m_law_L2_2.wp (eW (.sh (.int tall)) s3 (.sh (.lst (hs.map D.int))) (.sh w.d) (.sh w.sp) (.sh Wi.non.d) s8 .un (.sh (.lst (h.map D.int))) (.sh (.lst (h.map D.int))) (.sh (.int (w.ans (hF h)))) .un .un .un .un .un .un .un .un .un .un) _
    refine number_int ?_
    refine ans4 wd4 lw.sm (by rw [hlen]; exact lw.ok) ?_
    refine if2 (fun z => absurd z nez) (fun _ => ?_)
    refine ⟨⟨fit_ints h, fit_ints h⟩, if2 (fun z => ?_) (fun _ => ⟨_, _, _, _, rfl⟩)⟩
    rw [eq_refl (fit_ints (n := 3) h)] at z
    exact absurd z (by decide)
  rintro _ ⟨s8, s10, s11, s12, rfl⟩
  refine cut (fun r => ∃ s13 s14, r = eW (.sh (.int tall)) s3 (.sh (.lst (hs.map D.int))) (.sh w.d) (.sh w.sp) (.sh Wi.non.d) s8 .un s10 s11 s12 s13 s14 .un .un .un .un .un .un .un .un) ?_ ?_
  · refine ⟨⟨by decide, by decide⟩, ?_⟩
    refine for_inv (fun i r => ∃ s13 s14, r = eW (.sh (.int tall)) s3 (.sh (.lst (hs.map D.int))) (.sh w.d) (.sh w.sp) (.sh Wi.non.d) s8 .un s10 s11 s12 s13 s14 .un .un .un .un .un .un .un .un) ⟨_, _, rfl⟩ ?_ (fun r z => z)
    rintro i d r hd ⟨s13, s14, rfl⟩
    obtain ⟨hi, rfl⟩ := rg_at hd
    have lp := w.len_places lw.sm
    have lt := lw.tl
    refine places_of (w := w) lw.sm (places4 (by omega) lw.sm) (fun _ _ q => q) ?_
    show m_law_L3_1.wp (eW (.sh (.int tall)) s3 (.sh (.lst (hs.map D.int))) (.sh w.d) (.sh w.sp) (.sh Wi.non.d) s8 .un s10 s11 s12 (.sh (.int (0 + (i : Nat)))) (.ow (.ol .fr) (.lst (plD w))) .un .un .un .un .un .un .un .un) _
    have epl : plD w = (w.places.map fun p => ((p : Nat) : Int)).map D.int := by unfold plD; rw [List.map_map]; rfl
    refine places_ok4 wd4 lw.sm ?_
    rw [epl]
    refine numbers_ok (by rw [List.length_map]; omega) ?_
    exact ⟨small_line (by rw [List.length_map, List.length_map]; omega), _, _, rfl⟩
  rintro _ ⟨s13, s14, rfl⟩
  refine (?_ : m_law_10.wp (eW (.sh (.int tall)) s3 (.sh (.lst (hs.map D.int))) (.sh w.d) (.sh w.sp) (.sh Wi.non.d) s8 .un s10 s11 s12 s13 s14 .un .un .un .un .un .un .un .un) _)
  have h := law_b (s3 := s3) (s8 := s8) (s10 := s10) (s11 := s11) (s12 := s12) (s13 := s13) (s14 := s14) v hn hn2 t0 t1 lw
  exact h
end
end Pf
namespace Pf
open PySem PySem.Spec PyProof.Rows L2 Dl
theorem sc_law_box : FnScope ["_law_script", "_law_cell"] ["_law_script"] (defScope s_law_box) := ⟨rfl, rfl, rfl, by decide +kernel, rfl, by decide +kernel, by decide +kernel⟩
theorem sc_law_take : FnScope ["_law_box_here", "_law_size_here", "_law_cell", "_law_digit"] ["_law_box_here", "_law_size_here"] (defScope s_law_take) := ⟨rfl, rfl, rfl, by decide +kernel, rfl, by decide +kernel, by decide +kernel⟩
theorem sc_TrialU_initU : FnScope ["self", "place", "height", "reached"] ["self", "place", "height", "reached"] (defScope s_TrialU_initU) := ⟨rfl, rfl, rfl, by decide +kernel, rfl, by decide +kernel, by decide +kernel⟩
theorem sc_Trial_agrees : FnScope ["self", "heights"] ["self", "heights"] (defScope s_Trial_agrees) := ⟨rfl, rfl, rfl, by decide +kernel, rfl, by decide +kernel, by decide +kernel⟩
theorem sc_WishU_initU : FnScope ["self", "size"] ["self", "size"] (defScope s_WishU_initU) := ⟨rfl, rfl, rfl, by decide +kernel, rfl, by decide +kernel, by decide +kernel⟩
theorem sc_AllWithinU_initU : SupX.ScopeS ["self", "pairs", "place", "height"] ["self", "pairs"] (defScope s_AllWithinU_initU) := ⟨rfl, rfl, rfl, by decide +kernel, rfl, by decide +kernel, by decide +kernel, by decide +kernel, by decide +kernel⟩
theorem sc_SomeWithinU_initU : SupX.ScopeS ["self", "pairs", "place", "height"] ["self", "pairs"] (defScope s_SomeWithinU_initU) := ⟨rfl, rfl, rfl, by decide +kernel, rfl, by decide +kernel, by decide +kernel, by decide +kernel, by decide +kernel⟩
theorem sc_BandU_initU : SupX.ScopeS ["self", "place", "cuts", "before", "cut"] ["self", "place", "cuts"] (defScope s_BandU_initU) := ⟨rfl, rfl, rfl, by decide +kernel, rfl, by decide +kernel, by decide +kernel, by decide +kernel, by decide +kernel⟩
theorem sc_BothU_initU : SupX.ScopeS ["self", "first", "second"] ["self", "first", "second"] (defScope s_BothU_initU) := ⟨rfl, rfl, rfl, by decide +kernel, rfl, by decide +kernel, by decide +kernel, by decide +kernel, by decide +kernel⟩
theorem sc_Wish_cases : FnScope ["self"] ["self"] (defScope s_Wish_cases) := ⟨rfl, rfl, rfl, by decide +kernel, rfl, by decide +kernel, by decide +kernel⟩
theorem sc_AllWithin_cases : FnScope ["self", "place", "height", "rows"] ["self"] (defScope s_AllWithin_cases) := ⟨rfl, rfl, rfl, by decide +kernel, rfl, by decide +kernel, by decide +kernel⟩
theorem sc_SomeWithin_cases : FnScope ["self", "place", "height", "rows"] ["self"] (defScope s_SomeWithin_cases) := ⟨rfl, rfl, rfl, by decide +kernel, rfl, by decide +kernel, by decide +kernel⟩
theorem sc_Band_cases : FnScope ["self", "rows", "number", "trials"] ["self"] (defScope s_Band_cases) := ⟨rfl, rfl, rfl, by decide +kernel, rfl, by decide +kernel, by decide +kernel⟩
theorem sc_Both_cases : FnScope ["self", "rows", "high", "trials", "low", "more"] ["self"] (defScope s_Both_cases) := ⟨rfl, rfl, rfl, by decide +kernel, rfl, by decide +kernel, by decide +kernel⟩
theorem sc_Wish_places : FnScope ["self"] ["self"] (defScope s_Wish_places) := ⟨rfl, rfl, rfl, by decide +kernel, rfl, by decide +kernel, by decide +kernel⟩
theorem sc_AllWithin_places : FnScope ["self", "place", "height"] ["self"] (defScope s_AllWithin_places) := ⟨rfl, rfl, rfl, by decide +kernel, rfl, by decide +kernel, by decide +kernel⟩
theorem sc_SomeWithin_places : FnScope ["self", "place", "height"] ["self"] (defScope s_SomeWithin_places) := ⟨rfl, rfl, rfl, by decide +kernel, rfl, by decide +kernel, by decide +kernel⟩
theorem sc_Band_places : FnScope ["self"] ["self"] (defScope s_Band_places) := ⟨rfl, rfl, rfl, by decide +kernel, rfl, by decide +kernel, by decide +kernel⟩
theorem sc_Both_places : FnScope ["self"] ["self"] (defScope s_Both_places) := ⟨rfl, rfl, rfl, by decide +kernel, rfl, by decide +kernel, by decide +kernel⟩
theorem sc_Wish_answer : FnScope ["self", "heights", "answer", "trials", "trial"] ["self", "heights"] (defScope s_Wish_answer) := ⟨rfl, rfl, rfl, by decide +kernel, rfl, by decide +kernel, by decide +kernel⟩
theorem sc_WishU_andU : FnScope ["self", "other"] ["self", "other"] (defScope s_WishU_andU) := ⟨rfl, rfl, rfl, by decide +kernel, rfl, by decide +kernel, by decide +kernel⟩
theorem sc_law_number : FnScope ["_law_x"] ["_law_x"] (defScope s_law_number) := ⟨rfl, rfl, rfl, by decide +kernel, rfl, by decide +kernel, by decide +kernel⟩
theorem sc_law_numbers : FnScope ["_law_row", "_law_due", "_law_k"] ["_law_row", "_law_due"] (defScope s_law_numbers) := ⟨rfl, rfl, rfl, by decide +kernel, rfl, by decide +kernel, by decide +kernel⟩
theorem sc_law_pairs : FnScope ["_law_box_here", "_law_truth", "_law_tall", "_law_pairs_here", "_law_k", "_law_place", "_law_near", "_law_wide"] ["_law_box_here", "_law_truth", "_law_tall"] (defScope s_law_pairs) := ⟨rfl, rfl, rfl, by decide +kernel, rfl, by decide +kernel, by decide +kernel⟩
theorem sc_law_many : FnScope ["_law_pairs_here", "_law_every"] ["_law_pairs_here", "_law_every"] (defScope s_law_many) := ⟨rfl, rfl, rfl, by decide +kernel, rfl, by decide +kernel, by decide +kernel⟩
theorem sc_law_band : FnScope ["_law_place", "_law_cuts"] ["_law_place", "_law_cuts"] (defScope s_law_band) := ⟨rfl, rfl, rfl, by decide +kernel, rfl, by decide +kernel, by decide +kernel⟩
theorem sc_law_single : FnScope ["_law_box_here", "_law_truth", "_law_tall", "_law_way", "_law_pairs_here", "_law_place", "_law_level", "_law_cuts", "_law_k"] ["_law_box_here", "_law_truth", "_law_tall"] (defScope s_law_single) := ⟨rfl, rfl, rfl, by decide +kernel, rfl, by decide +kernel, by decide +kernel⟩
theorem sc_law_wish : FnScope ["_law_box_here", "_law_truth", "_law_tall", "_law_one", "_law_other"] ["_law_box_here", "_law_truth", "_law_tall"] (defScope s_law_wish) := ⟨rfl, rfl, rfl, by decide +kernel, rfl, by decide +kernel, by decide +kernel⟩
theorem sc_law_size : FnScope ["_law_spec"] ["_law_spec"] (defScope s_law_size) := ⟨rfl, rfl, rfl, by decide +kernel, rfl, by decide +kernel, by decide +kernel⟩
theorem sc_law_answer : FnScope ["_law_spec", "_law_heights", "_law_first", "_law_cut", "_law_pair", "_law_kept"] ["_law_spec", "_law_heights"] (defScope s_law_answer) := ⟨rfl, rfl, rfl, by decide +kernel, rfl, by decide +kernel, by decide +kernel⟩
theorem sc_law_places : FnScope ["_law_spec", "_law_pair"] ["_law_spec"] (defScope s_law_places) := ⟨rfl, rfl, rfl, by decide +kernel, rfl, by decide +kernel, by decide +kernel⟩
theorem sc_law_eight : FnScope ["_law_box_here", "_law_truth", "_law_pairs_here", "_law_cuts", "_law_level", "_law_k", "_law_place", "_law_a", "_law_b", "_law_c", "_law_d", "_law_f", "_law_g", "_law_h", "_law_i", "_law_every", "_law_some", "_law_band_here"] ["_law_box_here", "_law_truth"] (defScope s_law_eight) := ⟨rfl, rfl, rfl, by decide +kernel, rfl, by decide +kernel, by decide +kernel⟩
theorem sc_law : FnScope ["_law_script", "_law_box_here", "_law_tall", "_law_k", "_law_truth", "_law_wish_here", "_law_spec", "_law_kept", "_law_lists", "_law_height", "_law_heights", "_law_passed", "_law_told", "_law_turn", "_law_places_here", "_law_large", "_law_parts", "_law_at", "_law_near", "_law_single_here", "_law_part", "_law_twice", "_law_more"] ["_law_script"] (defScope s_law) := ⟨rfl, rfl, rfl, by decide +kernel, rfl, by decide +kernel, by decide +kernel⟩
/-- what the top has written -/
structure Txt (K : PySem.W.Frag) (mg : Str → Option Value) where
  fd_law_box : FuncData
  F_law_box : FunD K "_law_box" "_law_box" (defArgs s_law_box) (defBody s_law_box) (defScope s_law_box) [] [] (He.ga K "_law_box") fd_law_box
  fd_law_take : FuncData
  F_law_take : FunD K "_law_take" "_law_take" (defArgs s_law_take) (defBody s_law_take) (defScope s_law_take) [] [] (He.ga K "_law_take") fd_law_take
  fd_TrialU_initU : FuncData
  F_TrialU_initU : FunD K "__init__" "Trial.__init__" (defArgs s_TrialU_initU) (defBody s_TrialU_initU) (defScope s_TrialU_initU) [] [] (He.ma K (He.ga K "Trial") "__init__") fd_TrialU_initU
  fd_Trial_agrees : FuncData
  F_Trial_agrees : FunD K "agrees" "Trial.agrees" (defArgs s_Trial_agrees) (defBody s_Trial_agrees) (defScope s_Trial_agrees) [] [] (He.ma K (He.ga K "Trial") "agrees") fd_Trial_agrees
  fd_WishU_initU : FuncData
  F_WishU_initU : FunD K "__init__" "Wish.__init__" (defArgs s_WishU_initU) (defBody s_WishU_initU) (defScope s_WishU_initU) [.int 1] [] (He.ma K (He.ga K "Wish") "__init__") fd_WishU_initU
  fd_AllWithinU_initU : FuncData
  S_AllWithinU_initU : SupX.FunS PP K "__init__" "AllWithin.__init__" (defArgs s_AllWithinU_initU) (defBody s_AllWithinU_initU) (defScope s_AllWithinU_initU) (He.ga K "AllWithin") (He.ma K (He.ga K "AllWithin") "__init__") (He.ma K (He.ga K "Wish") "__init__") fd_AllWithinU_initU
  fd_SomeWithinU_initU : FuncData
  S_SomeWithinU_initU : SupX.FunS PP K "__init__" "SomeWithin.__init__" (defArgs s_SomeWithinU_initU) (defBody s_SomeWithinU_initU) (defScope s_SomeWithinU_initU) (He.ga K "SomeWithin") (He.ma K (He.ga K "SomeWithin") "__init__") (He.ma K (He.ga K "Wish") "__init__") fd_SomeWithinU_initU
  fd_BandU_initU : FuncData
  S_BandU_initU : SupX.FunS PP K "__init__" "Band.__init__" (defArgs s_BandU_initU) (defBody s_BandU_initU) (defScope s_BandU_initU) (He.ga K "Band") (He.ma K (He.ga K "Band") "__init__") (He.ma K (He.ga K "Wish") "__init__") fd_BandU_initU
  fd_BothU_initU : FuncData
  S_BothU_initU : SupX.FunS PP K "__init__" "Both.__init__" (defArgs s_BothU_initU) (defBody s_BothU_initU) (defScope s_BothU_initU) (He.ga K "Both") (He.ma K (He.ga K "Both") "__init__") (He.ma K (He.ga K "Wish") "__init__") fd_BothU_initU
  fd_Wish_cases : FuncData
  F_Wish_cases : FunD K "cases" "Wish.cases" (defArgs s_Wish_cases) (defBody s_Wish_cases) (defScope s_Wish_cases) [] [] (He.ma K (He.ga K "Wish") "cases") fd_Wish_cases
  fd_AllWithin_cases : FuncData
  F_AllWithin_cases : FunD K "cases" "AllWithin.cases" (defArgs s_AllWithin_cases) (defBody s_AllWithin_cases) (defScope s_AllWithin_cases) [] [] (He.ma K (He.ga K "AllWithin") "cases") fd_AllWithin_cases
  fd_SomeWithin_cases : FuncData
  F_SomeWithin_cases : FunD K "cases" "SomeWithin.cases" (defArgs s_SomeWithin_cases) (defBody s_SomeWithin_cases) (defScope s_SomeWithin_cases) [] [] (He.ma K (He.ga K "SomeWithin") "cases") fd_SomeWithin_cases
  fd_Band_cases : FuncData
  F_Band_cases : FunD K "cases" "Band.cases" (defArgs s_Band_cases) (defBody s_Band_cases) (defScope s_Band_cases) [] [] (He.ma K (He.ga K "Band") "cases") fd_Band_cases
  fd_Both_cases : FuncData
  F_Both_cases : FunD K "cases" "Both.cases" (defArgs s_Both_cases) (defBody s_Both_cases) (defScope s_Both_cases) [] [] (He.ma K (He.ga K "Both") "cases") fd_Both_cases
  fd_Wish_places : FuncData
  F_Wish_places : FunD K "places" "Wish.places" (defArgs s_Wish_places) (defBody s_Wish_places) (defScope s_Wish_places) [] [] (He.ma K (He.ga K "Wish") "places") fd_Wish_places
  fd_AllWithin_places : FuncData
  F_AllWithin_places : FunD K "places" "AllWithin.places" (defArgs s_AllWithin_places) (defBody s_AllWithin_places) (defScope s_AllWithin_places) [] [] (He.ma K (He.ga K "AllWithin") "places") fd_AllWithin_places
  fd_SomeWithin_places : FuncData
  F_SomeWithin_places : FunD K "places" "SomeWithin.places" (defArgs s_SomeWithin_places) (defBody s_SomeWithin_places) (defScope s_SomeWithin_places) [] [] (He.ma K (He.ga K "SomeWithin") "places") fd_SomeWithin_places
  fd_Band_places : FuncData
  F_Band_places : FunD K "places" "Band.places" (defArgs s_Band_places) (defBody s_Band_places) (defScope s_Band_places) [] [] (He.ma K (He.ga K "Band") "places") fd_Band_places
  fd_Both_places : FuncData
  F_Both_places : FunD K "places" "Both.places" (defArgs s_Both_places) (defBody s_Both_places) (defScope s_Both_places) [] [] (He.ma K (He.ga K "Both") "places") fd_Both_places
  fd_Wish_answer : FuncData
  F_Wish_answer : FunD K "answer" "Wish.answer" (defArgs s_Wish_answer) (defBody s_Wish_answer) (defScope s_Wish_answer) [] [] (He.ma K (He.ga K "Wish") "answer") fd_Wish_answer
  fd_WishU_andU : FuncData
  F_WishU_andU : FunD K "__and__" "Wish.__and__" (defArgs s_WishU_andU) (defBody s_WishU_andU) (defScope s_WishU_andU) [] [] (He.ma K (He.ga K "Wish") "__and__") fd_WishU_andU
  fd_law_number : FuncData
  F_law_number : FunD K "_law_number" "_law_number" (defArgs s_law_number) (defBody s_law_number) (defScope s_law_number) [] [] (He.ga K "_law_number") fd_law_number
  fd_law_numbers : FuncData
  F_law_numbers : FunD K "_law_numbers" "_law_numbers" (defArgs s_law_numbers) (defBody s_law_numbers) (defScope s_law_numbers) [] [] (He.ga K "_law_numbers") fd_law_numbers
  fd_law_pairs : FuncData
  F_law_pairs : FunD K "_law_pairs" "_law_pairs" (defArgs s_law_pairs) (defBody s_law_pairs) (defScope s_law_pairs) [] [] (He.ga K "_law_pairs") fd_law_pairs
  fd_law_many : FuncData
  F_law_many : FunD K "_law_many" "_law_many" (defArgs s_law_many) (defBody s_law_many) (defScope s_law_many) [] [] (He.ga K "_law_many") fd_law_many
  fd_law_band : FuncData
  F_law_band : FunD K "_law_band" "_law_band" (defArgs s_law_band) (defBody s_law_band) (defScope s_law_band) [] [] (He.ga K "_law_band") fd_law_band
  fd_law_single : FuncData
  F_law_single : FunD K "_law_single" "_law_single" (defArgs s_law_single) (defBody s_law_single) (defScope s_law_single) [] [] (He.ga K "_law_single") fd_law_single
  fd_law_wish : FuncData
  F_law_wish : FunD K "_law_wish" "_law_wish" (defArgs s_law_wish) (defBody s_law_wish) (defScope s_law_wish) [] [] (He.ga K "_law_wish") fd_law_wish
  fd_law_size : FuncData
  F_law_size : FunD K "_law_size" "_law_size" (defArgs s_law_size) (defBody s_law_size) (defScope s_law_size) [] [] (He.ga K "_law_size") fd_law_size
  fd_law_answer : FuncData
  F_law_answer : FunD K "_law_answer" "_law_answer" (defArgs s_law_answer) (defBody s_law_answer) (defScope s_law_answer) [] [] (He.ga K "_law_answer") fd_law_answer
  fd_law_places : FuncData
  F_law_places : FunD K "_law_places" "_law_places" (defArgs s_law_places) (defBody s_law_places) (defScope s_law_places) [] [] (He.ga K "_law_places") fd_law_places
  fd_law_eight : FuncData
  F_law_eight : FunD K "_law_eight" "_law_eight" (defArgs s_law_eight) (defBody s_law_eight) (defScope s_law_eight) [] [] (He.ga K "_law_eight") fd_law_eight
  fd_law : FuncData
  F_law : FunD K "law" "law" (defArgs s_law) (defBody s_law) (defScope s_law) [] [] (He.ga K "law") fd_law
  m_AllWithin : mg "AllWithin" = some (.ref (He.ga K "AllWithin"))
  m_Band : mg "Band" = some (.ref (He.ga K "Band"))
  m_Both : mg "Both" = some (.ref (He.ga K "Both"))
  m_SomeWithin : mg "SomeWithin" = some (.ref (He.ga K "SomeWithin"))
  m_Trial : mg "Trial" = some (.ref (He.ga K "Trial"))
  m_Wish : mg "Wish" = some (.ref (He.ga K "Wish"))
  m__law_answer : mg "_law_answer" = some (.ref (He.ga K "_law_answer"))
  m__law_band : mg "_law_band" = some (.ref (He.ga K "_law_band"))
  m__law_box : mg "_law_box" = some (.ref (He.ga K "_law_box"))
  m__law_eight : mg "_law_eight" = some (.ref (He.ga K "_law_eight"))
  m__law_many : mg "_law_many" = some (.ref (He.ga K "_law_many"))
  m__law_number : mg "_law_number" = some (.ref (He.ga K "_law_number"))
  m__law_numbers : mg "_law_numbers" = some (.ref (He.ga K "_law_numbers"))
  m__law_pairs : mg "_law_pairs" = some (.ref (He.ga K "_law_pairs"))
  m__law_places : mg "_law_places" = some (.ref (He.ga K "_law_places"))
  m__law_single : mg "_law_single" = some (.ref (He.ga K "_law_single"))
  m__law_size : mg "_law_size" = some (.ref (He.ga K "_law_size"))
  m__law_take : mg "_law_take" = some (.ref (He.ga K "_law_take"))
  m__law_wish : mg "_law_wish" = some (.ref (He.ga K "_law_wish"))
  m_law : mg "law" = some (.ref (He.ga K "law"))
  n_all : mg "all" = none
  n_bool : mg "bool" = none
  n_int : mg "int" = none
  n_isinstance : mg "isinstance" = none
  n_len : mg "len" = none
  n_list : mg "list" = none
  n_range : mg "range" = none
  n_super : mg "super" = none
  n_zip : mg "zip" = none
  cl_AllWithin : Cls K (He.ga K "AllWithin")
  cl_Band : Cls K (He.ga K "Band")
  cl_Both : Cls K (He.ga K "Both")
  cl_SomeWithin : Cls K (He.ga K "SomeWithin")
  cl_Trial : Cls K (He.ga K "Trial")
  cl_Wish : Cls K (He.ga K "Wish")
  na_AllWithin_pairs : NoAttr K (He.ga K "AllWithin") "pairs"
  na_AllWithin_size : NoAttr K (He.ga K "AllWithin") "size"
  na_Band_cuts : NoAttr K (He.ga K "Band") "cuts"
  na_Band_place : NoAttr K (He.ga K "Band") "place"
  na_Band_size : NoAttr K (He.ga K "Band") "size"
  na_Both_first : NoAttr K (He.ga K "Both") "first"
  na_Both_second : NoAttr K (He.ga K "Both") "second"
  na_Both_size : NoAttr K (He.ga K "Both") "size"
  na_SomeWithin_pairs : NoAttr K (He.ga K "SomeWithin") "pairs"
  na_SomeWithin_size : NoAttr K (He.ga K "SomeWithin") "size"
  na_Trial_height : NoAttr K (He.ga K "Trial") "height"
  na_Trial_place : NoAttr K (He.ga K "Trial") "place"
  na_Trial_reached : NoAttr K (He.ga K "Trial") "reached"
  na_Wish_size : NoAttr K (He.ga K "Wish") "size"
  me_AllWithin_cases : Meth K (He.ga K "AllWithin") "cases" (He.ma K (He.ga K "AllWithin") "cases")
  me_AllWithin_places : Meth K (He.ga K "AllWithin") "places" (He.ma K (He.ga K "AllWithin") "places")
  me_Band_cases : Meth K (He.ga K "Band") "cases" (He.ma K (He.ga K "Band") "cases")
  me_Band_places : Meth K (He.ga K "Band") "places" (He.ma K (He.ga K "Band") "places")
  me_Both_cases : Meth K (He.ga K "Both") "cases" (He.ma K (He.ga K "Both") "cases")
  me_Both_places : Meth K (He.ga K "Both") "places" (He.ma K (He.ga K "Both") "places")
  me_SomeWithin_cases : Meth K (He.ga K "SomeWithin") "cases" (He.ma K (He.ga K "SomeWithin") "cases")
  me_SomeWithin_places : Meth K (He.ga K "SomeWithin") "places" (He.ma K (He.ga K "SomeWithin") "places")
  me_Trial_agrees : Meth K (He.ga K "Trial") "agrees" (He.ma K (He.ga K "Trial") "agrees")
  me_Wish_answer : Meth K (He.ga K "Wish") "answer" (He.ma K (He.ga K "Wish") "answer")
  me_Wish_cases : Meth K (He.ga K "Wish") "cases" (He.ma K (He.ga K "Wish") "cases")
  me_Wish_places : Meth K (He.ga K "Wish") "places" (He.ma K (He.ga K "Wish") "places")
  mk_AllWithin : Mk K (He.ga K "AllWithin") (He.ma K (He.ga K "AllWithin") "__init__")
  mk_Band : Mk K (He.ga K "Band") (He.ma K (He.ga K "Band") "__init__")
  mk_Both : Mk K (He.ga K "Both") (He.ma K (He.ga K "Both") "__init__")
  mk_SomeWithin : Mk K (He.ga K "SomeWithin") (He.ma K (He.ga K "SomeWithin") "__init__")
  mk_Trial : Mk K (He.ga K "Trial") (He.ma K (He.ga K "Trial") "__init__")
  mk_Wish : Mk K (He.ga K "Wish") (He.ma K (He.ga K "Wish") "__init__")
  ti_Wish : OpM.InsT K (He.ga K "Wish")
  ti_AllWithin : OpM.InsT K (He.ga K "AllWithin")
  ti_SomeWithin : OpM.InsT K (He.ga K "SomeWithin")
  ti_Band : OpM.InsT K (He.ga K "Band")
  ti_Both : OpM.InsT K (He.ga K "Both")
  ki_Wish_Wish : PySem.W.kitOne K (.ref (He.ga K "Wish")) (.ref (He.ga K "Wish")) = some true
  ki_AllWithin_Wish : PySem.W.kitOne K (.ref (He.ga K "AllWithin")) (.ref (He.ga K "Wish")) = some true
  ki_SomeWithin_Wish : PySem.W.kitOne K (.ref (He.ga K "SomeWithin")) (.ref (He.ga K "Wish")) = some true
  ki_Band_Wish : PySem.W.kitOne K (.ref (He.ga K "Band")) (.ref (He.ga K "Wish")) = some true
  ki_Both_Wish : PySem.W.kitOne K (.ref (He.ga K "Both")) (.ref (He.ga K "Wish")) = some true
  kin_Wish : AndX.Kin K (fun C => C ∈ [He.ga K "Wish", He.ga K "AllWithin", He.ga K "SomeWithin", He.ga K "Band", He.ga K "Both"]) "and" (He.ma K (He.ga K "Wish") "__and__")
  me_AllWithin_answer : Meth K (He.ga K "AllWithin") "answer" (He.ma K (He.ga K "Wish") "answer")
  me_Band_answer : Meth K (He.ga K "Band") "answer" (He.ma K (He.ga K "Wish") "answer")
  me_Both_answer : Meth K (He.ga K "Both") "answer" (He.ma K (He.ga K "Wish") "answer")
  me_SomeWithin_answer : Meth K (He.ga K "SomeWithin") "answer" (He.ma K (He.ga K "Wish") "answer")
section
variable {w : World} {K : PySem.W.Frag} {mg : Str → Option Value} {base : Heap}
theorem b_AllWithin_cases_1 (T : Txt K mg) : Vals [] ([] : List Value) ∧ Binds K T.fd_AllWithin_cases ["self"] [] := ⟨.nil, FunD.bindsN T.F_AllWithin_cases fun _ _ _ _ _ _ us hl => match us, hl with | [_], _ => rfl⟩
theorem b_AllWithin_places_1 (T : Txt K mg) : Vals [] ([] : List Value) ∧ Binds K T.fd_AllWithin_places ["self"] [] := ⟨.nil, FunD.bindsN T.F_AllWithin_places fun _ _ _ _ _ _ us hl => match us, hl with | [_], _ => rfl⟩
theorem b_Band_cases_1 (T : Txt K mg) : Vals [] ([] : List Value) ∧ Binds K T.fd_Band_cases ["self"] [] := ⟨.nil, FunD.bindsN T.F_Band_cases fun _ _ _ _ _ _ us hl => match us, hl with | [_], _ => rfl⟩
theorem b_Band_places_1 (T : Txt K mg) : Vals [] ([] : List Value) ∧ Binds K T.fd_Band_places ["self"] [] := ⟨.nil, FunD.bindsN T.F_Band_places fun _ _ _ _ _ _ us hl => match us, hl with | [_], _ => rfl⟩
theorem b_BothU_initU_3 (T : Txt K mg) : Vals [] ([] : List Value) ∧ Binds K T.fd_BothU_initU ["self", "first", "second"] [] := ⟨.nil, SupX.FunS.bindsN T.S_BothU_initU fun _ _ _ _ _ _ _ us hl => match us, hl with | [_, _, _], _ => rfl⟩
theorem b_Both_cases_1 (T : Txt K mg) : Vals [] ([] : List Value) ∧ Binds K T.fd_Both_cases ["self"] [] := ⟨.nil, FunD.bindsN T.F_Both_cases fun _ _ _ _ _ _ us hl => match us, hl with | [_], _ => rfl⟩
theorem b_Both_places_1 (T : Txt K mg) : Vals [] ([] : List Value) ∧ Binds K T.fd_Both_places ["self"] [] := ⟨.nil, FunD.bindsN T.F_Both_places fun _ _ _ _ _ _ us hl => match us, hl with | [_], _ => rfl⟩
theorem b_SomeWithin_cases_1 (T : Txt K mg) : Vals [] ([] : List Value) ∧ Binds K T.fd_SomeWithin_cases ["self"] [] := ⟨.nil, FunD.bindsN T.F_SomeWithin_cases fun _ _ _ _ _ _ us hl => match us, hl with | [_], _ => rfl⟩
theorem b_SomeWithin_places_1 (T : Txt K mg) : Vals [] ([] : List Value) ∧ Binds K T.fd_SomeWithin_places ["self"] [] := ⟨.nil, FunD.bindsN T.F_SomeWithin_places fun _ _ _ _ _ _ us hl => match us, hl with | [_], _ => rfl⟩
theorem b_TrialU_initU_4 (T : Txt K mg) : Vals [] ([] : List Value) ∧ Binds K T.fd_TrialU_initU ["self", "place", "height", "reached"] [] := ⟨.nil, FunD.bindsN T.F_TrialU_initU fun _ _ _ _ _ _ us hl => match us, hl with | [_, _, _, _], _ => rfl⟩
theorem b_Trial_agrees_2 (T : Txt K mg) : Vals [] ([] : List Value) ∧ Binds K T.fd_Trial_agrees ["self", "heights"] [] := ⟨.nil, FunD.bindsN T.F_Trial_agrees fun _ _ _ _ _ _ us hl => match us, hl with | [_, _], _ => rfl⟩
theorem b_WishU_andU_2 (T : Txt K mg) : Vals [] ([] : List Value) ∧ Binds K T.fd_WishU_andU ["self", "other"] [] := ⟨.nil, FunD.bindsN T.F_WishU_andU fun _ _ _ _ _ _ us hl => match us, hl with | [_, _], _ => rfl⟩
theorem b_WishU_initU_1 (T : Txt K mg) : ∃ ds, Vals [.int 1] ds ∧ Binds K T.fd_WishU_initU ["self", "size"] ds := FunD.binds1 T.F_WishU_initU 1 0 (by simp) rfl fun _ _ _ _ _ _ _ us its hl hi => match us, hl, its, hi with | [_], _, [_], _ => ⟨_, rfl, rfl⟩
theorem b_WishU_initU_2 (T : Txt K mg) : ∃ ds, Vals [] ds ∧ Binds K T.fd_WishU_initU ["self", "size"] ds := FunD.binds1 T.F_WishU_initU 2 1 (by simp) rfl fun _ _ _ _ _ _ _ us its hl hi => match us, hl, its, hi with | [_, _], _, [_], _ => ⟨_, rfl, rfl⟩
theorem b_Wish_answer_2 (T : Txt K mg) : Vals [] ([] : List Value) ∧ Binds K T.fd_Wish_answer ["self", "heights"] [] := ⟨.nil, FunD.bindsN T.F_Wish_answer fun _ _ _ _ _ _ us hl => match us, hl with | [_, _], _ => rfl⟩
theorem b_Wish_cases_1 (T : Txt K mg) : Vals [] ([] : List Value) ∧ Binds K T.fd_Wish_cases ["self"] [] := ⟨.nil, FunD.bindsN T.F_Wish_cases fun _ _ _ _ _ _ us hl => match us, hl with | [_], _ => rfl⟩
theorem b_Wish_places_1 (T : Txt K mg) : Vals [] ([] : List Value) ∧ Binds K T.fd_Wish_places ["self"] [] := ⟨.nil, FunD.bindsN T.F_Wish_places fun _ _ _ _ _ _ us hl => match us, hl with | [_], _ => rfl⟩
theorem b_law_answer_2 (T : Txt K mg) : Vals [] ([] : List Value) ∧ Binds K T.fd_law_answer ["_law_spec", "_law_heights"] [] := ⟨.nil, FunD.bindsN T.F_law_answer fun _ _ _ _ _ _ us hl => match us, hl with | [_, _], _ => rfl⟩
theorem b_law_band_2 (T : Txt K mg) : Vals [] ([] : List Value) ∧ Binds K T.fd_law_band ["_law_place", "_law_cuts"] [] := ⟨.nil, FunD.bindsN T.F_law_band fun _ _ _ _ _ _ us hl => match us, hl with | [_, _], _ => rfl⟩
theorem b_law_box_1 (T : Txt K mg) : Vals [] ([] : List Value) ∧ Binds K T.fd_law_box ["_law_script"] [] := ⟨.nil, FunD.bindsN T.F_law_box fun _ _ _ _ _ _ us hl => match us, hl with | [_], _ => rfl⟩
theorem b_law_eight_2 (T : Txt K mg) : Vals [] ([] : List Value) ∧ Binds K T.fd_law_eight ["_law_box_here", "_law_truth"] [] := ⟨.nil, FunD.bindsN T.F_law_eight fun _ _ _ _ _ _ us hl => match us, hl with | [_, _], _ => rfl⟩
theorem b_law_many_2 (T : Txt K mg) : Vals [] ([] : List Value) ∧ Binds K T.fd_law_many ["_law_pairs_here", "_law_every"] [] := ⟨.nil, FunD.bindsN T.F_law_many fun _ _ _ _ _ _ us hl => match us, hl with | [_, _], _ => rfl⟩
theorem b_law_number_1 (T : Txt K mg) : Vals [] ([] : List Value) ∧ Binds K T.fd_law_number ["_law_x"] [] := ⟨.nil, FunD.bindsN T.F_law_number fun _ _ _ _ _ _ us hl => match us, hl with | [_], _ => rfl⟩
theorem b_law_numbers_2 (T : Txt K mg) : Vals [] ([] : List Value) ∧ Binds K T.fd_law_numbers ["_law_row", "_law_due"] [] := ⟨.nil, FunD.bindsN T.F_law_numbers fun _ _ _ _ _ _ us hl => match us, hl with | [_, _], _ => rfl⟩
theorem b_law_pairs_3 (T : Txt K mg) : Vals [] ([] : List Value) ∧ Binds K T.fd_law_pairs ["_law_box_here", "_law_truth", "_law_tall"] [] := ⟨.nil, FunD.bindsN T.F_law_pairs fun _ _ _ _ _ _ us hl => match us, hl with | [_, _, _], _ => rfl⟩
theorem b_law_places_1 (T : Txt K mg) : Vals [] ([] : List Value) ∧ Binds K T.fd_law_places ["_law_spec"] [] := ⟨.nil, FunD.bindsN T.F_law_places fun _ _ _ _ _ _ us hl => match us, hl with | [_], _ => rfl⟩
theorem b_law_single_3 (T : Txt K mg) : Vals [] ([] : List Value) ∧ Binds K T.fd_law_single ["_law_box_here", "_law_truth", "_law_tall"] [] := ⟨.nil, FunD.bindsN T.F_law_single fun _ _ _ _ _ _ us hl => match us, hl with | [_, _, _], _ => rfl⟩
theorem b_law_size_1 (T : Txt K mg) : Vals [] ([] : List Value) ∧ Binds K T.fd_law_size ["_law_spec"] [] := ⟨.nil, FunD.bindsN T.F_law_size fun _ _ _ _ _ _ us hl => match us, hl with | [_], _ => rfl⟩
theorem b_law_take_2 (T : Txt K mg) : Vals [] ([] : List Value) ∧ Binds K T.fd_law_take ["_law_box_here", "_law_size_here"] [] := ⟨.nil, FunD.bindsN T.F_law_take fun _ _ _ _ _ _ us hl => match us, hl with | [_, _], _ => rfl⟩
theorem b_law_wish_3 (T : Txt K mg) : Vals [] ([] : List Value) ∧ Binds K T.fd_law_wish ["_law_box_here", "_law_truth", "_law_tall"] [] := ⟨.nil, FunD.bindsN T.F_law_wish fun _ _ _ _ _ _ us hl => match us, hl with | [_, _, _], _ => rfl⟩
theorem Txt.is_Wish_o (T : Txt K mg) : ∀ c b, is_Wish c = some b → PySem.W.kitOne K (.ref (He.ga K (cn c))) (.ref (He.ga K "Wish")) = some b ∧ Cls K (He.ga K (cn c)) ∧ OpM.InsT K (He.ga K (cn c)) := by
  intro c b e
  unfold is_Wish at e
  split at e
  · rename_i h; subst h; cases e; exact ⟨T.ki_Wish_Wish, T.cl_Wish, T.ti_Wish⟩
  split at e
  · rename_i h; subst h; cases e; exact ⟨T.ki_AllWithin_Wish, T.cl_AllWithin, T.ti_AllWithin⟩
  split at e
  · rename_i h; subst h; cases e; exact ⟨T.ki_SomeWithin_Wish, T.cl_SomeWithin, T.ti_SomeWithin⟩
  split at e
  · rename_i h; subst h; cases e; exact ⟨T.ki_Band_Wish, T.cl_Band, T.ti_Band⟩
  split at e
  · rename_i h; subst h; cases e; exact ⟨T.ki_Both_Wish, T.cl_Both, T.ti_Both⟩
  cases e
theorem Txt.ib_Wish_b (T : Txt K mg) : ∀ s b, ib_Wish s = some b → PySem.W.kitOne K (.type s.nm) (.ref (He.ga K "Wish")) = some b := by
  intro s b e
  cases s <;> first | (cases e; done) 

theorem Rel_entry {K : PySem.W.Frag} {F H : Hp} {vs : List V} {as : List Sl} {fp : List Addr} (h1 : Le F H) (h2 : Slots K F H (vs.map some) as fp) (h3 : fp.Nodup) (h4 : ∀ a ∈ fp, F a = none) : Rel K ⟨H, F, fp⟩ H (vs.map some) as [] [] :=
  ⟨F, [], fp, ⟨h1, Le.rfl, fun a e => .inl e, fun a o e _ => e, fun a e => e, fun a ha => .inl ha, h4, h3⟩, .nil, h2⟩

theorem map_get {ns : List Int} {i : Nat} {y : V} (hi : (ns.map V.int)[i]? = some y) : ∃ z, ns[i]? = some z ∧ y = V.int z := by
  rw [List.getElem?_map] at hi
  cases e : ns[i]? with
  | none =>
    rw [e] at hi
    cases hi
  | some z =>
    rw [e] at hi
    exact ⟨z, rfl, (Option.some.inj hi).symm⟩
theorem take_more {α : Type} : ∀ {l : List α} {i : Nat} {x : α}, l[i]? = some x → l.take (i + 1) = l.take i ++ [x]
  | [], i, x, h => by simp at h
  | a :: l, 0, x, h => by
    have e : a = x := Option.some.inj h
    subst e
    rfl
  | a :: l, i + 1, x, h => by
    have ih := take_more (l := l) (i := i) (x := x) h
    show a :: l.take (i + 1) = a :: l.take i ++ [x]
    rw [ih]
    rfl
theorem cut63 (ns : List Int) : ∃ ms : List Int, cutV (ns.map V.int) none (some 63) = ms.map V.int ∧ ms.length ≤ 63 := by
  refine ⟨(ns.drop (HT.sIx (ns.map V.int).length 0 none)).take (HT.sIx (ns.map V.int).length (ns.map V.int).length (some 63) - HT.sIx (ns.map V.int).length 0 none), ?_, ?_⟩
  · unfold cutV
    rw [List.map_take, List.map_drop]
  · rw [List.length_take]
    have e : HT.sIx (ns.map V.int).length (ns.map V.int).length (some 63) ≤ 63 := by
      unfold HT.sIx
      simp only []
      split <;> omega
    omega
theorem ok_law_box (T : Txt K mg) : FnOk PP w K mg base (L2.CX PP w) 1 (He.ga K "_law_box") T.fd_law_box ["_law_script"] (sp_box K) := by
  refine T.F_law_box.ok sc_law_box (fun vs H Q E h => ?_) (fun cdv A outer s H vs Q E hr h => ?_)
  · obtain ⟨a, ns, rfl, _⟩ := h
    rfl
  · obtain ⟨a, ns, rfl, hS, k⟩ := h
    refine ⟨_, (pss_one (ps_ret (pe_lst (pa_cons (pe_lc (own := [("_law_cell", 1)]) rfl sc_law_box.nd (Cl.piL K (pe_slice (Cl.slL K) (pv 0) po_none (po_some pe_int))) (blkOk_by (N := ["_law_script", "_law_cell"]) (sc := defScope s_law_box) (by decide +kernel)) (fun _ _ _ _ _ => (pg_name (i := 1) sc_law_box.nd rfl (by first | exact Or.inl rfl | exact Or.inr rfl))) (fun _ _ _ _ _ => pts_nil) (fun _ _ _ _ _ => (pe_callTy (T := "int") Cl.int1 (by rfl) T.n_int (by decide +kernel) (pa_cons (pv 1) pa_nil)))) (pa_cons pe_int (pa_cons pe_int (pa_cons pe_int pa_nil))))))), ?_⟩
    refine ⟨_, rfl, 63, rfl, a, _, rfl, hS, fun p hp => ?_⟩
    obtain ⟨ms, em, hm⟩ := cut63 ns
    rw [em]
    refine ⟨p, rfl, ⟨_, SqL.of upd_same⟩, fun D hD => ?_⟩
    have hDp : D ≠ p := fun z => by
      rw [z, upd_same] at hD
      cases hD
    have hD0 : H D = none := by
      rw [upd_ne hDp] at hD
      exact hD
    have hSq : ∀ H', H' p = some (.lst (ms.map V.int)) → SqL K H' p (ms.map V.int) := fun H' z => SqL.of z
    refine lc_list (K := K) (a := p) (xs := ms.map V.int) (fun i H' => H' D = some (.lst ((ms.take i).map V.int)) ∧ H' p = some (.lst (ms.map V.int)) ∧ Same H H') ⟨upd_same, ?_, ?_⟩ (fun i H' _ z => hSq H' z.2.1) ?_ ?_
    · rw [upd_ne (Ne.symm hDp), upd_same]
    · intro x o e
      rw [upd_ne (ne_of_none e hD0), upd_ne (ne_of_none e hp)]
      exact e
    · rintro i x H' hi ⟨h1, h2, h3⟩
      obtain ⟨z, hz, rfl⟩ := map_get hi
      refine ⟨rfl, ?_⟩
      refine ⟨_, rfl, z, rfl, _, h1, ?_, ?_, ?_, ?_⟩
      · rw [List.length_map, List.length_take, sizeLine_eq]
        omega
      · rw [upd_same, take_more hz, List.map_append]
        rfl
      · rw [upd_ne (Ne.symm hDp)]
        exact h2
      · intro x o e
        rw [upd_ne (ne_of_none e hD0)]
        exact h3 x o e
    · rintro H' ⟨h1, h2, h3⟩
      rw [List.length_map, List.take_length] at h1
      refine ⟨by show 4 ≤ sizeLine; decide, fun b hb => ?_⟩
      refine k _ b D (fun x o e => ?_) (h3.free hb) hD0 ⟨ms, 0, 0, 0, upd_same, ?_, hm, by decide, by decide, by decide, by decide⟩
      · rw [upd_ne (ne_of_none (h3 x o e) hb)]
        exact h3 x o e
      · rw [upd_ne (ne_of_none h1 hb)]
        exact h1
theorem upd_id {H : Hp} {b : Addr} {o : HO} (h : H b = some o) : upd H b o = H := by
  funext a
  by_cases e : a = b
  · rw [e, upd_same, h]
  · rw [upd_ne e]
theorem at_some {cs : List Int} {i : Int} (h0 : 0 ≤ i) (h1 : i < (cs.length : Int)) : ∃ z, atI (cs.map V.int) i = some (V.int z) := by
  have hj : i.toNat < cs.length := by omega
  refine ⟨cs[i.toNat], ?_⟩
  have e := atI_nat (xs := cs.map V.int) (j := i.toNat) (v := V.int cs[i.toNat]) (by rw [List.getElem?_map, List.getElem?_eq_getElem hj]; rfl)
  rw [Int.toNat_of_nonneg h0] at e
  exact e
theorem ok_law_take (T : Txt K mg) : FnOk PP w K mg base (L2.CX PP w) 1 (He.ga K "_law_take") T.fd_law_take ["_law_box_here", "_law_size_here"] sp_take := by
  refine T.F_law_take.ok sc_law_take (fun vs H Q E h => ?_) (fun cdv A outer s H vs Q E hr h => ?_)
  · obtain ⟨b, c, n, rfl, _⟩ := h
    rfl
  · obtain ⟨b, c, n, rfl, hB, hn, hN, k⟩ := h
    have ne := hB.ne
    obtain ⟨cs, i, r, u, hb, hc, hl, hi, hrr, hu, hv⟩ := id hB
    refine ⟨_, (Evl.pss_cut (ps_if (PW.pt (pw_and (pt_cmpR op_lt (pe_ix (Cl.ixL K) (pv 0) pe_int (fun _ _ => rfl)) pe_int (nomark _)) (pw_and1 (pt_cmpR op_lt (pe_ix (Cl.ixL K) (pv 0) pe_int (fun _ _ => rfl)) (pe_callB (id := "len") (Cl.len K) (by rfl) T.n_len (by decide +kernel) (pa_cons (pe_ix (Cl.ixL K) (pv 0) pe_int (fun _ _ => rfl)) pa_nil)) (nomark _)))))
      (pss_cons (ps_set (i := 2) sc_law_take.nd rfl (by first | exact Or.inl rfl | exact Or.inr rfl) (pe_ix (Cl.ixL K) (pe_ix (Cl.ixL K) (pv 0) pe_int (fun _ _ => rfl)) (pe_ix (Cl.ixL K) (pv 0) pe_int (fun _ _ => rfl)) (fun _ _ => rfl)))
      (pss_cons (ps_asg (pe_op op_add (pe_ix (Cl.ixL K) (pv 0) pe_int (fun _ _ => rfl)) pe_int) (pg_sub (pv 0) pe_int set_list))
      (pss_one (ps_if (pt_cmpR op_ge (pv 2) (pe_op op_pow pe_int pe_int) (nomark _))
      (pss_one (ps_asg (pe_op op_sub (pv 2) (pe_op op_pow pe_int pe_int)) (pg_sub (pv 0) pe_int set_list)))
      (pss_one (ps_asg (pe_op op_mod (pe_callTy (T := "int") Cl.int1 (by rfl) T.n_int (by decide +kernel) (pa_cons (pe_op op_add (pe_op op_add (pe_op op_mul (pe_ix (Cl.ixL K) (pv 0) pe_int (fun _ _ => rfl)) pe_int) (pe_op op_mul (pv 2) pe_int)) pe_int) pa_nil)) pe_int) (pg_sub (pv 0) pe_int set_list)))))))
      pss_nil)
      (pss_cons (ps_if (pt_cmpR op_gt (pe_ix (Cl.ixL K) (pv 0) pe_int (fun _ _ => rfl)) pe_int (nomark _))
      (pss_cons (ps_set (i := 3) sc_law_take.nd rfl (by first | exact Or.inl rfl | exact Or.inr rfl) (pe_op op_mod (pe_callTy (T := "int") Cl.int1 (by rfl) T.n_int (by decide +kernel) (pa_cons (pe_ix (Cl.ixL K) (pv 0) pe_int (fun _ _ => rfl)) pa_nil)) (pv 1)))
      (pss_cons (ps_asg (pe_op op_fdivW (pe_ix (Cl.ixL K) (pv 0) pe_int (fun _ _ => rfl)) (pv 1)) (pg_sub (pv 0) pe_int set_list))
      (pss_one (ps_ret (pv 3)))))
      pss_nil)
      (pss_cons (ps_asg (pe_op op_mod (pe_callTy (T := "int") Cl.int1 (by rfl) T.n_int (by decide +kernel) (pa_cons (pe_op op_mul (pe_ix (Cl.ixL K) (pv 0) pe_int (fun _ _ => rfl)) pe_int) pa_nil)) pe_int) (pg_sub (pv 0) pe_int set_list))
      (pss_one (ps_ret (pe_op op_mod (pe_callTy (T := "int") Cl.int1 (by rfl) T.n_int (by decide +kernel) (pa_cons (pe_op op_fdivW (pe_ix (Cl.ixL K) (pv 0) pe_int (fun _ _ => rfl)) pe_int) pa_nil)) (pv 1))))))), ?_⟩
    refine ⟨fun σ' H' => ∃ (v : Option V) (o : HO), σ' = [some (.ref b), some (.int n), v, none] ∧ H' = upd H b o ∧ Bx H' b c, ?_, ?_⟩
    · have no : ∃ (v : Option V) (o : HO), ([some (.ref b), some (.int n), none, none] : L2.St) = [some (.ref b), some (.int n), v, none] ∧ H = upd H b o ∧ Bx H b c := ⟨none, _, rfl, (upd_id hb).symm, hB⟩
      refine ⟨_, rfl, _, _, _, _, rfl, rfl, SqL.of hb, rfl, _, _, rfl, rfl, _, rfl, ?_⟩
      refine ite2 (fun c1 => ?_) (fun c1 => ?_)
      · refine ⟨_, rfl, _, _, _, _, rfl, rfl, SqL.of hb, rfl, _, rfl, _, _, _, _, rfl, rfl, SqL.of hb, rfl, c, _, rfl, .inl (SqL.of hc), _, _, rfl, rfl, _, rfl, ?_⟩
        refine ite2 (fun c2 => ?_) (fun c2 => ?_)
        · have c2' := of_decide_eq_true c2
          rw [List.length_map] at c2'
          obtain ⟨z, hz⟩ := at_some hi c2'
          refine ⟨_, rfl, _, _, _, _, rfl, rfl, SqL.of hb, rfl, _, rfl, _, _, _, _, rfl, rfl, SqL.of hb, rfl, c, _, i, .int z, rfl, rfl, SqL.of hc, hz, ?_⟩
          refine ⟨_, rfl, _, _, _, _, rfl, rfl, SqL.of hb, rfl, _, _, rfl, rfl, _, rfl, b, _, _, 1, rfl, rfl, hb, rfl, ?_⟩
          refine ⟨_, rfl, 10, 18, rfl, rfl, ⟨by decide, by decide, by decide⟩, _, _, rfl, rfl, _, rfl, ?_⟩
          refine ite2 (fun c3 => ?_) (fun c3 => ?_)
          · have c3' := of_decide_eq_true c3
            refine ⟨_, rfl, 10, 18, rfl, rfl, ⟨by decide, by decide, by decide⟩, _, _, rfl, rfl, _, rfl, b, _, _, 2, rfl, rfl, upd_same, rfl, ?_⟩
            refine ⟨_, _, rfl, upd_upd, cs, i + 1, z - 10 ^ 18, u, by rw [upd_upd, upd_same]; rfl, by rw [upd_upd, upd_ne ne]; exact hc, hl, by omega, ?_, hu, hv⟩
            have c4 : (10 : Int) ^ (18 : Int).toNat ≤ z := c3'
            have e : (18 : Int).toNat = 18 := rfl
            rw [e] at c4
            omega
          · refine ⟨_, rfl, _, _, _, _, rfl, rfl, SqL.of upd_same, rfl, _, _, rfl, rfl, .inr ⟨by decide, by decide⟩, _, rfl, _, _, rfl, rfl, .inr ⟨by decide, by decide⟩, _, _, rfl, rfl, _, _, rfl, rfl, _, rfl, _, _, rfl, rfl, (by show (0 : Int) < 2147483647; decide), _, rfl, b, _, _, 3, rfl, rfl, upd_same, rfl, ?_⟩
            exact ⟨_, _, rfl, upd_upd, cs, i + 1, r, _, by rw [upd_upd, upd_same]; rfl, by rw [upd_upd, upd_ne ne]; exact hc, hl, by omega, hrr, Int.emod_nonneg _ (by decide), Int.emod_lt_of_pos _ (by decide)⟩
        · exact no
      · exact no
    · rintro σ' H' ⟨v, o, rfl, rfl, hB'⟩
      obtain ⟨cs, i, r, u, hb, hc, hl, hi, hrr, hu, hv⟩ := id hB'
      refine ⟨_, rfl, _, _, _, _, rfl, rfl, SqL.of hb, rfl, _, _, rfl, rfl, _, rfl, ?_⟩
      refine ite2 (fun c1 => ?_) (fun c1 => ?_)
      · refine ⟨_, rfl, _, _, _, _, rfl, rfl, SqL.of hb, rfl, _, rfl, _, rfl, _, _, rfl, rfl, hn, ?_⟩
        refine ⟨_, rfl, _, _, _, _, rfl, rfl, SqL.of hb, rfl, _, rfl, _, _, rfl, rfl, wide_div hn hN (by decide) (by decide), _, rfl, b, _, _, 2, rfl, rfl, hb, rfl, ?_⟩
        refine ⟨_, rfl, ?_⟩
        show Q (.int (r % n)) (upd (upd H b o) b _)
        rw [upd_upd]
        refine k _ _ (Int.emod_nonneg _ (by omega)) (Int.emod_lt_of_pos _ hn) ⟨cs, i, r / n, u, upd_same, ?_, hl, hi, Int.ediv_nonneg hrr (by omega), hu, hv⟩
        rw [upd_ne ne] at hc ⊢
        exact hc
      · refine ⟨_, rfl, _, _, _, _, rfl, rfl, SqL.of hb, rfl, _, _, rfl, rfl, .inr ⟨by decide, by decide⟩, _, rfl, _, _, rfl, rfl, (by show (0 : Int) < 2147483647; decide), _, rfl, b, _, _, 3, rfl, rfl, hb, rfl, ?_⟩
        refine ⟨_, rfl, _, _, _, _, rfl, rfl, SqL.of upd_same, rfl, _, _, rfl, rfl, wide_div (b := 30) (by decide) (by decide) (by decide) (by decide), _, rfl, _, rfl, _, _, rfl, rfl, hn, ?_⟩
        rw [upd_upd]
        refine k _ _ (Int.emod_nonneg _ (by omega)) (Int.emod_lt_of_pos _ hn) ⟨cs, i, r, _, upd_same, ?_, hl, hi, hrr, Int.emod_nonneg _ (by decide), Int.emod_lt_of_pos _ (by decide)⟩
        rw [upd_ne ne] at hc ⊢
        exact hc

theorem ok_TrialU_initU (T : Txt K mg) : FnOk PP w K mg base (L2.CX PP w) 1 (He.ma K (He.ga K "Trial") "__init__") T.fd_TrialU_initU ["self", "place", "height", "reached"] (spOf K ds_TrialU_initU) := by

  exact okD (m := m_TrialU_initU) T.F_TrialU_initU sc_TrialU_initU hl_TrialU_initU hm_TrialU_initU (fun cdv A outer s H E hr => ⟨_, (pss_cons (Cl.sfld K (pv 0) (pv 1))
      (pss_cons (Cl.sfld K (pv 0) (pv 2))
      (pss_one (Cl.sfld K (pv 0) (pv 3))))), (zSeq (zFldN (c := 0) (j := 0) T.cl_Trial T.na_Trial_place (by decide +kernel) (by decide +kernel) (by decide) (eVar (i := 1)))
      (zSeq (zFldN (c := 0) (j := 1) T.cl_Trial T.na_Trial_height (by decide +kernel) (by decide +kernel) (by decide) (eVar (i := 2)))
      (zFldN (c := 0) (j := 2) T.cl_Trial T.na_Trial_reached (by decide +kernel) (by decide +kernel) (by decide) (eVar (i := 3)))))⟩)


theorem ok_Trial_agrees (T : Txt K mg) : FnOk PP w K mg base (L2.CX PP w) 1 (He.ma K (He.ga K "Trial") "agrees") T.fd_Trial_agrees ["self", "heights"] (spOf K ds_Trial_agrees) := by

  exact okD (m := m_Trial_agrees) T.F_Trial_agrees sc_Trial_agrees hl_Trial_agrees hm_Trial_agrees (fun cdv A outer s H E hr => ⟨_, (pss_cons (ps_if (pt_not (pt_chain op_le op_lt pe_int (Cl.fld K (pv 0)) (pe_callB (id := "len") (Cl.len K) (by rfl) T.n_len (by decide +kernel) (pa_cons (pv 1) pa_nil))))
      (pss_one ps_never)
      pss_nil)
      (pss_one (ps_ret (pe_cmpR op_eq (pe_cmpR op_le (pe_ix (Cl.ixL K) (pv 1) (Cl.fld K (pv 0)) (fun _ _ => rfl)) (Cl.fld K (pv 0)) (nomark _)) (Cl.fld K (pv 0)) (nomark _))))), (zSeq (zIf (tNot' (tTest' (eChain k_le r_lt eC (eFld (c := 0) (i := 0) T.cl_Trial T.na_Trial_place (by decide +kernel) (eVar (i := 0))) (eCB1 c_len (eVar (i := 1))))))
      zNever
      zNext)
      (zRet (eOp r_eq (eOp r_le (eOp r_ixL (eVar (i := 1)) (eFld (c := 0) (i := 0) T.cl_Trial T.na_Trial_place (by decide +kernel) (eVar (i := 0)))) (eFld (c := 0) (i := 1) T.cl_Trial T.na_Trial_height (by decide +kernel) (eVar (i := 0)))) (eFld (c := 0) (i := 2) T.cl_Trial T.na_Trial_reached (by decide +kernel) (eVar (i := 0))))))⟩)


theorem ok_WishU_initU (T : Txt K mg) : FnOk PP w K mg base (L2.CX PP w) 1 (He.ma K (He.ga K "Wish") "__init__") T.fd_WishU_initU ["self", "size"] (spOf K ds_WishU_initU) := by

  exact okD (m := m_WishU_initU) T.F_WishU_initU sc_WishU_initU hl_WishU_initU hm_WishU_initU (fun cdv A outer s H E hr => ⟨_, (pss_one (Cl.sfld K (pv 0) (pv 1))), (zAlt (zFldN (c := 5) (j := 0) T.cl_Wish T.na_Wish_size (by decide +kernel) (by decide +kernel) (by decide) (eVar (i := 1))) (zAlt (zFldN (c := 6) (j := 0) T.cl_AllWithin T.na_AllWithin_size (by decide +kernel) (by decide +kernel) (by decide) (eVar (i := 1))) (zAlt (zFldN (c := 7) (j := 0) T.cl_SomeWithin T.na_SomeWithin_size (by decide +kernel) (by decide +kernel) (by decide) (eVar (i := 1))) (zAlt (zFldN (c := 8) (j := 0) T.cl_Band T.na_Band_size (by decide +kernel) (by decide +kernel) (by decide) (eVar (i := 1))) (zFldN (c := 9) (j := 0) T.cl_Both T.na_Both_size (by decide +kernel) (by decide +kernel) (by decide) (eVar (i := 1)))))))⟩)

theorem ok_AllWithinU_initU (T : Txt K mg) : FnR PP w K mg base (L2.CX PP w) 7 (He.ma K (He.ga K "AllWithin") "__init__") (spOf K (packM 1 ds_AllWithinU_initU)) := by
  obtain ⟨_, b_WishU_initU_2⟩ := b_WishU_initU_2 T
  have G_WishU_initU_2 : FnR PP w K mg base (L2.CX PP w) _ _ _ := (ok_WishU_initU T).raw b_WishU_initU_2.2 b_WishU_initU_2.1
  exact okSupStarD (ds := ds_AllWithinU_initU) (m := m_AllWithinU_initU) (ps := ["self"]) (pv := "pairs") (pre := (defBody s_AllWithinU_initU).take 0) T.S_AllWithinU_initU sc_AllWithinU_initU (by rfl) rfl (fun _ => ⟨_, rfl⟩) (fun _ => ⟨rfl, rfl⟩) T.n_super (G_WishU_initU_2.mono (by decide)) hl_AllWithinU_initU hm_AllWithinU_initU hk_AllWithinU_initU (fun _ _ _ _ _ _ _ us rest hl => match us, rest, hl with | [_], [], _ => rfl | [_], _ :: _, _ => rfl) (fun cda cc A outer s H E hr => ⟨_, _, _, pss_nil, (pa_cons pe_int pa_nil), (pss_one (Cl.sfld K (pv 0) (pe_lc (own := [("place", 2), ("height", 3)]) rfl sc_AllWithinU_initU.nd (Cl.piT K (pv 1)) (blkOk_by (N := ["self", "pairs", "place", "height"]) (sc := defScope s_AllWithinU_initU) (by decide +kernel)) (fun _ _ _ _ _ => (Cl.pgT K (n := 2) (pgs_cons (pg_name (i := 2) sc_AllWithinU_initU.nd rfl (by first | exact Or.inl rfl | exact Or.inr rfl)) (pgs_cons (pg_name (i := 3) sc_AllWithinU_initU.nd rfl (by first | exact Or.inl rfl | exact Or.inr rfl)) pgs_nil)))) (fun _ _ _ _ _ => pts_nil) (fun _ _ _ _ _ => (pe_tup (pa_cons (pv 2) (pa_cons (pv 3) pa_nil))))))), (zSeq zNext
      (zSeq (zDrop (eNo (eMethL (i := 0) (c := 6) (by decide +kernel) (bCons eC bNil) (fun _ => .nil))))
      (zFldN (c := 6) (j := 1) T.cl_AllWithin T.na_AllWithin_pairs (by decide +kernel) (by decide +kernel) (by decide) (eFz (eLc0 (wTup (eVar (i := 1))) (gw_tup (gw_cons gm_name (gw_name (by decide)) (gm_cons gm_name gm_nil) (gw_cons gm_name (gw_name (by decide)) gm_nil gw_nil))) (gm_tup (gm_cons gm_name (gm_cons gm_name gm_nil))) (gTp (n := 2) (gsCons (gNm (i := 2)) (gsCons (gNm (i := 3)) gsNil))) tYes' (eTup (aCons (eVar (i := 2)) (aCons (eVar (i := 3)) aNil))))))))⟩)

theorem ok_SomeWithinU_initU (T : Txt K mg) : FnR PP w K mg base (L2.CX PP w) 2 (He.ma K (He.ga K "SomeWithin") "__init__") (spOf K (packM 1 ds_SomeWithinU_initU)) := by
  obtain ⟨_, b_WishU_initU_2⟩ := b_WishU_initU_2 T
  have G_WishU_initU_2 : FnR PP w K mg base (L2.CX PP w) _ _ _ := (ok_WishU_initU T).raw b_WishU_initU_2.2 b_WishU_initU_2.1
  exact okSupStarD (ds := ds_SomeWithinU_initU) (m := m_SomeWithinU_initU) (ps := ["self"]) (pv := "pairs") (pre := (defBody s_SomeWithinU_initU).take 0) T.S_SomeWithinU_initU sc_SomeWithinU_initU (by rfl) rfl (fun _ => ⟨_, rfl⟩) (fun _ => ⟨rfl, rfl⟩) T.n_super (G_WishU_initU_2.mono (by decide)) hl_SomeWithinU_initU hm_SomeWithinU_initU hk_SomeWithinU_initU (fun _ _ _ _ _ _ _ us rest hl => match us, rest, hl with | [_], [], _ => rfl | [_], _ :: _, _ => rfl) (fun cda cc A outer s H E hr => ⟨_, _, _, pss_nil, (pa_cons pe_int pa_nil), (pss_one (Cl.sfld K (pv 0) (pe_lc (own := [("place", 2), ("height", 3)]) rfl sc_SomeWithinU_initU.nd (Cl.piT K (pv 1)) (blkOk_by (N := ["self", "pairs", "place", "height"]) (sc := defScope s_SomeWithinU_initU) (by decide +kernel)) (fun _ _ _ _ _ => (Cl.pgT K (n := 2) (pgs_cons (pg_name (i := 2) sc_SomeWithinU_initU.nd rfl (by first | exact Or.inl rfl | exact Or.inr rfl)) (pgs_cons (pg_name (i := 3) sc_SomeWithinU_initU.nd rfl (by first | exact Or.inl rfl | exact Or.inr rfl)) pgs_nil)))) (fun _ _ _ _ _ => pts_nil) (fun _ _ _ _ _ => (pe_tup (pa_cons (pv 2) (pa_cons (pv 3) pa_nil))))))), (zSeq zNext
      (zSeq (zDrop (eNo (eMethL (i := 0) (c := 7) (by decide +kernel) (bCons eC bNil) (fun _ => .nil))))
      (zFldN (c := 7) (j := 1) T.cl_SomeWithin T.na_SomeWithin_pairs (by decide +kernel) (by decide +kernel) (by decide) (eFz (eLc0 (wTup (eVar (i := 1))) (gw_tup (gw_cons gm_name (gw_name (by decide)) (gm_cons gm_name gm_nil) (gw_cons gm_name (gw_name (by decide)) gm_nil gw_nil))) (gm_tup (gm_cons gm_name (gm_cons gm_name gm_nil))) (gTp (n := 2) (gsCons (gNm (i := 2)) (gsCons (gNm (i := 3)) gsNil))) tYes' (eTup (aCons (eVar (i := 2)) (aCons (eVar (i := 3)) aNil))))))))⟩)

theorem ok_BandU_initU (T : Txt K mg) : FnR PP w K mg base (L2.CX PP w) 6 (He.ma K (He.ga K "Band") "__init__") (spOf K (packM 2 ds_BandU_initU)) := by
  obtain ⟨_, b_WishU_initU_2⟩ := b_WishU_initU_2 T
  have G_WishU_initU_2 : FnR PP w K mg base (L2.CX PP w) _ _ _ := (ok_WishU_initU T).raw b_WishU_initU_2.2 b_WishU_initU_2.1
  exact okSupStarD (ds := ds_BandU_initU) (m := m_BandU_initU) (ps := ["self", "place"]) (pv := "cuts") (pre := (defBody s_BandU_initU).take 1) T.S_BandU_initU sc_BandU_initU (by rfl) rfl (fun _ => ⟨_, rfl⟩) (fun _ => ⟨rfl, rfl⟩) T.n_super (G_WishU_initU_2.mono (by decide)) hl_BandU_initU hm_BandU_initU hk_BandU_initU (fun _ _ _ _ _ _ _ us rest hl => match us, rest, hl with | [_, _], [], _ => rfl | [_, _], _ :: _, _ => rfl) (fun cda cc A outer s H E hr => ⟨_, _, _, (pss_one (ps_for (passes_of rfl) rfl (Cl.piZA K (by rfl) T.n_zip (pa_cons (pv 2) (pa_cons (pe_slice (Cl.slA K) (pv 2) (po_some pe_int) po_none) pa_nil))) (Cl.pgT K (n := 2) (pgs_cons (pg_name (i := 3) sc_BandU_initU.nd rfl (by first | exact Or.inl rfl | exact Or.inr rfl)) (pgs_cons (pg_name (i := 4) sc_BandU_initU.nd rfl (by first | exact Or.inl rfl | exact Or.inr rfl)) pgs_nil)))
      (pss_one (ps_if (pt_cmpR op_le (pv 4) (pv 3) (nomark _))
      (pss_one ps_never)
      pss_nil)))), (pa_cons (pe_op op_add (pe_callB (id := "len") (Cl.len K) (by rfl) T.n_len (by decide +kernel) (pa_cons (pv 2) pa_nil)) pe_int) pa_nil), (pss_cons (Cl.sfld K (pv 0) (pv 1))
      (pss_one (Cl.sfld K (pv 0) (pe_callTy (T := "list") (Cl.listOf K) (by rfl) T.n_list (by decide +kernel) (pa_cons (pv 2) pa_nil))))), (zSeq (zFor (m := m_BandU_initU_L1) (wZipT (eVar (i := 2)) (eSl s_ta (eVar (i := 2)) (oSome eC) oNone)) (gTp (n := 2) (gsCons (gNm (i := 3)) (gsCons (gNm (i := 4)) gsNil)))
      (zIf (tTest' (eOp r_le (eVar (i := 4)) (eVar (i := 3))))
      zNever
      zNext))
      (zSeq (zDrop (eNo (eMethL (i := 0) (c := 8) (by decide +kernel) (bCons (eOp r_add (eCB1 c_len (eVar (i := 2))) eC) bNil) (fun _ => .nil))))
      (zSeq (zFldN (c := 8) (j := 1) T.cl_Band T.na_Band_place (by decide +kernel) (by decide +kernel) (by decide) (eVar (i := 1)))
      (zFldN (c := 8) (j := 2) T.cl_Band T.na_Band_cuts (by decide +kernel) (by decide +kernel) (by decide) (eFz (eCB1 c_list (eVar (i := 2))))))))⟩)

theorem ok_BothU_initU (T : Txt K mg) : FnOk PP w K mg base (L2.CX PP w) 4 (He.ma K (He.ga K "Both") "__init__") T.fd_BothU_initU ["self", "first", "second"] (spOf K ds_BothU_initU) := by
  obtain ⟨_, b_WishU_initU_2⟩ := b_WishU_initU_2 T
  have G_WishU_initU_2 : FnR PP w K mg base (L2.CX PP w) _ _ _ := (ok_WishU_initU T).raw b_WishU_initU_2.2 b_WishU_initU_2.1
  exact okSupD (ds := ds_BothU_initU) (m := m_BothU_initU) (pre := (defBody s_BothU_initU).take 0) T.S_BothU_initU sc_BothU_initU (by rfl) rfl (fun _ => ⟨_, rfl⟩) (fun _ => ⟨rfl, rfl⟩) T.n_super (G_WishU_initU_2.mono (by decide)) hl_BothU_initU hm_BothU_initU (fun cda cc A outer s H E hr => ⟨_, _, _, pss_nil, (pa_cons (pe_op op_mulX (Cl.fld K (pv 1)) (Cl.fld K (pv 2))) pa_nil), (pss_cons (Cl.sfld K (pv 0) (pv 1))
      (pss_one (Cl.sfld K (pv 0) (pv 2)))), (zSeq zNext
      (zSeq (zDrop (eNo (eMethL (i := 0) (c := 9) (by decide +kernel) (bCons (eOp r_I (eAlt (eFld (c := 5) (i := 0) T.cl_Wish T.na_Wish_size (by decide +kernel) (eVar (i := 1))) (eAlt (eFld (c := 6) (i := 0) T.cl_AllWithin T.na_AllWithin_size (by decide +kernel) (eVar (i := 1))) (eAlt (eFld (c := 7) (i := 0) T.cl_SomeWithin T.na_SomeWithin_size (by decide +kernel) (eVar (i := 1))) (eAlt (eFld (c := 8) (i := 0) T.cl_Band T.na_Band_size (by decide +kernel) (eVar (i := 1))) (eFld (c := 9) (i := 0) T.cl_Both T.na_Both_size (by decide +kernel) (eVar (i := 1))))))) (eAlt (eFld (c := 5) (i := 0) T.cl_Wish T.na_Wish_size (by decide +kernel) (eVar (i := 2))) (eAlt (eFld (c := 6) (i := 0) T.cl_AllWithin T.na_AllWithin_size (by decide +kernel) (eVar (i := 2))) (eAlt (eFld (c := 7) (i := 0) T.cl_SomeWithin T.na_SomeWithin_size (by decide +kernel) (eVar (i := 2))) (eAlt (eFld (c := 8) (i := 0) T.cl_Band T.na_Band_size (by decide +kernel) (eVar (i := 2))) (eFld (c := 9) (i := 0) T.cl_Both T.na_Both_size (by decide +kernel) (eVar (i := 2)))))))) bNil) (fun _ => .nil))))
      (zSeq (zFldN (c := 9) (j := 1) T.cl_Both T.na_Both_first (by decide +kernel) (by decide +kernel) (by decide) (eVar (i := 1)))
      (zFldN (c := 9) (j := 2) T.cl_Both T.na_Both_second (by decide +kernel) (by decide +kernel) (by decide) (eVar (i := 2))))))⟩)


theorem ok_Wish_cases (T : Txt K mg) : FnOk PP w K mg base (L2.CX PP w) 1 (He.ma K (He.ga K "Wish") "cases") T.fd_Wish_cases ["self"] (spOf K ds_Wish_cases) := by

  exact okD (m := m_Wish_cases) T.F_Wish_cases sc_Wish_cases hl_Wish_cases hm_Wish_cases (fun cdv A outer s H E hr => ⟨_, (pss_one (ps_ret (pe_lst (pa_cons (pe_tup (pa_cons pe_int (pa_cons (pe_lst pa_nil) pa_nil))) pa_nil)))), (zRet (eFz (eLst (aCons (eTup (aCons eC (aCons (eFz (eLst aNil)) aNil))) aNil))))⟩)

theorem ok_AllWithin_cases (T : Txt K mg) : FnOk PP w K mg base (L2.CX PP w) 3 (He.ma K (He.ga K "AllWithin") "cases") T.fd_AllWithin_cases ["self"] (spOf K ds_AllWithin_cases) := by
  have G_TrialU_initU_4 : FnR PP w K mg base (L2.CX PP w) _ _ _ := (ok_TrialU_initU T).raw (b_TrialU_initU_4 T).2 (b_TrialU_initU_4 T).1
  exact okD (m := m_AllWithin_cases) T.F_AllWithin_cases sc_AllWithin_cases hl_AllWithin_cases hm_AllWithin_cases (fun cdv A outer s H E hr => ⟨_, (pss_cons (ps_set (i := 3) sc_AllWithin_cases.nd rfl (by first | exact Or.inl rfl | exact Or.inr rfl) (pe_lst (pa_cons (pe_tup (pa_cons pe_int (pa_cons (pe_lc (own := [("place", 1), ("height", 2)]) rfl sc_AllWithin_cases.nd (Cl.piL K (Cl.fld K (pv 0))) (blkOk_by (N := ["self", "place", "height", "rows"]) (sc := defScope s_AllWithin_cases) (by decide +kernel)) (fun _ _ _ _ _ => (Cl.pgT K (n := 2) (pgs_cons (pg_name (i := 1) sc_AllWithin_cases.nd rfl (by first | exact Or.inl rfl | exact Or.inr rfl)) (pgs_cons (pg_name (i := 2) sc_AllWithin_cases.nd rfl (by first | exact Or.inl rfl | exact Or.inr rfl)) pgs_nil)))) (fun _ _ _ _ _ => pts_nil) (fun _ _ _ _ _ => (Cl.pe_mk T.mk_Trial G_TrialU_initU_4 (hr.mono (by decide)) (by rfl) T.m_Trial (E := fun _ _ _ _ => False) (fun σ => Cl.none_ σ) (pa_cons (pv 1) (pa_cons (pv 2) (pa_cons pe_bl pa_nil)))))) pa_nil))) pa_nil)))
      (pss_cons (ps_for (passes_of rfl) rfl (Cl.piL K (Cl.fld K (pv 0))) (Cl.pgT K (n := 2) (pgs_cons (pg_name (i := 1) sc_AllWithin_cases.nd rfl (by first | exact Or.inl rfl | exact Or.inr rfl)) (pgs_cons (pg_name (i := 2) sc_AllWithin_cases.nd rfl (by first | exact Or.inl rfl | exact Or.inr rfl)) pgs_nil)))
      (pss_one (ps_expr (pe_bm PySem.F.plainAttrs_list PySem.F.slot_list_append PySem.F.type_list_append mt_append (pv 3) (pa_cons (pe_tup (pa_cons pe_int (pa_cons (pe_lst (pa_cons (Cl.pe_mk T.mk_Trial G_TrialU_initU_4 (hr.mono (by decide)) (by rfl) T.m_Trial (fun σ => Cl.at_ (takes_of rfl rfl rfl rfl) σ) (pa_cons (pv 1) (pa_cons (pv 2) (pa_cons pe_bl pa_nil)))) pa_nil)) pa_nil))) pa_nil)))))
      (pss_one (ps_ret (pv 3))))), (zSeq (zAsg (eLst (aCons (eTup (aCons eC (aCons (eFz (eLc0 (wList (eFld (c := 6) (i := 1) T.cl_AllWithin T.na_AllWithin_pairs (by decide +kernel) (eVar (i := 0)))) (gw_tup (gw_cons gm_name (gw_name (by decide)) (gm_cons gm_name gm_nil) (gw_cons gm_name (gw_name (by decide)) gm_nil gw_nil))) (gm_tup (gm_cons gm_name (gm_cons gm_name gm_nil))) (gTp (n := 2) (gsCons (gNm (i := 1)) (gsCons (gNm (i := 2)) gsNil))) tYes' (eFz (eMake (c := 0) (bCons (eVar (i := 1)) (bCons (eVar (i := 2)) (bCons eC bNil))) (fun _ => .nil))))) aNil))) aNil)) (gNm (i := 3)))
      (zSeq (zFor (m := m_AllWithin_cases_L1) (wList (eFld (c := 6) (i := 1) T.cl_AllWithin T.na_AllWithin_pairs (by decide +kernel) (eVar (i := 0)))) (gTp (n := 2) (gsCons (gNm (i := 1)) (gsCons (gNm (i := 2)) gsNil)))
      (zDrop (eApp (i := 3) (eTup (aCons eC (aCons (eFz (eLst (aCons (eFz (eMake (c := 0) (bCons (eVar (i := 1)) (bCons (eVar (i := 2)) (bCons eC bNil))) (fun _ => .nil))) aNil))) aNil))))))
      (zRet (eVarF (i := 3)))))⟩)

theorem ok_SomeWithin_cases (T : Txt K mg) : FnOk PP w K mg base (L2.CX PP w) 3 (He.ma K (He.ga K "SomeWithin") "cases") T.fd_SomeWithin_cases ["self"] (spOf K ds_SomeWithin_cases) := by
  have G_TrialU_initU_4 : FnR PP w K mg base (L2.CX PP w) _ _ _ := (ok_TrialU_initU T).raw (b_TrialU_initU_4 T).2 (b_TrialU_initU_4 T).1
  exact okD (m := m_SomeWithin_cases) T.F_SomeWithin_cases sc_SomeWithin_cases hl_SomeWithin_cases hm_SomeWithin_cases (fun cdv A outer s H E hr => ⟨_, (pss_cons (ps_setLc (i := 3) (own := [("place", 1), ("height", 2)]) rfl sc_SomeWithin_cases.nd rfl rfl (sw_true rfl rfl rfl (by decide +kernel)) (Cl.piL K (Cl.fld K (pv 0))) (blkOk_by (N := ["self", "place", "height", "rows"]) (sc := defScope s_SomeWithin_cases) (by decide +kernel)) (fun _ _ _ _ _ => (Cl.pgT K (n := 2) (pgs_cons (pg_name (i := 1) sc_SomeWithin_cases.nd rfl (by first | exact Or.inl rfl | exact Or.inr rfl)) (pgs_cons (pg_name (i := 2) sc_SomeWithin_cases.nd rfl (by first | exact Or.inl rfl | exact Or.inr rfl)) pgs_nil)))) (fun _ _ _ _ _ => pts_nil) (fun _ _ _ _ _ => (pe_tup (pa_cons pe_int (pa_cons (pe_lst (pa_cons (Cl.pe_mk T.mk_Trial G_TrialU_initU_4 (hr.mono (by decide)) (by rfl) T.m_Trial (E := fun _ _ _ _ => False) (fun σ => Cl.none_ σ) (pa_cons (pv 1) (pa_cons (pv 2) (pa_cons pe_bl pa_nil)))) pa_nil)) pa_nil)))))
      (pss_cons (ps_expr (pe_bm PySem.F.plainAttrs_list PySem.F.slot_list_append PySem.F.type_list_append mt_append (pv 3) (pa_cons (pe_tup (pa_cons pe_int (pa_cons (pe_lc (own := [("place", 1), ("height", 2)]) rfl sc_SomeWithin_cases.nd (Cl.piL K (Cl.fld K (pv 0))) (blkOk_by (N := ["self", "place", "height", "rows"]) (sc := defScope s_SomeWithin_cases) (by decide +kernel)) (fun _ _ _ _ _ => (Cl.pgT K (n := 2) (pgs_cons (pg_name (i := 1) sc_SomeWithin_cases.nd rfl (by first | exact Or.inl rfl | exact Or.inr rfl)) (pgs_cons (pg_name (i := 2) sc_SomeWithin_cases.nd rfl (by first | exact Or.inl rfl | exact Or.inr rfl)) pgs_nil)))) (fun _ _ _ _ _ => pts_nil) (fun _ _ _ _ _ => (Cl.pe_mk T.mk_Trial G_TrialU_initU_4 (hr.mono (by decide)) (by rfl) T.m_Trial (E := fun _ _ _ _ => False) (fun σ => Cl.none_ σ) (pa_cons (pv 1) (pa_cons (pv 2) (pa_cons pe_bl pa_nil)))))) pa_nil))) pa_nil)))
      (pss_one (ps_ret (pv 3))))), (zSeq (zAsg (eLc0 (wList (eFld (c := 7) (i := 1) T.cl_SomeWithin T.na_SomeWithin_pairs (by decide +kernel) (eVar (i := 0)))) (gw_tup (gw_cons gm_name (gw_name (by decide)) (gm_cons gm_name gm_nil) (gw_cons gm_name (gw_name (by decide)) gm_nil gw_nil))) (gm_tup (gm_cons gm_name (gm_cons gm_name gm_nil))) (gTp (n := 2) (gsCons (gNm (i := 1)) (gsCons (gNm (i := 2)) gsNil))) tYes' (eTup (aCons eC (aCons (eFz (eLst (aCons (eFz (eMake (c := 0) (bCons (eVar (i := 1)) (bCons (eVar (i := 2)) (bCons eC bNil))) (fun _ => .nil))) aNil))) aNil)))) (gNm (i := 3)))
      (zSeq (zDrop (eApp (i := 3) (eTup (aCons eC (aCons (eFz (eLc0 (wList (eFld (c := 7) (i := 1) T.cl_SomeWithin T.na_SomeWithin_pairs (by decide +kernel) (eVar (i := 0)))) (gw_tup (gw_cons gm_name (gw_name (by decide)) (gm_cons gm_name gm_nil) (gw_cons gm_name (gw_name (by decide)) gm_nil gw_nil))) (gm_tup (gm_cons gm_name (gm_cons gm_name gm_nil))) (gTp (n := 2) (gsCons (gNm (i := 1)) (gsCons (gNm (i := 2)) gsNil))) tYes' (eFz (eMake (c := 0) (bCons (eVar (i := 1)) (bCons (eVar (i := 2)) (bCons eC bNil))) (fun _ => .nil))))) aNil)))))
      (zRet (eVarF (i := 3)))))⟩)

theorem ok_Band_cases (T : Txt K mg) : FnOk PP w K mg base (L2.CX PP w) 3 (He.ma K (He.ga K "Band") "cases") T.fd_Band_cases ["self"] (spOf K ds_Band_cases) := by
  have G_TrialU_initU_4 : FnR PP w K mg base (L2.CX PP w) _ _ _ := (ok_TrialU_initU T).raw (b_TrialU_initU_4 T).2 (b_TrialU_initU_4 T).1
  exact okD (m := m_Band_cases) T.F_Band_cases sc_Band_cases hl_Band_cases hm_Band_cases (fun cdv A outer s H E hr => ⟨_, (pss_cons (ps_set (i := 1) sc_Band_cases.nd rfl (by first | exact Or.inl rfl | exact Or.inr rfl) (pe_lst pa_nil))
      (pss_cons (ps_for (passes_of rfl) rfl (pi_range1 (by rfl) T.n_range (pa_cons (pe_op op_add (pe_callB (id := "len") (Cl.len K) (by rfl) T.n_len (by decide +kernel) (pa_cons (Cl.fld K (pv 0)) pa_nil)) pe_int) pa_nil)) (pg_name (i := 2) sc_Band_cases.nd rfl (by first | exact Or.inl rfl | exact Or.inr rfl))
      (pss_cons (ps_set (i := 3) sc_Band_cases.nd rfl (by first | exact Or.inl rfl | exact Or.inr rfl) (pe_lst pa_nil))
      (pss_cons (ps_if (pt_cmpR op_gt (pv 2) pe_int (nomark _))
      (pss_one (ps_expr (pe_bm PySem.F.plainAttrs_list PySem.F.slot_list_append PySem.F.type_list_append mt_append (pv 3) (pa_cons (Cl.pe_mk T.mk_Trial G_TrialU_initU_4 (hr.mono (by decide)) (by rfl) T.m_Trial (fun σ => Cl.at_ (takes_of rfl rfl rfl rfl) σ) (pa_cons (Cl.fld K (pv 0)) (pa_cons (pe_ix (Cl.ixL K) (Cl.fld K (pv 0)) (pe_op op_sub (pv 2) pe_int) (fun _ _ => rfl)) (pa_cons pe_bl pa_nil)))) pa_nil))))
      pss_nil)
      (pss_cons (ps_if (pt_cmpR op_lt (pv 2) (pe_callB (id := "len") (Cl.len K) (by rfl) T.n_len (by decide +kernel) (pa_cons (Cl.fld K (pv 0)) pa_nil)) (nomark _))
      (pss_one (ps_expr (pe_bm PySem.F.plainAttrs_list PySem.F.slot_list_append PySem.F.type_list_append mt_append (pv 3) (pa_cons (Cl.pe_mk T.mk_Trial G_TrialU_initU_4 (hr.mono (by decide)) (by rfl) T.m_Trial (fun σ => Cl.at_ (takes_of rfl rfl rfl rfl) σ) (pa_cons (Cl.fld K (pv 0)) (pa_cons (pe_ix (Cl.ixL K) (Cl.fld K (pv 0)) (pv 2) (fun _ _ => rfl)) (pa_cons pe_bl pa_nil)))) pa_nil))))
      pss_nil)
      (pss_one (ps_expr (pe_bm PySem.F.plainAttrs_list PySem.F.slot_list_append PySem.F.type_list_append mt_append (pv 1) (pa_cons (pe_tup (pa_cons (pv 2) (pa_cons (pv 3) pa_nil))) pa_nil))))))))
      (pss_one (ps_ret (pv 1))))), (zSeq (zAsg (eLst aNil) (gNm (i := 1)))
      (zSeq (zFor (m := m_Band_cases_L1) (wR1 (eOp r_add (eCB1 c_len (eFld (c := 8) (i := 2) T.cl_Band T.na_Band_cuts (by decide +kernel) (eVar (i := 0)))) eC)) (gNm (i := 2))
      (zSeq (zAsg (eLst aNil) (gNm (i := 3)))
      (zSeq (zIf (tTest' (eOp r_gt (eVar (i := 2)) eC))
      (zDrop (eApp (i := 3) (eFz (eMake (c := 0) (bCons (eFld (c := 8) (i := 1) T.cl_Band T.na_Band_place (by decide +kernel) (eVar (i := 0))) (bCons (eOp r_ixL (eFld (c := 8) (i := 2) T.cl_Band T.na_Band_cuts (by decide +kernel) (eVar (i := 0))) (eOp r_sub (eVar (i := 2)) eC)) (bCons eC bNil))) (fun _ => .nil)))))
      zNext)
      (zSeq (zIf (tTest' (eOp r_lt (eVar (i := 2)) (eCB1 c_len (eFld (c := 8) (i := 2) T.cl_Band T.na_Band_cuts (by decide +kernel) (eVar (i := 0))))))
      (zDrop (eApp (i := 3) (eFz (eMake (c := 0) (bCons (eFld (c := 8) (i := 1) T.cl_Band T.na_Band_place (by decide +kernel) (eVar (i := 0))) (bCons (eOp r_ixL (eFld (c := 8) (i := 2) T.cl_Band T.na_Band_cuts (by decide +kernel) (eVar (i := 0))) (eVar (i := 2))) (bCons eC bNil))) (fun _ => .nil)))))
      zNext)
      (zDrop (eApp (i := 1) (eTup (aCons (eVar (i := 2)) (aCons (eVarF (i := 3)) aNil)))))))))
      (zRet (eVarF (i := 1)))))⟩)

theorem ok_Both_cases (n : Nat) (T : Txt K mg) : FnOk PP w K mg base (L2.CX PP w) (n + 4) (He.ma K (He.ga K "Both") "cases") T.fd_Both_cases ["self"] (spOf K (ds_Both_cases n)) := by
  induction n with
  | zero => rw [ds0_Both_cases]; exact okStuck T.F_Both_cases sc_Both_cases
  | succ n ih =>
    have G_AllWithin_cases_1 : FnR PP w K mg base (L2.CX PP w) _ _ _ := (ok_AllWithin_cases T).raw (b_AllWithin_cases_1 T).2 (b_AllWithin_cases_1 T).1
    have G_Band_cases_1 : FnR PP w K mg base (L2.CX PP w) _ _ _ := (ok_Band_cases T).raw (b_Band_cases_1 T).2 (b_Band_cases_1 T).1
    have G_Both_cases_1 : FnR PP w K mg base (L2.CX PP w) _ _ _ := ((fun _ => ih) T).raw (b_Both_cases_1 T).2 (b_Both_cases_1 T).1
    have G_SomeWithin_cases_1 : FnR PP w K mg base (L2.CX PP w) _ _ _ := (ok_SomeWithin_cases T).raw (b_SomeWithin_cases_1 T).2 (b_SomeWithin_cases_1 T).1
    have G_Wish_cases_1 : FnR PP w K mg base (L2.CX PP w) _ _ _ := (ok_Wish_cases T).raw (b_Wish_cases_1 T).2 (b_Wish_cases_1 T).1
    exact okD (m := m_Both_cases (ds_Both_cases n)) T.F_Both_cases sc_Both_cases (hl_Both_cases n) (hm_Both_cases n) (fun cdv A outer s H E hr => ⟨_, (pss_cons (ps_set (i := 1) sc_Both_cases.nd rfl (by first | exact Or.inl rfl | exact Or.inr rfl) (pe_lst pa_nil))
      (pss_cons (ps_for (passes_of rfl) rfl (Cl.piL K (Dl.pe_alt (Cl.pe_m0 (Cl.fld K (pv 0)) T.cl_Wish T.me_Wish_cases G_Wish_cases_1 (hr.mono (by omega)) (fun σ => Cl.at_ (takes_of rfl rfl rfl rfl) σ)) (Dl.pe_alt (Cl.pe_m0 (Cl.fld K (pv 0)) T.cl_AllWithin T.me_AllWithin_cases G_AllWithin_cases_1 (hr.mono (by omega)) (fun σ => Cl.at_ (takes_of rfl rfl rfl rfl) σ)) (Dl.pe_alt (Cl.pe_m0 (Cl.fld K (pv 0)) T.cl_SomeWithin T.me_SomeWithin_cases G_SomeWithin_cases_1 (hr.mono (by omega)) (fun σ => Cl.at_ (takes_of rfl rfl rfl rfl) σ)) (Dl.pe_alt (Cl.pe_m0 (Cl.fld K (pv 0)) T.cl_Band T.me_Band_cases G_Band_cases_1 (hr.mono (by omega)) (fun σ => Cl.at_ (takes_of rfl rfl rfl rfl) σ)) (Cl.pe_m0 (Cl.fld K (pv 0)) T.cl_Both T.me_Both_cases G_Both_cases_1 (hr.mono (by omega)) (fun σ => Cl.at_ (takes_of rfl rfl rfl rfl) σ))))))) (Cl.pgT K (n := 2) (pgs_cons (pg_name (i := 2) sc_Both_cases.nd rfl (by first | exact Or.inl rfl | exact Or.inr rfl)) (pgs_cons (pg_name (i := 3) sc_Both_cases.nd rfl (by first | exact Or.inl rfl | exact Or.inr rfl)) pgs_nil)))
      (pss_one (ps_for (passes_of rfl) rfl (Cl.piL K (Dl.pe_alt (Cl.pe_m0 (Cl.fld K (pv 0)) T.cl_Wish T.me_Wish_cases G_Wish_cases_1 (hr.mono (by omega)) (fun σ => Cl.at_ (takes_of rfl rfl rfl rfl) σ)) (Dl.pe_alt (Cl.pe_m0 (Cl.fld K (pv 0)) T.cl_AllWithin T.me_AllWithin_cases G_AllWithin_cases_1 (hr.mono (by omega)) (fun σ => Cl.at_ (takes_of rfl rfl rfl rfl) σ)) (Dl.pe_alt (Cl.pe_m0 (Cl.fld K (pv 0)) T.cl_SomeWithin T.me_SomeWithin_cases G_SomeWithin_cases_1 (hr.mono (by omega)) (fun σ => Cl.at_ (takes_of rfl rfl rfl rfl) σ)) (Dl.pe_alt (Cl.pe_m0 (Cl.fld K (pv 0)) T.cl_Band T.me_Band_cases G_Band_cases_1 (hr.mono (by omega)) (fun σ => Cl.at_ (takes_of rfl rfl rfl rfl) σ)) (Cl.pe_m0 (Cl.fld K (pv 0)) T.cl_Both T.me_Both_cases G_Both_cases_1 (hr.mono (by omega)) (fun σ => Cl.at_ (takes_of rfl rfl rfl rfl) σ))))))) (Cl.pgT K (n := 2) (pgs_cons (pg_name (i := 4) sc_Both_cases.nd rfl (by first | exact Or.inl rfl | exact Or.inr rfl)) (pgs_cons (pg_name (i := 5) sc_Both_cases.nd rfl (by first | exact Or.inl rfl | exact Or.inr rfl)) pgs_nil)))
      (pss_one (ps_expr (pe_bm PySem.F.plainAttrs_list PySem.F.slot_list_append PySem.F.type_list_append mt_append (pv 1) (pa_cons (pe_tup (pa_cons (pe_op op_add (pe_op op_mulX (pv 2) (Cl.fld K (Cl.fld K (pv 0)))) (pv 4)) (pa_cons (pe_op op_cat (pv 3) (pv 5)) pa_nil))) pa_nil)))))))
      (pss_one (ps_ret (pv 1))))), (zSeq (zAsg (eLst aNil) (gNm (i := 1)))
      (zSeq (zFor (m := (m_Both_cases_L1 _)) (wList (eAlt2 (eMeth (c := 5) (by decide +kernel) (eFld (c := 9) (i := 1) T.cl_Both T.na_Both_first (by decide +kernel) (eVar (i := 0))) bNil (fun _ => .nil)) (eAlt2 (eMeth (c := 6) (by decide +kernel) (eFld (c := 9) (i := 1) T.cl_Both T.na_Both_first (by decide +kernel) (eVar (i := 0))) bNil (fun _ => .nil)) (eAlt2 (eMeth (c := 7) (by decide +kernel) (eFld (c := 9) (i := 1) T.cl_Both T.na_Both_first (by decide +kernel) (eVar (i := 0))) bNil (fun _ => .nil)) (eAlt2 (eMeth (c := 8) (by decide +kernel) (eFld (c := 9) (i := 1) T.cl_Both T.na_Both_first (by decide +kernel) (eVar (i := 0))) bNil (fun _ => .nil)) (eMeth (c := 9) (by decide +kernel) (eFld (c := 9) (i := 1) T.cl_Both T.na_Both_first (by decide +kernel) (eVar (i := 0))) bNil (fun _ => .nil))))))) (gTp (n := 2) (gsCons (gNm (i := 2)) (gsCons (gNm (i := 3)) gsNil)))
      (zFor (m := (m_Both_cases_L2 _)) (wList (eAlt2 (eMeth (c := 5) (by decide +kernel) (eFld (c := 9) (i := 2) T.cl_Both T.na_Both_second (by decide +kernel) (eVar (i := 0))) bNil (fun _ => .nil)) (eAlt2 (eMeth (c := 6) (by decide +kernel) (eFld (c := 9) (i := 2) T.cl_Both T.na_Both_second (by decide +kernel) (eVar (i := 0))) bNil (fun _ => .nil)) (eAlt2 (eMeth (c := 7) (by decide +kernel) (eFld (c := 9) (i := 2) T.cl_Both T.na_Both_second (by decide +kernel) (eVar (i := 0))) bNil (fun _ => .nil)) (eAlt2 (eMeth (c := 8) (by decide +kernel) (eFld (c := 9) (i := 2) T.cl_Both T.na_Both_second (by decide +kernel) (eVar (i := 0))) bNil (fun _ => .nil)) (eMeth (c := 9) (by decide +kernel) (eFld (c := 9) (i := 2) T.cl_Both T.na_Both_second (by decide +kernel) (eVar (i := 0))) bNil (fun _ => .nil))))))) (gTp (n := 2) (gsCons (gNm (i := 4)) (gsCons (gNm (i := 5)) gsNil)))
      (zDrop (eApp (i := 1) (eTup (aCons (eOp r_add (eOp r_I (eVar (i := 2)) (eAlt (eFld (c := 5) (i := 0) T.cl_Wish T.na_Wish_size (by decide +kernel) (eFld (c := 9) (i := 2) T.cl_Both T.na_Both_second (by decide +kernel) (eVar (i := 0)))) (eAlt (eFld (c := 6) (i := 0) T.cl_AllWithin T.na_AllWithin_size (by decide +kernel) (eFld (c := 9) (i := 2) T.cl_Both T.na_Both_second (by decide +kernel) (eVar (i := 0)))) (eAlt (eFld (c := 7) (i := 0) T.cl_SomeWithin T.na_SomeWithin_size (by decide +kernel) (eFld (c := 9) (i := 2) T.cl_Both T.na_Both_second (by decide +kernel) (eVar (i := 0)))) (eAlt (eFld (c := 8) (i := 0) T.cl_Band T.na_Band_size (by decide +kernel) (eFld (c := 9) (i := 2) T.cl_Both T.na_Both_second (by decide +kernel) (eVar (i := 0)))) (eFld (c := 9) (i := 0) T.cl_Both T.na_Both_size (by decide +kernel) (eFld (c := 9) (i := 2) T.cl_Both T.na_Both_second (by decide +kernel) (eVar (i := 0))))))))) (eVar (i := 4))) (aCons (eFz (eOp r_cat (eVar (i := 3)) (eVar (i := 5)))) aNil)))))))
      (zRet (eVarF (i := 1)))))⟩)
theorem okd_Both_cases (T : Txt K mg) : FnOk PP w K mg base (L2.CX PP w) (4 + 4) (He.ma K (He.ga K "Both") "cases") T.fd_Both_cases ["self"] (spOf K dd_Both_cases) := by rw [dd_Both_cases_eq]; exact ok_Both_cases 4 T


theorem ok_Wish_places (T : Txt K mg) : FnOk PP w K mg base (L2.CX PP w) 1 (He.ma K (He.ga K "Wish") "places") T.fd_Wish_places ["self"] (spOf K ds_Wish_places) := by

  exact okD (m := m_Wish_places) T.F_Wish_places sc_Wish_places hl_Wish_places hm_Wish_places (fun cdv A outer s H E hr => ⟨_, (pss_one (ps_ret (pe_lst pa_nil))), (zRet (eLst aNil))⟩)

theorem ok_AllWithin_places (T : Txt K mg) : FnOk PP w K mg base (L2.CX PP w) 1 (He.ma K (He.ga K "AllWithin") "places") T.fd_AllWithin_places ["self"] (spOf K ds_AllWithin_places) := by

  exact okD (m := m_AllWithin_places) T.F_AllWithin_places sc_AllWithin_places hl_AllWithin_places hm_AllWithin_places (fun cdv A outer s H E hr => ⟨_, (pss_one (ps_ret (pe_lc (own := [("place", 1), ("height", 2)]) rfl sc_AllWithin_places.nd (Cl.piL K (Cl.fld K (pv 0))) (blkOk_by (N := ["self", "place", "height"]) (sc := defScope s_AllWithin_places) (by decide +kernel)) (fun _ _ _ _ _ => (Cl.pgT K (n := 2) (pgs_cons (pg_name (i := 1) sc_AllWithin_places.nd rfl (by first | exact Or.inl rfl | exact Or.inr rfl)) (pgs_cons (pg_name (i := 2) sc_AllWithin_places.nd rfl (by first | exact Or.inl rfl | exact Or.inr rfl)) pgs_nil)))) (fun _ _ _ _ _ => pts_nil) (fun _ _ _ _ _ => (pv 1))))), (zRet (eLc0 (wList (eFld (c := 6) (i := 1) T.cl_AllWithin T.na_AllWithin_pairs (by decide +kernel) (eVar (i := 0)))) (gw_tup (gw_cons gm_name (gw_name (by decide)) (gm_cons gm_name gm_nil) (gw_cons gm_name (gw_name (by decide)) gm_nil gw_nil))) (gm_tup (gm_cons gm_name (gm_cons gm_name gm_nil))) (gTp (n := 2) (gsCons (gNm (i := 1)) (gsCons (gNm (i := 2)) gsNil))) tYes' (eVar (i := 1))))⟩)

theorem ok_SomeWithin_places (T : Txt K mg) : FnOk PP w K mg base (L2.CX PP w) 1 (He.ma K (He.ga K "SomeWithin") "places") T.fd_SomeWithin_places ["self"] (spOf K ds_SomeWithin_places) := by

  exact okD (m := m_SomeWithin_places) T.F_SomeWithin_places sc_SomeWithin_places hl_SomeWithin_places hm_SomeWithin_places (fun cdv A outer s H E hr => ⟨_, (pss_one (ps_ret (pe_lc (own := [("place", 1), ("height", 2)]) rfl sc_SomeWithin_places.nd (Cl.piL K (Cl.fld K (pv 0))) (blkOk_by (N := ["self", "place", "height"]) (sc := defScope s_SomeWithin_places) (by decide +kernel)) (fun _ _ _ _ _ => (Cl.pgT K (n := 2) (pgs_cons (pg_name (i := 1) sc_SomeWithin_places.nd rfl (by first | exact Or.inl rfl | exact Or.inr rfl)) (pgs_cons (pg_name (i := 2) sc_SomeWithin_places.nd rfl (by first | exact Or.inl rfl | exact Or.inr rfl)) pgs_nil)))) (fun _ _ _ _ _ => pts_nil) (fun _ _ _ _ _ => (pv 1))))), (zRet (eLc0 (wList (eFld (c := 7) (i := 1) T.cl_SomeWithin T.na_SomeWithin_pairs (by decide +kernel) (eVar (i := 0)))) (gw_tup (gw_cons gm_name (gw_name (by decide)) (gm_cons gm_name gm_nil) (gw_cons gm_name (gw_name (by decide)) gm_nil gw_nil))) (gm_tup (gm_cons gm_name (gm_cons gm_name gm_nil))) (gTp (n := 2) (gsCons (gNm (i := 1)) (gsCons (gNm (i := 2)) gsNil))) tYes' (eVar (i := 1))))⟩)

theorem ok_Band_places (T : Txt K mg) : FnOk PP w K mg base (L2.CX PP w) 1 (He.ma K (He.ga K "Band") "places") T.fd_Band_places ["self"] (spOf K ds_Band_places) := by

  exact okD (m := m_Band_places) T.F_Band_places sc_Band_places hl_Band_places hm_Band_places (fun cdv A outer s H E hr => ⟨_, (pss_one (ps_ret (pe_lst (pa_cons (Cl.fld K (pv 0)) pa_nil)))), (zRet (eLst (aCons (eFld (c := 8) (i := 1) T.cl_Band T.na_Band_place (by decide +kernel) (eVar (i := 0))) aNil)))⟩)

theorem ok_Both_places (n : Nat) (T : Txt K mg) : FnOk PP w K mg base (L2.CX PP w) (n + 2) (He.ma K (He.ga K "Both") "places") T.fd_Both_places ["self"] (spOf K (ds_Both_places n)) := by
  induction n with
  | zero => rw [ds0_Both_places]; exact okStuck T.F_Both_places sc_Both_places
  | succ n ih =>
    have G_AllWithin_places_1 : FnR PP w K mg base (L2.CX PP w) _ _ _ := (ok_AllWithin_places T).raw (b_AllWithin_places_1 T).2 (b_AllWithin_places_1 T).1
    have G_Band_places_1 : FnR PP w K mg base (L2.CX PP w) _ _ _ := (ok_Band_places T).raw (b_Band_places_1 T).2 (b_Band_places_1 T).1
    have G_Both_places_1 : FnR PP w K mg base (L2.CX PP w) _ _ _ := ((fun _ => ih) T).raw (b_Both_places_1 T).2 (b_Both_places_1 T).1
    have G_SomeWithin_places_1 : FnR PP w K mg base (L2.CX PP w) _ _ _ := (ok_SomeWithin_places T).raw (b_SomeWithin_places_1 T).2 (b_SomeWithin_places_1 T).1
    have G_Wish_places_1 : FnR PP w K mg base (L2.CX PP w) _ _ _ := (ok_Wish_places T).raw (b_Wish_places_1 T).2 (b_Wish_places_1 T).1
    exact okD (m := m_Both_places (ds_Both_places n)) T.F_Both_places sc_Both_places (hl_Both_places n) (hm_Both_places n) (fun cdv A outer s H E hr => ⟨_, (pss_one (ps_ret (pe_op op_cat (Dl.pe_alt (Cl.pe_m0 (Cl.fld K (pv 0)) T.cl_Wish T.me_Wish_places G_Wish_places_1 (hr.mono (by omega)) (fun σ => Cl.at_ (takes_of rfl rfl rfl rfl) σ)) (Dl.pe_alt (Cl.pe_m0 (Cl.fld K (pv 0)) T.cl_AllWithin T.me_AllWithin_places G_AllWithin_places_1 (hr.mono (by omega)) (fun σ => Cl.at_ (takes_of rfl rfl rfl rfl) σ)) (Dl.pe_alt (Cl.pe_m0 (Cl.fld K (pv 0)) T.cl_SomeWithin T.me_SomeWithin_places G_SomeWithin_places_1 (hr.mono (by omega)) (fun σ => Cl.at_ (takes_of rfl rfl rfl rfl) σ)) (Dl.pe_alt (Cl.pe_m0 (Cl.fld K (pv 0)) T.cl_Band T.me_Band_places G_Band_places_1 (hr.mono (by omega)) (fun σ => Cl.at_ (takes_of rfl rfl rfl rfl) σ)) (Cl.pe_m0 (Cl.fld K (pv 0)) T.cl_Both T.me_Both_places G_Both_places_1 (hr.mono (by omega)) (fun σ => Cl.at_ (takes_of rfl rfl rfl rfl) σ)))))) (Dl.pe_alt (Cl.pe_m0 (Cl.fld K (pv 0)) T.cl_Wish T.me_Wish_places G_Wish_places_1 (hr.mono (by omega)) (fun σ => Cl.at_ (takes_of rfl rfl rfl rfl) σ)) (Dl.pe_alt (Cl.pe_m0 (Cl.fld K (pv 0)) T.cl_AllWithin T.me_AllWithin_places G_AllWithin_places_1 (hr.mono (by omega)) (fun σ => Cl.at_ (takes_of rfl rfl rfl rfl) σ)) (Dl.pe_alt (Cl.pe_m0 (Cl.fld K (pv 0)) T.cl_SomeWithin T.me_SomeWithin_places G_SomeWithin_places_1 (hr.mono (by omega)) (fun σ => Cl.at_ (takes_of rfl rfl rfl rfl) σ)) (Dl.pe_alt (Cl.pe_m0 (Cl.fld K (pv 0)) T.cl_Band T.me_Band_places G_Band_places_1 (hr.mono (by omega)) (fun σ => Cl.at_ (takes_of rfl rfl rfl rfl) σ)) (Cl.pe_m0 (Cl.fld K (pv 0)) T.cl_Both T.me_Both_places G_Both_places_1 (hr.mono (by omega)) (fun σ => Cl.at_ (takes_of rfl rfl rfl rfl) σ))))))))), (zRet (eOp r_cat (eFz (eAlt2 (eMeth (c := 5) (by decide +kernel) (eFld (c := 9) (i := 1) T.cl_Both T.na_Both_first (by decide +kernel) (eVar (i := 0))) bNil (fun _ => .nil)) (eAlt2 (eMeth (c := 6) (by decide +kernel) (eFld (c := 9) (i := 1) T.cl_Both T.na_Both_first (by decide +kernel) (eVar (i := 0))) bNil (fun _ => .nil)) (eAlt2 (eMeth (c := 7) (by decide +kernel) (eFld (c := 9) (i := 1) T.cl_Both T.na_Both_first (by decide +kernel) (eVar (i := 0))) bNil (fun _ => .nil)) (eAlt2 (eMeth (c := 8) (by decide +kernel) (eFld (c := 9) (i := 1) T.cl_Both T.na_Both_first (by decide +kernel) (eVar (i := 0))) bNil (fun _ => .nil)) (eMeth (c := 9) (by decide +kernel) (eFld (c := 9) (i := 1) T.cl_Both T.na_Both_first (by decide +kernel) (eVar (i := 0))) bNil (fun _ => .nil))))))) (eFz (eAlt2 (eMeth (c := 5) (by decide +kernel) (eFld (c := 9) (i := 2) T.cl_Both T.na_Both_second (by decide +kernel) (eVar (i := 0))) bNil (fun _ => .nil)) (eAlt2 (eMeth (c := 6) (by decide +kernel) (eFld (c := 9) (i := 2) T.cl_Both T.na_Both_second (by decide +kernel) (eVar (i := 0))) bNil (fun _ => .nil)) (eAlt2 (eMeth (c := 7) (by decide +kernel) (eFld (c := 9) (i := 2) T.cl_Both T.na_Both_second (by decide +kernel) (eVar (i := 0))) bNil (fun _ => .nil)) (eAlt2 (eMeth (c := 8) (by decide +kernel) (eFld (c := 9) (i := 2) T.cl_Both T.na_Both_second (by decide +kernel) (eVar (i := 0))) bNil (fun _ => .nil)) (eMeth (c := 9) (by decide +kernel) (eFld (c := 9) (i := 2) T.cl_Both T.na_Both_second (by decide +kernel) (eVar (i := 0))) bNil (fun _ => .nil)))))))))⟩)
theorem okd_Both_places (T : Txt K mg) : FnOk PP w K mg base (L2.CX PP w) (4 + 2) (He.ma K (He.ga K "Both") "places") T.fd_Both_places ["self"] (spOf K dd_Both_places) := by rw [dd_Both_places_eq]; exact ok_Both_places 4 T

theorem ok_Wish_answer (T : Txt K mg) : FnOk PP w K mg base (L2.CX PP w) 9 (He.ma K (He.ga K "Wish") "answer") T.fd_Wish_answer ["self", "heights"] (spOf K ds_Wish_answer) := by
  have G_AllWithin_cases_1 : FnR PP w K mg base (L2.CX PP w) _ _ _ := (ok_AllWithin_cases T).raw (b_AllWithin_cases_1 T).2 (b_AllWithin_cases_1 T).1
  have G_Band_cases_1 : FnR PP w K mg base (L2.CX PP w) _ _ _ := (ok_Band_cases T).raw (b_Band_cases_1 T).2 (b_Band_cases_1 T).1
  have G_Both_cases_1 : FnR PP w K mg base (L2.CX PP w) _ _ _ := (okd_Both_cases T).raw (b_Both_cases_1 T).2 (b_Both_cases_1 T).1
  have G_SomeWithin_cases_1 : FnR PP w K mg base (L2.CX PP w) _ _ _ := (ok_SomeWithin_cases T).raw (b_SomeWithin_cases_1 T).2 (b_SomeWithin_cases_1 T).1
  have G_Trial_agrees_2 : FnR PP w K mg base (L2.CX PP w) _ _ _ := (ok_Trial_agrees T).raw (b_Trial_agrees_2 T).2 (b_Trial_agrees_2 T).1
  have G_Wish_cases_1 : FnR PP w K mg base (L2.CX PP w) _ _ _ := (ok_Wish_cases T).raw (b_Wish_cases_1 T).2 (b_Wish_cases_1 T).1
  exact okD (m := m_Wish_answer) T.F_Wish_answer sc_Wish_answer hl_Wish_answer hm_Wish_answer (fun cdv A outer s H E hr => ⟨_, (pss_cons (ps_for (passes_of rfl) rfl (Cl.piL K (Dl.pe_alt (Cl.pe_m0 (pv 0) T.cl_Wish T.me_Wish_cases G_Wish_cases_1 (hr.mono (by decide)) (fun σ => Cl.at_ (takes_of rfl rfl rfl rfl) σ)) (Dl.pe_alt (Cl.pe_m0 (pv 0) T.cl_AllWithin T.me_AllWithin_cases G_AllWithin_cases_1 (hr.mono (by decide)) (fun σ => Cl.at_ (takes_of rfl rfl rfl rfl) σ)) (Dl.pe_alt (Cl.pe_m0 (pv 0) T.cl_SomeWithin T.me_SomeWithin_cases G_SomeWithin_cases_1 (hr.mono (by decide)) (fun σ => Cl.at_ (takes_of rfl rfl rfl rfl) σ)) (Dl.pe_alt (Cl.pe_m0 (pv 0) T.cl_Band T.me_Band_cases G_Band_cases_1 (hr.mono (by decide)) (fun σ => Cl.at_ (takes_of rfl rfl rfl rfl) σ)) (Cl.pe_m0 (pv 0) T.cl_Both T.me_Both_cases G_Both_cases_1 (hr.mono (by decide)) (fun σ => Cl.at_ (takes_of rfl rfl rfl rfl) σ))))))) (Cl.pgT K (n := 2) (pgs_cons (pg_name (i := 2) sc_Wish_answer.nd rfl (by first | exact Or.inl rfl | exact Or.inr rfl)) (pgs_cons (pg_name (i := 3) sc_Wish_answer.nd rfl (by first | exact Or.inl rfl | exact Or.inr rfl)) pgs_nil)))
      (pss_one (ps_if (pt_val (pe_callB (id := "all") (Cl.all1 K) (by rfl) T.n_all (by decide +kernel) (pa_cons (pe_lc (own := [("trial", 4)]) rfl sc_Wish_answer.nd (Cl.piL K (pv 3)) (blkOk_by (N := ["self", "heights", "answer", "trials", "trial"]) (sc := defScope s_Wish_answer) (by decide +kernel)) (fun _ _ _ _ _ => (pg_name (i := 4) sc_Wish_answer.nd rfl (by first | exact Or.inl rfl | exact Or.inr rfl))) (fun _ _ _ _ _ => pts_nil) (fun _ _ _ _ _ => (Cl.pe_m (pv 4) T.cl_Trial T.me_Trial_agrees G_Trial_agrees_2 (hr.mono (by decide)) (E := fun _ _ _ _ => False) (fun σ => Cl.none_ σ) (pa_cons (pv 1) pa_nil)))) pa_nil)))
      (pss_one (ps_ret (pv 2)))
      pss_nil)))
      (pss_one (ps_ret pe_int))), (zSeq (zFor (m := m_Wish_answer_L1) (wList (eAlt2 (eMeth (c := 5) (by decide +kernel) (eVar (i := 0)) bNil (fun _ => .nil)) (eAlt2 (eMeth (c := 6) (by decide +kernel) (eVar (i := 0)) bNil (fun _ => .nil)) (eAlt2 (eMeth (c := 7) (by decide +kernel) (eVar (i := 0)) bNil (fun _ => .nil)) (eAlt2 (eMeth (c := 8) (by decide +kernel) (eVar (i := 0)) bNil (fun _ => .nil)) (eMeth (c := 9) (by decide +kernel) (eVar (i := 0)) bNil (fun _ => .nil))))))) (gTp (n := 2) (gsCons (gNm (i := 2)) (gsCons (gNm (i := 3)) gsNil)))
      (zIf (tVal (eCB1 c_all (eFz (eLc0 (wList (eVar (i := 3))) (gw_name (by decide)) gm_name (gNm (i := 4)) tYes' (eMeth (c := 0) (by decide +kernel) (eVar (i := 4)) (bCons (eVar (i := 1)) bNil) (fun _ => .nil))))))
      (zRet (eVar (i := 2)))
      zNext))
      (zRet eC))⟩)

theorem ok_WishU_andU (T : Txt K mg) : FnOk PP w K mg base (L2.CX PP w) 6 (He.ma K (He.ga K "Wish") "__and__") T.fd_WishU_andU ["self", "other"] (spOf K ds_WishU_andU) := by
  have G_BothU_initU_3 : FnR PP w K mg base (L2.CX PP w) _ _ _ := (ok_BothU_initU T).raw (b_BothU_initU_3 T).2 (b_BothU_initU_3 T).1
  exact okD (m := m_WishU_andU) T.F_WishU_andU sc_WishU_andU hl_WishU_andU hm_WishU_andU (fun cdv A outer s H E hr => ⟨_, (pss_cons (ps_if (pt_not (pt_val (pe_callB (id := "isinstance") (Cl.isi K) (by rfl) T.n_isinstance (by decide +kernel) (pa_cons (pv 1) (pa_cons (pe_glob (v := .ref (He.ga K "Wish")) (by rfl) T.m_Wish rfl) pa_nil)))))
      (pss_one ps_never)
      pss_nil)
      (pss_one (ps_ret (Cl.pe_mk T.mk_Both G_BothU_initU_3 (hr.mono (by decide)) (by rfl) T.m_Both (fun σ => Cl.at_ (takes_of rfl rfl rfl rfl) σ) (pa_cons (pv 0) (pa_cons (pv 1) pa_nil)))))), (zSeq (zIf (tNot' (tVal (eIsO (c0 := 5) (own := is_Wish) (blt := ib_Wish) T.is_Wish_o T.ib_Wish_b (eVar (i := 1)))))
      zNever
      zNext)
      (zRet (eFz (eMake (c := 9) (bCons (eVar (i := 0)) (bCons (eVar (i := 1)) bNil)) (fun _ => .nil)))))⟩)


theorem ok_law_number (T : Txt K mg) : FnOk PP w K mg base (L2.CX PP w) 1 (He.ga K "_law_number") T.fd_law_number ["_law_x"] (spOf K ds_law_number) := by

  exact okD (m := m_law_number) T.F_law_number sc_law_number hl_law_number hm_law_number (fun cdv A outer s H E hr => ⟨_, (pss_one (ps_ret (pe_and (pe_callB (id := "isinstance") (Cl.isi K) (by rfl) T.n_isinstance (by decide +kernel) (pa_cons (pv 0) (pa_cons (pe_bltn (v := .ty "int") (u := .type "int") (by rfl) T.n_int (by decide +kernel) rfl) pa_nil))) (pe_one (pe_not (pe_callB (id := "isinstance") (Cl.isi K) (by rfl) T.n_isinstance (by decide +kernel) (pa_cons (pv 0) (pa_cons (pe_bltn (v := .ty "bool") (u := .type "bool") (by rfl) T.n_bool (by decide +kernel) rfl) pa_nil)))))))), (zRet (eAndV (eIsi (T := .int) (eVar (i := 0))) (eNotV (eIsi (T := .bl) (eVar (i := 0))))))⟩)


theorem ok_law_numbers (T : Txt K mg) : FnOk PP w K mg base (L2.CX PP w) 1 (He.ga K "_law_numbers") T.fd_law_numbers ["_law_row", "_law_due"] (spOf K ds_law_numbers) := by

  exact okD (m := m_law_numbers) T.F_law_numbers sc_law_numbers hl_law_numbers hm_law_numbers (fun cdv A outer s H E hr => ⟨_, (pss_cons (ps_if (PW.pt (pw_or (pt_not (pt_val (pe_callB (id := "isinstance") (Cl.isi K) (by rfl) T.n_isinstance (by decide +kernel) (pa_cons (pv 0) (pa_cons (pe_bltn (v := .ty "list") (u := .type "list") (by rfl) T.n_list (by decide +kernel) rfl) pa_nil))))) (pw_or1 (pt_cmpR op_ne (pe_callB (id := "len") (Cl.len K) (by rfl) T.n_len (by decide +kernel) (pa_cons (pv 0) pa_nil)) (pe_callB (id := "len") (Cl.len K) (by rfl) T.n_len (by decide +kernel) (pa_cons (pv 1) pa_nil)) (nomark _)))))
      (pss_one (ps_ret pe_bl))
      pss_nil)
      (pss_cons (ps_for (passes_of rfl) rfl (pi_range1 (by rfl) T.n_range (pa_cons (pe_callB (id := "len") (Cl.len K) (by rfl) T.n_len (by decide +kernel) (pa_cons (pv 1) pa_nil)) pa_nil)) (pg_name (i := 2) sc_law_numbers.nd rfl (by first | exact Or.inl rfl | exact Or.inr rfl))
      (pss_one (ps_if (PW.pt (pw_or (pt_not (pt_val (pe_callB (id := "isinstance") (Cl.isi K) (by rfl) T.n_isinstance (by decide +kernel) (pa_cons (pe_ix (Cl.ixL K) (pv 0) (pv 2) (fun _ _ => rfl)) (pa_cons (pe_bltn (v := .ty "int") (u := .type "int") (by rfl) T.n_int (by decide +kernel) rfl) pa_nil))))) (pw_or (pt_val (pe_callB (id := "isinstance") (Cl.isi K) (by rfl) T.n_isinstance (by decide +kernel) (pa_cons (pe_ix (Cl.ixL K) (pv 0) (pv 2) (fun _ _ => rfl)) (pa_cons (pe_bltn (v := .ty "bool") (u := .type "bool") (by rfl) T.n_bool (by decide +kernel) rfl) pa_nil)))) (pw_or1 (pt_cmpR op_ne (pe_ix (Cl.ixL K) (pv 0) (pv 2) (fun _ _ => rfl)) (pe_ix (Cl.ixL K) (pv 1) (pv 2) (fun _ _ => rfl)) (nomark _))))))
      (pss_one (ps_ret pe_bl))
      pss_nil)))
      (pss_one (ps_ret pe_bl)))), (zSeq (zIf (tOr' (tNot' (tVal (eIsi (T := .lst) (eVar (i := 0))))) (tTest' (eOp r_ne (eCB1 c_len (eVar (i := 0))) (eCB1 c_len (eVar (i := 1))))))
      (zRet eC)
      zNext)
      (zSeq (zFor (m := m_law_numbers_L1) (wR1 (eCB1 c_len (eVar (i := 1)))) (gNm (i := 2))
      (zIf (tOr' (tNot' (tVal (eIsi (T := .int) (eOp r_ixL (eVar (i := 0)) (eVar (i := 2)))))) (tOr' (tVal (eIsi (T := .bl) (eOp r_ixL (eVar (i := 0)) (eVar (i := 2))))) (tTest' (eOp r_ne (eOp r_ixL (eVar (i := 0)) (eVar (i := 2))) (eOp r_ixL (eVar (i := 1)) (eVar (i := 2)))))))
      (zRet eC)
      zNext))
      (zRet eC)))⟩)


theorem ok_law_pairs (T : Txt K mg) : FnOk PP w K mg base (L2.CX PP w) 2 (He.ga K "_law_pairs") T.fd_law_pairs ["_law_box_here", "_law_truth", "_law_tall"] (spOf K ds_law_pairs) := by
  have G_law_take_2 : FnR PP w K mg base (L2.CX PP w) _ _ _ := (ok_law_take T).raw (b_law_take_2 T).2 (b_law_take_2 T).1
  exact okD (m := m_law_pairs) T.F_law_pairs sc_law_pairs hl_law_pairs hm_law_pairs (fun cdv A outer s H E hr => ⟨_, (pss_cons (ps_set (i := 3) sc_law_pairs.nd rfl (by first | exact Or.inl rfl | exact Or.inr rfl) (pe_lst pa_nil))
      (pss_cons (ps_for (passes_of rfl) rfl (pi_range1 (by rfl) T.n_range (pa_cons (Cl.pe_f G_law_take_2 (hr.mono (by decide)) (by rfl) T.m__law_take T.F_law_take.kp (fun σ => Cl.at_ (takes_of rfl rfl rfl rfl) σ) (pa_cons (pv 0) (pa_cons pe_int pa_nil))) pa_nil)) (pg_name (i := 4) sc_law_pairs.nd rfl (by first | exact Or.inl rfl | exact Or.inr rfl))
      (pss_cons (ps_set (i := 5) sc_law_pairs.nd rfl (by first | exact Or.inl rfl | exact Or.inr rfl) (Cl.pe_f G_law_take_2 (hr.mono (by decide)) (by rfl) T.m__law_take T.F_law_take.kp (fun σ => Cl.at_ (takes_of rfl rfl rfl rfl) σ) (pa_cons (pv 0) (pa_cons (pe_callB (id := "len") (Cl.len K) (by rfl) T.n_len (by decide +kernel) (pa_cons (pv 1) pa_nil)) pa_nil))))
      (pss_cons (ps_set (i := 6) sc_law_pairs.nd rfl (by first | exact Or.inl rfl | exact Or.inr rfl) (pe_op op_sub (pe_op op_add (pe_ix (Cl.ixL K) (pv 1) (pv 5) (fun _ _ => rfl)) (Cl.pe_f G_law_take_2 (hr.mono (by decide)) (by rfl) T.m__law_take T.F_law_take.kp (fun σ => Cl.at_ (takes_of rfl rfl rfl rfl) σ) (pa_cons (pv 0) (pa_cons pe_int pa_nil)))) pe_int))
      (pss_cons (ps_set (i := 7) sc_law_pairs.nd rfl (by first | exact Or.inl rfl | exact Or.inr rfl) (pe_op op_sub (Cl.pe_f G_law_take_2 (hr.mono (by decide)) (by rfl) T.m__law_take T.F_law_take.kp (fun σ => Cl.at_ (takes_of rfl rfl rfl rfl) σ) (pa_cons (pv 0) (pa_cons (pe_op op_add (pv 2) pe_int) pa_nil))) pe_int))
      (pss_one (ps_expr (pe_bm PySem.F.plainAttrs_list PySem.F.slot_list_append PySem.F.type_list_append mt_append (pv 3) (pa_cons (pe_tup (pa_cons (pv 5) (pa_cons (pe_ix (Cl.ixL K) (pe_lst (pa_cons (pv 6) (pa_cons (pv 7) pa_nil))) (Cl.pe_f G_law_take_2 (hr.mono (by decide)) (by rfl) T.m__law_take T.F_law_take.kp (fun σ => Cl.at_ (takes_of rfl rfl rfl rfl) σ) (pa_cons (pv 0) (pa_cons pe_int pa_nil))) (fun _ _ => rfl)) pa_nil))) pa_nil))))))))
      (pss_one (ps_ret (pv 3))))), (zSeq (zAsg (eLst aNil) (gNm (i := 3)))
      (zSeq (zFor (m := m_law_pairs_L1) (wR1 (eTake (i := 0) eC)) (gNm (i := 4))
      (zSeq (zAsg (eTake (i := 0) (eCB1 c_len (eVar (i := 1)))) (gNm (i := 5)))
      (zSeq (zAsg (eOp r_sub (eOp r_add (eOp r_ixL (eVar (i := 1)) (eVar (i := 5))) (eTake (i := 0) eC)) eC) (gNm (i := 6)))
      (zSeq (zAsg (eOp r_sub (eTake (i := 0) (eOp r_add (eVar (i := 2)) eC)) eC) (gNm (i := 7)))
      (zDrop (eApp (i := 3) (eTup (aCons (eVar (i := 5)) (aCons (eOp r_ixL (eFz (eLst (aCons (eVar (i := 6)) (aCons (eVar (i := 7)) aNil)))) (eTake (i := 0) eC)) aNil)))))))))
      (zRet (eVarF (i := 3)))))⟩)

theorem ok_law_many (T : Txt K mg) : FnOk PP w K mg base (L2.CX PP w) 9 (He.ga K "_law_many") T.fd_law_many ["_law_pairs_here", "_law_every"] (spOf K ds_law_many) := by
  have G_AllWithinU_initU : FnR PP w K mg base (L2.CX PP w) _ _ _ := ok_AllWithinU_initU T
  have G_SomeWithinU_initU : FnR PP w K mg base (L2.CX PP w) _ _ _ := ok_SomeWithinU_initU T
  exact okD (m := m_law_many) T.F_law_many sc_law_many hl_law_many hm_law_many (fun cdv A outer s H E hr => ⟨_, (pss_cons (ps_if (pt_cmpR op_eq (pe_callB (id := "len") (Cl.len K) (by rfl) T.n_len (by decide +kernel) (pa_cons (pv 0) pa_nil)) pe_int (nomark _))
      (pss_one (ps_ret (pe_ifExp (pt_val (pv 1)) (Cl.pe_mk0 T.mk_AllWithin G_AllWithinU_initU (hr.mono (by decide)) (by rfl) T.m_AllWithin (fun σ => Cl.at_ (takes_of rfl rfl rfl rfl) σ)) (Cl.pe_mk0 T.mk_SomeWithin G_SomeWithinU_initU (hr.mono (by decide)) (by rfl) T.m_SomeWithin (fun σ => Cl.at_ (takes_of rfl rfl rfl rfl) σ)))))
      pss_nil)
      (pss_cons (ps_if (pt_cmpR op_eq (pe_callB (id := "len") (Cl.len K) (by rfl) T.n_len (by decide +kernel) (pa_cons (pv 0) pa_nil)) pe_int (nomark _))
      (pss_one (ps_ret (pe_ifExp (pt_val (pv 1)) (Cl.pe_mk T.mk_AllWithin G_AllWithinU_initU (hr.mono (by decide)) (by rfl) T.m_AllWithin (fun σ => Cl.at_ (takes_of rfl rfl rfl rfl) σ) (pa_cons (pe_ix (Cl.ixL K) (pv 0) pe_int (fun _ _ => rfl)) pa_nil)) (Cl.pe_mk T.mk_SomeWithin G_SomeWithinU_initU (hr.mono (by decide)) (by rfl) T.m_SomeWithin (fun σ => Cl.at_ (takes_of rfl rfl rfl rfl) σ) (pa_cons (pe_ix (Cl.ixL K) (pv 0) pe_int (fun _ _ => rfl)) pa_nil)))))
      pss_nil)
      (pss_cons (ps_if (pt_cmpR op_eq (pe_callB (id := "len") (Cl.len K) (by rfl) T.n_len (by decide +kernel) (pa_cons (pv 0) pa_nil)) pe_int (nomark _))
      (pss_one (ps_ret (pe_ifExp (pt_val (pv 1)) (Cl.pe_mk T.mk_AllWithin G_AllWithinU_initU (hr.mono (by decide)) (by rfl) T.m_AllWithin (fun σ => Cl.at_ (takes_of rfl rfl rfl rfl) σ) (pa_cons (pe_ix (Cl.ixL K) (pv 0) pe_int (fun _ _ => rfl)) (pa_cons (pe_ix (Cl.ixL K) (pv 0) pe_int (fun _ _ => rfl)) pa_nil))) (Cl.pe_mk T.mk_SomeWithin G_SomeWithinU_initU (hr.mono (by decide)) (by rfl) T.m_SomeWithin (fun σ => Cl.at_ (takes_of rfl rfl rfl rfl) σ) (pa_cons (pe_ix (Cl.ixL K) (pv 0) pe_int (fun _ _ => rfl)) (pa_cons (pe_ix (Cl.ixL K) (pv 0) pe_int (fun _ _ => rfl)) pa_nil))))))
      pss_nil)
      (pss_cons (ps_if (pt_val (pv 1))
      (pss_one (ps_ret (Cl.pe_mk T.mk_AllWithin G_AllWithinU_initU (hr.mono (by decide)) (by rfl) T.m_AllWithin (fun σ => Cl.at_ (takes_of rfl rfl rfl rfl) σ) (pa_cons (pe_ix (Cl.ixL K) (pv 0) pe_int (fun _ _ => rfl)) (pa_cons (pe_ix (Cl.ixL K) (pv 0) pe_int (fun _ _ => rfl)) (pa_cons (pe_ix (Cl.ixL K) (pv 0) pe_int (fun _ _ => rfl)) pa_nil))))))
      pss_nil)
      (pss_one (ps_ret (Cl.pe_mk T.mk_SomeWithin G_SomeWithinU_initU (hr.mono (by decide)) (by rfl) T.m_SomeWithin (fun σ => Cl.at_ (takes_of rfl rfl rfl rfl) σ) (pa_cons (pe_ix (Cl.ixL K) (pv 0) pe_int (fun _ _ => rfl)) (pa_cons (pe_ix (Cl.ixL K) (pv 0) pe_int (fun _ _ => rfl)) (pa_cons (pe_ix (Cl.ixL K) (pv 0) pe_int (fun _ _ => rfl)) pa_nil)))))))))), (zSeq (zIf (tTest' (eOp r_eq (eCB1 c_len (eVar (i := 0))) eC))
      (zRet (eFz (eIf (tVal (eVar (i := 1))) (eFz (eMake (c := 6) bNil (fun _ => .nil))) (eFz (eMake (c := 7) bNil (fun _ => .nil))))))
      zNext)
      (zSeq (zIf (tTest' (eOp r_eq (eCB1 c_len (eVar (i := 0))) eC))
      (zRet (eFz (eIf (tVal (eVar (i := 1))) (eFz (eMake (c := 6) (bCons (eOp r_ixL (eVar (i := 0)) eC) bNil) (fun _ => .nil))) (eFz (eMake (c := 7) (bCons (eOp r_ixL (eVar (i := 0)) eC) bNil) (fun _ => .nil))))))
      zNext)
      (zSeq (zIf (tTest' (eOp r_eq (eCB1 c_len (eVar (i := 0))) eC))
      (zRet (eFz (eIf (tVal (eVar (i := 1))) (eFz (eMake (c := 6) (bCons (eOp r_ixL (eVar (i := 0)) eC) (bCons (eOp r_ixL (eVar (i := 0)) eC) bNil)) (fun _ => .nil))) (eFz (eMake (c := 7) (bCons (eOp r_ixL (eVar (i := 0)) eC) (bCons (eOp r_ixL (eVar (i := 0)) eC) bNil)) (fun _ => .nil))))))
      zNext)
      (zSeq (zIf (tVal (eVar (i := 1)))
      (zRet (eFz (eMake (c := 6) (bCons (eOp r_ixL (eVar (i := 0)) eC) (bCons (eOp r_ixL (eVar (i := 0)) eC) (bCons (eOp r_ixL (eVar (i := 0)) eC) bNil))) (fun _ => .nil))))
      zNext)
      (zRet (eFz (eMake (c := 7) (bCons (eOp r_ixL (eVar (i := 0)) eC) (bCons (eOp r_ixL (eVar (i := 0)) eC) (bCons (eOp r_ixL (eVar (i := 0)) eC) bNil))) (fun _ => .nil))))))))⟩)

theorem ok_law_band (T : Txt K mg) : FnOk PP w K mg base (L2.CX PP w) 8 (He.ga K "_law_band") T.fd_law_band ["_law_place", "_law_cuts"] (spOf K ds_law_band) := by
  have G_BandU_initU : FnR PP w K mg base (L2.CX PP w) _ _ _ := ok_BandU_initU T
  exact okD (m := m_law_band) T.F_law_band sc_law_band hl_law_band hm_law_band (fun cdv A outer s H E hr => ⟨_, (pss_cons (ps_if (pt_cmpR op_eq (pe_callB (id := "len") (Cl.len K) (by rfl) T.n_len (by decide +kernel) (pa_cons (pv 1) pa_nil)) pe_int (nomark _))
      (pss_one (ps_ret (Cl.pe_mk T.mk_Band G_BandU_initU (hr.mono (by decide)) (by rfl) T.m_Band (fun σ => Cl.at_ (takes_of rfl rfl rfl rfl) σ) (pa_cons (pv 0) pa_nil))))
      pss_nil)
      (pss_cons (ps_if (pt_cmpR op_eq (pe_callB (id := "len") (Cl.len K) (by rfl) T.n_len (by decide +kernel) (pa_cons (pv 1) pa_nil)) pe_int (nomark _))
      (pss_one (ps_ret (Cl.pe_mk T.mk_Band G_BandU_initU (hr.mono (by decide)) (by rfl) T.m_Band (fun σ => Cl.at_ (takes_of rfl rfl rfl rfl) σ) (pa_cons (pv 0) (pa_cons (pe_ix (Cl.ixL K) (pv 1) pe_int (fun _ _ => rfl)) pa_nil)))))
      pss_nil)
      (pss_cons (ps_if (pt_cmpR op_eq (pe_callB (id := "len") (Cl.len K) (by rfl) T.n_len (by decide +kernel) (pa_cons (pv 1) pa_nil)) pe_int (nomark _))
      (pss_one (ps_ret (Cl.pe_mk T.mk_Band G_BandU_initU (hr.mono (by decide)) (by rfl) T.m_Band (fun σ => Cl.at_ (takes_of rfl rfl rfl rfl) σ) (pa_cons (pv 0) (pa_cons (pe_ix (Cl.ixL K) (pv 1) pe_int (fun _ _ => rfl)) (pa_cons (pe_ix (Cl.ixL K) (pv 1) pe_int (fun _ _ => rfl)) pa_nil))))))
      pss_nil)
      (pss_one (ps_ret (Cl.pe_mk T.mk_Band G_BandU_initU (hr.mono (by decide)) (by rfl) T.m_Band (fun σ => Cl.at_ (takes_of rfl rfl rfl rfl) σ) (pa_cons (pv 0) (pa_cons (pe_ix (Cl.ixL K) (pv 1) pe_int (fun _ _ => rfl)) (pa_cons (pe_ix (Cl.ixL K) (pv 1) pe_int (fun _ _ => rfl)) (pa_cons (pe_ix (Cl.ixL K) (pv 1) pe_int (fun _ _ => rfl)) pa_nil)))))))))), (zSeq (zIf (tTest' (eOp r_eq (eCB1 c_len (eVar (i := 1))) eC))
      (zRet (eFz (eMake (c := 8) (bCons (eVar (i := 0)) bNil) (fun _ => .nil))))
      zNext)
      (zSeq (zIf (tTest' (eOp r_eq (eCB1 c_len (eVar (i := 1))) eC))
      (zRet (eFz (eMake (c := 8) (bCons (eVar (i := 0)) (bCons (eOp r_ixL (eVar (i := 1)) eC) bNil)) (fun _ => .nil))))
      zNext)
      (zSeq (zIf (tTest' (eOp r_eq (eCB1 c_len (eVar (i := 1))) eC))
      (zRet (eFz (eMake (c := 8) (bCons (eVar (i := 0)) (bCons (eOp r_ixL (eVar (i := 1)) eC) (bCons (eOp r_ixL (eVar (i := 1)) eC) bNil))) (fun _ => .nil))))
      zNext)
      (zRet (eFz (eMake (c := 8) (bCons (eVar (i := 0)) (bCons (eOp r_ixL (eVar (i := 1)) eC) (bCons (eOp r_ixL (eVar (i := 1)) eC) (bCons (eOp r_ixL (eVar (i := 1)) eC) bNil)))) (fun _ => .nil)))))))⟩)

theorem ok_law_single (T : Txt K mg) : FnOk PP w K mg base (L2.CX PP w) 10 (He.ga K "_law_single") T.fd_law_single ["_law_box_here", "_law_truth", "_law_tall"] (spOf K ds_law_single) := by
  obtain ⟨_, b_WishU_initU_1⟩ := b_WishU_initU_1 T
  have G_WishU_initU_1 : FnR PP w K mg base (L2.CX PP w) _ _ _ := (ok_WishU_initU T).raw b_WishU_initU_1.2 b_WishU_initU_1.1
  have G_law_band_2 : FnR PP w K mg base (L2.CX PP w) _ _ _ := (ok_law_band T).raw (b_law_band_2 T).2 (b_law_band_2 T).1
  have G_law_many_2 : FnR PP w K mg base (L2.CX PP w) _ _ _ := (ok_law_many T).raw (b_law_many_2 T).2 (b_law_many_2 T).1
  have G_law_pairs_3 : FnR PP w K mg base (L2.CX PP w) _ _ _ := (ok_law_pairs T).raw (b_law_pairs_3 T).2 (b_law_pairs_3 T).1
  have G_law_take_2 : FnR PP w K mg base (L2.CX PP w) _ _ _ := (ok_law_take T).raw (b_law_take_2 T).2 (b_law_take_2 T).1
  exact okD (m := m_law_single) T.F_law_single sc_law_single hl_law_single hm_law_single (fun cdv A outer s H E hr => ⟨_, (pss_cons (ps_set (i := 3) sc_law_single.nd rfl (by first | exact Or.inl rfl | exact Or.inr rfl) (Cl.pe_f G_law_take_2 (hr.mono (by decide)) (by rfl) T.m__law_take T.F_law_take.kp (fun σ => Cl.at_ (takes_of rfl rfl rfl rfl) σ) (pa_cons (pv 0) (pa_cons pe_int pa_nil))))
      (pss_cons (ps_if (pt_cmpR op_eq (pv 3) pe_int (nomark _))
      (pss_one (ps_ret (pe_tup (pa_cons (Cl.pe_mk0 T.mk_Wish G_WishU_initU_1 (hr.mono (by decide)) (by rfl) T.m_Wish (fun σ => Cl.at_ (takes_of rfl rfl rfl rfl) σ)) (pa_cons (pe_tup (pa_cons pe_str pa_nil)) pa_nil)))))
      pss_nil)
      (pss_cons (ps_if (pt_cmpR op_lt (pv 3) pe_int (nomark _))
      (pss_cons (ps_set (i := 4) sc_law_single.nd rfl (by first | exact Or.inl rfl | exact Or.inr rfl) (Cl.pe_f G_law_pairs_3 (hr.mono (by decide)) (by rfl) T.m__law_pairs T.F_law_pairs.kp (fun σ => Cl.at_ (takes_of rfl rfl rfl rfl) σ) (pa_cons (pv 0) (pa_cons (pv 1) (pa_cons (pv 2) pa_nil)))))
      (pss_one (ps_ret (pe_tup (pa_cons (Cl.pe_f G_law_many_2 (hr.mono (by decide)) (by rfl) T.m__law_many T.F_law_many.kp (fun σ => Cl.at_ (takes_of rfl rfl rfl rfl) σ) (pa_cons (pv 4) (pa_cons (pe_cmpR op_eq (pv 3) pe_int (nomark _)) pa_nil))) (pa_cons (pe_tup (pa_cons (pe_ix (Cl.ixL K) (pe_lst (pa_cons pe_str (pa_cons pe_str (pa_cons pe_str pa_nil)))) (pv 3) (fun _ _ => rfl)) (pa_cons (pv 4) pa_nil))) pa_nil))))))
      pss_nil)
      (pss_cons (ps_set (i := 5) sc_law_single.nd rfl (by first | exact Or.inl rfl | exact Or.inr rfl) (Cl.pe_f G_law_take_2 (hr.mono (by decide)) (by rfl) T.m__law_take T.F_law_take.kp (fun σ => Cl.at_ (takes_of rfl rfl rfl rfl) σ) (pa_cons (pv 0) (pa_cons (pe_callB (id := "len") (Cl.len K) (by rfl) T.n_len (by decide +kernel) (pa_cons (pv 1) pa_nil)) pa_nil))))
      (pss_cons (ps_set (i := 6) sc_law_single.nd rfl (by first | exact Or.inl rfl | exact Or.inr rfl) (pe_op op_sub (pe_op op_add (pe_ix (Cl.ixL K) (pv 1) (pv 5) (fun _ _ => rfl)) (Cl.pe_f G_law_take_2 (hr.mono (by decide)) (by rfl) T.m__law_take T.F_law_take.kp (fun σ => Cl.at_ (takes_of rfl rfl rfl rfl) σ) (pa_cons (pv 0) (pa_cons pe_int pa_nil)))) pe_int))
      (pss_cons (ps_set (i := 7) sc_law_single.nd rfl (by first | exact Or.inl rfl | exact Or.inr rfl) (pe_lst pa_nil))
      (pss_cons (ps_for (passes_of rfl) rfl (pi_range1 (by rfl) T.n_range (pa_cons (Cl.pe_f G_law_take_2 (hr.mono (by decide)) (by rfl) T.m__law_take T.F_law_take.kp (fun σ => Cl.at_ (takes_of rfl rfl rfl rfl) σ) (pa_cons (pv 0) (pa_cons pe_int pa_nil))) pa_nil)) (pg_name (i := 8) sc_law_single.nd rfl (by first | exact Or.inl rfl | exact Or.inr rfl))
      (pss_cons (ps_expr (pe_bm PySem.F.plainAttrs_list PySem.F.slot_list_append PySem.F.type_list_append mt_append (pv 7) (pa_cons (pv 6) pa_nil)))
      (pss_one (ps_set (i := 6) sc_law_single.nd rfl (by first | exact Or.inl rfl | exact Or.inr rfl) (pe_op op_add (pe_op op_add (pv 6) pe_int) (Cl.pe_f G_law_take_2 (hr.mono (by decide)) (by rfl) T.m__law_take T.F_law_take.kp (fun σ => Cl.at_ (takes_of rfl rfl rfl rfl) σ) (pa_cons (pv 0) (pa_cons pe_int pa_nil))))))))
      (pss_one (ps_ret (pe_tup (pa_cons (Cl.pe_f G_law_band_2 (hr.mono (by decide)) (by rfl) T.m__law_band T.F_law_band.kp (fun σ => Cl.at_ (takes_of rfl rfl rfl rfl) σ) (pa_cons (pv 5) (pa_cons (pv 7) pa_nil))) (pa_cons (pe_tup (pa_cons pe_str (pa_cons (pv 5) (pa_cons (pv 7) pa_nil)))) pa_nil)))))))))))), (zSeq (zAsg (eTake (i := 0) eC) (gNm (i := 3)))
      (zSeq (zIf (tTest' (eOp r_eq (eVar (i := 3)) eC))
      (zRet (eTup (aCons (eFz (eMake (c := 5) bNil (fun _ => (.cons (.int 1) .nil)))) (aCons (eTup (aCons eC aNil)) aNil))))
      zNext)
      (zSeq (zIf (tTest' (eOp r_lt (eVar (i := 3)) eC))
      (zSeq (zAsg (eCall (bLent (i := 0) (bCons (eVar (i := 1)) (bCons (eVar (i := 2)) bNil))) (fun _ => .nil)) (gNm (i := 4)))
      (zRet (eTup (aCons (eCall (bCons (eVar (i := 4)) (bCons (eOp r_eq (eVar (i := 3)) eC) bNil)) (fun _ => .nil)) (aCons (eTup (aCons (eOp r_ixL (eFz (eLst (aCons eC (aCons eC (aCons eC aNil))))) (eVar (i := 3))) (aCons (eVar (i := 4)) aNil))) aNil)))))
      zNext)
      (zSeq (zAsg (eTake (i := 0) (eCB1 c_len (eVar (i := 1)))) (gNm (i := 5)))
      (zSeq (zAsg (eOp r_sub (eOp r_add (eOp r_ixL (eVar (i := 1)) (eVar (i := 5))) (eTake (i := 0) eC)) eC) (gNm (i := 6)))
      (zSeq (zAsg (eLst aNil) (gNm (i := 7)))
      (zSeq (zFor (m := m_law_single_L1) (wR1 (eTake (i := 0) eC)) (gNm (i := 8))
      (zSeq (zDrop (eApp (i := 7) (eVar (i := 6))))
      (zAsg (eOp r_add (eOp r_add (eVar (i := 6)) eC) (eTake (i := 0) eC)) (gNm (i := 6)))))
      (zRet (eTup (aCons (eCall (bCons (eVar (i := 5)) (bCons (eVarF (i := 7)) bNil)) (fun _ => .nil)) (aCons (eTup (aCons eC (aCons (eVar (i := 5)) (aCons (eVarF (i := 7)) aNil)))) aNil)))))))))))⟩)

theorem ok_law_wish (T : Txt K mg) : FnOk PP w K mg base (L2.CX PP w) 11 (He.ga K "_law_wish") T.fd_law_wish ["_law_box_here", "_law_truth", "_law_tall"] (spOf K ds_law_wish) := by
  have G_WishU_andU_2 : FnR PP w K mg base (L2.CX PP w) _ _ _ := (ok_WishU_andU T).raw (b_WishU_andU_2 T).2 (b_WishU_andU_2 T).1
  have G_law_single_3 : FnR PP w K mg base (L2.CX PP w) _ _ _ := (ok_law_single T).raw (b_law_single_3 T).2 (b_law_single_3 T).1
  have G_law_take_2 : FnR PP w K mg base (L2.CX PP w) _ _ _ := (ok_law_take T).raw (b_law_take_2 T).2 (b_law_take_2 T).1
  exact okD (m := m_law_wish) T.F_law_wish sc_law_wish hl_law_wish hm_law_wish (fun cdv A outer s H E hr => ⟨_, (pss_cons (ps_set (i := 3) sc_law_wish.nd rfl (by first | exact Or.inl rfl | exact Or.inr rfl) (Cl.pe_f G_law_single_3 (hr.mono (by decide)) (by rfl) T.m__law_single T.F_law_single.kp (fun σ => Cl.at_ (takes_of rfl rfl rfl rfl) σ) (pa_cons (pv 0) (pa_cons (pv 1) (pa_cons (pv 2) pa_nil)))))
      (pss_cons (ps_if (pt_cmpR op_eq (Cl.pe_f G_law_take_2 (hr.mono (by decide)) (by rfl) T.m__law_take T.F_law_take.kp (fun σ => Cl.at_ (takes_of rfl rfl rfl rfl) σ) (pa_cons (pv 0) (pa_cons pe_int pa_nil))) pe_int (nomark _))
      (pss_cons (ps_set (i := 4) sc_law_wish.nd rfl (by first | exact Or.inl rfl | exact Or.inr rfl) (Cl.pe_f G_law_single_3 (hr.mono (by decide)) (by rfl) T.m__law_single T.F_law_single.kp (fun σ => Cl.at_ (takes_of rfl rfl rfl rfl) σ) (pa_cons (pv 0) (pa_cons (pv 1) (pa_cons (pv 2) pa_nil)))))
      (pss_one (ps_ret (pe_tup (pa_cons (AndX.pe_binP T.kin_Wish (by rfl) G_WishU_andU_2 (hr.mono (by decide)) (fun σ => Cl.at_ (takes_of rfl rfl rfl rfl) σ) (pe_ix (Cl.ixT K) (pv 3) pe_int (fun _ _ => rfl)) (pe_ix (Cl.ixT K) (pv 4) pe_int (fun _ _ => rfl))) (pa_cons (pe_tup (pa_cons pe_str (pa_cons (pe_ix (Cl.ixT K) (pv 3) pe_int (fun _ _ => rfl)) (pa_cons (pe_ix (Cl.ixT K) (pv 4) pe_int (fun _ _ => rfl)) pa_nil)))) pa_nil))))))
      pss_nil)
      (pss_one (ps_ret (pv 3))))), (zSeq (zAsg (eCall (bLent (i := 0) (bCons (eVar (i := 1)) (bCons (eVar (i := 2)) bNil))) (fun _ => .nil)) (gNm (i := 3)))
      (zSeq (zIf (tTest' (eOp r_eq (eTake (i := 0) eC) eC))
      (zSeq (zAsg (eCall (bLent (i := 0) (bCons (eVar (i := 1)) (bCons (eVar (i := 2)) bNil))) (fun _ => .nil)) (gNm (i := 4)))
      (zRet (eTup (aCons (eBinP (cs := [5, 6, 7, 8, 9]) (eOp r_ixT (eVar (i := 3)) eC) (eOp r_ixT (eVar (i := 4)) eC)) (aCons (eTup (aCons eC (aCons (eOp r_ixT (eVar (i := 3)) eC) (aCons (eOp r_ixT (eVar (i := 4)) eC) aNil)))) aNil)))))
      zNext)
      (zRet (eVar (i := 3)))))⟩)

theorem ok_law_size (n : Nat) (T : Txt K mg) : FnOk PP w K mg base (L2.CX PP w) (n + 1) (He.ga K "_law_size") T.fd_law_size ["_law_spec"] (spOf K (ds_law_size n)) := by
  induction n with
  | zero => rw [ds0_law_size]; exact okStuck T.F_law_size sc_law_size
  | succ n ih =>
    have G_law_size_1 : FnR PP w K mg base (L2.CX PP w) _ _ _ := ((fun _ => ih) T).raw (b_law_size_1 T).2 (b_law_size_1 T).1
    exact okD (m := m_law_size (ds_law_size n)) T.F_law_size sc_law_size (hl_law_size n) (hm_law_size n) (fun cdv A outer s H E hr => ⟨_, (pss_cons (ps_if (pt_cmpR op_eq (pe_ix (Cl.ixT K) (pv 0) pe_int (fun _ _ => rfl)) pe_str (nomark _))
      (pss_one (ps_ret (pe_op op_mulX (Cl.pe_f G_law_size_1 (hr.mono (by omega)) (by rfl) T.m__law_size T.F_law_size.kp (fun σ => Cl.at_ (takes_of rfl rfl rfl rfl) σ) (pa_cons (pe_ix (Cl.ixT K) (pv 0) pe_int (fun _ _ => rfl)) pa_nil)) (Cl.pe_f G_law_size_1 (hr.mono (by omega)) (by rfl) T.m__law_size T.F_law_size.kp (fun σ => Cl.at_ (takes_of rfl rfl rfl rfl) σ) (pa_cons (pe_ix (Cl.ixT K) (pv 0) pe_int (fun _ _ => rfl)) pa_nil)))))
      pss_nil)
      (pss_cons (ps_if (pt_cmpR op_eq (pe_ix (Cl.ixT K) (pv 0) pe_int (fun _ _ => rfl)) pe_str (nomark _))
      (pss_one (ps_ret pe_int))
      pss_nil)
      (pss_cons (ps_if (pt_cmpR op_eq (pe_ix (Cl.ixT K) (pv 0) pe_int (fun _ _ => rfl)) pe_str (nomark _))
      (pss_one (ps_ret (pe_op op_add (pe_callB (id := "len") (Cl.len K) (by rfl) T.n_len (by decide +kernel) (pa_cons (pe_ix (Cl.ixT K) (pv 0) pe_int (fun _ _ => rfl)) pa_nil)) pe_int)))
      pss_nil)
      (pss_one (ps_ret pe_int))))), (zSeq (zIf (tTest' (eOp r_eq (eOp r_ixT (eVar (i := 0)) eC) eC))
      (zRet (eOp r_I (eCall (bCons (eOp r_ixT (eVar (i := 0)) eC) bNil) (fun _ => .nil)) (eCall (bCons (eOp r_ixT (eVar (i := 0)) eC) bNil) (fun _ => .nil))))
      zNext)
      (zSeq (zIf (tTest' (eOp r_eq (eOp r_ixT (eVar (i := 0)) eC) eC))
      (zRet eC)
      zNext)
      (zSeq (zIf (tTest' (eOp r_eq (eOp r_ixT (eVar (i := 0)) eC) eC))
      (zRet (eOp r_add (eCB1 c_len (eOp r_ixT (eVar (i := 0)) eC)) eC))
      zNext)
      (zRet eC))))⟩)
theorem okd_law_size (T : Txt K mg) : FnOk PP w K mg base (L2.CX PP w) (4 + 1) (He.ga K "_law_size") T.fd_law_size ["_law_spec"] (spOf K dd_law_size) := by rw [dd_law_size_eq]; exact ok_law_size 4 T

theorem ok_law_answer (n : Nat) (T : Txt K mg) : FnOk PP w K mg base (L2.CX PP w) (n + 6) (He.ga K "_law_answer") T.fd_law_answer ["_law_spec", "_law_heights"] (spOf K (ds_law_answer n)) := by
  induction n with
  | zero => rw [ds0_law_answer]; exact okStuck T.F_law_answer sc_law_answer
  | succ n ih =>
    have G_law_answer_2 : FnR PP w K mg base (L2.CX PP w) _ _ _ := ((fun _ => ih) T).raw (b_law_answer_2 T).2 (b_law_answer_2 T).1
    have G_law_size_1 : FnR PP w K mg base (L2.CX PP w) _ _ _ := (okd_law_size T).raw (b_law_size_1 T).2 (b_law_size_1 T).1
    exact okD (m := m_law_answer (ds_law_answer n)) T.F_law_answer sc_law_answer (hl_law_answer n) (hm_law_answer n) (fun cdv A outer s H E hr => ⟨_, (pss_cons (ps_if (pt_cmpR op_eq (pe_ix (Cl.ixT K) (pv 0) pe_int (fun _ _ => rfl)) pe_str (nomark _))
      (pss_cons (ps_set (i := 2) sc_law_answer.nd rfl (by first | exact Or.inl rfl | exact Or.inr rfl) (Cl.pe_f G_law_answer_2 (hr.mono (by omega)) (by rfl) T.m__law_answer T.F_law_answer.kp (fun σ => Cl.at_ (takes_of rfl rfl rfl rfl) σ) (pa_cons (pe_ix (Cl.ixT K) (pv 0) pe_int (fun _ _ => rfl)) (pa_cons (pv 1) pa_nil))))
      (pss_one (ps_ret (pe_op op_add (pe_op op_mulX (pv 2) (Cl.pe_f G_law_size_1 (hr.mono (by omega)) (by rfl) T.m__law_size T.F_law_size.kp (fun σ => Cl.at_ (takes_of rfl rfl rfl rfl) σ) (pa_cons (pe_ix (Cl.ixT K) (pv 0) pe_int (fun _ _ => rfl)) pa_nil))) (Cl.pe_f G_law_answer_2 (hr.mono (by omega)) (by rfl) T.m__law_answer T.F_law_answer.kp (fun σ => Cl.at_ (takes_of rfl rfl rfl rfl) σ) (pa_cons (pe_ix (Cl.ixT K) (pv 0) pe_int (fun _ _ => rfl)) (pa_cons (pv 1) pa_nil)))))))
      pss_nil)
      (pss_cons (ps_if (pt_cmpR op_eq (pe_ix (Cl.ixT K) (pv 0) pe_int (fun _ _ => rfl)) pe_str (nomark _))
      (pss_one (ps_ret pe_int))
      pss_nil)
      (pss_cons (ps_if (pt_cmpR op_eq (pe_ix (Cl.ixT K) (pv 0) pe_int (fun _ _ => rfl)) pe_str (nomark _))
      (pss_one (ps_ret (pe_callB (id := "len") (Cl.len K) (by rfl) T.n_len (by decide +kernel) (pa_cons (pe_lc (own := [("_law_cut", 3)]) rfl sc_law_answer.nd (Cl.piL K (pe_ix (Cl.ixT K) (pv 0) pe_int (fun _ _ => rfl))) (blkOk_by (N := ["_law_spec", "_law_heights", "_law_first", "_law_cut", "_law_pair", "_law_kept"]) (sc := defScope s_law_answer) (by decide +kernel)) (fun _ _ _ _ _ => (pg_name (i := 3) sc_law_answer.nd rfl (by first | exact Or.inl rfl | exact Or.inr rfl))) (fun _ _ _ _ _ => (pts_one (pt_cmpR op_lt (pv 3) (pe_ix (Cl.ixL K) (pv 1) (pe_ix (Cl.ixT K) (pv 0) pe_int (fun _ _ => rfl)) (fun _ _ => rfl)) (nomark _)))) (fun _ _ _ _ _ => (pv 3))) pa_nil))))
      pss_nil)
      (pss_cons (ps_setLc (i := 5) (own := [("_law_pair", 4)]) rfl sc_law_answer.nd rfl rfl (sw_true rfl rfl rfl (by decide +kernel)) (Cl.piL K (pe_ix (Cl.ixT K) (pv 0) pe_int (fun _ _ => rfl))) (blkOk_by (N := ["_law_spec", "_law_heights", "_law_first", "_law_cut", "_law_pair", "_law_kept"]) (sc := defScope s_law_answer) (by decide +kernel)) (fun _ _ _ _ _ => (pg_name (i := 4) sc_law_answer.nd rfl (by first | exact Or.inl rfl | exact Or.inr rfl))) (fun _ _ _ _ _ => (pts_one (pt_cmpR op_le (pe_ix (Cl.ixL K) (pv 1) (pe_ix (Cl.ixT K) (pv 4) pe_int (fun _ _ => rfl)) (fun _ _ => rfl)) (pe_ix (Cl.ixT K) (pv 4) pe_int (fun _ _ => rfl)) (nomark _)))) (fun _ _ _ _ _ => (pv 4)))
      (pss_cons (ps_if (pt_cmpR op_eq (pe_ix (Cl.ixT K) (pv 0) pe_int (fun _ _ => rfl)) pe_str (nomark _))
      (pss_one (ps_ret (pe_callTy (T := "int") Cl.intB (by rfl) T.n_int (by decide +kernel) (pa_cons (pe_cmpR op_eq (pe_callB (id := "len") (Cl.len K) (by rfl) T.n_len (by decide +kernel) (pa_cons (pv 5) pa_nil)) (pe_callB (id := "len") (Cl.len K) (by rfl) T.n_len (by decide +kernel) (pa_cons (pe_ix (Cl.ixT K) (pv 0) pe_int (fun _ _ => rfl)) pa_nil)) (nomark _)) pa_nil))))
      pss_nil)
      (pss_one (ps_ret (pe_callTy (T := "int") Cl.intB (by rfl) T.n_int (by decide +kernel) (pa_cons (pe_cmpR op_gt (pe_callB (id := "len") (Cl.len K) (by rfl) T.n_len (by decide +kernel) (pa_cons (pv 5) pa_nil)) pe_int (nomark _)) pa_nil))))))))), (zSeq (zIf (tTest' (eOp r_eq (eOp r_ixT (eVar (i := 0)) eC) eC))
      (zSeq (zAsg (eCall (bCons (eOp r_ixT (eVar (i := 0)) eC) (bCons (eVar (i := 1)) bNil)) (fun _ => .nil)) (gNm (i := 2)))
      (zRet (eOp r_add (eOp r_I (eVar (i := 2)) (eCall (bCons (eOp r_ixT (eVar (i := 0)) eC) bNil) (fun _ => .nil))) (eCall (bCons (eOp r_ixT (eVar (i := 0)) eC) (bCons (eVar (i := 1)) bNil)) (fun _ => .nil)))))
      zNext)
      (zSeq (zIf (tTest' (eOp r_eq (eOp r_ixT (eVar (i := 0)) eC) eC))
      (zRet eC)
      zNext)
      (zSeq (zIf (tTest' (eOp r_eq (eOp r_ixT (eVar (i := 0)) eC) eC))
      (zRet (eCB1 c_len (eFz (eLc0 (wList (eOp r_ixT (eVar (i := 0)) eC)) (gw_name (by decide)) gm_name (gNm (i := 3)) (tTest' (eOp r_lt (eVar (i := 3)) (eOp r_ixL (eVar (i := 1)) (eOp r_ixT (eVar (i := 0)) eC)))) (eVar (i := 3))))))
      zNext)
      (zSeq (zAsg (eFz (eLc0 (wList (eOp r_ixT (eVar (i := 0)) eC)) (gw_name (by decide)) gm_name (gNm (i := 4)) (tTest' (eOp r_le (eOp r_ixL (eVar (i := 1)) (eOp r_ixT (eVar (i := 4)) eC)) (eOp r_ixT (eVar (i := 4)) eC))) (eVar (i := 4)))) (gNm (i := 5)))
      (zSeq (zIf (tTest' (eOp r_eq (eOp r_ixT (eVar (i := 0)) eC) eC))
      (zRet (eCB1 c_intB (eOp r_eq (eCB1 c_len (eVar (i := 5))) (eCB1 c_len (eOp r_ixT (eVar (i := 0)) eC)))))
      zNext)
      (zRet (eCB1 c_intB (eOp r_gt (eCB1 c_len (eVar (i := 5))) eC))))))))⟩)
theorem okd_law_answer (T : Txt K mg) : FnOk PP w K mg base (L2.CX PP w) (4 + 6) (He.ga K "_law_answer") T.fd_law_answer ["_law_spec", "_law_heights"] (spOf K dd_law_answer) := by rw [dd_law_answer_eq]; exact ok_law_answer 4 T

theorem ok_law_places (n : Nat) (T : Txt K mg) : FnOk PP w K mg base (L2.CX PP w) (n + 1) (He.ga K "_law_places") T.fd_law_places ["_law_spec"] (spOf K (ds_law_places n)) := by
  induction n with
  | zero => rw [ds0_law_places]; exact okStuck T.F_law_places sc_law_places
  | succ n ih =>
    have G_law_places_1 : FnR PP w K mg base (L2.CX PP w) _ _ _ := ((fun _ => ih) T).raw (b_law_places_1 T).2 (b_law_places_1 T).1
    exact okD (m := m_law_places (ds_law_places n)) T.F_law_places sc_law_places (hl_law_places n) (hm_law_places n) (fun cdv A outer s H E hr => ⟨_, (pss_cons (ps_if (pt_cmpR op_eq (pe_ix (Cl.ixT K) (pv 0) pe_int (fun _ _ => rfl)) pe_str (nomark _))
      (pss_one (ps_ret (pe_op op_cat (Cl.pe_f G_law_places_1 (hr.mono (by omega)) (by rfl) T.m__law_places T.F_law_places.kp (fun σ => Cl.at_ (takes_of rfl rfl rfl rfl) σ) (pa_cons (pe_ix (Cl.ixT K) (pv 0) pe_int (fun _ _ => rfl)) pa_nil)) (Cl.pe_f G_law_places_1 (hr.mono (by omega)) (by rfl) T.m__law_places T.F_law_places.kp (fun σ => Cl.at_ (takes_of rfl rfl rfl rfl) σ) (pa_cons (pe_ix (Cl.ixT K) (pv 0) pe_int (fun _ _ => rfl)) pa_nil)))))
      pss_nil)
      (pss_cons (ps_if (pt_cmpR op_eq (pe_ix (Cl.ixT K) (pv 0) pe_int (fun _ _ => rfl)) pe_str (nomark _))
      (pss_one (ps_ret (pe_lst pa_nil)))
      pss_nil)
      (pss_cons (ps_if (pt_cmpR op_eq (pe_ix (Cl.ixT K) (pv 0) pe_int (fun _ _ => rfl)) pe_str (nomark _))
      (pss_one (ps_ret (pe_lst (pa_cons (pe_ix (Cl.ixT K) (pv 0) pe_int (fun _ _ => rfl)) pa_nil))))
      pss_nil)
      (pss_one (ps_ret (pe_lc (own := [("_law_pair", 1)]) rfl sc_law_places.nd (Cl.piL K (pe_ix (Cl.ixT K) (pv 0) pe_int (fun _ _ => rfl))) (blkOk_by (N := ["_law_spec", "_law_pair"]) (sc := defScope s_law_places) (by decide +kernel)) (fun _ _ _ _ _ => (pg_name (i := 1) sc_law_places.nd rfl (by first | exact Or.inl rfl | exact Or.inr rfl))) (fun _ _ _ _ _ => pts_nil) (fun _ _ _ _ _ => (pe_ix (Cl.ixT K) (pv 1) pe_int (fun _ _ => rfl))))))))), (zSeq (zIf (tTest' (eOp r_eq (eOp r_ixT (eVar (i := 0)) eC) eC))
      (zRet (eFz (eOp r_cat (eCall (bCons (eOp r_ixT (eVar (i := 0)) eC) bNil) (fun _ => .nil)) (eCall (bCons (eOp r_ixT (eVar (i := 0)) eC) bNil) (fun _ => .nil)))))
      zNext)
      (zSeq (zIf (tTest' (eOp r_eq (eOp r_ixT (eVar (i := 0)) eC) eC))
      (zRet (eFz (eLst aNil)))
      zNext)
      (zSeq (zIf (tTest' (eOp r_eq (eOp r_ixT (eVar (i := 0)) eC) eC))
      (zRet (eFz (eLst (aCons (eOp r_ixT (eVar (i := 0)) eC) aNil))))
      zNext)
      (zRet (eFz (eLc0 (wList (eOp r_ixT (eVar (i := 0)) eC)) (gw_name (by decide)) gm_name (gNm (i := 1)) tYes' (eOp r_ixT (eVar (i := 1)) eC)))))))⟩)
theorem okd_law_places (T : Txt K mg) : FnOk PP w K mg base (L2.CX PP w) (4 + 1) (He.ga K "_law_places") T.fd_law_places ["_law_spec"] (spOf K dd_law_places) := by rw [dd_law_places_eq]; exact ok_law_places 4 T


theorem ok_law_eight (T : Txt K mg) : FnOk PP w K mg base (L2.CX PP w) 9 (He.ga K "_law_eight") T.fd_law_eight ["_law_box_here", "_law_truth"] (spOf K ds_law_eight) := by
  have G_AllWithinU_initU : FnR PP w K mg base (L2.CX PP w) _ _ _ := ok_AllWithinU_initU T
  have G_BandU_initU : FnR PP w K mg base (L2.CX PP w) _ _ _ := ok_BandU_initU T
  have G_SomeWithinU_initU : FnR PP w K mg base (L2.CX PP w) _ _ _ := ok_SomeWithinU_initU T
  have G_law_take_2 : FnR PP w K mg base (L2.CX PP w) _ _ _ := (ok_law_take T).raw (b_law_take_2 T).2 (b_law_take_2 T).1
  exact okD (m := m_law_eight) T.F_law_eight sc_law_eight hl_law_eight hm_law_eight (fun cdv A outer s H E hr => ⟨_, (pss_cons (ps_set (i := 2) sc_law_eight.nd rfl (by first | exact Or.inl rfl | exact Or.inr rfl) (pe_lst pa_nil))
      (pss_cons (ps_set (i := 3) sc_law_eight.nd rfl (by first | exact Or.inl rfl | exact Or.inr rfl) (pe_lst pa_nil))
      (pss_cons (ps_set (i := 4) sc_law_eight.nd rfl (by first | exact Or.inl rfl | exact Or.inr rfl) (pe_op op_sub (pe_ix (Cl.ixL K) (pv 1) pe_int (fun _ _ => rfl)) pe_int))
      (pss_cons (ps_for (passes_of rfl) rfl (pi_range1 (by rfl) T.n_range (pa_cons pe_int pa_nil)) (pg_name (i := 5) sc_law_eight.nd rfl (by first | exact Or.inl rfl | exact Or.inr rfl))
      (pss_cons (ps_set (i := 6) sc_law_eight.nd rfl (by first | exact Or.inl rfl | exact Or.inr rfl) (Cl.pe_f G_law_take_2 (hr.mono (by decide)) (by rfl) T.m__law_take T.F_law_take.kp (fun σ => Cl.at_ (takes_of rfl rfl rfl rfl) σ) (pa_cons (pv 0) (pa_cons (pe_callB (id := "len") (Cl.len K) (by rfl) T.n_len (by decide +kernel) (pa_cons (pv 1) pa_nil)) pa_nil))))
      (pss_cons (ps_expr (pe_bm PySem.F.plainAttrs_list PySem.F.slot_list_append PySem.F.type_list_append mt_append (pv 2) (pa_cons (pe_tup (pa_cons (pv 6) (pa_cons (pe_op op_add (pe_ix (Cl.ixL K) (pv 1) (pv 6) (fun _ _ => rfl)) (Cl.pe_f G_law_take_2 (hr.mono (by decide)) (by rfl) T.m__law_take T.F_law_take.kp (fun σ => Cl.at_ (takes_of rfl rfl rfl rfl) σ) (pa_cons (pv 0) (pa_cons pe_int pa_nil)))) pa_nil))) pa_nil)))
      (pss_cons (ps_expr (pe_bm PySem.F.plainAttrs_list PySem.F.slot_list_append PySem.F.type_list_append mt_append (pv 3) (pa_cons (pv 4) pa_nil)))
      (pss_one (ps_set (i := 4) sc_law_eight.nd rfl (by first | exact Or.inl rfl | exact Or.inr rfl) (pe_op op_add (pe_op op_add (pv 4) pe_int) (Cl.pe_f G_law_take_2 (hr.mono (by decide)) (by rfl) T.m__law_take T.F_law_take.kp (fun σ => Cl.at_ (takes_of rfl rfl rfl rfl) σ) (pa_cons (pv 0) (pa_cons pe_int pa_nil))))))))))
      (pss_cons (ps_asg (pe_slice (Cl.slL K) (pv 2) po_none (po_some pe_int)) (Cl.pgU K (n := 4) (pgs_cons (pg_name (i := 7) sc_law_eight.nd rfl (by first | exact Or.inl rfl | exact Or.inr rfl)) (pgs_cons (pg_name (i := 8) sc_law_eight.nd rfl (by first | exact Or.inl rfl | exact Or.inr rfl)) (pgs_cons (pg_name (i := 9) sc_law_eight.nd rfl (by first | exact Or.inl rfl | exact Or.inr rfl)) (pgs_cons (pg_name (i := 10) sc_law_eight.nd rfl (by first | exact Or.inl rfl | exact Or.inr rfl)) pgs_nil))))))
      (pss_cons (ps_asg (pe_slice (Cl.slL K) (pv 2) (po_some pe_int) po_none) (Cl.pgU K (n := 4) (pgs_cons (pg_name (i := 11) sc_law_eight.nd rfl (by first | exact Or.inl rfl | exact Or.inr rfl)) (pgs_cons (pg_name (i := 12) sc_law_eight.nd rfl (by first | exact Or.inl rfl | exact Or.inr rfl)) (pgs_cons (pg_name (i := 13) sc_law_eight.nd rfl (by first | exact Or.inl rfl | exact Or.inr rfl)) (pgs_cons (pg_name (i := 14) sc_law_eight.nd rfl (by first | exact Or.inl rfl | exact Or.inr rfl)) pgs_nil))))))
      (pss_cons (ps_set (i := 15) sc_law_eight.nd rfl (by first | exact Or.inl rfl | exact Or.inr rfl) (Cl.pe_mk T.mk_AllWithin G_AllWithinU_initU (hr.mono (by decide)) (by rfl) T.m_AllWithin (fun σ => Cl.at_ (takes_of rfl rfl rfl rfl) σ) (pa_cons (pv 7) (pa_cons (pv 8) (pa_cons (pv 9) (pa_cons (pv 10) (pa_cons (pv 11) (pa_cons (pv 12) (pa_cons (pv 13) (pa_cons (pv 14) pa_nil))))))))))
      (pss_cons (ps_set (i := 16) sc_law_eight.nd rfl (by first | exact Or.inl rfl | exact Or.inr rfl) (Cl.pe_mk T.mk_SomeWithin G_SomeWithinU_initU (hr.mono (by decide)) (by rfl) T.m_SomeWithin (fun σ => Cl.at_ (takes_of rfl rfl rfl rfl) σ) (pa_cons (pv 7) (pa_cons (pv 8) (pa_cons (pv 9) (pa_cons (pv 10) (pa_cons (pv 11) (pa_cons (pv 12) (pa_cons (pv 13) (pa_cons (pv 14) pa_nil))))))))))
      (pss_cons (ps_asg (pe_slice (Cl.slL K) (pv 3) po_none (po_some pe_int)) (Cl.pgU K (n := 4) (pgs_cons (pg_name (i := 7) sc_law_eight.nd rfl (by first | exact Or.inl rfl | exact Or.inr rfl)) (pgs_cons (pg_name (i := 8) sc_law_eight.nd rfl (by first | exact Or.inl rfl | exact Or.inr rfl)) (pgs_cons (pg_name (i := 9) sc_law_eight.nd rfl (by first | exact Or.inl rfl | exact Or.inr rfl)) (pgs_cons (pg_name (i := 10) sc_law_eight.nd rfl (by first | exact Or.inl rfl | exact Or.inr rfl)) pgs_nil))))))
      (pss_cons (ps_asg (pe_slice (Cl.slL K) (pv 3) (po_some pe_int) po_none) (Cl.pgU K (n := 4) (pgs_cons (pg_name (i := 11) sc_law_eight.nd rfl (by first | exact Or.inl rfl | exact Or.inr rfl)) (pgs_cons (pg_name (i := 12) sc_law_eight.nd rfl (by first | exact Or.inl rfl | exact Or.inr rfl)) (pgs_cons (pg_name (i := 13) sc_law_eight.nd rfl (by first | exact Or.inl rfl | exact Or.inr rfl)) (pgs_cons (pg_name (i := 14) sc_law_eight.nd rfl (by first | exact Or.inl rfl | exact Or.inr rfl)) pgs_nil))))))
      (pss_cons (ps_set (i := 17) sc_law_eight.nd rfl (by first | exact Or.inl rfl | exact Or.inr rfl) (Cl.pe_mk T.mk_Band G_BandU_initU (hr.mono (by decide)) (by rfl) T.m_Band (fun σ => Cl.at_ (takes_of rfl rfl rfl rfl) σ) (pa_cons pe_int (pa_cons (pv 7) (pa_cons (pv 8) (pa_cons (pv 9) (pa_cons (pv 10) (pa_cons (pv 11) (pa_cons (pv 12) (pa_cons (pv 13) (pa_cons (pv 14) pa_nil)))))))))))
      (pss_one (ps_ret (pe_lst (pa_cons (pe_tup (pa_cons (pv 15) (pa_cons (pe_tup (pa_cons pe_str (pa_cons (pv 2) pa_nil))) pa_nil))) (pa_cons (pe_tup (pa_cons (pv 16) (pa_cons (pe_tup (pa_cons pe_str (pa_cons (pv 2) pa_nil))) pa_nil))) (pa_cons (pe_tup (pa_cons (pv 17) (pa_cons (pe_tup (pa_cons pe_str (pa_cons pe_int (pa_cons (pv 3) pa_nil)))) pa_nil))) pa_nil))))))))))))))))), (zSeq (zAsg (eLst aNil) (gNm (i := 2)))
      (zSeq (zAsg (eLst aNil) (gNm (i := 3)))
      (zSeq (zAsg (eOp r_sub (eOp r_ixL (eVar (i := 1)) eC) eC) (gNm (i := 4)))
      (zSeq (zFor (m := m_law_eight_L1) (wR1 eC) (gNm (i := 5))
      (zSeq (zAsg (eTake (i := 0) (eCB1 c_len (eVar (i := 1)))) (gNm (i := 6)))
      (zSeq (zDrop (eApp (i := 2) (eTup (aCons (eVar (i := 6)) (aCons (eOp r_add (eOp r_ixL (eVar (i := 1)) (eVar (i := 6))) (eTake (i := 0) eC)) aNil)))))
      (zSeq (zDrop (eApp (i := 3) (eVar (i := 4))))
      (zAsg (eOp r_add (eOp r_add (eVar (i := 4)) eC) (eTake (i := 0) eC)) (gNm (i := 4)))))))
      (zSeq (zAsg (eFz (eSl s_l (eVarF (i := 2)) oNone (oSome eC))) (gUp (n := 4) (gsCons (gNm (i := 7)) (gsCons (gNm (i := 8)) (gsCons (gNm (i := 9)) (gsCons (gNm (i := 10)) gsNil))))))
      (zSeq (zAsg (eFz (eSl s_l (eVarF (i := 2)) (oSome eC) oNone)) (gUp (n := 4) (gsCons (gNm (i := 11)) (gsCons (gNm (i := 12)) (gsCons (gNm (i := 13)) (gsCons (gNm (i := 14)) gsNil))))))
      (zSeq (zAsg (eFz (eMake (c := 6) (bCons (eVar (i := 7)) (bCons (eVar (i := 8)) (bCons (eVar (i := 9)) (bCons (eVar (i := 10)) (bCons (eVar (i := 11)) (bCons (eVar (i := 12)) (bCons (eVar (i := 13)) (bCons (eVar (i := 14)) bNil)))))))) (fun _ => .nil))) (gNm (i := 15)))
      (zSeq (zAsg (eFz (eMake (c := 7) (bCons (eVar (i := 7)) (bCons (eVar (i := 8)) (bCons (eVar (i := 9)) (bCons (eVar (i := 10)) (bCons (eVar (i := 11)) (bCons (eVar (i := 12)) (bCons (eVar (i := 13)) (bCons (eVar (i := 14)) bNil)))))))) (fun _ => .nil))) (gNm (i := 16)))
      (zSeq (zAsg (eFz (eSl s_l (eVarF (i := 3)) oNone (oSome eC))) (gUp (n := 4) (gsCons (gNm (i := 7)) (gsCons (gNm (i := 8)) (gsCons (gNm (i := 9)) (gsCons (gNm (i := 10)) gsNil))))))
      (zSeq (zAsg (eFz (eSl s_l (eVarF (i := 3)) (oSome eC) oNone)) (gUp (n := 4) (gsCons (gNm (i := 11)) (gsCons (gNm (i := 12)) (gsCons (gNm (i := 13)) (gsCons (gNm (i := 14)) gsNil))))))
      (zSeq (zAsg (eFz (eMake (c := 8) (bCons eC (bCons (eVar (i := 7)) (bCons (eVar (i := 8)) (bCons (eVar (i := 9)) (bCons (eVar (i := 10)) (bCons (eVar (i := 11)) (bCons (eVar (i := 12)) (bCons (eVar (i := 13)) (bCons (eVar (i := 14)) bNil))))))))) (fun _ => .nil))) (gNm (i := 17)))
      (zRet (eFz (eLst (aCons (eTup (aCons (eVar (i := 15)) (aCons (eTup (aCons eC (aCons (eVarF (i := 2)) aNil))) aNil))) (aCons (eTup (aCons (eVar (i := 16)) (aCons (eTup (aCons eC (aCons (eVarF (i := 2)) aNil))) aNil))) (aCons (eTup (aCons (eVar (i := 17)) (aCons (eTup (aCons eC (aCons eC (aCons (eVarF (i := 3)) aNil)))) aNil))) aNil)))))))))))))))))⟩)


theorem ok_law (T : Txt K mg) : FnOk PP w K mg base (L2.CX PP w) 12 (He.ga K "law") T.fd_law ["_law_script"] (spOf K ds_law) := by
  have G_AllWithin_places_1 : FnR PP w K mg base (L2.CX PP w) _ _ _ := (ok_AllWithin_places T).raw (b_AllWithin_places_1 T).2 (b_AllWithin_places_1 T).1
  have G_Band_places_1 : FnR PP w K mg base (L2.CX PP w) _ _ _ := (ok_Band_places T).raw (b_Band_places_1 T).2 (b_Band_places_1 T).1
  have G_Both_places_1 : FnR PP w K mg base (L2.CX PP w) _ _ _ := (okd_Both_places T).raw (b_Both_places_1 T).2 (b_Both_places_1 T).1
  have G_SomeWithinU_initU : FnR PP w K mg base (L2.CX PP w) _ _ _ := ok_SomeWithinU_initU T
  have G_SomeWithin_places_1 : FnR PP w K mg base (L2.CX PP w) _ _ _ := (ok_SomeWithin_places T).raw (b_SomeWithin_places_1 T).2 (b_SomeWithin_places_1 T).1
  have G_WishU_andU_2 : FnR PP w K mg base (L2.CX PP w) _ _ _ := (ok_WishU_andU T).raw (b_WishU_andU_2 T).2 (b_WishU_andU_2 T).1
  obtain ⟨_, b_WishU_initU_1⟩ := b_WishU_initU_1 T
  have G_WishU_initU_1 : FnR PP w K mg base (L2.CX PP w) _ _ _ := (ok_WishU_initU T).raw b_WishU_initU_1.2 b_WishU_initU_1.1
  have G_Wish_answer_2 : FnR PP w K mg base (L2.CX PP w) _ _ _ := (ok_Wish_answer T).raw (b_Wish_answer_2 T).2 (b_Wish_answer_2 T).1
  have G_Wish_places_1 : FnR PP w K mg base (L2.CX PP w) _ _ _ := (ok_Wish_places T).raw (b_Wish_places_1 T).2 (b_Wish_places_1 T).1
  have G_law_answer_2 : FnR PP w K mg base (L2.CX PP w) _ _ _ := (okd_law_answer T).raw (b_law_answer_2 T).2 (b_law_answer_2 T).1
  have G_law_box_1 : FnR PP w K mg base (L2.CX PP w) _ _ _ := (ok_law_box T).raw (b_law_box_1 T).2 (b_law_box_1 T).1
  have G_law_eight_2 : FnR PP w K mg base (L2.CX PP w) _ _ _ := (ok_law_eight T).raw (b_law_eight_2 T).2 (b_law_eight_2 T).1
  have G_law_number_1 : FnR PP w K mg base (L2.CX PP w) _ _ _ := (ok_law_number T).raw (b_law_number_1 T).2 (b_law_number_1 T).1
  have G_law_numbers_2 : FnR PP w K mg base (L2.CX PP w) _ _ _ := (ok_law_numbers T).raw (b_law_numbers_2 T).2 (b_law_numbers_2 T).1
  have G_law_places_1 : FnR PP w K mg base (L2.CX PP w) _ _ _ := (okd_law_places T).raw (b_law_places_1 T).2 (b_law_places_1 T).1
  have G_law_single_3 : FnR PP w K mg base (L2.CX PP w) _ _ _ := (ok_law_single T).raw (b_law_single_3 T).2 (b_law_single_3 T).1
  have G_law_size_1 : FnR PP w K mg base (L2.CX PP w) _ _ _ := (okd_law_size T).raw (b_law_size_1 T).2 (b_law_size_1 T).1
  have G_law_take_2 : FnR PP w K mg base (L2.CX PP w) _ _ _ := (ok_law_take T).raw (b_law_take_2 T).2 (b_law_take_2 T).1
  have G_law_wish_3 : FnR PP w K mg base (L2.CX PP w) _ _ _ := (ok_law_wish T).raw (b_law_wish_3 T).2 (b_law_wish_3 T).1
  exact okD (m := m_law) T.F_law sc_law hl_law hm_law (fun cdv A outer s H E hr => ⟨_, (pss_cons (ps_set (i := 1) sc_law.nd rfl (by first | exact Or.inl rfl | exact Or.inr rfl) (Cl.pe_f G_law_box_1 (hr.mono (by decide)) (by rfl) T.m__law_box T.F_law_box.kp (fun σ => Cl.at_ (takes_of rfl rfl rfl rfl) σ) (pa_cons (pv 0) pa_nil)))
      (pss_cons (ps_set (i := 2) sc_law.nd rfl (by first | exact Or.inl rfl | exact Or.inr rfl) (pe_ix (Cl.ixL K) (pe_lst (pa_cons pe_int (pa_cons (pe_op op_pow pe_int pe_int) pa_nil))) (Cl.pe_f G_law_take_2 (hr.mono (by decide)) (by rfl) T.m__law_take T.F_law_take.kp (fun σ => Cl.at_ (takes_of rfl rfl rfl rfl) σ) (pa_cons (pv 1) (pa_cons pe_int pa_nil))) (fun _ _ => rfl)))
      (pss_cons (ps_setLc (i := 4) (own := [("_law_k", 3)]) rfl sc_law.nd rfl rfl (sw_true rfl rfl rfl (by decide +kernel)) (pi_range1 (by rfl) T.n_range (pa_cons (pe_op op_add pe_int (Cl.pe_f G_law_take_2 (hr.mono (by decide)) (by rfl) T.m__law_take T.F_law_take.kp (fun σ => Cl.at_ (takes_of rfl rfl rfl rfl) σ) (pa_cons (pv 1) (pa_cons pe_int pa_nil)))) pa_nil)) (blkOk_by (N := ["_law_script", "_law_box_here", "_law_tall", "_law_k", "_law_truth", "_law_wish_here", "_law_spec", "_law_kept", "_law_lists", "_law_height", "_law_heights", "_law_passed", "_law_told", "_law_turn", "_law_places_here", "_law_large", "_law_parts", "_law_at", "_law_near", "_law_single_here", "_law_part", "_law_twice", "_law_more"]) (sc := defScope s_law) (by decide +kernel)) (fun _ _ _ _ _ => (pg_name (i := 3) sc_law.nd rfl (by first | exact Or.inl rfl | exact Or.inr rfl))) (fun _ _ _ _ _ => pts_nil) (fun _ _ _ _ _ => (Cl.pe_f G_law_take_2 (hr.mono (by decide)) (by rfl) T.m__law_take T.F_law_take.kp (E := fun _ _ _ _ => False) (fun σ => Cl.none_ σ) (pa_cons (pv 1) (pa_cons (pe_op op_add (pv 2) pe_int) pa_nil)))))
      (pss_cons (ps_asg (Cl.pe_f G_law_wish_3 (hr.mono (by decide)) (by rfl) T.m__law_wish T.F_law_wish.kp (fun σ => Cl.at_ (takes_of rfl rfl rfl rfl) σ) (pa_cons (pv 1) (pa_cons (pv 4) (pa_cons (pv 2) pa_nil)))) (Cl.pgT K (n := 2) (pgs_cons (pg_name (i := 5) sc_law.nd rfl (by first | exact Or.inl rfl | exact Or.inr rfl)) (pgs_cons (pg_name (i := 6) sc_law.nd rfl (by first | exact Or.inl rfl | exact Or.inr rfl)) pgs_nil))))
      (pss_cons (ps_set (i := 7) sc_law.nd rfl (by first | exact Or.inl rfl | exact Or.inr rfl) (Cl.pe_mk0 T.mk_Wish G_WishU_initU_1 (hr.mono (by decide)) (by rfl) T.m_Wish (fun σ => Cl.at_ (takes_of rfl rfl rfl rfl) σ)))
      (pss_cons (ps_if (PW.pt (pw_or (pt_not (pt_val (Cl.pe_f G_law_number_1 (hr.mono (by decide)) (by rfl) T.m__law_number T.F_law_number.kp (fun σ => Cl.at_ (takes_of rfl rfl rfl rfl) σ) (pa_cons (Cl.fld K (pv 5)) pa_nil)))) (pw_or (pt_cmpR op_ne (Cl.fld K (pv 5)) (Cl.pe_f G_law_size_1 (hr.mono (by decide)) (by rfl) T.m__law_size T.F_law_size.kp (fun σ => Cl.at_ (takes_of rfl rfl rfl rfl) σ) (pa_cons (pv 6) pa_nil)) (nomark _)) (pw_or1 (pt_cmpR op_ne (Cl.fld K (pv 7)) pe_int (nomark _))))))
      (pss_one (ps_ret pe_bl))
      pss_nil)
      (pss_cons (ps_set (i := 8) sc_law.nd rfl (by first | exact Or.inl rfl | exact Or.inr rfl) (pe_lst (pa_cons (pv 4) pa_nil)))
      (pss_cons (ps_for (passes_of rfl) rfl (pi_range1 (by rfl) T.n_range (pa_cons pe_int pa_nil)) (pg_name (i := 3) sc_law.nd rfl (by first | exact Or.inl rfl | exact Or.inr rfl))
      (pss_one (ps_expr (pe_bm PySem.F.plainAttrs_list PySem.F.slot_list_append PySem.F.type_list_append mt_append (pv 8) (pa_cons (pe_lc (own := [("_law_height", 9)]) rfl sc_law.nd (Cl.piL K (pv 4)) (blkOk_by (N := ["_law_script", "_law_box_here", "_law_tall", "_law_k", "_law_truth", "_law_wish_here", "_law_spec", "_law_kept", "_law_lists", "_law_height", "_law_heights", "_law_passed", "_law_told", "_law_turn", "_law_places_here", "_law_large", "_law_parts", "_law_at", "_law_near", "_law_single_here", "_law_part", "_law_twice", "_law_more"]) (sc := defScope s_law) (by decide +kernel)) (fun _ _ _ _ _ => (pg_name (i := 9) sc_law.nd rfl (by first | exact Or.inl rfl | exact Or.inr rfl))) (fun _ _ _ _ _ => pts_nil) (fun _ _ _ _ _ => (pe_op op_sub (pe_op op_add (pv 9) (Cl.pe_f G_law_take_2 (hr.mono (by decide)) (by rfl) T.m__law_take T.F_law_take.kp (E := fun _ _ _ _ => False) (fun σ => Cl.none_ σ) (pa_cons (pv 1) (pa_cons pe_int pa_nil)))) pe_int))) pa_nil)))))
      (pss_cons (ps_for (passes_of rfl) rfl (Cl.piL K (pv 8)) (pg_name (i := 10) sc_law.nd rfl (by first | exact Or.inl rfl | exact Or.inr rfl))
      (pss_cons (ps_set (i := 11) sc_law.nd rfl (by first | exact Or.inl rfl | exact Or.inr rfl) (pe_callTy (T := "list") (Cl.listOf K) (by rfl) T.n_list (by decide +kernel) (pa_cons (pv 10) pa_nil)))
      (pss_cons (ps_set (i := 12) sc_law.nd rfl (by first | exact Or.inl rfl | exact Or.inr rfl) (Dl.pe_alt (Cl.pe_m (pv 5) T.cl_Wish T.me_Wish_answer G_Wish_answer_2 (hr.mono (by decide)) (fun σ => Cl.at_ (takes_of rfl rfl rfl rfl) σ) (pa_cons (pv 11) pa_nil)) (Dl.pe_alt (Cl.pe_m (pv 5) T.cl_AllWithin T.me_AllWithin_answer G_Wish_answer_2 (hr.mono (by decide)) (fun σ => Cl.at_ (takes_of rfl rfl rfl rfl) σ) (pa_cons (pv 11) pa_nil)) (Dl.pe_alt (Cl.pe_m (pv 5) T.cl_SomeWithin T.me_SomeWithin_answer G_Wish_answer_2 (hr.mono (by decide)) (fun σ => Cl.at_ (takes_of rfl rfl rfl rfl) σ) (pa_cons (pv 11) pa_nil)) (Dl.pe_alt (Cl.pe_m (pv 5) T.cl_Band T.me_Band_answer G_Wish_answer_2 (hr.mono (by decide)) (fun σ => Cl.at_ (takes_of rfl rfl rfl rfl) σ) (pa_cons (pv 11) pa_nil)) (Cl.pe_m (pv 5) T.cl_Both T.me_Both_answer G_Wish_answer_2 (hr.mono (by decide)) (fun σ => Cl.at_ (takes_of rfl rfl rfl rfl) σ) (pa_cons (pv 11) pa_nil)))))))
      (pss_one (ps_if (PW.pt (pw_or (pt_not (pt_val (Cl.pe_f G_law_number_1 (hr.mono (by decide)) (by rfl) T.m__law_number T.F_law_number.kp (fun σ => Cl.at_ (takes_of rfl rfl rfl rfl) σ) (pa_cons (pv 12) pa_nil)))) (pw_or (pt_cmpR op_ne (pv 12) (Cl.pe_f G_law_answer_2 (hr.mono (by decide)) (by rfl) T.m__law_answer T.F_law_answer.kp (fun σ => Cl.at_ (takes_of rfl rfl rfl rfl) σ) (pa_cons (pv 6) (pa_cons (pv 10) pa_nil))) (nomark _)) (pw_or1 (pt_cmpR (Cl.neD K hr.units) (pv 11) (pv 10) (nomark _))))))
      (pss_one (ps_ret pe_bl))
      pss_nil)))))
      (pss_cons (ps_for (passes_of rfl) rfl (pi_range1 (by rfl) T.n_range (pa_cons pe_int pa_nil)) (pg_name (i := 13) sc_law.nd rfl (by first | exact Or.inl rfl | exact Or.inr rfl))
      (pss_cons (ps_set (i := 14) sc_law.nd rfl (by first | exact Or.inl rfl | exact Or.inr rfl) (Dl.pe_alt (Cl.pe_m0 (pv 5) T.cl_Wish T.me_Wish_places G_Wish_places_1 (hr.mono (by decide)) (fun σ => Cl.at_ (takes_of rfl rfl rfl rfl) σ)) (Dl.pe_alt (Cl.pe_m0 (pv 5) T.cl_AllWithin T.me_AllWithin_places G_AllWithin_places_1 (hr.mono (by decide)) (fun σ => Cl.at_ (takes_of rfl rfl rfl rfl) σ)) (Dl.pe_alt (Cl.pe_m0 (pv 5) T.cl_SomeWithin T.me_SomeWithin_places G_SomeWithin_places_1 (hr.mono (by decide)) (fun σ => Cl.at_ (takes_of rfl rfl rfl rfl) σ)) (Dl.pe_alt (Cl.pe_m0 (pv 5) T.cl_Band T.me_Band_places G_Band_places_1 (hr.mono (by decide)) (fun σ => Cl.at_ (takes_of rfl rfl rfl rfl) σ)) (Cl.pe_m0 (pv 5) T.cl_Both T.me_Both_places G_Both_places_1 (hr.mono (by decide)) (fun σ => Cl.at_ (takes_of rfl rfl rfl rfl) σ)))))))
      (pss_cons (ps_if (pt_not (pt_val (Cl.pe_f G_law_numbers_2 (hr.mono (by decide)) (by rfl) T.m__law_numbers T.F_law_numbers.kp (fun σ => Cl.at_ (takes_of rfl rfl rfl rfl) σ) (pa_cons (pv 14) (pa_cons (Cl.pe_f G_law_places_1 (hr.mono (by decide)) (by rfl) T.m__law_places T.F_law_places.kp (fun σ => Cl.at_ (takes_of rfl rfl rfl rfl) σ) (pa_cons (pv 6) pa_nil)) pa_nil)))))
      (pss_one (ps_ret pe_bl))
      pss_nil)
      (pss_one (ps_expr (pe_bm PySem.F.plainAttrs_list PySem.F.slot_list_append PySem.F.type_list_append mt_append (pv 14) (pa_cons pe_int pa_nil)))))))
      (pss_cons (ps_for (passes_of rfl) rfl (Cl.piL K (Cl.pe_f G_law_eight_2 (hr.mono (by decide)) (by rfl) T.m__law_eight T.F_law_eight.kp (fun σ => Cl.at_ (takes_of rfl rfl rfl rfl) σ) (pa_cons (pv 1) (pa_cons (pv 4) pa_nil)))) (Cl.pgT K (n := 2) (pgs_cons (pg_name (i := 15) sc_law.nd rfl (by first | exact Or.inl rfl | exact Or.inr rfl)) (pgs_cons (pg_name (i := 16) sc_law.nd rfl (by first | exact Or.inl rfl | exact Or.inr rfl)) pgs_nil)))
      (pss_cons (ps_if (PW.pt (pw_or (pt_cmpR op_ne (Cl.fld K (pv 15)) (Cl.pe_f G_law_size_1 (hr.mono (by decide)) (by rfl) T.m__law_size T.F_law_size.kp (fun σ => Cl.at_ (takes_of rfl rfl rfl rfl) σ) (pa_cons (pv 16) pa_nil)) (nomark _)) (pw_or1 (pt_not (pt_val (Cl.pe_f G_law_numbers_2 (hr.mono (by decide)) (by rfl) T.m__law_numbers T.F_law_numbers.kp (fun σ => Cl.at_ (takes_of rfl rfl rfl rfl) σ) (pa_cons (Dl.pe_alt (Cl.pe_m0 (pv 15) T.cl_Wish T.me_Wish_places G_Wish_places_1 (hr.mono (by decide)) (fun σ => Cl.at_ (takes_of rfl rfl rfl rfl) σ)) (Dl.pe_alt (Cl.pe_m0 (pv 15) T.cl_AllWithin T.me_AllWithin_places G_AllWithin_places_1 (hr.mono (by decide)) (fun σ => Cl.at_ (takes_of rfl rfl rfl rfl) σ)) (Dl.pe_alt (Cl.pe_m0 (pv 15) T.cl_SomeWithin T.me_SomeWithin_places G_SomeWithin_places_1 (hr.mono (by decide)) (fun σ => Cl.at_ (takes_of rfl rfl rfl rfl) σ)) (Dl.pe_alt (Cl.pe_m0 (pv 15) T.cl_Band T.me_Band_places G_Band_places_1 (hr.mono (by decide)) (fun σ => Cl.at_ (takes_of rfl rfl rfl rfl) σ)) (Cl.pe_m0 (pv 15) T.cl_Both T.me_Both_places G_Both_places_1 (hr.mono (by decide)) (fun σ => Cl.at_ (takes_of rfl rfl rfl rfl) σ)))))) (pa_cons (Cl.pe_f G_law_places_1 (hr.mono (by decide)) (by rfl) T.m__law_places T.F_law_places.kp (fun σ => Cl.at_ (takes_of rfl rfl rfl rfl) σ) (pa_cons (pv 16) pa_nil)) pa_nil))))))))
      (pss_one (ps_ret pe_bl))
      pss_nil)
      (pss_one (ps_for (passes_of rfl) rfl (pi_range1 (by rfl) T.n_range (pa_cons (pe_callB (id := "len") (Cl.len K) (by rfl) T.n_len (by decide +kernel) (pa_cons (pv 4) pa_nil)) pa_nil)) (pg_name (i := 17) sc_law.nd rfl (by first | exact Or.inl rfl | exact Or.inr rfl))
      (pss_cons (ps_set (i := 18) sc_law.nd rfl (by first | exact Or.inl rfl | exact Or.inr rfl) (pe_callTy (T := "list") (Cl.listOf K) (by rfl) T.n_list (by decide +kernel) (pa_cons (pv 4) pa_nil)))
      (pss_cons (ps_asg (pe_op op_sub (pe_op op_add (pe_ix (Cl.ixL K) (pv 18) (pv 17) (fun _ _ => rfl)) (Cl.pe_f G_law_take_2 (hr.mono (by decide)) (by rfl) T.m__law_take T.F_law_take.kp (fun σ => Cl.at_ (takes_of rfl rfl rfl rfl) σ) (pa_cons (pv 1) (pa_cons pe_int pa_nil)))) pe_int) (pg_sub (pv 18) (pv 17) set_list))
      (pss_one (ps_if (pt_cmpR op_ne (Dl.pe_alt (Cl.pe_m (pv 15) T.cl_Wish T.me_Wish_answer G_Wish_answer_2 (hr.mono (by decide)) (fun σ => Cl.at_ (takes_of rfl rfl rfl rfl) σ) (pa_cons (pv 18) pa_nil)) (Dl.pe_alt (Cl.pe_m (pv 15) T.cl_AllWithin T.me_AllWithin_answer G_Wish_answer_2 (hr.mono (by decide)) (fun σ => Cl.at_ (takes_of rfl rfl rfl rfl) σ) (pa_cons (pv 18) pa_nil)) (Dl.pe_alt (Cl.pe_m (pv 15) T.cl_SomeWithin T.me_SomeWithin_answer G_Wish_answer_2 (hr.mono (by decide)) (fun σ => Cl.at_ (takes_of rfl rfl rfl rfl) σ) (pa_cons (pv 18) pa_nil)) (Dl.pe_alt (Cl.pe_m (pv 15) T.cl_Band T.me_Band_answer G_Wish_answer_2 (hr.mono (by decide)) (fun σ => Cl.at_ (takes_of rfl rfl rfl rfl) σ) (pa_cons (pv 18) pa_nil)) (Cl.pe_m (pv 15) T.cl_Both T.me_Both_answer G_Wish_answer_2 (hr.mono (by decide)) (fun σ => Cl.at_ (takes_of rfl rfl rfl rfl) σ) (pa_cons (pv 18) pa_nil)))))) (Cl.pe_f G_law_answer_2 (hr.mono (by decide)) (by rfl) T.m__law_answer T.F_law_answer.kp (fun σ => Cl.at_ (takes_of rfl rfl rfl rfl) σ) (pa_cons (pv 16) (pa_cons (pv 18) pa_nil))) (nomark _))
      (pss_one (ps_ret pe_bl))
      pss_nil))))))))
      (pss_cons (ps_asg (Cl.pe_f G_law_single_3 (hr.mono (by decide)) (by rfl) T.m__law_single T.F_law_single.kp (fun σ => Cl.at_ (takes_of rfl rfl rfl rfl) σ) (pa_cons (pv 1) (pa_cons (pv 4) (pa_cons (pv 2) pa_nil)))) (Cl.pgT K (n := 2) (pgs_cons (pg_name (i := 19) sc_law.nd rfl (by first | exact Or.inl rfl | exact Or.inr rfl)) (pgs_cons (pg_name (i := 20) sc_law.nd rfl (by first | exact Or.inl rfl | exact Or.inr rfl)) pgs_nil))))
      (pss_cons (ps_set (i := 21) sc_law.nd rfl (by first | exact Or.inl rfl | exact Or.inr rfl) (AndX.pe_binP T.kin_Wish (by rfl) G_WishU_andU_2 (hr.mono (by decide)) (fun σ => Cl.at_ (takes_of rfl rfl rfl rfl) σ) (pv 19) (pv 19)))
      (pss_cons (ps_if (PW.pt (pw_or (pt_cmpR op_ne (Cl.fld K (pv 21)) (pe_op op_mulX (Cl.pe_f G_law_size_1 (hr.mono (by decide)) (by rfl) T.m__law_size T.F_law_size.kp (fun σ => Cl.at_ (takes_of rfl rfl rfl rfl) σ) (pa_cons (pv 20) pa_nil)) (Cl.pe_f G_law_size_1 (hr.mono (by decide)) (by rfl) T.m__law_size T.F_law_size.kp (fun σ => Cl.at_ (takes_of rfl rfl rfl rfl) σ) (pa_cons (pv 20) pa_nil))) (nomark _)) (pw_or1 (pt_cmpR (Cl.neD K hr.units) (Dl.pe_alt (Cl.pe_m0 (pv 21) T.cl_Wish T.me_Wish_places G_Wish_places_1 (hr.mono (by decide)) (fun σ => Cl.at_ (takes_of rfl rfl rfl rfl) σ)) (Dl.pe_alt (Cl.pe_m0 (pv 21) T.cl_AllWithin T.me_AllWithin_places G_AllWithin_places_1 (hr.mono (by decide)) (fun σ => Cl.at_ (takes_of rfl rfl rfl rfl) σ)) (Dl.pe_alt (Cl.pe_m0 (pv 21) T.cl_SomeWithin T.me_SomeWithin_places G_SomeWithin_places_1 (hr.mono (by decide)) (fun σ => Cl.at_ (takes_of rfl rfl rfl rfl) σ)) (Dl.pe_alt (Cl.pe_m0 (pv 21) T.cl_Band T.me_Band_places G_Band_places_1 (hr.mono (by decide)) (fun σ => Cl.at_ (takes_of rfl rfl rfl rfl) σ)) (Cl.pe_m0 (pv 21) T.cl_Both T.me_Both_places G_Both_places_1 (hr.mono (by decide)) (fun σ => Cl.at_ (takes_of rfl rfl rfl rfl) σ)))))) (pe_op op_cat (Cl.pe_f G_law_places_1 (hr.mono (by decide)) (by rfl) T.m__law_places T.F_law_places.kp (fun σ => Cl.at_ (takes_of rfl rfl rfl rfl) σ) (pa_cons (pv 20) pa_nil)) (Cl.pe_f G_law_places_1 (hr.mono (by decide)) (by rfl) T.m__law_places T.F_law_places.kp (fun σ => Cl.at_ (takes_of rfl rfl rfl rfl) σ) (pa_cons (pv 20) pa_nil))) (nomark _)))))
      (pss_one (ps_ret pe_bl))
      pss_nil)
      (pss_cons (ps_if (pt_cmpR op_ne (Dl.pe_alt (Cl.pe_m (pv 21) T.cl_Wish T.me_Wish_answer G_Wish_answer_2 (hr.mono (by decide)) (fun σ => Cl.at_ (takes_of rfl rfl rfl rfl) σ) (pa_cons (pv 4) pa_nil)) (Dl.pe_alt (Cl.pe_m (pv 21) T.cl_AllWithin T.me_AllWithin_answer G_Wish_answer_2 (hr.mono (by decide)) (fun σ => Cl.at_ (takes_of rfl rfl rfl rfl) σ) (pa_cons (pv 4) pa_nil)) (Dl.pe_alt (Cl.pe_m (pv 21) T.cl_SomeWithin T.me_SomeWithin_answer G_Wish_answer_2 (hr.mono (by decide)) (fun σ => Cl.at_ (takes_of rfl rfl rfl rfl) σ) (pa_cons (pv 4) pa_nil)) (Dl.pe_alt (Cl.pe_m (pv 21) T.cl_Band T.me_Band_answer G_Wish_answer_2 (hr.mono (by decide)) (fun σ => Cl.at_ (takes_of rfl rfl rfl rfl) σ) (pa_cons (pv 4) pa_nil)) (Cl.pe_m (pv 21) T.cl_Both T.me_Both_answer G_Wish_answer_2 (hr.mono (by decide)) (fun σ => Cl.at_ (takes_of rfl rfl rfl rfl) σ) (pa_cons (pv 4) pa_nil)))))) (pe_op op_mulX (Cl.pe_f G_law_answer_2 (hr.mono (by decide)) (by rfl) T.m__law_answer T.F_law_answer.kp (fun σ => Cl.at_ (takes_of rfl rfl rfl rfl) σ) (pa_cons (pv 20) (pa_cons (pv 4) pa_nil))) (pe_op op_add (Cl.pe_f G_law_size_1 (hr.mono (by decide)) (by rfl) T.m__law_size T.F_law_size.kp (fun σ => Cl.at_ (takes_of rfl rfl rfl rfl) σ) (pa_cons (pv 20) pa_nil)) pe_int)) (nomark _))
      (pss_one (ps_ret pe_bl))
      pss_nil)
      (pss_cons (ps_set (i := 22) sc_law.nd rfl (by first | exact Or.inl rfl | exact Or.inr rfl) (AndX.pe_binP T.kin_Wish (by rfl) G_WishU_andU_2 (hr.mono (by decide)) (fun σ => Cl.at_ (takes_of rfl rfl rfl rfl) σ) (pv 5) (Cl.pe_mk T.mk_SomeWithin G_SomeWithinU_initU (hr.mono (by decide)) (by rfl) T.m_SomeWithin (fun σ => Cl.at_ (takes_of rfl rfl rfl rfl) σ) (pa_cons (pe_tup (pa_cons pe_int (pa_cons (pe_ix (Cl.ixL K) (pv 4) pe_int (fun _ _ => rfl)) pa_nil))) pa_nil))))
      (pss_cons (ps_if (PW.pt (pw_or (pt_cmpR op_ne (Cl.fld K (pv 22)) (pe_op op_mul pe_int (Cl.pe_f G_law_size_1 (hr.mono (by decide)) (by rfl) T.m__law_size T.F_law_size.kp (fun σ => Cl.at_ (takes_of rfl rfl rfl rfl) σ) (pa_cons (pv 6) pa_nil))) (nomark _)) (pw_or1 (pt_cmpR op_ne (Cl.fld K (pv 5)) (Cl.pe_f G_law_size_1 (hr.mono (by decide)) (by rfl) T.m__law_size T.F_law_size.kp (fun σ => Cl.at_ (takes_of rfl rfl rfl rfl) σ) (pa_cons (pv 6) pa_nil)) (nomark _)))))
      (pss_one (ps_ret pe_bl))
      pss_nil)
      (pss_one (ps_ret (pe_and (pe_cmpR op_eq (Dl.pe_alt (Cl.pe_m (pv 22) T.cl_Wish T.me_Wish_answer G_Wish_answer_2 (hr.mono (by decide)) (fun σ => Cl.at_ (takes_of rfl rfl rfl rfl) σ) (pa_cons (pv 4) pa_nil)) (Dl.pe_alt (Cl.pe_m (pv 22) T.cl_AllWithin T.me_AllWithin_answer G_Wish_answer_2 (hr.mono (by decide)) (fun σ => Cl.at_ (takes_of rfl rfl rfl rfl) σ) (pa_cons (pv 4) pa_nil)) (Dl.pe_alt (Cl.pe_m (pv 22) T.cl_SomeWithin T.me_SomeWithin_answer G_Wish_answer_2 (hr.mono (by decide)) (fun σ => Cl.at_ (takes_of rfl rfl rfl rfl) σ) (pa_cons (pv 4) pa_nil)) (Dl.pe_alt (Cl.pe_m (pv 22) T.cl_Band T.me_Band_answer G_Wish_answer_2 (hr.mono (by decide)) (fun σ => Cl.at_ (takes_of rfl rfl rfl rfl) σ) (pa_cons (pv 4) pa_nil)) (Cl.pe_m (pv 22) T.cl_Both T.me_Both_answer G_Wish_answer_2 (hr.mono (by decide)) (fun σ => Cl.at_ (takes_of rfl rfl rfl rfl) σ) (pa_cons (pv 4) pa_nil)))))) (pe_op op_add (pe_op op_mul pe_int (Cl.pe_f G_law_answer_2 (hr.mono (by decide)) (by rfl) T.m__law_answer T.F_law_answer.kp (fun σ => Cl.at_ (takes_of rfl rfl rfl rfl) σ) (pa_cons (pv 6) (pa_cons (pv 4) pa_nil)))) pe_int) (nomark _)) (pe_one (pe_cmpR op_eq (Dl.pe_alt (Cl.pe_m (pv 7) T.cl_Wish T.me_Wish_answer G_Wish_answer_2 (hr.mono (by decide)) (fun σ => Cl.at_ (takes_of rfl rfl rfl rfl) σ) (pa_cons (pv 4) pa_nil)) (Dl.pe_alt (Cl.pe_m (pv 7) T.cl_AllWithin T.me_AllWithin_answer G_Wish_answer_2 (hr.mono (by decide)) (fun σ => Cl.at_ (takes_of rfl rfl rfl rfl) σ) (pa_cons (pv 4) pa_nil)) (Dl.pe_alt (Cl.pe_m (pv 7) T.cl_SomeWithin T.me_SomeWithin_answer G_Wish_answer_2 (hr.mono (by decide)) (fun σ => Cl.at_ (takes_of rfl rfl rfl rfl) σ) (pa_cons (pv 4) pa_nil)) (Dl.pe_alt (Cl.pe_m (pv 7) T.cl_Band T.me_Band_answer G_Wish_answer_2 (hr.mono (by decide)) (fun σ => Cl.at_ (takes_of rfl rfl rfl rfl) σ) (pa_cons (pv 4) pa_nil)) (Cl.pe_m (pv 7) T.cl_Both T.me_Both_answer G_Wish_answer_2 (hr.mono (by decide)) (fun σ => Cl.at_ (takes_of rfl rfl rfl rfl) σ) (pa_cons (pv 4) pa_nil)))))) pe_int (nomark _))))))))))))))))))))))), (zSeq (zAsg (eBox (eVar (i := 0))) (gNm (i := 1)))
      (zSeq (zAsg (eOp r_ixL (eFz (eLst (aCons eC (aCons (ePow (a := 10) (b := 20) (n := 100000000000000000000) ⟨by decide, by decide, by decide⟩ (by decide +kernel)) aNil)))) (eTake (i := 1) eC)) (gNm (i := 2)))
      (zSeq (zAsg (eFz (eLc0 (wR1 (eOp r_add eC (eTake (i := 1) eC))) (gw_name (by decide)) gm_name (gNm (i := 3)) tYes' (eTake (i := 1) (eOp r_add (eVar (i := 2)) eC)))) (gNm (i := 4)))
      (zSeq (zAsg (eCall (bLent (i := 1) (bCons (eVar (i := 4)) (bCons (eVar (i := 2)) bNil))) (fun _ => .nil)) (gTp (n := 2) (gsCons (gNm (i := 5)) (gsCons (gNm (i := 6)) gsNil))))
      (zSeq (zAsg (eFz (eMake (c := 5) bNil (fun _ => (.cons (.int 1) .nil)))) (gNm (i := 7)))
      (zSeq (zIf (tOr' (tNot' (tVal (eCall (bCons (eAlt (eFld (c := 5) (i := 0) T.cl_Wish T.na_Wish_size (by decide +kernel) (eVar (i := 5))) (eAlt (eFld (c := 6) (i := 0) T.cl_AllWithin T.na_AllWithin_size (by decide +kernel) (eVar (i := 5))) (eAlt (eFld (c := 7) (i := 0) T.cl_SomeWithin T.na_SomeWithin_size (by decide +kernel) (eVar (i := 5))) (eAlt (eFld (c := 8) (i := 0) T.cl_Band T.na_Band_size (by decide +kernel) (eVar (i := 5))) (eFld (c := 9) (i := 0) T.cl_Both T.na_Both_size (by decide +kernel) (eVar (i := 5))))))) bNil) (fun _ => .nil)))) (tOr' (tTest' (eOp r_ne (eAlt (eFld (c := 5) (i := 0) T.cl_Wish T.na_Wish_size (by decide +kernel) (eVar (i := 5))) (eAlt (eFld (c := 6) (i := 0) T.cl_AllWithin T.na_AllWithin_size (by decide +kernel) (eVar (i := 5))) (eAlt (eFld (c := 7) (i := 0) T.cl_SomeWithin T.na_SomeWithin_size (by decide +kernel) (eVar (i := 5))) (eAlt (eFld (c := 8) (i := 0) T.cl_Band T.na_Band_size (by decide +kernel) (eVar (i := 5))) (eFld (c := 9) (i := 0) T.cl_Both T.na_Both_size (by decide +kernel) (eVar (i := 5))))))) (eCall (bCons (eVar (i := 6)) bNil) (fun _ => .nil)))) (tTest' (eOp r_ne (eAlt (eFld (c := 5) (i := 0) T.cl_Wish T.na_Wish_size (by decide +kernel) (eVar (i := 7))) (eAlt (eFld (c := 6) (i := 0) T.cl_AllWithin T.na_AllWithin_size (by decide +kernel) (eVar (i := 7))) (eAlt (eFld (c := 7) (i := 0) T.cl_SomeWithin T.na_SomeWithin_size (by decide +kernel) (eVar (i := 7))) (eAlt (eFld (c := 8) (i := 0) T.cl_Band T.na_Band_size (by decide +kernel) (eVar (i := 7))) (eFld (c := 9) (i := 0) T.cl_Both T.na_Both_size (by decide +kernel) (eVar (i := 7))))))) eC))))
      (zRet eC)
      zNext)
      (zSeq (zAsg (eLst (aCons (eVar (i := 4)) aNil)) (gNm (i := 8)))
      (zSeq (zFor (m := m_law_L1) (wR1 eC) (gNm (i := 3))
      (zDrop (eApp (i := 8) (eFz (eLc0 (wList (eVar (i := 4))) (gw_name (by decide)) gm_name (gNm (i := 9)) tYes' (eOp r_sub (eOp r_add (eVar (i := 9)) (eTake (i := 1) eC)) eC))))))
      (zSeq (zFor (m := m_law_L2) (wList (eVarF (i := 8))) (gNm (i := 10))
      (zSeq (zAsg (eFz (eCB1 c_list (eVar (i := 10)))) (gNm (i := 11)))
      (zSeq (zAsg (eAlt2 (eMeth (c := 5) (by decide +kernel) (eVar (i := 5)) (bCons (eVar (i := 11)) bNil) (fun _ => .nil)) (eAlt2 (eMeth (c := 6) (by decide +kernel) (eVar (i := 5)) (bCons (eVar (i := 11)) bNil) (fun _ => .nil)) (eAlt2 (eMeth (c := 7) (by decide +kernel) (eVar (i := 5)) (bCons (eVar (i := 11)) bNil) (fun _ => .nil)) (eAlt2 (eMeth (c := 8) (by decide +kernel) (eVar (i := 5)) (bCons (eVar (i := 11)) bNil) (fun _ => .nil)) (eMeth (c := 9) (by decide +kernel) (eVar (i := 5)) (bCons (eVar (i := 11)) bNil) (fun _ => .nil)))))) (gNm (i := 12)))
      (zIf (tOr' (tNot' (tVal (eCall (bCons (eVar (i := 12)) bNil) (fun _ => .nil)))) (tOr' (tTest' (eOp r_ne (eVar (i := 12)) (eCall (bCons (eVar (i := 6)) (bCons (eVar (i := 10)) bNil)) (fun _ => .nil)))) (tTest' (eOp r_neD (eVar (i := 11)) (eVar (i := 10))))))
      (zRet eC)
      zNext))))
      (zSeq (zFor (m := m_law_L3) (wR1 eC) (gNm (i := 13))
      (zSeq (zAsg (eAlt2 (eMeth (c := 5) (by decide +kernel) (eVar (i := 5)) bNil (fun _ => .nil)) (eAlt2 (eMeth (c := 6) (by decide +kernel) (eVar (i := 5)) bNil (fun _ => .nil)) (eAlt2 (eMeth (c := 7) (by decide +kernel) (eVar (i := 5)) bNil (fun _ => .nil)) (eAlt2 (eMeth (c := 8) (by decide +kernel) (eVar (i := 5)) bNil (fun _ => .nil)) (eMeth (c := 9) (by decide +kernel) (eVar (i := 5)) bNil (fun _ => .nil)))))) (gNm (i := 14)))
      (zSeq (zIf (tBor (tNot' (tVal (eCall (bCons (eVar (i := 14)) (bCons (eCall (bCons (eVar (i := 6)) bNil) (fun _ => .nil)) bNil)) (fun _ => .nil)))))
      (zRet eC)
      zNext)
      (zDrop (eApp (i := 14) eC)))))
      (zSeq (zFor (m := m_law_L4) (wList (eCall (bLent (i := 1) (bCons (eVar (i := 4)) bNil)) (fun _ => .nil))) (gTp (n := 2) (gsCons (gNm (i := 15)) (gsCons (gNm (i := 16)) gsNil)))
      (zSeq (zIf (tOr' (tTest' (eOp r_ne (eAlt (eFld (c := 5) (i := 0) T.cl_Wish T.na_Wish_size (by decide +kernel) (eVar (i := 15))) (eAlt (eFld (c := 6) (i := 0) T.cl_AllWithin T.na_AllWithin_size (by decide +kernel) (eVar (i := 15))) (eAlt (eFld (c := 7) (i := 0) T.cl_SomeWithin T.na_SomeWithin_size (by decide +kernel) (eVar (i := 15))) (eAlt (eFld (c := 8) (i := 0) T.cl_Band T.na_Band_size (by decide +kernel) (eVar (i := 15))) (eFld (c := 9) (i := 0) T.cl_Both T.na_Both_size (by decide +kernel) (eVar (i := 15))))))) (eCall (bCons (eVar (i := 16)) bNil) (fun _ => .nil)))) (tNot' (tVal (eCall (bCons (eFz (eAlt2 (eMeth (c := 5) (by decide +kernel) (eVar (i := 15)) bNil (fun _ => .nil)) (eAlt2 (eMeth (c := 6) (by decide +kernel) (eVar (i := 15)) bNil (fun _ => .nil)) (eAlt2 (eMeth (c := 7) (by decide +kernel) (eVar (i := 15)) bNil (fun _ => .nil)) (eAlt2 (eMeth (c := 8) (by decide +kernel) (eVar (i := 15)) bNil (fun _ => .nil)) (eMeth (c := 9) (by decide +kernel) (eVar (i := 15)) bNil (fun _ => .nil))))))) (bCons (eCall (bCons (eVar (i := 16)) bNil) (fun _ => .nil)) bNil)) (fun _ => .nil)))))
      (zRet eC)
      zNext)
      (zFor (m := m_law_L5) (wR1 (eCB1 c_len (eVar (i := 4)))) (gNm (i := 17))
      (zSeq (zAsg (eCB1 c_list (eVar (i := 4))) (gNm (i := 18)))
      (zSeq (zAsg (eOp r_sub (eOp r_add (eBor (eOp r_ixL (eVar (i := 18)) (eVar (i := 17)))) (eTake (i := 1) eC)) eC) (gIx' (i := 18) (eVar (i := 17))))
      (zIf (tBor (tTest' (eOp r_ne (eAlt2 (eMeth (c := 5) (by decide +kernel) (eVar (i := 15)) (bCons (eVar (i := 18)) bNil) (fun _ => .nil)) (eAlt2 (eMeth (c := 6) (by decide +kernel) (eVar (i := 15)) (bCons (eVar (i := 18)) bNil) (fun _ => .nil)) (eAlt2 (eMeth (c := 7) (by decide +kernel) (eVar (i := 15)) (bCons (eVar (i := 18)) bNil) (fun _ => .nil)) (eAlt2 (eMeth (c := 8) (by decide +kernel) (eVar (i := 15)) (bCons (eVar (i := 18)) bNil) (fun _ => .nil)) (eMeth (c := 9) (by decide +kernel) (eVar (i := 15)) (bCons (eVar (i := 18)) bNil) (fun _ => .nil)))))) (eCall (bCons (eVar (i := 16)) (bCons (eVar (i := 18)) bNil)) (fun _ => .nil)))))
      (zRet eC)
      zNext))))))
      (zSeq (zAsg (eCall (bLent (i := 1) (bCons (eVar (i := 4)) (bCons (eVar (i := 2)) bNil))) (fun _ => .nil)) (gTp (n := 2) (gsCons (gNm (i := 19)) (gsCons (gNm (i := 20)) gsNil))))
      (zSeq (zAsg (eBinP (cs := [5, 6, 7, 8, 9]) (eVar (i := 19)) (eVar (i := 19))) (gNm (i := 21)))
      (zSeq (zIf (tOr' (tTest' (eOp r_ne (eAlt (eFld (c := 5) (i := 0) T.cl_Wish T.na_Wish_size (by decide +kernel) (eVar (i := 21))) (eAlt (eFld (c := 6) (i := 0) T.cl_AllWithin T.na_AllWithin_size (by decide +kernel) (eVar (i := 21))) (eAlt (eFld (c := 7) (i := 0) T.cl_SomeWithin T.na_SomeWithin_size (by decide +kernel) (eVar (i := 21))) (eAlt (eFld (c := 8) (i := 0) T.cl_Band T.na_Band_size (by decide +kernel) (eVar (i := 21))) (eFld (c := 9) (i := 0) T.cl_Both T.na_Both_size (by decide +kernel) (eVar (i := 21))))))) (eOp r_I (eCall (bCons (eVar (i := 20)) bNil) (fun _ => .nil)) (eCall (bCons (eVar (i := 20)) bNil) (fun _ => .nil))))) (tTest' (eOp r_neD (eFz (eAlt2 (eMeth (c := 5) (by decide +kernel) (eVar (i := 21)) bNil (fun _ => .nil)) (eAlt2 (eMeth (c := 6) (by decide +kernel) (eVar (i := 21)) bNil (fun _ => .nil)) (eAlt2 (eMeth (c := 7) (by decide +kernel) (eVar (i := 21)) bNil (fun _ => .nil)) (eAlt2 (eMeth (c := 8) (by decide +kernel) (eVar (i := 21)) bNil (fun _ => .nil)) (eMeth (c := 9) (by decide +kernel) (eVar (i := 21)) bNil (fun _ => .nil))))))) (eFz (eOp r_cat (eCall (bCons (eVar (i := 20)) bNil) (fun _ => .nil)) (eCall (bCons (eVar (i := 20)) bNil) (fun _ => .nil)))))))
      (zRet eC)
      zNext)
      (zSeq (zIf (tTest' (eOp r_ne (eAlt2 (eMeth (c := 5) (by decide +kernel) (eVar (i := 21)) (bCons (eVar (i := 4)) bNil) (fun _ => .nil)) (eAlt2 (eMeth (c := 6) (by decide +kernel) (eVar (i := 21)) (bCons (eVar (i := 4)) bNil) (fun _ => .nil)) (eAlt2 (eMeth (c := 7) (by decide +kernel) (eVar (i := 21)) (bCons (eVar (i := 4)) bNil) (fun _ => .nil)) (eAlt2 (eMeth (c := 8) (by decide +kernel) (eVar (i := 21)) (bCons (eVar (i := 4)) bNil) (fun _ => .nil)) (eMeth (c := 9) (by decide +kernel) (eVar (i := 21)) (bCons (eVar (i := 4)) bNil) (fun _ => .nil)))))) (eOp r_I (eCall (bCons (eVar (i := 20)) (bCons (eVar (i := 4)) bNil)) (fun _ => .nil)) (eOp r_add (eCall (bCons (eVar (i := 20)) bNil) (fun _ => .nil)) eC))))
      (zRet eC)
      zNext)
      (zSeq (zAsg (eBinP (cs := [5, 6, 7, 8, 9]) (eVar (i := 5)) (eFz (eMake (c := 7) (bCons (eTup (aCons eC (aCons (eOp r_ixL (eVar (i := 4)) eC) aNil))) bNil) (fun _ => .nil)))) (gNm (i := 22)))
      (zSeq (zIf (tOr' (tTest' (eOp r_ne (eAlt (eFld (c := 5) (i := 0) T.cl_Wish T.na_Wish_size (by decide +kernel) (eVar (i := 22))) (eAlt (eFld (c := 6) (i := 0) T.cl_AllWithin T.na_AllWithin_size (by decide +kernel) (eVar (i := 22))) (eAlt (eFld (c := 7) (i := 0) T.cl_SomeWithin T.na_SomeWithin_size (by decide +kernel) (eVar (i := 22))) (eAlt (eFld (c := 8) (i := 0) T.cl_Band T.na_Band_size (by decide +kernel) (eVar (i := 22))) (eFld (c := 9) (i := 0) T.cl_Both T.na_Both_size (by decide +kernel) (eVar (i := 22))))))) (eOp r_I eC (eCall (bCons (eVar (i := 6)) bNil) (fun _ => .nil))))) (tTest' (eOp r_ne (eAlt (eFld (c := 5) (i := 0) T.cl_Wish T.na_Wish_size (by decide +kernel) (eVar (i := 5))) (eAlt (eFld (c := 6) (i := 0) T.cl_AllWithin T.na_AllWithin_size (by decide +kernel) (eVar (i := 5))) (eAlt (eFld (c := 7) (i := 0) T.cl_SomeWithin T.na_SomeWithin_size (by decide +kernel) (eVar (i := 5))) (eAlt (eFld (c := 8) (i := 0) T.cl_Band T.na_Band_size (by decide +kernel) (eVar (i := 5))) (eFld (c := 9) (i := 0) T.cl_Both T.na_Both_size (by decide +kernel) (eVar (i := 5))))))) (eCall (bCons (eVar (i := 6)) bNil) (fun _ => .nil)))))
      (zRet eC)
      zNext)
      (zRet (eAndV (eOp r_eq (eAlt2 (eMeth (c := 5) (by decide +kernel) (eVar (i := 22)) (bCons (eVar (i := 4)) bNil) (fun _ => .nil)) (eAlt2 (eMeth (c := 6) (by decide +kernel) (eVar (i := 22)) (bCons (eVar (i := 4)) bNil) (fun _ => .nil)) (eAlt2 (eMeth (c := 7) (by decide +kernel) (eVar (i := 22)) (bCons (eVar (i := 4)) bNil) (fun _ => .nil)) (eAlt2 (eMeth (c := 8) (by decide +kernel) (eVar (i := 22)) (bCons (eVar (i := 4)) bNil) (fun _ => .nil)) (eMeth (c := 9) (by decide +kernel) (eVar (i := 22)) (bCons (eVar (i := 4)) bNil) (fun _ => .nil)))))) (eOp r_add (eOp r_I eC (eCall (bCons (eVar (i := 6)) (bCons (eVar (i := 4)) bNil)) (fun _ => .nil))) eC)) (eOp r_eq (eAlt2 (eMeth (c := 5) (by decide +kernel) (eVar (i := 7)) (bCons (eVar (i := 4)) bNil) (fun _ => .nil)) (eAlt2 (eMeth (c := 6) (by decide +kernel) (eVar (i := 7)) (bCons (eVar (i := 4)) bNil) (fun _ => .nil)) (eAlt2 (eMeth (c := 7) (by decide +kernel) (eVar (i := 7)) (bCons (eVar (i := 4)) bNil) (fun _ => .nil)) (eAlt2 (eMeth (c := 8) (by decide +kernel) (eVar (i := 7)) (bCons (eVar (i := 4)) bNil) (fun _ => .nil)) (eMeth (c := 9) (by decide +kernel) (eVar (i := 7)) (bCons (eVar (i := 4)) bNil) (fun _ => .nil)))))) eC))))))))))))))))))))⟩)


def sp_law (K : PySem.W.Frag) : Sp := fun vs H Q _ => ∃ (a : Addr) (ns : List Int), vs = [.ref a] ∧ SqL K H a (ns.map V.int) ∧ ns.length ≤ 63 ∧ ∀ H', Q (.bl true) H'
theorem ok_law0 (T : Txt K mg) : FnOk PP w K mg base CX0 12 (He.ga K "law") T.fd_law ["_law_script"] (sp_law K) := fn_calm ((ok_law T).imp fun vs H Q E h => by
  obtain ⟨a, ns, rfl, hS, hl, k⟩ := h
  refine ⟨H, [.sh .scr], [], Le.rfl, .cons (f := []) (.sh (.scr hS)) .nil, List.nodup_nil, fun a ha => (by cases ha), ds_law.mono (fun r as' e v H' hr => ?_) (fun _ _ z => z.elim) law_true⟩
  subst e
  obtain rfl := hr.topv (u := .bl true) rfl
  exact k H') fun _ _ _ _ h => h

end
theorem facts {K : PySem.W.Frag} {h : Heap} {mg : Str → Option Value} (X : K.In h) (G : h.Ns mainGlobals mg) (c : Hd.SaysP fnL erL exL K) : Nonempty (Txt K mg) := by
  have c0 : ((faL.all fun f => f.ok K) && (SupX.supB PP K "AllWithin" "AllWithin.__init__" (He.ma K (He.ga K "Wish") "__init__") && (SupX.supB PP K "SomeWithin" "SomeWithin.__init__" (He.ma K (He.ga K "Wish") "__init__") && (SupX.supB PP K "Band" "Band.__init__" (He.ma K (He.ga K "Wish") "__init__") && (SupX.supB PP K "Both" "Both.__init__" (He.ma K (He.ga K "Wish") "__init__") && (OpM.insB K (He.ga K "Wish") && (OpM.insB K (He.ga K "AllWithin") && (OpM.insB K (He.ga K "SomeWithin") && (OpM.insB K (He.ga K "Band") && (OpM.insB K (He.ga K "Both") && (decide (PySem.W.kitOne K (.ref (He.ga K "Wish")) (.ref (He.ga K "Wish")) = some true) && (decide (PySem.W.kitOne K (.ref (He.ga K "AllWithin")) (.ref (He.ga K "Wish")) = some true) && (decide (PySem.W.kitOne K (.ref (He.ga K "SomeWithin")) (.ref (He.ga K "Wish")) = some true) && (decide (PySem.W.kitOne K (.ref (He.ga K "Band")) (.ref (He.ga K "Wish")) = some true) && (decide (PySem.W.kitOne K (.ref (He.ga K "Both")) (.ref (He.ga K "Wish")) = some true) && (AndX.kinB K [He.ga K "Wish", He.ga K "AllWithin", He.ga K "SomeWithin", He.ga K "Band", He.ga K "Both"] "and" (He.ma K (He.ga K "Wish") "__and__") && (Hd.inhB K (He.ga K "AllWithin") "answer" (He.ma K (He.ga K "Wish") "answer") && (Hd.inhB K (He.ga K "Band") "answer" (He.ma K (He.ga K "Wish") "answer") && (Hd.inhB K (He.ga K "Both") "answer" (He.ma K (He.ga K "Wish") "answer") && (Hd.inhB K (He.ga K "SomeWithin") "answer" (He.ma K (He.ga K "Wish") "answer") && true)))))))))))))))))))) = true := c.more
  obtain ⟨c1, c2⟩ := He.ba c0
  have ff : ∀ f ∈ faL, f.ok K = true := List.all_eq_true.mp c1
  obtain ⟨fd0, F0⟩ := c.def_ 0 (d := d_law_box) rfl
  obtain ⟨fd1, F1⟩ := c.def_ 1 (d := d_law_take) rfl
  obtain ⟨fd2, F2⟩ := c.def_ 2 (d := d_TrialU_initU) rfl
  obtain ⟨fd3, F3⟩ := c.def_ 3 (d := d_Trial_agrees) rfl
  obtain ⟨fd4, F4⟩ := c.def_ 4 (d := d_WishU_initU) rfl
  obtain ⟨fd5, F5⟩ := c.def_ 5 (d := d_Wish_cases) rfl
  obtain ⟨fd6, F6⟩ := c.def_ 6 (d := d_AllWithin_cases) rfl
  obtain ⟨fd7, F7⟩ := c.def_ 7 (d := d_SomeWithin_cases) rfl
  obtain ⟨fd8, F8⟩ := c.def_ 8 (d := d_Band_cases) rfl
  obtain ⟨fd9, F9⟩ := c.def_ 9 (d := d_Both_cases) rfl
  obtain ⟨fd10, F10⟩ := c.def_ 10 (d := d_Wish_places) rfl
  obtain ⟨fd11, F11⟩ := c.def_ 11 (d := d_AllWithin_places) rfl
  obtain ⟨fd12, F12⟩ := c.def_ 12 (d := d_SomeWithin_places) rfl
  obtain ⟨fd13, F13⟩ := c.def_ 13 (d := d_Band_places) rfl
  obtain ⟨fd14, F14⟩ := c.def_ 14 (d := d_Both_places) rfl
  obtain ⟨fd15, F15⟩ := c.def_ 15 (d := d_Wish_answer) rfl
  obtain ⟨fd16, F16⟩ := c.def_ 16 (d := d_WishU_andU) rfl
  obtain ⟨fd17, F17⟩ := c.def_ 17 (d := d_law_number) rfl
  obtain ⟨fd18, F18⟩ := c.def_ 18 (d := d_law_numbers) rfl
  obtain ⟨fd19, F19⟩ := c.def_ 19 (d := d_law_pairs) rfl
  obtain ⟨fd20, F20⟩ := c.def_ 20 (d := d_law_many) rfl
  obtain ⟨fd21, F21⟩ := c.def_ 21 (d := d_law_band) rfl
  obtain ⟨fd22, F22⟩ := c.def_ 22 (d := d_law_single) rfl
  obtain ⟨fd23, F23⟩ := c.def_ 23 (d := d_law_wish) rfl
  obtain ⟨fd24, F24⟩ := c.def_ 24 (d := d_law_size) rfl
  obtain ⟨fd25, F25⟩ := c.def_ 25 (d := d_law_answer) rfl
  obtain ⟨fd26, F26⟩ := c.def_ 26 (d := d_law_places) rfl
  obtain ⟨fd27, F27⟩ := c.def_ 27 (d := d_law_eight) rfl
  obtain ⟨fd28, F28⟩ := c.def_ 28 (d := d_law) rfl
  obtain ⟨z0, c2⟩ := He.ba c2
  obtain ⟨z1, c2⟩ := He.ba c2
  obtain ⟨z2, c2⟩ := He.ba c2
  obtain ⟨z3, c2⟩ := He.ba c2
  obtain ⟨z4, c2⟩ := He.ba c2
  obtain ⟨z5, c2⟩ := He.ba c2
  obtain ⟨z6, c2⟩ := He.ba c2
  obtain ⟨z7, c2⟩ := He.ba c2
  obtain ⟨z8, c2⟩ := He.ba c2
  obtain ⟨z9, c2⟩ := He.ba c2
  obtain ⟨z10, c2⟩ := He.ba c2
  obtain ⟨z11, c2⟩ := He.ba c2
  obtain ⟨z12, c2⟩ := He.ba c2
  obtain ⟨z13, c2⟩ := He.ba c2
  obtain ⟨z14, c2⟩ := He.ba c2
  obtain ⟨z15, c2⟩ := He.ba c2
  obtain ⟨z16, c2⟩ := He.ba c2
  obtain ⟨z17, c2⟩ := He.ba c2
  obtain ⟨z18, c2⟩ := He.ba c2
  obtain ⟨gd0, S0⟩ := SupX.sup_mk z0 (c.err_ 0 rfl) (by decide +kernel)
  obtain ⟨gd1, S1⟩ := SupX.sup_mk z1 (c.err_ 1 rfl) (by decide +kernel)
  obtain ⟨gd2, S2⟩ := SupX.sup_mk z2 (c.err_ 2 rfl) (by decide +kernel)
  obtain ⟨gd3, S3⟩ := SupX.sup_mk z3 (c.err_ 3 rfl) (by decide +kernel)
  exact ⟨Txt.mk (fd0)
    (F0)
    (fd1)
    (F1)
    (fd2)
    (F2)
    (fd3)
    (F3)
    (fd4)
    (F4)
    (gd0)
    (S0)
    (gd1)
    (S1)
    (gd2)
    (S2)
    (gd3)
    (S3)
    (fd5)
    (F5)
    (fd6)
    (F6)
    (fd7)
    (F7)
    (fd8)
    (F8)
    (fd9)
    (F9)
    (fd10)
    (F10)
    (fd11)
    (F11)
    (fd12)
    (F12)
    (fd13)
    (F13)
    (fd14)
    (F14)
    (fd15)
    (F15)
    (fd16)
    (F16)
    (fd17)
    (F17)
    (fd18)
    (F18)
    (fd19)
    (F19)
    (fd20)
    (F20)
    (fd21)
    (F21)
    (fd22)
    (F22)
    (fd23)
    (F23)
    (fd24)
    (F24)
    (fd25)
    (F25)
    (fd26)
    (F26)
    (fd27)
    (F27)
    (fd28)
    (F28)
    (He.glo_ok X G (ff (.glo "AllWithin") (by simp [faL])))
    (He.glo_ok X G (ff (.glo "Band") (by simp [faL])))
    (He.glo_ok X G (ff (.glo "Both") (by simp [faL])))
    (He.glo_ok X G (ff (.glo "SomeWithin") (by simp [faL])))
    (He.glo_ok X G (ff (.glo "Trial") (by simp [faL])))
    (He.glo_ok X G (ff (.glo "Wish") (by simp [faL])))
    (He.glo_ok X G (ff (.glo "_law_answer") (by simp [faL])))
    (He.glo_ok X G (ff (.glo "_law_band") (by simp [faL])))
    (He.glo_ok X G (ff (.glo "_law_box") (by simp [faL])))
    (He.glo_ok X G (ff (.glo "_law_eight") (by simp [faL])))
    (He.glo_ok X G (ff (.glo "_law_many") (by simp [faL])))
    (He.glo_ok X G (ff (.glo "_law_number") (by simp [faL])))
    (He.glo_ok X G (ff (.glo "_law_numbers") (by simp [faL])))
    (He.glo_ok X G (ff (.glo "_law_pairs") (by simp [faL])))
    (He.glo_ok X G (ff (.glo "_law_places") (by simp [faL])))
    (He.glo_ok X G (ff (.glo "_law_single") (by simp [faL])))
    (He.glo_ok X G (ff (.glo "_law_size") (by simp [faL])))
    (He.glo_ok X G (ff (.glo "_law_take") (by simp [faL])))
    (He.glo_ok X G (ff (.glo "_law_wish") (by simp [faL])))
    (He.glo_ok X G (ff (.glo "law") (by simp [faL])))
    (He.free_ok X G (ff (.free "all") (by simp [faL])))
    (He.free_ok X G (ff (.free "bool") (by simp [faL])))
    (He.free_ok X G (ff (.free "int") (by simp [faL])))
    (He.free_ok X G (ff (.free "isinstance") (by simp [faL])))
    (He.free_ok X G (ff (.free "len") (by simp [faL])))
    (He.free_ok X G (ff (.free "list") (by simp [faL])))
    (He.free_ok X G (ff (.free "range") (by simp [faL])))
    (He.free_ok X G (ff (.free "super") (by simp [faL])))
    (He.free_ok X G (ff (.free "zip") (by simp [faL])))
    (He.cls_ok (ff (.cls "AllWithin") (by simp [faL])))
    (He.cls_ok (ff (.cls "Band") (by simp [faL])))
    (He.cls_ok (ff (.cls "Both") (by simp [faL])))
    (He.cls_ok (ff (.cls "SomeWithin") (by simp [faL])))
    (He.cls_ok (ff (.cls "Trial") (by simp [faL])))
    (He.cls_ok (ff (.cls "Wish") (by simp [faL])))
    (He.noat_ok (ff (.noat "AllWithin" "pairs") (by simp [faL])))
    (He.noat_ok (ff (.noat "AllWithin" "size") (by simp [faL])))
    (He.noat_ok (ff (.noat "Band" "cuts") (by simp [faL])))
    (He.noat_ok (ff (.noat "Band" "place") (by simp [faL])))
    (He.noat_ok (ff (.noat "Band" "size") (by simp [faL])))
    (He.noat_ok (ff (.noat "Both" "first") (by simp [faL])))
    (He.noat_ok (ff (.noat "Both" "second") (by simp [faL])))
    (He.noat_ok (ff (.noat "Both" "size") (by simp [faL])))
    (He.noat_ok (ff (.noat "SomeWithin" "pairs") (by simp [faL])))
    (He.noat_ok (ff (.noat "SomeWithin" "size") (by simp [faL])))
    (He.noat_ok (ff (.noat "Trial" "height") (by simp [faL])))
    (He.noat_ok (ff (.noat "Trial" "place") (by simp [faL])))
    (He.noat_ok (ff (.noat "Trial" "reached") (by simp [faL])))
    (He.noat_ok (ff (.noat "Wish" "size") (by simp [faL])))
    (He.meth_ok (ff (.meth "AllWithin" "cases") (by simp [faL])))
    (He.meth_ok (ff (.meth "AllWithin" "places") (by simp [faL])))
    (He.meth_ok (ff (.meth "Band" "cases") (by simp [faL])))
    (He.meth_ok (ff (.meth "Band" "places") (by simp [faL])))
    (He.meth_ok (ff (.meth "Both" "cases") (by simp [faL])))
    (He.meth_ok (ff (.meth "Both" "places") (by simp [faL])))
    (He.meth_ok (ff (.meth "SomeWithin" "cases") (by simp [faL])))
    (He.meth_ok (ff (.meth "SomeWithin" "places") (by simp [faL])))
    (He.meth_ok (ff (.meth "Trial" "agrees") (by simp [faL])))
    (He.meth_ok (ff (.meth "Wish" "answer") (by simp [faL])))
    (He.meth_ok (ff (.meth "Wish" "cases") (by simp [faL])))
    (He.meth_ok (ff (.meth "Wish" "places") (by simp [faL])))
    (He.mkr_ok (ff (.mkr "AllWithin") (by simp [faL])))
    (He.mkr_ok (ff (.mkr "Band") (by simp [faL])))
    (He.mkr_ok (ff (.mkr "Both") (by simp [faL])))
    (He.mkr_ok (ff (.mkr "SomeWithin") (by simp [faL])))
    (He.mkr_ok (ff (.mkr "Trial") (by simp [faL])))
    (He.mkr_ok (ff (.mkr "Wish") (by simp [faL])))
    (OpM.insB_ok z4)
    (OpM.insB_ok z5)
    (OpM.insB_ok z6)
    (OpM.insB_ok z7)
    (OpM.insB_ok z8)
    (of_decide_eq_true z9)
    (of_decide_eq_true z10)
    (of_decide_eq_true z11)
    (of_decide_eq_true z12)
    (of_decide_eq_true z13)
    (AndX.kinB_ok z14)
    (Hd.inhB_ok z15)
    (Hd.inhB_ok z16)
    (Hd.inhB_ok z17)
    (Hd.inhB_ok z18)⟩
end Pf
open PySem PySem.W PySem.Calls PyProof.Rows
set_option maxHeartbeats 0 in
theorem PySem.Challenge.cw_rungbounds_k36_answers_of_wishes_holds : PySem.Challenge.rw_rungbounds_k36_answers_of_wishes.Holds := by
  w_on; o_law
  refine HandSHeadRun.head_any (r := OpenLaw.row PySem.Challenge.rw_rungbounds_k36_answers_of_wishes) (q := view (OpenLaw.row PySem.Challenge.rw_rungbounds_k36_answers_of_wishes).prog [41]) (H := Pf.hk) (ob := Pf.ob) (M := 6000) (loose := Pf.loose) (d := HandSHeadRun.topDef (OpenLaw.row PySem.Challenge.rw_rungbounds_k36_answers_of_wishes).prog 41) (kwd := []) Pf.ob_eq
    (by kernel_rfl) (fun s => by kernel_rfl) Pf.run (by kernel_rfl) (by kernel_rfl) (by kernel_rfl) (by rfl) (by first | assumption | decide +kernel) (by decide +kernel) ⟨rfl, rfl, rfl, rfl, rfl, by decide +kernel⟩ ?hw ?hc
  case hw => w_witness2
  case hc =>
    refine L2.walk_ofE (l := PySem.Challenge.rw_rungbounds_k36_answers_of_wishes) (n := 63) (k := 12) (x := "_law_script") (CX := L2.CX0) rfl (by decide) (by kernel_rfl) ⟨rfl, by decide, by decide⟩ ?F (fun _ _ _ _ z => z)
    intro w mg fa h Y G hmg0
    obtain ⟨K, KX, c⟩ := Y
    have hmg : mg ("law" : PySem.Str) = some (.ref fa) := by
      have e : (HandSHeadRun.topDef (OpenLaw.row PySem.Challenge.rw_rungbounds_k36_answers_of_wishes).prog 41).name = ("law" : PySem.Str) := by kernel_rfl
      rw [← e]
      exact hmg0
    obtain ⟨T⟩ := Pf.facts KX G c
    have e := hmg.symm.trans T.m_law
    cases e
    have b := L2.FunD.bindsA (ps := ["_law_script"]) T.F_law fun _ _ _ _ _ _ us hl => match us, hl with | [_], _ => rfl
    exact ⟨K, T.fd_law, Pf.sp_law K, KX, fun s v => b s [v] rfl, fun H a ns hl hO hS => ⟨a, ns, rfl, hS, hl, fun _ => rfl⟩, fun base hb hn => Pf.ok_law0 (w := w) (base := base) T⟩
#print axioms PySem.Challenge.cw_rungbounds_k36_answers_of_wishes_holds
