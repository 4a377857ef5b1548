import PyProof.Rows.All
import Wide.All
import OpenK.AllK
import Wide.FinOn
import KE.KStateDown
import KE.KExcSuper
import KE.KExcIs
import Lean
import HandS.ForMost
import HandS.ForExc
import HandS.ExcSuper
import HandS.ExcField
import HandS.ExcIs
import HandS.Defaults
import HandS.HeadHook3
import HandS.HeadEnd
import HandS.Head2
import HandS.WideBits
import HandS.Wide
import HandS.Evl
import HandS.CallSlots
import HandS.IsInst
import HandS.Codes
import HandS.SortInts
import HandS.Flow
import HandS.More
import HandS.Star
import HandS.ClsMeth
import HandS.HeadNt
import HandS.OwnEq
import HandS.Style
import HandS.FStr
import KE.KCallOwn
import KE.GoesEnum
import HandS.Walk
import HandS.ExcCtx
import HandS.Hot
import HandS.HotCalls
import HandS.RaiseFrom
import HandS.EndBits
import KE.KSuper
import KE.KSuperObj
import HandS.SuiteRaise
import HandS.Conv
import PyProof.DictDisplay
import HandS.MakeKwOnly
import HandS.MakeKw
import HandS.Deep
import HandS.TryMany
import HandS.ExcValue
import HandS.SetBool
import HandS.Strs
import OpenK.KMeth
import OpenK.KOps
import KE.DataCmp
import KE.SortData
import PyProof.AttrMiss
import HandS.Zip
import HandS.TupAny
import HandS.TryOnly
import HandS.TupMul
import KE.GoesMore
import KE.GoesZip
import HandS.Text
import PyProof.StrOps2
import HandS.ExcOwn
import HandS.Flt
import HandS.DictComp
import KE.KIntText
import KE.KUnpackStar
import PyProof.RulesMatchSeq
import PyProof.Rows.MatchSeqLen
import KE.KParD
import HandS.GenBody
import HandS.GenCall
import HandS.GenYield
import HandS.GenList
import HandS.Property
import KE.KWithOwn
import PySem.Challenge.RW_rungbounds_k57_errors_and_their_fields
set_option Elab.async false
set_option linter.all false
set_option maxRecDepth 100000
set_option maxHeartbeats 8000000
set_option exponentiation.threshold 10000
namespace PySem
namespace ErrX
open PySem.W PySem.Calls PyProof.Rows PySem.HandSPX
def iA (x : Str) (p1 p2 : Pos) : Arguments := { posonlyargs := [], args := [{ arg := "self", annotation := none, pos := p1 }, { arg := x, annotation := none, pos := p2 }], vararg := none, kwonlyargs := [], kw_defaults := [], kwarg := none, defaults := [] }
def iB (x f msg : Str) (q1 q2 q3 q4 q5 q6 q7 q8 q9 q10 : Pos) : List Stmt :=
  [.Expr (.Call (.Attribute (.Call (.Name "super" q1) [] [] q2) "__init__" q3) [.Constant (.str msg) 0 q4] [] q5) q6,
   .Assign [.Attribute (.Name "self" q7) f q8] (.Name x q9) q10]
def iS (x : Str) : Scope := { kind := .function, names := [(PySem.Str.ofString "self", .local), (x, .local), (PySem.Str.ofString "__class__", .free), (PySem.Str.ofString "super", .globalImplicit)], isGenerator := false, isCoroutine := false, more := [] }
structure ErrTxt (P : Program) (K : Frag) (C : Addr) (x f : Str) : Prop where
  cls : ∃ nm q N bs bm sn sub ab col dd k0 k1 k2 k3 k5, K.lookup C = some (excClassObj nm q C N bs bm true sn sub ab col dd k0 k1 k2 k3 k5 "ValueError.__new__") ∧ refsVE bm = true
  along : ∃ cd, clsIn K C = some cd ∧ alongIn K "__init__" ((cd.mro.dropWhile (· != .ref C)).drop 1) = some (some (.builtin "ValueError.__init__"))
  opq : nsIn K cStatics "thirdparty.any" = some none
  selfC : mroIn K C (.ref C) = some true
  ve : subIn K (.ref C) (.type "ValueError") = some true
  sa : findIn K (.ref C) "__setattr__" = some (some (.builtin "object.__setattr__"))
  ga : findIn K (.ref C) "__getattribute__" = some (some (.builtin "BaseException.__getattribute__"))
  gg : findIn K (.ref C) "__getattr__" = some none
  noN : findIn K (.ref C) f = some none
  kC : keepIn K (.ref C) = true
  exC : subIn K (.ref C) (.type "BaseException") = some true
  tyC : typeIn K (.ref C) = some (.type "type")
  hdC : hasDictIn K C = true
  fn : ∃ fI, findIn K (.ref C) "__init__" = some (some (.ref fI)) ∧ typeIn K (.ref fI) = some (.type "function") ∧
    ∃ (oc : Value) (od : Option Addr) (doc pm kV : Value) (an : Option Addr) (cda cc : Addr) (ct : Value) (osl : Array (Option Value)) (nm qual msg : Str) (p1 p2 q1 q2 q3 q4 q5 q6 q7 q8 q9 q10 : Pos),
      (q3.endLine == q5.line) = true ∧ K.lookup fI = some ⟨oc, od, .func (ksFn nm qual (iA x p1 p2) (iB x f msg q1 q2 q3 q4 q5 q6 q7 q8 q9 q10) (iS x) .none kV doc pm an (.ref cda) ct cc), osl⟩ ∧ codeIn K (.ref cda) qual = true ∧
      (∃ ccl cdd vs ccs file tf, K.lookup cda = some ⟨ccl, cdd, .fields vs, ccs⟩ ∧ vs[2]? = some (.str file tf) ∧ ((P.main.file : Str) == file) = true) ∧
      ∃ cl cld csl, K.lookup cc = some ⟨cl, cld, .cell (some (.ref C)), csl⟩
  top : (P.main.scope.names.lookup ("super" : Str)).isSome = false
  xs : (x == ("self" : Str)) = false
  xc : (("__class__" : Str) == x) = false
  xu : (("super" : Str) == x) = false
  xd : (x == ("__debug__" : Str)) = false
  bnd : ∀ (nm qual : Str) (Bd : List Stmt) (kV doc pm : Value) (an : Option Addr) (cdv ct : Value) (cc : Addr) (p1 p2 : Pos) (u v : Value), bindArgs (ksFn nm qual (iA x p1 p2) Bd (iS x) .none kV doc pm an cdv ct cc) ⟨[u, v], []⟩ = pure [(("self" : Str), u), (x, v)]
theorem one_size (v : Value) : [v].length ≤ sizeLine := by
  rw [sizeLine_eq]
  exact (by decide : 1 ≤ 16777216)
structure Made (h h' : Heap) (e C d : Addr) (f : Str) (v : Value) : Prop where
  keep : ∀ b o, h.get? b = some o → h'.get? b = some o
  new : h.objs.size ≤ e
  obj : ∃ oe vs, h'.get? e = some oe ∧ oe.cls = .ref C ∧ oe.dict = some d ∧ oe.data = .fields vs ∧ vs[1]? = some .none ∧ vs[2]? = some .none ∧ 4 < vs.size
  dbig : h.objs.size ≤ d
  dne : d ≠ e
  ns : h'.Ns1 d (fun y => if y = f then some v else none)
section
variable {prog : Program} {w : World} {A : Around} {E : Value → Shared → Prop} {h : Heap} {g : Array GenState} {d : Drawn} {t : Nat} {os : OsState}
variable {nm q : Str} {C N : Addr} {bs bm : List Value} {hdct : Bool} {sn : List Str} {sub : List Value} {ab : Bool} {col : Option Bool} {dd : Option Addr} {k0 k1 k2 k3 k5 : Option Value}
theorem call_bw {u e t0 : Addr} {rest : List Value} {Q : Value → Shared → Prop}
    (hC : h.get? C = some (excClassObj nm q C N bs bm hdct sn sub ab col dd k0 k1 k2 k3 k5 "ValueError.__new__")) (he : h.get? e = some (excO C t0)) (hu : h.get? u = some (kxs_mw "ValueError.__init__" e)) (hrest : rest.length ≤ sizeLine)
    (hq : ∀ h' t1, (∀ b o, b ≠ e → h.get? b = some o → h'.get? b = some o) → h'.get? e = some (excO C t1) → Q .none ⟨h', g, d, t, os⟩) :
    wpAny (model prog w) A (call (.ref u) rest) Q E ⟨h, g, d, t, os⟩ := by
  refine wpAny_call (codeAny_of_tree ?_)
  show wpAny _ A.in1 (callAny (.ref u) ⟨rest, []⟩) _ _ _
  simp only [callAny]
  refine wpAny_bind (wpAny_load hu ?_)
  simp only [kxs_mw, show (Value.type "method-wrapper" == Value.type "method" || Value.type "method-wrapper" == Value.type "builtin_function_or_method" || Value.type "method-wrapper" == Value.type "method-wrapper") = true by decide, if_true]
  refine W.KFB.if_so (by decide) ?_
  refine wpAny_bind (ESX.check_bound F.excBase_ValueError hC he rfl ?_)
  refine wpAny_bind (wpAny_pure (wpAny_pure ?_))
  refine ⟨Code.quiet_builtin _ (by decide +kernel), codeAny_builtin F.excBase_ValueError.initEntry ?_⟩
  rw [Around.under_plainId F.excBase_ValueError.init.plain _]
  wp_walk
  refine hq _ h.objs.size (fun b o hb ho => ?_) ?_
  · rw [Heap.get?_update_other _ _ (Ne.symm hb)]
    exact Heap.get?_push_of_some _ ho
  · rw [Heap.get?_update_self _ (Heap.get?_push_of_some _ he) rfl]
    rfl
end
section
variable {prog : Program} {w : World} {A : Around} {E : Value → Shared → Prop} {R : Result → Shared → Prop} {s : Shared} {K : Frag} {mg mb : Str → Option Value} {C : Addr} {x f : Str}
structure InitEnd (h h' : Heap) (e C dx : Addr) (f : Str) (v : Value) : Prop where
  keep : ∀ b o, b ≠ e → h.get? b = some o → h'.get? b = some o
  obj : ∃ t1, h'.get? e = some { cls := .ref C, dict := some dx, data := .fields #[.ref t1, .none, .none, .none, .bool false, .none] }
  dbig : h.objs.size ≤ dx
  dne : dx ≠ e
  ns : h'.Ns1 dx (fun y => if y = f then some v else none)
theorem clsIn_of {nm q : Str} {N : Addr} {bs bm : List Value} {sn : List Str} {sub : List Value} {ab : Bool} {col : Option Bool} {dd : Option Addr} {k0 k1 k2 k3 k5 : Option Value}
    (hC : K.lookup C = some (excClassObj nm q C N bs bm true sn sub ab col dd k0 k1 k2 k3 k5 "ValueError.__new__")) :
    clsIn K C = some { name := nm, bases := bs, mro := .ref C :: bm, ns := N, qualname := q, hasDict := true, slotNames := sn, subclasses := sub, abstract := ab, collection := col, hasDel := false } := by
  unfold clsIn; rw [hC] <;> rfl
theorem mcall_one {o : Expr} {m : Str} {apos pos : Pos} {env : Env} {ov : Value} {n : Nat} {args : List (Bool × Sem Value)} (hf : methodCallForm n args [] = true) (hl : (apos.endLine == pos.line) = true) :
    methodCall o m apos pos env ov n args [] = (do
      let (f, first) ← holding [ov] (getMethod ov m (do return (← importBound o env).getD true))
      callWith pos f first args []) := by
  have e1 : calleeOf (methodCallForm n args []) o env ov m = getMethod ov m (do return (← importBound o env).getD true) := by
    rw [hf] <;> rfl
  have e2 : methodCallPos (methodCallForm n args []) o env apos pos = pure pos := by
    unfold methodCallPos
    exact if_pos (by rw [hl, Bool.or_true])
  unfold methodCall
  rw [e1, e2]
  first
    | rfl
    | simp only [pure_bind]
theorem look_x (T : ErrTxt prog K C x f) : (iS x).names.lookup x = some .local := by
  have e := T.xs
  have e2 : (x == PySem.Str.ofString "self") = false := e
  simp [iS, List.lookup, e2]
theorem look_c (T : ErrTxt prog K C x f) : (iS x).names.lookup ("__class__" : Str) = some .free := by
  have e := T.xc
  have e0 : ((PySem.Str.ofString "__class__") == PySem.Str.ofString "self") = false := by decide +kernel
  have e2 : (PySem.Str.ofString "__class__" == x) = false := e
  show List.lookup (PySem.Str.ofString "__class__") (iS x).names = _
  simp [iS, List.lookup, e2, e0]
theorem look_u (T : ErrTxt prog K C x f) : (iS x).names.lookup ("super" : Str) = some .globalImplicit := by
  have e := T.xu
  have e0 : ((PySem.Str.ofString "super") == PySem.Str.ofString "self") = false := by decide +kernel
  have e1 : ((PySem.Str.ofString "super") == PySem.Str.ofString "__class__") = false := by decide +kernel
  have e2 : (PySem.Str.ofString "super" == x) = false := e
  show List.lookup (PySem.Str.ofString "super") (iS x).names = _
  simp [iS, List.lookup, e2, e0, e1]
theorem look_s : (iS x).names.lookup ("self" : Str) = some .local := by
  show List.lookup (PySem.Str.ofString "self") (iS x).names = _
  simp [iS, List.lookup]
theorem err_init (T : ErrTxt prog K C x f) {e t0 fI : Addr} {v : Value} (hfI : findIn K (.ref C) "__init__" = some (some (.ref fI))) (X : K.In s.heap) (G : s.heap.Ns mainGlobals mg) (Gs : mg "super" = none) (B : s.heap.Ns builtinsNs mb) (Bs : mb "super" = some (.type "super"))
    (hlim : s.heap.NoLimit) (hx : s.heap.get? e = some (excO C t0)) (hnx : K.lookup e = none) (hroom : A.depth < recursionLimit)
    (hq : ∀ h' tk dx, InitEnd s.heap h' e C dx f v → R (.ok (.ret .none)) { s with heap := h', toks := tk }) :
    codeAny (model prog w) A (.call (.ref fI) ⟨[.ref e, v], []⟩) R s := by
  obtain ⟨fI', hfI', hty, oc, od, doc, pm, kV, an, cda, cc, ct, osl, nm0, qual, msg, p1, p2, q1, q2, q3, q4, q5, q6, q7, q8, q9, q10, hln, ho, hcd, ⟨ccl, cdd, cvs, ccs, file, tf, hcode, hvs, hfile⟩, ⟨cl, cld, csl, hcell⟩⟩ := T.fn
  have ef : fI' = fI := by
    have z := hfI'.symm.trans hfI
    simpa using z
  subst ef
  obtain ⟨nm, q, N, bs, bm, sn, sub, ab, col, dd, k0, k1, k2, k3, k5, hC, hbm⟩ := T.cls
  have hcl := clsIn_of hC
  obtain ⟨cd', hcd', hal⟩ := T.along
  have hcdE := hcd'
  rw [hcl] at hcd'
  have hcd'' := (Option.some.inj hcd')
  have hlx := look_x T
  have hlc := look_c T
  have hlu := look_u T
  have hls := look_s (x := x)
  refine ks_codeAny_call_defAt (fd := ksFn nm0 qual (iA x p1 p2) (iB x f msg q1 q2 q3 q4 q5 q6 q7 q8 q9 q10) (iS x) .none kV doc pm an (.ref cda) ct cc) (binds := [("self", .ref e), (x, v)]) hroom (X _ _ ho) rfl hlim (codeRec_of X hcd) rfl
    (BindsTo.of_eq (T.bnd ..)) ?hcell ?hloc (fun h₁ hns hk₁ => ?_) rfl rfl rfl
  case hcell =>
    intro y hy
    have hy' : y ∈ [(PySem.Str.ofString "self", NameKind.local), (x, NameKind.local), (PySem.Str.ofString "__class__", NameKind.free), (PySem.Str.ofString "super", NameKind.globalImplicit)] := hy
    simp only [List.mem_cons, List.not_mem_nil, or_false] at hy'
    rcases hy' with rfl | rfl | rfl | rfl <;> (intro z; cases z)
  case hloc =>
    intro y hy
    simp only [List.mem_cons, List.not_mem_nil, or_false] at hy
    rcases hy with rfl | rfl
    · exact hls
    · exact hlx
  have X₁ : K.In h₁ := X.keeps hk₁
  have hx₁ := hk₁ _ _ hx
  have hmx : (fun y => List.lookup y ([(("self" : Str), Value.ref e), (x, v)] : List (Str × Value)).reverse) x = some v := by simp [List.lookup]
  have hms : (fun y => List.lookup y ([(("self" : Str), Value.ref e), (x, v)] : List (Str × Value)).reverse) ("self" : Str) = some (.ref e) := by
    have e1 : (("self" : Str) == x) = false := by
      rw [Bool.eq_false_iff]
      intro z
      have z2 := (beq_iff_eq.mp z)
      have z3 := T.xs
      rw [← z2] at z3
      simp at z3
    simp [List.lookup, e1]
  obtain ⟨hp, g, dr, tk, os⟩ := s
  have hlc' : (ksEnv qual (iS x) hp.objs.size fI' (.ref cda) cc).kindOf "__class__" = some .free := hlc
  have hlu' : (ksEnv qual (iS x) hp.objs.size fI' (.ref cda) cc).kindOf "super" = some .globalImplicit := hlu
  have hls' : (ksEnv qual (iS x) hp.objs.size fI' (.ref cda) cc).kindOf "self" = some .local := hls
  have hlx' : (ksEnv qual (iS x) hp.objs.size fI' (.ref cda) cc).kindOf x = some .local := hlx
  obtain ⟨oD, hD1, hD2⟩ : ∃ oD, h₁.get? C = some oD ∧ ∃ cdc, oD.data = .cls cdc := ⟨_, X₁ _ _ hC, _, rfl⟩
  obtain ⟨cdc, hD2⟩ := hD2
  have I1 : InstAt h₁ e (excO C t0) C none := ⟨hx₁, rfl, rfl, trivial⟩
  show wpAt _ _ _ (execs (iB x f msg q1 q2 q3 q4 q5 q6 q7 q8 q9 q10) (ksEnv qual (iS x) hp.objs.size fI' (.ref cda) cc)) _ _ _
  refine ks_wpAt_execs_cons (ks_wpAt_Expr_any (ks_wpAt_MethodCall (pl := (do return (← importBound (.Call (.Name "super" q1) [] [] q2) (ksEnv qual (iS x) hp.objs.size fI' (.ref cda) cc)).getD true)) ?_ ?he))
  case he =>
    rw [arm_eval_Call]
    refine congrArg _ (funext fun ov => ?_)
    refine congrArg _ (funext fun _ => ?_)
    exact mcall_one rfl hln
  refine ks_wpAt_super_base (env := ksEnv qual (iS x) hp.objs.size fI' (.ref cda) cc) hlu' hlc' (by decide +kernel) rfl (X₁ _ _ ho) rfl rfl rfl (X₁ _ _ hcode) rfl hvs hfile T.top ?_
  refine ks_loadName_global rfl hlu' (loadGlobal_builtin (env := ksEnv qual (iS x) hp.objs.size fI' (.ref cda) cc) (G.keeps hk₁) Gs (B.keeps hk₁) Bs ⟨rfl, ?_⟩)
  refine wpAny_loadName_free rfl hlc' rfl ⟨_, X₁ _ _ hcell, rfl⟩ ?_
  refine wpAny_loadName_local rfl hls' hns hms ?_
  refine ks_wpAny_isType_cls hD1 hD2 ⟨rfl, ?_⟩
  refine ks_wpAny_call_super hD1 hD2 hx₁ rfl (fun c z => by cases z) (looks_mroIn X₁ T.selfC) (fun h₂ e₂ k₂ => ?_)
  have X₂ : K.In h₂ := X₁.keeps k₂
  have hx₂ := k₂ _ _ hx₁
  have I2 : InstAt h₂ e (excO C t0) C none := ⟨hx₂, rfl, rfl, trivial⟩
  have hI2 : Looks (model prog w) h₂ (isInstance (.ref e) (.type "ValueError")) true := I2.type.andThen (looks_subIn X₂ T.ve)
  refine kxs_getMethod kxs_ValueError e₂ (looks_opaque X₂ T.opq) (l₀ := cd'.mro) (fun A Q E s k q => wpAny_bind ((looks_clsIn X₂ hcdE) A _ E s k (wpAny_pure q))) rfl X₂ hal hI2 (ks_ne X₂ I2 hcdE) (by decide +kernel) ?_
  have hu₃ : (h₂.push (kxs_mw "ValueError.__init__" e)).get? h₂.objs.size = some (kxs_mw "ValueError.__init__" e) := Heap.get?_push_at rfl rfl
  have k₃ : ∀ b o, h₂.get? b = some o → (h₂.push (kxs_mw "ValueError.__init__" e)).get? b = some o := fun b o z => Heap.get?_push_of_some _ z
  refine kxs_callWith (i := "ValueError.__init__") (x := e) rfl ?_
  refine evalArgs_plain (PyProof.Rows.spliced_more (Constant_str (PyProof.Rows.spliced_none ?_)))
  refine ⟨hu₃, ?_⟩
  show wpAny _ _ (call (.ref h₂.objs.size) [_]) _ _ _
  refine call_bw (nm := nm) (q := q) (N := N) (bs := bs) (bm := bm) (hdct := true) (sn := sn) (sub := sub) (ab := ab) (col := col) (dd := dd) (k0 := k0) (k1 := k1) (k2 := k2) (k3 := k3) (k5 := k5) (X₂.keeps k₃ _ _ hC) (k₃ _ _ hx₂) hu₃ (one_size _) (fun h₄ t1 k₄ hx₄ => ?_)
  have hk14 : ∀ b o, b ≠ e → h₁.get? b = some o → h₄.get? b = some o := fun b o hb z => k₄ b o hb (k₃ b o (k₂ b o z))
  have hLe : hp.objs.size ≠ e := Nat.ne_of_gt (Heap.lt_size hx)
  have hns₄ : h₄.Ns hp.objs.size (fun y => List.lookup y ([(("self" : Str), Value.ref e), (x, v)] : List (Str × Value)).reverse) := by
    obtain ⟨o, es, ep, ho1, r⟩ := hns
    exact ⟨o, es, ep, hk14 _ _ hLe ho1, r⟩
  have X₄ : K.In h₄ := fun a o z => hk14 a o (fun y => by rw [y, hnx] at z; cases z) (X₁ a o z)
  refine ks_wpAt_execs_cons (ks_wpAt_Assign_Attr (wpAt_of_wpAny (ESX.ldL (env := ksEnv qual (iS x) hp.objs.size fI' (.ref cda) cc) hns₄ hmx (ESX.ldL (env := ksEnv qual (iS x) hp.objs.size fI' (.ref cda) cc) hns₄ hms ?_ rfl hls' (by decide)) rfl hlx' T.xd)))
  refine set_plain X₄ (ox := excO C t1) (od := none) ⟨hx₄, rfl, rfl, trivial⟩ T.sa ?_
  refine exc_osa X₄ hx₄ hcl (show refsVE (.ref C :: bm) = true from hbm) rfl T.noN (fun h₅ tk₅ dx k₅ dn dne hx₅ hn₅ => ?_)
  refine wpAt_of_wpAny (wpAny_execs_nil (hq h₅ tk₅ dx ⟨fun b o hb z => k₅ b o hb (hk14 b o hb (hk₁ b o z)), ⟨t1, hx₅⟩, ?_, dne, hn₅⟩))
  refine Nat.le_trans ?_ dn
  obtain ⟨o, es, ep, ho1, r⟩ := hns₄
  exact Nat.le_of_lt (Heap.lt_size ho1)
theorem err_made (T : ErrTxt prog K C x f) {v : Value} (X : K.In s.heap) (G : s.heap.Ns mainGlobals mg) (Gs : mg "super" = none) (B : s.heap.Ns builtinsNs mb) (Bs : mb "super" = some (.type "super")) (hlim : s.heap.NoLimit) (hroom : A.depth + 1 < recursionLimit)
    (hq : ∀ h' tk e d, Made s.heap h' e C d f v → R (.ok (.ret (.ref e))) { s with heap := h', toks := tk }) :
    codeAny (model prog w) A (.call (.ref C) ⟨[v], []⟩) R s := by
  obtain ⟨nm, q, N, bs, bm, sn, sub, ab, col, dd, k0, k1, k2, k3, k5, hC, hbm⟩ := T.cls
  obtain ⟨fI, iC, tC, _⟩ := id T.fn
  obtain ⟨hp, g, dr, tk, os⟩ := s
  have k : ∀ b o, hp.get? b = some o → ((hp.push (kdv_tup [v])).push (excO C hp.objs.size)).get? b = some o := fun b o e => Heap.get?_push_of_some _ (Heap.get?_push_of_some _ e)
  have hget : ((hp.push (kdv_tup [v])).push (excO C hp.objs.size)).get? (hp.objs.size + 1) = some (excO C hp.objs.size) := by heap_get
  have hnx : K.lookup (hp.objs.size + 1) = none := by
    cases e : K.lookup (hp.objs.size + 1) with
    | none => rfl
    | some o =>
      have z : hp.get? (hp.objs.size + 1) = some o := X _ _ e
      exact absurd (Nat.lt_of_succ_lt (Heap.lt_size z)) (Nat.lt_irrefl _)
  refine call_own F.excBase_ValueError (fun X => refsVE_contains X bm hbm) (X _ _ hC) (looks_findIn X iC) (fun self => bind_fn X self tC) (one_size v) ?_
  refine err_init (s := ⟨(hp.push (kdv_tup [v])).push (excO C hp.objs.size), g, dr, tk, os⟩) T iC (X.keeps k) (G.keeps k) Gs (B.keeps k) Bs (hlim.keeps k) hget hnx ?_ fun h' tk' dx ⟨k', ⟨t1, hx⟩, dn, dne, hns⟩ => ?_
  · show A.depth + 1 < recursionLimit
    exact hroom
  · have old : ∀ b o, hp.get? b = some o → h'.get? b = some o := fun b o e => k' b o (Nat.ne_of_lt (Nat.lt_succ_of_lt (Heap.lt_size e))) (k b o e)
    have z : hp.objs.size + 1 + 1 ≤ dx := by
      first
        | (simpa only [Heap.size_push] using dn)
        | exact dn
        | (have q := dn; rw [Heap.size_push, Heap.size_push] at q; exact q)
    exact ⟨rfl, hq h' tk' (hp.objs.size + 1) dx ⟨old, Nat.le_succ _, ⟨_, _, hx, rfl, rfl, rfl, rfl, rfl, by show 4 < 6; decide⟩, Nat.le_trans (Nat.le_trans (Nat.le_succ _) (Nat.le_succ _)) z, dne, hns⟩⟩
end
end ErrX
end PySem
namespace L2
open PySem PySem.Spec PyProof.Rows
theorem relO_one {v : V} {v' : Value} (r : RelV v v') (x f : Str) : RelO (List.lookup f [(x, v)]) (if f = x then some v' else none) := by
  by_cases hw : f = x
  · subst hw
    rw [if_pos rfl]
    have q : List.lookup f [(f, v)] = some v := by simp [List.lookup]
    rw [q]
    exact r
  · rw [if_neg hw]
    have qw : (f == x) = false := by simpa using hw
    have q2 : List.lookup f [(x, v)] = none := by simp [List.lookup, qw]
    rw [q2]
    trivial
section
variable {X : Cx} {C : Addr} {x f nm : Str}
theorem errXf {P : Program} {K : PySem.W.Frag} (T : PySem.ErrX.ErrTxt P K C x f) : XfC K C := ⟨T.ga, T.gg, T.exC, T.hdC⟩
end
end L2
namespace PySem.W
open PySem PySem.Spec PySem.Calls PyProof.Rows
section
variable {prog : Program} {w : World} {A : Around} {E : Value → Shared → Prop} {s : Shared} {K : Frag} {x D : Addr} {ox : Obj} {od : Option Obj}
end
end PySem.W
namespace L2
open PySem PySem.Spec PyProof.Rows
def excB (K : PySem.W.Frag) (D : Addr) : Bool := decide (PySem.W.findIn K (.ref D) "__getattribute__" = some (some (.builtin "BaseException.__getattribute__"))) && (decide (PySem.W.findIn K (.ref D) "__getattr__" = some none) && (decide (PySem.W.subIn K (.ref D) (.type "BaseException") = some true) &&
  (PySem.W.hasDictIn K D && (decide (PySem.W.findIn K (.ref D) "__class__" = some (some (.builtin "object.__class__"))) && (decide (PySem.W.specialIn K (.builtin "object.__class__") "__get__" = some (some (.builtin "getset_descriptor.__get__"))) && (decide (PySem.W.takesIn K (.builtin "object.__class__") = some true) && decide (PySem.W.mroIn K D (.type "object") = some true)))))))
theorem excB_ok {K : PySem.W.Frag} {D : Addr} (h : excB K D = true) : ExcC K D := by
  unfold excB at h
  simp only [Bool.and_eq_true, decide_eq_true_eq] at h
  obtain ⟨h1, h2, h3, h4, h5, h6, h7, h8⟩ := h
  exact ⟨h1, h2, h3, h4, h5, h6, h7, h8⟩
end L2
namespace Hd
open PySem PySem.Spec PyProof.Rows L2 He
abbrev FnE : Type := Option (Str × Str × Arguments × FuncBody × Scope × Addr × List Str × Addr)
def fnE (K : PySem.W.Frag) (p : Str × Option Str) : FnE := match K.lookup (fAd K p) with
  | some ⟨_, _, .func fd, _⟩ => some (fd.name, fd.qualname, fd.params, fd.body, fd.scope, fd.globals, fd.closure.map (·.1), fd.builtins)
  | _ => none
structure ErD where
  cls : Str
  qual : Str
  st : Stmt
def ErD.val (d : ErD) : FnE := some ("__init__", d.qual, defArgs d.st, .stmts (defBody d.st), defScope d.st, mainGlobals, ["__class__"], builtinsNs)
def clsB (K : PySem.W.Frag) (C : Addr) : Bool := match K.lookup C with
  | some ⟨.type "type", _, .cls cd, sl⟩ => (match cd.mro, sl.toList with
    | .ref C' :: bm, [_, _, _, _, some (.builtin n), _] => C' == C && (n == "ValueError.__new__" && (!cd.hasDel && (cd.hasDict && PySem.HandSPX.refsVE bm)))
    | _, _ => false)
  | _ => false
theorem clsB_ok {K : PySem.W.Frag} {C : Addr} (h : clsB K C = true) : ∃ nm q N bs bm sn sub ab col dd k0 k1 k2 k3 k5, K.lookup C = some (excClassObj nm q C N bs bm true sn sub ab col dd k0 k1 k2 k3 k5 "ValueError.__new__") ∧ PySem.HandSPX.refsVE bm = true := by
  unfold clsB at h
  split at h
  · rename_i dd cd sl ho
    split at h
    · rename_i C' bm k0 k1 k2 k3 n k5 hm hs
      simp only [Bool.and_eq_true, beq_iff_eq, Bool.not_eq_true'] at h
      obtain ⟨rfl, rfl, hdel, hdi, hbm⟩ := h
      obtain ⟨nm, bs, mro, ns, qn, hd, sn, sub, ab, col, del⟩ := cd
      dsimp only at hm hdel hdi
      subst hm hdel hdi
      have hsl : sl = #[k0, k1, k2, k3, some (.builtin "ValueError.__new__"), k5] := by
        obtain ⟨l⟩ := sl
        simp only at hs
        rw [hs]
      subst hsl
      exact ⟨nm, qn, ns, bs, bm, sn, sub, ab, col, dd, k0, k1, k2, k3, k5, ho, hbm⟩
    · cases h
  · cases h
def alongB (K : PySem.W.Frag) (C : Addr) : Bool := match PySem.W.clsIn K C with
  | some cd => decide (PySem.W.alongIn K "__init__" ((cd.mro.dropWhile (· != .ref C)).drop 1) = some (some (.builtin "ValueError.__init__")))
  | none => false
theorem alongB_ok {K : PySem.W.Frag} {C : Addr} (h : alongB K C = true) : ∃ cd, PySem.W.clsIn K C = some cd ∧ PySem.W.alongIn K "__init__" ((cd.mro.dropWhile (· != .ref C)).drop 1) = some (some (.builtin "ValueError.__init__")) := by
  unfold alongB at h
  split at h
  · rename_i cd hc
    exact ⟨cd, hc, of_decide_eq_true h⟩
  · cases h
def initB (P : Program) (K : PySem.W.Frag) (fI C : Addr) (qual : Str) : Bool := match K.lookup fI with
  | some ⟨_, _, .func fd, _⟩ => (match fd.defaults, fd.code, fd.closure with
    | .none, .ref cda, [(_, cc)] => PySem.W.codeIn K (.ref cda) qual && ((match K.lookup cda with
      | some ⟨_, _, .fields vs, _⟩ => (match (vs[2]? : Option Value) with
        | some (.str file _) => ((P.main.file : Str) == file)
        | _ => false)
      | _ => false) && (match K.lookup cc with
      | some ⟨_, _, .cell (some (.ref C')), _⟩ => C' == C
      | _ => false))
    | _, _, _ => false)
  | _ => false
def errB (P : Program) (K : PySem.W.Frag) (c f qual : Str) : Bool :=
  clsB K (ga K c) && (alongB K (ga K c) && (decide (PySem.W.nsIn K cStatics "thirdparty.any" = some none) && (decide (PySem.W.mroIn K (ga K c) (.ref (ga K c)) = some true) && (decide (PySem.W.subIn K (.ref (ga K c)) (.type "ValueError") = some true) &&
  (eqO (PySem.W.findIn K (.ref (ga K c)) "__setattr__") (some (some (.builtin "object.__setattr__"))) && (eqO (PySem.W.findIn K (.ref (ga K c)) "__getattribute__") (some (some (.builtin "BaseException.__getattribute__"))) &&
  (eqO (PySem.W.findIn K (.ref (ga K c)) "__getattr__") (some none) && (eqO (PySem.W.findIn K (.ref (ga K c)) f) (some none) && (PySem.W.keepIn K (.ref (ga K c)) && (decide (PySem.W.subIn K (.ref (ga K c)) (.type "BaseException") = some true) &&
  (decide (PySem.W.typeIn K (.ref (ga K c)) = some (.type "type")) && (PySem.W.hasDictIn K (ga K c) && (eqO (PySem.W.findIn K (.ref (ga K c)) "__init__") (some (some (.ref (ma K (ga K c) "__init__")))) &&
  (decide (PySem.W.typeIn K (.ref (ma K (ga K c) "__init__")) = some (.type "function")) && initB P K (ma K (ga K c) "__init__") (ga K c) qual))))))))))))))
theorem err_mk {P : Program} {K : PySem.W.Frag} {c f x qual msg : Str} {st : Stmt} {p1 p2 q1 q2 q3 q4 q5 q6 q7 q8 q9 q10 : Pos} (h : errB P K c f qual = true) (e : fnE K (c, some "__init__") = (ErD.mk c qual st).val)
    (hA : defArgs st = PySem.ErrX.iA x p1 p2) (hB : defBody st = PySem.ErrX.iB x f msg q1 q2 q3 q4 q5 q6 q7 q8 q9 q10) (hS : defScope st = PySem.ErrX.iS x) (hl : (q3.endLine == q5.line) = true)
    (top : (P.main.scope.names.lookup ("super" : Str)).isSome = false) (xs : (x == ("self" : Str)) = false) (xc : (("__class__" : Str) == x) = false) (xu : (("super" : Str) == x) = false) (xd : (x == ("__debug__" : Str)) = false)
    (bnd : ∀ (nm qual : Str) (Bd : List Stmt) (kV doc pm : Value) (an : Option Addr) (cdv ct : Value) (cc : Addr) (p1 p2 : Pos) (u v : Value), bindArgs (PySem.W.ksFn nm qual (PySem.ErrX.iA x p1 p2) Bd (PySem.ErrX.iS x) .none kV doc pm an cdv ct cc) ⟨[u, v], []⟩ = pure [(("self" : Str), u), (x, v)]) :
    PySem.ErrX.ErrTxt P K (ga K c) x f := by
  unfold errB at h
  obtain ⟨h1, h⟩ := ba h
  obtain ⟨h2, h⟩ := ba h
  obtain ⟨h3, h⟩ := ba h
  obtain ⟨h4, h⟩ := ba h
  obtain ⟨h5, h⟩ := ba h
  obtain ⟨h6, h⟩ := ba h
  obtain ⟨h7, h⟩ := ba h
  obtain ⟨h8, h⟩ := ba h
  obtain ⟨h9, h⟩ := ba h
  obtain ⟨h10, h⟩ := ba h
  obtain ⟨h11, h⟩ := ba h
  obtain ⟨h12, h⟩ := ba h
  obtain ⟨h13, h⟩ := ba h
  obtain ⟨h14, h⟩ := ba h
  obtain ⟨h15, h16⟩ := ba h
  refine ⟨clsB_ok h1, alongB_ok h2, of_decide_eq_true h3, of_decide_eq_true h4, of_decide_eq_true h5, eqO_ok h6, eqO_ok h7, eqO_ok h8, eqO_ok h9, h10, of_decide_eq_true h11, of_decide_eq_true h12, h13,
    ⟨ma K (ga K c) "__init__", eqO_ok h14, of_decide_eq_true h15, ?_⟩, top, xs, xc, xu, xd, bnd⟩
  unfold initB at h16
  have e2 : fnE K (c, some "__init__") = (match K.lookup (ma K (ga K c) "__init__") with
    | some ⟨_, _, .func fd, _⟩ => some (fd.name, fd.qualname, fd.params, fd.body, fd.scope, fd.globals, fd.closure.map (·.1), fd.builtins)
    | _ => none) := rfl
  rw [e2] at e
  cases q : K.lookup (ma K (ga K c) "__init__") with
  | none =>
    rw [q] at h16
    cases h16
  | some o =>
    obtain ⟨oc, od, dt, osl⟩ := o
    rw [q] at h16 e
    cases dt with
    | func fd =>
      obtain ⟨n1, n2, n3, n4, n5, n6, n7, n8, n9, n10, n11, n12, n13, n14, n15⟩ := fd
      have e3 : (some (n1, n2, n3, n4, n5, n6, n7.map (·.1), n15) : FnE) = (some (("__init__" : Str), qual, defArgs st, FuncBody.stmts (defBody st), defScope st, mainGlobals, [("__class__" : Str)], builtinsNs) : FnE) := e
      simp only [Option.some.injEq, Prod.mk.injEq] at e3
      obtain ⟨e1, e2, e3, e4, e5, e6, e7, e8⟩ := e3
      subst e1 e2 e3 e4 e5 e6 e8
      dsimp only at h16
      split at h16
      · rename_i cda nn cc
        obtain ⟨k1, k2⟩ := ba h16
        obtain ⟨k2, k3⟩ := ba k2
        have en : nn = ("__class__" : Str) := by simpa using e7
        subst en
        refine ⟨oc, od, n10, n11, n9, n12, cda, cc, n14, osl, "__init__", n2, msg, p1, p2, q1, q2, q3, q4, q5, q6, q7, q8, q9, q10, hl, ?_, k1, ?_, ?_⟩
        · rw [← hA, ← hB, ← hS]
        · split at k2
          · rename_i ccl cdd vs ccs hc
            split at k2
            · rename_i file tf hv
              exact ⟨ccl, cdd, vs, ccs, file, tf, hc, hv, k2⟩
            · cases k2
          · cases k2
        · split at k3
          · rename_i cl cld C' csl hc
            have ec : C' = ga K c := by simpa using k3
            subst ec
            exact ⟨cl, cld, csl, hc⟩
          · cases k3
      · cases h16
    | _ => cases h16
def asP (g : Addr → Option Obj) (n : Nat) : List Addr := List.range (n * 400)
abbrev AlP : Type := Bool × List FnW × List FnE
def obsP (fn : List He5.DefA) (er : List ErD) (ex : PySem.W.Frag → Bool) (K : PySem.W.Frag) : AlP := (ex K && fn.all fun d => d.ok K, fn.map fun d => He5.fnA K (d.at_ K), er.map fun d => fnE K (d.cls, some "__init__"))
def valP (fn : List He5.DefA) (er : List ErD) : AlP := (true, fn.map He5.DefA.val, er.map ErD.val)
def SaysP (fn : List He5.DefA) (er : List ErD) (ex : PySem.W.Frag → Bool) (K : PySem.W.Frag) : Prop := obsP fn er ex K = valP fn er
def obsPG (n : Nat) (fn : List He5.DefA) (er : List ErD) (ex : PySem.W.Frag → Bool) (g : Addr → Option Obj) : AlP := obsP fn er ex (frG g (asP g n))
def hookP (n : Nat) (fn : List He5.DefA) (er : List ErD) (ex : PySem.W.Frag → Bool) : PySem.W.Hook where
  α := AlP
  obs := fun s => obsPG n fn er ex s.heap.get?
  val := fun _ => valP fn er
  says := fun _ h => ∃ K : PySem.W.Frag, K.In h ∧ SaysP fn er ex K
  of := fun _ _ e => ⟨_, frG_in, e⟩
  keeps := fun _ _ _ ⟨K, hK, c⟩ k => ⟨K, PySem.W.Frag.In.keeps hK k, c⟩
theorem obsPG_eq {n : Nat} {fn : List He5.DefA} {er : List ErD} {ex : PySem.W.Frag → Bool} {g : Addr → Option Obj} {s : Shared} (h : ∀ a, g a = s.heap.get? a) : obsPG n fn er ex g = (hookP n fn er ex).obs s := by
  have e : g = s.heap.get? := funext h
  rw [e] <;> rfl
section
variable {fn : List He5.DefA} {er : List ErD} {ex : PySem.W.Frag → Bool} {K : PySem.W.Frag}
theorem SaysP.more (c : SaysP fn er ex K) : ex K = true := (ba (show (ex K && fn.all fun d => d.ok K) = true from congrArg (fun z : AlP => z.1) c)).1
theorem SaysP.def_ (c : SaysP fn er ex K) (i : Nat) {d : He5.DefA} (h : fn[i]? = some d := by rfl) : ∃ fd, FunD K d.name d.qual d.params d.body d.scope (d.dvs K) (d.kws K) (d.at_ K) fd := by
  have c2 := (ba (show (ex K && fn.all fun d => d.ok K) = true from congrArg (fun z : AlP => z.1) c)).2
  have e : fn.map (fun d => He5.fnA K (d.at_ K)) = fn.map He5.DefA.val := congrArg (fun z : AlP => z.2.1) c
  have e2 : (fn.map fun d => He5.fnA K (d.at_ K))[i]? = (fn.map He5.DefA.val)[i]? := by rw [e]
  rw [List.getElem?_map, List.getElem?_map, h] at e2
  exact He5.DefA.funD (Option.some.inj e2) (List.all_eq_true.mp c2 d (List.mem_of_getElem? h))
theorem SaysP.err_ (c : SaysP fn er ex K) (i : Nat) {d : ErD} (h : er[i]? = some d := by rfl) : fnE K (d.cls, some "__init__") = d.val := by
  have e : er.map (fun d => fnE K (d.cls, some "__init__")) = er.map ErD.val := congrArg (fun z : AlP => z.2.2) c
  have e2 : (er.map fun d => fnE K (d.cls, some "__init__"))[i]? = (er.map ErD.val)[i]? := by rw [e]
  rw [List.getElem?_map, List.getElem?_map, h] at e2
  exact Option.some.inj e2
end
end Hd
namespace L2
open PySem PySem.Spec PyProof.Rows
theorem fn_calm {P : Program} {w : World} {K : PySem.W.Frag} {mg : Str → Option Value} {base : Heap} {k : Nat} {f : Addr} {fd : FuncData} {ps : List Str} {sp : Sp} (F : FnOk P w K mg base (L2.CX P w) k f fd ps sp)
    (hs : ∀ vs H Q E, sp vs H Q E → sp vs H Q (fun _ _ _ => False)) : FnOk P w K mg base CX0 k f fd ps sp :=
  ⟨F.len, fun A outer s H args us vs Q E hr he hb hv h => codeAny_mono (F.run A outer s H args us vs Q _ hr he hb hv (hs _ _ _ _ h)) (fun r s' q => by
    cases r with
    | error e =>
      obtain ⟨_, _, _, _, _, _, _, _, _, _, _, _, z⟩ := q
      exact z.elim
    | ok f => cases f <;> exact q)⟩
end L2
namespace Hd
open PySem PySem.Spec PyProof.Rows L2 He
end Hd
namespace Hd
open PySem PySem.Spec PyProof.Rows L2
end Hd
namespace Hd
open PySem PySem.W PySem.Calls PyProof.Rows
section
variable {r : OpenRow} {q : Program} {H : Hook} {ob : SharedT → H.α} {M : Nat} {loose : List PySem.Str} {w : World}
abbrev runL (r : OpenRow) (M : Nat) (w : World) : Prop := ∀ os : OsState, (HandSHeadRun.endF (HandSHeadRun.stepQ (HandSHeadRun.denQ HandSHeadRun.tabQ) r.prog w) M r.prog w os).map (fun s => HandSHeadRun.looksF r.prog (boot_heap w.params) s.abs) = some true
abbrev runS (r : OpenRow) (q : Program) (M : Nat) (loose : List PySem.Str) (w : World) : Prop := ∀ os : OsState, (HandSHeadRun.endF (HandSHeadRun.stepQ (HandSHeadRun.denQ HandSHeadRun.tabQ) r.prog w) M r.prog w os).map (fun s => HandSHeadRun.seenQ q loose (importedModules r.prog.main.body) (fun s => xlAt q [] s && recOk r.toRowW.records s) s.abs) = some (openGood q loose)
abbrev runO (r : OpenRow) (H : Hook) (ob : SharedT → H.α) (M : Nat) (w : World) : Prop := ∀ os : OsState, (HandSHeadRun.endF (HandSHeadRun.stepQ (HandSHeadRun.denQ HandSHeadRun.tabQ) r.prog w) M r.prog w os).map (fun s => ob s) = some (H.val w)
theorem run_of (a : runL r M w) (b : runS r q M loose w) (c : runO r H ob M w) : HandSHeadRun.RunEq r q H ob M loose w := fun os => by
  obtain ⟨s, hs, ha⟩ := Option.map_eq_some_iff.mp (a os)
  have hb := b os
  have hc := c os
  rw [hs] at hb hc ⊢
  have hb' := Option.some.inj hb
  have hc' := Option.some.inj hc
  exact congrArg some (congr (congrArg Prod.mk ha) (congr (congrArg Prod.mk hb') hc'))
end
end Hd
namespace SupX
open PySem PySem.Spec PyProof.Rows L2 PySem.Calls
end SupX
namespace Hd
open PySem PySem.Spec PyProof.Rows L2
end Hd
namespace AndX
open PySem PySem.Spec PyProof.Rows L2 PySem.Calls
def missMsg (n : Str) (name : Str) : Str := (s!"type object '{n.toString}' has no attribute '" : Str) ++ name ++ "'"
end AndX
namespace IdC
open PySem PySem.Spec PyProof.Rows L2
end IdC
namespace BareX
open PySem PySem.Spec PyProof.Rows L2
def ownEB (K : PySem.W.Frag) (C : Addr) : Bool := PySem.W.excIn K C [.type "ValueError", .type "Exception", .type "BaseException", .type "object"] "ValueError.__new__" && (PySem.W.keepIn K (.ref C) && (decide (PySem.W.subIn K (.ref C) (.type "BaseException") = some true) && decide (PySem.W.typeIn K (.ref C) = some (.type "type"))))
end BareX
namespace Cl
open PySem PySem.Spec PyProof.Rows L2
section
variable {X : Cx} {CX : CXT} {k : Nat} {f C g : Addr} {sp : Sp} {E : L2.St → XK} {x m : Str} {p pos apos : Pos} {e o fe : Expr} {es : List Expr} {ta tf : TE} {t : TA}
theorem runS {pins : List (Addr × Obj)} {σ : L2.St} {H : Hp} {s : Shared} {Q : VK} {us : List Value} {vs : List V} (F : FnR X.prog X.w X.K X.mg X.base CX k f sp) (hr : Room k X.A) (hx : PassesAt CX X σ (E σ)) (I : Inv X pins σ H s) (r : Vals vs us) (h : sp vs H Q (E σ)) :
    codeAny (model X.prog X.w) X.A (.call (.ref f) ⟨us, []⟩) (fun r s' => match r with | .ok (.ret v) => EP X pins σ Q v s' | .ok _ => False | .error e => X.xe e s') s :=
  codeAny_mono (F X.A X.stack s H us vs Q (E σ) hr I.env0 r h) fun r s' hq => by
    cases r with
    | error er => exact hx pins H s er s' I hq
    | ok fl => cases fl <;> first | exact I.after hq | exact False.elim hq
def tF (sp : Sp) (E : L2.St → XK) (t : TA) : TE := fun σ H Q => t σ H fun vs H1 => sp vs H1 Q (E σ)
theorem pe_f (F : FnR X.prog X.w X.K X.mg X.base CX k f sp) (hr : Room k X.A) (hg : Gl X x) (hm : X.mg x = some (.ref f)) (hk : PySem.W.keepIn X.K (.ref f) = true) (hx : ∀ σ, PassesAt CX X σ (E σ)) (ha : PA X (e :: es) t)
    (hdb : (x == ("__debug__" : Str)) = false := by decide) (he : starEach (e :: es) X.env = (false, eval e X.env) :: starEach es X.env := by rfl) (hpl : (backTo pos (starEach es X.env)).any (·.1) = false := by rfl) :
    PE X (.Call (.Name x p) (e :: es) [] pos) (tF sp E t) :=
  ⟨fun pins s σ H Q I h => wpAny_Call_Name_kw (ld_glob I hg hm (PySem.W.callWith_K (h₀ := X.base) I.ok.mod.kin hk (thn (ha.run pos pins s σ H _ I h) fun us s1 ⟨vs, H1, I1, r, q⟩ => ⟨I1.kIn, wpAny_call (runS F hr (hx σ) I1 r q)⟩) he hpl) hdb)⟩
class CxUp (CX : CXT) : Prop where
  up : StX.CXUp CX
instance {P : Program} {w : World} : CxUp (L2.CX P w) := ⟨StX.cxUp⟩
instance {P : Program} {w : World} : CxUp (L2N.CX P w) := ⟨fun outer s H s2 H2 E e s' un kp ho ⟨a, B, H', cls, d, ea, fl, hok, ub, na, os, ag, he⟩ =>
  ⟨a, B, H', cls, d, ea, fl, hok, ⟨fun b o q n hb => ub.keep b o (kp b o q) (un.free b o q n (by simp)) hb, fun b o q hb => ub.slot b o (kp b o q) hb, fun b o q n => ub.free b o (kp b o q) (un.free b o q n (by simp)),
    fun b o q hb => ub.there b o (kp b o q) hb, fun b xs q => ub.tups b xs (un.tups b xs q), fun b o xs q => ub.frzs b o xs (un.frzs b o xs q), fun b ps q => by
      obtain ⟨m1, e1⟩ := un.tbls b ps q
      obtain ⟨m2, e2⟩ := ub.tbls b _ e1
      exact ⟨m1 ++ m2, by rw [e2, Array.append_assoc]⟩⟩, na, os.trans ho, ag, he⟩⟩
theorem at_ {W : WX} (tk : Takes X W) (σ : L2.St) : PassesAt (L2.CX X.prog X.w) X σ (WE W σ) := passAt tk σ
class NoE (CX : CXT) : Prop where
  no : ∀ outer H s u s', ¬ CX outer H s (fun _ _ _ => False) u s'
instance {P : Program} {w : World} : NoE (L2.CX P w) := ⟨fun _ _ _ _ _ ⟨_, _, _, _, _, _, _, _, _, _, _, _, z⟩ => z⟩
instance {P : Program} {w : World} : NoE (L2N.CX P w) := ⟨fun _ _ _ _ _ ⟨_, _, _, _, _, _, _, _, _, _, _, _, z⟩ => z⟩
end
section
variable {P : Program} {w : World} {K : PySem.W.Frag} {mg : Str → Option Value} {base : Heap} {x qual : Str} {params : Arguments} {body : List Stmt} {scope : Scope} {dvs : List V} {kws : List (Str × V)} {f : Addr} {fd : FuncData}
end
end Cl
namespace Cl
open PySem PySem.Spec PyProof.Rows L2
section
variable {X : Cx} {e o value a : Expr} {ta tv tl : TE} {f : Str} {pos pos' : Pos} {tg : Expr}
theorem ixL (K : PySem.W.Frag) (hK : X.K = K := by rfl) : IxR X (rIxL K) := hK ▸ ix_list
theorem slL (K : PySem.W.Frag) (hK : X.K = K := by rfl) : SlR X (rSlL K) := hK ▸ sl_list
def qLen (K : PySem.W.Frag) : List V → Hp → VK → Prop := fun xs H Q => ∃ p ys, xs = [.ref p] ∧ (SqL K H p ys ∨ SqT K H p ys) ∧ Q (.int ys.length) H
theorem len (K : PySem.W.Frag) (hK : X.K = K := by rfl) : CallR X (.builtin "len") (qLen K) := hK ▸ call_len_seq
def qList (K : PySem.W.Frag) : List V → Hp → VK → Prop := fun xs H Q => ∃ p ys, xs = [.ref p] ∧ (SqL K H p ys ∨ SqT K H p ys) ∧ ∀ l, H l = none → Q (.ref l) (upd H l (.lst ys))
theorem listOf (K : PySem.W.Frag) (hK : X.K = K := by rfl) : CallR X (.type "list") (qList K) := hK ▸ call_list_of
def qInt : List V → Hp → VK → Prop := fun xs H Q => ∃ i, xs = [.int i] ∧ Q (.int i) H
theorem int1 : CallR X (.type "int") qInt := fun pins s σ H xs us Q I r h => call_int1 pins s σ H xs us Q I r (.inl h)
theorem isi (K : PySem.W.Frag) (hK : X.K = K := by rfl) : CallR X (.builtin "isinstance") (rIsi K) := hK ▸ call_isi
theorem sum (K : PySem.W.Frag) (hc : X.calm = true := by rfl) (hK : X.K = K := by rfl) : CallR X (.builtin "sum") (rSum K) := hK ▸ cr_sum hc
theorem eqD (K : PySem.W.Frag) (hu : X.A.units + 64 < cLine) (hK : X.K = K := by rfl) : OpR X (compareOp .Eq) (rEqD K) := hK ▸ op_eqD hu
theorem neD (K : PySem.W.Frag) (hu : X.A.units + 64 < cLine) (hK : X.K = K := by rfl) : OpR X (compareOp .NotEq) (rNeD K) := hK ▸ op_neD hu
theorem fld (K : PySem.W.Frag) (he : PE X e ta) (hb : attributeBase e f X.env (eval e X.env) = eval e X.env := by rfl) (hK : X.K = K := by rfl) : PE X (.Attribute e f pos) (tFld K ta f) := hK ▸ pe_fld he hb
theorem piL (K : PySem.W.Frag) {l : Expr} (hl : PE X l tl) (hK : X.K = K := by rfl) : PI X tg l (iList K tl) := hK ▸ pi_list hl
theorem none_ {P : Program} {w : World} (σ : L2.St) : PassesAt (L2.CX P w) X σ (fun _ _ _ => False) := fun _ _ _ _ _ _ ⟨_, _, _, _, _, _, _, _, _, _, _, _, z⟩ => z.elim
end
end Cl
namespace CoR
open PySem PySem.Spec PyProof.Rows L2
def postX (M : Model) (A : Around) (E : Value → Shared → Prop) (use : Option (Value → Sem Unit)) (Q : Value → Shared → Prop) (acc : Value) (C : Addr) (fr : Option Addr) (r : Result) (s' : Shared) : Prop :=
  match r with
  | .ok f => compPost M A E use Q acc C (.ok f) s'
  | .error x => ∃ m, s'.heap.Ns C m ∧ ∀ h', Heap.SameBut C s'.heap h' → ∀ ce : Env, ce.locals = C → ce.frame = fr → wpAny M A (passOn "comprehension.variables-let-go" x ce : Sem Value) (fun _ _ => False) E { s' with heap := h' }
theorem comprehension_x {M : Model} {A : Around} {E : Value → Shared → Prop} {s : Shared} {env : Env} {e : Expr} {scope : Scope} {pos : Pos} {newAcc first : Sem Value} {g : Comprehension} {gs : List Comprehension} {cl : List (Str × Addr)} {use : Option (Value → Sem Unit)} {Q : Value → Shared → Prop}
    (hcl : clausesOf e = g :: gs) (hs : ∀ x, foldedSetIterable g.iter env x = pure x) (hclos : closureFor scope env = pure cl) (hkind : scope.kind = .function) (hnames : ∀ x ∈ scope.names, x.2 = .local → scope.names.lookup x.1 = some .local)
    (h : wpAny M A first (fun x s1 => wpAny M A (pyIter x) (fun it s2 => wpAny M A newAcc (fun acc s3 => wpAny M A (newFunctionEnv scope env.globals cl [] env.qual none .none (some env)) (fun ce s4 =>
        codeAny M A (.compStart e 0 it acc { ce with scope := relabel scope env }) (postX M A E use Q acc ce.locals ce.frame) s4) E s3) E s2) E s1) E s) :
    wpAny M A (comprehension e scope env pos newAcc false first use) Q E s := by
  unfold comprehension
  rw [hclos, hcl]
  refine wpAny_bind (wpAny_mono h (fun x s1 h1 => ?_) fun _ _ q => q)
  refine wpAny_bind (wpAny_standAt (wpAny_bind (wpAny_of_eq (hs x) ?_)))
  refine wpAny_bind (wpAny_holding (wpAny_mono h1 (fun it s2 h2 => ?_) fun _ _ q => q))
  refine wpAny_standIf (wpAny_bind (wpAny_mono h2 (fun acc s3 h3 => ?_) fun _ _ q => q))
  refine wpAny_bind (wpAny_pure (wpAny_bind (wpAny_mono h3 (fun ce s4 h4 => ?_) fun _ _ q => q)))
  dsimp only
  have loc : ∀ x ∈ (scope.names.filter fun x => (x.2 == .local || x.2 == .cell) && x.1 != (".0" : Str)), x.2 = .local → Env.kindOf { ce with scope := relabel scope env } x.1 = some .local :=
    fun x hx hl => lookup_relabel_local (hnames x (List.mem_filter.mp hx).1 hl)
  have v1 := fun x hx hl => loc x (List.mem_reverse.mp hx) hl
  refine wpAny_holding (wpAny_bind (wpAny_attempt (wpAny_holding (wpAny_run (codeAny_mono h4 fun r s' hr => ?_)))))
  cases r with
  | error x =>
    obtain ⟨m, hn, hr⟩ := hr
    exact wpAny_bind (wpAny_holding (wpAny_comp_letGo (cenv := { ce with scope := relabel scope env }) hkind _ s' m v1 hn fun h' m' _ hs' => wpAny_mono (hr h' hs' _ rfl rfl) (fun _ _ f => f.elim) fun _ _ y => y))
  | ok f =>
    cases use with
    | none =>
      obtain ⟨m, hn, hr⟩ := hr
      exact wpAny_bind (wpAny_holding (wpAny_comp_letGo (cenv := { ce with scope := relabel scope env }) hkind _ s' m v1 hn fun h' m' _ hs' => wpAny_pure (hr h' hs')))
    | some u =>
      refine wpAny_bind (wpAny_rule (wpAny_bind (wpAny_holding (wpAny_mono hr (fun _ s'' hr' => ?_) fun _ _ q => q))))
      obtain ⟨m, hn, hr'⟩ := hr'
      refine wpAny_bind (wpAny_comp_letGo (cenv := { ce with scope := relabel scope env }) hkind _ s'' m (fun x hx hl => ?_) hn fun h' m' _ hs' => wpAny_pure (hr' h' hs'))
      rcases List.mem_append.mp hx with h1 | h1
      · exact v1 x (List.mem_of_mem_drop h1) hl
      · exact v1 x (List.mem_of_mem_take h1) hl
theorem funFrames_but {base h h' : Heap} {C : Addr} (sb : Heap.SameBut C h h') : ∀ {l : List Env}, h.FunFrames base l → C ∉ frs l → h'.FunFrames base l
  | [], _, _ => trivial
  | env :: l, hl, hn => by
    obtain ⟨hk, ⟨L, o, hf, hb, ho, hd⟩, hr⟩ := hl
    have hm : ∀ b, b ∈ frs l → b ∈ frs (env :: l) := fun b hb => by
      obtain ⟨e, he, q⟩ := List.mem_filterMap.mp hb
      exact List.mem_filterMap.mpr ⟨e, List.mem_cons_of_mem _ he, q⟩
    have hL : L ≠ C := fun z => hn (z ▸ List.mem_filterMap.mpr ⟨env, List.mem_cons_self, hf⟩)
    exact ⟨hk, ⟨L, o, hf, hb, (sb.2 L hL).trans ho, hd⟩, funFrames_but sb hr fun z => hn (hm _ z)⟩
section
variable {X : Cx} {W : WX} {u : Value} {s' : Shared}
def HE (X : Cx) (W : WX) (u : Value) (s' : Shared) : Prop :=
  ∃ (a : Addr) (B : Heap) (sI : Shared) (σ : L2.St) (H : Hp) (cls : Value) (d : Option Addr), u = .ref a ∧ Inv X [] σ H sI ∧ (∀ b o, sI.heap.get? b = some o → b ∉ frs X.stack → B.get? b = some o) ∧ sI.heap.UpToSlots s'.heap ∧
    HandSPX.HeldZ B X.stack a (Zc cls d) X.env.locals s'.heap ∧ H a = none ∧ s'.os = sI.os ∧ AllBare s'.gens ∧ W cls d σ H
theorem noted (hs : X.stack = X.env :: X.outer) (hf : X.env.frame = some X.env.locals) {E1 : Value → Shared → Prop} (x : XE X W u s') :
    wpAny (model X.prog X.w) X.A (noteFrame u X.env) (fun _ s2 => HE X W u s2 ∧ s'.heap.UpToSlots s2.heap) E1 s' := by
  obtain ⟨a, B, sI, pins, σ, H, cls, d, rfl, I, nb, up, sky, na, os, ag, w⟩ := x
  have hfr : X.A.frames = some (X.env :: X.outer) := by rw [I.ok.frames, hs]
  have fin : ∀ h1, HandSPX.HeldZ B (X.env :: X.outer) a (Zc cls d) X.env.locals h1 → s'.heap.UpToSlots h1 → HE X W (.ref a) { s' with heap := h1 } ∧ s'.heap.UpToSlots h1 := fun h1 hh u1 =>
    ⟨⟨a, B, sI, σ, H, cls, d, rfl, Inv.unpinned (pins := []) (pl := pins) I, nb, up.trans u1, by rw [hs]; exact hh, na, os, ag, w⟩, u1⟩
  rw [hs] at sky
  rcases sky with ⟨hB, hn, hl, oe, vs, he, hz, hd, h1⟩ | fl | hh
  · exact HandSPX.look_newZ Zc.steady hfr hl hf he hB hn hd h1 hz fin
  · exact HandSPX.looks_onZ Zc.steady hfr hf fl fin
  · exact HandSPX.againZ hf hh.2.2.2 (fin s'.heap hh (Heap.UpToSlots.refl _))
theorem goesOn {W' : WX} {C : Addr} {m : Str → Option Value} {h' : Heap} {ce : Env} (hW : ∀ cls d σ H, W' cls d σ H → W cls d σ H ∧ H C = none) (hx : HE X W' u s') (f : FpOk X [] (fun _ => none) C) (hnf : C ∉ frs X.stack) (hn : s'.heap.Ns C m) (sb : Heap.SameBut C s'.heap h') (hfr : ce.frame = some X.env.locals)
    (tk : Takes X W) : wpAny (model X.prog X.w) X.A (passOn "comprehension.variables-let-go" u ce : Sem Value) (fun _ _ => False) X.xe { s' with heap := h' } := by
  obtain ⟨a, B, sI, σ, H, cls, d, rfl, I, nb, up, hh, na, os, ag, w⟩ := hx
  obtain ⟨w, hHC⟩ := hW _ _ _ _ w
  obtain ⟨oC, es, ep, hoC, hdC, _⟩ := hn
  obtain ⟨B', b1, b2⟩ := restrict B fun b => decide (b ≠ C)
  obtain ⟨G, g1, g2⟩ := restrict sI.heap fun b => decide (b ≠ C)
  have inB : ∀ b o, B'.get? b = some o → b ≠ C ∧ B.get? b = some o := fun b o e => by
    by_cases hb : b = C
    · rw [b2 b (by simp [hb])] at e; cases e
    · rw [b1 b (by simp [hb])] at e; exact ⟨hb, e⟩
  have inG : ∀ b o, G.get? b = some o → b ≠ C ∧ sI.heap.get? b = some o := fun b o e => by
    by_cases hb : b = C
    · rw [g2 b (by simp [hb])] at e; cases e
    · rw [g1 b (by simp [hb])] at e; exact ⟨hb, e⟩
  obtain ⟨st, an, ff, oe, vs, T, oT, ts, he, hz, hd, h1, hnT, hTe, hT, hdT, h3⟩ := hh
  have aC : a ≠ C := fun z => by rw [z, hoC] at he; cases he; rw [hdC] at hd; cases hd
  have tC : T ≠ C := fun z => by rw [z, hoC] at hT; cases hT; rw [hdC] at hdT; cases hdT
  have nB : ∀ b, B.get? b = none → B'.get? b = none := fun b e => by
    cases q : B'.get? b with
    | none => rfl
    | some o => rw [(inB b o q).2] at e; cases e
  have hh' : HandSPX.HeldZ B' X.stack a (Zc cls d) X.env.locals h' := by
    refine ⟨fun b o e => ?_, nB a an, ?_, oe, vs, T, oT, ts, (sb.2 a aC).trans he, hz, hd, h1, nB T hnT, hTe, (sb.2 T tC).trans hT, hdT, h3⟩
    · obtain ⟨q1, q2⟩ := inB b o e
      exact (sb.2 b q1).trans (st b o q2)
    · exact funFrames_none (funFrames_but sb ff hnf) fun L hL => nB L (by
        obtain ⟨e, _⟩ := Heap.FunFrames.mem ff hL
        exact e)
  have IG : Inv X [] σ H { sI with heap := G } := I.turned (t' := sI.toks) (fun b o hb e => by rw [g1 b (by simp [hb])]; exact e) hHC f.2.1 f.2.2.2.1 f.2.2.2.2.1 f.2.2.2.2.2
  have upG : G.UpToSlots h' := fun b o e hno => by
    obtain ⟨q1, q2⟩ := inG b o e
    obtain ⟨sl, q⟩ := up b o q2 hno
    exact ⟨sl, (sb.2 b q1).trans q⟩
  unfold PySem.passOn
  refine wpAny_bind (wpAny_field ((sb.2 a aC).trans he) hd h1 ?_)
  rw [if_neg (show ¬ ((Value.ref T == Value.none) = true) from by simp)]
  refine wpAny_bind ?_
  rw [hfr]
  refine HandSPX.setFlight_onZ hh' fun h2 hh2 up2 => wpAny_throw (tk _ _ ?_)
  exact ⟨a, B', { sI with heap := G }, [], σ, H, cls, d, rfl, IG, fun b o e hb => by
    obtain ⟨q1, q2⟩ := inG b o e
    rw [b1 b (by simp [q1])]
    exact nb b o q2 hb, upG.trans up2, .inr (.inr hh2), na, os, ag, w⟩
def outB (Y : Cx) (E : XK) (u : Value) (s' : Shared) : Prop := ∃ (pins : List (Addr × Obj)) (σ : L2.St) (H : Hp) (s : Shared), Inv Y pins σ H s ∧ L2.CX Y.prog Y.w Y.stack H s E u s'
abbrev blkX (X : Cx) (E : XK) (s : Shared) (H : Hp) (scope : Scope) (ce : Env) (fp : List Addr) : Cx := (X.blk s H scope ce fp).wish (outB (X.blk s H scope ce fp) E)
theorem inB {E : XK} {s : Shared} {H : Hp} {scope : Scope} {ce : Env} {fp : List Addr} (σ : L2.St) : PassesAt (L2.CX X.prog X.w) (blkX X E s H scope ce fp) σ E := fun pins H' s' _ _ I c => ⟨pins, σ, H', s', I.unwish, c⟩
theorem lc_coreX {E : XK} {pins : List (Addr × Obj)} {s : Shared} {σ : L2.St} {H : Hp} {Q : VK} {elt tg iter : Expr} {ifs : List Expr} {scope : Scope} {own : List (Str × Nat)} {pos pos' : Pos} {wi : TI} {g : TG} {tt : TT} {te : TE} {use : Option (Value → Sem Unit)} {Qf : Value → Shared → Prop}
    (hst : X.stack = X.env :: X.outer) (hfr : X.env.frame = some X.env.locals) (tk : Takes X (fun cls d _ H => E cls d H)) (hc : X.calm = true) (hN : X.N.Nodup) (I : Inv X pins σ H s) (hi : PI X tg iter wi) (ok : BlkOk X.N X.env.scope scope own)
    (hg : ∀ (s : Shared) (H : Hp) (C : Addr) (cl : List (Str × Addr)) (fp : List Addr), PG (blkX X E s H scope (compEnvC scope cl C X.env) fp) tg g) (ht : ∀ (s : Shared) (H : Hp) (C : Addr) (cl : List (Str × Addr)) (fp : List Addr), PTs (blkX X E s H scope (compEnvC scope cl C X.env) fp) ifs tt)
    (he : ∀ (s : Shared) (H : Hp) (C : Addr) (cl : List (Str × Addr)) (fp : List Addr), PE (blkX X E s H scope (compEnvC scope cl C X.env) fp) elt te) (hs : ∀ x, foldedSetIterable iter X.env x = pure x)
    (h : tLc wi g tt te (own.map (·.2)) σ H Q)
    (hRR : ∀ D C s' m H', Inv X pins σ H' s' → Q (.ref D) H' → s'.heap.Ns C m → FpOk X pins H' C → compPost (model X.prog X.w) X.A X.xe use Qf (.ref D) C (.ok .next) s') :
    wpAny (model X.prog X.w) X.A (comprehension (.ListComp elt [⟨tg, iter, ifs, 0⟩] scope pos) scope X.env pos' (newList []) false (eval iter X.env) use) Qf X.xe s := by
  have hfree : ∀ y ∈ scope.names, y.2 = .free → ∃ c, X.env.cells.lookup y.1 = some c := fun y hy e => (ok.free y hy e).elim (fun k => I.ok.has _ (.inl k)) fun k => I.ok.has _ (.inr k)
  refine comprehension_x (use := use) rfl hs (closure_ok hfree) ok.kind (fun y hy e => by rw [ok.uniq y hy, e]) (thn (hi.run pins s σ H _ I h) fun xv s1 hx => thn hx fun itv s2 h2 => ?_)
  obtain ⟨it, fp, tn, J, H2, e, I2, T, st2, f2, q⟩ := h2
  subst e
  refine wpAny_newObj_type (newEnv_comp ?_) (by show 0 ≤ sizeLine; decide)
  generalize hD : s2.heap.objs.size = D
  obtain ⟨Wn, ⟨m0, w0⟩, turn⟩ := q D (I2.hok.fresh (Nat.le_of_eq hD))
  generalize hs3 : ({ s2 with heap := s2.heap.push { cls := .type "list", data := .seq ([] : List Value).toArray } } : Shared) = s3
  have h3 : s3.heap = s2.heap.push { cls := .type "list", data := .seq ([] : List Value).toArray } := by rw [← hs3]
  have I3 : Inv X pins σ (upd H2 D (.lst [])) s3 := by
    rw [← hs3]
    exact I2.laid (t' := s2.toks) (fun b o e => Heap.get?_push_of_some _ e) (Nat.le_of_eq hD) ⟨Nat.zero_le _, [], 0, .nil, by rw [← hD]; exact Heap.get?_push_size _ rfl⟩
  have f3 : ∀ b ∈ fp, FpOk X pins (upd H2 D (.lst [])) b ∧ b < s3.heap.objs.size := fun b hb => by
    obtain ⟨o, e, _⟩ := T.obj _ _ st2 b hb
    have hlt := Heap.lt_size e
    refine ⟨⟨?_, (f2 b hb).2⟩, by rw [h3, Heap.size_push]; exact Nat.lt_succ_of_lt hlt⟩
    rw [upd_ne (by rw [← hD]; exact Nat.ne_of_lt hlt)]
    exact (f2 b hb).1
  have st3 : tn 0 s3.heap := T.keep _ _ _ st2 fun b _ o e => by rw [h3]; exact Heap.get?_push_of_some _ e
  have I4 := block_start I3 ok hN f3
  generalize hcl : cellsFrom (s3.heap.objs.size + 1) scope.names (cloFrom X.env.cells scope.names []) = cl at I4 ⊢
  have pg := hg s3 (upd H2 D (.lst [])) s3.heap.objs.size cl fp
  have pt := ht s3 (upd H2 D (.lst [])) s3.heap.objs.size cl fp
  have pe := he s3 (upd H2 D (.lst [])) s3.heap.objs.size cl fp
  show codeAny _ _ (.compStart (.ListComp elt [⟨tg, iter, ifs, 0⟩] scope pos) 0 (.ref it) (.ref D) (compEnvC scope cl s3.heap.objs.size X.env)) (postX (model X.prog X.w) X.A X.xe use Qf (.ref D) s3.heap.objs.size X.env.frame) { s3 with heap := pushCells (s3.heap.push { cls := .type "dict", data := .dict #[] }) scope.names }
  have nfp : ∀ b ∈ fp, (upd H2 D (.lst [])) b = none := fun b hb => (f3 b hb).1.1
  generalize hce : compEnvC scope cl s3.heap.objs.size X.env = ce at I4 pg pt pe ⊢
  have cL : ce.locals = s3.heap.objs.size := by subst hce; rfl
  have cF : ce.frame = X.env.frame := by subst hce; rfl
  generalize hH3 : upd H2 D (.lst []) = H3 at I3 I4 pg pt pe w0 nfp f3
  generalize hs4 : ({ s3 with heap := pushCells (s3.heap.push { cls := .type "dict", data := .dict #[] }) scope.names } : Shared) = s4 at I4 ⊢
  have st4 : tn 0 s4.heap := T.keep _ _ _ st3 fun b _ o e => by rw [← hs4]; exact pushCells_keeps _ _ _ _ (Heap.get?_push_of_some _ e)
  have stat : ∀ {σ' : L2.St} {H' : Hp} {s' : Shared}, Inv (X.blk s3 H3 scope ce fp) [] σ' H' s' → (∀ b ∈ fp, H' b = none) → ∀ b ∈ fp, FpOk (X.blk s3 H3 scope ce fp) [] H' b := fun {σ' H' s'} I' hn b hb =>
    ⟨hn b hb, (I'.ok.exf b hb).1, I'.ok.exfs b hb, .inl hb, fun x c e => (I'.ok.exf b hb).2 x c e, fun p hp => absurd (show p ∈ ([] : List (Addr × Obj)) ++ [] from hp) (by simp)⟩
  -- back in the def's context
  have back : ∀ {pB : List (Addr × Obj)} {σ' : L2.St} {H' : Hp} {s' : Shared}, Inv (X.blk s3 H3 scope ce fp) pB σ' H' s' → Inv X pins σ H' s' ∧ H' s3.heap.objs.size = none ∧ ∃ m, s'.heap.Ns s3.heap.objs.size m := fun {pB σ' H' s'} I' => by
    refine ⟨I3.call' (ch := fp) I'.os I'.base I'.hok I'.bare fun b hb => ⟨(f3 b hb).1.2.2.2.1, (f3 b hb).1.2.1, (f3 b hb).1.2.2.2.2.1, (f3 b hb).1.2.2.2.2.2⟩, ?_, ?_⟩
    · have z : H' ce.locals = none := I'.free
      rw [cL] at z; exact z
    · obtain ⟨m, hn, _⟩ := I'.loc
      have hn : s'.heap.Ns ce.locals m := hn
      rw [cL] at hn; exact ⟨m, hn⟩
  have fC : FpOk X [] (fun _ => none) s3.heap.objs.size := by
    obtain ⟨_, a2, a3, a4, a5, a6⟩ := I3.fpOk (H' := fun _ => none) (Nat.le_refl _) rfl
    exact ⟨rfl, a2, a3, a4, a5, fun p hp => a6 p (by rw [List.append_nil] at hp; exact List.mem_append_left _ hp)⟩
  have nfr : s3.heap.objs.size ∉ frs X.stack := fun z => by
    rcases List.mem_cons.mp (I3.stkSub _ z) with z | z
    · exact fC.2.1 z
    · exact fC.2.2.1 z
  -- what is let out
  have out : ∀ (u : Value) (s' : Shared), outB (X.blk s3 H3 scope ce fp) E u s' → notedBy (model X.prog X.w) X.A ce (fun e s' => postX (model X.prog X.w) X.A X.xe use Qf (.ref D) s3.heap.objs.size X.env.frame (.error e) s') u s' := by
    rintro u s' ⟨pB, σB, HB, sB, IB, c⟩
    obtain ⟨IX, hHC, m, hn⟩ := back IB
    obtain ⟨a, B, H', cls, d, rfl, fl, hok, ub, na, os, ag, hE⟩ := c
    have hn' := hn
    obtain ⟨oC, es, ep, hoC, hdC⟩ := hn'
    have hBC := ub.keep _ oC hoC hHC nfr
    have nsC : s'.heap.Ns s3.heap.objs.size m := ⟨oC, es, ep, fl.1 _ _ hBC, hdC⟩
    have x : XE X (fun cls d _ H => E cls d H ∧ H s3.heap.objs.size = none) (.ref a) s' :=
      XE.of_call (E := fun cls d H => E cls d H ∧ H s3.heap.objs.size = none) IX (fun _ _ _ h => h) ⟨a, B, H', cls, d, rfl, fl, hok, ub, na, os, ag, hE, ub.free _ _ hoC hHC⟩
    have e1 : noteFrame (.ref a) ce = noteFrame (.ref a) X.env := by subst hce; rfl
    show wpAny _ _ (noteFrame (.ref a) ce) _ _ s'
    rw [e1]
    refine wpAny_mono (noted hst hfr (E1 := fun _ _ => False) x) (fun _ s2 ⟨hx, up⟩ => ?_) fun _ _ z => z.elim
    have ns2 := up.ns nsC
    exact ⟨m, ns2, fun h' sb ce' _ hf' => goesOn (W := fun cls d _ H => E cls d H) (fun _ _ _ _ z => z) hx fC nfr ns2 sb (hf'.trans hfr) tk⟩
  have thnO : ∀ {α : Type} {t : Sem α} {Q1 Q2 : α → Shared → Prop} {s : Shared}, wpAny (model X.prog X.w) X.A t Q1 (outB (X.blk s3 H3 scope ce fp) E) s → (∀ a s, Q1 a s → Q2 a s) →
      wpAny (model X.prog X.w) X.A t Q2 (notedBy (model X.prog X.w) X.A ce (fun e s' => postX (model X.prog X.w) X.A X.xe use Qf (.ref D) s3.heap.objs.size X.env.frame (.error e) s')) s := fun h1 h2 => wpAny_mono h1 h2 out
  have loop : codeAny (model X.prog X.w) X.A (.compLoop (.ListComp elt [⟨tg, iter, ifs, 0⟩] scope pos) 0 (.ref it) (.ref D) ce) (postX (model X.prog X.w) X.A X.xe use Qf (.ref D) s3.heap.objs.size X.env.frame) s4 := by
    refine compLoop_any (fun n s' => ∃ i H', Inv (X.blk s3 H3 scope ce fp) [] (wipe σ (own.map (·.2))) H' s' ∧ tn i s'.heap ∧ (∀ b ∈ fp, H' b = none) ∧ Wn i n H') ?_ m0 ⟨0, H3, I4, st4, nfp, w0⟩
    rintro n s5 ⟨i, H5, I5, st5, n5, w5⟩
    rcases turn i n H5 w5 with ⟨stop, qq⟩ | ⟨go, Nx, hNx, step⟩
    · refine thnF (T.done (X.blk s3 H3 scope ce fp) rfl rfl rfl hc i [] s5 _ H5 (fun _ _ => False) I5 (stat I5 n5) st5 stop) fun r s6 ⟨hr, I6⟩ => ?_
      subst hr
      obtain ⟨I7, nC, m, hn⟩ := back I6
      exact hRR D s3.heap.objs.size s6 m H5 I7 qq hn (I3.fpOk (Nat.le_refl _) nC)
    · refine thnF (T.item (X.blk s3 H3 scope ce fp) rfl rfl rfl hc i [] s5 _ H5 (fun _ _ => False) I5 (stat I5 n5) st5 go) fun r s6 ⟨u, hr, h6⟩ => ?_
      subst hr
      refine thnF h6 fun _ s7 ⟨x, H7, I7, r7, y7, st7, n7⟩ => ?_
      have I7' := I7.pinned (stat I7 n7) (T.obj _ _ st7)
      refine thnO (pg.run _ s7 _ H7 x u _ (I7'.wish _) r7 (step x H7 y7)) fun _ s8 ⟨σ8, H8, I8, hw8, q8⟩ => ?_
      refine thnO (pt.run _ s8 σ8 H8 _ I8 q8) fun b s9 ⟨H9, I9, q9⟩ => ?_
      have fin : ∀ {s' : Shared} {H' : Hp}, Inv (blkX X E s3 H3 scope ce fp) ([] ++ pinsAt fp s7.heap) σ8 H' s' → Nx H' → ∃ m, m < n ∧ ∃ i H', Inv (X.blk s3 H3 scope ce fp) [] (wipe σ (own.map (·.2))) H' s' ∧ tn i s'.heap ∧ (∀ b ∈ fp, H' b = none) ∧ Wn i m H' := fun {s' H'} Iw nx => by
        have I' : Inv (X.blk s3 H3 scope ce fp) ([] ++ pinsAt fp s7.heap) σ8 H' s' := Iw.unwish
        obtain ⟨m', hm, w'⟩ := hNx H' nx
        have pin' : ∀ b ∈ fp, ∀ o, s7.heap.get? b = some o → s'.heap.get? b = some o ∧ H' b = none := fun b hb o e =>
          let z := I'.pin (b, o) (List.mem_append_right _ (List.mem_append_right _ (mem_pinsAt hb e)))
          ⟨z.1, z.2.1⟩
        have hl : (wipe σ (own.map (·.2))).length = σ8.length := by rw [← hw8, wipe_length]
        refine ⟨m', hm, i + 1, H', (I'.unpinned (pins := [])).weak hl (fun j v e => ?_), T.keep _ _ _ st7 fun b hb o e => (pin' b hb o e).1, fun b hb => ?_, w'⟩
        · rw [← hw8] at e
          exact (wipe_some e).1
        · obtain ⟨o, e, _⟩ := T.obj _ _ st7 b hb
          exact (pin' b hb o e).2
      cases b with
      | false =>
        simp only [Bool.false_eq_true, if_false] at q9 ⊢
        exact fin I9 q9
      | true =>
        simp only [if_true] at q9 ⊢
        refine thnO (pe.run _ s9 σ8 H9 _ I9 q9) fun z s10 ⟨yv, H10, I10, r10, acc, hD10, hz10, nx⟩ => ?_
        exact app_ok (X := blkX X E s3 H3 scope ce fp) I10 hD10 hz10 r10 fun s11 I11 => fin I11 nx
  exact codeAny_compStart_list loop (T.self X.A 0 _ _ _ st4 loop)
theorem pe_lc {E : XK} {elt tg iter : Expr} {ifs : List Expr} {scope : Scope} {own : List (Str × Nat)} {pos : Pos} {wi : TI} {g : TG} {tt : TT} {te : TE} (hst : X.stack = X.env :: X.outer) (hfr : X.env.frame = some X.env.locals) (tk : Takes X (fun cls d _ H => E cls d H)) (hc : X.calm = true) (hN : X.N.Nodup) (hi : PI X tg iter wi) (ok : BlkOk X.N X.env.scope scope own)
    (hg : ∀ (s : Shared) (H : Hp) (C : Addr) (cl : List (Str × Addr)) (fp : List Addr), PG (blkX X E s H scope (compEnvC scope cl C X.env) fp) tg g) (ht : ∀ (s : Shared) (H : Hp) (C : Addr) (cl : List (Str × Addr)) (fp : List Addr), PTs (blkX X E s H scope (compEnvC scope cl C X.env) fp) ifs tt)
    (he : ∀ (s : Shared) (H : Hp) (C : Addr) (cl : List (Str × Addr)) (fp : List Addr), PE (blkX X E s H scope (compEnvC scope cl C X.env) fp) elt te) (hs : ∀ x, foldedSetIterable iter X.env x = pure x := by intro _; rfl) :
    PE X (.ListComp elt [⟨tg, iter, ifs, 0⟩] scope pos) (tLc wi g tt te (own.map (·.2))) := by
  refine ⟨fun pins s σ H Q I h => ?_⟩
  rw [eval_ListComp]
  refine lc_coreX hst hfr tk hc hN I hi ok hg ht he hs h fun D C s' m H' I' q hn f => ⟨m, hn, fun h'' sb => ?_⟩
  obtain ⟨f0, f1, f2, f3, f4, f5⟩ := f
  exact ⟨.ref D, H', I'.turned (t' := s'.toks) (fun b o hb e => (sb.2 b hb).trans e) f0 f1 f3 f4 f5, rfl, q⟩
end
end CoR
namespace EnB
open PySem PySem.Spec PyProof.Rows L2
section
end
end EnB
namespace OpM
open PySem PySem.Spec PyProof.Rows L2
structure Own (K : PySem.W.Frag) (C : Addr) (m : Str) (f : Addr) : Prop where
  at_ : PySem.W.findIn K (.ref C) m = some (some (.ref f))
  fn : PySem.W.isFn K (.ref f) = true
theorem back {z : V} {v : Value} {Q : Value → Shared → Prop} {s : Shared} (r : RelV z v) (h : Q v s) : PySem.W.CmpBack Q v s := by
  cases z with
  | non => cases (show v = Value.none from r); exact h
  | bl b => cases (show v = Value.bool b from r); exact h
  | int i => obtain ⟨t, rfl⟩ := (show ∃ t, v = Value.int i t from r); exact h
  | str x => obtain ⟨t, rfl⟩ := (show ∃ t, v = Value.str x t from r); exact h
  | byt b => obtain ⟨t, rfl⟩ := (show ∃ t, v = Value.bytes b t from r); exact h
  | flt b => obtain ⟨t, rfl⟩ := (show ∃ t, v = Value.float b t from r); exact h
  | ref a => cases (show v = Value.ref a from r); exact h
  | ty n => cases (show v = Value.type n from r); exact h
section
variable {X : Cx} {CX : CXT} {k : Nat} {f C : Addr} {sp : Sp} {E : L2.St → XK} {pos : Pos} {a b : Expr} {ta tb : TE}
theorem runB {pins : List (Addr × Obj)} {σ : L2.St} {H : Hp} {s : Shared} {Q : VK} {us : List Value} {vs : List V} {A : Around} (F : FnR X.prog X.w X.K X.mg X.base CX k f sp) (hr : Room k A) (hfr : A.frames = X.A.frames) (hx : PassesAt CX X σ (E σ)) (I : Inv X pins σ H s) (r : Vals vs us) (h : sp vs H Q (E σ)) :
    wpAny (model X.prog X.w) A (call (.ref f) us) (EP X pins σ Q) X.xe s := by
  have e := I.env0
  have e0 : Env0 X.prog X.w X.K X.mg X.base A X.stack s H := ⟨by rw [hfr]; exact e.frames, e.mod, e.bs, e.bsz, e.funs, e.frf, e.hok, e.bare⟩
  refine wpAny_call (codeAny_mono (F A X.stack s H us vs Q (E σ) hr e0 r h) fun r s' hq => ?_)
  cases r with
  | error er => exact hx pins H s er s' I hq
  | ok fl => cases fl <;> first | exact I.after hq | exact False.elim hq
theorem inst {pins : List (Addr × Obj)} {σ : L2.St} {H : Hp} {s : Shared} {x dx : Addr} {fs : List (Str × V)} (I : Inv X pins σ H s) (hx : H x = some (.ins C dx fs)) : ∃ ox od, PySem.W.InstAt s.heap x ox C od := by
  obtain ⟨mA, J, _⟩ := ins_get I.hok hx
  obtain ⟨od, J, _⟩ := J.look
  exact ⟨_, _, J⟩
theorem cmp_run {pins : List (Addr × Obj)} {σ : L2.St} {H : Hp} {s : Shared} {Q : VK} {op : CmpOp} {x y : V} {u v : Value} (O : Own X.K C (cmpInfo op).2.1 f) (F : FnR X.prog X.w X.K X.mg X.base CX k f sp) (hr : Room k X.A) (hx : PassesAt CX X σ (E σ)) (I : Inv X pins σ H s) (rx : RelV x u) (ry : RelV y v)
    (h : ∃ p dx fs t, x = .ref p ∧ H p = some (.ins C dx fs) ∧ TyX X.K H y t ∧ PySem.W.notFirst X.K C t = true ∧ sp [x, y] H Q (E σ)) : wpAny (model X.prog X.w) X.A (richCompare op u v) (EP X pins σ Q) X.xe s := by
  obtain ⟨p, dx, fs, t, rfl, hp, ty, hn, q⟩ := h
  obtain rfl : u = Value.ref p := rx
  obtain ⟨ox, od, J⟩ := inst I hp
  obtain ⟨m, hF⟩ := I.fr
  obtain ⟨P, kit, hP, _⟩ := kit_of I ry ty
  refine PySem.W.cmp_K (Nat.lt_of_le_of_lt (Nat.le_add_right _ _) hr.units) hF I.ok.mod.kin J (kit.ty _ _ I.kIn hP) hn O.at_ O.fn ?_
  refine wpAny_mono (runB F hr rfl hx I (us := [.ref p, v]) (vs := [.ref p, y]) (.cons rfl (.cons ry .nil)) q) (fun w s' z => ?_) fun _ _ z => z
  obtain ⟨z, H', I', rz, q'⟩ := z
  exact back rz ⟨z, H', I', rz, q'⟩
theorem op_cmp {op : CmpOp} (O : Own X.K C (cmpInfo op).2.1 f) (F : FnR X.prog X.w X.K X.mg X.base CX k f sp) (hr : Room k X.A) (hx : ∀ σ, PassesAt CX X σ (fun _ _ _ => False)) :
    OpR X (richCompare op) (fun x y H Q => ∃ p dx fs t, x = .ref p ∧ H p = some (.ins C dx fs) ∧ TyX X.K H y t ∧ PySem.W.notFirst X.K C t = true ∧ sp [x, y] H Q (fun _ _ _ => False)) :=
  fun pins s σ H x y u v Q I rx ry h => cmp_run (E := fun _ _ _ _ => False) O F hr (hx σ) I rx ry h
end
section
variable {M : Model} {prog : Program} {w : World} {A : Around} {E : Value → Shared → Prop} {s : Shared} {K : PySem.W.Frag} {x C f : Addr} {ox : Obj} {od : Option Obj} {b tb : Value}
end
section
variable {X : Cx} {CX : CXT} {k : Nat} {f C : Addr} {sp : Sp}
end
section
variable {X : Cx} {CX : CXT} {k i : Nat} {C p g f : Addr} {mc : Value} {sp : Sp} {E : L2.St → XK} {o e : Expr} {es : List Expr} {m x : Str} {pos apos np : Pos} {ta : TE} {t : TA} {pl : Sem Bool}
def tMkV (i : Nat) (C : Addr) (sp : Sp) (E : L2.St → XK) (t : TA) : TE := fun σ H Q => σ[i]? = some (some (.ref C)) ∧ t σ H fun vs H1 => ∀ x dx, H1 x = none → H1 dx = none → dx ≠ x → sp (.ref x :: vs) (upd (upd H1 dx (.own x)) x (.ins C dx [])) (fun v H2 => v = .non ∧ Q (.ref x) H2) (E σ)
end
section
variable {X : Cx} {CX : CXT} {k : Nat} {f C : Addr} {sp : Sp}
def rCmp (K : PySem.W.Frag) (C : Addr) (sp : Sp) : R2 := fun x y H Q => ∃ p dx fs t, x = .ref p ∧ H p = some (.ins C dx fs) ∧ TyX K H y t ∧ PySem.W.notFirst K C t = true ∧ sp [x, y] H Q (fun _ _ _ => False)
theorem eqO (K : PySem.W.Frag) (O : Own K C "__eq__" f) (F : FnR X.prog X.w X.K X.mg X.base CX k f sp) (hr : Room k X.A) (hx : ∀ σ, PassesAt CX X σ (fun _ _ _ => False)) (hK : X.K = K := by rfl) : OpR X (compareOp .Eq) (rCmp K C sp) := by
  subst hK
  exact op_cmp (op := .Eq) O F hr hx
structure NeC (K : PySem.W.Frag) (C : Addr) : Prop where
  at_ : PySem.W.findIn K (.ref C) "__ne__" = some (some (.builtin "object.__ne__"))
  mro : PySem.W.mroIn K C (.type "object") = some true
structure InsT (K : PySem.W.Frag) (C : Addr) : Prop where
  ha : PySem.W.findIn K (.ref C) "__class__" = some (some (.builtin "object.__class__"))
  hn : PySem.W.specialIn K (.builtin "object.__class__") "__get__" = some (some (.builtin "getset_descriptor.__get__"))
  htk : PySem.W.takesIn K (.builtin "object.__class__") = some true
  hm : PySem.W.mroIn K C (.type "object") = some true
theorem InsT.ty {K : PySem.W.Frag} {H : Hp} {a dx : Addr} {fs : List (Str × V)} (h : InsT K C) (c : Cls K C) (e : H a = some (.ins C dx fs)) : TyX K H (.ref a) (.ref C) := .base (.ins e c h.ha h.hn h.htk h.hm)
end
section
variable {K : PySem.W.Frag} {C f : Addr} {m : Str}
end
end OpM
namespace OpM
open PySem PySem.Spec PyProof.Rows L2
section
variable {X : Cx} {CX : CXT} {k i : Nat} {C f : Addr} {sp : Sp} {E : L2.St → XK} {e : Expr} {es : List Expr} {x : Str} {pos np : Pos} {t : TA}
end
end OpM
namespace Pf
open PySem PySem.Spec PyProof.Rows L2
def top (i : Nat) : Stmt := PySem.Challenge.pw_rungbounds_k57_errors_and_their_fields.main.body.getD i (.Pass ⟨0, 0, 0, 0⟩)
abbrev PP : Program := PySem.Challenge.pw_rungbounds_k57_errors_and_their_fields
abbrev s_law_box : Stmt := top 17
abbrev s_law_take : Stmt := top 18
abbrev s_law_number : Stmt := top 19
abbrev s_law_classes : Stmt := top 20
abbrev s_law_based : Stmt := top 21
abbrev s_law : Stmt := top 22
def d_law_box : He5.DefA := ⟨fun K => (He.ga K "_law_box"), "_law_box", "_law_box", defArgs s_law_box, defBody s_law_box, defScope s_law_box, [], []⟩
def d_law_take : He5.DefA := ⟨fun K => (He.ga K "_law_take"), "_law_take", "_law_take", defArgs s_law_take, defBody s_law_take, defScope s_law_take, [], []⟩
def d_law_number : He5.DefA := ⟨fun K => (He.ga K "_law_number"), "_law_number", "_law_number", defArgs s_law_number, defBody s_law_number, defScope s_law_number, [], []⟩
def d_law_classes : He5.DefA := ⟨fun K => (He.ga K "_law_classes"), "_law_classes", "_law_classes", defArgs s_law_classes, defBody s_law_classes, defScope s_law_classes, [], []⟩
def d_law_based : He5.DefA := ⟨fun K => (He.ga K "_law_based"), "_law_based", "_law_based", defArgs s_law_based, defBody s_law_based, defScope s_law_based, [], []⟩
def d_law : He5.DefA := ⟨fun K => (He.ga K "law"), "law", "law", defArgs s_law, defBody s_law, defScope s_law, [], []⟩
def fnL : List He5.DefA := [d_law_box, d_law_take, d_law_number, d_law_classes, d_law_based, d_law]
def erL : List Hd.ErD := [⟨"BadNumber", "BadNumber.__init__", inClass (top 2) 0⟩, ⟨"BadName", "BadName.__init__", inClass (top 3) 0⟩, ⟨"TakenName", "TakenName.__init__", inClass (top 4) 0⟩, ⟨"UnknownName", "UnknownName.__init__", inClass (top 5) 0⟩, ⟨"NoPlace", "NoPlace.__init__", inClass (top 6) 0⟩, ⟨"TooMany", "TooMany.__init__", inClass (top 7) 0⟩, ⟨"NoSite", "NoSite.__init__", inClass (top 8) 0⟩, ⟨"NoShape", "NoShape.__init__", inClass (top 9) 0⟩, ⟨"BadState", "BadState.__init__", inClass (top 13) 0⟩, ⟨"BadLine", "BadLine.__init__", inClass (top 14) 0⟩, ⟨"DeedFailed", "DeedFailed.__init__", inClass (top 15) 0⟩]
def faL : List He.Fa := [.glo "BadLine", .glo "BadName", .glo "BadNumber", .glo "BadState", .glo "DeedFailed", .glo "LadderError", .glo "NoPlace", .glo "NoShape", .glo "NoSite", .glo "NothingToRedo", .glo "NothingToUndo", .glo "OtherSite", .glo "TakenName", .glo "TooMany", .glo "UnknownName", .glo "_law_based", .glo "_law_box", .glo "_law_classes", .glo "_law_number", .glo "_law_take", .glo "law", .free "ValueError", .free "bool", .free "int", .free "isinstance", .free "len", .free "list", .free "range", .free "str", .free "super"]
def exL (K : PySem.W.Frag) : Bool := (faL.all fun f => f.ok K) && (Hd.errB PP K "BadNumber" "value" "BadNumber.__init__" && (Hd.errB PP K "BadName" "name" "BadName.__init__" && (Hd.errB PP K "TakenName" "name" "TakenName.__init__" && (Hd.errB PP K "UnknownName" "name" "UnknownName.__init__" && (Hd.errB PP K "NoPlace" "place" "NoPlace.__init__" && (Hd.errB PP K "TooMany" "count" "TooMany.__init__" && (Hd.errB PP K "NoSite" "ring" "NoSite.__init__" && (Hd.errB PP K "NoShape" "blames" "NoShape.__init__" && (Hd.errB PP K "BadState" "state" "BadState.__init__" && (Hd.errB PP K "BadLine" "line" "BadLine.__init__" && (Hd.errB PP K "DeedFailed" "row" "DeedFailed.__init__" && (BareX.ownEB K (He.ga K "OtherSite") && (BareX.ownEB K (He.ga K "NothingToUndo") && (BareX.ownEB K (He.ga K "NothingToRedo") && (excB K (He.ga K "BadNumber") && (excB K (He.ga K "BadName") && (excB K (He.ga K "TakenName") && (excB K (He.ga K "UnknownName") && (excB K (He.ga K "NoPlace") && (excB K (He.ga K "TooMany") && (excB K (He.ga K "NoSite") && (excB K (He.ga K "NoShape") && (excB K (He.ga K "BadState") && (excB K (He.ga K "BadLine") && (excB K (He.ga K "DeedFailed") && (excB K (He.ga K "OtherSite") && (excB K (He.ga K "NothingToUndo") && (excB K (He.ga K "NothingToRedo") && (decide (PySem.W.kitOne K (.ref (He.ga K "BadNumber")) (.ref (He.ga K "BadNumber")) = some true) && (decide (PySem.W.kitOne K (.ref (He.ga K "BadName")) (.ref (He.ga K "BadNumber")) = some false) && (decide (PySem.W.kitOne K (.ref (He.ga K "TakenName")) (.ref (He.ga K "BadNumber")) = some false) && (decide (PySem.W.kitOne K (.ref (He.ga K "UnknownName")) (.ref (He.ga K "BadNumber")) = some false) && (decide (PySem.W.kitOne K (.ref (He.ga K "NoPlace")) (.ref (He.ga K "BadNumber")) = some false) && (decide (PySem.W.kitOne K (.ref (He.ga K "TooMany")) (.ref (He.ga K "BadNumber")) = some false) && (decide (PySem.W.kitOne K (.ref (He.ga K "NoSite")) (.ref (He.ga K "BadNumber")) = some false) && (decide (PySem.W.kitOne K (.ref (He.ga K "NoShape")) (.ref (He.ga K "BadNumber")) = some false) && (decide (PySem.W.kitOne K (.ref (He.ga K "BadState")) (.ref (He.ga K "BadNumber")) = some false) && (decide (PySem.W.kitOne K (.ref (He.ga K "BadLine")) (.ref (He.ga K "BadNumber")) = some false) && (decide (PySem.W.kitOne K (.ref (He.ga K "DeedFailed")) (.ref (He.ga K "BadNumber")) = some false) && (decide (PySem.W.kitOne K (.ref (He.ga K "OtherSite")) (.ref (He.ga K "BadNumber")) = some false) && (decide (PySem.W.kitOne K (.ref (He.ga K "NothingToUndo")) (.ref (He.ga K "BadNumber")) = some false) && (decide (PySem.W.kitOne K (.ref (He.ga K "NothingToRedo")) (.ref (He.ga K "BadNumber")) = some false) && (decide (PySem.W.kitOne K (.ref (He.ga K "BadNumber")) (.ref (He.ga K "BadName")) = some false) && (decide (PySem.W.kitOne K (.ref (He.ga K "BadName")) (.ref (He.ga K "BadName")) = some true) && (decide (PySem.W.kitOne K (.ref (He.ga K "TakenName")) (.ref (He.ga K "BadName")) = some false) && (decide (PySem.W.kitOne K (.ref (He.ga K "UnknownName")) (.ref (He.ga K "BadName")) = some false) && (decide (PySem.W.kitOne K (.ref (He.ga K "NoPlace")) (.ref (He.ga K "BadName")) = some false) && (decide (PySem.W.kitOne K (.ref (He.ga K "TooMany")) (.ref (He.ga K "BadName")) = some false) && (decide (PySem.W.kitOne K (.ref (He.ga K "NoSite")) (.ref (He.ga K "BadName")) = some false) && (decide (PySem.W.kitOne K (.ref (He.ga K "NoShape")) (.ref (He.ga K "BadName")) = some false) && (decide (PySem.W.kitOne K (.ref (He.ga K "BadState")) (.ref (He.ga K "BadName")) = some false) && (decide (PySem.W.kitOne K (.ref (He.ga K "BadLine")) (.ref (He.ga K "BadName")) = some false) && (decide (PySem.W.kitOne K (.ref (He.ga K "DeedFailed")) (.ref (He.ga K "BadName")) = some false) && (decide (PySem.W.kitOne K (.ref (He.ga K "OtherSite")) (.ref (He.ga K "BadName")) = some false) && (decide (PySem.W.kitOne K (.ref (He.ga K "NothingToUndo")) (.ref (He.ga K "BadName")) = some false) && (decide (PySem.W.kitOne K (.ref (He.ga K "NothingToRedo")) (.ref (He.ga K "BadName")) = some false) && (decide (PySem.W.kitOne K (.ref (He.ga K "BadNumber")) (.ref (He.ga K "TakenName")) = some false) && (decide (PySem.W.kitOne K (.ref (He.ga K "BadName")) (.ref (He.ga K "TakenName")) = some false) && (decide (PySem.W.kitOne K (.ref (He.ga K "TakenName")) (.ref (He.ga K "TakenName")) = some true) && (decide (PySem.W.kitOne K (.ref (He.ga K "UnknownName")) (.ref (He.ga K "TakenName")) = some false) && (decide (PySem.W.kitOne K (.ref (He.ga K "NoPlace")) (.ref (He.ga K "TakenName")) = some false) && (decide (PySem.W.kitOne K (.ref (He.ga K "TooMany")) (.ref (He.ga K "TakenName")) = some false) && (decide (PySem.W.kitOne K (.ref (He.ga K "NoSite")) (.ref (He.ga K "TakenName")) = some false) && (decide (PySem.W.kitOne K (.ref (He.ga K "NoShape")) (.ref (He.ga K "TakenName")) = some false) && (decide (PySem.W.kitOne K (.ref (He.ga K "BadState")) (.ref (He.ga K "TakenName")) = some false) && (decide (PySem.W.kitOne K (.ref (He.ga K "BadLine")) (.ref (He.ga K "TakenName")) = some false) && (decide (PySem.W.kitOne K (.ref (He.ga K "DeedFailed")) (.ref (He.ga K "TakenName")) = some false) && (decide (PySem.W.kitOne K (.ref (He.ga K "OtherSite")) (.ref (He.ga K "TakenName")) = some false) && (decide (PySem.W.kitOne K (.ref (He.ga K "NothingToUndo")) (.ref (He.ga K "TakenName")) = some false) && (decide (PySem.W.kitOne K (.ref (He.ga K "NothingToRedo")) (.ref (He.ga K "TakenName")) = some false) && (decide (PySem.W.kitOne K (.ref (He.ga K "BadNumber")) (.ref (He.ga K "UnknownName")) = some false) && (decide (PySem.W.kitOne K (.ref (He.ga K "BadName")) (.ref (He.ga K "UnknownName")) = some false) && (decide (PySem.W.kitOne K (.ref (He.ga K "TakenName")) (.ref (He.ga K "UnknownName")) = some false) && (decide (PySem.W.kitOne K (.ref (He.ga K "UnknownName")) (.ref (He.ga K "UnknownName")) = some true) && (decide (PySem.W.kitOne K (.ref (He.ga K "NoPlace")) (.ref (He.ga K "UnknownName")) = some false) && (decide (PySem.W.kitOne K (.ref (He.ga K "TooMany")) (.ref (He.ga K "UnknownName")) = some false) && (decide (PySem.W.kitOne K (.ref (He.ga K "NoSite")) (.ref (He.ga K "UnknownName")) = some false) && (decide (PySem.W.kitOne K (.ref (He.ga K "NoShape")) (.ref (He.ga K "UnknownName")) = some false) && (decide (PySem.W.kitOne K (.ref (He.ga K "BadState")) (.ref (He.ga K "UnknownName")) = some false) && (decide (PySem.W.kitOne K (.ref (He.ga K "BadLine")) (.ref (He.ga K "UnknownName")) = some false) && (decide (PySem.W.kitOne K (.ref (He.ga K "DeedFailed")) (.ref (He.ga K "UnknownName")) = some false) && (decide (PySem.W.kitOne K (.ref (He.ga K "OtherSite")) (.ref (He.ga K "UnknownName")) = some false) && (decide (PySem.W.kitOne K (.ref (He.ga K "NothingToUndo")) (.ref (He.ga K "UnknownName")) = some false) && (decide (PySem.W.kitOne K (.ref (He.ga K "NothingToRedo")) (.ref (He.ga K "UnknownName")) = some false) && (decide (PySem.W.kitOne K (.ref (He.ga K "BadNumber")) (.ref (He.ga K "NoPlace")) = some false) && (decide (PySem.W.kitOne K (.ref (He.ga K "BadName")) (.ref (He.ga K "NoPlace")) = some false) && (decide (PySem.W.kitOne K (.ref (He.ga K "TakenName")) (.ref (He.ga K "NoPlace")) = some false) && (decide (PySem.W.kitOne K (.ref (He.ga K "UnknownName")) (.ref (He.ga K "NoPlace")) = some false) && (decide (PySem.W.kitOne K (.ref (He.ga K "NoPlace")) (.ref (He.ga K "NoPlace")) = some true) && (decide (PySem.W.kitOne K (.ref (He.ga K "TooMany")) (.ref (He.ga K "NoPlace")) = some false) && (decide (PySem.W.kitOne K (.ref (He.ga K "NoSite")) (.ref (He.ga K "NoPlace")) = some false) && (decide (PySem.W.kitOne K (.ref (He.ga K "NoShape")) (.ref (He.ga K "NoPlace")) = some false) && (decide (PySem.W.kitOne K (.ref (He.ga K "BadState")) (.ref (He.ga K "NoPlace")) = some false) && (decide (PySem.W.kitOne K (.ref (He.ga K "BadLine")) (.ref (He.ga K "NoPlace")) = some false) && (decide (PySem.W.kitOne K (.ref (He.ga K "DeedFailed")) (.ref (He.ga K "NoPlace")) = some false) && (decide (PySem.W.kitOne K (.ref (He.ga K "OtherSite")) (.ref (He.ga K "NoPlace")) = some false) && (decide (PySem.W.kitOne K (.ref (He.ga K "NothingToUndo")) (.ref (He.ga K "NoPlace")) = some false) && (decide (PySem.W.kitOne K (.ref (He.ga K "NothingToRedo")) (.ref (He.ga K "NoPlace")) = some false) && (decide (PySem.W.kitOne K (.ref (He.ga K "BadNumber")) (.ref (He.ga K "TooMany")) = some false) && (decide (PySem.W.kitOne K (.ref (He.ga K "BadName")) (.ref (He.ga K "TooMany")) = some false) && (decide (PySem.W.kitOne K (.ref (He.ga K "TakenName")) (.ref (He.ga K "TooMany")) = some false) && (decide (PySem.W.kitOne K (.ref (He.ga K "UnknownName")) (.ref (He.ga K "TooMany")) = some false) && (decide (PySem.W.kitOne K (.ref (He.ga K "NoPlace")) (.ref (He.ga K "TooMany")) = some false) && (decide (PySem.W.kitOne K (.ref (He.ga K "TooMany")) (.ref (He.ga K "TooMany")) = some true) && (decide (PySem.W.kitOne K (.ref (He.ga K "NoSite")) (.ref (He.ga K "TooMany")) = some false) && (decide (PySem.W.kitOne K (.ref (He.ga K "NoShape")) (.ref (He.ga K "TooMany")) = some false) && (decide (PySem.W.kitOne K (.ref (He.ga K "BadState")) (.ref (He.ga K "TooMany")) = some false) && (decide (PySem.W.kitOne K (.ref (He.ga K "BadLine")) (.ref (He.ga K "TooMany")) = some false) && (decide (PySem.W.kitOne K (.ref (He.ga K "DeedFailed")) (.ref (He.ga K "TooMany")) = some false) && (decide (PySem.W.kitOne K (.ref (He.ga K "OtherSite")) (.ref (He.ga K "TooMany")) = some false) && (decide (PySem.W.kitOne K (.ref (He.ga K "NothingToUndo")) (.ref (He.ga K "TooMany")) = some false) && (decide (PySem.W.kitOne K (.ref (He.ga K "NothingToRedo")) (.ref (He.ga K "TooMany")) = some false) && (decide (PySem.W.kitOne K (.ref (He.ga K "BadNumber")) (.ref (He.ga K "NoSite")) = some false) && (decide (PySem.W.kitOne K (.ref (He.ga K "BadName")) (.ref (He.ga K "NoSite")) = some false) && (decide (PySem.W.kitOne K (.ref (He.ga K "TakenName")) (.ref (He.ga K "NoSite")) = some false) && (decide (PySem.W.kitOne K (.ref (He.ga K "UnknownName")) (.ref (He.ga K "NoSite")) = some false) && (decide (PySem.W.kitOne K (.ref (He.ga K "NoPlace")) (.ref (He.ga K "NoSite")) = some false) && (decide (PySem.W.kitOne K (.ref (He.ga K "TooMany")) (.ref (He.ga K "NoSite")) = some false) && (decide (PySem.W.kitOne K (.ref (He.ga K "NoSite")) (.ref (He.ga K "NoSite")) = some true) && (decide (PySem.W.kitOne K (.ref (He.ga K "NoShape")) (.ref (He.ga K "NoSite")) = some false) && (decide (PySem.W.kitOne K (.ref (He.ga K "BadState")) (.ref (He.ga K "NoSite")) = some false) && (decide (PySem.W.kitOne K (.ref (He.ga K "BadLine")) (.ref (He.ga K "NoSite")) = some false) && (decide (PySem.W.kitOne K (.ref (He.ga K "DeedFailed")) (.ref (He.ga K "NoSite")) = some false) && (decide (PySem.W.kitOne K (.ref (He.ga K "OtherSite")) (.ref (He.ga K "NoSite")) = some false) && (decide (PySem.W.kitOne K (.ref (He.ga K "NothingToUndo")) (.ref (He.ga K "NoSite")) = some false) && (decide (PySem.W.kitOne K (.ref (He.ga K "NothingToRedo")) (.ref (He.ga K "NoSite")) = some false) && (decide (PySem.W.kitOne K (.ref (He.ga K "BadNumber")) (.ref (He.ga K "NoShape")) = some false) && (decide (PySem.W.kitOne K (.ref (He.ga K "BadName")) (.ref (He.ga K "NoShape")) = some false) && (decide (PySem.W.kitOne K (.ref (He.ga K "TakenName")) (.ref (He.ga K "NoShape")) = some false) && (decide (PySem.W.kitOne K (.ref (He.ga K "UnknownName")) (.ref (He.ga K "NoShape")) = some false) && (decide (PySem.W.kitOne K (.ref (He.ga K "NoPlace")) (.ref (He.ga K "NoShape")) = some false) && (decide (PySem.W.kitOne K (.ref (He.ga K "TooMany")) (.ref (He.ga K "NoShape")) = some false) && (decide (PySem.W.kitOne K (.ref (He.ga K "NoSite")) (.ref (He.ga K "NoShape")) = some false) && (decide (PySem.W.kitOne K (.ref (He.ga K "NoShape")) (.ref (He.ga K "NoShape")) = some true) && (decide (PySem.W.kitOne K (.ref (He.ga K "BadState")) (.ref (He.ga K "NoShape")) = some false) && (decide (PySem.W.kitOne K (.ref (He.ga K "BadLine")) (.ref (He.ga K "NoShape")) = some false) && (decide (PySem.W.kitOne K (.ref (He.ga K "DeedFailed")) (.ref (He.ga K "NoShape")) = some false) && (decide (PySem.W.kitOne K (.ref (He.ga K "OtherSite")) (.ref (He.ga K "NoShape")) = some false) && (decide (PySem.W.kitOne K (.ref (He.ga K "NothingToUndo")) (.ref (He.ga K "NoShape")) = some false) && (decide (PySem.W.kitOne K (.ref (He.ga K "NothingToRedo")) (.ref (He.ga K "NoShape")) = some false) && (decide (PySem.W.kitOne K (.ref (He.ga K "BadNumber")) (.ref (He.ga K "BadState")) = some false) && (decide (PySem.W.kitOne K (.ref (He.ga K "BadName")) (.ref (He.ga K "BadState")) = some false) && (decide (PySem.W.kitOne K (.ref (He.ga K "TakenName")) (.ref (He.ga K "BadState")) = some false) && (decide (PySem.W.kitOne K (.ref (He.ga K "UnknownName")) (.ref (He.ga K "BadState")) = some false) && (decide (PySem.W.kitOne K (.ref (He.ga K "NoPlace")) (.ref (He.ga K "BadState")) = some false) && (decide (PySem.W.kitOne K (.ref (He.ga K "TooMany")) (.ref (He.ga K "BadState")) = some false) && (decide (PySem.W.kitOne K (.ref (He.ga K "NoSite")) (.ref (He.ga K "BadState")) = some false) && (decide (PySem.W.kitOne K (.ref (He.ga K "NoShape")) (.ref (He.ga K "BadState")) = some false) && (decide (PySem.W.kitOne K (.ref (He.ga K "BadState")) (.ref (He.ga K "BadState")) = some true) && (decide (PySem.W.kitOne K (.ref (He.ga K "BadLine")) (.ref (He.ga K "BadState")) = some false) && (decide (PySem.W.kitOne K (.ref (He.ga K "DeedFailed")) (.ref (He.ga K "BadState")) = some false) && (decide (PySem.W.kitOne K (.ref (He.ga K "OtherSite")) (.ref (He.ga K "BadState")) = some false) && (decide (PySem.W.kitOne K (.ref (He.ga K "NothingToUndo")) (.ref (He.ga K "BadState")) = some false) && (decide (PySem.W.kitOne K (.ref (He.ga K "NothingToRedo")) (.ref (He.ga K "BadState")) = some false) && (decide (PySem.W.kitOne K (.ref (He.ga K "BadNumber")) (.ref (He.ga K "BadLine")) = some false) && (decide (PySem.W.kitOne K (.ref (He.ga K "BadName")) (.ref (He.ga K "BadLine")) = some false) && (decide (PySem.W.kitOne K (.ref (He.ga K "TakenName")) (.ref (He.ga K "BadLine")) = some false) && (decide (PySem.W.kitOne K (.ref (He.ga K "UnknownName")) (.ref (He.ga K "BadLine")) = some false) && (decide (PySem.W.kitOne K (.ref (He.ga K "NoPlace")) (.ref (He.ga K "BadLine")) = some false) && (decide (PySem.W.kitOne K (.ref (He.ga K "TooMany")) (.ref (He.ga K "BadLine")) = some false) && (decide (PySem.W.kitOne K (.ref (He.ga K "NoSite")) (.ref (He.ga K "BadLine")) = some false) && (decide (PySem.W.kitOne K (.ref (He.ga K "NoShape")) (.ref (He.ga K "BadLine")) = some false) && (decide (PySem.W.kitOne K (.ref (He.ga K "BadState")) (.ref (He.ga K "BadLine")) = some false) && (decide (PySem.W.kitOne K (.ref (He.ga K "BadLine")) (.ref (He.ga K "BadLine")) = some true) && (decide (PySem.W.kitOne K (.ref (He.ga K "DeedFailed")) (.ref (He.ga K "BadLine")) = some false) && (decide (PySem.W.kitOne K (.ref (He.ga K "OtherSite")) (.ref (He.ga K "BadLine")) = some false) && (decide (PySem.W.kitOne K (.ref (He.ga K "NothingToUndo")) (.ref (He.ga K "BadLine")) = some false) && (decide (PySem.W.kitOne K (.ref (He.ga K "NothingToRedo")) (.ref (He.ga K "BadLine")) = some false) && (decide (PySem.W.kitOne K (.ref (He.ga K "BadNumber")) (.ref (He.ga K "DeedFailed")) = some false) && (decide (PySem.W.kitOne K (.ref (He.ga K "BadName")) (.ref (He.ga K "DeedFailed")) = some false) && (decide (PySem.W.kitOne K (.ref (He.ga K "TakenName")) (.ref (He.ga K "DeedFailed")) = some false) && (decide (PySem.W.kitOne K (.ref (He.ga K "UnknownName")) (.ref (He.ga K "DeedFailed")) = some false) && (decide (PySem.W.kitOne K (.ref (He.ga K "NoPlace")) (.ref (He.ga K "DeedFailed")) = some false) && (decide (PySem.W.kitOne K (.ref (He.ga K "TooMany")) (.ref (He.ga K "DeedFailed")) = some false) && (decide (PySem.W.kitOne K (.ref (He.ga K "NoSite")) (.ref (He.ga K "DeedFailed")) = some false) && (decide (PySem.W.kitOne K (.ref (He.ga K "NoShape")) (.ref (He.ga K "DeedFailed")) = some false) && (decide (PySem.W.kitOne K (.ref (He.ga K "BadState")) (.ref (He.ga K "DeedFailed")) = some false) && (decide (PySem.W.kitOne K (.ref (He.ga K "BadLine")) (.ref (He.ga K "DeedFailed")) = some false) && (decide (PySem.W.kitOne K (.ref (He.ga K "DeedFailed")) (.ref (He.ga K "DeedFailed")) = some true) && (decide (PySem.W.kitOne K (.ref (He.ga K "OtherSite")) (.ref (He.ga K "DeedFailed")) = some false) && (decide (PySem.W.kitOne K (.ref (He.ga K "NothingToUndo")) (.ref (He.ga K "DeedFailed")) = some false) && (decide (PySem.W.kitOne K (.ref (He.ga K "NothingToRedo")) (.ref (He.ga K "DeedFailed")) = some false) && (decide (PySem.W.kitOne K (.ref (He.ga K "BadNumber")) (.ref (He.ga K "OtherSite")) = some false) && (decide (PySem.W.kitOne K (.ref (He.ga K "BadName")) (.ref (He.ga K "OtherSite")) = some false) && (decide (PySem.W.kitOne K (.ref (He.ga K "TakenName")) (.ref (He.ga K "OtherSite")) = some false) && (decide (PySem.W.kitOne K (.ref (He.ga K "UnknownName")) (.ref (He.ga K "OtherSite")) = some false) && (decide (PySem.W.kitOne K (.ref (He.ga K "NoPlace")) (.ref (He.ga K "OtherSite")) = some false) && (decide (PySem.W.kitOne K (.ref (He.ga K "TooMany")) (.ref (He.ga K "OtherSite")) = some false) && (decide (PySem.W.kitOne K (.ref (He.ga K "NoSite")) (.ref (He.ga K "OtherSite")) = some false) && (decide (PySem.W.kitOne K (.ref (He.ga K "NoShape")) (.ref (He.ga K "OtherSite")) = some false) && (decide (PySem.W.kitOne K (.ref (He.ga K "BadState")) (.ref (He.ga K "OtherSite")) = some false) && (decide (PySem.W.kitOne K (.ref (He.ga K "BadLine")) (.ref (He.ga K "OtherSite")) = some false) && (decide (PySem.W.kitOne K (.ref (He.ga K "DeedFailed")) (.ref (He.ga K "OtherSite")) = some false) && (decide (PySem.W.kitOne K (.ref (He.ga K "OtherSite")) (.ref (He.ga K "OtherSite")) = some true) && (decide (PySem.W.kitOne K (.ref (He.ga K "NothingToUndo")) (.ref (He.ga K "OtherSite")) = some false) && (decide (PySem.W.kitOne K (.ref (He.ga K "NothingToRedo")) (.ref (He.ga K "OtherSite")) = some false) && (decide (PySem.W.kitOne K (.ref (He.ga K "BadNumber")) (.ref (He.ga K "NothingToUndo")) = some false) && (decide (PySem.W.kitOne K (.ref (He.ga K "BadName")) (.ref (He.ga K "NothingToUndo")) = some false) && (decide (PySem.W.kitOne K (.ref (He.ga K "TakenName")) (.ref (He.ga K "NothingToUndo")) = some false) && (decide (PySem.W.kitOne K (.ref (He.ga K "UnknownName")) (.ref (He.ga K "NothingToUndo")) = some false) && (decide (PySem.W.kitOne K (.ref (He.ga K "NoPlace")) (.ref (He.ga K "NothingToUndo")) = some false) && (decide (PySem.W.kitOne K (.ref (He.ga K "TooMany")) (.ref (He.ga K "NothingToUndo")) = some false) && (decide (PySem.W.kitOne K (.ref (He.ga K "NoSite")) (.ref (He.ga K "NothingToUndo")) = some false) && (decide (PySem.W.kitOne K (.ref (He.ga K "NoShape")) (.ref (He.ga K "NothingToUndo")) = some false) && (decide (PySem.W.kitOne K (.ref (He.ga K "BadState")) (.ref (He.ga K "NothingToUndo")) = some false) && (decide (PySem.W.kitOne K (.ref (He.ga K "BadLine")) (.ref (He.ga K "NothingToUndo")) = some false) && (decide (PySem.W.kitOne K (.ref (He.ga K "DeedFailed")) (.ref (He.ga K "NothingToUndo")) = some false) && (decide (PySem.W.kitOne K (.ref (He.ga K "OtherSite")) (.ref (He.ga K "NothingToUndo")) = some false) && (decide (PySem.W.kitOne K (.ref (He.ga K "NothingToUndo")) (.ref (He.ga K "NothingToUndo")) = some true) && (decide (PySem.W.kitOne K (.ref (He.ga K "NothingToRedo")) (.ref (He.ga K "NothingToUndo")) = some false) && (decide (PySem.W.kitOne K (.ref (He.ga K "BadNumber")) (.ref (He.ga K "NothingToRedo")) = some false) && (decide (PySem.W.kitOne K (.ref (He.ga K "BadName")) (.ref (He.ga K "NothingToRedo")) = some false) && (decide (PySem.W.kitOne K (.ref (He.ga K "TakenName")) (.ref (He.ga K "NothingToRedo")) = some false) && (decide (PySem.W.kitOne K (.ref (He.ga K "UnknownName")) (.ref (He.ga K "NothingToRedo")) = some false) && (decide (PySem.W.kitOne K (.ref (He.ga K "NoPlace")) (.ref (He.ga K "NothingToRedo")) = some false) && (decide (PySem.W.kitOne K (.ref (He.ga K "TooMany")) (.ref (He.ga K "NothingToRedo")) = some false) && (decide (PySem.W.kitOne K (.ref (He.ga K "NoSite")) (.ref (He.ga K "NothingToRedo")) = some false) && (decide (PySem.W.kitOne K (.ref (He.ga K "NoShape")) (.ref (He.ga K "NothingToRedo")) = some false) && (decide (PySem.W.kitOne K (.ref (He.ga K "BadState")) (.ref (He.ga K "NothingToRedo")) = some false) && (decide (PySem.W.kitOne K (.ref (He.ga K "BadLine")) (.ref (He.ga K "NothingToRedo")) = some false) && (decide (PySem.W.kitOne K (.ref (He.ga K "DeedFailed")) (.ref (He.ga K "NothingToRedo")) = some false) && (decide (PySem.W.kitOne K (.ref (He.ga K "OtherSite")) (.ref (He.ga K "NothingToRedo")) = some false) && (decide (PySem.W.kitOne K (.ref (He.ga K "NothingToUndo")) (.ref (He.ga K "NothingToRedo")) = some false) && (decide (PySem.W.kitOne K (.ref (He.ga K "NothingToRedo")) (.ref (He.ga K "NothingToRedo")) = some true) && (decide (PySem.W.kitOne K (.ref (He.ga K "BadNumber")) (.ref (He.ga K "LadderError")) = some true) && (decide (PySem.W.kitOne K (.ref (He.ga K "BadName")) (.ref (He.ga K "LadderError")) = some true) && (decide (PySem.W.kitOne K (.ref (He.ga K "TakenName")) (.ref (He.ga K "LadderError")) = some true) && (decide (PySem.W.kitOne K (.ref (He.ga K "UnknownName")) (.ref (He.ga K "LadderError")) = some true) && (decide (PySem.W.kitOne K (.ref (He.ga K "NoPlace")) (.ref (He.ga K "LadderError")) = some true) && (decide (PySem.W.kitOne K (.ref (He.ga K "TooMany")) (.ref (He.ga K "LadderError")) = some true) && (decide (PySem.W.kitOne K (.ref (He.ga K "NoSite")) (.ref (He.ga K "LadderError")) = some true) && (decide (PySem.W.kitOne K (.ref (He.ga K "NoShape")) (.ref (He.ga K "LadderError")) = some true) && (decide (PySem.W.kitOne K (.ref (He.ga K "BadState")) (.ref (He.ga K "LadderError")) = some true) && (decide (PySem.W.kitOne K (.ref (He.ga K "BadLine")) (.ref (He.ga K "LadderError")) = some true) && (decide (PySem.W.kitOne K (.ref (He.ga K "DeedFailed")) (.ref (He.ga K "LadderError")) = some true) && (decide (PySem.W.kitOne K (.ref (He.ga K "OtherSite")) (.ref (He.ga K "LadderError")) = some true) && (decide (PySem.W.kitOne K (.ref (He.ga K "NothingToUndo")) (.ref (He.ga K "LadderError")) = some true) && (decide (PySem.W.kitOne K (.ref (He.ga K "NothingToRedo")) (.ref (He.ga K "LadderError")) = some true) && (decide (PySem.W.kitOne K (.ref (He.ga K "BadNumber")) (.type "ValueError") = some true) && (decide (PySem.W.kitOne K (.ref (He.ga K "BadName")) (.type "ValueError") = some true) && (decide (PySem.W.kitOne K (.ref (He.ga K "TakenName")) (.type "ValueError") = some true) && (decide (PySem.W.kitOne K (.ref (He.ga K "UnknownName")) (.type "ValueError") = some true) && (decide (PySem.W.kitOne K (.ref (He.ga K "NoPlace")) (.type "ValueError") = some true) && (decide (PySem.W.kitOne K (.ref (He.ga K "TooMany")) (.type "ValueError") = some true) && (decide (PySem.W.kitOne K (.ref (He.ga K "NoSite")) (.type "ValueError") = some true) && (decide (PySem.W.kitOne K (.ref (He.ga K "NoShape")) (.type "ValueError") = some true) && (decide (PySem.W.kitOne K (.ref (He.ga K "BadState")) (.type "ValueError") = some true) && (decide (PySem.W.kitOne K (.ref (He.ga K "BadLine")) (.type "ValueError") = some true) && (decide (PySem.W.kitOne K (.ref (He.ga K "DeedFailed")) (.type "ValueError") = some true) && (decide (PySem.W.kitOne K (.ref (He.ga K "OtherSite")) (.type "ValueError") = some true) && (decide (PySem.W.kitOne K (.ref (He.ga K "NothingToUndo")) (.type "ValueError") = some true) && (decide (PySem.W.kitOne K (.ref (He.ga K "NothingToRedo")) (.type "ValueError") = some true) && true))))))))))))))))))))))))))))))))))))))))))))))))))))))))))))))))))))))))))))))))))))))))))))))))))))))))))))))))))))))))))))))))))))))))))))))))))))))))))))))))))))))))))))))))))))))))))))))))))))))))))))))))))))))))))))))))))))))))))))))))))))))))))))
abbrev R : PySem.W.OpenRow := PySem.W.OpenLaw.row PySem.Challenge.rw_rungbounds_k57_errors_and_their_fields
abbrev hk : PySem.W.Hook := Hd.hookP 6 fnL erL exL
def loose : List Str := (["LadderError", "BadNumber", "BadName", "TakenName", "UnknownName", "NoPlace", "TooMany", "NoSite", "NoShape", "OtherSite", "NothingToUndo", "NothingToRedo", "BadState", "BadLine", "DeedFailed", "_law_box", "_law_take", "_law_number", "_law_classes", "_law_based"] : List Str)
def ob (s : PySem.W.SharedT) : Hd.AlP := Hd.obsPG 6 fnL erL exL (HandSHeadRun.getT s)
theorem ob_eq (s : PySem.W.SharedT) : ob s = hk.obs s.abs := Hd.obsPG_eq (HandSHeadRun.getT_eq s)
theorem runA (w : World) : Hd.runL R 6000 w := by
  intro os
  kernel_rfl
theorem runB (w : World) : Hd.runS R (PySem.W.view R.prog [22]) 6000 loose w := by
  intro os
  kernel_rfl
theorem runC (w : World) : Hd.runO R hk ob 6000 w := by
  intro os
  kernel_rfl
theorem run (w : World) : HandSHeadRun.RunEq R (PySem.W.view R.prog [22]) hk ob 6000 loose w := Hd.run_of (runA w) (runB w) (runC w)
end Pf
namespace ExV
open PySem PySem.Spec PyProof.Rows L2
def ErO (C : Addr) (d : Option Addr) (a : Addr) : HO := .ext fun h => ∃ (oe : Obj) (vs : Array Value), h.get? a = some oe ∧ Zc (.ref C) d oe ∧ oe.data = .fields vs
end ExV
namespace Dl
open PySem PySem.Spec PyProof.Rows L2
inductive D where
  | non | bl (b : Bool) | int (i : Int) | str (x : Str) | lst (xs : List D) | tup (xs : List D) | dic (es : List (Key × D)) | dil (es : List (Key × D)) | obj (c : Nat) (fs : List D) | cls (c : Nat) | scr | idn (a : Addr) (d : D) | adr (a : Addr) | exc (c : Nat) (d : D) | exb (c : Nat)
def cn : Nat → Str
  | 0 => "Trial" | 1 => "Ladder" | 2 => "Rack" | 3 => "Site" | 4 => "Bounds" | 5 => "Wish" | 6 => "AllWithin" | 7 => "SomeWithin" | 8 => "Band" | 9 => "Both" | 10 => "Planner" | 11 => "Situation" | 12 => "Together" | _ => "Crew"
def cf : Nat → List Str
  | 0 => ["place", "height", "reached"] | 1 => ["length", "parts"] | 2 => ["rows"] | 3 => ["wall_rows", "link_rows", "spots", "tops", "size", "direct", "far", "middles"] | 4 => ["site", "given", "least", "greatest"]
  | 5 => ["size"] | 6 => ["size", "pairs"] | 7 => ["size", "pairs"] | 8 => ["size", "place", "cuts"] | 9 => ["size", "first", "second"] | 10 => ["site", "given", "wish", "menu", "allowed", "known", "costs"]
  | 11 => ["ladder_rows", "pinned_marks", "tried", "allowed", "deeds"] | 12 => ["crew", "before"] | _ => ["site", "now", "past", "taken_back", "running"]
inductive Sh where
  | fr | ol (s : Sh) | od (s : Sh) | oo (ss : List Sh) | ot (ss : List Sh) | oh (ss : List Sh) | ft (ss : List Sh)
inductive Sl where
  | un | sh (d : D) | ow (s : Sh) (d : D) | le (v : V) (s : Sh) (d : D) | bx | lb (v : V) | er (a dd : Addr) (c : Nat) (d : D)
def en : Nat → Str
  | 0 => "BadNumber" | 1 => "BadName" | 2 => "TakenName" | 3 => "UnknownName" | 4 => "NoPlace" | 5 => "TooMany" | 6 => "NoSite" | 7 => "NoShape" | 8 => "BadState" | 9 => "BadLine" | 10 => "DeedFailed" | 11 => "OtherSite" | 12 => "NothingToUndo" | _ => "NothingToRedo"
def ef : Nat → Str
  | 0 => "value" | 1 => "name" | 2 => "name" | 3 => "name" | 4 => "place" | 5 => "count" | 6 => "ring" | 7 => "blames" | 8 => "state" | 9 => "line" | 10 => "row" | _ => ""
def Bx (H : Hp) (b c : Addr) : Prop := ∃ (cs : List Int) (i r s : Int), H b = some (.lst [.ref c, .int i, .int r, .int s]) ∧ H c = some (.lst (cs.map V.int)) ∧ cs.length ≤ 63 ∧ 0 ≤ i ∧ 0 ≤ r ∧ 0 ≤ s ∧ s < 2147483647
mutual
inductive Rep (K : PySem.W.Frag) (F : Hp) : V → D → Prop
  | non : Rep K F .non .non
  | bl (b : Bool) : Rep K F (.bl b) (.bl b)
  | int (i : Int) : Rep K F (.int i) (.int i)
  | str (x : Str) : Rep K F (.str x) (.str x)
  | lst {a : Addr} {vs : List V} {ds : List D} : F a = some (.lst vs) → RepL K F vs ds → Rep K F (.ref a) (.lst ds)
  | tup {a : Addr} {vs : List V} {ds : List D} : SqT K F a vs → RepL K F vs ds → Rep K F (.ref a) (.tup ds)
  | dic {a : Addr} {kvs : List (Key × V)} {es : List (Key × D)} : F a = some (.dK kvs) → RepK K F kvs es → Rep K F (.ref a) (.dic es)
  | dil {a : Addr} {o : Obj} {kvs : List (Key × V)} {es : List (Key × D)} : F a = some (.frz o (.dK kvs)) → RepK K F kvs es → Rep K F (.ref a) (.dil es)
  | obj {a dx : Addr} {c : Nat} {fs : List (Str × V)} {ds : List D} : F a = some (.ins (He.ga K (cn c)) dx fs) → F dx = some (.own a) → fs.map (·.1) = (cf c).take ds.length → RepL K F (fs.map (·.2)) ds → Rep K F (.ref a) (.obj c ds)
  | cls (c : Nat) : Rep K F (.ref (He.ga K (cn c))) (.cls c)
  | scr {a : Addr} {ns : List Int} : SqL K F a (ns.map V.int) → Rep K F (.ref a) .scr
  | idn {a : Addr} {d : D} : F a ≠ none → Rep K F (.ref a) d → Rep K F (.ref a) (.idn a d)
  | adr (a : Addr) : Rep K F (.ref a) (.adr a)
  | exc {a dd : Addr} {c : Nat} {v : V} {d : D} : F a = some (ExV.ErO (He.ga K (en c)) (some dd) a) → F dd = some (.xd [(ef c, v)]) → Rep K F v d → Rep K F (.ref a) (.exc c d)
  | exb {a : Addr} {c : Nat} : F a = some (ExV.ErO (He.ga K (en c)) none a) → Rep K F (.ref a) (.exb c)
inductive RepL (K : PySem.W.Frag) (F : Hp) : List V → List D → Prop
  | nil : RepL K F [] []
  | cons {v : V} {d : D} {vs : List V} {ds : List D} : Rep K F v d → RepL K F vs ds → RepL K F (v :: vs) (d :: ds)
inductive RepK (K : PySem.W.Frag) (F : Hp) : List (Key × V) → List (Key × D) → Prop
  | nil : RepK K F [] []
  | cons {k : Key} {v : V} {d : D} {vs : List (Key × V)} {ds : List (Key × D)} : Rep K F v d → RepK K F vs ds → RepK K F ((k, v) :: vs) ((k, d) :: ds)
end
mutual
inductive Own (K : PySem.W.Frag) (F H : Hp) : Sh → V → D → List Addr → Prop
  | fr {v : V} {d : D} : Rep K F v d → Own K F H .fr v d []
  | ol {s : Sh} {a : Addr} {vs : List V} {ds : List D} {fp : List Addr} : H a = some (.lst vs) → OwnL K F H s vs ds fp → Own K F H (.ol s) (.ref a) (.lst ds) (a :: fp)
  | od {s : Sh} {a : Addr} {kvs : List (Key × V)} {es : List (Key × D)} {fp : List Addr} : H a = some (.dK kvs) → OwnK K F H s kvs es fp → Own K F H (.od s) (.ref a) (.dic es) (a :: fp)
  | oo {ss : List Sh} {a dx : Addr} {c : Nat} {fs : List (Str × V)} {ds : List D} {fp : List Addr} : H a = some (.ins (He.ga K (cn c)) dx fs) → H dx = some (.own a) → fs.map (·.1) = (cf c).take ds.length → OwnF K F H ss (fs.map (·.2)) ds fp → Own K F H (.oo ss) (.ref a) (.obj c ds) (a :: dx :: fp)
  | ot {ss : List Sh} {a : Addr} {vs : List V} {ds : List D} {fp : List Addr} : H a = some (.tup vs) → OwnF K F H ss vs ds fp → Own K F H (.ot ss) (.ref a) (.tup ds) (a :: fp)
  | oh {ss : List Sh} {a : Addr} {vs : List V} {ds : List D} {fp : List Addr} : H a = some (.lst vs) → OwnF K F H ss vs ds fp → Own K F H (.oh ss) (.ref a) (.lst ds) (a :: fp)
  | ft {ss : List Sh} {a : Addr} {vs : List V} {ds : List D} {fp : List Addr} : F a = some (.tup vs) → OwnF K F H ss vs ds fp → Own K F H (.ft ss) (.ref a) (.tup ds) fp
inductive OwnL (K : PySem.W.Frag) (F H : Hp) : Sh → List V → List D → List Addr → Prop
  | nil {s : Sh} : OwnL K F H s [] [] []
  | cons {s : Sh} {v : V} {d : D} {f fp : List Addr} {vs : List V} {ds : List D} : Own K F H s v d f → OwnL K F H s vs ds fp → OwnL K F H s (v :: vs) (d :: ds) (f ++ fp)
inductive OwnK (K : PySem.W.Frag) (F H : Hp) : Sh → List (Key × V) → List (Key × D) → List Addr → Prop
  | nil {s : Sh} : OwnK K F H s [] [] []
  | cons {s : Sh} {k : Key} {v : V} {d : D} {f fp : List Addr} {vs : List (Key × V)} {ds : List (Key × D)} : Own K F H s v d f → OwnK K F H s vs ds fp → OwnK K F H s ((k, v) :: vs) ((k, d) :: ds) (f ++ fp)
inductive OwnF (K : PySem.W.Frag) (F H : Hp) : List Sh → List V → List D → List Addr → Prop
  | nil : OwnF K F H [] [] [] []
  | cons {s : Sh} {ss : List Sh} {v : V} {d : D} {f fp : List Addr} {vs : List V} {ds : List D} : Own K F H s v d f → OwnF K F H ss vs ds fp → OwnF K F H (s :: ss) (v :: vs) (d :: ds) (f ++ fp)
end
def Le (F F' : Hp) : Prop := ∀ a o, F a = some o → F' a = some o
theorem Le.rfl {F : Hp} : Le F F := fun _ _ h => h
theorem Le.trans {F F' F'' : Hp} (h : Le F F') (h' : Le F' F'') : Le F F'' := fun a o e => h' a o (h a o e)
section
variable {K : PySem.W.Frag} {F F' H H' : Hp}
theorem rd_mono (s : Le F F') {a : Addr} {u : HO} (h : Rd F a u) : Rd F' a u := by
  rcases h with h | ⟨o, h⟩
  · exact .inl (s _ _ h)
  · exact .inr ⟨o, s _ _ h⟩
theorem sql_mono (s : Le F F') {a : Addr} {vs : List V} (h : SqL K F a vs) : SqL K F' a vs := by
  rcases h with h | h
  · exact .inl (rd_mono s h)
  · exact .inr h
theorem sqt_mono (s : Le F F') {a : Addr} {vs : List V} (h : SqT K F a vs) : SqT K F' a vs := by
  rcases h with h | h
  · exact .inl (rd_mono s h)
  · exact .inr h
mutual
theorem Rep.mono (s : Le F F') : ∀ {v : V} {d : D}, Rep K F v d → Rep K F' v d
  | _, _, .non => .non
  | _, _, .bl b => .bl b
  | _, _, .int i => .int i
  | _, _, .str x => .str x
  | _, _, .lst h r => .lst (s _ _ h) (RepL.mono s r)
  | _, _, .tup h r => .tup (sqt_mono s h) (RepL.mono s r)
  | _, _, .dic h r => .dic (s _ _ h) (RepK.mono s r)
  | _, _, .dil h r => .dil (s _ _ h) (RepK.mono s r)
  | _, _, .obj h h' n r => .obj (s _ _ h) (s _ _ h') n (RepL.mono s r)
  | _, _, .cls c => .cls c
  | _, _, .scr h => .scr (sql_mono s h)
  | _, _, .idn n r => .idn (fun z => by cases e : F _ with | none => exact n e | some o => rw [s _ _ e] at z; cases z) (Rep.mono s r)
  | _, _, .adr a => .adr a
  | _, _, .exc h h' r => .exc (s _ _ h) (s _ _ h') (Rep.mono s r)
  | _, _, .exb h => .exb (s _ _ h)
theorem RepL.mono (s : Le F F') : ∀ {v : List V} {d : List D}, RepL K F v d → RepL K F' v d
  | _, _, .nil => .nil
  | _, _, .cons h r => .cons (Rep.mono s h) (RepL.mono s r)
theorem RepK.mono (s : Le F F') : ∀ {v : List (Key × V)} {d : List (Key × D)}, RepK K F v d → RepK K F' v d
  | _, _, .nil => .nil
  | _, _, .cons h r => .cons (Rep.mono s h) (RepK.mono s r)
end
mutual
theorem Own.mono (s : Le F F') : ∀ {z : Sh} {v : V} {d : D} {fp : List Addr}, (∀ a ∈ fp, H' a = H a) → Own K F H z v d fp → Own K F' H' z v d fp
  | _, _, _, _, _, .fr r => .fr (r.mono s)
  | _, _, _, _, e, .ol h r => .ol (by rw [e _ (by simp)]; exact h) (OwnL.mono s (fun a ha => e a (List.mem_cons_of_mem _ ha)) r)
  | _, _, _, _, e, .od h r => .od (by rw [e _ (by simp)]; exact h) (OwnK.mono s (fun a ha => e a (List.mem_cons_of_mem _ ha)) r)
  | _, _, _, _, e, .oo h h' n r => .oo (by rw [e _ (by simp)]; exact h) (by rw [e _ (by simp)]; exact h') n (OwnF.mono s (fun a ha => e a (List.mem_cons_of_mem _ (List.mem_cons_of_mem _ ha))) r)
  | _, _, _, _, e, .ot h r => .ot (by rw [e _ (by simp)]; exact h) (OwnF.mono s (fun a ha => e a (List.mem_cons_of_mem _ ha)) r)
  | _, _, _, _, e, .ft h r => .ft (s _ _ h) (OwnF.mono s e r)
  | _, _, _, _, e, .oh h r => .oh (by rw [e _ (by simp)]; exact h) (OwnF.mono s (fun a ha => e a (List.mem_cons_of_mem _ ha)) r)
theorem OwnL.mono (s : Le F F') : ∀ {z : Sh} {v : List V} {d : List D} {fp : List Addr}, (∀ a ∈ fp, H' a = H a) → OwnL K F H z v d fp → OwnL K F' H' z v d fp
  | _, _, _, _, _, .nil => .nil
  | _, _, _, _, e, .cons h r => .cons (Own.mono s (fun a ha => e a (List.mem_append_left _ ha)) h) (OwnL.mono s (fun a ha => e a (List.mem_append_right _ ha)) r)
theorem OwnK.mono (s : Le F F') : ∀ {z : Sh} {v : List (Key × V)} {d : List (Key × D)} {fp : List Addr}, (∀ a ∈ fp, H' a = H a) → OwnK K F H z v d fp → OwnK K F' H' z v d fp
  | _, _, _, _, _, .nil => .nil
  | _, _, _, _, e, .cons h r => .cons (Own.mono s (fun a ha => e a (List.mem_append_left _ ha)) h) (OwnK.mono s (fun a ha => e a (List.mem_append_right _ ha)) r)
theorem OwnF.mono (s : Le F F') : ∀ {z : List Sh} {v : List V} {d : List D} {fp : List Addr}, (∀ a ∈ fp, H' a = H a) → OwnF K F H z v d fp → OwnF K F' H' z v d fp
  | _, _, _, _, _, .nil => .nil
  | _, _, _, _, e, .cons h r => .cons (Own.mono s (fun a ha => e a (List.mem_append_left _ ha)) h) (OwnF.mono s (fun a ha => e a (List.mem_append_right _ ha)) r)
end
mutual
theorem Own.fz (s : Le F F') : ∀ {z : Sh} {v : V} {d : D} {fp : List Addr}, (∀ a ∈ fp, F' a = H a) → Own K F H z v d fp → Rep K F' v d
  | _, _, _, _, _, .fr r => r.mono s
  | _, _, _, _, e, .ol h r => .lst (by rw [e _ (by simp)]; exact h) (OwnL.fz s (fun a ha => e a (List.mem_cons_of_mem _ ha)) r)
  | _, _, _, _, e, .od h r => .dic (by rw [e _ (by simp)]; exact h) (OwnK.fz s (fun a ha => e a (List.mem_cons_of_mem _ ha)) r)
  | _, _, _, _, e, .oo h h' n r => .obj (by rw [e _ (by simp)]; exact h) (by rw [e _ (by simp)]; exact h') n (OwnF.fz s (fun a ha => e a (List.mem_cons_of_mem _ (List.mem_cons_of_mem _ ha))) r)
  | _, _, _, _, e, .ot h r => .tup (.inl (.inl (by rw [e _ (by simp)]; exact h))) (OwnF.fz s (fun a ha => e a (List.mem_cons_of_mem _ ha)) r)
  | _, _, _, _, e, .ft h r => .tup (.inl (.inl (s _ _ h))) (OwnF.fz s e r)
  | _, _, _, _, e, .oh h r => .lst (by rw [e _ (by simp)]; exact h) (OwnF.fz s (fun a ha => e a (List.mem_cons_of_mem _ ha)) r)
theorem OwnL.fz (s : Le F F') : ∀ {z : Sh} {v : List V} {d : List D} {fp : List Addr}, (∀ a ∈ fp, F' a = H a) → OwnL K F H z v d fp → RepL K F' v d
  | _, _, _, _, _, .nil => .nil
  | _, _, _, _, e, .cons h r => .cons (Own.fz s (fun a ha => e a (List.mem_append_left _ ha)) h) (OwnL.fz s (fun a ha => e a (List.mem_append_right _ ha)) r)
theorem OwnK.fz (s : Le F F') : ∀ {z : Sh} {v : List (Key × V)} {d : List (Key × D)} {fp : List Addr}, (∀ a ∈ fp, F' a = H a) → OwnK K F H z v d fp → RepK K F' v d
  | _, _, _, _, _, .nil => .nil
  | _, _, _, _, e, .cons h r => .cons (Own.fz s (fun a ha => e a (List.mem_append_left _ ha)) h) (OwnK.fz s (fun a ha => e a (List.mem_append_right _ ha)) r)
theorem OwnF.fz (s : Le F F') : ∀ {z : List Sh} {v : List V} {d : List D} {fp : List Addr}, (∀ a ∈ fp, F' a = H a) → OwnF K F H z v d fp → RepL K F' v d
  | _, _, _, _, _, .nil => .nil
  | _, _, _, _, e, .cons h r => .cons (Own.fz s (fun a ha => e a (List.mem_append_left _ ha)) h) (OwnF.fz s (fun a ha => e a (List.mem_append_right _ ha)) r)
end
mutual
theorem Own.here : ∀ {z : Sh} {v : V} {d : D} {fp : List Addr}, Own K F H z v d fp → ∀ a ∈ fp, H a ≠ none
  | _, _, _, _, .fr r, a, ha => by cases ha
  | _, _, _, _, .ol h r, a, ha => by
    rcases List.mem_cons.mp ha with rfl | ha
    · rw [h]; intro z; cases z
    · exact OwnL.here r a ha
  | _, _, _, _, .od h r, a, ha => by
    rcases List.mem_cons.mp ha with rfl | ha
    · rw [h]; intro z; cases z
    · exact OwnK.here r a ha
  | _, _, _, _, .oo h h' n r, a, ha => by
    rcases List.mem_cons.mp ha with rfl | ha
    · rw [h]; intro z; cases z
    rcases List.mem_cons.mp ha with rfl | ha
    · rw [h']; intro z; cases z
    · exact OwnF.here r a ha
  | _, _, _, _, .ot h r, a, ha => by
    rcases List.mem_cons.mp ha with rfl | ha
    · rw [h]; intro z; cases z
    · exact OwnF.here r a ha
  | _, _, _, _, .ft h r, a, ha => OwnF.here r a ha
  | _, _, _, _, .oh h r, a, ha => by
    rcases List.mem_cons.mp ha with rfl | ha
    · rw [h]; intro z; cases z
    · exact OwnF.here r a ha
theorem OwnL.here : ∀ {z : Sh} {v : List V} {d : List D} {fp : List Addr}, OwnL K F H z v d fp → ∀ a ∈ fp, H a ≠ none
  | _, _, _, _, .nil, a, ha => by cases ha
  | _, _, _, _, .cons h r, a, ha => by
    rcases List.mem_append.mp ha with ha | ha
    · exact Own.here h a ha
    · exact OwnL.here r a ha
theorem OwnK.here : ∀ {z : Sh} {v : List (Key × V)} {d : List (Key × D)} {fp : List Addr}, OwnK K F H z v d fp → ∀ a ∈ fp, H a ≠ none
  | _, _, _, _, .nil, a, ha => by cases ha
  | _, _, _, _, .cons h r, a, ha => by
    rcases List.mem_append.mp ha with ha | ha
    · exact Own.here h a ha
    · exact OwnK.here r a ha
theorem OwnF.here : ∀ {z : List Sh} {v : List V} {d : List D} {fp : List Addr}, OwnF K F H z v d fp → ∀ a ∈ fp, H a ≠ none
  | _, _, _, _, .nil, a, ha => by cases ha
  | _, _, _, _, .cons h r, a, ha => by
    rcases List.mem_append.mp ha with ha | ha
    · exact Own.here h a ha
    · exact OwnF.here r a ha
end
end
inductive SlV (K : PySem.W.Frag) (F H : Hp) : Option V → Sl → List Addr → Prop
  | un {o : Option V} : SlV K F H o .un []
  | sh {v : V} {d : D} : Rep K F v d → SlV K F H (some v) (.sh d) []
  | ow {v : V} {s : Sh} {d : D} {fp : List Addr} : Own K F H s v d fp → SlV K F H (some v) (.ow s d) fp
  | le {v : V} {s : Sh} {d : D} {fp : List Addr} : Own K F H s v d fp → SlV K F H (some v) (.le v s d) fp
  | bx {b c : Addr} : Bx H b c → SlV K F H (some (.ref b)) .bx [b, c]
  | lb {b c : Addr} : Bx H b c → SlV K F H (some (.ref b)) (.lb (.ref b)) [b, c]
  | erB {a dd : Addr} {c : Nat} {d : D} : ef c = ("" : Str) → SlV K F H (some (.ref a)) (.er a dd c d) []
  | er {a dd : Addr} {c : Nat} {v : V} {d : D} : ef c ≠ ("" : Str) → H dd = some (.xd [(ef c, v)]) → Rep K F v d → SlV K F H (some (.ref a)) (.er a dd c d) [dd]
inductive Slots (K : PySem.W.Frag) (F H : Hp) : L2.St → List Sl → List Addr → Prop
  | nil : Slots K F H [] [] []
  | cons {o : Option V} {s : Sl} {f fp : List Addr} {σ : L2.St} {ρ : List Sl} : SlV K F H o s f → Slots K F H σ ρ fp → Slots K F H (o :: σ) (s :: ρ) (f ++ fp)
section
variable {K : PySem.W.Frag} {F F' H H' : Hp}
theorem bx_mono {b c : Addr} (e : ∀ a ∈ [b, c], H' a = H a) (h : Bx H b c) : Bx H' b c := by
  obtain ⟨cs, i, r, s, h1, h2, h3⟩ := h
  exact ⟨cs, i, r, s, by rw [e _ (by simp)]; exact h1, by rw [e _ (by simp)]; exact h2, h3⟩
theorem SlV.mono (s : Le F F') {o : Option V} {z : Sl} {fp : List Addr} (e : ∀ a ∈ fp, H' a = H a) (h : SlV K F H o z fp) : SlV K F' H' o z fp := by
  cases h with
  | un => exact .un
  | sh r => exact .sh (r.mono s)
  | ow r => exact .ow (r.mono s e)
  | bx r => exact .bx (bx_mono e r)
  | le r => exact .le (r.mono s e)
  | lb r => exact .lb (bx_mono e r)
  | erB q => exact .erB q
  | er q h r => exact .er q (by rw [e _ (by simp)]; exact h) (r.mono s)
theorem Bx.here {b c : Addr} (r : Bx H b c) : ∀ a ∈ [b, c], H a ≠ none := by
  obtain ⟨cs, i, r, s, h1, h2, h3⟩ := r
  intro a ha z
  rcases List.mem_cons.mp ha with rfl | ha
  · rw [h1] at z; cases z
  · rcases List.mem_cons.mp ha with rfl | ha
    · rw [h2] at z; cases z
    · cases ha
theorem SlV.here {o : Option V} {z : Sl} {fp : List Addr} (h : SlV K F H o z fp) : ∀ a ∈ fp, H a ≠ none := by
  cases h with
  | un => intro a ha; cases ha
  | sh r => intro a ha; cases ha
  | ow r => exact r.here
  | bx r => exact r.here
  | le r => exact r.here
  | lb r => exact r.here
  | erB q => exact fun a ha => nomatch ha
  | er q h r =>
    intro a ha z
    rw [List.mem_singleton.mp ha, h] at z
    cases z
theorem Slots.mono (s : Le F F') {σ : L2.St} {ρ : List Sl} {fp : List Addr} (e : ∀ a ∈ fp, H' a = H a) (h : Slots K F H σ ρ fp) : Slots K F' H' σ ρ fp := by
  induction h with
  | nil => exact .nil
  | cons h r ih => exact .cons (h.mono s fun a ha => e a (List.mem_append_left _ ha)) (ih fun a ha => e a (List.mem_append_right _ ha))
theorem Slots.here {σ : L2.St} {ρ : List Sl} {fp : List Addr} (h : Slots K F H σ ρ fp) : ∀ a ∈ fp, H a ≠ none := by
  induction h with
  | nil => intro a ha; cases ha
  | cons h r ih =>
    intro a ha
    rcases List.mem_append.mp ha with ha | ha
    · exact h.here a ha
    · exact ih a ha
theorem Slots.len {σ : L2.St} {ρ : List Sl} {fp : List Addr} (h : Slots K F H σ ρ fp) : σ.length = ρ.length := by
  induction h with
  | nil => rfl
  | cons h r ih => simp [ih]
theorem Slots.at {σ : L2.St} {ρ : List Sl} {fp : List Addr} (h : Slots K F H σ ρ fp) : ∀ {i : Nat} {s : Sl}, ρ[i]? = some s → ∃ (o : Option V) (l f r : List Addr), fp = l ++ (f ++ r) ∧ σ[i]? = some o ∧ SlV K F H o s f ∧
    ∀ (o' : Option V) (s' : Sl) (f' : List Addr), SlV K F H o' s' f' → Slots K F H (σ.set i o') (ρ.set i s') (l ++ (f' ++ r)) := by
  induction h with
  | nil => intro i s e; cases e
  | @cons o s0 f fp σ ρ h r ih =>
    intro i s e
    cases i with
    | zero =>
      obtain rfl : s0 = s := Option.some.inj e
      exact ⟨o, [], f, fp, rfl, rfl, h, fun o' s' f' h' => by show Slots K F H (o' :: σ) (s' :: ρ) (f' ++ fp); exact .cons h' r⟩
    | succ i =>
      obtain ⟨o1, l, f1, r1, e1, e2, h1, k⟩ := ih (i := i) (s := s) e
      refine ⟨o1, f ++ l, f1, r1, by rw [e1, List.append_assoc], e2, h1, fun o' s' f' h' => ?_⟩
      rw [List.append_assoc]
      exact .cons h (k o' s' f' h')
theorem Slots.app {σ σ' : L2.St} {ρ ρ' : List Sl} {fp fp' : List Addr} (h : Slots K F H σ ρ fp) (h' : Slots K F H σ' ρ' fp') : Slots K F H (σ ++ σ') (ρ ++ ρ') (fp ++ fp') := by
  induction h with
  | nil => exact h'
  | cons h r ih => rw [List.append_assoc]; exact .cons h ih
theorem Slots.split {σ' : L2.St} {ρ' : List Sl} : ∀ {σ : L2.St} {ρ : List Sl} {fp : List Addr}, σ.length = ρ.length → Slots K F H (σ ++ σ') (ρ ++ ρ') fp → ∃ f1 f2, fp = f1 ++ f2 ∧ Slots K F H σ ρ f1 ∧ Slots K F H σ' ρ' f2
  | [], [], fp, _, h => ⟨[], fp, rfl, .nil, h⟩
  | [], _ :: _, _, e, _ => by simp at e
  | _ :: _, [], _, e, _ => by simp at e
  | o :: σ, s :: ρ, fp, e, h => by
    cases h with
    | cons h r =>
      obtain ⟨f1, f2, rfl, h1, h2⟩ := Slots.split (by simpa using e) r
      exact ⟨_ ++ f1, f2, by rw [List.append_assoc], .cons h h1, h2⟩
end
structure Ent where
  H : Hp
  F : Hp
  fp : List Addr
structure Good (G : Ent) (F H : Hp) (fp : List Addr) : Prop where
  sub : Le F H
  f0 : Le G.F F
  fN : ∀ a, F a ≠ none → G.F a ≠ none ∨ G.H a = none ∨ a ∈ G.fp
  frm : ∀ a o, G.H a = some o → a ∉ G.fp → H a = some o
  all : ∀ a, G.H a ≠ none → H a ≠ none
  own : ∀ a ∈ fp, a ∈ G.fp ∨ G.H a = none
  nf : ∀ a ∈ fp, F a = none
  nd : fp.Nodup
def Rel (K : PySem.W.Frag) (G : Ent) (H : Hp) (σ : L2.St) (ρ : List Sl) (τ : L2.St) (δ : List Sl) : Prop :=
  ∃ F f1 f2, Good G F H (f1 ++ f2) ∧ Slots K F H τ δ f1 ∧ Slots K F H σ ρ f2
section
variable {K : PySem.W.Frag} {G : Ent} {F F' H H' : Hp} {fp fp' : List Addr}
theorem Good.less (g : Good G F H fp) (p : fp'.Sublist fp) : Good G F H fp' :=
  ⟨g.sub, g.f0, g.fN, g.frm, g.all, fun a ha => g.own a (p.subset ha), fun a ha => g.nf a (p.subset ha), g.nd.sublist p⟩
theorem Good.cnt (g : Good G F H fp) (h : ∀ a, fp'.count a ≤ fp.count a) : Good G F H fp' := by
  have hm : ∀ a ∈ fp', a ∈ fp := fun a ha => List.count_pos_iff.mp (Nat.lt_of_lt_of_le (List.count_pos_iff.mpr ha) (h a))
  exact ⟨g.sub, g.f0, g.fN, g.frm, g.all, fun a ha => g.own a (hm a ha), fun a ha => g.nf a (hm a ha), List.nodup_iff_count.mpr fun a => Nat.le_trans (h a) (List.nodup_iff_count.mp g.nd a)⟩
theorem Good.newO (g : Good G F H fp) (hin : ∀ a ∈ fp, H a ≠ none) {p : Addr} (hp : H p = none) (o : HO) : Good G F (upd H p o) (p :: fp) := by
  have hG : G.H p = none := by
    cases e : G.H p with
    | none => rfl
    | some u => exact absurd hp (g.all p (by rw [e]; intro z; cases z))
  have hF : F p = none := by
    cases e : F p with
    | none => rfl
    | some u => have := g.sub p u e; rw [hp] at this; cases this
  refine ⟨fun a u e => ?_, g.f0, g.fN, fun a u e hn => ?_, fun a e => ?_, fun a ha => ?_, fun a ha => ?_, List.nodup_cons.mpr ⟨fun z => hin p z hp, g.nd⟩⟩
  · have h1 := g.sub a u e
    rw [upd_ne (ne_of_none h1 hp)]; exact h1
  · have h1 := g.frm a u e hn
    rw [upd_ne (ne_of_none h1 hp)]; exact h1
  · by_cases h : a = p
    · rw [h, upd_same]; intro z; cases z
    · rw [upd_ne h]; exact g.all a e
  · rcases List.mem_cons.mp ha with rfl | ha
    · exact .inr hG
    · exact g.own a ha
  · rcases List.mem_cons.mp ha with rfl | ha
    · exact hF
    · exact g.nf a ha
def fzH (F H : Hp) (f : List Addr) : Hp := fun a => if a ∈ f then H a else F a
theorem fzH_in {f : List Addr} {a : Addr} (h : a ∈ f) : fzH F H f a = H a := by unfold fzH; rw [if_pos h]
theorem fzH_out {f : List Addr} {a : Addr} (h : a ∉ f) : fzH F H f a = F a := by unfold fzH; rw [if_neg h]
theorem fzH_le {f : List Addr} (h : ∀ a ∈ f, F a = none) : Le F (fzH F H f) := fun a o e => by
  rw [fzH_out]
  · exact e
  · intro z
    rw [h a z] at e
    cases e
theorem Good.fz {f : List Addr} (g : Good G F H (f ++ fp)) : Good G (fzH F H f) H fp := by
  have hf : ∀ a ∈ f, F a = none := fun a ha => g.nf a (List.mem_append_left _ ha)
  refine ⟨fun a o e => ?_, g.f0.trans (fzH_le hf), fun a e => ?_, g.frm, g.all, fun a ha => g.own a (List.mem_append_right _ ha), fun a ha => ?_, (List.nodup_append.mp g.nd).2.1⟩
  · by_cases h : a ∈ f
    · rw [fzH_in h] at e; exact e
    · rw [fzH_out h] at e; exact g.sub a o e
  · by_cases h : a ∈ f
    · exact .inr ((g.own a (List.mem_append_left _ h)).symm)
    · rw [fzH_out h] at e; exact g.fN a e
  · have : a ∉ f := fun z => (List.nodup_append.mp g.nd).2.2 a z a ha rfl
    rw [fzH_out this]
    exact g.nf a (List.mem_append_right _ ha)
theorem Good.mut (g : Good G F H fp) {a : Addr} (ha : a ∈ fp) (o : HO) : Good G F (upd H a o) fp := by
  have hF := g.nf a ha
  refine ⟨fun b u e => ?_, g.f0, g.fN, fun b u e hn => ?_, fun b e => ?_, g.own, g.nf, g.nd⟩
  · have hb : b ≠ a := fun z => by rw [z, hF] at e; cases e
    rw [upd_ne hb]; exact g.sub b u e
  · have hb : b ≠ a := fun z => by
      rcases g.own a ha with q | q
      · exact hn (z ▸ q)
      · rw [z, q] at e; cases e
    rw [upd_ne hb]; exact g.frm b u e hn
  · by_cases h : b = a
    · rw [h, upd_same]; intro z; cases z
    · rw [upd_ne h]; exact g.all b e
end
end Dl
namespace Dl
open PySem PySem.Spec PyProof.Rows L2
section
variable {K : PySem.W.Frag} {G : Ent} {H H' : Hp} {σ τ : L2.St} {ρ δ : List Sl} {v x : V} {s : Sl} {d : D}
def D.val : D → Option V
  | .non => some .non
  | .bl b => some (.bl b)
  | .int i => some (.int i)
  | .str x => some (.str x)
  | _ => none
theorem Rep.val {F : Hp} {v u : V} {d : D} (h : Rep K F v d) (e : d.val = some u) : v = u := by
  cases h <;> first | exact Option.some.inj e | cases e
theorem rep_val {F : Hp} {v : V} {d : D} (e : d.val = some v) : Rep K F v d := by
  cases d <;> first | (cases e; done) | (cases e; constructor)
theorem Rel.pop {o : Option V} (h : Rel K G H σ ρ (o :: τ) (s :: δ)) : Rel K G H σ ρ τ δ := by
  obtain ⟨F, f1, f2, g, ht, hs⟩ := h
  cases ht with
  | cons h1 h2 => exact ⟨F, _, f2, g.cnt (by intro a; simp only [List.count_append]; omega), h2, hs⟩
theorem Rel.push (h : Rel K G H σ ρ τ δ) (e : d.val = some v) : Rel K G H σ ρ (some v :: τ) (.sh d :: δ) := by
  obtain ⟨F, f1, f2, g, ht, hs⟩ := h
  exact ⟨F, _, f2, g, .cons (.sh (rep_val e)) ht, hs⟩
theorem Rel.topv {u : V} (h : Rel K G H σ ρ (some v :: τ) (.sh d :: δ)) (e : d.val = some u) : v = u := by
  obtain ⟨F, f1, f2, g, ht, hs⟩ := h
  cases ht with
  | cons h1 h2 => cases h1 with | sh r => exact r.val e
theorem Rel.swap {o o' : Option V} {s' : Sl} (h : Rel K G H σ ρ (o :: o' :: τ) (s :: s' :: δ)) : Rel K G H σ ρ (o' :: o :: τ) (s' :: s :: δ) := by
  obtain ⟨F, f1, f2, g, ht, hs⟩ := h
  cases ht with
  | cons h1 h2 =>
    cases h2 with
    | @cons _ _ fb fr _ _ h2 h3 =>
      rename_i fa
      exact ⟨F, _, f2, g.cnt (by intro a; simp only [List.count_append]; omega), .cons h2 (.cons h1 h3), hs⟩
theorem Rel.len (h : Rel K G H σ ρ τ δ) : σ.length = ρ.length ∧ τ.length = δ.length := by
  obtain ⟨F, f1, f2, g, ht, hs⟩ := h
  exact ⟨hs.len, ht.len⟩
theorem Rel.get {i : Nat} (h : Rel K G H σ ρ τ δ) (e : ρ[i]? = some (.sh d)) : ∃ v, σ[i]? = some (some v) ∧ Rel K G H σ ρ (some v :: τ) (.sh d :: δ) := by
  obtain ⟨F, f1, f2, g, ht, hs⟩ := h
  obtain ⟨o, l, f, r, e1, e2, h1, _⟩ := hs.at e
  cases h1 with
  | sh q => exact ⟨_, e2, F, _, f2, g, .cons (.sh q) ht, hs⟩
theorem Rel.set {o : Option V} {i : Nat} (h : Rel K G H σ ρ (o :: τ) (s :: δ)) (hi : i < ρ.length) : Rel K G H (σ.set i o) (ρ.set i s) τ δ := by
  obtain ⟨F, f1, f2, g, ht, hs⟩ := h
  cases ht with
  | cons h1 h2 =>
    rename_i fa fb
    obtain ⟨o1, l, f, r, e1, e2, h3, k⟩ := hs.at (i := i) (s := ρ[i]) (by rw [List.getElem?_eq_getElem hi])
    subst e1
    exact ⟨F, fb, _, g.cnt (by intro a; simp only [List.count_append]; omega), h2, k _ _ _ h1⟩
def Sl.fz : Sl → Sl
  | .ow _ d => .sh d
  | .sh d => .sh d
  | _ => .un
theorem SlV.fz {F F' : Hp} {o : Option V} {s : Sl} {fp : List Addr} (l : Le F F') (e : ∀ a ∈ fp, F' a = H a) (h : SlV K F H o s fp) : SlV K F' H' o s.fz [] := by
  cases h with
  | un => exact .un
  | sh r => exact .sh (r.mono l)
  | ow r => exact .sh (r.fz l e)
  | _ => exact .un
theorem Rel.fz {o : Option V} (h : Rel K G H σ ρ (o :: τ) (s :: δ)) : Rel K G H σ ρ (o :: τ) (s.fz :: δ) := by
  obtain ⟨F, f1, f2, g, ht, hs⟩ := h
  cases ht with
  | cons h1 h2 =>
    rename_i fa fb
    rw [List.append_assoc] at g
    have hf : ∀ a ∈ fa, F a = none := fun a ha => g.nf a (List.mem_append_left _ ha)
    exact ⟨fzH F H fa, _, f2, g.fz, .cons (h1.fz (fzH_le hf) fun a ha => fzH_in ha) (h2.mono (fzH_le hf) fun _ _ => rfl), hs.mono (fzH_le hf) fun _ _ => rfl⟩
theorem Rel.drop2 {o o' : Option V} {s' : Sl} (h : Rel K G H σ ρ (o :: o' :: τ) (s :: s' :: δ)) : Rel K G H σ ρ (o :: τ) (s :: δ) := h.swap.pop
theorem Rel.dropN {o : Option V} : ∀ {τ' : L2.St} {δ' : List Sl}, τ'.length = δ'.length → Rel K G H σ ρ (o :: (τ' ++ τ)) (s :: (δ' ++ δ)) → Rel K G H σ ρ (o :: τ) (s :: δ)
  | [], [], _, h => h
  | [], _ :: _, e, _ => by simp at e
  | _ :: _, [], e, _ => by simp at e
  | _ :: _, _ :: _, e, h => Rel.dropN (by simpa using e) h.drop2
theorem Rel.popN : ∀ {τ' : L2.St} {δ' : List Sl}, τ'.length = δ'.length → Rel K G H σ ρ (τ' ++ τ) (δ' ++ δ) → Rel K G H σ ρ τ δ
  | [], [], _, h => h
  | [], _ :: _, e, _ => by simp at e
  | _ :: _, [], e, _ => by simp at e
  | _ :: _, _ :: _, e, h => Rel.popN (by simpa using e) h.pop
theorem Rel.rot {o : Option V} {τ' : L2.St} {δ' : List Sl} (e : τ'.length = δ'.length) (h : Rel K G H σ ρ (τ' ++ o :: τ) (δ' ++ s :: δ)) : Rel K G H σ ρ (o :: (τ' ++ τ)) (s :: (δ' ++ δ)) := by
  obtain ⟨F, f1, f2, g, ht, hs⟩ := h
  obtain ⟨fa, fb, rfl, h1, h2⟩ := ht.split e
  cases h2 with
  | cons h3 h4 => exact ⟨F, _, f2, g.cnt (by intro a; simp only [List.count_append]; omega), .cons h3 (h1.app h4), hs⟩
theorem Slots.shs {F : Hp} : ∀ {vs : List V} {ds : List D} {f : List Addr}, vs.length = ds.length → Slots K F H (vs.map some ++ τ) (ds.map Sl.sh ++ δ) f → RepL K F vs ds ∧ Slots K F H τ δ f
  | [], [], _, _, h => ⟨.nil, h⟩
  | [], _ :: _, _, e, _ => by simp at e
  | _ :: _, [], _, e, _ => by simp at e
  | v :: vs, d :: ds, f, e, h => by
    cases h with
    | cons h1 h2 =>
      cases h1 with
      | sh r =>
        obtain ⟨a, b⟩ := Slots.shs (by simpa using e) h2
        exact ⟨.cons r a, b⟩
theorem upd_fz {F : Hp} {p : Addr} {o : HO} : fzH F (upd H p o) [p] = upd F p o := by
  funext a
  by_cases h : a = p
  · subst h; rw [fzH_in (by simp), upd_same, upd_same]
  · rw [fzH_out (by simpa using h), upd_ne h]
theorem le_new {F : Hp} {p : Addr} {o : HO} (h : F p = none) : Le F (upd F p o) := fun a u e => by rw [upd_ne (ne_of_none e h)]; exact e
theorem Rel.newF {ds : List D} {vs : List V} {p : Addr} {o : HO} (hp : H p = none) (e : vs.length = ds.length) (h : Rel K G H σ ρ (vs.map some ++ τ) (ds.map Sl.sh ++ δ)) (hd : ∀ F, RepL K F vs ds → F p = some o → Rep K F (.ref p) d) :
    Rel K G (upd H p o) σ ρ (some (.ref p) :: τ) (.sh d :: δ) := by
  obtain ⟨F, f1, f2, g, ht, hs⟩ := h
  obtain ⟨hr, ht⟩ := ht.shs e
  have hin : ∀ a ∈ f1 ++ f2, H a ≠ none := fun a ha => by
    rcases List.mem_append.mp ha with z | z
    · exact ht.here a z
    · exact hs.here a z
  have g1 := g.newO hin hp o
  have hF : F p = none := g1.nf p (by simp)
  have g2 : Good G (upd F p o) (upd H p o) (f1 ++ f2) := by
    have := Good.fz (f := [p]) (fp := f1 ++ f2) g1
    rwa [upd_fz] at this
  have hn : ∀ a ∈ f1 ++ f2, upd H p o a = H a := fun a ha => upd_ne fun z => hin a ha (by rw [z]; exact hp)
  have l := le_new (o := o) hF
  exact ⟨_, f1, f2, g2, .cons (.sh (hd _ (hr.mono l) upd_same)) (ht.mono l fun a ha => hn a (List.mem_append_left _ ha)), hs.mono l fun a ha => hn a (List.mem_append_right _ ha)⟩
theorem Rel.tup {ds : List D} {vs : List V} {p : Addr} (hp : H p = none) (e : vs.length = ds.length) (h : Rel K G H σ ρ (vs.map some ++ τ) (ds.map Sl.sh ++ δ)) : Rel K G (upd H p (.tup vs)) σ ρ (some (.ref p) :: τ) (.sh (.tup ds) :: δ) :=
  h.newF hp e fun F r z => .tup (SqT.of z) r
theorem RepL.own {F : Hp} : ∀ {vs : List V} {ds : List D}, RepL K F vs ds → OwnL K F H .fr vs ds []
  | _, _, .nil => .nil
  | _, _, .cons r t => .cons (f := []) (.fr r) (RepL.own t)
theorem OwnL.rep {F : Hp} : ∀ {vs : List V} {ds : List D} {fp : List Addr}, OwnL K F H .fr vs ds fp → RepL K F vs ds ∧ fp = []
  | _, _, _, .nil => ⟨.nil, rfl⟩
  | _, _, _, .cons (.fr r) t => by
    obtain ⟨a, rfl⟩ := OwnL.rep t
    exact ⟨.cons r a, rfl⟩
theorem RepK.own {F : Hp} : ∀ {vs : List (Key × V)} {ds : List (Key × D)}, RepK K F vs ds → OwnK K F H .fr vs ds []
  | _, _, .nil => .nil
  | _, _, .cons r t => .cons (f := []) (.fr r) (RepK.own t)
theorem OwnK.rep {F : Hp} : ∀ {vs : List (Key × V)} {ds : List (Key × D)} {fp : List Addr}, OwnK K F H .fr vs ds fp → RepK K F vs ds ∧ fp = []
  | _, _, _, .nil => ⟨.nil, rfl⟩
  | _, _, _, .cons (.fr r) t => by
    obtain ⟨a, rfl⟩ := OwnK.rep t
    exact ⟨.cons r a, rfl⟩
theorem Rel.newO {ds : List D} {vs : List V} {p : Addr} {o : HO} {s : Sh} (hp : H p = none) (e : vs.length = ds.length) (h : Rel K G H σ ρ (vs.map some ++ τ) (ds.map Sl.sh ++ δ)) (hd : ∀ F, RepL K F vs ds → Own K F (upd H p o) s (.ref p) d [p]) :
    Rel K G (upd H p o) σ ρ (some (.ref p) :: τ) (.ow s d :: δ) := by
  obtain ⟨F, f1, f2, g, ht, hs⟩ := h
  obtain ⟨hr, ht⟩ := ht.shs e
  have hin : ∀ a ∈ f1 ++ f2, H a ≠ none := fun a ha => by
    rcases List.mem_append.mp ha with z | z
    · exact ht.here a z
    · exact hs.here a z
  have hn : ∀ a ∈ f1 ++ f2, upd H p o a = H a := fun a ha => upd_ne fun z => hin a ha (by rw [z]; exact hp)
  exact ⟨F, p :: f1, f2, g.newO hin hp o, .cons (.ow (hd F hr)) (ht.mono Le.rfl fun a ha => hn a (List.mem_append_left _ ha)), hs.mono Le.rfl fun a ha => hn a (List.mem_append_right _ ha)⟩
theorem Rel.lst {ds : List D} {vs : List V} {p : Addr} (hp : H p = none) (e : vs.length = ds.length) (h : Rel K G H σ ρ (vs.map some ++ τ) (ds.map Sl.sh ++ δ)) : Rel K G (upd H p (.lst vs)) σ ρ (some (.ref p) :: τ) (.ow (.ol .fr) (.lst ds) :: δ) :=
  h.newO hp e fun F r => .ol upd_same r.own
end
structure Er where
  c : Nat
  d : D
abbrev Env := List Sl
structure M (α : Type) where
  wp : Env → (α → Env → Prop) → (Er → Env → Prop) → Prop
  mono : ∀ {ρ : Env} {Q Q' : α → Env → Prop} {E E' : Er → Env → Prop}, (∀ a r, Q a r → Q' a r) → (∀ e r, E e r → E' e r) → wp ρ Q E → wp ρ Q' E'
namespace M
variable {α β : Type}
def ret (a : α) : M α := ⟨fun ρ Q _ => Q a ρ, fun h _ w => h _ _ w⟩
def bind (m : M α) (k : α → M β) : M β := ⟨fun ρ Q E => m.wp ρ (fun a r => (k a).wp r Q E) E, fun h h' w => m.mono (fun _ _ z => (k _).mono h h' z) h' w⟩
def stuck : M α := ⟨fun _ _ _ => False, fun _ _ w => w⟩
def get : M Env := ⟨fun ρ Q _ => Q ρ ρ, fun h _ w => h _ _ w⟩
def set (r : Env) : M Unit := ⟨fun _ Q _ => Q () r, fun h _ w => h _ _ w⟩
def any (p : α → Prop) : M α := ⟨fun ρ Q _ => ∀ a, p a → Q a ρ, fun h _ w a z => h _ _ (w a z)⟩
def ite (b : Bool) (m k : M α) : M α := ⟨fun ρ Q E => if b = true then m.wp ρ Q E else k.wp ρ Q E, fun {ρ Q Q' E E'} h h' w => by
  cases b with
  | true => exact m.mono h h' w
  | false => exact k.mono h h' w⟩
end M
abbrev ME := M Sl
abbrev MT := M Bool
abbrev MA := M (List Sl)
def XE (E : XK) (H : Hp) (C : Addr) (f : Str) (v : V) : Prop := (f = ("" : Str) → E (.ref C) none H) ∧ (f ≠ ("" : Str) → ∀ d : Addr, H d = none → E (.ref C) (some d) (upd H d (.xd [(f, v)])))
def dOf (c : Nat) (d : Addr) : Option Addr := if ef c = ("" : Str) then none else some d
abbrev WS := L2.St → XK
abbrev exQ (K : PySem.W.Frag) (W : WS) (G : Ent) (σ τ : L2.St) (δ : List Sl) : Er → Env → Prop := fun er ρ' => ∀ v H', Rel K G H' σ ρ' (some v :: τ) (.sh er.d :: δ) → XE (W σ) H' (He.ga K (en er.c)) (ef er.c) v
def EOk (K : PySem.W.Frag) (W : WS) (t : TE) (m : ME) : Prop := ∀ (G : Ent) (H : Hp) (σ : L2.St) (ρ : Env) (τ : L2.St) (δ : List Sl) (Q : VK), Rel K G H σ ρ τ δ →
  m.wp ρ (fun s ρ' => ∀ v H', Rel K G H' σ ρ' (some v :: τ) (s :: δ) → Q v H') (exQ K W G σ τ δ) → t σ H Q
def TOk (K : PySem.W.Frag) (W : WS) (t : TT) (m : MT) : Prop := ∀ (G : Ent) (H : Hp) (σ : L2.St) (ρ : Env) (τ : L2.St) (δ : List Sl) (Q : Bool → Hp → Prop), Rel K G H σ ρ τ δ →
  m.wp ρ (fun b ρ' => ∀ H', Rel K G H' σ ρ' τ δ → Q b H') (exQ K W G σ τ δ) → t σ H Q
def AOk (K : PySem.W.Frag) (W : WS) (t : TA) (m : MA) : Prop := ∀ (G : Ent) (H : Hp) (σ : L2.St) (ρ : Env) (τ : L2.St) (δ : List Sl) (Q : List V → Hp → Prop), Rel K G H σ ρ τ δ →
  m.wp ρ (fun ss ρ' => ∀ vs H', vs.length = ss.length → Rel K G H' σ ρ' (vs.map some ++ τ) (ss ++ δ) → Q vs H') (exQ K W G σ τ δ) → t σ H Q
def R2Ok (K : PySem.W.Frag) (r : R2) (f : Sl → Sl → ME) : Prop := ∀ (G : Ent) (H : Hp) (σ : L2.St) (ρ : Env) (τ : L2.St) (δ : List Sl) (x y : V) (s1 s2 : Sl) (Q : VK) (E : Er → Env → Prop), Rel K G H σ ρ (some y :: some x :: τ) (s2 :: s1 :: δ) →
  (f s1 s2).wp ρ (fun s ρ' => ∀ v H', Rel K G H' σ ρ' (some v :: τ) (s :: δ) → Q v H') E → r x y H Q
def R1Ok (K : PySem.W.Frag) (r : V → Hp → VK → Prop) (f : Sl → ME) : Prop := ∀ (G : Ent) (H : Hp) (σ : L2.St) (ρ : Env) (τ : L2.St) (δ : List Sl) (x : V) (s1 : Sl) (Q : VK) (E : Er → Env → Prop), Rel K G H σ ρ (some x :: τ) (s1 :: δ) →
  (f s1).wp ρ (fun s ρ' => ∀ v H', Rel K G H' σ ρ' (some v :: τ) (s :: δ) → Q v H') E → r x H Q
def op2 (g : D → D → Option D) : Sl → Sl → ME
  | .sh a, .sh b => match g a b with
    | some d => M.ret (.sh d)
    | none => M.stuck
  | _, _ => M.stuck
def op1 (g : D → Option D) : Sl → ME
  | .sh a => match g a with
    | some d => M.ret (.sh d)
    | none => M.stuck
  | _ => M.stuck
def mOp (f : Sl → Sl → ME) (a b : ME) : ME := a.bind fun x => b.bind fun y => f x y
def mUn (f : Sl → ME) (a : ME) : ME := a.bind f
def mVar (i : Nat) : ME := ⟨fun ρ Q _ => match ρ[i]? with
  | some (.sh d) => Q (.sh d) ρ
  | _ => False, fun {ρ Q Q' E E'} h _ w => by
    revert w
    split
    · exact fun w => h _ _ w
    · exact id⟩
def mC (d : D) : ME := M.ret (.sh d)
def mFz (a : ME) : ME := a.bind fun s => M.ret s.fz
section
variable {K : PySem.W.Frag} {W : WS} {ta tb tc : TE} {ma mb mc : ME} {r r' : R2} {f f' : Sl → Sl → ME}
theorem eVar {i : Nat} : EOk K W (tVar i) (mVar i) := by
  intro G H σ ρ τ δ Q h w
  unfold mVar at w
  simp only at w
  split at w
  · rename_i d e
    obtain ⟨v, e1, h1⟩ := h.get e
    exact ⟨v, e1, w v H h1⟩
  · exact w.elim
theorem eC {v : V} {d : D} (e : d.val = some v := by rfl) : EOk K W (tC v) (mC d) := fun G H σ ρ τ δ Q h w => w v H (h.push e)
theorem eFz {t : TE} (h : EOk K W t ma) : EOk K W t (mFz ma) := fun G H σ ρ τ δ Q hr w => h G H σ ρ τ δ Q hr (ma.mono (fun s ρ' z v H' q => z v H' q.fz) (fun _ _ z => z) w)
theorem eOp (hr : R2Ok K r f) (ha : EOk K W ta ma) (hb : EOk K W tb mb) : EOk K W (tOp r ta tb) (mOp f ma mb) := fun G H σ ρ τ δ Q h w =>
  ha G H σ ρ τ δ _ h (ma.mono (fun s1 ρ1 w1 v1 H1 h1 => hb G H1 σ ρ1 _ _ _ h1 (mb.mono (fun s2 ρ2 w2 v2 H2 h2 => hr G H2 σ ρ2 τ δ v1 v2 s1 s2 Q _ h2 w2) (fun e ρ' z v H' q => z v H' q.drop2) w1)) (fun _ _ z => z) w)
end
end Dl
namespace Dl
open PySem PySem.Spec PyProof.Rows L2
section
variable {K : PySem.W.Frag} {F : Hp}
theorem RepL.len {F : Hp} : ∀ {vs : List V} {ds : List D}, RepL K F vs ds → vs.length = ds.length
  | _, _, .nil => rfl
  | _, _, .cons _ t => by simp [RepL.len t]
theorem RepL.get {F : Hp} : ∀ {vs : List V} {ds : List D} {i : Nat} {d : D}, RepL K F vs ds → ds[i]? = some d → ∃ v, vs[i]? = some v ∧ Rep K F v d
  | _, _, _, _, .nil, e => by cases e
  | _, _, 0, _, .cons r _, e => by cases e; exact ⟨_, rfl, r⟩
  | _, _, i + 1, _, .cons _ t, e => RepL.get (i := i) t e
theorem RepL.drop {F : Hp} : ∀ {vs : List V} {ds : List D} (n : Nat), RepL K F vs ds → RepL K F (vs.drop n) (ds.drop n)
  | _, _, 0, h => h
  | _, _, _ + 1, .nil => .nil
  | _, _, n + 1, .cons _ t => RepL.drop n t
theorem RepL.take {F : Hp} : ∀ {vs : List V} {ds : List D} (n : Nat), RepL K F vs ds → RepL K F (vs.take n) (ds.take n)
  | _, _, 0, _ => .nil
  | _, _, _ + 1, .nil => .nil
  | _, _, n + 1, .cons r t => .cons r (RepL.take n t)
theorem RepL.app {F : Hp} : ∀ {vs us : List V} {ds es : List D}, RepL K F vs ds → RepL K F us es → RepL K F (vs ++ us) (ds ++ es)
  | _, _, _, _, .nil, h => h
  | _, _, _, _, .cons r t, h => .cons r (RepL.app t h)
theorem RepL.set {F : Hp} {x : V} {d : D} (r : Rep K F x d) : ∀ {vs : List V} {ds : List D} (i : Nat), RepL K F vs ds → RepL K F (vs.set i x) (ds.set i d)
  | _, _, _, .nil => .nil
  | _, _, 0, .cons _ t => .cons r t
  | _, _, i + 1, .cons q t => .cons q (RepL.set r i t)
end
section
variable {K : PySem.W.Frag} {G : Ent} {H H' : Hp} {σ τ : L2.St} {ρ δ : List Sl} {v x : V} {s : Sl} {d : D}
structure Fz (K : PySem.W.Frag) (G : Ent) (H : Hp) (σ : L2.St) (ρ : Env) (τ : L2.St) (δ : List Sl) (F : Hp) : Prop where
  le : Le F H
  sh : ∀ u z, Rep K F u z → Rel K G H σ ρ (some u :: τ) (.sh z :: δ)
  ow : ∀ p o s z, H p = none → Own K F (upd H p o) s (.ref p) z [p] → Rel K G (upd H p o) σ ρ (some (.ref p) :: τ) (.ow s z :: δ)
  nw : ∀ p o z, H p = none → (∀ F', Le F F' → F' p = some o → Rep K F' (.ref p) z) → Rel K G (upd H p o) σ ρ (some (.ref p) :: τ) (.sh z :: δ)
theorem Rel.fzs {F : Hp} {f1 f2 : List Addr} (g : Good G F H (f1 ++ f2)) (ht : Slots K F H τ δ f1) (hs : Slots K F H σ ρ f2) : Fz K G H σ ρ τ δ F := by
  have hin : ∀ a ∈ f1 ++ f2, H a ≠ none := fun a ha => by
    rcases List.mem_append.mp ha with z | z
    · exact ht.here a z
    · exact hs.here a z
  refine ⟨g.sub, fun u z r => ⟨F, _, f2, g, .cons (.sh r) ht, hs⟩, fun p o s z hp r => ?_, fun p o z hp r => ?_⟩
  · have hn : ∀ a ∈ f1 ++ f2, upd H p o a = H a := fun a ha => upd_ne fun z => hin a ha (by rw [z]; exact hp)
    exact ⟨F, p :: f1, f2, g.newO hin hp o, .cons (.ow r) (ht.mono Le.rfl fun a ha => hn a (List.mem_append_left _ ha)), hs.mono Le.rfl fun a ha => hn a (List.mem_append_right _ ha)⟩
  · have g1 := g.newO hin hp o
    have hF : F p = none := g1.nf p (by simp)
    have g2 : Good G (upd F p o) (upd H p o) (f1 ++ f2) := by
      have := Good.fz (f := [p]) (fp := f1 ++ f2) g1
      rwa [upd_fz] at this
    have hn : ∀ a ∈ f1 ++ f2, upd H p o a = H a := fun a ha => upd_ne fun z => hin a ha (by rw [z]; exact hp)
    have l := le_new (o := o) hF
    exact ⟨_, f1, f2, g2, .cons (.sh (r _ l upd_same)) (ht.mono l fun a ha => hn a (List.mem_append_left _ ha)), hs.mono l fun a ha => hn a (List.mem_append_right _ ha)⟩
theorem Rel.top (h : Rel K G H σ ρ (some v :: τ) (.sh d :: δ)) : ∃ F, Rep K F v d ∧ Fz K G H σ ρ τ δ F := by
  obtain ⟨F, f1, f2, g, ht, hs⟩ := h
  cases ht with
  | cons h1 h2 =>
    cases h1 with
    | sh r => exact ⟨F, r, Rel.fzs g h2 hs⟩
theorem Rel.top2 {y : V} {e : D} (h : Rel K G H σ ρ (some y :: some x :: τ) (.sh e :: .sh d :: δ)) : ∃ F, Rep K F x d ∧ Rep K F y e ∧ Fz K G H σ ρ τ δ F := by
  obtain ⟨F, f1, f2, g, ht, hs⟩ := h
  cases ht with
  | cons h1 h2 =>
    cases h1 with
    | sh r =>
      cases h2 with
      | cons h3 h4 =>
        cases h3 with
        | sh r' => exact ⟨F, r', r, Rel.fzs g h4 hs⟩
end
section
variable {K : PySem.W.Frag} {W : WS}
def dI (g : Int → Int → D) : D → D → Option D
  | .int i, .int j => some (g i j)
  | _, _ => none
theorem op2_go {g : D → D → Option D} {s1 s2 : Sl} {ρ : Env} {Q : Sl → Env → Prop} {E : Er → Env → Prop} (w : (op2 g s1 s2).wp ρ Q E) : ∃ a b d, s1 = .sh a ∧ s2 = .sh b ∧ g a b = some d ∧ Q (.sh d) ρ := by
  unfold op2 at w
  split at w
  · split at w
    · exact ⟨_, _, _, rfl, rfl, by assumption, w⟩
    · exact w.elim
  · exact w.elim
theorem op1_go {g : D → Option D} {s1 : Sl} {ρ : Env} {Q : Sl → Env → Prop} {E : Er → Env → Prop} (w : (op1 g s1).wp ρ Q E) : ∃ a d, s1 = .sh a ∧ g a = some d ∧ Q (.sh d) ρ := by
  unfold op1 at w
  split at w
  · split at w
    · exact ⟨_, _, rfl, by assumption, w⟩
    · exact w.elim
  · exact w.elim
theorem dI_go {g : Int → Int → D} {a b d : D} (e : dI g a b = some d) : ∃ i j, a = .int i ∧ b = .int j ∧ d = g i j := by
  unfold dI at e
  split at e
  · exact ⟨_, _, rfl, rfl, (Option.some.inj e).symm⟩
  · cases e
theorem r_I0 {g : Int → Int → V} {gd : Int → Int → D} (h : ∀ i j, (gd i j).val = some (g i j) := by intro _ _; rfl) : R2Ok K (rI0 g) (op2 (dI gd)) := by
  intro G H σ ρ τ δ x y s1 s2 Q E hr w
  obtain ⟨a, b, d, rfl, rfl, e, q⟩ := op2_go w
  obtain ⟨i, j, rfl, rfl, rfl⟩ := dI_go e
  obtain rfl := hr.topv (u := .int j) rfl
  obtain rfl := hr.pop.topv (u := .int i) rfl
  exact ⟨i, j, rfl, rfl, q _ _ (hr.pop.pop.push (h i j))⟩
def dSub := dI fun i j => .int (i - j)
def dGt := dI fun i j => .bl (decide (i > j))
theorem r_sub : R2Ok K (rI0 fun i j => .int (i - j)) (op2 dSub) := r_I0
theorem r_gt : R2Ok K (rI0 fun i j => .bl (decide (j < i))) (op2 dGt) := r_I0
def dEq (neg : Bool) : D → D → Option D
  | .int i, .int j => some (.bl (neg ^^ decide (i = j)))
  | .str x, .str y => some (.bl (neg ^^ decide (x = y)))
  | .bl a, .bl b => some (.bl (neg ^^ decide (a = b)))
  | .non, .non => some (.bl (neg ^^ true))
  | .non, .int _ | .int _, .non | .non, .str _ | .str _, .non | .non, .bl _ | .bl _, .non => some (.bl (neg ^^ false))
  | .int _, .str _ | .str _, .int _ | .bl _, .str _ | .str _, .bl _ => some (.bl (neg ^^ false))
  | _, _ => none
theorem dEq_go {neg : Bool} {a b d : D} (e : dEq neg a b = some d) : ∃ x y, a.val = some x ∧ b.val = some y ∧ scal x y = true ∧ d = .bl (neg ^^ decide (x = y)) := by
  unfold dEq at e
  split at e
  case h_1 i j => exact ⟨_, _, rfl, rfl, rfl, by rw [← Option.some.inj e]; simp⟩
  case h_2 i j => exact ⟨_, _, rfl, rfl, rfl, by rw [← Option.some.inj e]; simp⟩
  case h_3 i j => exact ⟨_, _, rfl, rfl, rfl, by rw [← Option.some.inj e]; simp⟩
  all_goals first
    | (cases e; done)
    | exact ⟨_, _, rfl, rfl, rfl, by rw [← Option.some.inj e]; simp⟩
theorem r_ne : R2Ok K rNe (op2 (dEq true)) := by
  intro G H σ ρ τ δ x y s1 s2 Q E hr w
  obtain ⟨a, b, d, rfl, rfl, e, q⟩ := op2_go w
  obtain ⟨u, z, h1, h2, h3, rfl⟩ := dEq_go e
  obtain rfl := hr.topv h2
  obtain rfl := hr.pop.topv h1
  exact ⟨h3, q _ _ (hr.pop.pop.push (by simp [D.val]))⟩
end
end Dl
namespace Dl
open PySem PySem.Spec PyProof.Rows L2
section
variable {K : PySem.W.Frag} {W : WS} {ta tb tc : TE} {ma mb mc : ME} {r r' : R2} {f f' : Sl → Sl → ME}
def dIxL : D → D → Option D
  | .lst xs, .int i => atI xs i
  | _, _ => none
theorem RepL.atI {F : Hp} {vs : List V} {ds : List D} {i : Int} {d : D} (h : RepL K F vs ds) (e : L2.atI ds i = some d) : ∃ v, L2.atI vs i = some v ∧ Rep K F v d := by
  unfold L2.atI at e ⊢
  rw [h.len]
  cases hj : ixN ds.length i with
  | none => rw [hj] at e; cases e
  | some j =>
    rw [hj] at e
    exact RepL.get h e
theorem r_ixL : R2Ok K (rIxL K) (op2 dIxL) := by
  intro G H σ ρ τ δ x y s1 s2 Q E hr w
  obtain ⟨a, b, d, rfl, rfl, e, q⟩ := op2_go w
  obtain ⟨F, r1, r2, z⟩ := hr.top2
  unfold dIxL at e
  split at e
  · cases r1 with
    | lst h r =>
      cases r2
      obtain ⟨v, h1, h2⟩ := r.atI e
      exact ⟨_, _, _, v, rfl, rfl, SqL.of (z.le _ _ h), h1, q _ _ (z.sh _ _ h2)⟩
  · cases e
def opP {α : Type} (k : α → Option (Prop × Sl)) : α → ME := fun a => ⟨fun ρ Q _ => match k a with
  | some (p, s) => p ∧ Q s ρ
  | none => False, fun {ρ Q Q' E E'} h _ w => by
    revert w
    split
    · exact fun w => ⟨w.1, h _ _ w.2⟩
    · exact id⟩
theorem opP_go {α : Type} {k : α → Option (Prop × Sl)} {a : α} {ρ : Env} {Q : Sl → Env → Prop} {E : Er → Env → Prop} (w : (opP k a).wp ρ Q E) : ∃ p s, k a = some (p, s) ∧ p ∧ Q s ρ := by
  unfold opP at w
  simp only at w
  split at w
  · exact ⟨_, _, by assumption, w.1, w.2⟩
  · exact w.elim
def op2P (k : D → D → Option (Prop × Sl)) : Sl → Sl → ME := fun s1 s2 => opP (fun (p : Sl × Sl) => match p with
  | (.sh a, .sh b) => k a b
  | _ => none) (s1, s2)
theorem op2P_go {k : D → D → Option (Prop × Sl)} {s1 s2 : Sl} {ρ : Env} {Q : Sl → Env → Prop} {E : Er → Env → Prop} (w : (op2P k s1 s2).wp ρ Q E) : ∃ a b p s, s1 = .sh a ∧ s2 = .sh b ∧ k a b = some (p, s) ∧ p ∧ Q s ρ := by
  obtain ⟨p, s, e, hp, q⟩ := opP_go w
  split at e
  · rename_i a b e'
    cases e'
    exact ⟨a, b, p, s, rfl, rfl, e, hp, q⟩
  · cases e
def op1P (k : D → Option (Prop × Sl)) : Sl → ME := opP fun p => match p with
  | .sh a => k a
  | _ => none
theorem op1P_go {k : D → Option (Prop × Sl)} {s1 : Sl} {ρ : Env} {Q : Sl → Env → Prop} {E : Er → Env → Prop} (w : (op1P k s1).wp ρ Q E) : ∃ a p s, s1 = .sh a ∧ k a = some (p, s) ∧ p ∧ Q s ρ := by
  obtain ⟨p, s, e, hp, q⟩ := opP_go w
  split at e
  · exact ⟨_, p, s, rfl, e, hp, q⟩
  · cases e
def pIxS : D → D → Option (Prop × Sl)
  | .str z, .int i => match atI z.cps.toList i with
    | some c => some (z.length ≤ sizeLine, .sh (.str ⟨#[c]⟩))
    | none => none
  | _, _ => none
theorem r_ixS : R2Ok K rIxS (op2P pIxS) := by
  intro G H σ ρ τ δ x y s1 s2 Q E hr w
  obtain ⟨a, b, p, s, rfl, rfl, e, hp, q⟩ := op2P_go w
  unfold pIxS at e
  split at e
  · rename_i z i
    split at e
    · rename_i c hc
      cases e
      obtain rfl := hr.topv (u := .int i) rfl
      obtain rfl := hr.pop.topv (u := .str z) rfl
      exact ⟨z, i, c, rfl, rfl, hp, hc, q _ _ (hr.pop.pop.push rfl)⟩
    · cases e
  · cases e
def pCat : D → D → Option (Prop × Sl)
  | .lst xs, .lst ys => some (xs.length + ys.length ≤ sizeLine, .ow (.ol .fr) (.lst (xs ++ ys)))
  | _, _ => none
theorem r_cat : R2Ok K rCat (op2P pCat) := by
  intro G H σ ρ τ δ x y s1 s2 Q E hr w
  obtain ⟨a, b, p, s, rfl, rfl, e, hp, q⟩ := op2P_go w
  obtain ⟨F, r1, r2, z⟩ := hr.top2
  unfold pCat at e
  split at e
  · cases e
    cases r1 with
    | lst h1 r1 =>
      cases r2 with
      | lst h2 r2 =>
        exact ⟨_, _, _, _, rfl, rfl, z.le _ _ h1, z.le _ _ h2, by rw [r1.len, r2.len]; exact hp, fun p hp => q _ _ (z.ow _ _ _ _ hp (.ol upd_same (r1.app r2).own))⟩
  · cases e
def cutD (xs : List D) (lo hi : Option Int) : List D := (xs.drop (HT.sIx xs.length 0 lo)).take (HT.sIx xs.length xs.length hi - HT.sIx xs.length 0 lo)
theorem RepL.cut {F : Hp} {vs : List V} {ds : List D} (h : RepL K F vs ds) (lo hi : Option Int) : RepL K F (cutV vs lo hi) (cutD ds lo hi) := by
  unfold cutV cutD
  rw [h.len]
  exact (h.drop _).take _
mutual
def D.py : D → PyData
  | .non => .none
  | .bl b => .bool b
  | .int i => .int i
  | .str x => .str x
  | .lst xs => .list (D.pys xs)
  | .tup xs => .tuple (D.pys xs)
  | .dic _ => .dict []
  | .dil _ => .dict []
  | .obj _ _ => .dict []
  | .cls _ => .dict []
  | .scr => .dict []
  | .idn _ _ => .dict []
  | .adr _ => .dict []
  | .exc _ _ => .dict []
  | .exb _ => .dict []
def D.pys : List D → List PyData
  | [] => []
  | d :: ds => D.py d :: D.pys ds
end
mutual
/-- no objects, no dicts within -/
inductive Plain : D → Prop
  | non : Plain .non
  | bl (b : Bool) : Plain (.bl b)
  | int (i : Int) : Plain (.int i)
  | str (x : Str) : Plain (.str x)
  | lst {xs : List D} : Plains xs → Plain (.lst xs)
  | tup {xs : List D} : Plains xs → Plain (.tup xs)
inductive Plains : List D → Prop
  | nil : Plains []
  | cons {d : D} {ds : List D} : Plain d → Plains ds → Plains (d :: ds)
end
mutual
theorem Rep.dp {F H : Hp} (l : Le F H) : ∀ {d : D} {v : V}, Plain d → Rep K F v d → Dp K H v d.py
  | .non, _, _, .non => .non
  | .bl b, _, _, .bl _ => .bl b
  | .int i, _, _, .int _ => .int i
  | .str x, _, _, .str _ => .str x
  | .lst xs, _, .lst p, .lst h r => .lst (SqL.of (l _ _ h)) (RepL.dp l p r)
  | .tup xs, _, .tup p, .tup h r => .tup (sqt_mono l h) (RepL.dp l p r)
theorem RepL.dp {F H : Hp} (l : Le F H) : ∀ {ds : List D} {vs : List V}, Plains ds → RepL K F vs ds → DpAll K H vs (D.pys ds)
  | [], _, _, .nil => .nil
  | _ :: _, _, .cons p ps, .cons r t => .cons (Rep.dp l p r) (RepL.dp l ps t)
end
def D.fit (n : Nat) (d : D) : Prop := Plain d ∧ d.py.canLay0 = true ∧ d.py.depth ≤ n
def D.eq (a b : D) : Bool := PyData.eqv a.py b.py
def pEqD (neg : Bool) : D → D → Option (Prop × Sl) := fun a b => some (a.fit 64 ∧ b.fit 64, .sh (.bl (neg ^^ D.eq a b)))
theorem D.fit.shaped {d : D} (h : d.fit 64) : SeqAt.shaped d.py = true := by
  unfold SeqAt.shaped
  rw [h.2.1, Bool.true_and]
  exact decide_eq_true h.2.2
theorem r_eqD : R2Ok K (rEqD K) (op2P (pEqD false)) := by
  intro G H σ ρ τ δ x y s1 s2 Q E hr w
  obtain ⟨a, b, p, s, rfl, rfl, e, hp, q⟩ := op2P_go w
  obtain ⟨F, r1, r2, z⟩ := hr.top2
  cases e
  exact ⟨_, _, r1.dp z.le hp.1.1, r2.dp z.le hp.2.1, hp.1.shaped, hp.2.shaped, q _ _ (hr.pop.pop.push (by simp [D.val, D.eq]))⟩
theorem r_neD : R2Ok K (rNeD K) (op2P (pEqD true)) := by
  intro G H σ ρ τ δ x y s1 s2 Q E hr w
  obtain ⟨a, b, p, s, rfl, rfl, e, hp, q⟩ := op2P_go w
  obtain ⟨F, r1, r2, z⟩ := hr.top2
  cases e
  exact ⟨_, _, r1.dp z.le hp.1.1, r2.dp z.le hp.2.1, hp.1.shaped, hp.2.shaped, q _ _ (hr.pop.pop.push (by simp [D.val, D.eq]))⟩
def D.flat : D → Bool
  | .non => true
  | .bl _ => true
  | .int _ => true
  | .str _ => true
  | _ => false
def D.seq : D → Option (List D)
  | .lst xs => some xs
  | .tup xs => some xs
  | _ => none
theorem Rep.flat {F : Hp} {v : V} {d : D} (h : Rep K F v d) (f : d.flat = true) : flatV v = true := by
  cases h <;> first | rfl | cases f
theorem RepL.flat {F : Hp} : ∀ {vs : List V} {ds : List D}, RepL K F vs ds → ds.all D.flat = true → vs.all flatV = true
  | _, _, .nil, _ => rfl
  | _, _, .cons r t, f => by
    rw [List.all_cons, Bool.and_eq_true] at f
    rw [List.all_cons, Bool.and_eq_true]
    exact ⟨r.flat f.1, RepL.flat t f.2⟩
end
end Dl
namespace Dl
open PySem PySem.Spec PyProof.Rows L2
section
variable {K : PySem.W.Frag} {W : WS} {ta tb tc : TE} {ma mb mc : ME} {r r' : R2} {f f' : Sl → Sl → ME} {tA tB' : TT} {mA mB : MT}
theorem eCB1 {r : List V → Hp → VK → Prop} {f : Sl → ME} (hr : R1Ok K (fun x H Q => r [x] H Q) f) (ha : EOk K W ta ma) : EOk K W (tCB r (tCons ta tNil)) (mUn f ma) := fun G H σ ρ τ δ Q h w =>
  ha G H σ ρ τ δ _ h (ma.mono (fun s1 ρ1 w1 v1 H1 h1 => hr G H1 σ ρ1 τ δ v1 s1 Q _ h1 w1) (fun _ _ z => z) w)
def dLen (d : D) : Option D := match d.seq with
  | some xs => some (.int xs.length)
  | none => none
theorem Rep.seq {F H : Hp} {v : V} {d : D} {xs : List D} (h : Rep K F v d) (l : Le F H) (e : d.seq = some xs) : ∃ p vs, v = .ref p ∧ RepL K F vs xs ∧ ((SqL K H p vs ∧ d = .lst xs ∧ F p = some (.lst vs)) ∨ (SqT K H p vs ∧ d = .tup xs)) := by
  unfold D.seq at e
  split at e
  · cases e
    cases h with
    | lst h1 r => exact ⟨_, _, rfl, r, .inl ⟨SqL.of (l _ _ h1), rfl, h1⟩⟩
  · cases e
    cases h with
    | tup h1 r => exact ⟨_, _, rfl, r, .inr ⟨sqt_mono l h1, rfl⟩⟩
  · cases e
theorem c_len : R1Ok K (fun x H Q => Cl.qLen K [x] H Q) (op1 dLen) := by
  intro G H σ ρ τ δ x s1 Q E hr w
  obtain ⟨a, d, rfl, e, q⟩ := op1_go w
  obtain ⟨F, r1, z⟩ := hr.top
  unfold dLen at e
  split at e
  · rename_i xs hx
    cases e
    obtain ⟨p, vs, rfl, rl, k⟩ := r1.seq z.le hx
    refine ⟨p, vs, rfl, ?_, ?_⟩
    · rcases k with k | k
      · exact .inl k.1
      · exact .inr k.1
    · rw [rl.len]
      exact q _ _ (hr.pop.push rfl)
  · cases e
def p1 (p : D → Option (Prop × Sl)) := op1P p
def pList (d : D) : Option (Prop × Sl) := match d.seq with
  | some xs => some (True, .ow (.ol .fr) (.lst xs))
  | none => none
theorem c_list : R1Ok K (fun x H Q => Cl.qList K [x] H Q) (op1P pList) := by
  intro G H σ ρ τ δ x s1 Q E hr w
  obtain ⟨a, p, s, rfl, e, hp, q⟩ := op1P_go w
  obtain ⟨F, r1, z⟩ := hr.top
  unfold pList at e
  split at e
  · rename_i xs hx
    cases e
    obtain ⟨p, vs, rfl, rl, k⟩ := r1.seq z.le hx
    refine ⟨p, vs, rfl, ?_, fun l hl => q _ _ (z.ow _ _ _ _ hl (.ol upd_same rl.own))⟩
    rcases k with k | k
    · exact .inl k.1
    · exact .inr k.1
  · cases e
end
end Dl
namespace Dl
open PySem PySem.Spec PyProof.Rows L2
section
variable {K : PySem.W.Frag} {W : WS} {ta tb tc : TE} {ma mb mc : ME} {r r' : R2} {f f' : Sl → Sl → ME} {tA tB' : TT} {mA mB : MT} {tl : TA} {ml : MA}
def asB : Sl → MT
  | .sh (.bl b) => M.ret b
  | _ => M.stuck
theorem asB_go {s : Sl} {ρ : Env} {Q : Bool → Env → Prop} {E : Er → Env → Prop} (w : (asB s).wp ρ Q E) : ∃ b, s = .sh (.bl b) ∧ Q b ρ := by
  unfold asB at w
  split at w
  · exact ⟨_, rfl, w⟩
  · exact w.elim
def mTest (a : ME) : MT := a.bind asB
def mBl (b : Bool) : ME := M.ret (.sh (.bl b))
def mAndV (a b : ME) : ME := a.bind fun s => (asB s).bind fun c => M.ite c b (mBl false)
def mNotV (a : ME) : ME := a.bind fun s => (asB s).bind fun c => mBl (!c)
def mOr (a b : MT) : MT := a.bind fun c => M.ite c (M.ret true) b
def mNot (a : MT) : MT := a.bind fun c => M.ret (!c)
theorem eAndV (ha : EOk K W ta ma) (hb : EOk K W tb mb) : EOk K W (tAndV ta tb) (mAndV ma mb) := fun G H σ ρ τ δ Q h w =>
  ha G H σ ρ τ δ _ h (ma.mono (fun s1 ρ1 w1 v1 H1 h1 => by
    obtain ⟨c, rfl, q⟩ := asB_go w1
    obtain rfl := h1.topv (u := .bl c) rfl
    refine ⟨c, rfl, ?_⟩
    cases c with
    | true => exact hb G H1 σ ρ1 τ δ Q h1.pop q
    | false => exact q _ _ (h1.pop.push rfl)) (fun _ _ z => z) w)
theorem eNotV (ha : EOk K W ta ma) : EOk K W (tNotV ta) (mNotV ma) := fun G H σ ρ τ δ Q h w =>
  ha G H σ ρ τ δ _ h (ma.mono (fun s1 ρ1 w1 v1 H1 h1 => by
    obtain ⟨c, rfl, q⟩ := asB_go w1
    obtain rfl := h1.topv (u := .bl c) rfl
    exact ⟨c, rfl, q _ _ (h1.pop.push rfl)⟩) (fun _ _ z => z) w)
theorem tTest' (ha : EOk K W ta ma) : TOk K W (tTest ta) (mTest ma) := fun G H σ ρ τ δ Q h w =>
  ha G H σ ρ τ δ _ h (ma.mono (fun s1 ρ1 w1 v1 H1 h1 => by
    obtain ⟨c, rfl, q⟩ := asB_go w1
    obtain rfl := h1.topv (u := .bl c) rfl
    exact ⟨c, rfl, q _ h1.pop⟩) (fun _ _ z => z) w)
theorem tVal (ha : EOk K W ta ma) : TOk K W (tB ta) (mTest ma) := tTest' ha
theorem tOr' (ha : TOk K W tA mA) (hb : TOk K W tB' mB) : TOk K W (tOr tA tB') (mOr mA mB) := fun G H σ ρ τ δ Q h w =>
  ha G H σ ρ τ δ _ h (mA.mono (fun c ρ1 w1 H1 h1 => by
    cases c with
    | true => exact w1 H1 h1
    | false => exact hb G H1 σ ρ1 τ δ Q h1 w1) (fun _ _ z => z) w)
theorem tNot' (ha : TOk K W tA mA) : TOk K W (tNot tA) (mNot mA) := fun G H σ ρ τ δ Q h w =>
  ha G H σ ρ τ δ _ h (mA.mono (fun c ρ1 w1 H1 h1 => w1 H1 h1) (fun _ _ z => z) w)
def mNil : MA := M.ret []
def mCons (a : ME) (l : MA) : MA := a.bind fun s => l.bind fun ss => M.ret (s :: ss)
theorem aNil : AOk K W tNil mNil := fun G H σ ρ τ δ Q h w => w [] H rfl h
theorem aCons (ha : EOk K W ta ma) (hl : AOk K W tl ml) : AOk K W (tCons ta tl) (mCons ma ml) := fun G H σ ρ τ δ Q h w =>
  ha G H σ ρ τ δ _ h (ma.mono (fun s1 ρ1 w1 v1 H1 h1 => hl G H1 σ ρ1 _ _ _ h1 (ml.mono (fun ss ρ2 w2 vs H2 hl h2 => w2 (v1 :: vs) H2 (by simp [hl]) (Rel.rot (by simp [hl]) h2)) (fun e ρ' z v H' q => z v H' q.drop2) w1)) (fun _ _ z => z) w)
def allSh : List Sl → Option (List D)
  | [] => some []
  | .sh d :: ss => match allSh ss with
    | some ds => some (d :: ds)
    | none => none
  | _ :: _ => none
theorem allSh_go : ∀ {ss : List Sl} {ds : List D}, allSh ss = some ds → ss = ds.map Sl.sh
  | [], _, e => by cases e; rfl
  | s :: ss, ds, e => by
    cases s with
    | sh d =>
      have e' : (match allSh ss with | some ds => some (d :: ds) | none => none) = some ds := e
      cases h : allSh ss with
      | none => rw [h] at e'; cases e'
      | some ms => rw [h] at e'; cases e'; rw [List.map_cons, ← allSh_go h]
    | _ => cases e
def mkSeq (g : List D → Sl) (ss : List Sl) : ME := ⟨fun ρ Q _ => match allSh ss with
  | some ds => match Nat.ble ds.length sizeLine with
    | true => Q (g ds) ρ
    | false => False
  | none => False, fun {ρ Q Q' E E'} h _ w => by
    revert w
    split
    · split
      · exact fun w => h _ _ w
      · exact id
    · exact id⟩
theorem mkSeq_go {g : List D → Sl} {ss : List Sl} {ρ : Env} {Q : Sl → Env → Prop} {E : Er → Env → Prop} (w : (mkSeq g ss).wp ρ Q E) : ∃ ds, ss = ds.map Sl.sh ∧ ds.length ≤ sizeLine ∧ Q (g ds) ρ := by
  unfold mkSeq at w
  simp only at w
  split at w
  · rename_i ds e
    split at w
    · rename_i h
      exact ⟨ds, allSh_go e, Nat.le_of_ble_eq_true h, w⟩
    · exact w.elim
  · exact w.elim
def mTup (l : MA) : ME := l.bind (mkSeq fun ds => .sh (.tup ds))
def mLst (l : MA) : ME := l.bind (mkSeq fun ds => .ow (.ol .fr) (.lst ds))
theorem eTup (hl : AOk K W tl ml) : EOk K W (tTup tl) (mTup ml) := fun G H σ ρ τ δ Q h w =>
  hl G H σ ρ τ δ _ h (ml.mono (fun ss ρ1 w1 vs H1 hn h1 => by
    obtain ⟨ds, rfl, hz, q⟩ := mkSeq_go w1
    rw [List.length_map] at hn
    exact ⟨by rw [hn]; exact hz, fun p hp => q _ _ (h1.tup hp hn)⟩) (fun _ _ z => z) w)
theorem eLst (hl : AOk K W tl ml) : EOk K W (tLst tl) (mLst ml) := fun G H σ ρ τ δ Q h w =>
  hl G H σ ρ τ δ _ h (ml.mono (fun ss ρ1 w1 vs H1 hn h1 => by
    obtain ⟨ds, rfl, hz, q⟩ := mkSeq_go w1
    rw [List.length_map] at hn
    exact ⟨by rw [hn]; exact hz, fun p hp => q _ _ (h1.lst hp hn)⟩) (fun _ _ z => z) w)
end
end Dl
namespace Dl
open PySem PySem.Spec PyProof.Rows L2
structure MEnds where
  nx : Env → Prop
  rt : Sl → Env → Prop
  bk : Env → Prop
  ct : Env → Prop
  ex : Er → Env → Prop
structure MEnds.Le (M M' : MEnds) : Prop where
  nx : ∀ r, M.nx r → M'.nx r
  rt : ∀ s r, M.rt s r → M'.rt s r
  bk : ∀ r, M.bk r → M'.bk r
  ct : ∀ r, M.ct r → M'.ct r
  ex : ∀ e r, M.ex e r → M'.ex e r
structure MS where
  wp : Env → MEnds → Prop
  mono : ∀ {ρ : Env} {M M' : MEnds}, M.Le M' → wp ρ M → wp ρ M'
structure Into (K : PySem.W.Frag) (W : WS) (G : Ent) (τ : L2.St) (δ : List Sl) (D : Ends) (M : MEnds) : Prop where
  nx : ∀ σ ρ H, Rel K G H σ ρ τ δ → M.nx ρ → D.nx σ H
  rt : ∀ s ρ v σ H, Rel K G H σ ρ (some v :: τ) (s :: δ) → M.rt s ρ → D.rt v H
  bk : ∀ σ ρ H, Rel K G H σ ρ τ δ → M.bk ρ → D.bk σ H
  ct : ∀ σ ρ H, Rel K G H σ ρ τ δ → M.ct ρ → D.ct σ H
  ex : ∀ σ er ρ, M.ex er ρ → exQ K W G σ τ δ er ρ
def SOk (K : PySem.W.Frag) (W : WS) (t : TS) (m : MS) : Prop := ∀ (G : Ent) (H : Hp) (σ : L2.St) (ρ : Env) (τ : L2.St) (δ : List Sl) (D : Ends) (M : MEnds), Rel K G H σ ρ τ δ → Into K W G τ δ D M → m.wp ρ M → t D σ H
def sNext : MS := ⟨fun ρ M => M.nx ρ, fun h w => h.nx _ w⟩
def sSeq (a b : MS) : MS := ⟨fun ρ M => a.wp ρ { M with nx := fun r => b.wp r M }, fun {ρ M M'} h w => a.mono (M := { M with nx := fun r => b.wp r M }) ⟨fun r (z : b.wp r M) => b.mono h z, h.rt, h.bk, h.ct, h.ex⟩ w⟩
def sDrop (m : ME) : MS := ⟨fun ρ M => m.wp ρ (fun _ r => M.nx r) M.ex, fun h w => m.mono (fun _ r z => h.nx r z) h.ex w⟩
def sRet (m : ME) : MS := ⟨fun ρ M => m.wp ρ M.rt M.ex, fun h w => m.mono h.rt h.ex w⟩
def sIf (c : MT) (a b : MS) : MS := ⟨fun ρ M => c.wp ρ (fun k r => if k = true then a.wp r M else b.wp r M) M.ex, fun h w => c.mono (fun k r z => by
  cases k with
  | true => exact a.mono h z
  | false => exact b.mono h z) h.ex w⟩
section
variable {K : PySem.W.Frag} {W : WS} {ta tb tc : TE} {ma mb mc : ME} {t u : TS} {m k : MS} {tA : TT} {mA : MT}
theorem zNext : SOk K W tNext sNext := fun G H σ ρ τ δ D M h i w => i.nx σ ρ H h w
theorem zSeq (ht : SOk K W t m) (hu : SOk K W u k) : SOk K W (tSeq t u) (sSeq m k) := fun G H σ ρ τ δ D M h i w =>
  ht G H σ ρ τ δ _ { M with nx := fun r => k.wp r M } h ⟨fun σ' ρ' H' h' w' => hu G H' σ' ρ' τ δ D M h' i w', i.rt, i.bk, i.ct, i.ex⟩ w
theorem zDrop (ha : EOk K W ta ma) : SOk K W (tDrop ta) (sDrop ma) := fun G H σ ρ τ δ D M h i w =>
  ha G H σ ρ τ δ _ h (ma.mono (fun s ρ' z v H' q => i.nx σ ρ' H' q.pop z) (fun e ρ' z => i.ex σ e ρ' z) w)
theorem zRet (ha : EOk K W ta ma) : SOk K W (tRet ta) (sRet ma) := fun G H σ ρ τ δ D M h i w =>
  ha G H σ ρ τ δ _ h (ma.mono (fun s ρ' z v H' q => i.rt s ρ' v σ H' q z) (fun e ρ' z => i.ex σ e ρ' z) w)
theorem zIf (hc : TOk K W tA mA) (ht : SOk K W t m) (hu : SOk K W u k) : SOk K W (tIfS tA t u) (sIf mA m k) := fun G H σ ρ τ δ D M h i w =>
  hc G H σ ρ τ δ _ h (mA.mono (fun b ρ' z H' q => by
    cases b with
    | true => exact ht G H' σ ρ' τ δ D M q i z
    | false => exact hu G H' σ ρ' τ δ D M q i z) (fun e ρ' z => i.ex σ e ρ' z) w)
abbrev MG := Sl → M Unit
def GOk (K : PySem.W.Frag) (g : TG) (mg : MG) : Prop := ∀ (G : Ent) (H : Hp) (σ : L2.St) (ρ : Env) (τ : L2.St) (δ : List Sl) (v : V) (s : Sl) (Q : L2.St → Hp → Prop), Rel K G H σ ρ (some v :: τ) (s :: δ) →
  (mg s).wp ρ (fun _ ρ' => ∀ σ' H', Rel K G H' σ' ρ' τ δ → Q σ' H') (fun _ _ => False) → g v σ H Q
def gSet (i : Nat) : MG := fun s => ⟨fun ρ Q _ => match ρ[i]? with
  | some _ => Q () (ρ.set i s)
  | none => False, fun {ρ Q Q' E E'} h _ w => by
    revert w
    split
    · exact fun w => h _ _ w
    · exact id⟩
theorem gNm {i : Nat} : GOk K (gName i) (gSet i) := fun G H σ ρ τ δ v s Q h w => by
  unfold gSet at w
  simp only at w
  split at w
  · rename_i e
    refine w _ _ (h.set ?_)
    rcases Nat.lt_or_ge i ρ.length with z | z
    · exact z
    · rw [List.getElem?_eq_none z] at e; cases e
  · exact w.elim
theorem RepL.slots {F H : Hp} {τ : L2.St} {δ : List Sl} {f : List Addr} (h : Slots K F H τ δ f) : ∀ {vs : List V} {ds : List D}, RepL K F vs ds → Slots K F H (vs.map some ++ τ) (ds.map Sl.sh ++ δ) f
  | _, _, .nil => h
  | _, _, .cons r t => .cons (f := []) (.sh r) (RepL.slots h t)
theorem Rel.parts {G : Ent} {H : Hp} {σ : L2.St} {ρ : Env} {τ : L2.St} {δ : List Sl} {v : V} {ds : List D} (h : Rel K G H σ ρ (some v :: τ) (.sh (.tup ds) :: δ)) : ∃ a vs, v = .ref a ∧ SqT K H a vs ∧ vs.length = ds.length ∧ Rel K G H σ ρ (vs.map some ++ τ) (ds.map Sl.sh ++ δ) := by
  obtain ⟨F, f1, f2, g, ht, hs⟩ := h
  cases ht with
  | cons h1 h2 =>
    cases h1 with
    | sh r =>
      cases r with
      | @tup a vs _ h1 r =>
        refine ⟨a, vs, rfl, sqt_mono g.sub h1, r.len, F, _, f2, g, ?_, hs⟩
        exact RepL.slots h2 r
def sAsg (m : ME) (g : MG) : MS := ⟨fun ρ M => m.wp ρ (fun s r => (g s).wp r (fun _ r' => M.nx r') (fun _ _ => False)) M.ex, fun h w => m.mono (fun s r z => (g s).mono (fun _ r' q => h.nx r' q) (fun _ _ q => q) z) h.ex w⟩
theorem zAsg {g : TG} {mg : MG} (ha : EOk K W ta ma) (hg : GOk K g mg) : SOk K W (tAsg ta g) (sAsg ma mg) := fun G H σ ρ τ δ D M h i w =>
  ha G H σ ρ τ δ _ h (ma.mono (fun s ρ1 w1 v H1 h1 => hg G H1 σ ρ1 τ δ v s _ h1 ((mg s).mono (fun _ ρ2 w2 σ2 H2 h2 => i.nx σ2 ρ2 H2 h2 w2) (fun _ _ z => z) w1)) (fun e ρ' z => i.ex σ e ρ' z) w)
abbrev MI := M (List D)
structure Walks (K : PySem.W.Frag) (G : Ent) (J : It) (ds : List D) (τ' : L2.St) (δ' : List Sl) : Prop where
  go : ∀ H σ ρ τ δ i, Rel K G H σ ρ (τ' ++ τ) (δ' ++ δ) → i < ds.length → J.go i H
  stop : ∀ H σ ρ τ δ, Rel K G H σ ρ (τ' ++ τ) (δ' ++ δ) → J.stop ds.length H
  yld : ∀ H σ ρ τ δ i x H' d, Rel K G H σ ρ (τ' ++ τ) (δ' ++ δ) → ds[i]? = some d → J.yld i H x H' → Rel K G H' σ ρ (some x :: (τ' ++ τ)) (.sh d :: (δ' ++ δ))
def IOk (K : PySem.W.Frag) (W : WS) (wi : TI) (m : MI) : Prop := ∀ (G : Ent) (H : Hp) (σ : L2.St) (ρ : Env) (τ : L2.St) (δ : List Sl) (R : It → Hp → Prop), Rel K G H σ ρ τ δ →
  m.wp ρ (fun ds ρ' => ∀ J H' τ' δ', τ'.length = δ'.length → Rel K G H' σ ρ' (τ' ++ τ) (δ' ++ δ) → Walks K G J ds τ' δ' → R J H') (exQ K W G σ τ δ) → wi σ H R
def forM (g : MG) (b : MS) : List D → Env → MEnds → Prop
  | [], ρ, M => M.nx ρ
  | d :: ds, ρ, M => (g (.sh d)).wp ρ (fun _ r => b.wp r { M with nx := fun r => forM g b ds r M, ct := fun r => forM g b ds r M, bk := M.nx }) (fun _ _ => False)
theorem forM_mono {g : MG} {b : MS} {M M' : MEnds} (h : M.Le M') : ∀ {ds : List D} {ρ : Env}, forM g b ds ρ M → forM g b ds ρ M'
  | [], ρ, w => h.nx ρ w
  | d :: ds, ρ, w => (g (.sh d)).mono (fun _ r z => b.mono (M := { M with nx := fun r => forM g b ds r M, ct := fun r => forM g b ds r M, bk := M.nx }) ⟨fun r z => forM_mono h z, h.rt, h.nx, fun r z => forM_mono h z, h.ex⟩ z) (fun _ _ z => z) w
def sFor (i : MI) (g : MG) (b : MS) : MS := ⟨fun ρ M => i.wp ρ (fun ds r => forM g b ds r M) M.ex, fun h w => i.mono (fun ds r z => forM_mono h z) h.ex w⟩
theorem for_go {J : It} {g : TG} {mg : MG} (hg : GOk K g mg) (hb : SOk K W t m) {G : Ent} {H1 : Hp} {σ τ τ' : L2.St} {ρ1 : Env} {δ δ' : List Sl} {ds : List D} {D : Ends} {M : MEnds} (el : τ'.length = δ'.length) (h1 : Rel K G H1 σ ρ1 (τ' ++ τ) (δ' ++ δ)) (hw : Walks K G J ds τ' δ') (hi' : Into K W G τ δ D M) (w1 : forM mg m ds ρ1 M) :
    ∃ W : Nat → Nat → L2.St → Hp → Prop, (∃ m, W 0 m σ H1) ∧ ∀ i m σ H, W i m σ H →
      (J.stop i H ∧ D.nx σ H) ∨ (J.go i H ∧ ∃ N : L2.St → Hp → Prop, (∀ σ' H', N σ' H' → ∃ m', m' < m ∧ W (i + 1) m' σ' H') ∧ ∀ x H', J.yld i H x H' → g x σ H' fun σ2 H2 => t { D with nx := N, ct := N, bk := D.nx } σ2 H2) := by
  refine ⟨fun i n σ' H' => n = ds.length - i ∧ i ≤ ds.length ∧ ∃ ρ', Rel K G H' σ' ρ' (τ' ++ τ) (δ' ++ δ) ∧ forM mg m (ds.drop i) ρ' M, ⟨_, rfl, Nat.zero_le _, ρ1, h1, w1⟩, ?_⟩
  rintro i n σ' H' ⟨rfl, hle, ρ', h2, w2⟩
  by_cases hlt : i < ds.length
  · have hd : ds.drop i = ds[i] :: ds.drop (i + 1) := List.drop_eq_getElem_cons hlt
    rw [hd] at w2
    refine .inr ⟨hw.go H' σ' ρ' τ δ i h2 hlt, fun σ2 H2 => ∃ ρ2, Rel K G H2 σ2 ρ2 (τ' ++ τ) (δ' ++ δ) ∧ forM mg m (ds.drop (i + 1)) ρ2 M, fun σ2 H2 ⟨ρ2, h3, w3⟩ => ⟨_, by omega, rfl, hlt, ρ2, h3, w3⟩, fun x H2 y => ?_⟩
    have h3 := hw.yld H' σ' ρ' τ δ i x H2 ds[i] h2 (List.getElem?_eq_getElem hlt) y
    refine hg G H2 σ' ρ' _ _ x _ _ h3 ((mg _).mono (fun _ ρ3 w3 σ3 H3 h4 => ?_) (fun _ _ z => z) w2)
    refine hb G H3 σ3 ρ3 _ _ _ { M with nx := fun r => forM mg m (ds.drop (i + 1)) r M, ct := fun r => forM mg m (ds.drop (i + 1)) r M, bk := M.nx } h4 ⟨fun σ4 ρ4 H4 h5 w4 => ⟨ρ4, h5, w4⟩, fun s ρ4 v σ4 H4 h5 w4 => hi'.rt s ρ4 v σ4 H4 (Rel.dropN el h5) w4, fun σ4 ρ4 H4 h5 w4 => hi'.nx σ4 ρ4 H4 (Rel.popN el h5) w4, fun σ4 ρ4 H4 h5 w4 => ⟨ρ4, h5, w4⟩, fun σ4 er ρ4 w4 v H4 h5 => hi'.ex σ4 er ρ4 w4 v H4 (Rel.dropN el h5)⟩ w3
  · have e : i = ds.length := by omega
    subst e
    rw [List.drop_length] at w2
    exact .inl ⟨hw.stop H' σ' ρ' τ δ h2, hi'.nx σ' ρ' H' (Rel.popN el h2) w2⟩
theorem zFor {wi : TI} {mi : MI} {g : TG} {mg : MG} (hi : IOk K W wi mi) (hg : GOk K g mg) (hb : SOk K W t m) : SOk K W (tFor wi g t) (sFor mi mg m) := fun G H σ ρ τ δ D M h hi' w =>
  hi G H σ ρ τ δ _ h (mi.mono (fun ds ρ1 w1 J H1 τ' δ' el h1 hw => for_go hg hb el h1 hw hi' w1) (fun e ρ' z => hi'.ex σ e ρ' z) w)
end
end Dl
namespace Dl
open PySem PySem.Spec PyProof.Rows L2
section
variable {K : PySem.W.Frag} {W : WS} {ta tb tc : TE} {ma mb mc : ME} {t u : TS} {m k : MS} {tA : TT} {mA : MT} {tl : TA} {ml : MA}
def asSeq (p : D → Option (List D)) : Sl → MI
  | .sh d => match p d with
    | some xs => M.ret xs
    | none => M.stuck
  | _ => M.stuck
theorem asSeq_go {p : D → Option (List D)} {s : Sl} {ρ : Env} {Q : List D → Env → Prop} {E : Er → Env → Prop} (w : (asSeq p s).wp ρ Q E) : ∃ d xs, s = .sh d ∧ p d = some xs ∧ Q xs ρ := by
  unfold asSeq at w
  split at w
  · split at w
    · exact ⟨_, _, rfl, by assumption, w⟩
    · exact w.elim
  · exact w.elim
def D.asL : D → Option (List D)
  | .lst xs => some xs
  | _ => none
def iL (a : ME) : MI := a.bind (asSeq D.asL)
theorem Rel.held {G : Ent} {H : Hp} {σ : L2.St} {ρ : Env} {τ : L2.St} {δ : List Sl} {v : V} {d : D} (h : Rel K G H σ ρ (some v :: τ) (.sh d :: δ)) : ∃ F, Rep K F v d ∧ Le F H ∧ ∀ u z, Rep K F u z → Rel K G H σ ρ (some u :: some v :: τ) (.sh z :: .sh d :: δ) := by
  obtain ⟨F, f1, f2, g, ht, hs⟩ := h
  cases ht with
  | cons h1 h2 =>
    cases h1 with
    | sh r => exact ⟨F, r, g.sub, fun u z q => ⟨F, _, f2, g, .cons (.sh q) (.cons (.sh r) h2), hs⟩⟩
theorem Rel.lstAt {G : Ent} {H : Hp} {σ : L2.St} {ρ : Env} {τ : L2.St} {δ : List Sl} {a : Addr} {ds : List D} (h : Rel K G H σ ρ (some (.ref a) :: τ) (.sh (.lst ds) :: δ)) : ∃ vs, H a = some (.lst vs) ∧ vs.length = ds.length ∧ ∀ (i : Nat) (x : V) (d : D), vs[i]? = some x → ds[i]? = some d → Rel K G H σ ρ (some x :: some (.ref a) :: τ) (.sh d :: .sh (.lst ds) :: δ) := by
  obtain ⟨F, r, l, k⟩ := h.held
  cases r with
  | lst h1 r =>
    refine ⟨_, l _ _ h1, r.len, fun i x d e1 e2 => ?_⟩
    obtain ⟨v, e3, q⟩ := r.get e2
    rw [e1] at e3
    cases e3
    exact k _ _ q
theorem walks_list {a : Addr} {ds : List D} : Walks K G (Itl K a) ds [some (.ref a)] [.sh (.lst ds)] where
  go := fun H σ ρ τ δ i h hi => by
    obtain ⟨vs, h1, h2, _⟩ := h.lstAt
    exact walk_list.goes i H (by omega) (SqL.of h1)
  stop := fun H σ ρ τ δ h => by
    obtain ⟨vs, h1, h2, _⟩ := h.lstAt
    rw [← h2]
    exact walk_list.stops H (SqL.of h1)
  yld := fun H σ ρ τ δ i x H' d h hi y => by
    obtain ⟨vs, h1, h2, h3⟩ := h.lstAt
    have hlt : i < ds.length := by
      rcases Nat.lt_or_ge i ds.length with z | z
      · exact z
      · rw [List.getElem?_eq_none z] at hi; cases hi
    obtain ⟨e1, e2⟩ := (walk_list (K := K) (a := a) (xs := vs)).yields i H x H' (by omega) (SqL.of h1) y
    subst e1
    exact h3 i x d e2 hi
theorem wList (ha : EOk K W ta ma) : IOk K W (iList K ta) (iL ma) := fun G H σ ρ τ δ R h w =>
  ha G H σ ρ τ δ _ h (ma.mono (fun s ρ1 w1 v H1 h1 => by
    obtain ⟨d, xs, rfl, e, q⟩ := asSeq_go w1
    unfold D.asL at e
    split at e
    · cases e
      obtain ⟨F, r, z⟩ := h1.top
      cases r with
      | lst h2 r => exact ⟨_, rfl, ⟨_, SqL.of (z.le _ _ h2)⟩, q _ _ _ _ rfl h1 walks_list⟩
    · cases e) (fun _ _ z => z) w)
def rgD (lo : Int) (n : Nat) : List D := (List.range n).map fun i => D.int (lo + (i : Nat))
theorem walks_range {lo : Int} {n : Nat} : Walks K G (Itr lo n) (rgD lo n) [] [] where
  go := fun H σ ρ τ δ i h hi => by
    simp only [rgD, List.length_map, List.length_range] at hi
    exact hi
  stop := fun H σ ρ τ δ h => by
    simp only [rgD, List.length_map, List.length_range]
    exact Nat.le_refl _
  yld := fun H σ ρ τ δ i x H' d h hi y => by
    obtain ⟨rfl, rfl⟩ := y
    have hlt : i < n := by
      rcases Nat.lt_or_ge i n with z | z
      · exact z
      · rw [List.getElem?_eq_none (by simp only [rgD, List.length_map, List.length_range]; exact z)] at hi; cases hi
    have : d = .int (lo + (i : Nat)) := by
      simp only [rgD, List.getElem?_map, List.getElem?_range hlt, Option.map_some] at hi
      exact (Option.some.inj hi).symm
    rw [this]
    exact h.push rfl
def asI (k : Int → MI) : Sl → MI
  | .sh (.int j) => k j
  | _ => M.stuck
def need {α : Type} (p : Prop) (m : M α) : M α := ⟨fun ρ Q E => p ∧ m.wp ρ Q E, fun h h' w => ⟨w.1, m.mono h h' w.2⟩⟩
def iR1 (a : ME) : MI := a.bind (asI fun j => need (-(2 ^ 62) ≤ j ∧ j < 2 ^ 62) (M.ret (rgD 0 j.toNat)))
theorem asI_go {k : Int → MI} {s : Sl} {ρ : Env} {Q : List D → Env → Prop} {E : Er → Env → Prop} (w : (asI k s).wp ρ Q E) : ∃ j, s = .sh (.int j) ∧ (k j).wp ρ Q E := by
  unfold asI at w
  split at w
  · exact ⟨_, rfl, w⟩
  · exact w.elim
theorem wR1 (ha : EOk K W ta ma) : IOk K W (iRng1 (tCons ta tNil)) (iR1 ma) := fun G H σ ρ τ δ R h w =>
  ha G H σ ρ τ δ _ h (ma.mono (fun s ρ1 w1 v H1 h1 => by
    obtain ⟨j, rfl, w2, w3⟩ := asI_go w1
    obtain rfl := h1.topv (u := .int j) rfl
    exact ⟨j, rfl, w2.1, w2.2, w3 _ _ [] [] rfl h1.pop walks_range⟩) (fun _ _ z => z) w)
def sgD (z : Str) : List D := z.cps.toList.map fun c => D.str ⟨#[c]⟩
def D.asS : D → Option (List D)
  | .str z => some (sgD z)
  | _ => none
def iS (a : ME) : MI := a.bind (asSeq D.asS)
end
end Dl
namespace Dl
open PySem PySem.Spec PyProof.Rows L2
inductive Ag where
  | s (x : Sl) | l (i : Nat)
inductive Ags (σ : L2.St) : List V → List Ag → L2.St → List Sl → Prop
  | nil : Ags σ [] [] [] []
  | s {v : V} {vs : List V} {x : Sl} {ags : List Ag} {τs : L2.St} {δs : List Sl} : Ags σ vs ags τs δs → Ags σ (v :: vs) (.s x :: ags) (some v :: τs) (x :: δs)
  | l {v : V} {vs : List V} {i : Nat} {ags : List Ag} {τs : L2.St} {δs : List Sl} : σ[i]? = some (some v) → Ags σ vs ags τs δs → Ags σ (v :: vs) (.l i :: ags) τs δs
theorem Ags.len {σ : L2.St} {vs : List V} {ags : List Ag} {τs : L2.St} {δs : List Sl} (h : Ags σ vs ags τs δs) : τs.length = δs.length := by
  induction h with
  | nil => rfl
  | s _ ih => simp [ih]
  | l _ _ ih => exact ih
abbrev MB := M (List Ag)
def BOk (K : PySem.W.Frag) (W : WS) (t : TA) (m : MB) : Prop := ∀ (G : Ent) (H : Hp) (σ : L2.St) (ρ : Env) (τ : L2.St) (δ : List Sl) (Q : List V → Hp → Prop), Rel K G H σ ρ τ δ →
  m.wp ρ (fun ags ρ' => ∀ vs H' τs δs, Ags σ vs ags τs δs → Rel K G H' σ ρ' (τs ++ τ) (δs ++ δ) → Q vs H') (exQ K W G σ τ δ) → t σ H Q
def bNo : MB := M.ret []
def bCo (a : ME) (l : MB) : MB := a.bind fun s => l.bind fun ss => M.ret (.s s :: ss)
section
variable {K : PySem.W.Frag} {W : WS} {ta tb tc : TE} {ma mb mc : ME} {tl : TA} {ml : MB}
theorem bNil : BOk K W tNil bNo := fun G H σ ρ τ δ Q h w => w [] H [] [] .nil h
theorem bCons (ha : EOk K W ta ma) (hl : BOk K W tl ml) : BOk K W (tCons ta tl) (bCo ma ml) := fun G H σ ρ τ δ Q h w =>
  ha G H σ ρ τ δ _ h (ma.mono (fun s1 ρ1 w1 v1 H1 h1 => hl G H1 σ ρ1 _ _ _ h1 (ml.mono (fun ss ρ2 w2 vs H2 τs δs ha h2 => w2 (v1 :: vs) H2 _ _ (.s ha) (Rel.rot ha.len h2)) (fun e ρ' z v H' q => z v H' q.drop2) w1)) (fun _ _ z => z) w)
end
def lendP : Env → List Ag → (List Sl → Env → Prop) → Prop
  | ρ, [], k => k [] ρ
  | ρ, .s (.sh d) :: ags, k => lendP ρ ags fun as r => k (.sh d :: as) r
  | ρ, .s (.ow s d) :: ags, k => ∀ v, lendP ρ ags fun as r => k (.le v s d :: as) r
  | _, .s _ :: _, _ => False
  | ρ, .l i :: ags, k => match ρ[i]? with
    | some (.ow s d) => ∀ v, lendP (ρ.set i .un) ags fun as r => k (.le v s d :: as) r
    | some (.le v s d) => lendP (ρ.set i .un) ags fun as r => k (.le v s d :: as) r
    | some .bx => ∀ v, lendP (ρ.set i .un) ags fun as r => k (.lb v :: as) r
    | some (.lb v) => lendP (ρ.set i .un) ags fun as r => k (.lb v :: as) r
    | _ => False
theorem lendP_mono : ∀ {ags : List Ag} {ρ : Env} {k k' : List Sl → Env → Prop}, (∀ as r, k as r → k' as r) → lendP ρ ags k → lendP ρ ags k'
  | [], ρ, k, k', h, w => h _ _ w
  | .s x :: ags, ρ, k, k', h, w => by
    cases x with
    | sh d => exact lendP_mono (ags := ags) (fun as r z => h _ _ z) w
    | ow s d => exact fun v => lendP_mono (ags := ags) (fun as r z => h _ _ z) (w v)
    | _ => exact False.elim w
  | .l i :: ags, ρ, k, k', h, w => by
    unfold lendP at w ⊢
    split at w
    · exact fun v => lendP_mono (ags := ags) (fun as r z => h _ _ z) (w v)
    · exact lendP_mono (ags := ags) (fun as r z => h _ _ z) w
    · exact fun v => lendP_mono (ags := ags) (fun as r z => h _ _ z) (w v)
    · exact lendP_mono (ags := ags) (fun as r z => h _ _ z) w
    · exact w.elim
def backOne : Option Sl → Sl → Option Sl
  | some (.ow _ _), .le _ s d => some (.ow s d)
  | some (.le v _ _), .le _ s d => some (.le v s d)
  | some .bx, .lb _ => some .bx
  | some (.lb v), .lb _ => some (.lb v)
  | some (.ow _ _), .sh d => some (.sh d)
  | some (.le _ _ _), .sh d => some (.sh d)
  | _, _ => none
def backP (ρ0 : Env) : List Ag → List Sl → Env → (Env → Prop) → Prop
  | [], _, ρ, k => k ρ
  | .s _ :: ags, _ :: as, ρ, k => backP ρ0 ags as ρ k
  | .l i :: ags, a :: as, ρ, k => match backOne ρ0[i]? a with
    | some s => backP ρ0 ags as (ρ.set i s) k
    | none => False
  | _ :: _, [], _, _ => False
theorem backP_mono {ρ0 : Env} : ∀ {ags : List Ag} {as : List Sl} {ρ : Env} {k k' : Env → Prop}, (∀ r, k r → k' r) → backP ρ0 ags as ρ k → backP ρ0 ags as ρ k'
  | [], _, _, _, _, h, w => h _ w
  | .s _ :: ags, _ :: as, _, _, _, h, w => backP_mono (ags := ags) (as := as) h w
  | .l i :: ags, a :: as, ρ, k, k', h, w => by
    unfold backP at w ⊢
    split at w
    · exact backP_mono (ags := ags) h w
    · exact w.elim
  | .s _ :: _, [], _, _, _, _, w => w
  | .l _ :: _, [], _, _, _, _, w => w
def callM (ds : M Sl) (dv : List D) (ags : List Ag) : ME := ⟨fun ρ Q E => lendP ρ ags fun as ρ1 => ds.wp (as ++ dv.map Sl.sh) (fun r as' => backP ρ ags as' ρ1 fun ρ2 => Q r ρ2) (fun er as' => backP ρ ags as' ρ1 fun ρ2 => E er ρ2),
  fun h h' w => lendP_mono (fun as r z => ds.mono (fun _ _ q => backP_mono (fun _ p => h _ _ p) q) (fun _ _ q => backP_mono (fun _ p => h' _ _ p) q) z) w⟩
def spOf (K : PySem.W.Frag) (ds : M Sl) : Sp := fun vs H Q E => ∃ (F : Hp) (as : List Sl) (fp : List Addr), Le F H ∧ Slots K F H (vs.map some) as fp ∧ fp.Nodup ∧ (∀ a ∈ fp, F a = none) ∧
  ds.wp as (fun r as' => ∀ v H', Rel K ⟨H, F, fp⟩ H' (vs.map some) as' [some v] [r] → Q v H') (fun er as' => ∀ v H', Rel K ⟨H, F, fp⟩ H' (vs.map some) as' [some v] [.sh er.d] → XE E H' (He.ga K (en er.c)) (ef er.c) v)
section
variable {K : PySem.W.Frag} {W : WS} {G : Ent} {F F' H H' : Hp} {σ : L2.St} {ρ : Env}
theorem Good.call {fA fR gs : List Addr} (g : Good G F H (fA ++ fR)) (c : Good ⟨H, F, fA⟩ F' H' gs) (here : ∀ a ∈ fR, H a ≠ none) : Good G F' H' (gs ++ fR) := by
  have dis := (List.nodup_append.mp g.nd).2.2
  refine ⟨c.sub, g.f0.trans c.f0, fun a e => ?_, fun a o e hn => ?_, fun a e => c.all a (g.all a e), fun a ha => ?_, fun a ha => ?_, ?_⟩
  · rcases c.fN a e with z | z | z
    · exact g.fN a z
    · refine .inr (.inl ?_)
      cases q : G.H a with
      | none => rfl
      | some o => exact absurd z (g.all a (by rw [q]; intro z; cases z))
    · exact .inr ((g.own a (List.mem_append_left _ z)).symm)
  · refine c.frm a o (g.frm a o e hn) fun z => ?_
    rcases g.own a (List.mem_append_left _ z) with q | q
    · exact hn q
    · rw [q] at e; cases e
  · rcases List.mem_append.mp ha with z | z
    · rcases c.own a z with q | q
      · exact g.own a (List.mem_append_left _ q)
      · refine .inr ?_
        cases q2 : G.H a with
        | none => rfl
        | some o => exact absurd q (g.all a (by rw [q2]; intro z; cases z))
    · exact g.own a (List.mem_append_right _ z)
  · rcases List.mem_append.mp ha with z | z
    · exact c.nf a z
    · cases q : F' a with
      | none => rfl
      | some o =>
        exfalso
        rcases c.fN a (by rw [q]; intro z; cases z) with p | p | p
        · exact p (g.nf a (List.mem_append_right _ z))
        · exact here a z p
        · exact dis a p a z rfl
  · refine List.nodup_append.mpr ⟨c.nd, (List.nodup_append.mp g.nd).2.1, fun a ha b hb e => ?_⟩
    subst e
    rcases c.own a ha with q | q
    · exact dis a q a hb rfl
    · exact here a hb q
theorem lend_out : ∀ {ags : List Ag} {vs : List V} {τs : L2.St} {δs : List Sl} {τ : L2.St} {δ : List Sl} {ρ : Env} {fT fR : List Addr} {k : List Sl → Env → Prop}, Ags σ vs ags τs δs → Slots K F H (τs ++ τ) (δs ++ δ) fT → Slots K F H σ ρ fR → lendP ρ ags k →
    ∃ as ρ1 fA fT' fR', k as ρ1 ∧ Slots K F H (vs.map some) as fA ∧ Slots K F H τ δ fT' ∧ Slots K F H σ ρ1 fR' ∧ (∀ a, (fA ++ (fT' ++ fR')).count a = (fT ++ fR).count a)
  | [], _, _, _, τ, δ, ρ, fT, fR, k, .nil, ht, hs, w => ⟨[], ρ, [], fT, fR, w, .nil, ht, hs, fun _ => rfl⟩
  | .s x :: ags, _, _, _, τ, δ, ρ, fT, fR, k, .s (v := v) ha, ht, hs, w => by
    cases x with
    | sh d =>
      cases ht with
      | cons h1 h2 =>
        rename_i f f'
        obtain ⟨as, ρ1, fA, fT', fR', q, k1, k2, k3, k4⟩ := lend_out ha h2 hs w
        refine ⟨_, ρ1, f ++ fA, fT', fR', q, .cons h1 k1, k2, k3, fun a => ?_⟩
        have := k4 a
        simp only [List.count_append] at this ⊢
        omega
    | ow s d =>
      cases ht with
      | @cons _ _ f f' _ _ h1 h2 =>
        cases h1 with
        | ow r =>
          obtain ⟨as, ρ1, fA, fT', fR', q, k1, k2, k3, k4⟩ := lend_out ha h2 hs (w v)
          refine ⟨_, ρ1, f ++ fA, fT', fR', q, .cons (.le r) k1, k2, k3, fun a => ?_⟩
          have := k4 a
          simp only [List.count_append] at this ⊢
          omega
    | _ => exact False.elim w
  | .l i :: ags, _, _, _, τ, δ, ρ, fT, fR, k, .l (v := v) e0 ha, ht, hs, w => by
    have key : ∀ (s : Sl) (s' : Sl), ρ[i]? = some s → (∀ f, SlV K F H (some v) s f → SlV K F H (some v) s' f) → lendP (ρ.set i .un) ags (fun as r => k (s' :: as) r) → ∃ as ρ1 fA fT' fR', k as ρ1 ∧ Slots K F H (v :: _ |>.map some) as fA ∧ Slots K F H τ δ fT' ∧ Slots K F H σ ρ1 fR' ∧ (∀ a, (fA ++ (fT' ++ fR')).count a = (fT ++ fR).count a) := fun s s' e hv w => by
      obtain ⟨o, l, f, r, e1, e2, h1, kk⟩ := hs.at e
      rw [e0] at e2
      cases e2
      have h2 := kk (some v) .un [] .un
      have eσ : σ.set i (some v) = σ := by
        apply List.ext_getElem?
        intro j
        by_cases hj : j = i
        · subst hj
          rw [e0]
          refine List.getElem?_set_self ?_
          rcases Nat.lt_or_ge j σ.length with z | z
          · exact z
          · rw [List.getElem?_eq_none z] at e0; cases e0
        · rw [List.getElem?_set_ne (Ne.symm hj)]
      rw [eσ] at h2
      obtain ⟨as, ρ1, fA, fT', fR', q, k1, k2, k3, k4⟩ := lend_out ha ht h2 w
      refine ⟨_, ρ1, f ++ fA, fT', fR', q, .cons (hv f h1) k1, k2, k3, fun a => ?_⟩
      have := k4 a
      subst e1
      simp only [List.count_append, List.count_nil] at this ⊢
      omega
    unfold lendP at w
    split at w
    · rename_i s d e
      exact key _ _ e (fun f z => by cases z with | ow r => exact .le r) (w v)
    · rename_i v' s d e
      exact key _ _ e (fun f z => z) w
    · rename_i e
      exact key _ _ e (fun f z => by cases z with | bx r => exact .lb r) (w v)
    · rename_i v' e
      exact key _ _ e (fun f z => z) w
    · exact w.elim
theorem lend_back {ρ0 : Env} (h0 : ∀ (i : Nat) (s : Sl) (v : V), ρ0[i]? = some s → σ[i]? = some (some v) → (∀ v' z d, s = .le v' z d → v' = v) ∧ (∀ v', s = .lb v' → v' = v)) : ∀ {ags : List Ag} {vs ws : List V} {τs : L2.St} {δs : List Sl} {as : List Sl} {ρ : Env} {fA fR : List Addr} {k : Env → Prop}, Ags σ vs ags τs δs → Slots K F H (vs.map some ++ ws.map some) as fA → Slots K F H σ ρ fR → backP ρ0 ags as ρ k →
    ∃ ρ2 g, k ρ2 ∧ Slots K F H σ ρ2 g ∧ ∀ a, g.count a ≤ (fA ++ fR).count a
  | [], _, _, _, _, as, ρ, fA, fR, k, .nil, hA, hs, w => ⟨ρ, fR, w, hs, fun a => by simp only [List.count_append]; omega⟩
  | .s x :: ags, _, _, _, _, as, ρ, fA, fR, k, .s ha, hA, hs, w => by
    cases hA with
    | cons h1 h2 =>
      obtain ⟨ρ2, g, q, k1, k2⟩ := lend_back h0 ha h2 hs w
      refine ⟨ρ2, g, q, k1, fun a => ?_⟩
      have := k2 a
      simp only [List.count_append] at this ⊢
      omega
  | .l i :: ags, _, _, _, _, as, ρ, fA, fR, k, .l (v := v) e0 ha, hA, hs, w => by
    cases hA with
    | cons h1 h2 =>
      rename_i f f' s
      unfold backP at w
      split at w
      · rename_i s2 e
        have hv : SlV K F H (some v) s2 f := by
          unfold backOne at e
          split at e
          · cases e; cases h1 with | le r => exact .ow r
          · rename_i v0 z0 d0 v1 z d e1
            cases e
            cases h1 with
            | le r =>
              obtain rfl := (h0 i _ v e1 e0).1 _ _ _ rfl
              exact .le r
          · cases e; cases h1 with | lb r => exact .bx r
          · rename_i v0 v1 e1
            cases e
            cases h1 with
            | lb r =>
              obtain rfl := (h0 i _ _ e1 e0).2 _ rfl
              exact .lb r
          · cases e; cases h1 with | sh r => exact .sh r
          · cases e; cases h1 with | sh r => exact .sh r
          · cases e
        have hlt : i < ρ.length := by
          rw [← hs.len]
          rcases Nat.lt_or_ge i σ.length with z | z
          · exact z
          · rw [List.getElem?_eq_none z] at e0; cases e0
        obtain ⟨o, l, f1, r, e1, e2, h3, kk⟩ := hs.at (i := i) (s := ρ[i]) (by rw [List.getElem?_eq_getElem hlt])
        rw [e0] at e2
        cases e2
        have h4 := kk (some v) s2 f hv
        have eσ : σ.set i (some v) = σ := by
          apply List.ext_getElem?
          intro j
          by_cases hj : j = i
          · subst hj
            rw [e0]
            exact List.getElem?_set_self (by rw [hs.len]; exact hlt)
          · rw [List.getElem?_set_ne (Ne.symm hj)]
        rw [eσ] at h4
        obtain ⟨ρ2, g, q, k1, k2⟩ := lend_back h0 ha h2 h4 w
        refine ⟨ρ2, g, q, k1, fun a => ?_⟩
        have := k2 a
        subst e1
        simp only [List.count_append] at this ⊢
        omega
      · exact w.elim
theorem Slots.same {fR : List Addr} (hs : Slots K F H σ ρ fR) {i : Nat} {s : Sl} {v : V} (e : ρ[i]? = some s) (e' : σ[i]? = some (some v)) : (∀ v' z d, s = .le v' z d → v' = v) ∧ (∀ v', s = .lb v' → v' = v) := by
  obtain ⟨o, l, f1, r, e1, e2, h3, kk⟩ := hs.at e
  rw [e'] at e2
  cases e2
  refine ⟨fun v' z d q => ?_, fun v' q => ?_⟩
  · subst q; cases h3; rfl
  · subst q; cases h3; rfl
theorem callCore {ds : M Sl} {dv : List D} {dvs : List V} {ags : List Ag} {vs : List V} {τs τ : L2.St} {δs δ : List Sl} {Q : VK} {E : Er → Env → Prop} {X : XK} (hA : Ags σ vs ags τs δs) (h : Rel K G H σ ρ (τs ++ τ) (δs ++ δ)) (hd : ∀ F, RepL K F dvs dv)
    (hE : ∀ er ρ', E er ρ' → ∀ v H', Rel K G H' σ ρ' (some v :: τ) (.sh er.d :: δ) → XE X H' (He.ga K (en er.c)) (ef er.c) v)
    (w : (callM ds dv ags).wp ρ (fun s ρ' => ∀ v H', Rel K G H' σ ρ' (some v :: τ) (s :: δ) → Q v H') E) : spOf K ds (vs ++ dvs) H Q X := by
  obtain ⟨F, fT, fR, g, ht, hs⟩ := h
  obtain ⟨as, ρ1, fA, fT', fR', q, k1, k2, k3, k4⟩ := lend_out hA ht hs w
  have g1 : Good G F H (fA ++ (fT' ++ fR')) := g.cnt fun a => Nat.le_of_eq (k4 a)
  have here : ∀ a ∈ fT' ++ fR', H a ≠ none := fun a ha => by
    rcases List.mem_append.mp ha with z | z
    · exact k2.here a z
    · exact k3.here a z
  have k5 : Slots K F H ((vs ++ dvs).map some) (as ++ dv.map Sl.sh) fA := by
    rw [List.map_append]
    have : Slots K F H (dvs.map some) (dv.map Sl.sh) [] := by
      have := RepL.slots (K := K) (F := F) (H := H) (τ := []) (δ := []) .nil (hd F)
      rwa [List.append_nil, List.append_nil] at this
    have := k1.app this
    rwa [List.append_nil] at this
  have fin : ∀ (r : Sl) (as' : List Sl) (k : Env → Prop) (v : V) (H' : Hp), backP ρ ags as' ρ1 k → Rel K ⟨H, F, fA⟩ H' ((vs ++ dvs).map some) as' [some v] [r] → ∃ ρ2, k ρ2 ∧ Rel K G H' σ ρ2 (some v :: τ) (r :: δ) := fun r as' k v H' wb hr => by
    obtain ⟨F', g1', g2', gg, hv, hvs⟩ := hr
    have G2 := g1.call gg here
    have hn : ∀ a ∈ fT' ++ fR', H' a = H a := fun a ha => by
      cases e : H a with
      | none => exact absurd e (here a ha)
      | some o => exact gg.frm a o e fun z => (List.nodup_append.mp g1.nd).2.2 a z a ha rfl
    have k2' := k2.mono (F' := F') (H' := H') gg.f0 fun a ha => hn a (List.mem_append_left _ ha)
    have k3' := k3.mono (F' := F') (H' := H') gg.f0 fun a ha => hn a (List.mem_append_right _ ha)
    rw [List.map_append] at hvs
    obtain ⟨ρ2, gb, q2, b1, b2⟩ := lend_back (fun i s v e e' => hs.same e e') hA hvs k3' wb
    refine ⟨ρ2, q2, F', g1' ++ fT', gb, G2.cnt fun a => ?_, ?_, b1⟩
    · have := b2 a
      simp only [List.count_append] at this ⊢
      omega
    · exact hv.app k2'
  refine ⟨F, _, fA, g1.sub, k5, (List.nodup_append.mp g1.nd).1, fun a ha => g1.nf a (List.mem_append_left _ ha), ds.mono (fun r as' wb v H' hr => ?_) (fun er as' wb v H' hr => ?_) q⟩
  · obtain ⟨ρ2, z, hr'⟩ := fin r as' _ v H' wb hr
    exact z v H' hr'
  · obtain ⟨ρ2, z, hr'⟩ := fin _ as' _ v H' wb hr
    exact hE er ρ2 z v H' hr'
def mCall (ds : M Sl) (dv : List D) (l : MB) : ME := l.bind (callM ds dv)
theorem eCall {ds : M Sl} {dv : List D} {dvs : List V} {tl : TA} {ml : MB} (hl : BOk K W tl ml) (hd : ∀ F, RepL K F dvs dv) : EOk K W (Cl.tF (fun vs H Q E => spOf K ds (vs ++ dvs) H Q E) W tl) (mCall ds dv ml) := fun G H σ ρ τ δ Q h w =>
  hl G H σ ρ τ δ _ h (ml.mono (fun ags ρ1 w1 vs H1 τs δs ha h1 => callCore ha h1 hd (fun er ρ' z => z) w1) (fun _ _ z => z) w)
end
end Dl
namespace Dl
open PySem PySem.Spec PyProof.Rows L2
def keepP : List Sl → Env → (List Sl → Prop) → Prop
  | [], _, k => k []
  | .sh d :: as, _ :: ρ, k => keepP as ρ fun l => k (.sh d :: l)
  | .le v _ _ :: as, .le v' s d :: ρ, k => v' = v ∧ keepP as ρ fun l => k (.le v s d :: l)
  | .lb v :: as, .lb v' :: ρ, k => v' = v ∧ keepP as ρ fun l => k (.lb v :: l)
  | _, _, _ => False
theorem keepP_mono : ∀ {as : List Sl} {ρ : Env} {k k' : List Sl → Prop}, (∀ l, k l → k' l) → keepP as ρ k → keepP as ρ k'
  | [], _, _, _, h, w => h _ w
  | a :: as, ρ, k, k', h, w => by
    unfold keepP at w ⊢
    split at w
    · cases ‹a :: as = []›
    · rename_i d as' s ρ' e
      cases e
      exact keepP_mono (as := as) (fun l z => h _ z) w
    · rename_i v z d as' v' z' d' ρ' e
      cases e
      exact ⟨w.1, keepP_mono (as := as) (fun l z => h _ z) w.2⟩
    · rename_i v as' v' ρ' e
      cases e
      exact ⟨w.1, keepP_mono (as := as) (fun l z => h _ z) w.2⟩
    · exact w.elim
def mends (as : List Sl) (Q : Sl → List Sl → Prop) (E : Er → List Sl → Prop) : MEnds := ⟨fun ρ => keepP as ρ (Q (.sh .non)), fun s ρ => keepP as ρ (Q s), fun _ => False, fun _ => False, fun er ρ => keepP as ρ (E er)⟩
def defM (n N : Nat) (m : MS) : M Sl := ⟨fun as Q E => match Nat.beq as.length n with
  | true => m.wp (as ++ List.replicate (N - n) .un) (mends as Q E)
  | false => False, fun {as Q Q' E E'} h h' w => by
    revert w
    split
    · exact fun w => m.mono (M := mends as Q E) (M' := mends as Q' E') ⟨fun r z => keepP_mono (fun l q => h _ _ q) z, fun s r z => keepP_mono (fun l q => h _ _ q) z, fun _ z => z, fun _ z => z, fun e r z => keepP_mono (fun l q => h' _ _ q) z⟩ w
    · exact id⟩
theorem defM_go {n N : Nat} {m : MS} {as : List Sl} {Q : Sl → List Sl → Prop} {E : Er → List Sl → Prop} (w : (defM n N m).wp as Q E) : as.length = n ∧ m.wp (as ++ List.replicate (N - n) .un) (mends as Q E) := by
  unfold defM at w
  simp only at w
  split at w
  · rename_i h
    exact ⟨Nat.eq_of_beq_eq_true h, w⟩
  · exact w.elim
section
variable {K : PySem.W.Frag} {F F' H H' : Hp}
theorem keep_back (l : Le F F') : ∀ {as : List Sl} {vs : List V} {σ : L2.St} {ρ : Env} {fp g : List Addr} {k : List Sl → Prop}, Slots K F H (vs.map some) as fp → Slots K F' H' σ ρ g → keepP as ρ k →
    ∃ as' g', k as' ∧ Slots K F' H' (vs.map some) as' g' ∧ ∀ a, g'.count a ≤ g.count a
  | [], vs, σ, ρ, fp, g, k, hA, hs, w => by
    cases vs with
    | nil => exact ⟨[], [], w, .nil, fun a => by simp⟩
    | cons v vs => cases hA
  | s :: as, vs, σ, ρ, fp, g, k, hA, hs, w => by
    cases vs with
    | nil => cases hA
    | cons v vs =>
      cases hA with
      | cons h1 h2 =>
        unfold keepP at w
        split at w
        · cases ‹s :: as = []›
        · rename_i d as' s' ρ' e
          cases e
          cases hs with
          | cons k1 k2 =>
            obtain ⟨as', g', q, b1, b2⟩ := keep_back l h2 k2 w
            cases h1 with
            | sh r =>
              refine ⟨_, g', q, .cons (f := []) (.sh (r.mono l)) b1, fun a => ?_⟩
              have := b2 a
              simp only [List.count_append] at this ⊢
              omega
        · rename_i v0 z d as' v' z' d' ρ' e
          cases e
          cases hs with
          | cons k1 k2 =>
            obtain ⟨as', g', q, b1, b2⟩ := keep_back l h2 k2 w.2
            have ev := w.1
            subst ev
            cases h1 with
            | le r =>
              cases k1 with
              | le r' =>
                refine ⟨_, _, q, .cons (.le r') b1, fun a => ?_⟩
                have := b2 a
                simp only [List.count_append] at this ⊢
                omega
        · rename_i v0 as' v' ρ' e
          cases e
          cases hs with
          | cons k1 k2 =>
            obtain ⟨as', g', q, b1, b2⟩ := keep_back l h2 k2 w.2
            have ev := w.1
            subst ev
            cases h1 with
            | lb r =>
              cases k1 with
              | lb r' =>
                refine ⟨_, _, q, .cons (.lb r') b1, fun a => ?_⟩
                have := b2 a
                simp only [List.count_append] at this ⊢
                omega
        · exact w.elim
theorem slots_none {n : Nat} : Slots K F H (List.replicate n none) (List.replicate n .un) [] := by
  induction n with
  | zero => exact .nil
  | succ n ih => exact .cons (f := []) .un ih
variable {P : Program} {w : World} {mg : Str → Option Value} {base : Heap} {x qual : Str} {params : Arguments} {body : List Stmt} {scope : Scope} {dvs : List V} {kws : List (Str × V)} {f : Addr} {fd : FuncData}
theorem spOf_len {ds : M Sl} {n : Nat} (hl : ∀ as Q E, ds.wp as Q E → as.length = n) : ∀ vs H Q E, spOf K ds vs H Q E → vs.length = n := fun vs H Q E ⟨F, as, fp, h1, h2, h3, h4, h5⟩ => by
  have := h2.len
  rw [List.length_map] at this
  rw [this]
  exact hl _ _ _ h5
theorem body_ok {ds : M Sl} {N ps : List Str} {m : MS} {t : TS} {vs : List V} {H : Hp} {Q : VK} {E : XK} (hm : ∀ as Q E, ds.wp as Q E → (defM ps.length N.length m).wp as Q E) (h : spOf K ds vs H Q E) (ht : SOk K (fun _ => E) t m) : t { nx := fun _ H' => Q .non H', rt := Q } (L2.start N vs) H := by
  obtain ⟨F, as, fp, h1, h2, h3, h4, h5⟩ := h
  obtain ⟨hn, w⟩ := defM_go (hm as _ _ h5)
  have hl : vs.length = as.length := by have := h2.len; rwa [List.length_map] at this
  have hR : Rel K ⟨H, F, fp⟩ H (L2.start N vs) (as ++ List.replicate (N.length - ps.length) .un) [] [] := by
    refine ⟨F, [], fp, ⟨h1, Le.rfl, fun a e => .inl e, fun a o e _ => e, fun a e => e, fun a ha => .inl ha, h4, h3⟩, .nil, ?_⟩
    unfold L2.start
    rw [hl, hn]
    have := h2.app (slots_none (K := K) (F := F) (H := H) (n := N.length - ps.length))
    rwa [List.append_nil] at this
  have fin : ∀ (s : Sl) (ρ : Env) (k : List Sl → Prop) (v : V) (σ : L2.St) (H' : Hp), keepP as ρ k → Rel K ⟨H, F, fp⟩ H' σ ρ [some v] [s] → ∃ as', k as' ∧ Rel K ⟨H, F, fp⟩ H' (vs.map some) as' [some v] [s] := fun s ρ k v σ H' wk hr => by
    obtain ⟨F', g1, g2, gg, ht, hs⟩ := hr
    obtain ⟨as', g', q, b1, b2⟩ := keep_back gg.f0 h2 hs wk
    refine ⟨as', q, F', g1, g', gg.cnt fun a => ?_, ht, b1⟩
    have := b2 a
    simp only [List.count_append]
    omega
  refine ht ⟨H, F, fp⟩ H _ _ [] [] _ (mends as _ _) hR ⟨fun σ ρ H' hr z => ?_, fun s ρ v σ H' hr z => ?_, fun σ ρ H' hr z => z.elim, fun σ ρ H' hr z => z.elim, fun σ er ρ z v H' hr => ?_⟩ w
  · obtain ⟨as', q, r⟩ := fin (.sh .non) ρ _ .non σ H' z (hr.push rfl)
    exact q _ _ r
  · obtain ⟨as', q, r⟩ := fin _ ρ _ v σ H' z hr
    exact q _ _ r
  · obtain ⟨as', q, r⟩ := fin _ ρ _ v σ H' z hr
    exact q _ _ r
theorem okD {CX : CXT} {ds : M Sl} {N ps : List Str} {k : Nat} {m : MS} (T : FunD K x qual params body scope dvs kws f fd) (S : FnScope N ps scope) (hl : ∀ as Q E, ds.wp as Q E → as.length = ps.length) (hm : ∀ as Q E, ds.wp as Q E → (defM ps.length N.length m).wp as Q E)
    (hbody : ∀ (cdv : Value) (A : Around) (outer : List PySem.Env) (s : Shared) (H : Hp) (E : XK), Room k (A.deeper (envOfC qual scope s.heap.objs.size f cdv)) → ∃ t, PSs (cxOf CX P w K mg base N qual scope f cdv A outer s H E) body t ∧ SOk K (fun _ => E) t m) :
    FnOk P w K mg base CX (k + 1) f fd ps (spOf K ds) :=
  T.ok S (spOf_len hl) fun cdv A outer s H vs Q E hr h => by
    obtain ⟨t, h1, h2⟩ := hbody cdv A outer s H E hr
    exact ⟨t, h1, body_ok hm h h2⟩
theorem defM_len {n N : Nat} {m : MS} : ∀ as Q E, (defM n N m).wp as Q E → as.length = n := fun _ _ _ w => (defM_go w).1
end
section
variable {K : PySem.W.Frag} {W : WS} {ta tb tc : TE} {ma mb mc : ME} {t u : TS} {m k : MS}
theorem Rel.clr {G : Ent} {H : Hp} {σ τ : L2.St} {ρ : Env} {δ : List Sl} {i : Nat} (h : Rel K G H σ ρ τ δ) : Rel K G H (σ.set i none) (ρ.set i .un) τ δ := by
  rcases Nat.lt_or_ge i ρ.length with z | z
  · obtain ⟨F, f1, f2, g, ht, hs⟩ := h
    exact Rel.set (o := none) (s := .un) ⟨F, f1, f2, g, .cons (f := []) .un ht, hs⟩ z
  · rw [List.set_eq_of_length_le z, List.set_eq_of_length_le (by rw [h.len.1]; exact z)]
    exact h
end
end Dl
namespace Dl
open PySem PySem.Spec PyProof.Rows L2
def wipeE (ρ : Env) : List Nat → Env
  | [] => ρ
  | v :: vs => (wipeE ρ vs).set v .un
theorem wipe_at {σ : L2.St} {j : Nat} : ∀ {vs : List Nat}, (wipe σ vs)[j]? = if j ∈ vs ∧ j < σ.length then some none else σ[j]?
  | [] => by simp [wipe]
  | v :: vs => by
    unfold wipe
    by_cases h : v = j
    · subst h
      by_cases hv : v < σ.length
      · rw [List.getElem?_set_self (by rw [wipe_length]; exact hv), if_pos ⟨List.mem_cons_self, hv⟩]
      · rw [List.getElem?_eq_none (by rw [List.length_set, wipe_length]; omega), if_neg (fun z => hv z.2), List.getElem?_eq_none (by omega)]
    · rw [List.getElem?_set_ne h, wipe_at]
      have : (j ∈ v :: vs) ↔ j ∈ vs := by simp [Ne.symm h]
      simp only [this]
theorem wipe_ext {σ σ' : L2.St} {vs : List Nat} (hl : σ'.length = σ.length) (h : ∀ j, j ∉ vs → σ'[j]? = σ[j]?) : wipe σ' vs = wipe σ vs := by
  apply List.ext_getElem?
  intro j
  rw [wipe_at, wipe_at, hl]
  by_cases hj : j ∈ vs
  · by_cases hlt : j < σ.length
    · rw [if_pos ⟨hj, hlt⟩, if_pos ⟨hj, hlt⟩]
    · rw [if_neg (fun z => hlt z.2), if_neg (fun z => hlt z.2), List.getElem?_eq_none (by omega), List.getElem?_eq_none (by omega)]
  · rw [if_neg (fun z => hj z.1), if_neg (fun z => hj z.1), h j hj]
theorem wipe_wipe {σ : L2.St} {vs : List Nat} : wipe (wipe σ vs) vs = wipe σ vs := wipe_ext (wipe_length _ _) fun j hj => by rw [wipe_at, if_neg (fun z => hj z.1)]
theorem wipe_set {σ : L2.St} {vs : List Nat} {i : Nat} {o : Option V} (hi : i ∈ vs) : wipe (σ.set i o) vs = wipe σ vs := wipe_ext (List.length_set) fun j hj => List.getElem?_set_ne (fun (z : i = j) => hj (by rw [← z]; exact hi))
def GW (vs : List Nat) (g : TG) : Prop := ∀ v σ H Q, g v σ H (fun σ' H' => wipe σ' vs = wipe σ vs → Q σ' H') → g v σ H Q
theorem gw_name {vs : List Nat} {i : Nat} (hi : i ∈ vs) : GW vs (gName i) := fun v σ H Q h => h (wipe_set hi)
section
variable {K : PySem.W.Frag} {W W' : WS} {ta tb tc te : TE} {ma mb mc me : ME} {t u : TS} {m k : MS} {tA tt : TT} {mA mt : MT} {tl : TA} {ml : MA}
def GMono (g : TG) : Prop := ∀ v σ H (Q Q' : L2.St → Hp → Prop), (∀ σ' H', Q σ' H' → Q' σ' H') → g v σ H Q → g v σ H Q'
theorem gm_name {i : Nat} : GMono (gName i) := fun v σ H Q Q' h w => h _ _ w
theorem Slots.unAt {F H : Hp} {σ : L2.St} {ρ : Env} {fp : List Addr} {i : Nat} {o o' : Option V} (h : Slots K F H (σ.set i o) ρ fp) (e : ρ[i]? = some .un) : Slots K F H (σ.set i o') ρ fp := by
  obtain ⟨o1, l, f, r, e1, e2, h1, k⟩ := h.at e
  have : f = [] := by cases h1; rfl
  subst this
  have := k o' .un [] .un
  rw [List.set_set] at this
  have eρ : ρ.set i .un = ρ := by
    apply List.ext_getElem?
    intro j
    by_cases hj : j = i
    · subst hj
      rw [e]
      refine List.getElem?_set_self ?_
      rcases Nat.lt_or_ge j ρ.length with z | z
      · exact z
      · rw [List.getElem?_eq_none z] at e; cases e
    · rw [List.getElem?_set_ne (Ne.symm hj)]
  rw [eρ, ← e1] at this
  exact this
theorem wipeE_len (ρ : Env) : ∀ vs : List Nat, (wipeE ρ vs).length = ρ.length
  | [] => rfl
  | v :: vs => by unfold wipeE; rw [List.length_set, wipeE_len ρ vs]
theorem wipeE_un {ρ : Env} {j : Nat} : ∀ {vs : List Nat}, j ∈ vs → j < ρ.length → (wipeE ρ vs)[j]? = some .un
  | v :: vs, h, hl => by
    unfold wipeE
    by_cases e : v = j
    · subst e; exact List.getElem?_set_self (by rw [wipeE_len]; exact hl)
    · rw [List.getElem?_set_ne e]
      exact wipeE_un ((List.mem_cons.mp h).resolve_left (Ne.symm e)) hl
theorem Slots.unwipe {F H : Hp} {σ : L2.St} {ρ : Env} {fp : List Addr} : ∀ {vs : List Nat}, (∀ v ∈ vs, v < ρ.length → ρ[v]? = some .un) → Slots K F H (wipe σ vs) ρ fp → Slots K F H σ ρ fp
  | [], _, h => h
  | v :: vs, hu, h => by
    unfold wipe at h
    refine Slots.unwipe (vs := vs) (fun v' hv => hu v' (List.mem_cons_of_mem _ hv)) ?_
    rcases Nat.lt_or_ge v ρ.length with z | z
    · have := h.unAt (o' := (wipe σ vs)[v]?.getD none) (hu v List.mem_cons_self z)
      have e : (wipe σ vs).set v ((wipe σ vs)[v]?.getD none) = wipe σ vs := by
        have hl := h.len
        rw [List.length_set] at hl
        apply List.ext_getElem?
        intro j
        by_cases hj : j = v
        · subst hj
          rw [List.getElem?_set_self (by omega), List.getElem?_eq_getElem (by omega : j < (wipe σ vs).length)]
          rfl
        · rw [List.getElem?_set_ne (Ne.symm hj)]
      rwa [e] at this
    · rw [List.set_eq_of_length_le (by have hl := h.len; rw [List.length_set] at hl; omega)] at h
      exact h
theorem Rel.wipe {G : Ent} {H : Hp} {σ τ : L2.St} {ρ : Env} {δ : List Sl} (h : Rel K G H σ ρ τ δ) : ∀ vs : List Nat, Rel K G H (L2.wipe σ vs) (wipeE ρ vs) τ δ
  | [] => h
  | v :: vs => (Rel.wipe h vs).clr
theorem Rel.unwipe {G : Ent} {H : Hp} {σ σ2 τ : L2.St} {ρ : Env} {δ : List Sl} {vs : List Nat} (h : Rel K G H σ2 ρ τ δ) (e : L2.wipe σ2 vs = L2.wipe σ vs) : Rel K G H σ (wipeE ρ vs) τ δ := by
  have h2 := h.wipe vs
  rw [e] at h2
  obtain ⟨F, f1, f2, g, ht, hs⟩ := h2
  exact ⟨F, f1, f2, g, ht, hs.unwipe fun v hv hl => wipeE_un hv (by rwa [wipeE_len] at hl)⟩
theorem Rel.unrot {G : Ent} {H : Hp} {σ τ : L2.St} {ρ : Env} {δ : List Sl} {o : Option V} {s : Sl} {τ' : L2.St} {δ' : List Sl} (e : τ'.length = δ'.length) (h : Rel K G H σ ρ (o :: (τ' ++ τ)) (s :: (δ' ++ δ))) : Rel K G H σ ρ (τ' ++ o :: τ) (δ' ++ s :: δ) := by
  obtain ⟨F, f1, f2, g, ht, hs⟩ := h
  cases ht with
  | cons h1 h2 =>
    obtain ⟨fa, fb, rfl, h3, h4⟩ := h2.split e
    exact ⟨F, _, f2, g.cnt (by intro a; simp only [List.count_append]; omega), h3.app (.cons h1 h4), hs⟩
theorem Rel.grow {G : Ent} {H : Hp} {σ τ : L2.St} {ρ : Env} {δ : List Sl} {D0 : Addr} {y : V} {x : D} {acc : List D} (h : Rel K G H σ ρ (some y :: some (.ref D0) :: τ) (.sh x :: .ow (.ol .fr) (.lst acc) :: δ)) :
    ∃ vs, H D0 = some (.lst vs) ∧ vs.length = acc.length ∧ Rel K G (upd H D0 (.lst (vs ++ [y]))) σ ρ (some (.ref D0) :: τ) (.ow (.ol .fr) (.lst (acc ++ [x])) :: δ) := by
  obtain ⟨F, f1, f2, g, ht, hs⟩ := h
  cases ht with
  | cons h1 h2 =>
    cases h1 with
    | sh r =>
      cases h2 with
      | cons h3 h4 =>
        cases h3 with
        | ow q =>
          cases q with
          | @ol _ _ vs _ fp hD rl =>
            rename_i fb
            obtain ⟨rl', rfl⟩ := rl.rep
            have g' : Good G F H (D0 :: (fb ++ f2)) := g
            have hne : ∀ a ∈ fb ++ f2, a ≠ D0 := fun a ha z => (List.nodup_cons.mp g'.nd).1 (z ▸ ha)
            refine ⟨vs, hD, rl'.len, F, D0 :: fb, f2, g'.mut (by simp) _, .cons (f := [D0]) (.ow (.ol upd_same (rl'.app (.cons r .nil)).own)) (h4.mono Le.rfl fun a ha => upd_ne (hne a (List.mem_append_left _ ha))), hs.mono Le.rfl fun a ha => upd_ne (hne a (List.mem_append_right _ ha))⟩
def lcM (vs : List Nat) (g : MG) (c : MT) (e : ME) : List D → List D → Env → (List D → Env → Prop) → (Er → Env → Prop) → Prop
  | [], acc, ρ, Q, _ => Q acc ρ
  | d :: ds, acc, ρ, Q, E => (g (.sh d)).wp (wipeE ρ vs) (fun _ r1 => c.wp r1 (fun b r2 => if b = true then e.wp r2 (fun s r3 => match s with
      | .sh x => acc.length < sizeLine ∧ lcM vs g c e ds (acc ++ [x]) (wipeE r3 vs) Q E
      | _ => False) (fun er r => E er (wipeE r vs)) else lcM vs g c e ds acc (wipeE r2 vs) Q E) (fun er r => E er (wipeE r vs))) (fun _ _ => False)
theorem lcM_mono {vs : List Nat} {g : MG} {c : MT} {e : ME} {Q Q' : List D → Env → Prop} {E E' : Er → Env → Prop} (h : ∀ l r, Q l r → Q' l r) (h' : ∀ er r, E er r → E' er r) : ∀ {ds acc : List D} {ρ : Env}, lcM vs g c e ds acc ρ Q E → lcM vs g c e ds acc ρ Q' E'
  | [], acc, ρ, w => h _ _ w
  | d :: ds, acc, ρ, w => (g (.sh d)).mono (fun _ r1 w1 => c.mono (fun b r2 w2 => by
      cases b with
      | true =>
        refine e.mono (fun s r3 w3 => ?_) (fun er r z => h' _ _ z) w2
        revert w3
        split
        · exact fun w3 => ⟨w3.1, lcM_mono h h' w3.2⟩
        · exact id
      | false => exact lcM_mono h h' w2) (fun er r z => h' _ _ z) w1) (fun _ _ z => z) w
def mLc0 (vs : List Nat) (i : MI) (g : MG) (c : MT) (e : ME) : ME := ⟨fun ρ Q E => i.wp ρ (fun ds r => lcM vs g c e ds [] r (fun acc r => Q (.ow (.ol .fr) (.lst acc)) r) (fun _ _ => False)) E, fun h h' w => i.mono (fun ds r z => lcM_mono (fun _ _ q => h _ _ q) (fun _ _ q => q) z) h' w⟩
theorem lc_core_go {J : It} {g : TG} {mg : MG} {vs : List Nat} {E1 : Er → Env → Prop} {G : Ent} {H1 : Hp} {σ τ τ' : L2.St} {ρ1 : Env} {δ δ' : List Sl} {ds : List D} {Q : VK} (hE : ∀ er r, E1 er r → ∀ v H', Rel K G H' σ r (some v :: τ) (.sh er.d :: δ) → ∀ σ2, XE (W' σ2) H' (He.ga K (en er.c)) (ef er.c) v)
    (hw : GW vs g) (hgm : GMono g) (hg : GOk K g mg) (hc : TOk K W' tt mt) (he : EOk K W' te me) (el : τ'.length = δ'.length) (h1 : Rel K G H1 σ ρ1 (τ' ++ τ) (δ' ++ δ)) (hwk : Walks K G J ds τ' δ')
    (w1 : lcM vs mg mt me ds [] ρ1 (fun acc r => ∀ v H', Rel K G H' σ r (some v :: τ) (.ow (.ol .fr) (.lst acc) :: δ) → Q v H') E1) (A0 : Addr) (hD : H1 A0 = none) :
    ∃ W : Nat → Nat → Hp → Prop, (∃ m, W 0 m (upd H1 A0 (.lst []))) ∧ ∀ i m H, W i m H →
      (J.stop i H ∧ Q (.ref A0) H) ∨ (J.go i H ∧ ∃ Nx : Hp → Prop, (∀ H', Nx H' → ∃ m', m' < m ∧ W (i + 1) m' H') ∧ ∀ x H', J.yld i H x H' → g x (L2.wipe σ vs) H' fun σ2 H2 => L2.wipe σ2 vs = L2.wipe σ vs ∧ tt σ2 H2 fun b H3 =>
        if b = true then te σ2 H3 fun y H4 => ∃ acc, H4 A0 = some (.lst acc) ∧ acc.length < sizeLine ∧ Nx (upd H4 A0 (.lst (acc ++ [y]))) else Nx H3) := by
  have start : Rel K G (upd H1 A0 (.lst [])) σ ρ1 (τ' ++ some (.ref A0) :: τ) (δ' ++ .ow (.ol .fr) (.lst []) :: δ) := by
    have := Rel.lst (K := K) (vs := []) (ds := []) hD rfl h1
    exact Rel.unrot el this
  refine ⟨fun i n H' => n = ds.length - i ∧ i ≤ ds.length ∧ ∃ ρ' acc, Rel K G H' σ ρ' (τ' ++ some (.ref A0) :: τ) (δ' ++ .ow (.ol .fr) (.lst acc) :: δ) ∧ lcM vs mg mt me (ds.drop i) acc ρ' (fun acc r => ∀ v H', Rel K G H' σ r (some v :: τ) (.ow (.ol .fr) (.lst acc) :: δ) → Q v H') E1, ⟨_, rfl, Nat.zero_le _, ρ1, [], start, w1⟩, ?_⟩
  rintro i n H' ⟨rfl, hle, ρ', acc, h2, w2⟩
  by_cases hlt : i < ds.length
  · have hd : ds.drop i = ds[i] :: ds.drop (i + 1) := List.drop_eq_getElem_cons hlt
    rw [hd] at w2
    refine .inr ⟨hwk.go H' σ ρ' _ _ i h2 hlt, fun H2 => ∃ ρ2 acc, Rel K G H2 σ ρ2 (τ' ++ some (.ref A0) :: τ) (δ' ++ .ow (.ol .fr) (.lst acc) :: δ) ∧ lcM vs mg mt me (ds.drop (i + 1)) acc ρ2 (fun acc r => ∀ v H', Rel K G H' σ r (some v :: τ) (.ow (.ol .fr) (.lst acc) :: δ) → Q v H') E1, fun H2 ⟨ρ2, acc2, h3, w3⟩ => ⟨_, by omega, rfl, hlt, ρ2, acc2, h3, w3⟩, fun x H2 y => ?_⟩
    have h3 := hwk.yld H' σ ρ' _ _ i x H2 ds[i] h2 (List.getElem?_eq_getElem hlt) y
    refine hw _ _ _ _ (hg G H2 _ _ _ _ x _ _ (h3.wipe vs) ((mg _).mono (fun _ ρ3 w3 σ3 H3 h4 ew => ?_) (fun _ _ z => z) w2))
    rw [wipe_wipe] at ew
    have drop : ∀ {v : V} {d : D} {ρx : Env} {Hx : Hp} {σx : L2.St}, L2.wipe σx vs = L2.wipe σ vs → Rel K G Hx σx ρx (some v :: (τ' ++ some (.ref A0) :: τ)) (.sh d :: (δ' ++ .ow (.ol .fr) (.lst acc) :: δ)) → Rel K G Hx σ (wipeE ρx vs) (some v :: τ) (.sh d :: δ) := fun ew q => (Rel.dropN el q).drop2.unwipe ew
    refine ⟨ew, hc G H3 σ3 ρ3 _ _ _ h4 (mt.mono (fun b ρ4 w4 H4 h5 => ?_) (fun er ρx z v Hx q => hE _ _ z v Hx (drop ew q) _) w3)⟩
    cases b with
    | false => exact ⟨_, acc, h5.unwipe ew, w4⟩
    | true =>
      refine he G H4 σ3 ρ4 _ _ _ h5 (me.mono (fun s ρ5 w5 v H5 h6 => ?_) (fun er ρx z v Hx q => hE _ _ z v Hx (drop ew q) _) w4)
      split at w5
      · rename_i xd
        have h7 : Rel K G H5 σ3 ρ5 (some v :: some (.ref A0) :: (τ' ++ τ)) (.sh xd :: .ow (.ol .fr) (.lst acc) :: (δ' ++ δ)) := (Rel.rot (τ' := some v :: τ') (δ' := .sh xd :: δ') (by simp [el]) h6).swap
        obtain ⟨us, e1, e2, h8⟩ := h7.grow
        refine ⟨us, e1, by rw [e2]; exact w5.1, _, _, (Rel.unrot el h8).unwipe ew, w5.2⟩
      · exact w5.elim
  · have e : i = ds.length := by omega
    subst e
    rw [List.drop_length] at w2
    refine .inl ⟨hwk.stop H' σ ρ' _ _ h2, w2 _ _ ?_⟩
    exact Rel.dropN el (Rel.rot el h2)
theorem lc_go {wi : TI} {mi : MI} {g : TG} {mg : MG} {vs : List Nat} {E0 : Ent → L2.St → L2.St → List Sl → Er → Env → Prop} (hE : ∀ G σ τ δ er r, E0 G σ τ δ er r → ∀ v H', Rel K G H' σ r (some v :: τ) (.sh er.d :: δ) → ∀ σ2, XE (W' σ2) H' (He.ga K (en er.c)) (ef er.c) v)
    (hi : IOk K W wi mi) (hw : GW vs g) (hgm : GMono g) (hg : GOk K g mg) (hc : TOk K W' tt mt) (he : EOk K W' te me) (G : Ent) (H : Hp) (σ : L2.St) (ρ : Env) (τ : L2.St) (δ : List Sl) (Q : VK) (h : Rel K G H σ ρ τ δ)
    (w : mi.wp ρ (fun ds r => lcM vs mg mt me ds [] r (fun acc r => ∀ v H', Rel K G H' σ r (some v :: τ) (.ow (.ol .fr) (.lst acc) :: δ) → Q v H') (E0 G σ τ δ)) (exQ K W G σ τ δ)) : tLc wi g tt te vs σ H Q :=
  hi G H σ ρ τ δ _ h (mi.mono (fun ds ρ1 w1 J H1 τ' δ' el h1 hwk A0 hD => lc_core_go (hE G σ τ δ) hw hgm hg hc he el h1 hwk w1 A0 hD) (fun _ _ z => z) w)
theorem eLc0 {wi : TI} {mi : MI} {g : TG} {mg : MG} {vs : List Nat} (hi : IOk K W wi mi) (hw : GW vs g) (hgm : GMono g) (hg : GOk K g mg) (hc : TOk K (fun _ _ _ _ => False) tt mt) (he : EOk K (fun _ _ _ _ => False) te me) : EOk K W (tLc wi g tt te vs) (mLc0 vs mi mg mt me) := fun G H σ ρ τ δ Q h w =>
  lc_go (W' := fun _ _ _ _ => False) (E0 := fun _ _ _ _ _ _ => False) (fun _ _ _ _ _ _ z => z.elim) hi hw hgm hg hc he G H σ ρ τ δ Q h w
def mYes : MT := M.ret true
theorem tYes' : TOk K W tYes mYes := fun G H σ ρ τ δ Q h w => w H h
end
end Dl
namespace Dl
open PySem PySem.Spec PyProof.Rows L2
def Sl.own : Sl → Option (Sh × D)
  | .ow z d => some (z, d)
  | .le _ z d => some (z, d)
  | _ => none
def Sl.put : Sl → Sh → D → Sl
  | .le v _ _, z, d => .le v z d
  | _, z, d => .ow z d
section
variable {K : PySem.W.Frag} {W W' : WS} {ta tb tc te tn : TE} {ma mb mc me mn : ME} {t u : TS} {m k : MS} {tA tt : TT} {mA mt : MT} {tl : TA} {ml : MA} {G : Ent} {F H H' : Hp} {σ τ : L2.St} {ρ : Env} {δ : List Sl}
theorem SlV.owns {o : Option V} {s : Sl} {f : List Addr} {z : Sh} {d : D} (h : SlV K F H o s f) (e : s.own = some (z, d)) : ∃ v, o = some v ∧ Own K F H z v d f ∧ ∀ F' H' z' d' f', Own K F' H' z' v d' f' → SlV K F' H' o (s.put z' d') f' := by
  cases h with
  | ow r => cases e; exact ⟨_, rfl, r, fun _ _ _ _ _ q => .ow q⟩
  | le r => cases e; exact ⟨_, rfl, r, fun _ _ _ _ _ q => .le q⟩
  | _ => cases e
theorem set_same {α : Type} {l : List α} {i : Nat} {x : α} (h : l[i]? = some x) : l.set i x = l := by
  apply List.ext_getElem?
  intro j
  by_cases hj : j = i
  · subst hj
    rw [h]
    refine List.getElem?_set_self ?_
    rcases Nat.lt_or_ge j l.length with z | z
    · exact z
    · rw [List.getElem?_eq_none z] at h; cases h
  · rw [List.getElem?_set_ne (Ne.symm hj)]
theorem Rel.own {i : Nat} {s : Sl} {z : Sh} {d : D} (h : Rel K G H σ ρ τ δ) (e : ρ[i]? = some s) (eo : s.own = some (z, d)) : ∃ F f1 v f, Slots K F H τ δ f1 ∧ Le F H ∧ σ[i]? = some (some v) ∧ Own K F H z v d f ∧ (∀ u x, Rep K F u x → Rel K G H σ ρ (some u :: τ) (.sh x :: δ)) ∧
    (∀ a o z' d' f', a ∈ f → Own K F (upd H a o) z' v d' f' → (∀ b, f'.count b ≤ f.count b) → Rel K G (upd H a o) σ (ρ.set i (s.put z' d')) τ δ) := by
  obtain ⟨F, f1, f2, g, ht, hs⟩ := h
  obtain ⟨o, l, f, r, e1, e2, h1, k⟩ := hs.at e
  obtain ⟨v, rfl, q, kk⟩ := h1.owns eo
  subst e1
  refine ⟨F, f1, v, f, ht, g.sub, e2, q, fun u x r => ⟨F, f1, _, g, .cons (f := []) (.sh r) ht, hs⟩, fun a o z' d' f' ha q' hc => ?_⟩
  have hnd : ∀ b ∈ f1 ++ (l ++ r), b ≠ a := fun b hb eb => by
    subst eb
    have c1 := List.nodup_iff_count.mp g.nd b
    have c2 := List.count_pos_iff.mpr ha
    have c3 := List.count_pos_iff.mpr hb
    simp only [List.count_append] at c1 c3
    omega
  have g1 := g.mut (a := a) (List.mem_append_right _ (List.mem_append_right _ (List.mem_append_left _ ha))) o
  have h0 := (k (some v) .un [] .un).mono (F' := F) (H' := upd H a o) Le.rfl fun b hb => upd_ne (hnd b (List.mem_append_right _ (by simpa using hb)))
  rw [set_same e2] at h0
  have hlt : i < ρ.length := by
    rcases Nat.lt_or_ge i ρ.length with z | z
    · exact z
    · rw [List.getElem?_eq_none z] at e; cases e
  obtain ⟨o2, l2, f2, r2, e12, e22, h12, k2⟩ := h0.at (i := i) (s := .un) (by rw [List.getElem?_set_self hlt])
  have : f2 = [] := by cases h12; rfl
  subst this
  have h3 := k2 (some v) _ f' (kk F (upd H a o) z' d' f' q')
  rw [set_same e2, List.set_set] at h3
  refine ⟨F, f1, _, g1.cnt fun b => ?_, ht.mono Le.rfl fun b hb => upd_ne (hnd b (List.mem_append_left _ hb)), h3⟩
  have c1 := hc b
  have c2 : (l ++ ([] ++ r)).count b = (l2 ++ ([] ++ r2)).count b := by rw [e12]
  simp only [List.count_append, List.count_nil] at c1 c2 ⊢
  omega
def sp_take : Sp := fun vs H Q _ => ∃ (b c : Addr) (n : Int), vs = [.ref b, .int n] ∧ Bx H b c ∧ 0 < n ∧ n.natAbs < 2 ^ 9000 ∧ ∀ (k : Int) (o : HO), 0 ≤ k → k < n → Bx (upd H b o) b c → Q (.int k) (upd H b o)
def Sl.isBx : Sl → Bool
  | .bx => true
  | .lb _ => true
  | _ => false
def atBx {α : Type} (i : Nat) (m : M α) : M α := ⟨fun ρ Q E => match ρ[i]? with
  | some .bx => m.wp ρ Q E
  | some (.lb _) => m.wp ρ Q E
  | _ => False, fun {ρ Q Q' E E'} h h' w => by
    revert w
    split
    · exact fun w => m.mono h h' w
    · exact fun w => m.mono h h' w
    · exact id⟩
theorem atBx_go {α : Type} {i : Nat} {m : M α} {ρ : Env} {Q : α → Env → Prop} {E : Er → Env → Prop} (w : (atBx i m).wp ρ Q E) : ∃ s, ρ[i]? = some s ∧ s.isBx = true ∧ m.wp ρ Q E := by
  unfold atBx at w
  simp only at w
  split at w
  · exact ⟨_, by assumption, rfl, w⟩
  · exact ⟨_, by assumption, rfl, w⟩
  · exact w.elim
def drawM : Sl → ME := fun s => ⟨fun ρ Q _ => match s with
  | .sh (.int n) => (0 < n ∧ n.natAbs < 2 ^ 9000) ∧ ∀ k : Int, 0 ≤ k → k < n → Q (.sh (.int k)) ρ
  | _ => False, fun {ρ Q Q' E E'} h _ w => by
    revert w
    split
    · exact fun w => ⟨w.1, fun k h1 h2 => h _ _ (w.2 k h1 h2)⟩
    · exact id⟩
def mTake (i : Nat) (n : ME) : ME := atBx i (n.bind fun s => atBx i (drawM s))
theorem Rel.box {i : Nat} {s : Sl} (h : Rel K G H σ ρ τ δ) (e : ρ[i]? = some s) (eb : s.isBx = true) : ∃ b c, σ[i]? = some (some (.ref b)) ∧ Bx H b c ∧ ∀ o, Bx (upd H b o) b c → Rel K G (upd H b o) σ ρ τ δ := by
  obtain ⟨F, f1, f2, g, ht, hs⟩ := h
  obtain ⟨o, l, f, r, e1, e2, h1, k⟩ := hs.at e
  have key : ∃ b c, o = some (.ref b) ∧ f = [b, c] ∧ Bx H b c ∧ ∀ H', Bx H' b c → SlV K F H' o s f := by
    cases h1 with
    | @bx b c r => exact ⟨b, c, rfl, rfl, r, fun _ q => .bx q⟩
    | @lb b c r => exact ⟨b, c, rfl, rfl, r, fun _ q => .lb q⟩
    | _ => cases eb
  obtain ⟨b, c, rfl, rfl, hB, kk⟩ := key
  subst e1
  refine ⟨b, c, e2, hB, fun o hB' => ?_⟩
  have hnd : ∀ a ∈ f1 ++ (l ++ r), a ≠ b := fun a ha eb => by
    subst eb
    have c1 := List.nodup_iff_count.mp g.nd a
    have c3 := List.count_pos_iff.mpr ha
    simp only [List.count_append, List.count_cons, beq_self_eq_true, if_true] at c1 c3
    omega
  have g1 := g.mut (a := b) (by simp) o
  have h0 := (k (some (.ref b)) .un [] .un).mono (F' := F) (H' := upd H b o) Le.rfl fun a ha => upd_ne (hnd a (List.mem_append_right _ (by simpa using ha)))
  rw [set_same e2] at h0
  have hlt : i < ρ.length := by
    rcases Nat.lt_or_ge i ρ.length with z | z
    · exact z
    · rw [List.getElem?_eq_none z] at e; cases e
  obtain ⟨o2, l2, f2, r2, e12, e22, h12, k2⟩ := h0.at (i := i) (s := .un) (by rw [List.getElem?_set_self hlt])
  have : f2 = [] := by cases h12; rfl
  subst this
  have h3 := k2 (some (.ref b)) s [b, c] (kk _ hB')
  rw [set_same e2, List.set_set, set_same e] at h3
  refine ⟨F, f1, _, g1.cnt fun a => ?_, ht.mono Le.rfl fun a ha => upd_ne (hnd a (List.mem_append_left _ ha)), h3⟩
  have c2 : (l ++ ([] ++ r)).count a = (l2 ++ ([] ++ r2)).count a := by rw [e12]
  simp only [List.count_append, List.count_nil] at c2 ⊢
  omega
theorem eTake {i : Nat} (hn : EOk K W tn mn) : EOk K W (Cl.tF (fun vs H Q E => sp_take (vs ++ []) H Q E) W (tCons (tVar i) (tCons tn tNil))) (mTake i mn) := fun G H σ ρ τ δ Q h w => by
  obtain ⟨s0, e0, eb0, w⟩ := atBx_go w
  obtain ⟨b0, c0, e, _⟩ := h.box e0 eb0
  refine ⟨_, e, hn G H σ ρ τ δ _ h (mn.mono (fun s ρ1 w1 u H1 h1 => ?_) (fun _ _ z => z) w)⟩
  obtain ⟨s1, e1, eb1, w2⟩ := atBx_go w1
  clear w1
  unfold drawM at w2
  simp only at w2
  split at w2
  · rename_i n
    obtain ⟨b', c, e2, hB, kb⟩ := h1.pop.box e1 eb1
    rw [e] at e2
    cases e2
    obtain rfl := h1.topv (u := .int n) rfl
    exact ⟨b0, c, n, rfl, hB, w2.1.1, w2.1.2, fun k o k0 k1 hB' => w2.2 k k0 k1 _ _ ((kb o hB').push rfl)⟩
  · exact w2.elim
def sp_box (K : PySem.W.Frag) : Sp := fun vs H Q _ => ∃ (a : Addr) (ns : List Int), vs = [.ref a] ∧ SqL K H a (ns.map V.int) ∧ ∀ (H' : Hp) (b c : Addr), Same H H' → H b = none → H c = none → Bx H' b c → Q (.ref b) H'
def boxM : Sl → ME
  | .sh .scr => M.ret .bx
  | _ => M.stuck
def mBox (a : ME) : ME := a.bind boxM
theorem Bx.ne {b c : Addr} (h : Bx H b c) : c ≠ b := by
  obtain ⟨cs, i, r, s, h1, h2, _⟩ := h
  refine ne_of h2 h1 fun z => ?_
  have z2 : cs.map V.int = [.ref c, .int i, .int r, .int s] := by injection z
  cases cs with
  | nil => cases z2
  | cons a l => cases z2
theorem Good.grow {fp fn : List Addr} (g : Good G F H fp) (s : Same H H') (here : ∀ a ∈ fp, H a ≠ none) (hf : ∀ a ∈ fn, H a = none) (nd : fn.Nodup) : Good G F H' (fn ++ fp) := by
  refine ⟨fun a o e => s _ _ (g.sub a o e), g.f0, g.fN, fun a o e hn => s _ _ (g.frm a o e hn), fun a e => ?_, fun a ha => ?_, fun a ha => ?_, List.nodup_append.mpr ⟨nd, g.nd, fun a ha b hb e => here b hb (by rw [← e]; exact hf a ha)⟩⟩
  · cases q : H a with
    | none => exact absurd q (g.all a e)
    | some o => rw [s _ _ q]; intro z; cases z
  · rcases List.mem_append.mp ha with z | z
    · refine .inr ?_
      cases q : G.H a with
      | none => rfl
      | some o => exact absurd (hf a z) (g.all a (by rw [q]; intro z; cases z))
    · exact g.own a z
  · rcases List.mem_append.mp ha with z | z
    · cases q : F a with
      | none => rfl
      | some o => have := g.sub a o q; rw [hf a z] at this; cases this
    · exact g.nf a z
theorem eBox (ha : EOk K W ta ma) : EOk K W (Cl.tF (fun vs H Q E => sp_box K (vs ++ []) H Q E) W (tCons ta tNil)) (mBox ma) := fun G H σ ρ τ δ Q h w =>
  ha G H σ ρ τ δ _ h (ma.mono (fun s ρ1 w1 v H1 h1 => by
    unfold boxM at w1
    split at w1
    · obtain ⟨F, f1, f2, g, ht, hs⟩ := h1
      cases ht with
      | cons q1 q2 =>
        cases q1 with
        | sh r =>
          cases r with
          | @scr a ns hsq =>
            rename_i fb
            refine ⟨a, ns, rfl, sql_mono g.sub hsq, fun H' b c s nb nc hB => w1 _ _ ?_⟩
            have hin : ∀ a ∈ fb ++ f2, H1 a ≠ none := fun a ha => by
              rcases List.mem_append.mp ha with z | z
              · exact q2.here a z
              · exact hs.here a z
            have hn : ∀ a ∈ fb ++ f2, H' a = H1 a := fun a ha => by
              cases q : H1 a with
              | none => exact absurd q (hin a ha)
              | some o => exact s _ _ q
            have g1 := Good.grow (fp := fb ++ f2) (fn := [b, c]) g s hin (fun a ha => by
              rcases List.mem_cons.mp ha with rfl | ha
              · exact nb
              · rw [List.mem_singleton.mp ha]; exact nc) (by simp [Ne.symm hB.ne])
            exact ⟨F, b :: c :: fb, f2, g1, .cons (f := [b, c]) (.bx hB) (q2.mono Le.rfl fun a ha => hn a (List.mem_append_left _ ha)), hs.mono Le.rfl fun a ha => hn a (List.mem_append_right _ ha)⟩
    · exact w1.elim) (fun _ _ z => z) w)
def atOwn {α : Type} (i : Nat) (k : Sl → Sh → D → M α) : M α := ⟨fun ρ Q E => match ρ[i]? with
  | some (.ow z d) => (k (.ow z d) z d).wp ρ Q E
  | some (.le v z d) => (k (.le v z d) z d).wp ρ Q E
  | _ => False, fun {ρ Q Q' E E'} h h' w => by
    revert w
    split
    · exact fun w => (k _ _ _).mono h h' w
    · exact fun w => (k _ _ _).mono h h' w
    · exact id⟩
theorem atOwn_go {α : Type} {i : Nat} {k : Sl → Sh → D → M α} {ρ : Env} {Q : α → Env → Prop} {E : Er → Env → Prop} (w : (atOwn i k).wp ρ Q E) : ∃ s z d, ρ[i]? = some s ∧ s.own = some (z, d) ∧ (k s z d).wp ρ Q E := by
  unfold atOwn at w
  simp only at w
  split at w
  · exact ⟨_, _, _, by assumption, rfl, w⟩
  · exact ⟨_, _, _, by assumption, rfl, w⟩
  · exact w.elim
def ownL {α : Type} (i : Nat) (f : List D → Option (Prop × List D × α)) : M α := atOwn i fun s z d => ⟨fun ρ Q _ => match z, d with
  | .ol .fr, .lst ds => match f ds with
    | some (p, ds', a) => p ∧ Q a (ρ.set i (s.put (.ol .fr) (.lst ds')))
    | none => False
  | _, _ => False, fun {ρ Q Q' E E'} h h' w => by
    revert w
    split
    · split
      · exact fun w => ⟨w.1, h _ _ w.2⟩
      · exact id
    · exact id⟩
theorem ownL_go {α : Type} {i : Nat} {f : List D → Option (Prop × List D × α)} {ρ : Env} {Q : α → Env → Prop} {E : Er → Env → Prop} (w : (ownL i f).wp ρ Q E) : ∃ s ds p ds' a, ρ[i]? = some s ∧ s.own = some (.ol .fr, .lst ds) ∧ f ds = some (p, ds', a) ∧ p ∧ Q a (ρ.set i (s.put (.ol .fr) (.lst ds'))) := by
  obtain ⟨s, z, d, e, eo, w⟩ := atOwn_go w
  simp only at w
  split at w
  · split at w
    · exact ⟨_, _, _, _, _, e, eo, by assumption, w.1, w.2⟩
    · exact w.elim
  · exact w.elim
theorem Rel.ownL {i : Nat} {s : Sl} {ds : List D} (h : Rel K G H σ ρ τ δ) (e : ρ[i]? = some s) (eo : s.own = some (.ol .fr, .lst ds)) : ∃ F f1 l vs, Slots K F H τ δ f1 ∧ Le F H ∧ σ[i]? = some (some (.ref l)) ∧ H l = some (.lst vs) ∧ RepL K F vs ds ∧ (∀ u x, Rep K F u x → Rel K G H σ ρ (some u :: τ) (.sh x :: δ)) ∧
    (∀ vs' ds', RepL K F vs' ds' → Rel K G (upd H l (.lst vs')) σ (ρ.set i (s.put (.ol .fr) (.lst ds'))) τ δ) := by
  obtain ⟨F, f1, v, f, ht, hl, e1, q, kv, k⟩ := h.own e eo
  cases q with
  | @ol _ l vs _ fp hh rl =>
    obtain ⟨rl', rfl⟩ := rl.rep
    exact ⟨F, f1, l, vs, ht, hl, e1, hh, rl', kv, fun vs' ds' r' => k l _ _ _ [l] (by simp) (.ol upd_same r'.own) (fun _ => Nat.le_refl _)⟩
def isOwnL (i : Nat) (m : ME) : ME := atOwn i fun _ z d => match z, d with
  | .ol .fr, .lst _ => m
  | _, _ => M.stuck
theorem isOwnL_go {i : Nat} {m : ME} {ρ : Env} {Q : Sl → Env → Prop} {E : Er → Env → Prop} (w : (isOwnL i m).wp ρ Q E) : ∃ s ds, ρ[i]? = some s ∧ s.own = some (.ol .fr, .lst ds) ∧ m.wp ρ Q E := by
  obtain ⟨s, z, d, e, eo, w⟩ := atOwn_go w
  split at w
  · exact ⟨s, _, e, eo, w⟩
  · exact w.elim
def mApp (i : Nat) (e : ME) : ME := isOwnL i (e.bind fun s => match s with
  | .sh x => ownL i fun ds => some (ds.length < sizeLine, ds ++ [x], .sh .non)
  | _ => M.stuck)
theorem eApp {i : Nat} (he : EOk K W te me) : EOk K W (tBM K "list" rAppend (tVar i) (tCons te tNil)) (mApp i me) := fun G H σ ρ τ δ Q h w => by
  obtain ⟨s0, ds0, e0, eo0, w⟩ := isOwnL_go w
  obtain ⟨F, f1, l, vs, ht, hl, e1, hh, rl, kv, k⟩ := h.ownL e0 eo0
  refine ⟨_, e1, Or.inl ⟨rfl, _, SqL.of hh⟩, he G H σ ρ τ δ _ h (me.mono (fun s ρ1 w1 v H1 h1 => ?_) (fun _ _ z => z) w)⟩
  simp only at w1
  split at w1
  · rename_i x
    obtain ⟨s1, ds, p, ds', a, e2, eo, ef, hp, q⟩ := ownL_go w1
    cases ef
    obtain ⟨F2, f2, l2, vs2, ht2, hl2, e3, hh2, rl2, kv2, k2⟩ := h1.ownL e2 eo
    rw [e1] at e3
    cases e3
    cases ht2 with
    | cons q1 q2 =>
      cases q1 with
      | sh r =>
        have := (k2 _ _ (rl2.app (.cons r .nil))).pop
        exact ⟨l, vs2, v, rfl, rfl, hh2, by rw [rl2.len]; exact hp, q _ _ (this.push rfl)⟩
  · exact w1.elim
end
end Dl
namespace Dl
open PySem PySem.Spec PyProof.Rows L2
section
variable {K : PySem.W.Frag} {W W' : WS} {ta tb tc te tn tv : TE} {ma mb mc me mn mv : ME} {t u : TS} {m k : MS} {tA tt : TT} {mA mt : MT} {tl : TA} {ml : MA} {G : Ent} {F H H' : Hp} {σ τ : L2.St} {ρ : Env} {δ : List Sl}
theorem Rel.own1 {i : Nat} {s sv : Sl} {o0 : Option V} {z : Sh} {d : D} (h : Rel K G H σ ρ (o0 :: τ) (sv :: δ)) (e : ρ[i]? = some s) (eo : s.own = some (z, d)) : ∃ F f0 v f, SlV K F H o0 sv f0 ∧ Le F H ∧ σ[i]? = some (some v) ∧ Own K F H z v d f ∧ (∀ a ∈ f, a ∉ f0) ∧ f.Nodup ∧
    (∀ a o z' d' f', a ∈ f → Own K F (upd H a o) z' v d' f' → (∀ b, f'.count b ≤ f0.count b + f.count b) → Rel K G (upd H a o) σ (ρ.set i (s.put z' d')) τ δ) := by
  obtain ⟨F, f1, f2, g, ht, hs⟩ := h
  cases ht with
  | cons h0 h2 =>
    rename_i f0 fb
    obtain ⟨o, l, f, r, e1, e2, h1, k⟩ := hs.at e
    obtain ⟨v, rfl, q, kk⟩ := h1.owns eo
    subst e1
    have hdis : ∀ a ∈ f, a ∉ f0 := fun a ha ha0 => by
      have c1 := List.nodup_iff_count.mp g.nd a
      have c2 := List.count_pos_iff.mpr ha
      have c3 := List.count_pos_iff.mpr ha0
      simp only [List.count_append] at c1
      omega
    have hfn : f.Nodup := List.nodup_iff_count.mpr fun a => by
      have c1 := List.nodup_iff_count.mp g.nd a
      simp only [List.count_append] at c1
      omega
    refine ⟨F, f0, v, f, h0, g.sub, e2, q, hdis, hfn, fun a o z' d' f' ha q' hc => ?_⟩
    have hnd : ∀ b ∈ fb ++ (l ++ r), b ≠ a := fun b hb eb => by
      subst eb
      have c1 := List.nodup_iff_count.mp g.nd b
      have c2 := List.count_pos_iff.mpr ha
      have c3 := List.count_pos_iff.mpr hb
      simp only [List.count_append] at c1 c3
      omega
    have g1 := g.mut (a := a) (List.mem_append_right _ (List.mem_append_right _ (List.mem_append_left _ ha))) o
    have h0' := (k (some v) .un [] .un).mono (F' := F) (H' := upd H a o) Le.rfl fun b hb => upd_ne (hnd b (List.mem_append_right _ (by simpa using hb)))
    rw [set_same e2] at h0'
    have hlt : i < ρ.length := by
      rcases Nat.lt_or_ge i ρ.length with z | z
      · exact z
      · rw [List.getElem?_eq_none z] at e; cases e
    obtain ⟨o2, l2, f2, r2, e12, e22, h12, k2⟩ := h0'.at (i := i) (s := .un) (by rw [List.getElem?_set_self hlt])
    have : f2 = [] := by cases h12; rfl
    subst this
    have h3 := k2 (some v) _ f' (kk F (upd H a o) z' d' f' q')
    rw [set_same e2, List.set_set] at h3
    refine ⟨F, fb, _, g1.cnt fun b => ?_, h2.mono Le.rfl fun b hb => upd_ne (hnd b (List.mem_append_left _ hb)), h3⟩
    have c1 := hc b
    have c2 : (l ++ ([] ++ r)).count b = (l2 ++ ([] ++ r2)).count b := by rw [e12]
    simp only [List.count_append, List.count_nil] at c1 c2 ⊢
    omega
theorem OwnF.app {ss ss' : List Sh} {vs vs' : List V} {ds ds' : List D} {fp fp' : List Addr} (h : OwnF K F H ss vs ds fp) (h' : OwnF K F H ss' vs' ds' fp') : OwnF K F H (ss ++ ss') (vs ++ vs') (ds ++ ds') (fp ++ fp') := by
  match h with
  | .nil => exact h'
  | .cons q r => rw [List.append_assoc]; exact .cons q (OwnF.app r h')
theorem OwnF.len : ∀ {ss : List Sh} {vs : List V} {ds : List D} {fp : List Addr}, OwnF K F H ss vs ds fp → vs.length = ds.length ∧ ss.length = ds.length
  | _, _, _, _, .nil => ⟨rfl, rfl⟩
  | _, _, _, _, .cons _ r => by
    obtain ⟨a, b⟩ := OwnF.len r
    exact ⟨by simp [a], by simp [b]⟩
mutual
/-- no address is within -/
def Sh.clean : Sh → D → Bool
  | .fr, d => d.flat
  | .ol s, .lst ds => Sh.cleanL s ds
  | .oo ss, .obj _ ds => Sh.cleanF ss ds
  | .ot ss, .tup ds => Sh.cleanF ss ds
  | .oh ss, .lst ds => Sh.cleanF ss ds
  | _, _ => false
def Sh.cleanL : Sh → List D → Bool
  | _, [] => true
  | s, d :: ds => Sh.clean s d && Sh.cleanL s ds
def Sh.cleanF : List Sh → List D → Bool
  | [], [] => true
  | s :: ss, d :: ds => Sh.clean s d && Sh.cleanF ss ds
  | _, _ => false
end
theorem Rep.flatAny {v : V} {d : D} {F' : Hp} (h : Rep K F v d) (f : d.flat = true) : Rep K F' v d := by
  cases h with
  | non => exact .non
  | bl b => exact .bl b
  | int i => exact .int i
  | str x => exact .str x
  | _ => cases f
mutual
theorem Own.clean {F' : Hp} : ∀ {z : Sh} {v : V} {d : D} {fp : List Addr}, Own K F H z v d fp → Sh.clean z d = true → Own K F' H z v d fp
  | _, _, _, _, .fr r, e => .fr (r.flatAny (by unfold Sh.clean at e; exact e))
  | _, _, _, _, .ol h r, e => .ol h (OwnL.clean r (by unfold Sh.clean at e; exact e))
  | _, _, _, _, .od h r, e => by unfold Sh.clean at e; cases e
  | _, _, _, _, .ot h r, e => .ot h (OwnF.clean r (by unfold Sh.clean at e; exact e))
  | _, _, _, _, .ft h r, e => by unfold Sh.clean at e; cases e
  | _, _, _, _, .oh h r, e => .oh h (OwnF.clean r (by unfold Sh.clean at e; exact e))
  | _, _, _, _, .oo h h' n r, e => .oo h h' n (OwnF.clean r (by unfold Sh.clean at e; exact e))
theorem OwnL.clean {F' : Hp} : ∀ {z : Sh} {v : List V} {d : List D} {fp : List Addr}, OwnL K F H z v d fp → Sh.cleanL z d = true → OwnL K F' H z v d fp
  | _, _, _, _, .nil, _ => .nil
  | _, _, _, _, .cons h r, e => by
    unfold Sh.cleanL at e
    rw [Bool.and_eq_true] at e
    exact .cons (Own.clean h e.1) (OwnL.clean r e.2)
theorem OwnF.clean {F' : Hp} : ∀ {z : List Sh} {v : List V} {d : List D} {fp : List Addr}, OwnF K F H z v d fp → Sh.cleanF z d = true → OwnF K F' H z v d fp
  | _, _, _, _, .nil, _ => .nil
  | _, _, _, _, .cons h r, e => by
    unfold Sh.cleanF at e
    rw [Bool.and_eq_true] at e
    exact .cons (Own.clean h e.1) (OwnF.clean r e.2)
end
def Sl.clean : Sl → Bool
  | .sh d => d.flat
  | .ow z d => Sh.clean z d
  | _ => false
theorem SlV.clean {F' : Hp} {o : Option V} {s : Sl} {f : List Addr} (h : SlV K F H o s f) (e : s.clean = true) : SlV K F' H o s f := by
  cases h with
  | sh r => exact .sh (r.flatAny e)
  | ow r => exact .ow (r.clean e)
  | _ => cases e
def Sl.bz : Sl → Sl
  | .ow _ d => .sh d
  | .le _ _ d => .sh d
  | .sh d => .sh d
  | _ => .un
theorem SlV.bz {F' : Hp} {o : Option V} {s : Sl} {fp : List Addr} (l : Le F F') (e : ∀ a ∈ fp, F' a = H a) (h : SlV K F H o s fp) : SlV K F' H o s.bz [] := by
  cases h with
  | sh r => exact .sh (r.mono l)
  | ow r => exact .sh (r.fz l e)
  | le r => exact .sh (r.fz l e)
  | _ => exact .un
theorem Slots.bz {F' : Hp} {fp : List Addr} (l : Le F F') (e : ∀ a ∈ fp, F' a = H a) (h : Slots K F H σ ρ fp) : Slots K F' H σ (ρ.map Sl.bz) [] := by
  induction h with
  | nil => exact .nil
  | cons h r ih => exact .cons (f := []) (h.bz l fun a ha => e a (List.mem_append_left _ ha)) (ih fun a ha => e a (List.mem_append_right _ ha))
def mBor (m : ME) : ME := ⟨fun ρ Q E => m.wp (ρ.map Sl.bz) (fun s _ => s.clean = true ∧ Q s ρ) (fun er _ => er.d.flat = true ∧ E er ρ), fun h h' w => m.mono (fun s r z => ⟨z.1, h _ _ z.2⟩) (fun er r z => ⟨z.1, h' _ _ z.2⟩) w⟩
theorem eBor {t : TE} (ht : EOk K W t ma) : EOk K W t (mBor ma) := fun G H σ ρ τ δ Q h w => by
  obtain ⟨F, f1, f2, g, hτ, hs⟩ := h
  have hf : ∀ a ∈ f1 ++ f2, F a = none := g.nf
  have l := fzH_le (H := H) hf
  have g' : Good ⟨H, fzH F H (f1 ++ f2), []⟩ (fzH F H (f1 ++ f2)) H ([] ++ []) := ⟨fun a o e => by
    by_cases z : a ∈ f1 ++ f2
    · rw [fzH_in z] at e; exact e
    · rw [fzH_out z] at e; exact g.sub a o e, Le.rfl, fun a e => .inl e, fun a o e _ => e, fun a e => e, fun a ha => (by cases ha), fun a ha => (by cases ha), List.nodup_nil⟩
  have hin : ∀ a ∈ f1 ++ f2, H a ≠ none := fun a ha => by
    rcases List.mem_append.mp ha with z | z
    · exact hτ.here a z
    · exact hs.here a z
  have hR : Rel K ⟨H, fzH F H (f1 ++ f2), []⟩ H σ (ρ.map Sl.bz) τ (δ.map Sl.bz) := ⟨_, [], [], g', hτ.bz l fun a ha => fzH_in (List.mem_append_left _ ha), hs.bz l fun a ha => fzH_in (List.mem_append_right _ ha)⟩
  have back : ∀ (s : Sl) (ρ' : Env) (v : V) (H' : Hp), s.clean = true → Rel K ⟨H, fzH F H (f1 ++ f2), []⟩ H' σ ρ' (some v :: τ) (s :: δ.map Sl.bz) → Rel K G H' σ ρ (some v :: τ) (s :: δ) := fun s ρ' v H' hc hr => by
    obtain ⟨F', g1, g2, gg, ht, _⟩ := hr
    cases ht with
    | cons q1 q2 =>
      rename_i fa fb
      have hsame : Same H H' := fun a o e => gg.frm a o e (by simp)
      have hn : ∀ a ∈ f1 ++ f2, H' a = H a := fun a ha => by
        cases q : H a with
        | none => exact absurd q (hin a ha)
        | some o => exact hsame _ _ q
      have gn := g.grow (fn := fa) hsame hin (fun a ha => by
        rcases gg.own a (List.mem_append_left _ (List.mem_append_left _ ha)) with z | z
        · cases z
        · exact z) (by
        have := gg.nd
        rw [List.append_assoc] at this
        exact (List.nodup_append.mp this).1)
      rw [← List.append_assoc] at gn
      exact ⟨F, fa ++ f1, f2, gn, .cons (q1.clean hc) (hτ.mono Le.rfl fun a ha => hn a (List.mem_append_left _ ha)), hs.mono Le.rfl fun a ha => hn a (List.mem_append_right _ ha)⟩
  exact ht _ H σ _ τ _ Q hR (ma.mono (fun s ρ' z v H' q => z.2 v H' (back s ρ' v H' z.1 q)) (fun er ρ' z v H' q => z.2 v H' (back (.sh er.d) ρ' v H' z.1 q)) w)
def tBorM (m : MT) : MT := ⟨fun ρ Q E => m.wp (ρ.map Sl.bz) (fun s _ => Q s ρ) (fun er _ => er.d.flat = true ∧ E er ρ), fun h h' w => m.mono (fun s r z => h _ _ z) (fun er r z => ⟨z.1, h' _ _ z.2⟩) w⟩
theorem tBor {t : TT} (ht : TOk K W t mA) : TOk K W t (tBorM mA) := fun G H σ ρ τ δ Q h w => by
  obtain ⟨F, f1, f2, g, hτ, hs⟩ := h
  have hf : ∀ a ∈ f1 ++ f2, F a = none := g.nf
  have l := fzH_le (H := H) hf
  have g' : Good ⟨H, fzH F H (f1 ++ f2), []⟩ (fzH F H (f1 ++ f2)) H ([] ++ []) := ⟨fun a o e => by
    by_cases z : a ∈ f1 ++ f2
    · rw [fzH_in z] at e; exact e
    · rw [fzH_out z] at e; exact g.sub a o e, Le.rfl, fun a e => .inl e, fun a o e _ => e, fun a e => e, fun a ha => (by cases ha), fun a ha => (by cases ha), List.nodup_nil⟩
  have hin : ∀ a ∈ f1 ++ f2, H a ≠ none := fun a ha => by
    rcases List.mem_append.mp ha with z | z
    · exact hτ.here a z
    · exact hs.here a z
  have hR : Rel K ⟨H, fzH F H (f1 ++ f2), []⟩ H σ (ρ.map Sl.bz) τ (δ.map Sl.bz) := ⟨_, [], [], g', hτ.bz l fun a ha => fzH_in (List.mem_append_left _ ha), hs.bz l fun a ha => fzH_in (List.mem_append_right _ ha)⟩
  have back : ∀ (s : Sl) (ρ' : Env) (v : V) (H' : Hp), s.clean = true → Rel K ⟨H, fzH F H (f1 ++ f2), []⟩ H' σ ρ' (some v :: τ) (s :: δ.map Sl.bz) → Rel K G H' σ ρ (some v :: τ) (s :: δ) := fun s ρ' v H' hc hr => by
    obtain ⟨F', g1, g2, gg, ht, _⟩ := hr
    cases ht with
    | cons q1 q2 =>
      rename_i fa fb
      have hsame : Same H H' := fun a o e => gg.frm a o e (by simp)
      have hn : ∀ a ∈ f1 ++ f2, H' a = H a := fun a ha => by
        cases q : H a with
        | none => exact absurd q (hin a ha)
        | some o => exact hsame _ _ q
      have gn := g.grow (fn := fa) hsame hin (fun a ha => by
        rcases gg.own a (List.mem_append_left _ (List.mem_append_left _ ha)) with z | z
        · cases z
        · exact z) (by
        have := gg.nd
        rw [List.append_assoc] at this
        exact (List.nodup_append.mp this).1)
      rw [← List.append_assoc] at gn
      exact ⟨F, fa ++ f1, f2, gn, .cons (q1.clean hc) (hτ.mono Le.rfl fun a ha => hn a (List.mem_append_left _ ha)), hs.mono Le.rfl fun a ha => hn a (List.mem_append_right _ ha)⟩
  exact ht _ H σ _ τ _ Q hR (mA.mono (fun s ρ' z H' q => z H' ((back (.sh .non) ρ' .non H' rfl (q.push rfl)).pop)) (fun er ρ' z v H' q => z.2 v H' (back (.sh er.d) ρ' v H' z.1 q)) w)
inductive BT where
  | non | bl | int | str | lst | tup | dic
def BT.nm : BT → String
  | .non => "NoneType" | .bl => "bool" | .int => "int" | .str => "str" | .lst => "list" | .tup => "tuple" | .dic => "dict"
def D.bty : D → Option BT
  | .non => some .non
  | .bl _ => some .bl
  | .int _ => some .int
  | .str _ => some .str
  | .lst _ => some .lst
  | .tup _ => some .tup
  | .dic _ => some .dic
  | .dil _ => some .dic
  | _ => none
theorem Rep.ty {v : V} {d : D} {s : BT} (h : Rep K F v d) (l : Le F H) (e : d.bty = some s) : TyX K H v (.type s.nm) := by
  cases h with
  | non => cases e; exact .base .non
  | bl b => cases e; exact .base (.bl b)
  | int i => cases e; exact .base (.int i)
  | str x => cases e; exact .base (.str x)
  | lst h r => cases e; exact .base (.lst (l _ _ h))
  | tup h r =>
    cases e
    rcases h with (h | ⟨o, h⟩) | ⟨o, its, n, h1, h2, _⟩
    · exact .base (.tup (l _ _ h))
    · exact .fTuple (l _ _ h)
    · exact .kTuple h1 h2
  | dic h r => cases e; exact .base (.dK (l _ _ h))
  | dil h r => cases e; exact .fDict (l _ _ h)
  | _ => cases e
def isB : BT → BT → Bool
  | .non, .non => true | .bl, .bl => true | .int, .int => true | .int, .bl => true | .str, .str => true | .lst, .lst => true | .tup, .tup => true | .dic, .dic => true
  | _, _ => false
def dIsi (T : BT) (d : D) : Option D := match d.bty with
  | some s => some (.bl (isB T s))
  | none => none
theorem kit_all (T s : BT) : kitB s.nm T.nm = some (isB T s) := by
  cases T <;> cases s <;> decide +kernel
theorem eIsi {T : BT} (ha : EOk K W ta ma) : EOk K W (tCB (rIsi K) (tCons ta (tCons (tC (.ty T.nm)) tNil))) (mUn (op1 (dIsi T)) ma) := fun G H σ ρ τ δ Q h w =>
  ha G H σ ρ τ δ _ h (ma.mono (fun s1 ρ1 w1 v1 H1 h1 => by
    obtain ⟨a, d, rfl, e, q⟩ := op1_go w1
    obtain ⟨F, r, z⟩ := h1.top
    unfold dIsi at e
    split at e
    · rename_i s es
      cases e
      exact ⟨_, _, _, _, _, rfl, .ty T.nm, r.ty z.le es, kit_ty (kit_all T s), q _ _ (h1.pop.push rfl)⟩
    · cases e) (fun _ _ z => z) w)
end
end Dl
namespace Dl
open PySem PySem.Spec PyProof.Rows L2
def calm {α : Type} (m : M α) : M α := ⟨fun ρ Q _ => m.wp ρ Q fun _ _ => False, fun h _ w => m.mono h (fun _ _ z => z) w⟩
structure Knows where
  own : Nat → Bool
  blt : BT → Bool
def Knows.is (T : Knows) : D → Bool
  | .obj c _ => T.own c
  | d => match d.bty with
    | some s => T.blt s
    | none => false
structure Knows.Ok (K : PySem.W.Frag) (C : Addr) (T : Knows) : Prop where
  own : ∀ c, T.own c = true → PySem.W.notFirst K C (.ref (He.ga K (cn c))) = true ∧ Cls K (He.ga K (cn c)) ∧ OpM.InsT K (He.ga K (cn c))
  blt : ∀ s, T.blt s = true → PySem.W.notFirst K C (.type s.nm) = true
section
variable {K : PySem.W.Frag} {W W' : WS} {ta tb tc te tn tv : TE} {ma mb mc me mn mv : ME} {G : Ent} {F H H' : Hp} {σ τ : L2.St} {ρ : Env} {δ : List Sl}
theorem Knows.Ok.ty {C : Addr} {T : Knows} (k : T.Ok K C) {v : V} {d : D} (h : Rep K F v d) (l : Le F H) (e : T.is d = true) : ∃ t, TyX K H v t ∧ PySem.W.notFirst K C t = true := by
  unfold Knows.is at e
  split at e
  · obtain ⟨k1, k2, k3⟩ := k.own _ e
    cases h with
    | obj g1 g2 g3 g4 => exact ⟨_, k3.ty k2 (l _ _ g1), k1⟩
  · split at e
    · rename_i s es
      exact ⟨_, h.ty l es, k.blt s e⟩
    · cases e
inductive JOk (K : PySem.W.Frag) (W : WS) : List TE → List ME → Prop
  | nil : JOk K W [] []
  | cons {t : TE} {m : ME} {ts : List TE} {ms : List ME} : EOk K W t m → JOk K W ts ms → JOk K W (t :: ts) (m :: ms)
theorem ePow {a b n : Int} (h : CPow a b) (e : a ^ b.toNat = n) : EOk K W (tOp (rI CPow fun i j => .int (i ^ j.toNat)) (tC (.int a)) (tC (.int b))) (mC (.int n)) := fun G H σ ρ τ δ Q hr w => ⟨a, b, rfl, rfl, h, w _ _ (hr.push (by show some (V.int n) = some (V.int (a ^ b.toNat)); rw [e]))⟩
theorem Rel.cls (h : Rel K G H σ ρ τ δ) (c : Nat) : Rel K G H σ ρ (some (.ref (He.ga K (cn c))) :: τ) (.sh (.cls c) :: δ) := by
  obtain ⟨F, f1, f2, g, ht, hs⟩ := h
  exact ⟨F, _, f2, g, .cons (f := []) (.sh (.cls c)) ht, hs⟩
end
end Dl
namespace OpM
open PySem PySem.Spec PyProof.Rows L2
end OpM
namespace Dl
open PySem PySem.Spec PyProof.Rows L2
section
variable {K : PySem.W.Frag} {W W' : WS} {ta tb tc te ti tj tv : TE} {ma mb mc me mi' mj mv : ME} {t u : TS} {m k : MS} {tA tt : TT} {mA mt : MT} {G : Ent} {F H H' : Hp} {σ τ : L2.St} {ρ : Env} {δ : List Sl}
theorem OwnF.get : ∀ {ss : List Sh} {vs : List V} {ds : List D} {fp : List Addr} {i : Nat} {s : Sh}, OwnF K F H ss vs ds fp → ss[i]? = some s → ∃ v d l f r, vs[i]? = some v ∧ ds[i]? = some d ∧ fp = l ++ (f ++ r) ∧ Own K F H s v d f ∧
    ∀ F' H' s' v' d' f', Le F F' → (∀ a ∈ l ++ r, H' a = H a) → Own K F' H' s' v' d' f' → OwnF K F' H' (ss.set i s') (vs.set i v') (ds.set i d') (l ++ (f' ++ r))
  | _, _, _, _, i, s, .nil, e => by cases e
  | _, _, _, _, 0, s, .cons (f := f) (fp := fp) q r, e => by
    cases e
    exact ⟨_, _, [], f, fp, rfl, rfl, rfl, q, fun F' H' s' v' d' f' l hh q' => by
      have := OwnF.cons q' (r.mono l (fun a ha => hh a ha))
      exact this⟩
  | _, _, _, _, i + 1, s, .cons (f := f) (fp := fp) q r, e => by
    obtain ⟨v, d, l, f1, r1, e1, e2, e3, q1, k⟩ := OwnF.get (i := i) r e
    refine ⟨v, d, f ++ l, f1, r1, e1, e2, by rw [e3, List.append_assoc], q1, fun F' H' s' v' d' f' hl hh q' => ?_⟩
    rw [List.append_assoc]
    exact .cons (q.mono hl fun a ha => hh a (by simp [ha])) (k F' H' s' v' d' f' hl (fun a ha => hh a (by
      rcases List.mem_append.mp ha with z | z
      · simp [z]
      · simp [z])) q')
end
end Dl
namespace Dl
open PySem PySem.Spec PyProof.Rows L2
section
variable {K : PySem.W.Frag} {W W' : WS} {ta tb tc te ti tj tv : TE} {ma mb mc me mi' mj mv : ME} {t u : TS} {m k : MS} {tA tt : TT} {mA mt : MT} {G : Ent} {F H H' : Hp} {σ τ : L2.St} {ρ : Env} {δ : List Sl}
theorem OwnL.get {s : Sh} : ∀ {vs : List V} {ds : List D} {fp : List Addr} {i : Nat} {d : D}, OwnL K F H s vs ds fp → ds[i]? = some d → ∃ v l f r, vs[i]? = some v ∧ fp = l ++ (f ++ r) ∧ Own K F H s v d f ∧
    ∀ F' H' d' f', Le F F' → (∀ a ∈ l ++ r, H' a = H a) → Own K F' H' s v d' f' → OwnL K F' H' s vs (ds.set i d') (l ++ (f' ++ r))
  | _, _, _, i, d, .nil, e => by cases e
  | _, _, _, 0, d, .cons (f := f) (fp := fp) q r, e => by
    cases e
    exact ⟨_, [], f, fp, rfl, rfl, q, fun F' H' d' f' l hh q' => by
      have := OwnL.cons q' (r.mono l (fun a ha => hh a ha))
      exact this⟩
  | _, _, _, i + 1, d, .cons (f := f) (fp := fp) q r, e => by
    obtain ⟨v, l, f1, r1, e1, e3, q1, k⟩ := OwnL.get (i := i) r e
    refine ⟨v, f ++ l, f1, r1, e1, by rw [e3, List.append_assoc], q1, fun F' H' d' f' hl hh q' => ?_⟩
    rw [List.append_assoc]
    exact .cons (q.mono hl fun a ha => hh a (by simp [ha])) (k F' H' d' f' hl (fun a ha => hh a (by
      rcases List.mem_append.mp ha with z | z
      · simp [z]
      · simp [z])) q')
theorem OwnL.length {s : Sh} : ∀ {vs : List V} {ds : List D} {fp : List Addr}, OwnL K F H s vs ds fp → vs.length = ds.length
  | _, _, _, .nil => rfl
  | _, _, _, .cons _ r => congrArg (· + 1) r.length
theorem OwnL.app {s : Sh} : ∀ {vs vs' : List V} {ds ds' : List D} {fp fp' : List Addr}, OwnL K F H s vs ds fp → OwnL K F H s vs' ds' fp' → OwnL K F H s (vs ++ vs') (ds ++ ds') (fp ++ fp')
  | _, _, _, _, _, _, .nil, h => h
  | _, _, _, _, _, _, .cons q r, h => by rw [List.append_assoc]; exact .cons q (r.app h)
theorem Rel.at {i : Nat} {d : D} (h : Rel K G H σ ρ τ δ) (e : ρ[i]? = some (.sh d)) : ∃ F v, Le F H ∧ σ[i]? = some (some v) ∧ Rep K F v d := by
  obtain ⟨F, f1, f2, g, ht, hs⟩ := h
  obtain ⟨o, l, f, r, e1, e2, h1, k⟩ := hs.at e
  cases h1 with
  | sh r => exact ⟨F, _, g.sub, e2, r⟩
def Grow (t : TE) : Prop := ∀ σ H Q Q', t σ H Q → (∀ v H', Le H H' → Q v H' → Q' v H') → t σ H Q'
theorem Le.new {A : Hp} {p : Addr} {o : HO} (h : A p = none) : Le A (upd A p o) := fun a x e => by rw [upd_ne (fun z => by rw [z, h] at e; cases e)]; exact e
end
end Dl
namespace Dl
open PySem PySem.Spec PyProof.Rows L2
end Dl
namespace PySem
open Sem (wp)
section
variable {prog : Program} {w : World} {K : Type} [DecidableEq K] {knd : KeyKind prog w K} {A : Around} {E : Value → Shared → Prop} {s : Shared}
end
end PySem
namespace StX
open PySem PySem.Spec PyProof.Rows L2
open Sem (wp)
section
variable {X : Cx} {pos : Pos}
end
end StX
namespace Dl
open PySem PySem.Spec PyProof.Rows L2
def D.key : D → Option Key
  | .int i => some (.inl i)
  | .str x => some (.inr x)
  | _ => none
def D.pairs : D → Option (List (Key × D))
  | .dic es => some es
  | .dil es => some es
  | _ => none
def getE (es : List (Key × D)) (k : Key) : Option D := (es.find? fun p => decide (p.1 = k)).map (·.2)
def putE (es : List (Key × D)) (k : Key) (x : D) : List (Key × D) := if (es.any fun p => decide (p.1 = k)) = true then es.map (fun p => if p.1 = k then (p.1, x) else p) else es ++ [(k, x)]
section
variable {K : PySem.W.Frag} {W W' : WS} {ta tb tc te tn tk tv : TE} {ma mb mc me mn mk mv : ME} {t u : TS} {m k : MS} {tA tt : TT} {mA mt : MT} {tl : TA} {ml : MA} {G : Ent} {F H H' : Hp} {σ τ : L2.St} {ρ : Env} {δ : List Sl}
theorem Rep.key {v : V} {d : D} {k : Key} (h : Rep K F v d) (e : d.key = some k) : v = kV k := by
  cases h <;> first | (cases e; rfl) | (cases e; done)
theorem RepK.keys : ∀ {kvs : List (Key × V)} {es : List (Key × D)}, RepK K F kvs es → kvs.map (·.1) = es.map (·.1)
  | _, _, .nil => rfl
  | _, _, .cons r t => by rw [List.map_cons, List.map_cons, RepK.keys t]
theorem RepK.len {kvs : List (Key × V)} {es : List (Key × D)} (h : RepK K F kvs es) : kvs.length = es.length := by
  have := congrArg List.length h.keys
  simpa using this
theorem RepK.val : ∀ {kvs : List (Key × V)} {es : List (Key × D)}, RepK K F kvs es → ∀ k, (∃ v d, valV kvs k = some v ∧ getE es k = some d ∧ Rep K F v d) ∨ (valV kvs k = none ∧ getE es k = none)
  | _, _, .nil, k => .inr ⟨rfl, rfl⟩
  | _, _, .cons (k := k0) (v := v) (d := d) r t, k => by
    by_cases e : k0 = k
    · exact .inl ⟨v, d, valV_pos (p := (k0, v)) e, by simp [getE, List.find?_cons, e], r⟩
    · rw [valV_neg (p := (k0, v)) e]
      have : ∀ es : List (Key × D), getE ((k0, d) :: es) k = getE es k := fun es => by simp [getE, List.find?_cons, e]
      rw [this]
      exact RepK.val t k
theorem RepK.any : ∀ {kvs : List (Key × V)} {es : List (Key × D)}, RepK K F kvs es → ∀ k, (kvs.any fun p => decide (p.1 = k)) = es.any fun p => decide (p.1 = k)
  | _, _, .nil, k => rfl
  | _, _, .cons r t, k => by rw [List.any_cons, List.any_cons, RepK.any t k]
theorem RepK.app : ∀ {kvs kvs' : List (Key × V)} {es es' : List (Key × D)}, RepK K F kvs es → RepK K F kvs' es' → RepK K F (kvs ++ kvs') (es ++ es')
  | _, _, _, _, .nil, h => h
  | _, _, _, _, .cons r t, h => .cons r (t.app h)
theorem RepK.repl {k : Key} {v : V} {d : D} (q : Rep K F v d) : ∀ {kvs : List (Key × V)} {es : List (Key × D)}, RepK K F kvs es → RepK K F (kvs.map fun p => if p.1 = k then (p.1, v) else p) (es.map fun p => if p.1 = k then (p.1, d) else p)
  | _, _, .nil => .nil
  | _, _, .cons (k := k0) r t => by
    rw [List.map_cons, List.map_cons]
    by_cases e : k0 = k
    · rw [if_pos e, if_pos e]; exact .cons q (t.repl q)
    · rw [if_neg e, if_neg e]; exact .cons r (t.repl q)
theorem RepK.put {k : Key} {v : V} {d : D} {kvs : List (Key × V)} {es : List (Key × D)} (h : RepK K F kvs es) (q : Rep K F v d) : RepK K F (putK kvs k v) (putE es k d) := by
  unfold putK putE
  rw [h.any k]
  split
  · exact h.repl q
  · exact h.app (.cons q .nil)
theorem Rep.dict {v : V} {d : D} {es : List (Key × D)} (h : Rep K F v d) (l : Le F H) (e : d.pairs = some es) : ∃ a kvs, v = .ref a ∧ F a ≠ none ∧ Rd H a (.dK kvs) ∧ RepK K F kvs es := by
  cases h with
  | dic h r => cases e; exact ⟨_, _, rfl, (by rw [h]; intro z; cases z), .inl (l _ _ h), r⟩
  | dil h r => cases e; exact ⟨_, _, rfl, (by rw [h]; intro z; cases z), .inr ⟨_, l _ _ h⟩, r⟩
  | _ => cases e
end
end Dl
namespace Dl
open PySem PySem.Spec PyProof.Rows L2
section
variable {K : PySem.W.Frag} {W W' : WS} {ta tb tc te tn tk tv : TE} {ma mb mc me mn mk mv : ME} {t u : TS} {m k : MS} {tA tt : TT} {mA mt : MT} {tl : TA} {ml : MA} {G : Ent} {F H H' : Hp} {σ τ : L2.St} {ρ : Env} {δ : List Sl}
end
end Dl
namespace Cl
open PySem PySem.Spec PyProof.Rows L2
section
variable {X : Cx} {CX : CXT} {k n : Nat} {f C : Addr} {fd : FuncData} {ps ks : List Str} {sp : Sp} {E : L2.St → XK} {x m : Str} {p pos apos : Pos} {e o : Expr} {es : List Expr} {kws : List Keyword} {ta : TE} {t tk : TA} {g : List Value → List Value → List Value} {gV : List V → List V → List V}
end
end Cl
namespace Dl
open PySem PySem.Spec PyProof.Rows L2
section
variable {K : PySem.W.Frag} {W W' : WS} {ta tb tc te tn : TE} {ma mb mc me mn : ME} {t tk tB tl : TA} {mB ml : MB} {gV : List V → List V → List V} {n l c : Nat} {ds : M Sl}
end
end Dl
namespace Cl
open PySem PySem.Spec PyProof.Rows L2
end Cl
namespace Dl
open PySem PySem.Spec PyProof.Rows L2
end Dl
namespace Dl
open PySem PySem.Spec PyProof.Rows L2
section
variable {K : PySem.W.Frag} {W W' : WS} {ta tb tc te tn tk tv : TE} {ma mb mc me mn mk mv : ME} {t u : TS} {m k : MS} {tA tt : TT} {mA mt : MT} {tl : TA} {ml : MA} {G : Ent} {F H H' : Hp} {σ τ : L2.St} {ρ : Env} {δ : List Sl}
end
end Dl
namespace Dl
open PySem PySem.Spec PyProof.Rows L2
section
variable {K : PySem.W.Frag} {G : Ent} {F H H' : Hp} {σ τ : L2.St} {ρ : Env} {δ : List Sl}
theorem Rel.ext (h : Rel K G H σ ρ τ δ) (e : Ext H H') : Rel K G H' σ ρ τ δ := by
  obtain ⟨F, f1, f2, g, ht, hs⟩ := h
  have same : ∀ a, H a ≠ none → H' a = H a := fun a ha => by
    cases q : H a with
    | none => exact absurd q ha
    | some o => exact e a o q
  refine ⟨F, f1, f2, ⟨fun a o q => e a o (g.sub a o q), g.f0, g.fN, fun a o q n => e a o (g.frm a o q n), fun a q => ?_, g.own, g.nf, g.nd⟩, ht.mono Le.rfl fun a ha => same a (ht.here a ha), hs.mono Le.rfl fun a ha => same a (hs.here a ha)⟩
  have := g.all a q
  rw [same a this]
  exact this
end
end Dl
namespace Cl
open PySem PySem.Spec PyProof.Rows L2
end Cl
namespace Dl
open PySem PySem.Spec PyProof.Rows L2
section
variable {K : PySem.W.Frag} {W W' : WS} {ta tb tc te tn tk tv : TE} {ma mb mc me mn mk mv : ME} {t u : TS} {m k : MS} {tA tt : TT} {mA mt : MT} {tl : TA} {ml : MA} {G : Ent} {F H H' : Hp} {σ τ : L2.St} {ρ : Env} {δ : List Sl}
theorem OwnF.getD : ∀ {zs : List Sh} {vs : List V} {ds : List D} {fp : List Addr} {j : Nat} {z : Sh} {d : D}, OwnF K F H zs vs ds fp → zs[j]? = some z → ds[j]? = some d → ∃ v f, vs[j]? = some v ∧ Own K F H z v d f ∧ f.Sublist fp
  | _, _, _, _, 0, z, d, .cons (f := f) (fp := fp) h r, e1, e2 => by
    cases e1
    cases e2
    exact ⟨_, f, rfl, h, List.sublist_append_left _ _⟩
  | _, _, _, _, j + 1, z, d, .cons (f := f) (fp := fp) h r, e1, e2 => by
    obtain ⟨v, g, a1, a2, a3⟩ := OwnF.getD (j := j) r e1 e2
    exact ⟨v, g, a1, a2, a3.trans (List.sublist_append_right _ _)⟩
theorem atI_of {α : Type} {xs : List α} {j : Nat} {x : α} (e : xs[j]? = some x) : L2.atI xs ((j : Nat) : Int) = some x := atI_nat e
end
end Dl
namespace NeG
open PySem PySem.SeqAt GQ
open AutoSeq1 (wpAny_loadPart')
open MeetsSeq MeetsSeq2 MeetsSeq3 SeqRoads2
section
variable {prog : Program} {w : World} {A : Around} {R : Result → Shared → Prop}
end
section
variable {prog : Program} {w : World} {A : Around} {E : Value → Shared → Prop} {s : Shared}
end
end NeG
namespace L2
open PySem PySem.Spec PyProof.Rows
section
variable {X : Cx} {n : Nat} {D : Eqv}
end
end L2
namespace Dl
open PySem PySem.Spec PyProof.Rows L2
section
variable {K : PySem.W.Frag}
end
end Dl
namespace Cl
open PySem PySem.Spec PyProof.Rows L2
end Cl
namespace Cl
open PySem PySem.Spec PyProof.Rows L2
end Cl
namespace Dl
open PySem PySem.Spec PyProof.Rows L2
section
variable {K : PySem.W.Frag}
end
end Dl
namespace Dl
open PySem PySem.Spec PyProof.Rows L2
section
variable {K : PySem.W.Frag} {W : WS} {te tf : TE} {me mf : ME}
end
end Dl
namespace TryM
open PySem PySem.Spec PyProof.Rows L2
abbrev Sui := Addr → Value → Option Addr → TS
def NmOk (X : Cx) : Option Str → Option Nat → Prop
  | none, none => True
  | some n, some i => X.N.Nodup ∧ X.N[i]? = some n ∧ X.env.kindOf n = some .local
  | _, _ => False
inductive HdM (X : Cx) : List ExceptHandler → List (Value × Option Nat × Sui) → Prop
  | nil : HdM X [] []
  | cons {x : Str} {c : Value} {m : Option Str} {o : Option Nat} {t : Sui} {b : Stmt} {bs : List Stmt} {p q : Pos} {hs : List ExceptHandler} {l : List (Value × Option Nat × Sui)} (hc : Names X x c) (hm : NmOk X m o)
      (ht : ∀ (a : Addr) (u : Obj) (cls : Value) (d : Option Addr) (pn : List (Addr × Obj)), Zc cls d u → (∃ vs, u.data = .fields vs) → PSs (X.suite a ((a, u) :: pn)) (b :: bs) (t a cls d)) (r : HdM X hs l) :
      HdM X (.ExceptHandler (some (.Name x p)) m (b :: bs) q :: hs) ((c, o, t) :: l)
structure Landed (X : Cx) (pins : List (Addr × Obj)) (B : Heap) (a : Addr) (cls : Value) (d : Option Addr) (r : L2.St) (H : Hp) (sI s : Shared) (h : Heap) : Prop where
  inv : Inv X pins r H sI
  old : ∀ b o, sI.heap.get? b = some o → b ∉ frs X.stack → B.get? b = some o
  fly : HandSPX.FlyingZ B (X.env :: X.outer) a (Zc cls d) h
  slo : sI.heap.UpToSlots h
  osE : s.os = sI.os
  bar : AllBare s.gens
  new : H a = none
section
variable {X : Cx} {pins : List (Addr × Obj)} {D : Ends} {Wo : WX} {B : Heap} {a : Addr} {cls : Value} {d : Option Addr} {r : L2.St} {H : Hp} {sI s : Shared} {h : Heap}
theorem Landed.up (L : Landed X pins B a cls d r H sI s h) {h' : Heap} (f : HandSPX.FlyingZ B (X.env :: X.outer) a (Zc cls d) h') (u : h.UpToSlots h') : Landed X pins B a cls d r H sI s h' :=
  ⟨L.inv, L.old, f, L.slo.trans u, L.osE, L.bar, L.new⟩
theorem Landed.here (L : Landed X pins B a cls d r H sI s h) (hf : X.env.frame = some X.env.locals) : ∃ u vs, h.get? a = some u ∧ Zc cls d u ∧ u.data = .fields vs ∧ Inv X pins r H { s with heap := h } ∧ Inv (X.suite a ((a, u) :: (X.pn ++ pins))) [] r H { s with heap := h } := by
  have I : Inv X pins r H { s with heap := h } := L.inv.landed L.old L.fly.1 L.slo L.osE L.bar
  obtain ⟨u, vs, hu, hz, hd⟩ := L.fly.there
  have no : a ∉ frs (X.env :: X.outer) := fun m => by
    obtain ⟨_, u', e, n⟩ := L.fly.2.2.1.mem m
    cases hu.symm.trans e
    exact n _ hd
  refine ⟨u, vs, hu, hz, hd, I, I.suite hu hd L.new (fun z => no ?_) (fun m => no ?_)⟩
  · exact List.mem_filterMap.mpr ⟨_, List.mem_cons_self, z ▸ hf⟩
  · obtain ⟨v, hv, q⟩ := List.mem_filterMap.mp m
    exact List.mem_filterMap.mpr ⟨v, List.mem_cons_of_mem _ hv, q⟩
end
end TryM
namespace Dl
open PySem PySem.Spec PyProof.Rows L2
abbrev HdD := (Nat → Option Bool) × Option Nat × (Addr → Addr → Nat → MS)
section
variable {K : PySem.W.Frag}
inductive NOk (K : PySem.W.Frag) : List (Value × Option Nat × TryM.Sui) → List HdD → Prop
  | nil : NOk K [] []
  | cons {c : Value} {o : Option Nat} {ts : TryM.Sui} {tbl : Nat → Option Bool} {mh : Addr → Addr → Nat → MS} {l : List (Value × Option Nat × TryM.Sui)} {m : List HdD} (ht : ∀ n b, tbl n = some b → PySem.W.exmOne K (.ref (He.ga K (en n))) c = some b)
      (hh : ∀ a dd n, SOk K (fun _ _ _ _ => False) (ts a (.ref (He.ga K (en n))) (dOf n dd)) (mh a dd n)) (r : NOk K l m) : NOk K ((c, o, ts) :: l) ((tbl, o, mh) :: m)
end
end Dl
namespace Cl
open PySem PySem.Spec PyProof.Rows L2
def pm {α : Type} : List Nat → List α → List α
  | [], _ => []
  | i :: is, l => match l[i]? with
    | some x => x :: pm is l
    | none => pm is l
end Cl
namespace PySem
namespace ErrX
open PySem.W PySem.Calls PyProof.Rows PySem.HandSPX
def iBL (x f msg : Str) (q1 q2 q3 q4 q5 q6 q7 q8 q9 q10 qa qb : Pos) : List Stmt :=
  [.Expr (.Call (.Attribute (.Call (.Name "super" q1) [] [] q2) "__init__" q3) [.Constant (.str msg) 0 q4] [] q5) q6,
   .Assign [.Attribute (.Name "self" q7) f q8] (.Call (.Name "list" qa) [.Name x q9] [] qb) q10]
def iSL (x : Str) : Scope := { kind := .function, names := [(PySem.Str.ofString "self", .local), (x, .local), (PySem.Str.ofString "__class__", .free), (PySem.Str.ofString "super", .globalImplicit), (PySem.Str.ofString "list", .globalImplicit)], isGenerator := false, isCoroutine := false, more := [] }
structure ErrTxtL (P : Program) (K : Frag) (C : Addr) (x f : Str) : Prop where
  cls : ∃ nm q N bs bm sn sub ab col dd k0 k1 k2 k3 k5, K.lookup C = some (excClassObj nm q C N bs bm true sn sub ab col dd k0 k1 k2 k3 k5 "ValueError.__new__") ∧ refsVE bm = true
  along : ∃ cd, clsIn K C = some cd ∧ alongIn K "__init__" ((cd.mro.dropWhile (· != .ref C)).drop 1) = some (some (.builtin "ValueError.__init__"))
  opq : nsIn K cStatics "thirdparty.any" = some none
  selfC : mroIn K C (.ref C) = some true
  ve : subIn K (.ref C) (.type "ValueError") = some true
  sa : findIn K (.ref C) "__setattr__" = some (some (.builtin "object.__setattr__"))
  ga : findIn K (.ref C) "__getattribute__" = some (some (.builtin "BaseException.__getattribute__"))
  gg : findIn K (.ref C) "__getattr__" = some none
  noN : findIn K (.ref C) f = some none
  kC : keepIn K (.ref C) = true
  exC : subIn K (.ref C) (.type "BaseException") = some true
  tyC : typeIn K (.ref C) = some (.type "type")
  hdC : hasDictIn K C = true
  fn : ∃ fI, findIn K (.ref C) "__init__" = some (some (.ref fI)) ∧ typeIn K (.ref fI) = some (.type "function") ∧
    ∃ (oc : Value) (od : Option Addr) (doc pm kV : Value) (an : Option Addr) (cda cc : Addr) (ct : Value) (osl : Array (Option Value)) (nm qual msg : Str) (p1 p2 q1 q2 q3 q4 q5 q6 q7 q8 q9 q10 qa qb : Pos),
      (q3.endLine == q5.line) = true ∧ K.lookup fI = some ⟨oc, od, .func (ksFn nm qual (iA x p1 p2) (iBL x f msg q1 q2 q3 q4 q5 q6 q7 q8 q9 q10 qa qb) (iSL x) .none kV doc pm an (.ref cda) ct cc), osl⟩ ∧ codeIn K (.ref cda) qual = true ∧
      (∃ ccl cdd vs ccs file tf, K.lookup cda = some ⟨ccl, cdd, .fields vs, ccs⟩ ∧ vs[2]? = some (.str file tf) ∧ ((P.main.file : Str) == file) = true) ∧
      ∃ cl cld csl, K.lookup cc = some ⟨cl, cld, .cell (some (.ref C)), csl⟩
  topl : (P.main.scope.names.lookup ("list" : Str)).isSome = false
  top : (P.main.scope.names.lookup ("super" : Str)).isSome = false
  xs : (x == ("self" : Str)) = false
  xc : (("__class__" : Str) == x) = false
  xu : (("super" : Str) == x) = false
  xl : (("list" : Str) == x) = false
  xd : (x == ("__debug__" : Str)) = false
  bnd : ∀ (nm qual : Str) (Bd : List Stmt) (kV doc pm : Value) (an : Option Addr) (cdv ct : Value) (cc : Addr) (p1 p2 : Pos) (u v : Value), bindArgs (ksFn nm qual (iA x p1 p2) Bd (iSL x) .none kV doc pm an cdv ct cc) ⟨[u, v], []⟩ = pure [(("self" : Str), u), (x, v)]
structure InitEndL (h h' : Heap) (e C dx : Addr) (f : Str) (l : Addr) (items : Array Value) (cl : Nat) : Prop where
  ini : InitEnd h h' e C dx f (.ref l)
  lbig : h.objs.size ≤ l
  lne : l ≠ e
  lnd : l ≠ dx
  lobj : h'.get? l = some { cls := .type "list", dict := none, data := .seq items cl, slots := #[] }
structure MadeL (h h' : Heap) (e C d : Addr) (f : Str) (l : Addr) (items : Array Value) (cl : Nat) : Prop where
  made : Made h h' e C d f (.ref l)
  lbig : h.objs.size ≤ l
  lne : l ≠ e
  lnd : l ≠ d
  lobj : h'.get? l = some { cls := .type "list", dict := none, data := .seq items cl, slots := #[] }
section
variable {prog : Program} {w : World} {A : Around} {E : Value → Shared → Prop} {R : Result → Shared → Prop} {s : Shared} {K : Frag} {mg mb : Str → Option Value} {C : Addr} {x f : Str}
theorem lookL_x (T : ErrTxtL prog K C x f) : (iSL x).names.lookup x = some .local := by
  have e := T.xs
  have e2 : (x == PySem.Str.ofString "self") = false := e
  simp [iSL, List.lookup, e2]
theorem lookL_c (T : ErrTxtL prog K C x f) : (iSL x).names.lookup ("__class__" : Str) = some .free := by
  have e := T.xc
  have e0 : ((PySem.Str.ofString "__class__") == PySem.Str.ofString "self") = false := by decide +kernel
  have e2 : (PySem.Str.ofString "__class__" == x) = false := e
  show List.lookup (PySem.Str.ofString "__class__") (iSL x).names = _
  simp [iSL, List.lookup, e2, e0]
theorem lookL_u (T : ErrTxtL prog K C x f) : (iSL x).names.lookup ("super" : Str) = some .globalImplicit := by
  have e := T.xu
  have e0 : ((PySem.Str.ofString "super") == PySem.Str.ofString "self") = false := by decide +kernel
  have e1 : ((PySem.Str.ofString "super") == PySem.Str.ofString "__class__") = false := by decide +kernel
  have e2 : (PySem.Str.ofString "super" == x) = false := e
  show List.lookup (PySem.Str.ofString "super") (iSL x).names = _
  simp [iSL, List.lookup, e2, e0, e1]
theorem lookL_l (T : ErrTxtL prog K C x f) : (iSL x).names.lookup ("list" : Str) = some .globalImplicit := by
  have e := T.xl
  have e0 : ((PySem.Str.ofString "list") == PySem.Str.ofString "self") = false := by decide +kernel
  have e1 : ((PySem.Str.ofString "list") == PySem.Str.ofString "__class__") = false := by decide +kernel
  have e3 : ((PySem.Str.ofString "list") == PySem.Str.ofString "super") = false := by decide +kernel
  have e2 : (PySem.Str.ofString "list" == x) = false := e
  show List.lookup (PySem.Str.ofString "list") (iSL x).names = _
  simp [iSL, List.lookup, e2, e0, e1, e3]
theorem lookL_s : (iSL x).names.lookup ("self" : Str) = some .local := by
  show List.lookup (PySem.Str.ofString "self") (iSL x).names = _
  simp [iSL, List.lookup]
theorem err_initL (T : ErrTxtL prog K C x f) {e t0 fI p : Addr} {Tn : String} {ol : Obj} {items : Array Value} {nl : Nat} (hTn : Tn = "list" ∨ Tn = "tuple") (hol : s.heap.get? p = some ol) (hoc : ol.cls = .type Tn) (hod : ol.data = .seq items nl) (hsz : items.size ≤ sizeLine) (hfI : findIn K (.ref C) "__init__" = some (some (.ref fI))) (X : K.In s.heap) (G : s.heap.Ns mainGlobals mg) (Gs : mg "super" = none) (B : s.heap.Ns builtinsNs mb) (Bs : mb "super" = some (.type "super")) (Gl : mg "list" = none) (Bl : mb "list" = some (.type "list"))
    (hlim : s.heap.NoLimit) (hx : s.heap.get? e = some (excO C t0)) (hnx : K.lookup e = none) (hroom : A.depth < recursionLimit)
    (hq : ∀ h' tk dx l cl, InitEndL s.heap h' e C dx f l items cl → R (.ok (.ret .none)) { s with heap := h', toks := tk }) :
    codeAny (model prog w) A (.call (.ref fI) ⟨[.ref e, .ref p], []⟩) R s := by
  obtain ⟨fI', hfI', hty, oc, od, doc, pm, kV, an, cda, cc, ct, osl, nm0, qual, msg, p1, p2, q1, q2, q3, q4, q5, q6, q7, q8, q9, q10, qa, qb, hln, ho, hcd, ⟨ccl, cdd, cvs, ccs, file, tf, hcode, hvs, hfile⟩, ⟨cl, cld, csl, hcell⟩⟩ := T.fn
  have ef : fI' = fI := by
    have z := hfI'.symm.trans hfI
    simpa using z
  subst ef
  obtain ⟨nm, q, N, bs, bm, sn, sub, ab, col, dd, k0, k1, k2, k3, k5, hC, hbm⟩ := T.cls
  have hcl := clsIn_of hC
  obtain ⟨cd', hcd', hal⟩ := T.along
  have hcdE := hcd'
  rw [hcl] at hcd'
  have hcd'' := (Option.some.inj hcd')
  have hlx := lookL_x T
  have hlc := lookL_c T
  have hlu := lookL_u T
  have hls := lookL_s (x := x)
  have hll := lookL_l T
  refine ks_codeAny_call_defAt (fd := ksFn nm0 qual (iA x p1 p2) (iBL x f msg q1 q2 q3 q4 q5 q6 q7 q8 q9 q10 qa qb) (iSL x) .none kV doc pm an (.ref cda) ct cc) (binds := [("self", .ref e), (x, .ref p)]) hroom (X _ _ ho) rfl hlim (codeRec_of X hcd) rfl
    (BindsTo.of_eq (T.bnd ..)) ?hcell ?hloc (fun h₁ hns hk₁ => ?_) rfl rfl rfl
  case hcell =>
    intro y hy
    have hy' : y ∈ [(PySem.Str.ofString "self", NameKind.local), (x, NameKind.local), (PySem.Str.ofString "__class__", NameKind.free), (PySem.Str.ofString "super", NameKind.globalImplicit), (PySem.Str.ofString "list", NameKind.globalImplicit)] := hy
    simp only [List.mem_cons, List.not_mem_nil, or_false] at hy'
    rcases hy' with rfl | rfl | rfl | rfl | rfl <;> (intro z; cases z)
  case hloc =>
    intro y hy
    simp only [List.mem_cons, List.not_mem_nil, or_false] at hy
    rcases hy with rfl | rfl
    · exact hls
    · exact hlx
  have X₁ : K.In h₁ := X.keeps hk₁
  have hx₁ := hk₁ _ _ hx
  have hmx : (fun y => List.lookup y ([(("self" : Str), Value.ref e), (x, .ref p)] : List (Str × Value)).reverse) x = some (.ref p) := by simp [List.lookup]
  have hms : (fun y => List.lookup y ([(("self" : Str), Value.ref e), (x, .ref p)] : List (Str × Value)).reverse) ("self" : Str) = some (.ref e) := by
    have e1 : (("self" : Str) == x) = false := by
      rw [Bool.eq_false_iff]
      intro z
      have z2 := (beq_iff_eq.mp z)
      have z3 := T.xs
      rw [← z2] at z3
      simp at z3
    simp [List.lookup, e1]
  obtain ⟨hp, g, dr, tk, os⟩ := s
  have hlc' : (ksEnv qual (iSL x) hp.objs.size fI' (.ref cda) cc).kindOf "__class__" = some .free := hlc
  have hlu' : (ksEnv qual (iSL x) hp.objs.size fI' (.ref cda) cc).kindOf "super" = some .globalImplicit := hlu
  have hls' : (ksEnv qual (iSL x) hp.objs.size fI' (.ref cda) cc).kindOf "self" = some .local := hls
  have hll' : (ksEnv qual (iSL x) hp.objs.size fI' (.ref cda) cc).kindOf "list" = some .globalImplicit := hll
  have hlx' : (ksEnv qual (iSL x) hp.objs.size fI' (.ref cda) cc).kindOf x = some .local := hlx
  obtain ⟨oD, hD1, hD2⟩ : ∃ oD, h₁.get? C = some oD ∧ ∃ cdc, oD.data = .cls cdc := ⟨_, X₁ _ _ hC, _, rfl⟩
  obtain ⟨cdc, hD2⟩ := hD2
  have I1 : InstAt h₁ e (excO C t0) C none := ⟨hx₁, rfl, rfl, trivial⟩
  show wpAt _ _ _ (execs (iBL x f msg q1 q2 q3 q4 q5 q6 q7 q8 q9 q10 qa qb) (ksEnv qual (iSL x) hp.objs.size fI' (.ref cda) cc)) _ _ _
  refine ks_wpAt_execs_cons (ks_wpAt_Expr_any (ks_wpAt_MethodCall (pl := (do return (← importBound (.Call (.Name "super" q1) [] [] q2) (ksEnv qual (iSL x) hp.objs.size fI' (.ref cda) cc)).getD true)) ?_ ?he))
  case he =>
    rw [arm_eval_Call]
    refine congrArg _ (funext fun ov => ?_)
    refine congrArg _ (funext fun _ => ?_)
    exact mcall_one rfl hln
  refine ks_wpAt_super_base (env := ksEnv qual (iSL x) hp.objs.size fI' (.ref cda) cc) hlu' hlc' (by decide +kernel) rfl (X₁ _ _ ho) rfl rfl rfl (X₁ _ _ hcode) rfl hvs hfile T.top ?_
  refine ks_loadName_global rfl hlu' (loadGlobal_builtin (env := ksEnv qual (iSL x) hp.objs.size fI' (.ref cda) cc) (G.keeps hk₁) Gs (B.keeps hk₁) Bs ⟨rfl, ?_⟩)
  refine wpAny_loadName_free rfl hlc' rfl ⟨_, X₁ _ _ hcell, rfl⟩ ?_
  refine wpAny_loadName_local rfl hls' hns hms ?_
  refine ks_wpAny_isType_cls hD1 hD2 ⟨rfl, ?_⟩
  refine ks_wpAny_call_super hD1 hD2 hx₁ rfl (fun c z => by cases z) (looks_mroIn X₁ T.selfC) (fun h₂ e₂ k₂ => ?_)
  have X₂ : K.In h₂ := X₁.keeps k₂
  have hx₂ := k₂ _ _ hx₁
  have I2 : InstAt h₂ e (excO C t0) C none := ⟨hx₂, rfl, rfl, trivial⟩
  have hI2 : Looks (model prog w) h₂ (isInstance (.ref e) (.type "ValueError")) true := I2.type.andThen (looks_subIn X₂ T.ve)
  refine kxs_getMethod kxs_ValueError e₂ (looks_opaque X₂ T.opq) (l₀ := cd'.mro) (fun A Q E s k q => wpAny_bind ((looks_clsIn X₂ hcdE) A _ E s k (wpAny_pure q))) rfl X₂ hal hI2 (ks_ne X₂ I2 hcdE) (by decide +kernel) ?_
  have hu₃ : (h₂.push (kxs_mw "ValueError.__init__" e)).get? h₂.objs.size = some (kxs_mw "ValueError.__init__" e) := Heap.get?_push_at rfl rfl
  have k₃ : ∀ b o, h₂.get? b = some o → (h₂.push (kxs_mw "ValueError.__init__" e)).get? b = some o := fun b o z => Heap.get?_push_of_some _ z
  refine kxs_callWith (i := "ValueError.__init__") (x := e) rfl ?_
  refine evalArgs_plain (PyProof.Rows.spliced_more (Constant_str (PyProof.Rows.spliced_none ?_)))
  refine ⟨hu₃, ?_⟩
  show wpAny _ _ (call (.ref h₂.objs.size) [_]) _ _ _
  refine call_bw (nm := nm) (q := q) (N := N) (bs := bs) (bm := bm) (hdct := true) (sn := sn) (sub := sub) (ab := ab) (col := col) (dd := dd) (k0 := k0) (k1 := k1) (k2 := k2) (k3 := k3) (k5 := k5) (X₂.keeps k₃ _ _ hC) (k₃ _ _ hx₂) hu₃ (one_size _) (fun h₄ t1 k₄ hx₄ => ?_)
  have hk14 : ∀ b o, b ≠ e → h₁.get? b = some o → h₄.get? b = some o := fun b o hb z => k₄ b o hb (k₃ b o (k₂ b o z))
  have hLe : hp.objs.size ≠ e := Nat.ne_of_gt (Heap.lt_size hx)
  have hns₄ : h₄.Ns hp.objs.size (fun y => List.lookup y ([(("self" : Str), Value.ref e), (x, .ref p)] : List (Str × Value)).reverse) := by
    obtain ⟨o, es, ep, ho1, r⟩ := hns
    exact ⟨o, es, ep, hk14 _ _ hLe ho1, r⟩
  have X₄ : K.In h₄ := fun a o z => hk14 a o (fun y => by rw [y, hnx] at z; cases z) (X₁ a o z)
  have hpe : p ≠ e := fun z => by
    subst z
    have q := hol.symm.trans hx
    cases q
    have hc0 : (excO C t0).cls = .ref C := rfl
    rw [hc0] at hoc
    cases hoc
  have hp₄ : h₄.get? p = some ol := hk14 _ _ hpe (hk₁ _ _ hol)
  refine ks_wpAt_execs_cons (ks_wpAt_Assign_Attr (wpAt_of_wpAny ?_))
  have nsk : ∀ {a : Addr} {m : Str → Option Value}, hp.Ns a m → h₄.Ns a m := fun {a m} h => by
    obtain ⟨o, es, ep, ho1, r⟩ := h
    refine ⟨o, es, ep, hk14 _ _ (fun z => ?_) (hk₁ _ _ ho1), r⟩
    subst z
    have q := ho1.symm.trans hx
    cases q
    have r1 := r.1
    cases r1
  refine wpAny_Call_Name_kw (wpAny_Name (ks_loadName_global rfl hll' (loadGlobal_builtin (env := ksEnv qual (iSL x) hp.objs.size fI' (.ref cda) cc) (nsk G) Gl (nsk B) Bl ?_)) (by decide))
  refine PyProof.Rows.callWith_type1 (PyProof.Rows.spliced_more (ESX.ldL (env := ksEnv qual (iSL x) hp.objs.size fI' (.ref cda) cc) hns₄ hmx (PyProof.Rows.spliced_none ?_) rfl hlx' T.xd)) rfl rfl
  refine call_list_seq p hTn hp₄ hoc hod (fun h₆ c₆ k₆ l₆ => ?_) hsz
  have hns₆ : h₆.Ns hp.objs.size (fun y => List.lookup y ([(("self" : Str), Value.ref e), (x, .ref p)] : List (Str × Value)).reverse) := by
    obtain ⟨o, es, ep, ho1, r⟩ := hns₄
    exact ⟨o, es, ep, k₆ _ _ ho1, r⟩
  have X₆ : K.In h₆ := X₄.keeps k₆
  have hx₆ := k₆ _ _ hx₄
  have hle : h₄.objs.size ≠ e := Nat.ne_of_gt (Heap.lt_size hx₄)
  refine ESX.ldL (env := ksEnv qual (iSL x) hp.objs.size fI' (.ref cda) cc) hns₆ hms ?_ rfl hls' (by decide)
  refine set_plain X₆ (ox := excO C t1) (od := none) ⟨hx₆, rfl, rfl, trivial⟩ T.sa ?_
  refine exc_osa X₆ hx₆ hcl (show refsVE (.ref C :: bm) = true from hbm) rfl T.noN (fun h₅ tk₅ dx k₅ dn dne hx₅ hn₅ => ?_)
  have hL4 : hp.objs.size ≤ h₄.objs.size := by
    obtain ⟨o, es, ep, ho1, r⟩ := hns₄
    exact Nat.le_of_lt (Heap.lt_size ho1)
  have hL6 : h₄.objs.size < h₆.objs.size := Heap.lt_size l₆
  have dn' : h₆.objs.size ≤ dx := dn
  refine wpAt_of_wpAny (wpAny_execs_nil (hq h₅ tk₅ dx h₄.objs.size c₆ ⟨⟨fun b o hb z => k₅ b o hb (k₆ b o (hk14 b o hb (hk₁ b o z))), ⟨t1, hx₅⟩, ?_, dne, hn₅⟩, hL4, hle, fun z => ?_, k₅ _ _ hle l₆⟩))
  · show hp.objs.size ≤ dx
    omega
  · have z' : h₄.objs.size = dx := z
    omega
theorem err_madeL (T : ErrTxtL prog K C x f) {p : Addr} {Tn : String} {ol : Obj} {items : Array Value} {nl : Nat} (hTn : Tn = "list" ∨ Tn = "tuple") (hol : s.heap.get? p = some ol) (hoc : ol.cls = .type Tn) (hod : ol.data = .seq items nl) (hsz : items.size ≤ sizeLine) (X : K.In s.heap) (G : s.heap.Ns mainGlobals mg) (Gs : mg "super" = none) (B : s.heap.Ns builtinsNs mb) (Bs : mb "super" = some (.type "super")) (Gl : mg "list" = none) (Bl : mb "list" = some (.type "list")) (hlim : s.heap.NoLimit) (hroom : A.depth + 1 < recursionLimit)
    (hq : ∀ h' tk e d l cl, MadeL s.heap h' e C d f l items cl → R (.ok (.ret (.ref e))) { s with heap := h', toks := tk }) :
    codeAny (model prog w) A (.call (.ref C) ⟨[.ref p], []⟩) R s := by
  obtain ⟨nm, q, N, bs, bm, sn, sub, ab, col, dd, k0, k1, k2, k3, k5, hC, hbm⟩ := T.cls
  obtain ⟨fI, iC, tC, _⟩ := id T.fn
  obtain ⟨hp, g, dr, tk, os⟩ := s
  have k : ∀ b o, hp.get? b = some o → ((hp.push (kdv_tup [.ref p])).push (excO C hp.objs.size)).get? b = some o := fun b o e => Heap.get?_push_of_some _ (Heap.get?_push_of_some _ e)
  have hget : ((hp.push (kdv_tup [.ref p])).push (excO C hp.objs.size)).get? (hp.objs.size + 1) = some (excO C hp.objs.size) := by heap_get
  have hnx : K.lookup (hp.objs.size + 1) = none := by
    cases e : K.lookup (hp.objs.size + 1) with
    | none => rfl
    | some o =>
      have z : hp.get? (hp.objs.size + 1) = some o := X _ _ e
      exact absurd (Nat.lt_of_succ_lt (Heap.lt_size z)) (Nat.lt_irrefl _)
  refine call_own F.excBase_ValueError (fun X => refsVE_contains X bm hbm) (X _ _ hC) (looks_findIn X iC) (fun self => bind_fn X self tC) (one_size _) ?_
  refine err_initL (s := ⟨(hp.push (kdv_tup [.ref p])).push (excO C hp.objs.size), g, dr, tk, os⟩) T hTn (k _ _ hol) hoc hod hsz iC (X.keeps k) (G.keeps k) Gs (B.keeps k) Bs Gl Bl (hlim.keeps k) hget hnx ?_ fun h' tk' dx l cl ⟨⟨k', ⟨t1, hx⟩, dn, dne, hns⟩, l1, l2, l3, l4⟩ => ?_
  · show A.depth + 1 < recursionLimit
    exact hroom
  · have old : ∀ b o, hp.get? b = some o → h'.get? b = some o := fun b o e => k' b o (Nat.ne_of_lt (Nat.lt_succ_of_lt (Heap.lt_size e))) (k b o e)
    have z : hp.objs.size + 1 + 1 ≤ dx := by
      first
        | (simpa only [Heap.size_push] using dn)
        | exact dn
        | (have q := dn; rw [Heap.size_push, Heap.size_push] at q; exact q)
    have z2 : hp.objs.size + 1 + 1 ≤ l := by
      first
        | (simpa only [Heap.size_push] using l1)
        | exact l1
        | (have q := l1; rw [Heap.size_push, Heap.size_push] at q; exact q)
    exact ⟨rfl, hq h' tk' (hp.objs.size + 1) dx l cl ⟨⟨old, Nat.le_succ _, ⟨_, _, hx, rfl, rfl, rfl, rfl, rfl, by show 4 < 6; decide⟩, Nat.le_trans (Nat.le_trans (Nat.le_succ _) (Nat.le_succ _)) z, dne, hns⟩, Nat.le_trans (Nat.le_trans (Nat.le_succ _) (Nat.le_succ _)) z2, l2, l3, l4⟩⟩
end
end ErrX
end PySem
namespace L2
open PySem PySem.Spec PyProof.Rows
section
variable {X : Cx} {C : Addr} {x f nm : Str}
theorem errXfL {P : Program} {K : PySem.W.Frag} (T : PySem.ErrX.ErrTxtL P K C x f) : XfC K C := ⟨T.ga, T.gg, T.exC, T.hdC⟩
end
end L2
namespace Hd
open PySem PySem.Spec PyProof.Rows L2 He
theorem err_mkL {P : Program} {K : PySem.W.Frag} {c f x qual msg : Str} {st : Stmt} {p1 p2 q1 q2 q3 q4 q5 q6 q7 q8 q9 q10 qa qb : Pos} (h : errB P K c f qual = true) (e : fnE K (c, some "__init__") = (ErD.mk c qual st).val)
    (hA : defArgs st = PySem.ErrX.iA x p1 p2) (hB : defBody st = PySem.ErrX.iBL x f msg q1 q2 q3 q4 q5 q6 q7 q8 q9 q10 qa qb) (hS : defScope st = PySem.ErrX.iSL x) (hl : (q3.endLine == q5.line) = true)
    (topl : (P.main.scope.names.lookup ("list" : Str)).isSome = false) (top : (P.main.scope.names.lookup ("super" : Str)).isSome = false) (xs : (x == ("self" : Str)) = false) (xc : (("__class__" : Str) == x) = false) (xu : (("super" : Str) == x) = false) (xl : (("list" : Str) == x) = false) (xd : (x == ("__debug__" : Str)) = false)
    (bnd : ∀ (nm qual : Str) (Bd : List Stmt) (kV doc pm : Value) (an : Option Addr) (cdv ct : Value) (cc : Addr) (p1 p2 : Pos) (u v : Value), bindArgs (PySem.W.ksFn nm qual (PySem.ErrX.iA x p1 p2) Bd (PySem.ErrX.iSL x) .none kV doc pm an cdv ct cc) ⟨[u, v], []⟩ = pure [(("self" : Str), u), (x, v)]) :
    PySem.ErrX.ErrTxtL P K (ga K c) x f := by
  unfold errB at h
  obtain ⟨h1, h⟩ := ba h
  obtain ⟨h2, h⟩ := ba h
  obtain ⟨h3, h⟩ := ba h
  obtain ⟨h4, h⟩ := ba h
  obtain ⟨h5, h⟩ := ba h
  obtain ⟨h6, h⟩ := ba h
  obtain ⟨h7, h⟩ := ba h
  obtain ⟨h8, h⟩ := ba h
  obtain ⟨h9, h⟩ := ba h
  obtain ⟨h10, h⟩ := ba h
  obtain ⟨h11, h⟩ := ba h
  obtain ⟨h12, h⟩ := ba h
  obtain ⟨h13, h⟩ := ba h
  obtain ⟨h14, h⟩ := ba h
  obtain ⟨h15, h16⟩ := ba h
  refine ⟨clsB_ok h1, alongB_ok h2, of_decide_eq_true h3, of_decide_eq_true h4, of_decide_eq_true h5, eqO_ok h6, eqO_ok h7, eqO_ok h8, eqO_ok h9, h10, of_decide_eq_true h11, of_decide_eq_true h12, h13,
    ⟨ma K (ga K c) "__init__", eqO_ok h14, of_decide_eq_true h15, ?_⟩, topl, top, xs, xc, xu, xl, xd, bnd⟩
  unfold initB at h16
  have e2 : fnE K (c, some "__init__") = (match K.lookup (ma K (ga K c) "__init__") with
    | some ⟨_, _, .func fd, _⟩ => some (fd.name, fd.qualname, fd.params, fd.body, fd.scope, fd.globals, fd.closure.map (·.1), fd.builtins)
    | _ => none) := rfl
  rw [e2] at e
  cases q : K.lookup (ma K (ga K c) "__init__") with
  | none =>
    rw [q] at h16
    cases h16
  | some o =>
    obtain ⟨oc, od, dt, osl⟩ := o
    rw [q] at h16 e
    cases dt with
    | func fd =>
      obtain ⟨n1, n2, n3, n4, n5, n6, n7, n8, n9, n10, n11, n12, n13, n14, n15⟩ := fd
      have e3 : (some (n1, n2, n3, n4, n5, n6, n7.map (·.1), n15) : FnE) = (some (("__init__" : Str), qual, defArgs st, FuncBody.stmts (defBody st), defScope st, mainGlobals, [("__class__" : Str)], builtinsNs) : FnE) := e
      simp only [Option.some.injEq, Prod.mk.injEq] at e3
      obtain ⟨e1, e2, e3, e4, e5, e6, e7, e8⟩ := e3
      subst e1 e2 e3 e4 e5 e6 e8
      dsimp only at h16
      split at h16
      · rename_i cda nn cc
        obtain ⟨k1, k2⟩ := ba h16
        obtain ⟨k2, k3⟩ := ba k2
        have en : nn = ("__class__" : Str) := by simpa using e7
        subst en
        refine ⟨oc, od, n10, n11, n9, n12, cda, cc, n14, osl, "__init__", n2, msg, p1, p2, q1, q2, q3, q4, q5, q6, q7, q8, q9, q10, qa, qb, hl, ?_, k1, ?_, ?_⟩
        · rw [← hA, ← hB, ← hS]
        · split at k2
          · rename_i ccl cdd vs ccs hc
            split at k2
            · rename_i file tf hv
              exact ⟨ccl, cdd, vs, ccs, file, tf, hc, hv, k2⟩
            · cases k2
          · cases k2
        · split at k3
          · rename_i cl cld C' csl hc
            have ec : C' = ga K c := by simpa using k3
            subst ec
            exact ⟨cl, cld, csl, hc⟩
          · cases k3
      · cases h16
    | _ => cases h16
end Hd
namespace ScI
open PySem PySem.Spec PyProof.Rows L2
section
variable {X : Cx}
end
end ScI
namespace L2
open PySem PySem.Spec PyProof.Rows
end L2
namespace Dl
open PySem PySem.Spec PyProof.Rows L2
section
variable {K : PySem.W.Frag} {W : WS} {ta te : TE} {ma me : ME} {tt : TT} {mt : MT} {g : TG} {mg : MG} {vs : List Nat}
def RelQ (K : PySem.W.Frag) (G : Ent) (H : Hp) (σ : L2.St) (ρ : Env) (τ : L2.St) (δ : List Sl) (q : Addr) : Prop := ∃ F f1 f2, Good G F H (f1 ++ f2) ∧ Slots K F H τ δ f1 ∧ Slots K F H σ ρ f2 ∧ q ∉ f1 ++ f2 ∧ F q = none ∧ G.H q = none
theorem RelQ.start {G : Ent} {H : Hp} {σ τ : L2.St} {ρ : Env} {δ : List Sl} {q : Addr} {o : HO} (h : Rel K G H σ ρ τ δ) (hq : H q = none) : RelQ K G (upd H q o) σ ρ τ δ q := by
  obtain ⟨F, f1, f2, g, a, b⟩ := h
  have hin : ∀ x ∈ f1 ++ f2, H x ≠ none := fun x hx => (List.mem_append.mp hx).elim (a.here x) (b.here x)
  have nq : q ∉ f1 ++ f2 := fun z => hin q z hq
  have ne : ∀ x ∈ f1 ++ f2, upd H q o x = H x := fun x hx => upd_ne fun z => nq (z ▸ hx)
  have Fq : F q = none := by
    cases e : F q with
    | none => rfl
    | some u => have := g.sub q u e; rw [hq] at this; cases this
  have Gq : G.H q = none := by
    cases e : G.H q with
    | none => rfl
    | some u => exact absurd hq (g.all q (by rw [e]; exact fun z => by cases z))
  exact ⟨F, f1, f2, (g.newO hin hq o).less (List.sublist_cons_self _ _), a.mono Le.rfl fun x hx => ne x (List.mem_append_left _ hx), b.mono Le.rfl fun x hx => ne x (List.mem_append_right _ hx), nq, Fq, Gq⟩
theorem RelQ.put {G : Ent} {H : Hp} {σ τ : L2.St} {ρ : Env} {δ : List Sl} {q : Addr} {o : HO} (h : RelQ K G H σ ρ τ δ q) : RelQ K G (upd H q o) σ ρ τ δ q := by
  obtain ⟨F, f1, f2, g, a, b, nq, Fq, Gq⟩ := h
  have ne : ∀ x ∈ f1 ++ f2, upd H q o x = H x := fun x hx => upd_ne fun z => nq (z ▸ hx)
  refine ⟨F, f1, f2, ⟨fun x u e => ?_, g.f0, g.fN, fun x u e hn => ?_, fun x e => ?_, g.own, g.nf, g.nd⟩, a.mono Le.rfl fun x hx => ne x (List.mem_append_left _ hx), b.mono Le.rfl fun x hx => ne x (List.mem_append_right _ hx), nq, Fq, Gq⟩
  · rw [upd_ne fun z => by rw [z, Fq] at e; cases e]
    exact g.sub x u e
  · rw [upd_ne fun z => by rw [z, Gq] at e; cases e]
    exact g.frm x u e hn
  · by_cases z : x = q
    · rw [z, upd_same]; exact fun z => by cases z
    · rw [upd_ne z]; exact g.all x e
end
end Dl
namespace Dl
open PySem PySem.Spec PyProof.Rows L2
section
variable {K : PySem.W.Frag} {W : WS} {ta : TE} {ma : ME} {tl : TA} {ml : MB}
end
end Dl
namespace Dl
open PySem PySem.Spec PyProof.Rows L2
section
variable {K : PySem.W.Frag} {W : WS} {te : TE} {me : ME} {tA : TT} {mA : MT}
end
end Dl
namespace OpM
open PySem PySem.Spec PyProof.Rows L2
section
variable {X : Cx} {CX : CXT} {k : Nat} {f C : Addr} {sp : Sp} {E : L2.St → XK} {pos : Pos} {a b : Expr} {ta tb : TE}
end
end OpM
namespace Dl
open PySem PySem.Spec PyProof.Rows L2
section
variable {K : PySem.W.Frag} {W : WS} {G : Ent} {H : Hp} {σ τ : L2.St} {ρ δ : List Sl} {ta tb : TE} {ma mb : ME}
end
end Dl
namespace Dl
open PySem PySem.Spec PyProof.Rows L2
section
variable {K : PySem.W.Frag} {W : WS} {G : Ent} {H : Hp} {σ τ : L2.St} {ρ δ : List Sl}
end
end Dl
namespace OpM
open PySem PySem.Spec PyProof.Rows L2
variable {X : Cx} {o e : Expr} {es : List Expr} {to : TE} {t : TA} {name : Str} {apos cpos : Pos} {TT id : String} {r : V → List V → Hp → VK → Prop}
end OpM
namespace Dl
open PySem PySem.Spec PyProof.Rows L2
section
variable {K : PySem.W.Frag} {W : WS} {te : TE} {me : ME} {tt tt1 : TT} {mt mt1 : MT}
end
end Dl
namespace Dl
open PySem PySem.Spec PyProof.Rows L2
section
variable {X : Cx} {K : PySem.W.Frag}
end
end Dl
namespace Dl
open PySem PySem.Spec PyProof.Rows L2
mutual
/-- no list within -/
def D.noL : D → Bool
  | .non => true
  | .bl _ => true
  | .int _ => true
  | .str _ => true
  | .lst _ => false
  | .tup xs => D.noLs xs
  | .dic es => D.noLk es
  | .dil es => D.noLk es
  | .obj _ fs => D.noLs fs
  | .cls _ => true
  | .scr => false
  | .idn _ _ => false
  | .adr _ => false
  | .exc _ _ => false
  | .exb _ => false
def D.noLs : List D → Bool
  | [] => true
  | d :: ds => D.noL d && D.noLs ds
def D.noLk : List (Key × D) → Bool
  | [] => true
  | (_, d) :: ds => D.noL d && D.noLk ds
end
section
variable {K : PySem.W.Frag} {G : Ent} {F F3 H H' : Hp} {σ τ : L2.St} {ρ δ : List Sl} {v x : V} {s : Sl} {d : D}
def OffL (F F3 : Hp) : Prop := ∀ a o, F a = some o → F3 a = some o ∨ ∃ xs, o = .lst xs
theorem rd_off (l : OffL F F3) {a : Addr} {u : HO} (hu : ∀ xs, u ≠ .lst xs) (h : Rd F a u) : Rd F3 a u := by
  rcases h with h | ⟨o, h⟩
  · rcases l a _ h with z | ⟨xs, z⟩
    · exact .inl z
    · exact absurd z (hu xs)
  · rcases l a _ h with z | ⟨xs, z⟩
    · exact .inr ⟨o, z⟩
    · cases z
theorem sqt_off (l : OffL F F3) {a : Addr} {vs : List V} (h : SqT K F a vs) : SqT K F3 a vs := by
  rcases h with h | h
  · exact .inl (rd_off l (fun _ z => by cases z) h)
  · exact .inr h
mutual
theorem Rep.off (l : OffL F F3) : ∀ {v : V} {d : D}, Rep K F v d → D.noL d = true → Rep K F3 v d
  | _, _, .non, _ => .non
  | _, _, .bl b, _ => .bl b
  | _, _, .int i, _ => .int i
  | _, _, .str x, _ => .str x
  | _, _, .lst h r, e => by unfold D.noL at e; cases e
  | _, _, .tup h r, e => .tup (sqt_off l h) (RepL.off l r (by unfold D.noL at e; exact e))
  | _, _, .dic h r, e => .dic ((l _ _ h).resolve_right fun ⟨_, z⟩ => by cases z) (RepK.off l r (by unfold D.noL at e; exact e))
  | _, _, .dil h r, e => .dil ((l _ _ h).resolve_right fun ⟨_, z⟩ => by cases z) (RepK.off l r (by unfold D.noL at e; exact e))
  | _, _, .obj h h' n r, e => .obj ((l _ _ h).resolve_right fun ⟨_, z⟩ => by cases z) ((l _ _ h').resolve_right fun ⟨_, z⟩ => by cases z) n (RepL.off l r (by unfold D.noL at e; exact e))
  | _, _, .cls c, _ => .cls c
  | _, _, .scr h, e => by unfold D.noL at e; cases e
theorem RepL.off (l : OffL F F3) : ∀ {v : List V} {d : List D}, RepL K F v d → D.noLs d = true → RepL K F3 v d
  | _, _, .nil, _ => .nil
  | _, _, .cons h r, e => by
    unfold D.noLs at e
    rw [Bool.and_eq_true] at e
    exact .cons (Rep.off l h e.1) (RepL.off l r e.2)
theorem RepK.off (l : OffL F F3) : ∀ {v : List (Key × V)} {d : List (Key × D)}, RepK K F v d → D.noLk d = true → RepK K F3 v d
  | _, _, .nil, _ => .nil
  | _, _, .cons h r, e => by
    unfold D.noLk at e
    rw [Bool.and_eq_true] at e
    exact .cons (Rep.off l h e.1) (RepK.off l r e.2)
end
def Sh.listy : Sh → Bool
  | .fr => true
  | .ol s => Sh.listy s
  | _ => false
def Sl.listy : Sl → Bool
  | .un => true
  | .sh _ => true
  | .ow z _ => z.listy
  | .le _ z _ => z.listy
  | .bx => true
  | .lb _ => true
  | .er .. => false
mutual
theorem Own.listy : ∀ {z : Sh} {v : V} {d : D} {fp : List Addr}, Own K F H z v d fp → z.listy = true → ∀ a ∈ fp, ∃ xs, H a = some (.lst xs)
  | _, _, _, _, .fr r, _, a, ha => by cases ha
  | _, _, _, _, .ol h r, e, a, ha => by
    rcases List.mem_cons.mp ha with rfl | ha
    · exact ⟨_, h⟩
    · exact OwnL.listy r (by unfold Sh.listy at e; exact e) a ha
  | _, _, _, _, .od h r, e, a, ha => by unfold Sh.listy at e; cases e
  | _, _, _, _, .oo h h' n r, e, a, ha => by unfold Sh.listy at e; cases e
  | _, _, _, _, .ot h r, e, a, ha => by unfold Sh.listy at e; cases e
  | _, _, _, _, .oh h r, e, a, ha => by unfold Sh.listy at e; cases e
  | _, _, _, _, .ft h r, e, a, ha => by unfold Sh.listy at e; cases e
theorem OwnL.listy : ∀ {z : Sh} {v : List V} {d : List D} {fp : List Addr}, OwnL K F H z v d fp → z.listy = true → ∀ a ∈ fp, ∃ xs, H a = some (.lst xs)
  | _, _, _, _, .nil, _, a, ha => by cases ha
  | _, _, _, _, .cons h r, e, a, ha => by
    rcases List.mem_append.mp ha with ha | ha
    · exact Own.listy h e a ha
    · exact OwnL.listy r e a ha
end
theorem SlV.listy {o : Option V} {s : Sl} {fp : List Addr} (h : SlV K F H o s fp) (e : s.listy = true) : ∀ a ∈ fp, ∃ xs, H a = some (.lst xs) := by
  cases h with
  | un => intro a ha; cases ha
  | sh r => intro a ha; cases ha
  | ow r => exact r.listy e
  | le r => exact r.listy e
  | erB q => cases e
  | er q h r => cases e
  | bx r =>
    obtain ⟨cs, i, r, s, h1, h2, h3⟩ := r
    intro a ha
    rcases List.mem_cons.mp ha with rfl | ha
    · exact ⟨_, h1⟩
    · rw [List.mem_singleton.mp ha]; exact ⟨_, h2⟩
  | lb r =>
    obtain ⟨cs, i, r, s, h1, h2, h3⟩ := r
    intro a ha
    rcases List.mem_cons.mp ha with rfl | ha
    · exact ⟨_, h1⟩
    · rw [List.mem_singleton.mp ha]; exact ⟨_, h2⟩
theorem Slots.listy {fp : List Addr} (h : Slots K F H σ ρ fp) : ρ.all Sl.listy = true → ∀ a ∈ fp, ∃ xs, H a = some (.lst xs) := by
  induction h with
  | nil => intro _ a ha; cases ha
  | cons h r ih =>
    intro e a ha
    rw [List.all_cons, Bool.and_eq_true] at e
    rcases List.mem_append.mp ha with ha | ha
    · exact h.listy e.1 a ha
    · exact ih e.2 a ha
def Sl.noL : Sl → Bool
  | .sh d => d.noL
  | .ow (.ol .fr) (.lst ds) => D.noLs ds
  | _ => false
theorem SlV.noL {o : Option V} {s : Sl} {f : List Addr} (l : OffL F F3) (h : SlV K F H o s f) (e : s.noL = true) : SlV K F3 H o s f := by
  cases h with
  | sh r => exact .sh (r.off l e)
  | ow r =>
    unfold Sl.noL at e
    split at e
    · rename_i q
      cases q
    · rename_i q
      cases q
      cases r with
      | ol h r =>
        obtain ⟨r', rfl⟩ := OwnL.rep r
        exact .ow (.ol h (RepL.own (r'.off l e)))
    · cases e
  | _ => cases e
def mBorN (m : ME) : ME := ⟨fun ρ Q E => ρ.all Sl.listy = true ∧ m.wp (ρ.map Sl.bz) (fun s _ => s.noL = true ∧ Q s ρ) (fun er _ => er.d.flat = true ∧ E er ρ), fun h h' w => ⟨w.1, m.mono (fun s r z => ⟨z.1, h _ _ z.2⟩) (fun er r z => ⟨z.1, h' _ _ z.2⟩) w.2⟩⟩
theorem eBorN {W : WS} {ma : ME} {t : TE} (ht : EOk K W t ma) : EOk K W t (mBorN ma) := fun G H σ ρ τ δ Q h ⟨ly, w⟩ => by
  obtain ⟨F, f1, f2, g, hτ, hs⟩ := h
  have lst := hs.listy ly
  have hf : ∀ a ∈ f2, F a = none := fun a ha => g.nf a (List.mem_append_right _ ha)
  have l := fzH_le (H := H) hf
  have g' : Good ⟨H, fzH F H f2, []⟩ (fzH F H f2) H ([] ++ []) := ⟨fun a o e => by
    by_cases z : a ∈ f2
    · rw [fzH_in z] at e; exact e
    · rw [fzH_out z] at e; exact g.sub a o e, Le.rfl, fun a e => .inl e, fun a o e _ => e, fun a e => e, fun a ha => (by cases ha), fun a ha => (by cases ha), List.nodup_nil⟩
  have hin : ∀ a ∈ f1 ++ f2, H a ≠ none := fun a ha => by
    rcases List.mem_append.mp ha with z | z
    · exact hτ.here a z
    · exact hs.here a z
  have hR : Rel K ⟨H, fzH F H f2, []⟩ H σ (ρ.map Sl.bz) [] [] := ⟨_, [], [], g', .nil, hs.bz l fun a ha => fzH_in ha⟩
  have back : ∀ (s : Sl) (ρ' : Env) (v : V) (H' : Hp), s.noL = true → Rel K ⟨H, fzH F H f2, []⟩ H' σ ρ' [some v] [s] → Rel K G H' σ ρ (some v :: τ) (s :: δ) := fun s ρ' v H' hc hr => by
    obtain ⟨F', g1, g2, gg, ht, _⟩ := hr
    cases ht with
    | cons q1 q2 =>
      cases q2
      rename_i fa
      have hsame : Same H H' := fun a o e => gg.frm a o e (by simp)
      have hn : ∀ a ∈ f1 ++ f2, H' a = H a := fun a ha => by
        cases q : H a with
        | none => exact absurd q (hin a ha)
        | some o => exact hsame _ _ q
      have hnew : ∀ a ∈ fa, H a = none := fun a ha => by
        rcases gg.own a (by simp [ha]) with z | z
        · cases z
        · exact z
      have hF' : ∀ a, F' a ≠ none → fzH F H f2 a ≠ none ∨ H a = none := fun a e => by
        rcases gg.fN a e with z | z | z
        · exact .inl z
        · exact .inr z
        · cases z
      let F3 : Hp := fun a => if a ∈ f2 then none else F' a
      have f3in : ∀ a, a ∈ f2 → F3 a = none := fun a z => if_pos z
      have f3out : ∀ a, a ∉ f2 → F3 a = F' a := fun a z => if_neg z
      have off : OffL F' F3 := fun a o e => by
        by_cases z : a ∈ f2
        · obtain ⟨xs, hx⟩ := lst a z
          have e1 := gg.sub a o e
          have e2 := hsame _ _ hx
          rw [e1] at e2
          exact .inr ⟨xs, Option.some.inj e2⟩
        · exact .inl (by rw [f3out a z]; exact e)
      have le3 : Le F F3 := fun a o e => by
        have z : a ∉ f2 := fun z => by rw [hf a z] at e; cases e
        rw [f3out a z]
        exact gg.f0 a o (by show fzH F H f2 a = _; rw [fzH_out z]; exact e)
      have gn : Good G F3 H' (fa ++ (f1 ++ f2)) := by
        refine ⟨fun a o e => ?_, g.f0.trans le3, fun a e => ?_, fun a o e hn' => hsame _ _ (g.frm a o e hn'), fun a e => ?_, fun a ha => ?_, fun a ha => ?_, ?_⟩
        · by_cases z : a ∈ f2
          · rw [f3in a z] at e; cases e
          · rw [f3out a z] at e; exact gg.sub a o e
        · by_cases z : a ∈ f2
          · rw [f3in a z] at e; exact absurd rfl e
          · rw [f3out a z] at e
            rcases hF' a e with y | y
            · rw [fzH_out z] at y
              exact g.fN a y
            · refine .inr (.inl ?_)
              cases q : G.H a with
              | none => rfl
              | some o => exact absurd y (g.all a (by rw [q]; intro z; cases z))
        · have h1 := g.all a e
          cases q : H a with
          | none => exact absurd q h1
          | some o => rw [hsame _ _ q]; intro z; cases z
        · rcases List.mem_append.mp ha with z | z
          · refine .inr ?_
            cases q : G.H a with
            | none => rfl
            | some o => exact absurd (hnew a z) (g.all a (by rw [q]; intro z; cases z))
          · exact g.own a z
        · rcases List.mem_append.mp ha with z | z
          · have : a ∉ f2 := fun y => hin a (List.mem_append_right _ y) (hnew a z)
            rw [f3out a this]
            exact gg.nf a (by simp [z])
          · rcases List.mem_append.mp z with y | y
            · have h2 : a ∉ f2 := fun y2 => (List.nodup_append.mp g.nd).2.2 a y a y2 rfl
              rw [f3out a h2]
              cases q : F' a with
              | none => rfl
              | some o =>
                rcases hF' a (by rw [q]; intro z; cases z) with e | e
                · rw [fzH_out h2] at e
                  exact absurd (g.nf a z) e
                · exact absurd e (hin a z)
            · exact f3in a y
        · refine List.nodup_append.mpr ⟨?_, g.nd, fun a ha b hb e => ?_⟩
          · have := gg.nd
            simp only [List.append_nil, List.nodup_append] at this
            exact this.1
          · subst e
            exact hin a hb (hnew a ha)
      rw [← List.append_assoc] at gn
      exact ⟨F3, fa ++ f1, f2, gn, .cons (q1.noL off hc) (hτ.mono le3 fun a ha => hn a (List.mem_append_left _ ha)), hs.mono le3 fun a ha => hn a (List.mem_append_right _ ha)⟩
  exact ht _ H σ _ [] [] Q hR (ma.mono (fun s ρ' z v H' q => z.2 v H' (back s ρ' v H' z.1 q)) (fun er ρ' z v H' q => z.2 v H' (back (.sh er.d) ρ' v H' (by
    have := z.1
    cases hd : er.d <;> rw [hd] at this <;> first | rfl | cases this) q)) w)
end
section
variable {K : PySem.W.Frag} {W : WS} {ta tb tc : TE} {ma mb mc : ME}
end
end Dl
namespace SupX
open PySem PySem.Spec PyProof.Rows L2 PySem.Calls
structure ScopeS (N P : List Str) (sc : Scope) : Prop where
  kind : sc.kind = .function
  co : sc.isCoroutine = false
  gen : sc.isGenerator = false
  nd : N.Nodup
  pre : N.take P.length = P
  par : ∀ x ∈ P, sc.names.lookup x = some .local
  free : ∀ y ∈ sc.names, (y.2 = .free → y.1 = ("__class__" : Str)) ∧ y.2 ≠ .cell
  cls : sc.names.lookup ("__class__" : Str) = some .free
  sup : sc.names.lookup ("super" : Str) = some .globalImplicit
section
variable {CX : CXT} {P : Program} {w : World} {K : PySem.W.Frag} {mg : Str → Option Value} {base : Heap} {N ps : List Str} {qual : Str} {scope : Scope} {f cda cc : Addr} {A : Around} {outer : List Env} {s : Shared} {H : Hp} {E : XK} {us : List Value} {vs : List V}
end
end SupX
namespace SupX
open PySem PySem.Spec PyProof.Rows L2 PySem.Calls
structure FunS (P : Program) (K : PySem.W.Frag) (x qual : Str) (params : Arguments) (body : List Stmt) (scope : Scope) (C f f2 : Addr) (fd : FuncData) : Prop where
  ex : ∃ (oc : Value) (od : Option Addr) (kV doc pm : Value) (an : Option Addr) (cda : Addr) (ct : Value) (cc : Addr) (osl : Array (Option Value)),
    fd = PySem.W.ksFn x qual params body scope .none kV doc pm an (.ref cda) ct cc ∧ K.lookup f = some ⟨oc, od, .func fd, osl⟩ ∧ PySem.W.codeIn K (.ref cda) qual = true ∧
    (∃ (ccl : Value) (cdd : Option Addr) (cvv : Array Value) (ccs : Array (Option Value)) (file : Str) (tf : Tok), K.lookup cda = some ⟨ccl, cdd, .fields cvv, ccs⟩ ∧ cvv[2]? = some (.str file tf) ∧ ((P.main.file : Str) == file) = true) ∧
    (∃ (cl : Value) (cld : Option Addr) (csl : Array (Option Value)), K.lookup cc = some ⟨cl, cld, .cell (some (.ref C)), csl⟩)
  cls : ∃ cd, PySem.W.clsIn K C = some cd
  self : PySem.W.mroIn K C (.ref C) = some true
  sup : PySem.W.ks_superIn K C C "__init__" = some (some (.ref f2))
  ty : PySem.W.typeIn K (.ref f2) = some (.type "function")
  fn2 : PySem.W.fnIn K f2 = true
  opq : PySem.W.nsIn K cStatics "thirdparty.any" = some none
  top : (P.main.scope.names.lookup ("super" : Str)).isSome = false
section
variable {CX : CXT} {P : Program} {w : World} {K : PySem.W.Frag} {mg : Str → Option Value} {base : Heap} {N ps ps' : List Str} {x qual : Str} {params : Arguments} {scope : Scope} {f f2 C : Addr} {fd : FuncData} {k : Nat} {sp sp2 : Sp} {ar : Arg}
  {pre rest : List Stmt} {e1 : Expr} {es : List Expr} {q1 q2 q3 q5 q6 : Pos}
end
end SupX
namespace SupX
open PySem PySem.Spec PyProof.Rows L2 PySem.Calls
theorem FunS.bindsN {P : Program} {K : PySem.W.Frag} {x qual : Str} {params : Arguments} {body : List Stmt} {scope : Scope} {C f f2 : Addr} {fd : FuncData} {ps : List Str} (T : FunS P K x qual params body scope C f f2 fd)
    (h : ∀ (kV doc pm : Value) (an : Option Addr) (cdv ct : Value) (cc : Addr) (us : List Value), us.length = ps.length → bindArgs (PySem.W.ksFn x qual params body scope .none kV doc pm an cdv ct cc) ⟨us, []⟩ = pure (ps.zip us)) : Binds K fd ps [] := by
  obtain ⟨oc, od, kV, doc, pm, an, cda, ct, cc, osl, rfl, _⟩ := T.ex
  exact .all (h kV doc pm an _ ct cc)
end SupX
namespace Dl
open PySem PySem.Spec PyProof.Rows L2
section
variable {K : PySem.W.Frag} {W : WS} {F H : Hp} {P : Program} {w : World} {mg : Str → Option Value} {base : Heap} {x qual : Str} {params : Arguments} {body : List Stmt} {scope : Scope} {kws : List (Str × V)} {f : Addr} {fd : FuncData}
end
end Dl
namespace Hd
open PySem PySem.Spec PyProof.Rows L2
end Hd
namespace AndX
open PySem PySem.Spec PyProof.Rows L2 PySem.Calls
section
variable {α : Type} {prog : Program} {w : World} {A : Around} {E : Value → Shared → Prop} {s : Shared} {K : PySem.W.Frag}
structure Lacks (K : PySem.W.Frag) (D : Addr) (name : Str) : Prop where
  cd : ∃ cd, PySem.W.clsIn K D = some cd ∧ cd.name.cps.foldl (fun k c => k + (Str.utf8Of c).length) 0 ≤ 100 ∧ (missMsg cd.name name).length ≤ sizeLine
  ty : PySem.W.typeIn K (.ref D) = some (.type "type")
  no : PySem.W.findIn K (.ref D) name = some none
  nt : PySem.W.findIn K (.type "type") name = some none
  opq : PySem.W.nsIn K cStatics "thirdparty.any" = some none
structure OpC (K : PySem.W.Frag) (C : Addr) (nm : String) (f : Addr) : Prop where
  at_ : PySem.W.findIn K (.ref C) (dunder nm) = some (some (.ref f))
  fn : PySem.W.isFn K (.ref f) = true
  first : PySem.W.selfFirst K C = true
  lack : Lacks K C (dunderR nm)
end
section
variable {X : Cx} {CX : CXT} {k : Nat} {f : Addr} {sp : Sp} {E : L2.St → XK} {a b : Expr} {ta tb : TE} {pos : Pos} {P : Addr → Prop}
structure Kin (K : PySem.W.Frag) (P : Addr → Prop) (nm : String) (f : Addr) : Prop where
  op : ∀ C, P C → OpC K C nm f
  sub : ∀ C D, P C → P D → ∃ b, PySem.W.mroIn K D (.ref C) = some b
  ga : PySem.W.findIn K (.type "type") "__getattribute__" = some (some (.builtin "type.__getattribute__"))
  tt : PySem.W.subIn K (.type "type") (.type "type") = some true
  sz : (dunderR nm).length ≤ sizeLine
end
end AndX
namespace Dl
open PySem PySem.Spec PyProof.Rows L2
section
variable {K : PySem.W.Frag} {W : WS} {ta tb : TE} {ma mb : ME}
end
end Dl
namespace Cl
open PySem PySem.Spec PyProof.Rows L2 RZ
section
variable {X : Cx} {e : Expr} {pos : Pos}
end
end Cl
namespace Dl
open PySem PySem.Spec PyProof.Rows L2 RZ
section
variable {K : PySem.W.Frag} {W : WS} {G : Ent} {ta tb : TE} {ma mb : ME}
end
end Dl
namespace Dl
open PySem PySem.Spec PyProof.Rows L2
inductive Pt where
  | fld (c j : Nat) | tp (j : Nat) | idx (n : Nat)
def subP : List Pt → Sh → D → Option (Sh × D)
  | [], z, d => some (z, d)
  | .fld c j :: p, .oo ss, .obj c' ds => match Nat.beq c' c, ss[j]?, ds[j]? with
    | true, some z, some d => subP p z d
    | _, _, _ => none
  | .tp j :: p, .ot ss, .tup ds => match ss[j]?, ds[j]? with
    | some z, some d => subP p z d
    | _, _ => none
  | .idx n :: p, .ol s, .lst ds => match ds[n]? with
    | some d => subP p s d
    | none => none
  | _, _, _ => none
def putP : List Pt → D → D → D
  | [], _, x => x
  | .fld _ j :: p, .obj c' ds, x => match ds[j]? with
    | some d => .obj c' (ds.set j (putP p d x))
    | none => .obj c' ds
  | .tp j :: p, .tup ds, x => match ds[j]? with
    | some d => .tup (ds.set j (putP p d x))
    | none => .tup ds
  | .idx n :: p, .lst ds, x => match ds[n]? with
    | some d => .lst (ds.set n (putP p d x))
    | none => .lst ds
  | _, d, _ => d
inductive AtP (K : PySem.W.Frag) (H : Hp) : V → List Pt → V → Prop
  | nil {v : V} : AtP K H v [] v
  | fld {a dx : Addr} {c j k : Nat} {fs : List (Str × V)} {v u : V} {p : List Pt} : H a = some (.ins (He.ga K (cn c)) dx fs) → fs.map (·.1) = (cf c).take k → (fs.map (·.2))[j]? = some v → AtP K H v p u → AtP K H (.ref a) (.fld c j :: p) u
  | tp {a : Addr} {j : Nat} {vs : List V} {v u : V} {p : List Pt} : H a = some (.tup vs) → vs[j]? = some v → AtP K H v p u → AtP K H (.ref a) (.tp j :: p) u
  | idx {a : Addr} {n : Nat} {vs : List V} {v u : V} {p : List Pt} : H a = some (.lst vs) → vs[n]? = some v → AtP K H v p u → AtP K H (.ref a) (.idx n :: p) u
section
variable {K : PySem.W.Frag} {W W' : WS} {ta tb tc te tn tv to : TE} {ma mb mc me mn mv : ME} {t u : TS} {m k : MS} {tA tt : TT} {mA mt : MT} {tl : TA} {ml : MA} {G : Ent} {F H H' : Hp} {σ τ : L2.St} {ρ : Env} {δ : List Sl}
theorem AtP.det {v u u' : V} {p : List Pt} (h : AtP K H v p u) (h' : AtP K H v p u') : u = u' := by
  induction h with
  | nil => cases h'; rfl
  | fld h1 h2 h3 _ ih => cases h' with | fld g1 g2 g3 g4 => rw [h1] at g1; cases g1; rw [h3] at g3; cases g3; exact ih g4
  | tp h1 h3 _ ih => cases h' with | tp g1 g3 g4 => rw [h1] at g1; cases g1; rw [h3] at g3; cases g3; exact ih g4
  | idx h1 h3 _ ih => cases h' with | idx g1 g3 g4 => rw [h1] at g1; cases g1; rw [h3] at g3; cases g3; exact ih g4
theorem AtP.mono {v u : V} {p : List Pt} (l : Le H H') (h : AtP K H v p u) : AtP K H' v p u := by
  induction h with
  | nil => exact .nil
  | fld h1 h2 h3 _ ih => exact .fld (l _ _ h1) h2 h3 ih
  | tp h1 h3 _ ih => exact .tp (l _ _ h1) h3 ih
  | idx h1 h3 _ ih => exact .idx (l _ _ h1) h3 ih
theorem Own.sub : ∀ {p : List Pt} {z : Sh} {v : V} {d : D} {f : List Addr} {z' : Sh} {d' : D}, Own K F H z v d f → subP p z d = some (z', d') → ∃ u l f' r, AtP K H v p u ∧ f = l ++ (f' ++ r) ∧ Own K F H z' u d' f' ∧
    ∀ F' H' d2 f2, Le F F' → (∀ a ∈ l ++ r, H' a = H a) → Own K F' H' z' u d2 f2 → Own K F' H' z v (putP p d d2) (l ++ (f2 ++ r))
  | [], z, v, d, f, z', d', q, e => by
    cases e
    exact ⟨v, [], f, [], .nil, by simp, q, fun F' H' d2 f2 _ _ q' => by simpa [putP] using q'⟩
  | .fld c j :: p, z, v, d, f, z', d', q, e => by
    cases q with
    | @oo ss a dx c' fs ds fp h1 h2 h3 h4 =>
      unfold subP at e
      split at e
      · rename_i z1 d1 hc hs hd
        obtain rfl := Nat.eq_of_beq_eq_true hc
        obtain ⟨v1, d1', l1, f1, r1, g1, g2, g3, g4, g5⟩ := h4.get hs
        rw [hd] at g2; cases g2
        obtain ⟨u, l', f', r', a1, a2, a3, a4⟩ := Own.sub (p := p) g4 e
        subst g3
        subst a2
        refine ⟨u, a :: dx :: (l1 ++ l'), f', r' ++ r1, .fld h1 h3 g1 a1, by simp [List.append_assoc], a3, fun F' H' d2 f2 hl hh q' => ?_⟩
        have b := g5 F' H' z1 v1 _ _ hl (fun b hb => hh b (by
          rcases List.mem_append.mp hb with z | z
          · simp [z]
          · simp [z])) (a4 F' H' d2 f2 hl (fun b hb => hh b (by
          rcases List.mem_append.mp hb with z | z
          · simp [z]
          · simp [z])) q')
        rw [set_same hs, set_same g1] at b
        have e2 : putP (.fld c' j :: p) (.obj c' ds) d2 = .obj c' (ds.set j (putP p d1 d2)) := by
          show (match ds[j]? with | some d => D.obj c' (ds.set j (putP p d d2)) | none => .obj c' ds) = _
          rw [hd]
        rw [e2]
        have := Own.oo (K := K) (F := F') (H := H') (fs := fs) (by rw [hh a (by simp)]; exact h1) (by rw [hh dx (by simp)]; exact h2) (by rw [List.length_set]; exact h3) b
        simpa [List.append_assoc] using this
      · cases e
    | _ => cases e
  | .tp j :: p, z, v, d, f, z', d', q, e => by
    cases q with
    | @ot ss a vs ds fp h1 h4 =>
      unfold subP at e
      split at e
      · rename_i z1 d1 hs hd
        obtain ⟨v1, d1', l1, f1, r1, g1, g2, g3, g4, g5⟩ := h4.get hs
        rw [hd] at g2; cases g2
        obtain ⟨u, l', f', r', a1, a2, a3, a4⟩ := Own.sub (p := p) g4 e
        subst g3
        subst a2
        refine ⟨u, a :: (l1 ++ l'), f', r' ++ r1, .tp h1 g1 a1, by simp [List.append_assoc], a3, fun F' H' d2 f2 hl hh q' => ?_⟩
        have b := g5 F' H' z1 v1 _ _ hl (fun b hb => hh b (by
          rcases List.mem_append.mp hb with z | z
          · simp [z]
          · simp [z])) (a4 F' H' d2 f2 hl (fun b hb => hh b (by
          rcases List.mem_append.mp hb with z | z
          · simp [z]
          · simp [z])) q')
        rw [set_same hs, set_same g1] at b
        have e2 : putP (.tp j :: p) (.tup ds) d2 = .tup (ds.set j (putP p d1 d2)) := by
          show (match ds[j]? with | some d => D.tup (ds.set j (putP p d d2)) | none => .tup ds) = _
          rw [hd]
        rw [e2]
        have := Own.ot (K := K) (F := F') (H := H') (by rw [hh a (by simp)]; exact h1) b
        simpa [List.append_assoc] using this
      · cases e
    | _ => cases e
  | .idx n :: p, z, v, d, f, z', d', q, e => by
    cases q with
    | @ol s a vs ds fp h1 h4 =>
      unfold subP at e
      split at e
      · rename_i d1 hd
        obtain ⟨v1, l1, f1, r1, g1, g3, g4, g5⟩ := h4.get hd
        obtain ⟨u, l', f', r', a1, a2, a3, a4⟩ := Own.sub (p := p) g4 e
        subst g3
        subst a2
        refine ⟨u, a :: (l1 ++ l'), f', r' ++ r1, .idx h1 g1 a1, by simp [List.append_assoc], a3, fun F' H' d2 f2 hl hh q' => ?_⟩
        have b := g5 F' H' _ _ hl (fun b hb => hh b (by
          rcases List.mem_append.mp hb with z | z
          · simp [z]
          · simp [z])) (a4 F' H' d2 f2 hl (fun b hb => hh b (by
          rcases List.mem_append.mp hb with z | z
          · simp [z]
          · simp [z])) q')
        have e2 : putP (.idx n :: p) (.lst ds) d2 = .lst (ds.set n (putP p d1 d2)) := by
          show (match ds[n]? with | some d => D.lst (ds.set n (putP p d d2)) | none => .lst ds) = _
          rw [hd]
        rw [e2]
        have := Own.ol (K := K) (F := F') (H := H') (by rw [hh a (by simp)]; exact h1) b
        simpa [List.append_assoc] using this
      · cases e
    | _ => cases e
def PlOk (K : PySem.W.Frag) (t : TE) (i : Nat) (p : List Pt) : Prop := ∀ σ H v u Q, σ[i]? = some (some v) → AtP K H v p u → Q u H → t σ H Q
theorem AtP.snoc {H : Hp} : ∀ {p : List Pt} {v u : V} {q : Pt}, AtP K H v (p ++ [q]) u → ∃ x, AtP K H v p x ∧ AtP K H x [q] u
  | [], v, u, q, h => ⟨v, .nil, h⟩
  | _ :: p, v, u, q, h => by
    cases h with
    | fld h1 h2 h3 h4 => obtain ⟨x, a, b⟩ := AtP.snoc h4; exact ⟨x, .fld h1 h2 h3 a, b⟩
    | tp h1 h3 h4 => obtain ⟨x, a, b⟩ := AtP.snoc h4; exact ⟨x, .tp h1 h3 a, b⟩
    | idx h1 h3 h4 => obtain ⟨x, a, b⟩ := AtP.snoc h4; exact ⟨x, .idx h1 h3 a, b⟩
theorem pl_var {i : Nat} : PlOk K (tVar i) i [] := fun σ H v u Q e h q => by cases h; exact ⟨v, e, q⟩
theorem pl_idx {i j : Nat} {p : List Pt} (h : PlOk K to i p) : PlOk K (tOp (rIxL K) to (tC (.int ((j : Nat) : Int)))) i (p ++ [.idx j]) := fun σ H v u Q e ha q => by
  obtain ⟨x, a1, a2⟩ := ha.snoc
  refine h σ H v x _ e a1 ?_
  cases a2 with
  | idx g1 g3 g4 => cases g4; exact ⟨_, _, _, _, rfl, rfl, SqL.of g1, atI_of g3, q⟩
theorem Rel.ownP {i : Nat} {s sv : Sl} {o0 : Option V} {z z' : Sh} {d d' : D} {p : List Pt} (h : Rel K G H σ ρ (o0 :: τ) (sv :: δ)) (e : ρ[i]? = some s) (eo : s.own = some (z, d)) (ep : subP p z d = some (z', d')) : ∃ F f0 v u f, SlV K F H o0 sv f0 ∧ Le F H ∧ σ[i]? = some (some v) ∧ AtP K H v p u ∧ Own K F H z' u d' f ∧ (∀ a ∈ f, a ∉ f0) ∧ f.Nodup ∧
    (∀ a o d2 f2, a ∈ f → Own K F (upd H a o) z' u d2 f2 → (∀ b, f2.count b ≤ f0.count b + f.count b) → Rel K G (upd H a o) σ (ρ.set i (s.put z (putP p d d2))) τ δ) := by
  obtain ⟨F, f0, v, f, q0, hl, e1, q, hdis, hnd, k⟩ := h.own1 e eo
  obtain ⟨u, l, f', r, a1, a2, a3, a4⟩ := q.sub ep
  subst a2
  have hn2 : f'.Nodup := List.nodup_iff_count.mpr fun b => by
    have c1 := List.nodup_iff_count.mp hnd b
    simp only [List.count_append] at c1
    omega
  refine ⟨F, f0, v, u, f', q0, hl, e1, a1, a3, fun a ha => hdis a (by simp [ha]), hn2, fun a o d2 f2 ha q' hc => ?_⟩
  refine k a o z _ _ (by simp [ha]) (a4 F _ d2 f2 Le.rfl (fun b hb => upd_ne fun z => ?_) q') (fun b => ?_)
  · subst z
    have c1 := List.nodup_iff_count.mp hnd b
    have c2 := List.count_pos_iff.mpr ha
    have c3 := List.count_pos_iff.mpr hb
    simp only [List.count_append] at c1 c3
    omega
  · have := hc b
    simp only [List.count_append] at this ⊢
    omega
def ownPL {α : Type} (i : Nat) (p : List Pt) (f : List D → Option (Prop × List D × α)) : M α := atOwn i fun s z d => ⟨fun ρ Q _ => match subP p z d with
  | some (.ol .fr, .lst ds) => match f ds with
    | some (pp, ds', a) => pp ∧ Q a (ρ.set i (s.put z (putP p d (.lst ds'))))
    | none => False
  | _ => False, fun {ρ Q Q' E E'} h h' w => by
    revert w
    split
    · split
      · exact fun w => ⟨w.1, h _ _ w.2⟩
      · exact id
    · exact id⟩
theorem ownPL_go {α : Type} {i : Nat} {p : List Pt} {f : List D → Option (Prop × List D × α)} {ρ : Env} {Q : α → Env → Prop} {E : Er → Env → Prop} (w : (ownPL i p f).wp ρ Q E) : ∃ s z d ds pp ds' a, ρ[i]? = some s ∧ s.own = some (z, d) ∧ subP p z d = some (.ol .fr, .lst ds) ∧ f ds = some (pp, ds', a) ∧ pp ∧ Q a (ρ.set i (s.put z (putP p d (.lst ds')))) := by
  obtain ⟨s, z, d, e, eo, w⟩ := atOwn_go w
  simp only at w
  split at w
  · split at w
    · exact ⟨_, _, _, _, _, _, _, e, eo, by assumption, by assumption, w.1, w.2⟩
    · exact w.elim
  · exact w.elim
theorem Rel.ownPL {i : Nat} {s sv : Sl} {o0 : Option V} {z : Sh} {d : D} {p : List Pt} {ds : List D} (h : Rel K G H σ ρ (o0 :: τ) (sv :: δ)) (e : ρ[i]? = some s) (eo : s.own = some (z, d)) (ep : subP p z d = some (.ol .fr, .lst ds)) : ∃ F f0 v l vs, SlV K F H o0 sv f0 ∧ Le F H ∧ σ[i]? = some (some v) ∧ AtP K H v p (.ref l) ∧ H l = some (.lst vs) ∧ RepL K F vs ds ∧
    (∀ vs' ds', RepL K F vs' ds' → Rel K G (upd H l (.lst vs')) σ (ρ.set i (s.put z (putP p d (.lst ds')))) τ δ) := by
  obtain ⟨F, f0, v, u, f, q0, hl, e1, a1, q, hdis, hnd, k⟩ := h.ownP e eo ep
  cases q with
  | @ol _ l vs _ fp hh rl =>
    obtain ⟨rl', rfl⟩ := rl.rep
    exact ⟨F, f0, v, l, vs, q0, hl, e1, a1, hh, rl', fun vs' ds' r' => k l _ _ [l] (by simp) (.ol upd_same r'.own) (fun b => by omega)⟩
def mClrP (i : Nat) (p : List Pt) : ME := ownPL i p fun _ => some (True, [], .sh .non)
theorem eClrP {i : Nat} {p : List Pt} (hp : PlOk K to i p) : EOk K W (tBM0 K "list" rClear to) (mClrP i p) := fun G H σ ρ τ δ Q h w => by
  obtain ⟨s, z, d, ds, pp, ds', a, e, eo, ep, ef, hp', q⟩ := ownPL_go w
  cases ef
  obtain ⟨F2, f2, v, l, vs, q0, hl, e1, a1, hh, rl, k⟩ := (h.push (v := .non) (d := .non) rfl).ownPL e eo ep
  exact hp σ H v _ _ e1 a1 ⟨Or.inl ⟨rfl, _, SqL.of hh⟩, l, vs, rfl, rfl, hh, q _ _ ((k _ _ .nil).push rfl)⟩
def isOwnP (i : Nat) (p : List Pt) (m : ME) : ME := atOwn i fun _ z d => match subP p z d with
  | some (.ol .fr, .lst _) => m
  | _ => M.stuck
theorem isOwnP_go {i : Nat} {p : List Pt} {m : ME} {ρ : Env} {Q : Sl → Env → Prop} {E : Er → Env → Prop} (w : (isOwnP i p m).wp ρ Q E) : ∃ s z d ds, ρ[i]? = some s ∧ s.own = some (z, d) ∧ subP p z d = some (.ol .fr, .lst ds) ∧ m.wp ρ Q E := by
  obtain ⟨s, z, d, e, eo, w⟩ := atOwn_go w
  split at w
  · exact ⟨s, _, _, _, e, eo, by assumption, w⟩
  · exact w.elim
def mAppP (i : Nat) (p : List Pt) (e : ME) : ME := isOwnP i p (e.bind fun s => match s with
  | .sh x => ownPL i p fun ds => some (ds.length < sizeLine, ds ++ [x], .sh .non)
  | _ => M.stuck)
theorem eAppP {i : Nat} {p : List Pt} (hp : PlOk K to i p) (hg : Grow te) (he : EOk K W te me) : EOk K W (tBM K "list" rAppend to (tCons te tNil)) (mAppP i p me) := fun G H σ ρ τ δ Q h w => by
  obtain ⟨s0, z0, d0, ds0, e0, eo0, ep0, w⟩ := isOwnP_go w
  obtain ⟨F2, f2, v, l, vs, q0, hl, e1, a1, hh, rl, k⟩ := (h.push (v := .non) (d := .non) rfl).ownPL e0 eo0 ep0
  refine hp σ H v _ _ e1 a1 ⟨Or.inl ⟨rfl, _, SqL.of hh⟩, ?_⟩
  refine hg _ _ _ _ (he G H σ ρ τ δ (fun v H' => ∃ s ρ1, Rel K G H' σ ρ1 (some v :: τ) (s :: δ) ∧ _) h (me.mono (fun s ρ1 w1 v H1 h1 => ⟨s, ρ1, h1, w1⟩) (fun _ _ z => z) w)) ?_
  rintro y H1 hle ⟨s, ρ1, h1, w1⟩
  simp only at w1
  split at w1
  · rename_i x
    obtain ⟨s1, z1, d1, ds, pp, ds', a, e2, eo, ep, ef, hp', q⟩ := ownPL_go w1
    cases ef
    obtain ⟨F3, f3, v3, l3, vs3, q3, hl3, e3, a3, hh3, rl3, k3⟩ := h1.ownPL e2 eo ep
    rw [e1] at e3
    cases e3
    cases (a1.mono hle).det a3
    cases q3 with
    | sh r =>
      exact ⟨l, vs3, y, rfl, rfl, hh3, by rw [rl3.len]; exact hp', q _ _ ((k3 _ _ (rl3.app (.cons r .nil))).push rfl)⟩
  · exact w1.elim
theorem grow_C {v : V} : Grow (tC v) := fun σ H Q Q' q h => h _ _ Le.rfl q
end
end Dl
namespace Dl
open PySem PySem.Spec PyProof.Rows L2
end Dl
namespace Ls
open PySem PySem.Spec PyProof.Rows L2
end Ls
namespace Dl
open PySem PySem.Spec PyProof.Rows L2
section
variable {K : PySem.W.Frag}
end
end Dl
namespace Dl
open PySem PySem.Spec PyProof.Rows L2
section
variable {K : PySem.W.Frag} {W W' : WS} {ta tb tc te tn tv to : TE} {ma mb mc me mn mv : ME} {t u : TS} {m k : MS} {tA tt : TT} {mA mt : MT} {tl : TA} {ml : MA} {G : Ent} {F H H' : Hp} {σ τ : L2.St} {ρ : Env} {δ : List Sl}
mutual
def Sh.same : Sh → Sh → Bool
  | .fr, .fr => true
  | .ol a, .ol b => Sh.same a b
  | .od a, .od b => Sh.same a b
  | .oo a, .oo b => Sh.sameL a b
  | .ot a, .ot b => Sh.sameL a b
  | .oh a, .oh b => Sh.sameL a b
  | .ft a, .ft b => Sh.sameL a b
  | _, _ => false
def Sh.sameL : List Sh → List Sh → Bool
  | [], [] => true
  | a :: as, b :: bs => Sh.same a b && Sh.sameL as bs
  | _, _ => false
end
mutual
theorem Sh.same_eq : ∀ {a b : Sh}, Sh.same a b = true → a = b
  | .fr, .fr, _ => rfl
  | .ol a, .ol b, h => by unfold Sh.same at h; rw [Sh.same_eq h]
  | .od a, .od b, h => by unfold Sh.same at h; rw [Sh.same_eq h]
  | .oo a, .oo b, h => by unfold Sh.same at h; rw [Sh.sameL_eq h]
  | .ot a, .ot b, h => by unfold Sh.same at h; rw [Sh.sameL_eq h]
  | .oh a, .oh b, h => by unfold Sh.same at h; rw [Sh.sameL_eq h]
  | .ft a, .ft b, h => by unfold Sh.same at h; rw [Sh.sameL_eq h]
  | .fr, .ol _, h => by cases h
  | .fr, .od _, h => by cases h
  | .fr, .oo _, h => by cases h
  | .fr, .ot _, h => by cases h
  | .ol _, .fr, h => by cases h
  | .ol _, .od _, h => by cases h
  | .ol _, .oo _, h => by cases h
  | .ol _, .ot _, h => by cases h
  | .od _, .fr, h => by cases h
  | .od _, .ol _, h => by cases h
  | .od _, .oo _, h => by cases h
  | .od _, .ot _, h => by cases h
  | .oo _, .fr, h => by cases h
  | .oo _, .ol _, h => by cases h
  | .oo _, .od _, h => by cases h
  | .oo _, .ot _, h => by cases h
  | .ot _, .fr, h => by cases h
  | .ot _, .ol _, h => by cases h
  | .ot _, .od _, h => by cases h
  | .ot _, .oo _, h => by cases h
  | .ol _, .ft _, h => by cases h
  | .ft _, .ol _, h => by cases h
  | .od _, .ft _, h => by cases h
  | .ft _, .od _, h => by cases h
  | .oo _, .ft _, h => by cases h
  | .ft _, .oo _, h => by cases h
  | .ot _, .ft _, h => by cases h
  | .ft _, .ot _, h => by cases h
  | .oh _, .ft _, h => by cases h
  | .ft _, .oh _, h => by cases h
  | .fr, .ft _, h => by cases h
  | .ft _, .fr, h => by cases h
  | .ol _, .oh _, h => by cases h
  | .oh _, .ol _, h => by cases h
  | .od _, .oh _, h => by cases h
  | .oh _, .od _, h => by cases h
  | .oo _, .oh _, h => by cases h
  | .oh _, .oo _, h => by cases h
  | .ot _, .oh _, h => by cases h
  | .oh _, .ot _, h => by cases h
  | .fr, .oh _, h => by cases h
  | .oh _, .fr, h => by cases h
theorem Sh.sameL_eq : ∀ {a b : List Sh}, Sh.sameL a b = true → a = b
  | [], [], _ => rfl
  | a :: as, b :: bs, h => by
    unfold Sh.sameL at h
    rw [Bool.and_eq_true] at h
    rw [Sh.same_eq h.1, Sh.sameL_eq h.2]
  | [], _ :: _, h => by cases h
  | _ :: _, [], h => by cases h
end
def allOwZ (z : Sh) : List Sl → Option (List D)
  | [] => some []
  | .ow z' d :: ss => match Sh.same z' z, allOwZ z ss with
    | true, some ds => some (d :: ds)
    | _, _ => none
  | _ :: _ => none
theorem slots_ownZ {z : Sh} : ∀ {vs : List V} {ss : List Sl} {ds : List D} {fp : List Addr}, Slots K F H (vs.map some) ss fp → allOwZ z ss = some ds → OwnL K F H z vs ds fp
  | [], [], ds, fp, h, e => by
    cases e
    cases h
    exact .nil
  | v :: vs, s :: ss, ds, fp, h, e => by
    cases h with
    | cons h1 h2 =>
      cases h1 with
      | ow r =>
        rename_i z' d
        unfold allOwZ at e
        split at e
        · rename_i e1 e2
          cases e
          rw [Sh.same_eq e1] at r
          exact .cons r (slots_ownZ h2 e2)
        · cases e
      | _ => cases e
  | [], _ :: _, _, _, h, _ => by cases h
  | _ :: _, [], _, _, h, _ => by cases h
def mkLstO (z : Sh) (ss : List Sl) : ME := ⟨fun ρ Q _ => match allOwZ z ss with
  | some ds => match Nat.ble ss.length sizeLine with
    | true => Q (.ow (.ol z) (.lst ds)) ρ
    | false => False
  | none => False, fun {ρ Q Q' E E'} h _ w => by
    revert w
    split
    · split
      · exact fun w => h _ _ w
      · exact id
    · exact id⟩
def mLstO (z : Sh) (l : MA) : ME := l.bind (mkLstO z)
theorem eLstO {z : Sh} (hl : AOk K W tl ml) : EOk K W (tLst tl) (mLstO z ml) := fun G H σ ρ τ δ Q h w =>
  hl G H σ ρ τ δ _ h (ml.mono (fun ss ρ1 w1 vs H1 hn h1 => by
    unfold mkLstO at w1
    simp only at w1
    split at w1
    · rename_i ds eo
      split at w1
      · rename_i hb
        refine ⟨by rw [hn]; exact Nat.le_of_ble_eq_true hb, fun p hp => w1 _ _ ?_⟩
        obtain ⟨F, f1, f2, g, ht, hs⟩ := h1
        obtain ⟨fa, fb, rfl, s1, s2⟩ := Slots.split (by rw [List.length_map]; exact hn) ht
        have ow := slots_ownZ s1 eo
        have here : ∀ a ∈ (fa ++ fb) ++ f2, H1 a ≠ none := fun a ha => by
          rcases List.mem_append.mp ha with z | z
          · exact ht.here a z
          · exact hs.here a z
        have g1 := g.newO here hp (.lst vs)
        have ne : ∀ a ∈ (fa ++ fb) ++ f2, upd H1 p (.lst vs) a = H1 a := fun a ha => upd_ne fun z => here a ha (by rw [z]; exact hp)
        refine ⟨F, (p :: fa) ++ fb, f2, g1.cnt fun a => Nat.le_of_eq (by simp only [List.count_append, List.count_cons, List.cons_append]), .cons (f := p :: fa) (.ow (.ol upd_same (ow.mono Le.rfl fun a ha => ne a (by simp [ha])))) (s2.mono Le.rfl fun a ha => ne a (by simp [ha])), hs.mono Le.rfl fun a ha => ne a (by simp [ha])⟩
      · exact w1.elim
    · exact w1.elim) (fun _ _ z => z) w)
theorem OwnL.any {z z' : Sh} {vs : List V} {ds : List D} {fp : List Addr} (h : OwnL K F H z' vs ds fp) (e : (Sh.same z' z || ds.isEmpty) = true) : OwnL K F H z vs ds fp := by
  rcases Bool.or_eq_true _ _ ▸ e with e | e
  · rw [Sh.same_eq e] at h
    exact h
  · cases ds with
    | nil => cases h; exact .nil
    | cons _ _ => cases e
theorem Rel.unAt {j : Nat} {s : Sl} {o : Option V} (h : Rel K G H σ ρ τ δ) (e : ρ[j]? = some s) : Rel K G H σ (ρ.set j .un) τ δ := by
  obtain ⟨F, f1, f2, g, ht, hs⟩ := h
  obtain ⟨o, l, f, r, e1, e2, h1, k⟩ := hs.at e
  have h3 := k o .un [] .un
  rw [set_same e2] at h3
  subst e1
  exact ⟨F, f1, _, g.cnt (by intro a; simp only [List.count_append, List.count_nil]; omega), ht, h3⟩
end
end Dl
namespace Dl
open PySem PySem.Spec PyProof.Rows L2
section
variable {K : PySem.W.Frag} {W W' : WS} {G : Ent} {F H H' : Hp} {σ τ : L2.St} {ρ : Env} {δ : List Sl}
end
end Dl
namespace Dl
open PySem PySem.Spec PyProof.Rows L2
end Dl
namespace Dl
open PySem PySem.Spec PyProof.Rows L2
section
variable {K : PySem.W.Frag} {G : Ent} {F F3 H H' : Hp} {σ τ : L2.St} {ρ δ : List Sl} {v x : V} {s : Sl} {d : D}
end
end Dl
namespace Dl
open PySem PySem.Spec PyProof.Rows L2
section
variable {K : PySem.W.Frag} {W : WS} {te tf : TE} {me mf : ME}
end
end Dl
namespace IdC
open PySem PySem.Spec PyProof.Rows L2 OpM
section
variable {M : Model} {prog : Program} {w : World} {A : Around} {E : Value → Shared → Prop} {s : Shared} {K : PySem.W.Frag} {x y C : Addr} {ox oy : Obj} {od od' : Option Obj}
end
structure IdK (K : PySem.W.Frag) (C : Addr) : Prop where
  m : PySem.W.mroIn K C (.type "object") = some true
  e : PySem.W.findIn K (.ref C) "__eq__" = some (some (.builtin "object.__eq__"))
  n : PySem.W.findIn K (.ref C) "__ne__" = some (some (.builtin "object.__ne__"))
section
variable {X : Cx} {C : Addr}
end
end IdC
namespace Dl
open PySem PySem.Spec PyProof.Rows L2
section
variable {K : PySem.W.Frag} {W : WS} {t : TE} {ma : ME} {G : Ent} {F F3 H H' : Hp} {σ τ : L2.St} {ρ δ : List Sl} {v x : V} {o : Option V} {s : Sl} {d : D}
end
end Dl
namespace IdC
open PySem PySem.Spec PyProof.Rows L2 OpM
section
variable {X : Cx} {C : Addr}
end
end IdC
namespace Dl
open PySem PySem.Spec PyProof.Rows L2
section
variable {K : PySem.W.Frag} {W : WS} {ta te : TE} {ma me : ME} {G : Ent} {F H H' : Hp} {σ τ : L2.St} {ρ δ : List Sl} {v u : V} {s : Sl} {ds : List D}
end
end Dl
namespace TxB
open PySem PySem.Spec PyProof.Rows L2 RZ
section
variable {X : Cx}
end
abbrev rJoin (K : PySem.W.Frag) : V → List V → Hp → VK → Prop := fun x xs H Q => ∃ a p, ∃ ys : List Str, x = .str a ∧ xs = [.ref p] ∧ (SqL K H p (ys.map V.str) ∨ SqT K H p (ys.map V.str)) ∧ (ys.map (·.length)).sum + ys.length * a.length ≤ 16777216 ∧ Q (.str (Txt.join a ys)) H
theorem peJoin (K : PySem.W.Frag) {X : Cx} {o e : Expr} {to te : TE} {apos pos : Pos} (ho : PE X o to) (he : PE X e te) (hs : starEach [e] X.env = [(false, eval e X.env)] := by rfl) (hbase : attributeBase o "join" X.env (eval o X.env) = eval o X.env := by rfl) (hline : (apos.endLine == pos.line) = true := by rfl) (hK : X.K = K := by rfl) :
    PE X (.Call (.Attribute o "join" apos) [e] [] pos) (tM1 (rJoin K) to te) := hK ▸ pe_join ho he hs hbase hline
end TxB
namespace Dl
open PySem PySem.Spec PyProof.Rows L2
section
variable {K : PySem.W.Frag} {W : WS} {G : Ent} {ta tb : TE} {ma mb : ME}
def strsD : List D → Option (List Str)
  | [] => some []
  | .str x :: ds => (strsD ds).map (x :: ·)
  | _ :: _ => none
theorem strsD_go : ∀ {ds : List D} {ys : List Str}, strsD ds = some ys → ds = ys.map D.str
  | [], ys, h => by cases h; rfl
  | .str x :: ds, ys, h => by
    unfold strsD at h
    cases e : strsD ds with
    | none => rw [e] at h; cases h
    | some zs => rw [e] at h; cases h; rw [strsD_go e]; rfl
  | .non :: _, _, h => by cases h
  | .bl _ :: _, _, h => by cases h
  | .int _ :: _, _, h => by cases h
  | .lst _ :: _, _, h => by cases h
  | .tup _ :: _, _, h => by cases h
  | .dic _ :: _, _, h => by cases h
  | .dil _ :: _, _, h => by cases h
  | .obj _ _ :: _, _, h => by cases h
  | .cls _ :: _, _, h => by cases h
  | .scr :: _, _, h => by cases h
  | .idn _ _ :: _, _, h => by cases h
  | .adr _ :: _, _, h => by cases h
  | .exc _ _ :: _, _, h => by cases h
  | .exb _ :: _, _, h => by cases h
theorem strsD_map : ∀ {ys : List Str}, strsD (ys.map D.str) = some ys
  | [] => rfl
  | y :: ys => by
    show (strsD (ys.map D.str)).map (y :: ·) = _
    rw [strsD_map]
    rfl
theorem RepL.strs {F : Hp} : ∀ {vs : List V} {ys : List Str}, RepL K F vs (ys.map D.str) → vs = ys.map V.str
  | _, [], .nil => rfl
  | _, _ :: _, .cons r t => by
    cases r
    rw [RepL.strs t]
    rfl
def pJoin : D → D → Option (Prop × Sl)
  | .str a, .lst ds => match strsD ds with
    | some ys => some ((ys.map (·.length)).sum + ys.length * a.length ≤ 16777216, .sh (.str (Txt.join a ys)))
    | none => none
  | _, _ => none
def mJoin (a b : ME) : ME := a.bind fun s => match s with
  | .sh (.str x) => b.bind fun s2 => op2P pJoin (.sh (.str x)) s2
  | _ => M.stuck
theorem eJoin (ha : EOk K W ta ma) (hb : EOk K W tb mb) : EOk K W (tM1 (TxB.rJoin K) ta tb) (mJoin ma mb) := fun G H σ ρ τ δ Q h w =>
  ha G H σ ρ τ δ _ h (ma.mono (fun s ρ1 w1 v H1 h1 => by
    simp only at w1
    split at w1
    · rename_i x
      obtain rfl := h1.topv (u := .str x) rfl
      refine ⟨⟨x, rfl⟩, hb G H1 σ ρ1 _ _ _ h1 (mb.mono (fun s2 ρ2 w2 v2 H2 h2 => ?_) (fun e ρ' z v H' q => z v H' q.drop2) w1)⟩
      obtain ⟨a, b, p, s, e1, rfl, e, hp, q⟩ := op2P_go w2
      cases e1
      unfold pJoin at e
      split at e
      · rename_i a0 ds e0
        cases e0
        split at e
        · rename_i ys hy
          cases e
          obtain rfl := strsD_go hy
          obtain ⟨F, r1, r2, z⟩ := h2.top2
          cases r2 with
          | lst k2 r2 =>
            obtain rfl := r2.strs
            exact ⟨_, _, _, rfl, rfl, .inl (SqL.of (z.le _ _ k2)), hp, q _ _ (h2.pop.pop.push rfl)⟩
        · cases e
      · cases e
    · exact w1.elim) (fun _ _ z => z) w)
end
end Dl
namespace Cl
open PySem PySem.Spec PyProof.Rows L2
section
variable {X : Cx} {CX : CXT} {k n : Nat} {f C : Addr} {fd : FuncData} {ps ks : List Str} {sp : Sp} {E : L2.St → XK} {x : Str} {p pos : Pos} {e : Expr} {es : List Expr} {kws : List Keyword} {t tk : TA} {g : List Value → List Value → List Value} {gV : List V → List V → List V}
end
end Cl
namespace Dl
open PySem PySem.Spec PyProof.Rows L2
section
variable {K : PySem.W.Frag} {W W' : WS} {to tv : TE} {mv : ME} {G : Ent} {F H H' : Hp} {σ τ : L2.St} {ρ : Env} {δ : List Sl}
end
end Dl
namespace BareX
open PySem PySem.Spec PyProof.Rows L2
structure OwnE (K : PySem.W.Frag) (C : Addr) : Prop where
  q : PySem.W.excIn K C [.type "ValueError", .type "Exception", .type "BaseException", .type "object"] "ValueError.__new__" = true
  keep : PySem.W.keepIn K (.ref C) = true
  exC : PySem.W.subIn K (.ref C) (.type "BaseException") = some true
  tyC : PySem.W.typeIn K (.ref C) = some (.type "type")
theorem ownE_ok {K : PySem.W.Frag} {C : Addr} (h : ownEB K C = true) : OwnE K C := ⟨(He.ba h).1, (He.ba (He.ba h).2).1, of_decide_eq_true (He.ba (He.ba (He.ba h).2).2).1, of_decide_eq_true (He.ba (He.ba (He.ba h).2).2).2⟩
end BareX
namespace OpM
open PySem PySem.Spec PyProof.Rows L2
section
variable {X : Cx} {CX : CXT} {k : Nat} {f C : Addr} {sp : Sp} {E : L2.St → XK} {pos : Pos} {a b : Expr} {ta tb : TE}
end
end OpM
namespace Dl
open PySem PySem.Spec PyProof.Rows L2
section
variable {K : PySem.W.Frag} {W : WS} {ta tb : TE} {ma mb : ME}
end
end Dl
namespace M3
open PySem PySem.Spec PyProof.Rows L2
section
variable {X : Cx}
end
end M3
namespace Dl
open PySem PySem.Spec PyProof.Rows L2
section
variable {K : PySem.W.Frag} {W : WS} {ta tb tc : TE} {ma mb mc : ME}
end
end Dl
namespace Dl
open PySem PySem.Spec PyProof.Rows L2
section
variable {K : PySem.W.Frag} {G : Ent} {F H : Hp} {σ τ : L2.St} {ρ : Env} {δ : List Sl}
def partS : Sh → D → Sl
  | .fr, d => .sh d
  | s, d => .ow s d
theorem Own.slot {s : Sh} {v : V} {d : D} {fp : List Addr} (h : Own K F H s v d fp) : SlV K F H (some v) (partS s d) fp := by
  cases h with
  | fr r => exact .sh r
  | ol h1 h2 => exact .ow (.ol h1 h2)
  | od h1 h2 => exact .ow (.od h1 h2)
  | oo h1 h2 h3 h4 => exact .ow (.oo h1 h2 h3 h4)
  | ot h1 h2 => exact .ow (.ot h1 h2)
  | oh h1 h2 => exact .ow (.oh h1 h2)
  | ft h1 h2 => exact .ow (.ft h1 h2)
def partsS : List Sh → List D → List Sl
  | s :: ss, d :: ds => partS s d :: partsS ss ds
  | _, _ => []
theorem OwnF.slots {f : List Addr} (h : Slots K F H τ δ f) : ∀ {ss : List Sh} {vs : List V} {ds : List D} {fp : List Addr}, OwnF K F H ss vs ds fp → Slots K F H (vs.map some ++ τ) (partsS ss ds ++ δ) (fp ++ f)
  | _, _, _, _, .nil => h
  | _, _, _, _, .cons (f := f1) (fp := f2) r t => by
    have := Slots.cons r.slot (OwnF.slots h t)
    rw [← List.append_assoc] at this
    exact this
end
end Dl
namespace Dl
open PySem PySem.Spec PyProof.Rows L2
section
variable {K : PySem.W.Frag} {W : WS} {ta tb tc t : TE} {ma mb mc : ME} {G : Ent} {F H : Hp} {σ τ : L2.St} {ρ : Env} {δ : List Sl}
end
end Dl
namespace SzB
open PySem PySem.Spec PyProof.Rows L2 RZ
end SzB
namespace Dl
open PySem PySem.Spec PyProof.Rows L2 RZ
section
variable {K : PySem.W.Frag} {W : WS} {G : Ent} {ta tb : TE} {ma mb : ME}
end
end Dl
namespace Dl
open PySem PySem.Spec PyProof.Rows L2
def dropE (es : List (Key × D)) (k : Key) : List (Key × D) := es.filter fun p => decide (p.1 ≠ k)
theorem RepK.drop {K : PySem.W.Frag} {F : Hp} : ∀ {kvs : List (Key × V)} {es : List (Key × D)}, RepK K F kvs es → ∀ k, RepK K F (dropK kvs k) (dropE es k)
  | _, _, .nil, k => .nil
  | _, _, .cons (k := k0) r q, k => by
    have ih := RepK.drop q k
    unfold dropK dropE at ih ⊢
    by_cases e : k0 = k
    · rw [List.filter_cons_of_neg (by simp [e]), List.filter_cons_of_neg (by simp [e])]
      exact ih
    · rw [List.filter_cons_of_pos (by simp [e]), List.filter_cons_of_pos (by simp [e])]
      exact .cons r ih
section
variable {K : PySem.W.Frag} {W : WS} {G : Ent} {te tk tv : TE} {me mk mv : ME} {H : Hp} {σ τ : L2.St} {ρ δ : List Sl}
end
end Dl
namespace Dl
open PySem PySem.Spec PyProof.Rows L2
section
variable {K : PySem.W.Frag} {W : WS} {G : Ent} {F F' H H' : Hp} {σ τ : L2.St} {ρ : Env} {δ : List Sl} {ta : TE} {ma : ME} {tl : TA} {ml : MB}
theorem set_back {o : Option V} {i : Nat} (e : σ[i]? = some o) : σ.set i o = σ := set_same e
end
section
variable {K : PySem.W.Frag} {F H1 : Hp} {G : Ent} {σ τs τ : L2.St} {ρ1 : Env} {δs δ : List Sl} {fT fR kp : List Addr}
end
section
variable {K : PySem.W.Frag} {W : WS} {tl : TA} {ml : MB} {G : Ent} {F' H' : Hp} {σ τ : L2.St} {δ : List Sl} {ρ' : Env}
end
end Dl
namespace Dl
open PySem PySem.Spec PyProof.Rows L2
section
variable {K : PySem.W.Frag} {W : WS} {ta tb : TE} {ma mb : ME}
end
end Dl
namespace Dl
open PySem PySem.Spec PyProof.Rows L2
end Dl
namespace StX
open PySem PySem.Spec PyProof.Rows L2
section
variable {CX : CXT} {P : Program} {w : World} {K : PySem.W.Frag} {mg : Str → Option Value} {base : Heap} {k : Nat} {f : Addr} {name qual : Str} {params : Arguments} {body : List Stmt} {scope : Scope} {dV kV doc pm cdv ct oc : Value} {an od : Option Addr}
  {osl : Array (Option Value)} {N ps : List Str} {sp : Sp}
end
end StX
namespace Cl
open PySem PySem.Spec PyProof.Rows L2
section
variable {P : Program} {w : World} {K : PySem.W.Frag} {mg : Str → Option Value} {base : Heap} {x qual : Str} {params : Arguments} {body : List Stmt} {scope : Scope} {dvs : List V} {kws : List (Str × V)} {f : Addr} {fd : FuncData}
end
end Cl
namespace Dl
open PySem PySem.Spec PyProof.Rows L2
section
variable {K : PySem.W.Frag} {W : WS} {F H : Hp} {P : Program} {w : World} {mg : Str → Option Value} {base : Heap} {x qual : Str} {params : Arguments} {body : List Stmt} {scope : Scope} {kws : List (Str × V)} {f : Addr} {fd : FuncData}
end
section
variable {K : PySem.W.Frag} {W : WS} {ta : TE} {ma : ME} {t : TS} {m : MS} {F : Hp}
end
end Dl
namespace Cl
open PySem PySem.Spec PyProof.Rows L2
section
variable {X : Cx} {CX : CXT} {k : Nat} {f : Addr} {sp : Sp} {E : L2.St → XK} {x : Str} {p pos sp_ : Pos} {e : Expr} {te : TE}
end
end Cl
namespace Dl
open PySem PySem.Spec PyProof.Rows L2
section
variable {K : PySem.W.Frag} {W : WS} {ta : TE} {ma : ME} {G : Ent} {H : Hp} {σ τ : L2.St} {ρ : Env} {δ : List Sl}
end
end Dl
namespace Dl
open PySem PySem.Spec PyProof.Rows L2
section
variable {K : PySem.W.Frag} {W : WS} {ta : TE} {ma : ME} {t : TS} {m : MS} {G : Ent} {F H H' : Hp} {σ τ : L2.St} {ρ : Env} {δ : List Sl}
def Mv (K : PySem.W.Frag) (G : Ent) (H : Hp) (σ : L2.St) (ρ : Env) (τ : L2.St) (δ : List Sl) (a : Addr) (vs : List V) (s : Sh) (ds : List D) (i : Nat) : Prop :=
  ∃ F f1 f2 f3, Good G F H ((f1 ++ f2) ++ (a :: f3)) ∧ Slots K F H τ δ f1 ∧ Slots K F H σ ρ f2 ∧ H a = some (.lst vs) ∧ OwnL K F H s (vs.drop i) (ds.drop i) f3
theorem Mv.start {v : V} {s : Sh} {ds : List D} (h : Rel K G H σ ρ (some v :: τ) (.ow (.ol s) (.lst ds) :: δ)) : ∃ a vs, v = .ref a ∧ Mv K G H σ ρ τ δ a vs s ds 0 := by
  obtain ⟨F, f1, f2, g, ht, hs⟩ := h
  cases ht with
  | cons q1 q2 =>
    cases q1 with
    | ow q =>
      cases q with
      | @ol _ a vs _ fp hh rl =>
        refine ⟨a, vs, rfl, F, _, f2, fp, g.cnt fun b => ?_, q2, hs, hh, rl⟩
        simp only [List.count_append, List.count_cons]
        omega
theorem Mv.step {a : Addr} {vs : List V} {s : Sh} {ds : List D} {i : Nat} {x : V} {d : D} (h : Mv K G H σ ρ τ δ a vs s ds i) (ex : vs[i]? = some x) (ed : ds[i]? = some d) :
    ∃ G2, Rel K G2 H σ ρ (some x :: τ) (.ow s d :: δ) ∧ (∀ H' σ' ρ', Rel K G2 H' σ' ρ' τ δ → Mv K G H' σ' ρ' τ δ a vs s ds (i + 1)) ∧ ∀ H' σ' ρ' τ' δ', Rel K G2 H' σ' ρ' τ' δ' → Rel K G H' σ' ρ' τ' δ' := by
  obtain ⟨F, f1, f2, f3, g, ht, hs, hh, ol⟩ := h
  obtain ⟨hi, e1⟩ := List.getElem?_eq_some_iff.mp ex
  obtain ⟨hj, e2⟩ := List.getElem?_eq_some_iff.mp ed
  rw [List.drop_eq_getElem_cons hi, List.drop_eq_getElem_cons hj, e1, e2] at ol
  cases ol with
  | @cons _ _ _ f fp _ _ o r =>
    have g1 : Good G F H (((f ++ f1) ++ f2) ++ (a :: fp)) := g.cnt fun b => by
      simp only [List.count_append, List.count_cons]
      omega
    have nd := List.nodup_append.mp g1.nd
    have here : ∀ b ∈ a :: fp, H b ≠ none := fun b hb => by
      rcases List.mem_cons.mp hb with rfl | hb
      · rw [hh]; intro z; cases z
      · exact r.here b hb
    have same : ∀ {F' H' gs}, Good ⟨H, F, (f ++ f1) ++ f2⟩ F' H' gs → ∀ b ∈ a :: fp, H' b = H b := fun {F' H' gs} gg b hb => by
      cases q : H b with
      | none => exact absurd q (here b hb)
      | some u => exact gg.frm b u q fun z => nd.2.2 b z b hb rfl
    refine ⟨⟨H, F, (f ++ f1) ++ f2⟩, ⟨F, f ++ f1, f2, ⟨g1.sub, Le.rfl, fun a ha => .inl ha, fun a o e _ => e, fun a ha => ha, fun a ha => .inl ha, fun a ha => g1.nf a (List.mem_append_left _ ha), nd.1⟩, .cons (.ow o) ht, hs⟩, fun H' σ' ρ' hr => ?_, fun H' σ' ρ' τ' δ' hr => ?_⟩
    · obtain ⟨F', g1', g2', gg, ht', hs'⟩ := hr
      have G2 := g1.call gg here
      refine ⟨F', g1', g2', fp, G2, ht', hs', by rw [same gg a List.mem_cons_self]; exact hh, r.mono gg.f0 fun b hb => same gg b (List.mem_cons_of_mem _ hb)⟩
    · obtain ⟨F', g1', g2', gg, ht', hs'⟩ := hr
      have G2 := g1.call gg here
      refine ⟨F', g1', g2', G2.cnt fun b => ?_, ht', hs'⟩
      simp only [List.count_append]
      omega
end
end Dl
namespace L2
open PySem PySem.Spec PyProof.Rows
section
variable {P : Program} {w : World} {A : Around} {E : Value → Shared → Prop} {s : Shared} {a : Addr}
end
end L2
namespace Dl
open PySem PySem.Spec PyProof.Rows L2
section
variable {K : PySem.W.Frag} {W : WS} {ta te : TE} {ma me : ME} {tt : TT} {mt : MT} {g : TG} {mg : MG} {vs : List Nat}
end
end Dl
namespace Cl
open PySem PySem.Spec PyProof.Rows L2
section
variable {X : Cx} {CX : CXT} {k : Nat} {f C : Addr} {fd : FuncData} {ps ks : List Str} {sp : Sp} {E : L2.St → XK} {x m : Str} {p pos apos : Pos} {o : Expr} {kws : List Keyword} {ta : TE} {tk : TA} {g : List Value → List Value → List Value} {gV : List V → List V → List V}
end
end Cl
namespace NtB
open PySem PySem.Spec PyProof.Rows L2
section
variable {X : Cx}
end
end NtB
namespace Dl
open PySem PySem.Spec PyProof.Rows L2
section
variable {K : PySem.W.Frag} {W : WS} {G : Ent} {ta tb : TE} {ma mb : ME}
end
end Dl
namespace MtB
open PySem PySem.Spec PyProof.Rows L2
section
variable {prog : Program} {w : World} {A : Around} {E : Value → Shared → Prop} {s : Shared}
end
section
variable {X : Cx} {pins : List (Addr × Obj)} {s : Shared} {σ : L2.St} {H : Hp}
abbrev TPt := V → Hp → (Option (List V) → Hp → Prop) → Prop
structure PPt (X : Cx) (p : Pattern) (ns : List Str) (t : TPt) : Prop where
  run : ∀ (pins : List (Addr × Obj)) (s : Shared) (σ : L2.St) (H : Hp) (v : V) (u : Value) (Q : Option (List V) → Hp → Prop), Inv X pins σ H s → RelV v u → t v H Q →
    wpAny (model X.prog X.w) X.A (matchPattern p X.env u) (fun r s' => ∃ o H', Inv X pins σ H' s' ∧ (match r, o with
      | none, none => True
      | some bs, some vs => bs.map (·.1) = ns ∧ Vals vs (bs.map (·.2))
      | _, _ => False) ∧ Q o H') X.xe s
structure PBs (X : Cx) (ns : List Str) (t : TGs) : Prop where
  run : ∀ (pins : List (Addr × Obj)) (s : Shared) (σ : L2.St) (H : Hp) (vs : List V) (us : List Value) (Q : L2.St → Hp → Prop), Inv X pins σ H s → Vals vs us → t vs σ H Q →
    wpAny (model X.prog X.w) X.A (assignInOrder (ns.map (bindName X.env)) us) (fun _ s' => ∃ σ' H', Inv X pins σ' H' s' ∧ Q σ' H') X.xe s
structure PCs (X : Cx) (cs : List MatchCase) (t : V → TS) : Prop where
  run : ∀ (pins : List (Addr × Obj)) (s : Shared) (σ : L2.St) (H : Hp) (D : L2.Ends) (v : V) (u : Value) (first : Bool), Inv X pins σ H s → RelV v u → t v D σ H → wpAny (model X.prog X.w) X.A (matchCases cs X.env u first) (SP X pins D) X.xe s
end
end MtB
namespace Dl
open PySem PySem.Spec PyProof.Rows L2
section
variable {K : PySem.W.Frag} {W : WS} {G : Ent} {ta : TE} {ma : ME}
end
end Dl
namespace Dl
open PySem PySem.Spec PyProof.Rows L2
section
variable {K : PySem.W.Frag} {W : WS} {G : Ent} {ta tb : TE} {ma mb : ME}
end
end Dl
namespace StX
open PySem PySem.Spec PyProof.Rows L2
section
variable {P : Program} {w : World} {A : Around} {E : Value → Shared → Prop}
end
end StX
namespace StX
open PySem PySem.Spec PyProof.Rows L2
def FnE (P : Program) (w : World) (K : PySem.W.Frag) (mg : Str → Option Value) (base : Heap) (CX : CXT) (k : Nat) (f : Addr) (ks : List Str) (n : Nat) (sp : Sp) : Prop :=
  ∀ (A : Around) (outer : List Env) (s : Shared) (H : Hp) (us ws : List Value) (vs zs : List V) (Q : VK) (E : XK), Room k A → Env0 P w K mg base A outer s H → Vals vs us → Vals zs ws → vs.length = n → zs.length = ks.length → sp (vs ++ zs) H Q E →
    codeAny (model P w) A (.call (.ref f) ⟨us, ks.zip ws⟩) (CR CX outer P w H s Q E) s
theorem FnE.mono {P : Program} {w : World} {K : PySem.W.Frag} {mg : Str → Option Value} {base : Heap} {CX : CXT} {j k : Nat} {f : Addr} {ks : List Str} {n : Nat} {sp : Sp} (F : FnE P w K mg base CX j f ks n sp) (h : j ≤ k) : FnE P w K mg base CX k f ks n sp :=
  fun A outer s H us ws vs zs Q E hr => F A outer s H us ws vs zs Q E (hr.mono h)
theorem FnE.imp {P : Program} {w : World} {K : PySem.W.Frag} {mg : Str → Option Value} {base : Heap} {CX : CXT} {k : Nat} {f : Addr} {ks : List Str} {n : Nat} {sp sp' : Sp} (F : FnE P w K mg base CX k f ks n sp) (h : ∀ vs H Q E, sp' vs H Q E → sp vs H Q E) : FnE P w K mg base CX k f ks n sp' :=
  fun A outer s H us ws vs zs Q E hr e r rz l1 l2 q => F A outer s H us ws vs zs Q E hr e r rz l1 l2 (h _ _ _ _ q)
section
variable {CX : CXT} {P : Program} {w : World} {K : PySem.W.Frag} {mg : Str → Option Value} {base : Heap} {k : Nat} {f : Addr} {name qual : Str} {params : Arguments} {body : List Stmt} {scope : Scope} {dV kV doc pm cdv ct oc : Value} {an od : Option Addr}
  {osl : Array (Option Value)} {N ps : List Str} {sp : Sp}
end
end StX
namespace Cl
open PySem PySem.Spec PyProof.Rows L2
section
variable {P : Program} {w : World} {K : PySem.W.Frag} {mg : Str → Option Value} {base : Heap} {x qual : Str} {params : Arguments} {body : List Stmt} {scope : Scope} {dvs : List V} {kws : List (Str × V)} {f : Addr} {fd : FuncData}
end
section
variable {X : Cx} {CX : CXT} {k : Nat} {f C : Addr} {ks : List Str} {sp : Sp} {E : L2.St → XK} {x : Str} {p pos : Pos} {kws : List Keyword} {tk : TA}
end
end Cl
namespace Dl
open PySem PySem.Spec PyProof.Rows L2
section
variable {K : PySem.W.Frag} {W : WS} {F H : Hp} {P : Program} {w : World} {mg : Str → Option Value} {base : Heap} {x qual : Str} {params : Arguments} {body : List Stmt} {scope : Scope} {kws : List (Str × V)} {f : Addr} {fd : FuncData}
end
end Dl
namespace L2
open PySem PySem.Spec PyProof.Rows GenW
section
variable {prog : Program} {w : World} {A : Around} {R : GenEnd} {Y : Protocol} {n : Nat} {s₀ : Shared} {c : Code} {fs : List Frame} {s : Shared} {env : PySem.Env}
end
section
variable {X : Cx}
end
end L2
namespace Dl
open PySem PySem.Spec PyProof.Rows L2
structure GEndsM where
  nx : List D → Env → Prop
  rt : List D → Env → Prop
  bk : List D → Env → Prop
  ct : List D → Env → Prop
  ex : Er → Env → Prop
structure GEndsM.Le (M M' : GEndsM) : Prop where
  nx : ∀ o r, M.nx o r → M'.nx o r
  rt : ∀ o r, M.rt o r → M'.rt o r
  bk : ∀ o r, M.bk o r → M'.bk o r
  ct : ∀ o r, M.ct o r → M'.ct o r
  ex : ∀ e r, M.ex e r → M'.ex e r
structure MGn where
  wp : List D → Env → GEndsM → Prop
  mono : ∀ {o : List D} {ρ : Env} {M M' : GEndsM}, M.Le M' → wp o ρ M → wp o ρ M'
def listOf (es : List Nat) (gd : M (List D)) : M Sl := ⟨fun as Q E => gd.wp as (fun o as' => Q (.ow (.ol .fr) (.lst o)) as') (fun er as' => er.c ∈ es ∧ E er as'), fun h h' w => gd.mono (fun o r z => h _ _ z) (fun e r z => ⟨z.1, h' _ _ z.2⟩) w⟩
section
variable {K : PySem.W.Frag} {W : WS} {G : Ent} {F H : Hp} {σ τ : L2.St} {ρ : Env} {δ : List Sl}
structure IntoG (K : PySem.W.Frag) (W : WS) (G : Ent) (τ : L2.St) (δ : List Sl) (D : GEnds) (M : GEndsM) : Prop where
  nx : ∀ ys o σ ρ H, ys.length = o.length → Rel K G H σ ρ (ys.map some ++ τ) (o.map Sl.sh ++ δ) → M.nx o ρ → D.nx ys σ H
  rt : ∀ ys o σ ρ H, ys.length = o.length → Rel K G H σ ρ (ys.map some ++ τ) (o.map Sl.sh ++ δ) → M.rt o ρ → D.rt ys .non H
  bk : ∀ ys o σ ρ H, ys.length = o.length → Rel K G H σ ρ (ys.map some ++ τ) (o.map Sl.sh ++ δ) → M.bk o ρ → D.bk ys σ H
  ct : ∀ ys o σ ρ H, ys.length = o.length → Rel K G H σ ρ (ys.map some ++ τ) (o.map Sl.sh ++ δ) → M.ct o ρ → D.ct ys σ H
  ex : ∀ σ er ρ, M.ex er ρ → exQ K W G σ τ δ er ρ
end
section
variable {K : PySem.W.Frag}
end
section
variable {P : Program} {w : World} {K : PySem.W.Frag} {mg : Str → Option Value} {base : Heap} {x qual : Str} {params : Arguments} {body : List Stmt} {scope : Scope} {dvs : List V} {kws : List (Str × V)} {f : Addr} {fd : FuncData}
end
end Dl
namespace Cl
open PySem PySem.Spec PyProof.Rows L2
section
variable {X : Cx} {k n : Nat} {f : Addr} {fd : FuncData} {ps ks : List Str} {sp : Sp} {E : L2.St → XK} {x : Str} {p pos lp lpos : Pos} {e : Expr} {es : List Expr} {kws : List Keyword} {t tk : TA} {g : List Value → List Value → List Value} {gV : List V → List V → List V} {dvs : List V} {ds : List Value}
end
end Cl
namespace Cl
open PySem PySem.Spec PyProof.Rows L2
section
variable {X : Cx} {CX : CXT} {k i : Nat} {f C p g : Addr} {mc : Value} {fd : FuncData} {ps ks : List Str} {sp : Sp} {E : L2.St → XK} {x m : Str} {np pos apos : Pos} {o : Expr} {kws : List Keyword} {ta : TE} {tk : TA} {gg : List Value → List Value → List Value} {gV : List V → List V → List V}
end
end Cl
namespace Dl
open PySem PySem.Spec PyProof.Rows L2
section
variable {K : PySem.W.Frag} {W : WS} {ta : TE} {ma : ME} {tl tB tk : TA} {ml mB : MB} {gV : List V → List V → List V} {c l i : Nat} {ds : M Sl} {G : Ent} {H : Hp} {σ τ : L2.St} {ρ : Env} {δ : List Sl}
theorem Ags.cut {σ : L2.St} : ∀ {vs : List V} {ags : List Ag} {τs : L2.St} {δs : List Sl}, Ags σ vs ags τs δs → ∀ n, ∃ τ1 δ1 τ2 δ2, τs = τ1 ++ τ2 ∧ δs = δ1 ++ δ2 ∧ Ags σ (vs.take n) (ags.take n) τ1 δ1 ∧ Ags σ (vs.drop n) (ags.drop n) τ2 δ2
  | _, _, _, _, .nil, n => ⟨[], [], [], [], rfl, rfl, by rw [List.take_nil, List.take_nil]; exact .nil, by rw [List.drop_nil, List.drop_nil]; exact .nil⟩
  | _, _, _, _, .s r, 0 => ⟨[], [], _, _, rfl, rfl, .nil, .s r⟩
  | _, _, _, _, .l e r, 0 => ⟨[], [], _, _, rfl, rfl, .nil, .l e r⟩
  | _, _, _, _, .s r, n + 1 => by
    obtain ⟨t1, d1, t2, d2, rfl, rfl, a, b⟩ := Ags.cut r n
    exact ⟨_, _, t2, d2, rfl, rfl, .s a, b⟩
  | _, _, _, _, .l e r, n + 1 => by
    obtain ⟨t1, d1, t2, d2, rfl, rfl, a, b⟩ := Ags.cut r n
    exact ⟨_, _, t2, d2, rfl, rfl, .l e a, b⟩
theorem Ags.app {σ : L2.St} : ∀ {vs vs' : List V} {ags ags' : List Ag} {τs τs' : L2.St} {δs δs' : List Sl}, Ags σ vs ags τs δs → Ags σ vs' ags' τs' δs' → Ags σ (vs ++ vs') (ags ++ ags') (τs ++ τs') (δs ++ δs')
  | _, _, _, _, _, _, _, _, .nil, h => h
  | _, _, _, _, _, _, _, _, .s r, h => .s (r.app h)
  | _, _, _, _, _, _, _, _, .l e r, h => .l e (r.app h)
theorem Rel.turn {τa τb : L2.St} {δa δb : List Sl} (ea : τa.length = δa.length) (eb : τb.length = δb.length) (h : Rel K G H σ ρ (τa ++ (τb ++ τ)) (δa ++ (δb ++ δ))) : Rel K G H σ ρ (τb ++ (τa ++ τ)) (δb ++ (δa ++ δ)) := by
  obtain ⟨F, f1, f2, g, ht, hs⟩ := h
  obtain ⟨a, r, rfl, ha, hr⟩ := Slots.split ea ht
  obtain ⟨b, c, rfl, hb, hc⟩ := Slots.split eb hr
  refine ⟨F, b ++ (a ++ c), f2, g.cnt fun x => ?_, hb.app (ha.app hc), hs⟩
  simp only [List.count_append]
  omega
end
end Dl
namespace PrX
open PySem PySem.Spec PyProof.Rows PySem.W Builtin PySem.Calls
section
variable {prog : Program} {w : World} {A : Around} {s : Shared} {K : Frag} {p x C : Addr} {R : Result → Shared → Prop} {fg v : Value} {fset : Addr} {rest : List Value}
end
end PrX
namespace Cl
open PySem PySem.Spec PyProof.Rows L2
structure PSetOf (K : PySem.W.Frag) (C : Addr) (f : Str) (p g : Addr) : Prop where
  at_ : PySem.W.findIn K (.ref C) f = some (some (.ref p))
  tak : PySem.W.takesIn K (.ref p) = some true
  set : PySem.W.specialIn K (.ref p) "__set__" = some (some (.builtin "property.__set__"))
  rec_ : ∃ fg rest, PySem.W.recIn K p "property" = some (fg :: .ref g :: rest)
section
variable {X : Cx} {CX : CXT} {k i : Nat} {C p g : Addr} {f x : Str} {sp : Sp} {E : L2.St → XK} {e value : Expr} {pos np pos' : Pos} {ta tv : TE} {t : TA}
end
end Cl
namespace PrX
open PySem PySem.Spec PyProof.Rows PySem.W Builtin PySem.Calls
section
variable {M : Model} {A : Around} {E : Value → Shared → Prop} {s : Shared}
end
end PrX
namespace Cl
open PySem PySem.Spec PyProof.Rows L2
def FnA (P : Program) (w : World) (K : PySem.W.Frag) (mg : Str → Option Value) (base : Heap) (CX : CXT) (k : Nat) (f : Addr) (ks : List Str) (sp : Sp) : Prop :=
  ∀ (A : Around) (outer : List Env) (s : Shared) (H : Hp) (us ws : List Value) (vs zs : List V) (Q : VK) (E : XK), Room k A → Env0 P w K mg base A outer s H → Vals vs us → Vals zs ws → zs.length = ks.length → sp (vs ++ zs) H Q E →
    codeAny (model P w) A (.call (.ref f) ⟨us, ks.zip ws⟩) (CR CX outer P w H s Q E) s
theorem FnA.mono {P : Program} {w : World} {K : PySem.W.Frag} {mg : Str → Option Value} {base : Heap} {CX : CXT} {j k : Nat} {f : Addr} {ks : List Str} {sp : Sp} (F : FnA P w K mg base CX j f ks sp) (h : j ≤ k) : FnA P w K mg base CX k f ks sp :=
  fun A outer s H us ws vs zs Q E hr => F A outer s H us ws vs zs Q E (hr.mono h)
theorem FnA.imp {P : Program} {w : World} {K : PySem.W.Frag} {mg : Str → Option Value} {base : Heap} {CX : CXT} {k : Nat} {f : Addr} {ks : List Str} {sp sp' : Sp} (F : FnA P w K mg base CX k f ks sp) (h : ∀ vs H Q E, sp' vs H Q E → sp vs H Q E) : FnA P w K mg base CX k f ks sp' :=
  fun A outer s H us ws vs zs Q E hr e r rz l2 q => F A outer s H us ws vs zs Q E hr e r rz l2 (h _ _ _ _ q)
theorem FnA.of {P : Program} {w : World} {K : PySem.W.Frag} {mg : Str → Option Value} {base : Heap} {CX : CXT} {k : Nat} {f : Addr} {sp : Sp} (F : FnR P w K mg base CX k f sp) : FnA P w K mg base CX k f [] sp :=
  fun A outer s H us ws vs zs Q E hr e r rz l2 q => by
    obtain rfl := List.length_eq_zero_iff.mp l2
    rw [List.append_nil] at q
    exact F A outer s H us vs Q E hr e r q
section
variable {X : Cx} {CX : CXT} {k : Nat} {C g : Addr} {ks : List Str} {sp : Sp} {E : L2.St → XK} {m : Str} {o e : Expr} {es : List Expr} {kws : List Keyword} {p apos pos : Pos} {ta te : TE} {t tk : TA}
theorem runA {f : Addr} {pins : List (Addr × Obj)} {σ : L2.St} {H : Hp} {s : Shared} {Q : VK} {us ws : List Value} {vs zs : List V} (F : FnA X.prog X.w X.K X.mg X.base CX k f ks sp) (hr : Room k X.A) (hx : PassesAt CX X σ (E σ)) (I : Inv X pins σ H s) (r : Vals vs us) (rz : Vals zs ws) (l2 : zs.length = ks.length) (h : sp (vs ++ zs) H Q (E σ)) :
    codeAny (model X.prog X.w) X.A (.call (.ref f) ⟨us, ks.zip ws⟩) (fun r s' => match r with | .ok (.ret v) => EP X pins σ Q v s' | .ok _ => False | .error e => X.xe e s') s :=
  codeAny_mono (F X.A X.stack s H us ws vs zs Q (E σ) hr I.env0 r rz l2 h) fun r s' hq => by
    cases r with
    | error er => exact hx pins H s er s' I hq
    | ok fl => cases fl <;> first | exact I.after hq | exact False.elim hq
end
end Cl
namespace StX
open PySem PySem.Spec PyProof.Rows L2
section
variable {CX : CXT} {P : Program} {w : World} {K : PySem.W.Frag} {mg : Str → Option Value} {base : Heap} {k n : Nat} {f : Addr} {name qual : Str} {params : Arguments} {body : List Stmt} {scope : Scope} {dV kV doc pm cdv ct oc : Value} {an od : Option Addr}
  {osl : Array (Option Value)} {N ps ks : List Str} {sp : Sp}
end
end StX
namespace Cl
open PySem PySem.Spec PyProof.Rows L2
section
variable {P : Program} {w : World} {K : PySem.W.Frag} {mg : Str → Option Value} {base : Heap} {x qual : Str} {params : Arguments} {body : List Stmt} {scope : Scope} {kws : List (Str × V)} {f : Addr} {fd : FuncData} {CX : CXT} {N ps ks : List Str} {pv : Str} {k n : Nat} {sp : Sp}
end
end Cl
namespace Dl
open PySem PySem.Spec PyProof.Rows L2
section
variable {K : PySem.W.Frag} {W : WS} {F H : Hp} {P : Program} {w : World} {mg : Str → Option Value} {base : Heap} {x qual : Str} {params : Arguments} {body : List Stmt} {scope : Scope} {kws : List (Str × V)} {f : Addr} {fd : FuncData}
end
end Dl
namespace Dl
open PySem PySem.Spec PyProof.Rows L2
section
variable {K : PySem.W.Frag} {W : WS} {G : Ent} {H : Hp} {σ : L2.St} {ρ : Env} {τ : L2.St} {δ : List Sl} {ta te : TE} {ma me m : ME} {tl t tk tB : TA} {ml mB : MB} {ds : M Sl} {c i : Nat} {n : Str}
theorem Ags.shs : ∀ {xs : List V} {es : List D} {vs : List V} {ags : List Ag} {τs : L2.St} {δs : List Sl}, xs.length = es.length → Ags σ vs ags τs δs → Ags σ (xs ++ vs) (es.map (fun d => Ag.s (.sh d)) ++ ags) (xs.map some ++ τs) (es.map Sl.sh ++ δs)
  | [], [], _, _, _, _, _, h => h
  | _ :: _, _ :: _, _, _, _, _, e, h => .s (Ags.shs (by simpa using e) h)
  | [], _ :: _, _, _, _, _, e, _ => by simp at e
  | _ :: _, [], _, _, _, _, e, _ => by simp at e
end
end Dl
namespace PySem
open Sem (wp)
section
variable {prog : Program} {w : World} {K : Type} [DecidableEq K] {knd : KeyKind prog w K} {A : Around} {E : Value → Shared → Prop} {s : Shared}
end
end PySem
namespace StX
open PySem PySem.Spec PyProof.Rows L2
section
variable {prog : Program} {w : World} {A : Around} {E : Value → Shared → Prop} {s : Shared}
end
section
variable {X : Cx} {pins : List (Addr × Obj)} {σ : L2.St} {H : Hp} {s : Shared}
end
end StX
namespace Cl
open PySem PySem.Spec PyProof.Rows L2
end Cl
namespace Cl
open PySem PySem.Spec PyProof.Rows L2
section
variable {X : Cx} {CX : CXT} {k n i : Nat} {f C : Addr} {ks : List Str} {sp : Sp} {spD : List Str → Sp} {E : L2.St → XK} {x : Str} {e : Expr} {es : List Expr} {p pos kp : Pos} {kws : List Keyword} {t tk : TA} {te : TE}
end
end Cl
namespace StX
open PySem PySem.Spec PyProof.Rows L2
end StX
namespace Dl
open PySem PySem.Spec PyProof.Rows L2
section
variable {K : PySem.W.Frag} {W : WS} {G : Ent} {H H1 : Hp} {σ : L2.St} {ρ ρ1 : Env} {τ τs : L2.St} {δ δs : List Sl} {Q : VK} {vs : List V} {ags : List Ag} {te : TE} {me : ME} {tl : TA} {ml : MB} {ds : M Sl} {c i : Nat}
end
end Dl
namespace OpM
open PySem PySem.Spec PyProof.Rows L2 Cl
section
variable {X : Cx} {CX : CXT} {k : Nat} {f C : Addr} {sp : Sp}
end
end OpM
namespace Dl
open PySem PySem.Spec PyProof.Rows L2
section
variable {K : PySem.W.Frag} {W : WS} {G : Ent} {H : Hp} {σ τ : L2.St} {ρ δ : List Sl} {ta : TE}
end
end Dl
namespace Cl
open PySem PySem.Spec PyProof.Rows L2
structure BmX (K : PySem.W.Frag) (g : Addr) (m : Str) : Prop where
  gf : PySem.W.specialIn K (.ref g) "__get__" = some (some (.builtin "function.__get__"))
  tk : PySem.W.takesIn K (.ref g) = some false
  cp : PySem.W.copiedNames.contains m = false
  fi : PySem.W.fnIn K g = true
theorem BmX.of {K : PySem.W.Frag} {C g : Addr} {m : Str} (b : BmX K g m) (h : Meth K C m g) : BMeth K C m g := ⟨h, b.gf, b.tk, b.cp, b.fi⟩
end Cl
namespace PrX
open PySem PySem.Spec PyProof.Rows PySem.W Builtin PySem.Calls
section
variable {M : Model} {A : Around} {E : Value → Shared → Prop} {s : Shared} {K : Frag} {x C f : Addr} {ox : Obj} {od : Option Obj} {i v : Value}
end
end PrX
namespace Cl
open PySem PySem.Spec PyProof.Rows L2
section
variable {X : Cx} {CX : CXT} {k i : Nat} {C g : Addr} {ks : List Str} {m x : Str} {sp : Sp} {E : L2.St → XK} {o e value ix : Expr} {es : List Expr} {kws : List Keyword} {pos apos np pos' : Pos} {ta tv ty : TE} {t tk : TA}
end
end Cl
namespace Dl
open PySem PySem.Spec PyProof.Rows L2
section
variable {K : PySem.W.Frag} {W : WS} {tv ty : TE} {mv my : ME} {ds : M Sl} {c i : Nat}
end
end Dl
namespace Dl
open PySem PySem.Spec PyProof.Rows L2
section
variable {K : PySem.W.Frag} {W : WS} {F H : Hp} {tv : TE} {mv : ME}
end
end Dl
namespace MtB
open PySem PySem.Spec PyProof.Rows L2
section
variable {prog : Program} {w : World} {A : Around} {E : Value → Shared → Prop} {s : Shared}
end
section
variable {X : Cx} {pins : List (Addr × Obj)} {s : Shared} {σ : L2.St} {H : Hp}
end
end MtB
namespace Dl
open PySem PySem.Spec PyProof.Rows L2
section
variable {K : PySem.W.Frag} {G : Ent} {F F' H H' : Hp} {fp fp' : List Addr}
end
end Dl
namespace WthM
open PySem PySem.Spec PySem.Calls PyProof.Rows
section
variable {prog : Program} {w : World} {M : Model} {A : Around} {E : Value → Shared → Prop} {s : Shared} {env : Env} {K : PySem.W.Frag} {x C L fe fx : Addr} {pos : Pos} {ox : Obj} {od : Option Obj}
open PySem.W in
end
end WthM
namespace WthM
open PySem PySem.Spec PyProof.Rows L2 TryM
section
variable {X : Cx} {ctx : Expr} {body : List Stmt} {pos : Pos} {tc : TE} {tb : WX → TS} {C fe fx : Addr} {spE spX : Sp} {CXF : CXT} {ke kx : Nat}
end
end WthM
namespace Dl
open PySem PySem.Spec PyProof.Rows L2
section
variable {K : PySem.W.Frag} {G G' : Ent} {F H : Hp} {fp : List Addr} {σ τ : L2.St} {ρ δ : List Sl}
structure SubE (G G' : Ent) : Prop where
  f0 : Le G.F G'.F
  fN : ∀ a, G'.F a ≠ none → G.F a ≠ none ∨ G.H a = none ∨ a ∈ G.fp
  frm : ∀ a o, G.H a = some o → a ∉ G.fp → G'.H a = some o ∧ a ∉ G'.fp
  all : ∀ a, G.H a ≠ none → G'.H a ≠ none
  own : ∀ a ∈ G'.fp, a ∈ G.fp ∨ G.H a = none
theorem Good.within (s : SubE G G') (g : Good G' F H fp) : Good G F H fp := by
  have nn : ∀ a, G'.H a = none → G.H a = none := fun a e => by
    cases z : G.H a with
    | none => rfl
    | some o => exact absurd e (s.all a (by rw [z]; intro q; cases q))
  refine ⟨g.sub, s.f0.trans g.f0, fun a e => ?_, fun a o e hn => ?_, fun a e => g.all a (s.all a e), fun a ha => ?_, g.nf, g.nd⟩
  · rcases g.fN a e with z | z | z
    · exact s.fN a z
    · exact .inr (.inl (nn a z))
    · rcases s.own a z with q | q
      · exact .inr (.inr q)
      · exact .inr (.inl q)
  · obtain ⟨e', hn'⟩ := s.frm a o e hn
    exact g.frm a o e' hn'
  · rcases g.own a ha with z | z
    · exact s.own a z
    · exact .inr (nn a z)
theorem Rel.within (s : SubE G G') (h : Rel K G' H σ ρ τ δ) : Rel K G H σ ρ τ δ :=
  let ⟨F, f1, f2, g, ht, hs⟩ := h
  ⟨F, f1, f2, g.within s, ht, hs⟩
end
end Dl
namespace Dl
open PySem PySem.Spec PyProof.Rows L2
section
variable {K : PySem.W.Frag} {G : Ent} {H : Hp} {σ τ : L2.St} {ρ δ : List Sl}
end
end Dl
namespace WxR
open PySem PySem.Spec PyProof.Rows L2 TryM WthM
section
variable {X : Cx} {pins : List (Addr × Obj)} {D : Ends} {Wo : WX} {B : Heap} {a : Addr} {cls : Value} {d : Option Addr} {r : L2.St} {H : Hp} {sI s : Shared} {h : Heap}
end
end WxR
namespace WxR
open PySem PySem.Spec PyProof.Rows L2 TryM WthM L2H
section
variable {X : Cx} {pins : List (Addr × Obj)} {D : Ends} {Wo : WX} {B : Heap} {a : Addr} {cls : Value} {d : Option Addr} {r : L2.St} {H : Hp} {sI s : Shared} {h : Heap}
theorem Landed.goes {α : Type} {Q : α → Shared → Prop} {what : String} (L : Landed X pins B a cls d r H sI s h) (hs : X.stack = X.env :: X.outer) (hf : X.env.frame = some X.env.locals) (tk : Takes X Wo) (w : Wo cls d r H) :
    wpAny (model X.prog X.w) X.A (PySem.passOn what (.ref a) X.env : Sem α) Q X.xe { s with heap := h } := by
  obtain ⟨_, _, _, u, vs, T, _, _, hu, _, hd, ht, _⟩ := id L.fly
  have on : wpAny (model X.prog X.w) X.A (setFlight (.ref a) X.env.frame) (fun _ z => wpAny (model X.prog X.w) X.A (throw (.ref a) : Sem α) Q X.xe z) X.xe { s with heap := h } := by
    rw [hf]
    exact HandSPX.setFlight_upZ L.fly fun g hg ug => wpAny_throw (tk _ _ ⟨a, B, sI, pins, r, H, cls, d, rfl, L.inv, L.old, L.slo.trans ug, .inr (.inr (hs ▸ hg)), L.new, L.osE, L.bar, w⟩)
  unfold PySem.passOn
  refine wpAny_bind (wpAny_field hu hd ht ?_)
  rw [if_neg (by simp)]
  first
    | exact wpAny_bind (wpAny_pure (wpAny_bind on))
    | exact wpAny_bind on
end
end WxR
namespace WxR
open PySem PySem.Spec PyProof.Rows L2 TryM WthM L2H
section
variable {X : Cx} {ctx : Expr} {body : List Stmt} {pos : Pos} {tc : TE} {tb : WX → TS} {C fe fx : Addr} {spE spX : Sp} {CXF : CXT} {ke kx kh : Nat} {Wo : WX}
end
end WxR
namespace WxR
open PySem PySem.Spec PyProof.Rows L2 TryM WthM L2H HotX
section
variable {prog : Program} {w : World} {A : Around} {E : Value → Shared → Prop} {env : Env} {s : Shared}
end
end WxR
namespace WxR
open PySem PySem.Spec PyProof.Rows L2 TryM WthM L2H
section
variable {X : Cx} {pins : List (Addr × Obj)} {σ : L2.St} {H : Hp} {sI : Shared} {W Wo : WX}
end
end WxR
namespace WxR
open PySem PySem.Spec PyProof.Rows L2 TryM WthM L2H HotX
section
variable {X : Cx} {W Wo : WX}
end
end WxR
namespace Dl
open PySem PySem.Spec PyProof.Rows L2
section
variable {K : PySem.W.Frag} {G : Ent} {H H1 : Hp} {σ τ : L2.St} {ρ ρ1 δ : List Sl}
end
end Dl
namespace Dl
open PySem PySem.Spec PyProof.Rows L2
section
variable {K : PySem.W.Frag} {G : Ent} {H H1 : Hp} {σ τ : L2.St} {ρ ρ1 δ : List Sl}
end
end Dl
namespace Dl
open PySem PySem.Spec PyProof.Rows L2
section
variable {K : PySem.W.Frag}
end
end Dl
namespace WxR
open PySem PySem.Spec PyProof.Rows L2
theorem bm (K : PySem.W.Frag) {X : Cx} {o e : Expr} {es : List Expr} {to : TE} {t : TA} {name : Str} {apos cpos : Pos} {T id : String} {r : V → List V → Hp → VK → Prop} (pa : PlainAttrs T) (slot : Slot T name id) (hty : typeOf (.builtin id) = pure (.type "method_descriptor")) (hm : MtR X id r) (ho : PE X o to) (ha : PA X (e :: es) t)
    (hbase : attributeBase o name X.env (eval o X.env) = eval o X.env := by rfl)
    (hfew : ((backTo cpos (starEach (e :: es) X.env)).all (fun x => !x.1) && (backToKw cpos (keywordEach [] X.env)).all (fun x => x.1.isSome) && decide ((e :: es).length + ([] : List Keyword).length + (if ([] : List Keyword).isEmpty then 0 else 1) < 30)) = true := by rfl)
    (hline : (apos.endLine == cpos.line) = true := by rfl) (hs : starEach (e :: es) X.env = (false, eval e X.env) :: starEach es X.env := by rfl) (hplain : (backTo cpos (starEach es X.env)).any (·.1) = false := by rfl) (hK : X.K = K := by rfl) :
    PE X (.Call (.Attribute o name apos) (e :: es) [] cpos) (tBM K T r to t) := hK ▸ pe_bm pa slot hty hm ho ha hbase hfew hline hs hplain
end WxR
namespace Dl
open PySem PySem.Spec PyProof.Rows L2
section
variable {K : PySem.W.Frag} {W : WS}
end
end Dl
namespace Cl
open PySem PySem.Spec PyProof.Rows L2
section
variable {X : Cx} {CX : CXT} {k n : Nat} {f C p g : Addr} {mc : Value} {ks : List Str} {sp : Sp} {E : L2.St → XK} {m : Str} {pos apos : Pos} {e o : Expr} {es : List Expr} {kws : List Keyword} {ta : TE} {t tk : TA}
end
end Cl
namespace Dl
open PySem PySem.Spec PyProof.Rows L2
section
variable {K : PySem.W.Frag} {W : WS} {G : Ent} {F F' H H' : Hp} {σ τ : L2.St} {ρ : Env} {δ : List Sl}
theorem Ags.ext {σ σ' : L2.St} {vs : List V} {ags : List Ag} {τs : L2.St} {δs : List Sl} (h : Ags σ vs ags τs δs) : Ags (σ ++ σ') vs ags τs δs := by
  induction h with
  | nil => exact .nil
  | s _ ih => exact .s ih
  | @l v vs i ags τs δs e _ ih =>
    refine .l ?_ ih
    have hlt : i < σ.length := by
      rcases Nat.lt_or_ge i σ.length with z | z
      · exact z
      · rw [List.getElem?_eq_none z] at e; cases e
    rw [List.getElem?_append_left hlt]
    exact e
end
end Dl
namespace Dl
open PySem PySem.Spec PyProof.Rows L2
section
variable {K : PySem.W.Frag} {W : WS} {ta te : TE} {ma me : ME} {t : TS} {m : MS} {tl : TA} {ml : MA} {G : Ent} {F F' H H' : Hp} {σ τ : L2.St} {ρ : Env} {δ : List Sl}
def itS (z : Sh) (d : D) : Sl := match z with
  | .fr => .sh d
  | z => .ow z d
theorem itS_ok {z : Sh} {v : V} {d : D} {f : List Addr} (h : Own K F H z v d f) : SlV K F H (some v) (itS z d) f := by
  unfold itS
  split
  · cases h with
    | fr r => exact .sh r
  · exact .ow h
def Mw (K : PySem.W.Frag) (G : Ent) (H : Hp) (σ : L2.St) (ρ : Env) (τ : L2.St) (δ : List Sl) (a : Addr) (vs : List V) (zs : List Sh) (ds : List D) (i : Nat) : Prop :=
  ∃ F f1 f2 f3, Good G F H ((f1 ++ f2) ++ (a :: f3)) ∧ Slots K F H τ δ f1 ∧ Slots K F H σ ρ f2 ∧ H a = some (.lst vs) ∧ OwnF K F H (zs.drop i) (vs.drop i) (ds.drop i) f3
theorem Mw.start {v : V} {zs : List Sh} {ds : List D} (h : Rel K G H σ ρ (some v :: τ) (.ow (.oh zs) (.lst ds) :: δ)) : ∃ a vs, v = .ref a ∧ Mw K G H σ ρ τ δ a vs zs ds 0 := by
  obtain ⟨F, f1, f2, g, ht, hs⟩ := h
  cases ht with
  | cons q1 q2 =>
    cases q1 with
    | ow q =>
      cases q with
      | @oh _ a vs _ fp hh rl =>
        refine ⟨a, vs, rfl, F, _, f2, fp, g.cnt fun b => ?_, q2, hs, hh, rl⟩
        simp only [List.count_append, List.count_cons]
        omega
theorem Mw.step {a : Addr} {vs : List V} {zs : List Sh} {ds : List D} {i : Nat} {x : V} {d : D} {z : Sh} (h : Mw K G H σ ρ τ δ a vs zs ds i) (ex : vs[i]? = some x) (ed : ds[i]? = some d) (ez : zs[i]? = some z) :
    ∃ G2, Rel K G2 H σ ρ (some x :: τ) (itS z d :: δ) ∧ (∀ H' σ' ρ', Rel K G2 H' σ' ρ' τ δ → Mw K G H' σ' ρ' τ δ a vs zs ds (i + 1)) ∧ ∀ H' σ' ρ' τ' δ', Rel K G2 H' σ' ρ' τ' δ' → Rel K G H' σ' ρ' τ' δ' := by
  obtain ⟨F, f1, f2, f3, g, ht, hs, hh, ol⟩ := h
  obtain ⟨hi, e1⟩ := List.getElem?_eq_some_iff.mp ex
  obtain ⟨hj, e2⟩ := List.getElem?_eq_some_iff.mp ed
  obtain ⟨hk, e3⟩ := List.getElem?_eq_some_iff.mp ez
  rw [List.drop_eq_getElem_cons hi, List.drop_eq_getElem_cons hj, List.drop_eq_getElem_cons hk, e1, e2, e3] at ol
  cases ol with
  | @cons _ _ _ _ f fp _ _ o r =>
    have g1 : Good G F H (((f ++ f1) ++ f2) ++ (a :: fp)) := g.cnt fun b => by
      simp only [List.count_append, List.count_cons]
      omega
    have nd := List.nodup_append.mp g1.nd
    have here : ∀ b ∈ a :: fp, H b ≠ none := fun b hb => by
      rcases List.mem_cons.mp hb with rfl | hb
      · rw [hh]; intro z; cases z
      · exact r.here b hb
    have same : ∀ {F' H' gs}, Good ⟨H, F, (f ++ f1) ++ f2⟩ F' H' gs → ∀ b ∈ a :: fp, H' b = H b := fun {F' H' gs} gg b hb => by
      cases q : H b with
      | none => exact absurd q (here b hb)
      | some u => exact gg.frm b u q fun z => nd.2.2 b z b hb rfl
    refine ⟨⟨H, F, (f ++ f1) ++ f2⟩, ⟨F, f ++ f1, f2, ⟨g1.sub, Le.rfl, fun a ha => .inl ha, fun a o e _ => e, fun a ha => ha, fun a ha => .inl ha, fun a ha => g1.nf a (List.mem_append_left _ ha), nd.1⟩, .cons (itS_ok o) ht, hs⟩, fun H' σ' ρ' hr => ?_, fun H' σ' ρ' τ' δ' hr => ?_⟩
    · obtain ⟨F', g1', g2', gg, ht', hs'⟩ := hr
      have G2 := g1.call gg here
      refine ⟨F', g1', g2', fp, G2, ht', hs', by rw [same gg a List.mem_cons_self]; exact hh, r.mono gg.f0 fun b hb => same gg b (List.mem_cons_of_mem _ hb)⟩
    · obtain ⟨F', g1', g2', gg, ht', hs'⟩ := hr
      have G2 := g1.call gg here
      refine ⟨F', g1', g2', G2.cnt fun b => ?_, ht', hs'⟩
      simp only [List.count_append]
      omega
end
end Dl
namespace Dl
open PySem PySem.Spec PyProof.Rows L2
mutual
def noS : D → Bool
  | .lst ds => (match ds with | .str _ :: _ => false | _ => true) && noSL ds
  | .tup ds => noSL ds
  | .dic es => noSK es
  | .dil es => noSK es
  | .obj _ ds => noSL ds
  | .idn _ _ => false
  | .exc _ _ => false
  | .exb _ => false
  | _ => true
def noSL : List D → Bool
  | [] => true
  | d :: ds => noS d && noSL ds
def noSK : List (Key × D) → Bool
  | [] => true
  | (_, d) :: es => noS d && noSK es
end
def lessH (F : Hp) (f : List Addr) : Hp := fun b => if b ∈ f then none else F b
theorem lessH_out {F : Hp} {f : List Addr} {b : Addr} (h : b ∉ f) : lessH F f b = F b := by unfold lessH; rw [if_neg h]
def Txts (F : Hp) (f : List Addr) : Prop := ∀ b ∈ f, ∃ (x : Str) (l : List V), F b = some (.lst (.str x :: l))
section
variable {K : PySem.W.Frag} {F H : Hp} {f : List Addr}
theorem Txts.out {b : Addr} {o : HO} (t : Txts F f) (h : F b = some o) (no : ∀ x l, o ≠ .lst (.str x :: l)) : lessH F f b = some o := by
  rw [lessH_out]
  · exact h
  · intro z
    obtain ⟨x, l, e⟩ := t b z
    rw [h] at e
    exact no x l (Option.some.inj e)
mutual
theorem Rep.thaw (t : Txts F f) : ∀ {v : V} {d : D}, Rep K F v d → noS d = true → Rep K (lessH F f) v d
  | _, _, .non, _ => .non
  | _, _, .bl b, _ => .bl b
  | _, _, .int i, _ => .int i
  | _, _, .str x, _ => .str x
  | _, _, .lst h r, e => by
    unfold noS at e
    rw [Bool.and_eq_true] at e
    refine .lst (t.out h fun x l z => ?_) (RepL.thaw t r e.2)
    cases z
    cases r with
    | cons r1 _ => cases r1; cases e.1
  | _, _, .tup h r, e => by
    unfold noS at e
    refine .tup ?_ (RepL.thaw t r e)
    rcases h with (h | ⟨o, h⟩) | h
    · exact .inl (.inl (t.out h fun x l z => by cases z))
    · exact .inl (.inr ⟨o, t.out h fun x l z => by cases z⟩)
    · exact .inr h
  | _, _, .dic h r, e => by
    unfold noS at e
    exact .dic (t.out h fun x l z => by cases z) (RepK.thaw t r e)
  | _, _, .dil h r, e => by
    unfold noS at e
    exact .dil (t.out h fun x l z => by cases z) (RepK.thaw t r e)
  | _, _, .obj h h' n r, e => by
    unfold noS at e
    exact .obj (t.out h fun x l z => by cases z) (t.out h' fun x l z => by cases z) n (RepL.thaw t r e)
  | _, _, .cls c, _ => .cls c
  | _, _, .scr (ns := ns) h, _ => by
    refine .scr (ns := ns) ?_
    rcases h with (h | ⟨o, h⟩) | h
    · exact .inl (.inl (t.out h fun x l z => by cases ns <;> cases z))
    · exact .inl (.inr ⟨o, t.out h fun x l z => by cases z⟩)
    · exact .inr h
  | _, _, .idn n r, e => by unfold noS at e; cases e
  | _, _, .adr a, _ => .adr a
  | _, _, .exc _ _ _, e => by unfold noS at e; cases e
  | _, _, .exb _, e => by unfold noS at e; cases e
theorem RepL.thaw (t : Txts F f) : ∀ {v : List V} {d : List D}, RepL K F v d → noSL d = true → RepL K (lessH F f) v d
  | _, _, .nil, _ => .nil
  | _, _, .cons h r, e => by
    unfold noSL at e
    rw [Bool.and_eq_true] at e
    exact .cons (Rep.thaw t h e.1) (RepL.thaw t r e.2)
theorem RepK.thaw (t : Txts F f) : ∀ {v : List (Key × V)} {d : List (Key × D)}, RepK K F v d → noSK d = true → RepK K (lessH F f) v d
  | _, _, .nil, _ => .nil
  | _, _, .cons h r, e => by
    unfold noSK at e
    rw [Bool.and_eq_true] at e
    exact .cons (Rep.thaw t h e.1) (RepK.thaw t r e.2)
end
mutual
theorem Own.thaw (t : Txts F f) : ∀ {z : Sh} {v : V} {d : D} {fp : List Addr}, Own K F H z v d fp → noS d = true → Own K (lessH F f) H z v d fp
  | _, _, _, _, .fr r, e => .fr (r.thaw t e)
  | _, _, _, _, .ol h r, e => by
    unfold noS at e
    rw [Bool.and_eq_true] at e
    exact .ol h (OwnL.thaw t r e.2)
  | _, _, _, _, .od h r, e => by unfold noS at e; exact .od h (OwnK.thaw t r e)
  | _, _, _, _, .oo h h' n r, e => by unfold noS at e; exact .oo h h' n (OwnF.thaw t r e)
  | _, _, _, _, .ot h r, e => by unfold noS at e; exact .ot h (OwnF.thaw t r e)
  | _, _, _, _, .ft h r, e => by unfold noS at e; exact .ft (t.out h fun x l z => by cases z) (OwnF.thaw t r e)
  | _, _, _, _, .oh h r, e => by
    unfold noS at e
    rw [Bool.and_eq_true] at e
    exact .oh h (OwnF.thaw t r e.2)
theorem OwnL.thaw (t : Txts F f) : ∀ {z : Sh} {v : List V} {d : List D} {fp : List Addr}, OwnL K F H z v d fp → noSL d = true → OwnL K (lessH F f) H z v d fp
  | _, _, _, _, .nil, _ => .nil
  | _, _, _, _, .cons h r, e => by
    unfold noSL at e
    rw [Bool.and_eq_true] at e
    exact .cons (Own.thaw t h e.1) (OwnL.thaw t r e.2)
theorem OwnK.thaw (t : Txts F f) : ∀ {z : Sh} {v : List (Key × V)} {d : List (Key × D)} {fp : List Addr}, OwnK K F H z v d fp → noSK d = true → OwnK K (lessH F f) H z v d fp
  | _, _, _, _, .nil, _ => .nil
  | _, _, _, _, .cons h r, e => by
    unfold noSK at e
    rw [Bool.and_eq_true] at e
    exact .cons (Own.thaw t h e.1) (OwnK.thaw t r e.2)
theorem OwnF.thaw (t : Txts F f) : ∀ {z : List Sh} {v : List V} {d : List D} {fp : List Addr}, OwnF K F H z v d fp → noSL d = true → OwnF K (lessH F f) H z v d fp
  | _, _, _, _, .nil, _ => .nil
  | _, _, _, _, .cons h r, e => by
    unfold noSL at e
    rw [Bool.and_eq_true] at e
    exact .cons (Own.thaw t h e.1) (OwnF.thaw t r e.2)
end
def Sl.noS : Sl → Bool
  | .un => true
  | .sh d => Dl.noS d
  | .ow _ d => Dl.noS d
  | .le _ _ d => Dl.noS d
  | .bx => true
  | .lb _ => true
  | .er _ _ _ d => Dl.noS d
theorem SlV.thaw (t : Txts F f) {o : Option V} {s : Sl} {fp : List Addr} (h : SlV K F H o s fp) (e : s.noS = true) : SlV K (lessH F f) H o s fp := by
  cases h with
  | un => exact .un
  | sh r => exact .sh (r.thaw t e)
  | ow r => exact .ow (r.thaw t e)
  | le r => exact .le (r.thaw t e)
  | bx r => exact .bx r
  | lb r => exact .lb r
  | erB q => exact .erB q
  | er q h r => exact .er q h (r.thaw t e)
theorem Slots.thaw (t : Txts F f) {σ : L2.St} {ρ : List Sl} {fp : List Addr} (h : Slots K F H σ ρ fp) (e : ρ.all Sl.noS = true) : Slots K (lessH F f) H σ ρ fp := by
  induction h with
  | nil => exact .nil
  | cons h r ih =>
    rw [List.all_cons, Bool.and_eq_true] at e
    exact .cons (h.thaw t e.1) (ih e.2)
end
section
variable {K : PySem.W.Frag} {W : WS} {te : TE} {me : ME} {G : Ent} {F F' H H' : Hp} {σ τ : L2.St} {ρ : Env} {δ : List Sl}
theorem Rel.ft {i : Nat} {zs : List Sh} {ds : List D} (h : Rel K G H σ ρ τ δ) (e : ρ[i]? = some (.ow (.ot zs) (.tup ds))) : Rel K G H σ (ρ.set i (.ow (.ft zs) (.tup ds))) τ δ := by
  obtain ⟨F, f1, f2, g, ht, hs⟩ := h
  obtain ⟨o, l, f, r, rfl, eo, h1, kk⟩ := hs.at e
  cases h1 with
  | ow q =>
    cases q with
    | @ot _ a vs _ fp hh rr =>
      have g' : Good G F H ([a] ++ (f1 ++ (l ++ (fp ++ r)))) := g.cnt (by intro b; simp only [List.count_append, List.count_cons, List.count_nil]; omega)
      have hf : ∀ b ∈ [a], F b = none := fun b hb => g'.nf b (List.mem_append_left _ hb)
      have lf := fzH_le (H := H) hf
      have hs2 := hs.mono (F' := fzH F H [a]) (H' := H) lf fun _ _ => rfl
      obtain ⟨o2, l2, f2', r2, e12, eo2, h12, kk2⟩ := hs2.at e
      have un := (kk (some (V.ref a)) .un [] .un).mono (F' := fzH F H [a]) (H' := H) lf fun _ _ => rfl
      have hlt : i < ρ.length := by
        rcases Nat.lt_or_ge i ρ.length with z | z
        · exact z
        · rw [List.getElem?_eq_none z] at e; cases e
      obtain ⟨o3, l3, f3, r3, e13, eo3, h13, kk3⟩ := un.at (i := i) (s := .un) (by rw [List.getElem?_set_self hlt])
      have fin := kk3 (some (V.ref a)) (.ow (.ft zs) (.tup ds)) fp (.ow (.ft (by rw [fzH_in (by simp)]; exact hh) (rr.mono lf fun _ _ => rfl)))
      rw [List.set_set, List.set_set, set_back eo] at fin
      have : f3 = [] := by cases h13; rfl
      subst this
      simp only [List.nil_append] at e13
      refine ⟨fzH F H [a], f1, _, g'.fz.cnt fun b => ?_, ht.mono lf fun _ _ => rfl, fin⟩
      have := congrArg (List.count b) e13
      simp only [List.count_append] at this ⊢
      omega
end
end Dl
namespace Dl
open PySem PySem.Spec PyProof.Rows L2
section
variable {K : PySem.W.Frag} {W : WS} {G : Ent} {F F' H H' : Hp} {σ τ : L2.St} {ρ : Env} {δ : List Sl}
def backF (i n j : Nat) (ρ : Env) : Option Env := match ρ[i]?, ρ[j]? with
  | some s, some (.le (.ref a) z d) => match s.own with
    | some (.ot zs, .tup ds) => match zs[n]?, ds[n]? with
      | some .fr, some (.adr b) => if a = b ∧ i ≠ j then some ((ρ.set i (s.put (.ot (zs.set n z)) (.tup (ds.set n d)))).set j .un) else none
      | _, _ => none
    | _ => none
  | _, _ => none
theorem Rel.back {i n j : Nat} {r : Env} (h : Rel K G H σ ρ τ δ) (e : backF i n j ρ = some r) : Rel K G H σ r τ δ := by
  unfold backF at e
  split at e
  · rename_i s a z d ei ej
    split at e
    · rename_i zs ds eo
      split at e
      · rename_i b ez ed
        split at e
        · rename_i hab
          obtain ⟨rfl, hij⟩ := hab
          cases e
          obtain ⟨F, f1, f2, g, ht, hs⟩ := h
          obtain ⟨oj, l, f, r, rfl, ej2, h1, kk⟩ := hs.at ej
          cases h1 with
          | le q =>
            have s1 := kk (some (.ref a)) .un [] .un
            rw [set_back ej2] at s1
            have ei' : (ρ.set j .un)[i]? = some s := by rw [List.getElem?_set_ne (Ne.symm hij)]; exact ei
            obtain ⟨oi, l2, f3, r2, e12, ei2, h2, kk2⟩ := s1.at ei'
            have fin : ∀ {c : Addr} {vs : List V} {fp : List Addr}, oi = some (.ref c) → f3 = c :: fp → H c = some (.tup vs) → OwnF K F H zs vs ds fp → (∀ zs' ds' fp', OwnF K F H zs' vs ds' fp' → SlV K F H (some (.ref c)) (s.put (.ot zs') (.tup ds')) (c :: fp')) → Rel K G H σ ((ρ.set i (s.put (.ot (zs.set n z)) (.tup (ds.set n d)))).set j .un) τ δ := fun {c vs fp} ec ef hh rr mk => by
              subst ec ef
              obtain ⟨v, d0, la, fz, ra, ev, ed0, rfl, q1, kf⟩ := rr.get ez
              rw [ed] at ed0
              cases ed0
              cases q1 with
              | fr q1 =>
                cases q1
                have q2 := kf F H z (.ref a) d f Le.rfl (fun _ _ => rfl) q
                rw [set_same ev] at q2
                have s2 := kk2 (some (.ref c)) _ _ (mk _ _ _ q2)
                rw [set_back ei2, List.set_comm _ _ (Ne.symm hij)] at s2
                refine ⟨F, f1, _, g.cnt fun b => ?_, ht, s2⟩
                have := congrArg (List.count b) e12
                simp only [List.count_append, List.count_cons, List.nil_append, List.count_nil] at this ⊢
                omega
            cases h2 with
            | ow q2 =>
              cases eo
              cases q2 with
              | ot hh rr => exact fin rfl rfl hh rr fun zs' ds' fp' q => .ow (.ot hh q)
            | le q2 =>
              cases eo
              cases q2 with
              | ot hh rr => exact fin rfl rfl hh rr fun zs' ds' fp' q => .le (.ot hh q)
            | _ => cases eo
        · cases e
      · cases e
    · cases e
  · cases e
end
end Dl
namespace ExV
open PySem PySem.Spec PyProof.Rows L2
theorem erO_ok {P : Program} {w : World} {H : Hp} {h : Heap} {a C : Addr} {d : Option Addr} {oe : Obj} {vs : Array Value} (e : h.get? a = some oe) (z : Zc (.ref C) d oe) (hd : oe.data = .fields vs) : ObjOk P w H h a (ErO C d a) :=
  ⟨⟨oe, vs, e, z, hd⟩, ⟨oe, e⟩, fun _ _ ⟨o, v, q, r⟩ k => ⟨o, v, k o q, r⟩⟩
def tMkV (C : Addr) (f : Str) (ta : TA) : TE := fun σ H Q => ta σ H fun vs H1 => ∃ v, vs = [v] ∧ ∀ d e, d ≠ e → H1 d = none → H1 e = none → Q (.ref e) (upd (upd H1 d (.xd [(f, v)])) e (ErO C (some d) e))
def tMkV0 (C : Addr) : TE := fun _ H Q => ∀ e, H e = none → Q (.ref e) (upd H e (ErO C none e))
section
variable {X : Cx} {C : Addr} {x f nm : Str}
theorem pe_errV {a : Expr} {ta : TA} {p pos : Pos} {k : Nat} (T : PySem.ErrX.ErrTxt X.prog X.K C x f) (hm : X.mg nm = some (.ref C)) (hsu : X.mg "super" = none) (hr : Room k X.A) (ha : PA X [a] ta) (hg : Gl X nm := by rfl) (hdb : (nm == ("__debug__" : Str)) = false := by decide)
    (he : starEach (a :: []) X.env = (false, eval a X.env) :: starEach [] X.env := by rfl) (hpl : (backTo pos (starEach [] X.env)).any (·.1) = false := by rfl) :
    PE X (.Call (.Name nm p) [a] [] pos) (tMkV C f ta) := by
  refine ⟨fun pins s σ H Q I h => ?_⟩
  refine wpAny_Call_Name_kw (ld_glob I hg hm ?_ hdb)
  refine PySem.W.callWith_K (h₀ := X.base) I.ok.mod.kin T.kC (thn (ha.run pos pins s σ H _ I h) fun us s1 hh => ?_) he hpl
  obtain ⟨vs, H1, I1, r1, v, ev, q1⟩ := hh
  subst ev
  refine ⟨I1.kIn, ?_⟩
  cases r1 with
  | cons rv rn =>
    rename_i v' us'
    cases rn
    show wpAny _ _ (call (.ref C) [v']) _ _ _
    have hlim := I1.nolimit
    have hG := I1.mod.glob.keeps I1.bk
    obtain ⟨mb, hb1, hb2⟩ := I1.mod.blt
    have hB := hb1.keeps I1.bk
    obtain ⟨hp, g, dr, tk, os⟩ := s1
    refine wpAny_call (PySem.ErrX.err_made T I1.kIn hG hsu hB ((hb2 "super" (by decide)).trans (by decide +kernel)) hlim (by have := hr.dp; omega) fun h' tk' e d M => ?_)
    obtain ⟨oe, fv, hoe, hc, hd, hdat, _⟩ := M.obj
    have hns := M.ns
    obtain ⟨G', g1, g2⟩ := restrict h' fun b => decide (b ≠ e)
    have gk : ∀ b, b ≠ e → G'.get? b = h'.get? b := fun b hb => g1 b (decide_eq_true hb)
    have ge : G'.get? e = none := g2 e (by simp)
    have old : ∀ b o, hp.get? b = some o → G'.get? b = some o := fun b o q => (gk b (Nat.ne_of_lt (Nat.lt_of_lt_of_le (Heap.lt_size q) M.new))).trans (M.keep b o q)
    have ob : ObjOk X.prog X.w (upd H1 d (.xd [(f, v)])) G' d (.xd [(f, v)]) :=
      ⟨_, hns.at (fun o q => (gk d M.dne).trans q), fun y => relO_one rv f y⟩
    have J : Inv X pins σ (upd H1 d (.xd [(f, v)])) ⟨G', g, dr, tk', os⟩ := I1.laid (t' := tk') old M.dbig ob
    have gs : ∀ b o, G'.get? b = some o → h'.get? b = some o := fun b o q => by
      by_cases hb : b = e
      · rw [hb, ge] at q; cases q
      · exact (gk b hb).symm.trans q
    have hn : upd H1 d (.xd [(f, v)]) e = none := by
      rw [upd_ne (Ne.symm M.dne)]
      exact I1.hok.fresh M.new
    have J2 := J.laidN (t' := tk') gs ge hn (erO_ok hoe ⟨hc, hd⟩ hdat)
    exact ⟨.ref e, _, J2, rfl, q1 d e M.dne (I1.hok.fresh M.dbig) (I1.hok.fresh M.new)⟩
theorem pe_errVL {K : PySem.W.Frag} {a : Expr} {ta : TA} {p pos : Pos} {k : Nat} (hK : X.K = K) (T : PySem.ErrX.ErrTxtL X.prog X.K C x f) (hm : X.mg nm = some (.ref C)) (hsu : X.mg "super" = none) (hli : X.mg "list" = none) (hr : Room k X.A) (ha : PA X [a] ta) (hg : Gl X nm := by rfl) (hdb : (nm == ("__debug__" : Str)) = false := by decide)
    (he : starEach (a :: []) X.env = (false, eval a X.env) :: starEach [] X.env := by rfl) (hpl : (backTo pos (starEach [] X.env)).any (·.1) = false := by rfl) :
    PE X (.Call (.Name nm p) [a] [] pos) (tMkV C f (tCons (tCB (Cl.qList K) ta) tNil)) := by
  subst hK
  refine ⟨fun pins s σ H Q I h => ?_⟩
  refine wpAny_Call_Name_kw (ld_glob I hg hm ?_ hdb)
  refine PySem.W.callWith_K (h₀ := X.base) I.ok.mod.kin T.kC (thn (ha.run pos pins s σ H _ I h) fun us s1 hh => ?_) he hpl
  obtain ⟨vs, H1, I1, r1, q, ys, ev, hq, qn⟩ := hh
  subst ev
  refine ⟨I1.kIn, ?_⟩
  obtain ⟨u, rfl, rx⟩ := vals1 r1
  cases rx
  show wpAny _ _ (call (.ref C) [.ref q]) _ _ _
  have lobj : ∃ (Tn : String) (ol : Obj) (its : List Value) (nl : Nat), (Tn = "list" ∨ Tn = "tuple") ∧ s1.heap.get? q = some ol ∧ ol.cls = .type Tn ∧ ol.data = .seq its.toArray nl ∧ Vals ys its ∧ ys.length ≤ sizeLine := by
    rcases hq with hq | hq
    · obtain ⟨its, r', pl, hz⟩ := I1.list hq
      obtain ⟨o, ho, hc, n, hd⟩ := pl.isList
      exact ⟨_, o, its, n, .inl rfl, ho, hc, hd, r', hz⟩
    · obtain ⟨its, r', pl, hz⟩ := I1.tuple hq
      obtain ⟨o, ho, hc, n, hd⟩ := pl
      exact ⟨_, o, its, n, .inr rfl, ho, hc, hd, r', hz⟩
  obtain ⟨Tn, ol, its, nl, hTn, hol, hoc, hod, rits, hz⟩ := lobj
  have hlim := I1.nolimit
  have hG := I1.mod.glob.keeps I1.bk
  obtain ⟨mb, hb1, hb2⟩ := I1.mod.blt
  have hB := hb1.keeps I1.bk
  obtain ⟨hp, g, dr, tk, os⟩ := s1
  have hlen := rits.length
  refine wpAny_call (PySem.ErrX.err_madeL T hTn hol hoc hod (by simp only [List.size_toArray]; omega) I1.kIn hG hsu hB ((hb2 "super" (by decide)).trans (by decide +kernel)) hli ((hb2 "list" (by decide)).trans (by decide +kernel)) hlim (by have := hr.dp; omega) fun h' tk' e d l cl ML => ?_)
  have M := ML.made
  obtain ⟨oe, fv, hoe, hc, hd, hdat, _⟩ := M.obj
  have hns := M.ns
  obtain ⟨G', g1, g2⟩ := restrict h' fun b => decide (b ≠ e)
  have gk : ∀ b, b ≠ e → G'.get? b = h'.get? b := fun b hb => g1 b (decide_eq_true hb)
  have ge : G'.get? e = none := g2 e (by simp)
  obtain ⟨G1, k1, k2⟩ := restrict h' fun b => decide (b ≠ e ∧ b ≠ d)
  have gk1 : ∀ b, b ≠ e → b ≠ d → G1.get? b = h'.get? b := fun b hb hb2 => k1 b (decide_eq_true ⟨hb, hb2⟩)
  have gd1 : G1.get? d = none := k2 d (by simp)
  have ge1 : G1.get? e = none := k2 e (by simp)
  have old1 : ∀ b o, hp.get? b = some o → G1.get? b = some o := fun b o q => (gk1 b (Nat.ne_of_lt (Nat.lt_of_lt_of_le (Heap.lt_size q) M.new)) (Nat.ne_of_lt (Nat.lt_of_lt_of_le (Heap.lt_size q) M.dbig))).trans (M.keep b o q)
  have J1 : Inv X pins σ (upd H1 l (.lst ys)) ⟨G1, g, dr, tk', os⟩ := I1.laid (t' := tk') old1 ML.lbig (show ObjOk X.prog X.w _ G1 _ (.lst ys) from ⟨hz, its, cl, rits, (gk1 l ML.lne ML.lnd).trans ML.lobj⟩)
  have hdn : upd H1 l (.lst ys) d = none := by
    rw [upd_ne (Ne.symm ML.lnd)]
    exact I1.hok.fresh M.dbig
  have hen : upd H1 l (.lst ys) e = none := by
    rw [upd_ne (Ne.symm ML.lne)]
    exact I1.hok.fresh M.new
  have old2 : ∀ b o, G1.get? b = some o → G'.get? b = some o := fun b o q => by
    have n1 : b ≠ e := fun z => by rw [z, ge1] at q; cases q
    have n2 : b ≠ d := fun z => by rw [z, gd1] at q; cases q
    rw [gk b n1, ← gk1 b n1 n2]
    exact q
  have ob : ObjOk X.prog X.w (upd (upd H1 l (.lst ys)) d (.xd [(f, .ref l)])) G' d (.xd [(f, .ref l)]) :=
    ⟨_, hns.at (fun o q => (gk d M.dne).trans q), fun y => relO_one (v := .ref l) (v' := .ref l) rfl f y⟩
  have J : Inv X pins σ (upd (upd H1 l (.lst ys)) d (.xd [(f, .ref l)])) ⟨G', g, dr, tk', os⟩ := J1.laidN (t' := tk') old2 gd1 hdn ob
  have gs : ∀ b o, G'.get? b = some o → h'.get? b = some o := fun b o q => by
    by_cases hb : b = e
    · rw [hb, ge] at q; cases q
    · exact (gk b hb).symm.trans q
  have hn : upd (upd H1 l (.lst ys)) d (.xd [(f, .ref l)]) e = none := by
    rw [upd_ne (Ne.symm M.dne)]
    exact hen
  have J2 := J.laidN (t' := tk') gs ge hn (erO_ok hoe ⟨hc, hd⟩ hdat)
  obtain ⟨v, ev, q1⟩ := qn l (I1.hok.fresh ML.lbig)
  cases ev
  exact ⟨.ref e, _, J2, rfl, q1 d e M.dne hdn hen⟩
theorem pe_errV0 {p pos : Pos} (T : BareX.OwnE X.K C) (hm : X.mg nm = some (.ref C)) (hg : Gl X nm := by rfl) (hdb : (nm == ("__debug__" : Str)) = false := by decide) :
    PE X (.Call (.Name nm p) [] [] pos) (tMkV0 C) := by
  refine ⟨fun pins s σ H Q I h => ?_⟩
  refine wpAny_Call_Name_kw (ld_glob I hg hm ?_ hdb)
  refine PySem.W.callWith_K0 I.kIn T.keep ?_
  show wpAny _ _ (call (.ref C) []) _ _ _
  obtain ⟨bm, N, nm', qn, bs, hdct, sn, sub, ab, col, dd, k0, k1, k2, k3, k5, mN, hC, hN, hni, TT⟩ := exc_obj I.kIn T.q
  refine wpAny_call_exc_subT PySem.F.excBase_ValueError TT hC hN hni (fun h' a hm => ?_) (by show 0 ≤ sizeLine; exact Nat.zero_le _)
  have hn : H a = none := I.hok.gone hm.new
  obtain ⟨t, ht, _, _⟩ := hm.there
  exact ⟨.ref a, upd H a (ErO C none a), I.laidN hm.keeps hm.new hn (erO_ok ht ⟨rfl, rfl⟩ rfl), rfl, h a hn⟩
def rIsV (K : PySem.W.Frag) : List V → Hp → VK → Prop := fun xs H Q => ∃ (a : Addr) (c : V) (cv : Value) (b : Bool) (D : Addr) (d : Option Addr), xs = [.ref a, c] ∧ H a = some (ErO D d a) ∧ ExcC K D ∧ (d = none ∨ ∃ (dd : Addr) (fs : List (Str × V)), d = some dd ∧ H dd = some (.xd fs)) ∧
  (∀ u, RelV c u → u = cv) ∧ PySem.W.kitOne K (.ref D) cv = some b ∧ Q (.bl b) H
theorem call_isV {X : Cx} : CallR X (.builtin "isinstance") (rIsV X.K) := by
  intro pins s σ H xs us Q I r h
  obtain ⟨a, c, cv, b, D, d, rfl, hE, C, hdd, hcv, e, q⟩ := h
  cases r with
  | cons rx rr =>
    cases rr with
    | cons rt rr =>
      cases rr
      cases rx
      have ec := hcv _ rt
      subst ec
      obtain ⟨⟨oe, vs, hget, hz, hv⟩, _, _⟩ := I.hok a _ hE
      have hcl : (PySem.W.clsIn X.K D).isSome = true := by
        obtain ⟨cd, hc, _⟩ := PySem.W.any_some C.hd
        rw [hc]
        rfl
      rcases hdd with rfl | ⟨dd, fs, rfl, hd⟩
      · have J : PySem.W.InstAt s.heap a oe D none := ⟨hget, hz.1, by unfold PySem.W.notCls; rw [hv] <;> rfl, by rw [hz.2]; exact trivial⟩
        exact PySem.W.kia_one (PySem.W.kitx_exc hcl C.hg C.hk C.hs C.ha C.hn C.ht C.hm) I.kIn J e (fun z => nomatch z) fun tk => ⟨.bl b, H, I.kept (t' := tk) fun _ _ z => z, rfl, q⟩
      have hx : ObjOk X.prog X.w H s.heap dd (.xd fs) := I.hok dd _ hd
      obtain ⟨mA, hns, _⟩ := hx
      obtain ⟨od, ho, _⟩ := lookIn_ns hns
      have J : PySem.W.InstAt s.heap a oe D (some od) := ⟨hget, hz.1, by unfold PySem.W.notCls; rw [hv] <;> rfl, by rw [hz.2]; exact ho⟩
      exact PySem.W.kia_one (PySem.W.kitx_exc hcl C.hg C.hk C.hs C.ha C.hn C.ht C.hm) I.kIn J e (fun z => nomatch z) fun tk => ⟨.bl b, H, I.kept (t' := tk) fun _ _ z => z, rfl, q⟩
def tXfV (K : PySem.W.Frag) (n : Str) (te : TE) : TE := fun σ H Q => te σ H fun x H1 => ∃ (a C dd : Addr) (fs : List (Str × V)) (v : V), x = .ref a ∧ H1 a = some (ErO C (some dd) a) ∧ XfC K C ∧ PySem.W.findIn K (.ref C) n = some none ∧ H1 dd = some (.xd fs) ∧ fs.lookup n = some v ∧ Q v H1
theorem pe_xfV {e : Expr} {te : TE} {pos : Pos} {n : Str} (K : PySem.W.Frag) (he : PE X e te) (hK : X.K = K := by rfl) (hb : attributeBase e n X.env (eval e X.env) = eval e X.env := by rfl) :
    PE X (.Attribute e n pos) (tXfV K n te) := by
  subst hK
  refine ⟨fun pins s σ H Q I h => ?_⟩
  refine attr_of hb (thn (he.run pins s σ H _ I h) fun u s1 hh => ?_)
  obtain ⟨x, H1, I1, rx, a, C, dd, fs, v, ex, hE, T, hno, ea, l, q⟩ := hh
  subst ex
  obtain rfl : u = Value.ref a := rx
  obtain ⟨⟨oe, vs, ha, hz, hd⟩, _, _⟩ := I1.hok a _ hE
  have hx : ObjOk X.prog X.w H1 s1.heap dd (.xd fs) := I1.hok dd _ ea
  obtain ⟨mA, hns, hr⟩ := hx
  obtain ⟨od, ho, hl⟩ := lookIn_ns hns
  obtain ⟨u, hu, ru⟩ := RelO.some_of (v := v) (o := mA n) (by rw [← l]; exact hr n)
  have J : PySem.W.InstAt s1.heap a oe C (some od) := ⟨ha, hz.1, by unfold PySem.W.notCls; rw [hd] <;> rfl, by rw [hz.2]; exact ho⟩
  exact HandSPX.exc_get I1.kIn J T.ga T.gg T.exC (PySem.W.findObj_own T.hdC hno rfl (by rw [hl, hu])) (handed_of ru) ⟨v, H1, I1.tok _, ru, q⟩
end
end ExV
namespace Dl
open PySem PySem.Spec PyProof.Rows L2
section
variable {K : PySem.W.Frag} {W : WS} {G : Ent} {F H H' : Hp} {σ τ : L2.St} {ρ : Env} {δ : List Sl} {v : V} {d : D} {ta : TE} {ma : ME}
theorem Rel.newX {p e : Addr} {c : Nat} (hp : H p = none) (he : H e = none) (hne : p ≠ e) (h : Rel K G H σ ρ (some v :: τ) (.sh d :: δ)) :
    Rel K G (upd (upd H p (.xd [(ef c, v)])) e (ExV.ErO (He.ga K (en c)) (some p) e)) σ ρ (some (.ref e) :: τ) (.sh (.exc c d) :: δ) := by
  obtain ⟨F, f1, f2, g, ht, hs⟩ := h
  cases ht with
  | cons hv ht =>
    cases hv with
    | sh r =>
      rename_i f1
      have hin : ∀ a ∈ f1 ++ f2, H a ≠ none := fun a ha => by
        rcases List.mem_append.mp ha with z | z
        · exact ht.here a z
        · exact hs.here a z
      have g1 := g.newO hin hp (.xd [(ef c, v)])
      have hF : F p = none := g1.nf p (by simp)
      have g2 : Good G (upd F p (.xd [(ef c, v)])) (upd H p (.xd [(ef c, v)])) (f1 ++ f2) := by
        have := Good.fz (f := [p]) (fp := f1 ++ f2) g1
        rwa [upd_fz] at this
      have he' : upd H p (.xd [(ef c, v)]) e = none := by rw [upd_ne (Ne.symm hne)]; exact he
      have hn : ∀ a ∈ f1 ++ f2, upd H p (.xd [(ef c, v)]) a = H a := fun a ha => upd_ne fun z => hin a ha (by rw [z]; exact hp)
      have hin2 : ∀ a ∈ f1 ++ f2, upd H p (.xd [(ef c, v)]) a ≠ none := fun a ha => by rw [hn a ha]; exact hin a ha
      have g3 := g2.newO hin2 he' (ExV.ErO (He.ga K (en c)) (some p) e)
      have hF2 : upd F p (.xd [(ef c, v)]) e = none := g3.nf e (by simp)
      have g4 : Good G (upd (upd F p (.xd [(ef c, v)])) e (ExV.ErO (He.ga K (en c)) (some p) e)) (upd (upd H p (.xd [(ef c, v)])) e (ExV.ErO (He.ga K (en c)) (some p) e)) (f1 ++ f2) := by
        have := Good.fz (f := [e]) (fp := f1 ++ f2) g3
        rwa [upd_fz] at this
      have hn2 : ∀ a ∈ f1 ++ f2, upd (upd H p (.xd [(ef c, v)])) e (ExV.ErO (He.ga K (en c)) (some p) e) a = H a := fun a ha => (upd_ne fun z => hin2 a ha (by rw [z]; exact he')).trans (hn a ha)
      have l1 := le_new (o := HO.xd [(ef c, v)]) hF
      have l2 := le_new (o := ExV.ErO (He.ga K (en c)) (some p) e) hF2
      have l := l1.trans l2
      exact ⟨_, f1, f2, g4, .cons (f := []) (.sh (.exc upd_same (by rw [upd_ne hne]; exact upd_same) (r.mono l))) (ht.mono l fun a ha => hn2 a (List.mem_append_left _ ha)), hs.mono l fun a ha => hn2 a (List.mem_append_right _ ha)⟩
theorem Rel.newX0 {e : Addr} {c : Nat} (he : H e = none) (h : Rel K G H σ ρ τ δ) : Rel K G (upd H e (ExV.ErO (He.ga K (en c)) none e)) σ ρ (some (.ref e) :: τ) (.sh (.exb c) :: δ) :=
  Rel.newF (vs := []) (ds := []) he rfl h fun F _ z => .exb z
def mMkV (c : Nat) (a : ME) : ME := a.bind fun s => match s with
  | .sh d => M.ret (.sh (.exc c d))
  | _ => M.stuck
theorem eMkV {c : Nat} (ha : EOk K W ta ma) : EOk K W (ExV.tMkV (He.ga K (en c)) (ef c) (tCons ta tNil)) (mMkV c ma) := fun G H σ ρ τ δ Q h w =>
  ha G H σ ρ τ δ _ h (ma.mono (fun s1 ρ1 w1 v1 H1 h1 => by
    simp only at w1
    split at w1
    · exact ⟨_, rfl, fun p e hne hp he => w1 _ _ (h1.newX hp he hne)⟩
    · exact w1.elim) (fun _ _ z => z) w)
def mMkV0 (c : Nat) : ME := M.ret (.sh (.exb c))
theorem eMkV0 {c : Nat} : EOk K W (ExV.tMkV0 (He.ga K (en c))) (mMkV0 c) := fun G H σ ρ τ δ Q h w e he => w _ _ (h.newX0 he)
def dIsE (own : Nat → Option Bool) : D → Option D
  | .exc c _ => match own c with
    | some b => some (.bl b)
    | none => none
  | .exb c => match own c with
    | some b => some (.bl b)
    | none => none
  | _ => none
theorem eIsE {own : Nat → Option Bool} {tv : V} {cv : Value} (ho : ∀ c b, own c = some b → ExcC K (He.ga K (en c)) ∧ PySem.W.kitOne K (.ref (He.ga K (en c))) cv = some b) (hcv : ∀ u, RelV tv u → u = cv) (ha : EOk K W ta ma) :
    EOk K W (tCB (ExV.rIsV K) (tCons ta (tCons (tC tv) tNil))) (mUn (op1 (dIsE own)) ma) := fun G H σ ρ τ δ Q h w =>
  ha G H σ ρ τ δ _ h (ma.mono (fun s1 ρ1 w1 v1 H1 h1 => by
    obtain ⟨a, d, rfl, e, q⟩ := op1_go w1
    obtain ⟨F, r, z⟩ := h1.top
    unfold dIsE at e
    split at e
    · split at e
      · rename_i b eb
        cases e
        obtain ⟨x1, x2⟩ := ho _ _ eb
        cases r with
        | exc k1 k2 k3 => exact ⟨_, _, _, _, _, _, rfl, z.le _ _ k1, x1, .inr ⟨_, _, rfl, z.le _ _ k2⟩, hcv, x2, q _ _ (h1.pop.push rfl)⟩
      · cases e
    · split at e
      · rename_i b eb
        cases e
        obtain ⟨x1, x2⟩ := ho _ _ eb
        cases r with
        | exb k1 => exact ⟨_, _, _, _, _, _, rfl, z.le _ _ k1, x1, .inl rfl, hcv, x2, q _ _ (h1.pop.push rfl)⟩
      · cases e
    · cases e) (fun _ _ z => z) w)
def dXfV (n : Str) (tb : Nat → Bool) : D → Option D
  | .exc c d => if tb c = true ∧ ef c = n then some d else none
  | _ => none
theorem eXfV {n : Str} {tb : Nat → Bool} (ht : ∀ c, tb c = true → XfC K (He.ga K (en c)) ∧ PySem.W.findIn K (.ref (He.ga K (en c))) n = some none) (ha : EOk K W ta ma) : EOk K W (ExV.tXfV K n ta) (mUn (op1 (dXfV n tb)) ma) := fun G H σ ρ τ δ Q h w =>
  ha G H σ ρ τ δ _ h (ma.mono (fun s1 ρ1 w1 v1 H1 h1 => by
    obtain ⟨a, d, rfl, e, q⟩ := op1_go w1
    obtain ⟨F, r, z⟩ := h1.top
    unfold dXfV at e
    split at e
    · rename_i c d'
      split at e
      · rename_i hc
        obtain ⟨hb, hn⟩ := hc
        cases e
        obtain ⟨x1, x2⟩ := ht _ hb
        cases r with
        | exc k1 k2 k3 =>
          subst hn
          exact ⟨_, _, _, _, _, rfl, z.le _ _ k1, x1, x2, z.le _ _ k2, by simp [List.lookup], q _ _ (z.sh _ _ k3)⟩
      · cases e
    · cases e) (fun _ _ z => z) w)
end
end Dl
namespace Pf
open PySem PySem.Spec PyProof.Rows L2 Dl
noncomputable section
def xo_BadNumber : Nat → Option Bool := fun c => match c with
  | 0 => some true
  | 1 => some false
  | 2 => some false
  | 3 => some false
  | 4 => some false
  | 5 => some false
  | 6 => some false
  | 7 => some false
  | 8 => some false
  | 9 => some false
  | 10 => some false
  | 11 => some false
  | 12 => some false
  | 13 => some false
  | _ => none
def xo_BadName : Nat → Option Bool := fun c => match c with
  | 0 => some false
  | 1 => some true
  | 2 => some false
  | 3 => some false
  | 4 => some false
  | 5 => some false
  | 6 => some false
  | 7 => some false
  | 8 => some false
  | 9 => some false
  | 10 => some false
  | 11 => some false
  | 12 => some false
  | 13 => some false
  | _ => none
def xo_TakenName : Nat → Option Bool := fun c => match c with
  | 0 => some false
  | 1 => some false
  | 2 => some true
  | 3 => some false
  | 4 => some false
  | 5 => some false
  | 6 => some false
  | 7 => some false
  | 8 => some false
  | 9 => some false
  | 10 => some false
  | 11 => some false
  | 12 => some false
  | 13 => some false
  | _ => none
def xo_UnknownName : Nat → Option Bool := fun c => match c with
  | 0 => some false
  | 1 => some false
  | 2 => some false
  | 3 => some true
  | 4 => some false
  | 5 => some false
  | 6 => some false
  | 7 => some false
  | 8 => some false
  | 9 => some false
  | 10 => some false
  | 11 => some false
  | 12 => some false
  | 13 => some false
  | _ => none
def xo_NoPlace : Nat → Option Bool := fun c => match c with
  | 0 => some false
  | 1 => some false
  | 2 => some false
  | 3 => some false
  | 4 => some true
  | 5 => some false
  | 6 => some false
  | 7 => some false
  | 8 => some false
  | 9 => some false
  | 10 => some false
  | 11 => some false
  | 12 => some false
  | 13 => some false
  | _ => none
def xo_TooMany : Nat → Option Bool := fun c => match c with
  | 0 => some false
  | 1 => some false
  | 2 => some false
  | 3 => some false
  | 4 => some false
  | 5 => some true
  | 6 => some false
  | 7 => some false
  | 8 => some false
  | 9 => some false
  | 10 => some false
  | 11 => some false
  | 12 => some false
  | 13 => some false
  | _ => none
def xo_NoSite : Nat → Option Bool := fun c => match c with
  | 0 => some false
  | 1 => some false
  | 2 => some false
  | 3 => some false
  | 4 => some false
  | 5 => some false
  | 6 => some true
  | 7 => some false
  | 8 => some false
  | 9 => some false
  | 10 => some false
  | 11 => some false
  | 12 => some false
  | 13 => some false
  | _ => none
def xo_NoShape : Nat → Option Bool := fun c => match c with
  | 0 => some false
  | 1 => some false
  | 2 => some false
  | 3 => some false
  | 4 => some false
  | 5 => some false
  | 6 => some false
  | 7 => some true
  | 8 => some false
  | 9 => some false
  | 10 => some false
  | 11 => some false
  | 12 => some false
  | 13 => some false
  | _ => none
def xo_BadState : Nat → Option Bool := fun c => match c with
  | 0 => some false
  | 1 => some false
  | 2 => some false
  | 3 => some false
  | 4 => some false
  | 5 => some false
  | 6 => some false
  | 7 => some false
  | 8 => some true
  | 9 => some false
  | 10 => some false
  | 11 => some false
  | 12 => some false
  | 13 => some false
  | _ => none
def xo_BadLine : Nat → Option Bool := fun c => match c with
  | 0 => some false
  | 1 => some false
  | 2 => some false
  | 3 => some false
  | 4 => some false
  | 5 => some false
  | 6 => some false
  | 7 => some false
  | 8 => some false
  | 9 => some true
  | 10 => some false
  | 11 => some false
  | 12 => some false
  | 13 => some false
  | _ => none
def xo_DeedFailed : Nat → Option Bool := fun c => match c with
  | 0 => some false
  | 1 => some false
  | 2 => some false
  | 3 => some false
  | 4 => some false
  | 5 => some false
  | 6 => some false
  | 7 => some false
  | 8 => some false
  | 9 => some false
  | 10 => some true
  | 11 => some false
  | 12 => some false
  | 13 => some false
  | _ => none
def xo_OtherSite : Nat → Option Bool := fun c => match c with
  | 0 => some false
  | 1 => some false
  | 2 => some false
  | 3 => some false
  | 4 => some false
  | 5 => some false
  | 6 => some false
  | 7 => some false
  | 8 => some false
  | 9 => some false
  | 10 => some false
  | 11 => some true
  | 12 => some false
  | 13 => some false
  | _ => none
def xo_NothingToUndo : Nat → Option Bool := fun c => match c with
  | 0 => some false
  | 1 => some false
  | 2 => some false
  | 3 => some false
  | 4 => some false
  | 5 => some false
  | 6 => some false
  | 7 => some false
  | 8 => some false
  | 9 => some false
  | 10 => some false
  | 11 => some false
  | 12 => some true
  | 13 => some false
  | _ => none
def xo_NothingToRedo : Nat → Option Bool := fun c => match c with
  | 0 => some false
  | 1 => some false
  | 2 => some false
  | 3 => some false
  | 4 => some false
  | 5 => some false
  | 6 => some false
  | 7 => some false
  | 8 => some false
  | 9 => some false
  | 10 => some false
  | 11 => some false
  | 12 => some false
  | 13 => some true
  | _ => none
def xo_LadderError : Nat → Option Bool := fun c => match c with
  | 0 => some true
  | 1 => some true
  | 2 => some true
  | 3 => some true
  | 4 => some true
  | 5 => some true
  | 6 => some true
  | 7 => some true
  | 8 => some true
  | 9 => some true
  | 10 => some true
  | 11 => some true
  | 12 => some true
  | 13 => some true
  | _ => none
def xo_ValueError : Nat → Option Bool := fun c => match c with
  | 0 => some true
  | 1 => some true
  | 2 => some true
  | 3 => some true
  | 4 => some true
  | 5 => some true
  | 6 => some true
  | 7 => some true
  | 8 => some true
  | 9 => some true
  | 10 => some true
  | 11 => some true
  | 12 => some true
  | 13 => some true
  | _ => none
def xv_value : Nat → Bool := fun c => decide (c = 0)
def xv_name : Nat → Bool := fun c => decide (c = 1) || (decide (c = 2) || (decide (c = 3)))
def xv_place : Nat → Bool := fun c => decide (c = 4)
def xv_count : Nat → Bool := fun c => decide (c = 5)
def xv_ring : Nat → Bool := fun c => decide (c = 6)
def xv_blames : Nat → Bool := fun c => decide (c = 7)
def xv_state : Nat → Bool := fun c => decide (c = 8)
def xv_line : Nat → Bool := fun c => decide (c = 9)
def xv_row : Nat → Bool := fun c => decide (c = 10)
theorem if2 {c : Prop} [Decidable c] {a b : Prop} (h1 : c → a) (h2 : ¬ c → b) : if c then a else b := by
  split
  · exact h1 (by assumption)
  · exact h2 (by assumption)
theorem cut {a b : MS} {ρ : Dl.Env} {M : MEnds} (P : Dl.Env → Prop) (h1 : a.wp ρ { M with nx := P }) (h2 : ∀ r, P r → b.wp r M) : (sSeq a b).wp ρ M := a.mono (M := { M with nx := P }) ⟨fun r z => h2 r z, fun _ _ z => z, fun _ z => z, fun _ z => z, fun _ _ z => z⟩ h1
theorem dt {p : Prop} [Decidable p] (h : decide p = true) : p := of_decide_eq_true h
theorem op2_ok {g : D → D → Option D} {a b d : D} {ρ : Dl.Env} {Q : Sl → Dl.Env → Prop} {E : Er → Dl.Env → Prop} (h : g a b = some d) (k : Q (.sh d) ρ) : (op2 g (.sh a) (.sh b)).wp ρ Q E := by
  show (match g a b with | some d => M.ret (.sh d) | none => M.stuck : ME).wp ρ Q E
  rw [h]
  exact k
theorem fit_int {n : Nat} (i : Int) : (D.int i).fit n := ⟨.int i, rfl, Nat.zero_le _⟩
theorem fit_all {n : Nat} : ∀ {ds : List D}, (∀ d ∈ ds, D.fit n d) → Plains ds ∧ PyData.canLayAll0 (D.pys ds) = true ∧ PyData.depthAll (D.pys ds) ≤ n
  | [], _ => ⟨.nil, rfl, Nat.zero_le _⟩
  | d :: ds, h => by
    obtain ⟨a1, a2, a3⟩ := h d List.mem_cons_self
    obtain ⟨b1, b2, b3⟩ := fit_all (ds := ds) fun e he => h e (List.mem_cons_of_mem _ he)
    refine ⟨.cons a1 b1, ?_, Nat.max_le.mpr ⟨a3, b3⟩⟩
    show (PyData.canLay0 d.py && PyData.canLayAll0 (D.pys ds)) = true
    rw [a2, b2]
    rfl
theorem fit_lst {n : Nat} {ds : List D} (h : ∀ d ∈ ds, D.fit n d) : (D.lst ds).fit (n + 1) := let ⟨a, b, c⟩ := fit_all h; ⟨.lst a, b, Nat.succ_le_succ c⟩
theorem fit_tup {n : Nat} {ds : List D} (h : ∀ d ∈ ds, D.fit n d) : (D.tup ds).fit (n + 1) := let ⟨a, b, c⟩ := fit_all h; ⟨.tup a, b, Nat.succ_le_succ c⟩
theorem eq_refl {n : Nat} {d : D} (h : d.fit n) : D.eq d d = true := SeqAt.eqv_refl _ h.2.1
theorem lc_inv {vs : List Nat} {g : MG} {c : MT} {e : ME} {all : List D} {ρ : Dl.Env} {Q : List D → Dl.Env → Prop} {E : Er → Dl.Env → Prop} (P : Nat → List D → Dl.Env → Prop) (h0 : P 0 [] ρ)
    (hs : ∀ i d acc ρ, all[i]? = some d → P i acc ρ → (g (.sh d)).wp (wipeE ρ vs) (fun _ r1 => c.wp r1 (fun b r2 => if b = true then e.wp r2 (fun s r3 => match s with
      | .sh x => acc.length < sizeLine ∧ P (i + 1) (acc ++ [x]) (wipeE r3 vs)
      | _ => False) (fun er r => E er (wipeE r vs)) else P (i + 1) acc (wipeE r2 vs)) (fun er r => E er (wipeE r vs))) (fun _ _ => False))
    (hd : ∀ acc ρ, P all.length acc ρ → Q acc ρ) : lcM vs g c e all [] ρ Q E := by
  have main : ∀ n i acc ρ, i + n = all.length → P i acc ρ → lcM vs g c e (all.drop i) acc ρ Q E := by
    intro n
    induction n with
    | zero =>
      intro i acc ρ hi hp
      have e0 : i = all.length := by omega
      subst e0
      rw [List.drop_length]
      exact hd acc ρ hp
    | succ n ih =>
      intro i acc ρ hi hp
      have hlt : i < all.length := by omega
      rw [List.drop_eq_getElem_cons hlt]
      refine (g _).mono (fun _ r1 w1 => c.mono (fun b r2 w2 => ?_) (fun _ _ z => z) w1) (fun _ _ z => z) (hs i _ acc ρ (List.getElem?_eq_getElem hlt) hp)
      cases b with
      | true =>
        refine e.mono (fun s r3 w3 => ?_) (fun _ _ z => z) w2
        split at w3
        · exact ⟨w3.1, ih (i + 1) _ _ (by omega) w3.2⟩
        · exact w3.elim
      | false => exact ih (i + 1) _ _ (by omega) w2
  exact main all.length 0 [] ρ (by omega) h0
theorem for_inv {g : MG} {b : MS} {all : List D} {ρ : Dl.Env} {M : MEnds} (P : Nat → Dl.Env → Prop) (h0 : P 0 ρ)
    (hs : ∀ i d ρ, all[i]? = some d → P i ρ → (g (.sh d)).wp ρ (fun _ r => b.wp r { M with nx := P (i + 1), ct := P (i + 1), bk := M.nx }) (fun _ _ => False))
    (hd : ∀ ρ, P all.length ρ → M.nx ρ) : forM g b all ρ M := by
  have main : ∀ n i ρ, i + n = all.length → P i ρ → forM g b (all.drop i) ρ M := by
    intro n
    induction n with
    | zero =>
      intro i ρ hi hp
      have e0 : i = all.length := by omega
      subst e0
      rw [List.drop_length]
      exact hd ρ hp
    | succ n ih =>
      intro i ρ hi hp
      have hlt : i < all.length := by omega
      rw [List.drop_eq_getElem_cons hlt]
      refine (g _).mono (fun _ r1 w1 => b.mono (M := { M with nx := P (i + 1), ct := P (i + 1), bk := M.nx }) ⟨fun r z => ih (i + 1) r (by omega) z, fun _ _ z => z, fun _ z => z, fun r z => ih (i + 1) r (by omega) z, fun _ _ z => z⟩ w1) (fun _ _ z => z) (hs i _ ρ (List.getElem?_eq_getElem hlt) hp)
  exact main all.length 0 ρ (by omega) h0
theorem rgD_len (lo : Int) (n : Nat) : (rgD lo n).length = n := by unfold rgD; rw [List.length_map, List.length_range]
theorem fit_ints {n : Nat} (hs : List Int) : (D.lst (hs.map D.int)).fit (n + 1) := fit_lst fun d hd => by
  obtain ⟨x, _, rfl⟩ := List.mem_map.mp hd
  exact fit_int x
theorem df_in {n N : Nat} {m : MS} {as : List Sl} {Q : Sl → List Sl → Prop} {E : Er → List Sl → Prop} (ρ : Dl.Env) (hl : as.length = n) (hρ : as ++ List.replicate (N - n) .un = ρ) (h : m.wp ρ (mends as Q E)) : (defM n N m).wp as Q E := by
  subst hl
  subst hρ
  unfold defM
  show (match Nat.beq as.length as.length with
    | true => m.wp (as ++ List.replicate (N - as.length) .un) (mends as Q E)
    | false => False)
  rw [Nat.beq_refl]
  exact h
theorem rg_at {lo : Int} {n i : Nat} {d : D} (h : (rgD lo n)[i]? = some d) : i < n ∧ d = .int (lo + (i : Nat)) := by
  have hi : i < n := by
    rcases Nat.lt_or_ge i n with z | z
    · exact z
    · rw [List.getElem?_eq_none (by rw [rgD_len]; exact z)] at h; cases h
  unfold rgD at h
  rw [List.getElem?_map, List.getElem?_range hi] at h
  exact ⟨hi, (Option.some.inj h).symm⟩
theorem small_line {n : Nat} (h : n < 1000) : n < sizeLine := by rw [sizeLine_eq]; omega
def m_law_number : MS := (sRet (mAndV (mUn (op1 (dIsi .int)) (mVar 0)) (mNotV (mUn (op1 (dIsi .bl)) (mVar 0)))))
theorem dx_law_number : ∃ R : M Sl, R = defM 1 1 m_law_number := ⟨_, rfl⟩
@[irreducible] noncomputable def ds_law_number : M Sl := Classical.choose dx_law_number
theorem dq_law_number : ds_law_number = defM 1 1 m_law_number := by unfold ds_law_number; exact Classical.choose_spec dx_law_number
theorem hm_law_number : ∀ as Q E, ds_law_number.wp as Q E → (defM 1 1 m_law_number).wp as Q E := by rw [dq_law_number]; exact fun _ _ _ w => w
theorem mh_law_number {as : List Sl} {Q : Sl → List Sl → Prop} {E : Er → List Sl → Prop} (h : (defM 1 1 m_law_number).wp as Q E) : ds_law_number.wp as Q E := by rw [dq_law_number]; exact h
theorem hl_law_number : ∀ as Q E, ds_law_number.wp as Q E → as.length = 1 := fun as Q E w => defM_len as Q E (hm_law_number as Q E w)
theorem number_int {i : Int} {Q : Sl → List Sl → Prop} {E : Er → List Sl → Prop} (k : Q (.sh (.bl true)) [.sh (.int i)]) : ds_law_number.wp [.sh (.int i)] Q E := mh_law_number k
def m_law_classes_15 : MS := (sRet (mLc0 [2] (iR1 (mBor (mUn (op1 dLen) (mVar 1)))) (gSet 2) (tBorM (mTest (mOp (op2 dIxL) (mVar 1) (mVar 2)))) (mVar 2)))
def m_law_classes_14 : MS := sSeq (sDrop (mApp 1 (mUn (op1 (dIsE xo_NothingToRedo)) (mVar 0)))) m_law_classes_15
def m_law_classes_13 : MS := sSeq (sDrop (mApp 1 (mUn (op1 (dIsE xo_NothingToUndo)) (mVar 0)))) m_law_classes_14
def m_law_classes_12 : MS := sSeq (sDrop (mApp 1 (mUn (op1 (dIsE xo_OtherSite)) (mVar 0)))) m_law_classes_13
def m_law_classes_11 : MS := sSeq (sDrop (mApp 1 (mUn (op1 (dIsE xo_DeedFailed)) (mVar 0)))) m_law_classes_12
def m_law_classes_10 : MS := sSeq (sDrop (mApp 1 (mUn (op1 (dIsE xo_BadLine)) (mVar 0)))) m_law_classes_11
def m_law_classes_9 : MS := sSeq (sDrop (mApp 1 (mUn (op1 (dIsE xo_BadState)) (mVar 0)))) m_law_classes_10
def m_law_classes_8 : MS := sSeq (sDrop (mApp 1 (mUn (op1 (dIsE xo_NoShape)) (mVar 0)))) m_law_classes_9
def m_law_classes_7 : MS := sSeq (sDrop (mApp 1 (mUn (op1 (dIsE xo_NoSite)) (mVar 0)))) m_law_classes_8
def m_law_classes_6 : MS := sSeq (sDrop (mApp 1 (mUn (op1 (dIsE xo_TooMany)) (mVar 0)))) m_law_classes_7
def m_law_classes_5 : MS := sSeq (sDrop (mApp 1 (mUn (op1 (dIsE xo_NoPlace)) (mVar 0)))) m_law_classes_6
def m_law_classes_4 : MS := sSeq (sDrop (mApp 1 (mUn (op1 (dIsE xo_UnknownName)) (mVar 0)))) m_law_classes_5
def m_law_classes_3 : MS := sSeq (sDrop (mApp 1 (mUn (op1 (dIsE xo_TakenName)) (mVar 0)))) m_law_classes_4
def m_law_classes_2 : MS := sSeq (sDrop (mApp 1 (mUn (op1 (dIsE xo_BadName)) (mVar 0)))) m_law_classes_3
def m_law_classes_1 : MS := sSeq (sDrop (mApp 1 (mUn (op1 (dIsE xo_BadNumber)) (mVar 0)))) m_law_classes_2
def m_law_classes : MS := sSeq (sAsg (mLst mNil) (gSet 1)) m_law_classes_1
theorem dx_law_classes : ∃ R : M Sl, R = defM 1 3 m_law_classes := ⟨_, rfl⟩
@[irreducible] noncomputable def ds_law_classes : M Sl := Classical.choose dx_law_classes
theorem dq_law_classes : ds_law_classes = defM 1 3 m_law_classes := by unfold ds_law_classes; exact Classical.choose_spec dx_law_classes
theorem hm_law_classes : ∀ as Q E, ds_law_classes.wp as Q E → (defM 1 3 m_law_classes).wp as Q E := by rw [dq_law_classes]; exact fun _ _ _ w => w
theorem mh_law_classes {as : List Sl} {Q : Sl → List Sl → Prop} {E : Er → List Sl → Prop} (h : (defM 1 3 m_law_classes).wp as Q E) : ds_law_classes.wp as Q E := by rw [dq_law_classes]; exact h
theorem hl_law_classes : ∀ as Q E, ds_law_classes.wp as Q E → as.length = 1 := fun as Q E w => defM_len as Q E (hm_law_classes as Q E w)
def m_law_based_L1_2 : MS := (sIf (mTest (mOp (op2P (pEqD true)) (mFz (mCall ds_law_classes [] (bCo (mVar 2) bNo))) (mFz (mLst (mCons (mVar 1) mNil)))))
      (sRet (mC (.bl false)))
      sNext)
def m_law_based_L1_1 : MS := sSeq (sIf (mOr (mNot (mTest (mUn (op1 (dIsE xo_LadderError)) (mVar 2)))) (mNot (mTest (mUn (op1 (dIsE xo_ValueError)) (mVar 2)))))
      (sRet (mC (.bl false)))
      sNext) m_law_based_L1_2
def m_law_based_L1 : MS := sSeq (sAsg (mOp (op2 dIxL) (mVar 0) (mVar 1)) (gSet 2)) m_law_based_L1_1
def m_law_based_1 : MS := (sRet (mC (.bl true)))
def m_law_based : MS := sSeq (sFor (iR1 (mUn (op1 dLen) (mVar 0))) (gSet 1) m_law_based_L1) m_law_based_1
theorem dx_law_based : ∃ R : M Sl, R = defM 1 3 m_law_based := ⟨_, rfl⟩
@[irreducible] noncomputable def ds_law_based : M Sl := Classical.choose dx_law_based
theorem dq_law_based : ds_law_based = defM 1 3 m_law_based := by unfold ds_law_based; exact Classical.choose_spec dx_law_based
theorem hm_law_based : ∀ as Q E, ds_law_based.wp as Q E → (defM 1 3 m_law_based).wp as Q E := by rw [dq_law_based]; exact fun _ _ _ w => w
theorem mh_law_based {as : List Sl} {Q : Sl → List Sl → Prop} {E : Er → List Sl → Prop} (h : (defM 1 3 m_law_based).wp as Q E) : ds_law_based.wp as Q E := by rw [dq_law_based]; exact h
theorem hl_law_based : ∀ as Q E, ds_law_based.wp as Q E → as.length = 1 := fun as Q E w => defM_len as Q E (hm_law_based as Q E w)
theorem op1_ok {g : D → Option D} {a d : D} {ρ : Dl.Env} {Q : Sl → Dl.Env → Prop} {E : Er → Dl.Env → Prop} (h : g a = some d) (k : Q (.sh d) ρ) : (op1 g (.sh a)).wp ρ Q E := by
  show (match g a with | some d => M.ret (.sh d) | none => M.stuck : ME).wp ρ Q E
  rw [h]
  exact k
def IsX (c : Nat) (x : D) : Prop := ∀ own b, own c = some b → dIsE own x = some (.bl b)
theorem isX_c {c : Nat} {d : D} : IsX c (.exc c d) := fun own b h => by
  unfold dIsE
  simp only [h]
theorem isX_b {c : Nat} : IsX c (.exb c) := fun own b h => by
  unfold dIsE
  simp only [h]
abbrev clE (x : D) (l : List D) (s2 : Sl) : Dl.Env := [.sh x, .ow (.ol .fr) (.lst l), s2]
abbrev isL (c n : Nat) : List D := (List.range n).map fun j => D.bl (decide (c = j))
theorem classes_ok {c : Nat} (hc : c < 14) {x : D} (h : IsX c x) {Q : Sl → List Sl → Prop} {E : Er → List Sl → Prop} (k : Q (.ow (.ol .fr) (.lst [.int ((c : Nat) : Int)])) [.sh x]) : ds_law_classes.wp [.sh x] Q E := by
  have t0 : ∀ c < 14, xo_BadNumber c = some (decide (c = 0)) := by decide
  have t1 : ∀ c < 14, xo_BadName c = some (decide (c = 1)) := by decide
  have t2 : ∀ c < 14, xo_TakenName c = some (decide (c = 2)) := by decide
  have t3 : ∀ c < 14, xo_UnknownName c = some (decide (c = 3)) := by decide
  have t4 : ∀ c < 14, xo_NoPlace c = some (decide (c = 4)) := by decide
  have t5 : ∀ c < 14, xo_TooMany c = some (decide (c = 5)) := by decide
  have t6 : ∀ c < 14, xo_NoSite c = some (decide (c = 6)) := by decide
  have t7 : ∀ c < 14, xo_NoShape c = some (decide (c = 7)) := by decide
  have t8 : ∀ c < 14, xo_BadState c = some (decide (c = 8)) := by decide
  have t9 : ∀ c < 14, xo_BadLine c = some (decide (c = 9)) := by decide
  have t10 : ∀ c < 14, xo_DeedFailed c = some (decide (c = 10)) := by decide
  have t11 : ∀ c < 14, xo_OtherSite c = some (decide (c = 11)) := by decide
  have t12 : ∀ c < 14, xo_NothingToUndo c = some (decide (c = 12)) := by decide
  have t13 : ∀ c < 14, xo_NothingToRedo c = some (decide (c = 13)) := by decide
  refine mh_law_classes ?_
  refine df_in [.sh x, .un, .un] rfl rfl ?_
  show m_law_classes_1.wp (clE x [] .un) _
  refine op1_ok (h _ _ (t0 c hc)) ⟨small_line (by first | decide | (rw [List.length_map, List.length_range]; decide)), ?_⟩
  show m_law_classes_2.wp (clE x (isL c 1) .un) _
  refine op1_ok (h _ _ (t1 c hc)) ⟨small_line (by first | decide | (rw [List.length_map, List.length_range]; decide)), ?_⟩
  show m_law_classes_3.wp (clE x (isL c 2) .un) _
  refine op1_ok (h _ _ (t2 c hc)) ⟨small_line (by first | decide | (rw [List.length_map, List.length_range]; decide)), ?_⟩
  show m_law_classes_4.wp (clE x (isL c 3) .un) _
  refine op1_ok (h _ _ (t3 c hc)) ⟨small_line (by first | decide | (rw [List.length_map, List.length_range]; decide)), ?_⟩
  show m_law_classes_5.wp (clE x (isL c 4) .un) _
  refine op1_ok (h _ _ (t4 c hc)) ⟨small_line (by first | decide | (rw [List.length_map, List.length_range]; decide)), ?_⟩
  show m_law_classes_6.wp (clE x (isL c 5) .un) _
  refine op1_ok (h _ _ (t5 c hc)) ⟨small_line (by first | decide | (rw [List.length_map, List.length_range]; decide)), ?_⟩
  show m_law_classes_7.wp (clE x (isL c 6) .un) _
  refine op1_ok (h _ _ (t6 c hc)) ⟨small_line (by first | decide | (rw [List.length_map, List.length_range]; decide)), ?_⟩
  show m_law_classes_8.wp (clE x (isL c 7) .un) _
  refine op1_ok (h _ _ (t7 c hc)) ⟨small_line (by first | decide | (rw [List.length_map, List.length_range]; decide)), ?_⟩
  show m_law_classes_9.wp (clE x (isL c 8) .un) _
  refine op1_ok (h _ _ (t8 c hc)) ⟨small_line (by first | decide | (rw [List.length_map, List.length_range]; decide)), ?_⟩
  show m_law_classes_10.wp (clE x (isL c 9) .un) _
  refine op1_ok (h _ _ (t9 c hc)) ⟨small_line (by first | decide | (rw [List.length_map, List.length_range]; decide)), ?_⟩
  show m_law_classes_11.wp (clE x (isL c 10) .un) _
  refine op1_ok (h _ _ (t10 c hc)) ⟨small_line (by first | decide | (rw [List.length_map, List.length_range]; decide)), ?_⟩
  show m_law_classes_12.wp (clE x (isL c 11) .un) _
  refine op1_ok (h _ _ (t11 c hc)) ⟨small_line (by first | decide | (rw [List.length_map, List.length_range]; decide)), ?_⟩
  show m_law_classes_13.wp (clE x (isL c 12) .un) _
  refine op1_ok (h _ _ (t12 c hc)) ⟨small_line (by first | decide | (rw [List.length_map, List.length_range]; decide)), ?_⟩
  show m_law_classes_14.wp (clE x (isL c 13) .un) _
  refine op1_ok (h _ _ (t13 c hc)) ⟨small_line (by first | decide | (rw [List.length_map, List.length_range]; decide)), ?_⟩
  show m_law_classes_15.wp (clE x (isL c 14) .un) _
  have l14 : (((isL c 14).length : Nat) : Int) = 14 := rfl
  have at_ : ∀ i < 14, dIxL (.lst (isL c 14)) (.int (0 + ((i : Nat) : Int))) = some (.bl (decide (c = i))) := fun i hi => by
    rw [Int.zero_add]
    show _root_.L2.atI _ _ = _
    refine _root_.L2.atI_nat ?_
    rw [List.getElem?_map, List.getElem?_range hi]
    rfl
  refine ⟨rfl, ⟨by rw [l14]; decide, by rw [l14]; decide⟩, ?_⟩
  rw [l14]
  refine lc_inv (fun i acc z => i ≤ 14 ∧ acc = ((List.range i).filter fun j => decide (c = j)).map (fun j => D.int ((j : Nat) : Int)) ∧ ∃ s2, z = clE x (isL c 14) s2) ⟨by decide, rfl, _, rfl⟩ ?_ ?_
  · rintro i d acc z hi ⟨_, rfl, s2, rfl⟩
    obtain ⟨hi2, rfl⟩ := rg_at hi
    have hi14 : i < 14 := hi2
    refine op2_ok (at_ i hi14) ?_
    have e0 : (0 : Int) + ((i : Nat) : Int) = ((i : Nat) : Int) := Int.zero_add _
    refine if2 (fun w => ?_) (fun w => ?_)
    · refine ⟨small_line (by rw [List.length_map]; have := List.length_filter_le (fun j => decide (c = j)) (List.range i); rw [List.length_range] at this; omega), by omega, ?_, _, rfl⟩
      rw [List.range_succ, List.filter_append, List.filter_cons, if_pos w, List.filter_nil, List.map_append, e0]
      rfl
    · refine ⟨by omega, ?_, _, rfl⟩
      rw [List.range_succ, List.filter_append, List.filter_cons, if_neg w, List.filter_nil, List.append_nil]
  · rintro acc z ⟨_, rfl, s2, rfl⟩
    have e : ∀ c < 14, ((List.range 14).filter fun j => decide (c = j)) = [c] := by decide
    rw [rgD_len]
    have e' := e c hc
    show Q (.ow (.ol .fr) (.lst (((List.range 14).filter fun j => decide (c = j)).map (fun j => D.int ((j : Nat) : Int))))) [.sh x]
    rw [e']
    exact k
abbrev bsE (es : List D) (s1 s2 : Sl) : Dl.Env := [.sh (.lst es), s1, s2]
theorem based_ok {es : List D} (hl : es.length = 14) (h : ∀ i x, es[i]? = some x → IsX i x) {Q : Sl → List Sl → Prop} {E : Er → List Sl → Prop} (k : Q (.sh (.bl true)) [.sh (.lst es)]) : ds_law_based.wp [.sh (.lst es)] Q E := by
  have tL : ∀ c < 14, xo_LadderError c = some true := by decide
  have tV : ∀ c < 14, xo_ValueError c = some true := by decide
  refine mh_law_based ?_
  refine df_in (bsE es .un .un) rfl rfl ?_
  refine cut (fun z => ∃ s1 s2, z = bsE es s1 s2) ?_ ?_
  · have hl' : ((es.length : Nat) : Int) = 14 := by rw [hl]; rfl
    refine ⟨⟨by rw [hl']; decide, by rw [hl']; decide⟩, ?_⟩
    rw [hl']
    refine for_inv (fun i z => ∃ s1 s2, z = bsE es s1 s2) ⟨_, _, rfl⟩ ?_ (fun _ z => z)
    rintro i d z hd ⟨s1, s2, rfl⟩
    obtain ⟨hi, rfl⟩ := rg_at hd
    have hi14 : i < 14 := hi
    have ee : es[i]? = some es[i] := List.getElem?_eq_getElem (by omega)
    have X := h i _ ee
    generalize es[i] = x at ee X
    have e0 : (0 : Int) + ((i : Nat) : Int) = ((i : Nat) : Int) := Int.zero_add _
    rw [e0]
    refine op2_ok (show _root_.L2.atI _ _ = _ from _root_.L2.atI_nat ee) ?_
    show m_law_based_L1_1.wp (bsE es (.sh (.int ((i : Nat) : Int))) (.sh x)) _
    refine cut (fun z => z = bsE es (.sh (.int ((i : Nat) : Int))) (.sh x)) ?_ ?_
    · refine op1_ok (X _ _ (tL i hi14)) ?_
      refine op1_ok (X _ _ (tV i hi14)) ?_
      exact rfl
    rintro _ rfl
    refine classes_ok hi14 X ?_
    have ft : (D.lst [.int ((i : Nat) : Int)]).fit 64 := fit_lst (n := 63) fun d hd => by rw [List.mem_singleton.mp hd]; exact fit_int _
    refine ⟨⟨ft, ft⟩, ?_⟩
    refine if2 (fun z => ?_) (fun _ => ⟨_, _, rfl⟩)
    have z' : (true ^^ D.eq (.lst [.int ((i : Nat) : Int)]) (.lst [.int ((i : Nat) : Int)])) = true := z
    rw [eq_refl ft] at z'
    cases z'
  rintro _ ⟨s1, s2, rfl⟩
  exact k
def m_law_17 : MS := (sRet (mAndV (mOp (op2P (pEqD false)) (mUn (op1 (dXfV "ring" xv_ring)) (mOp (op2 dIxL) (mVar 8) (mC (.int 6)))) (mVar 5)) (mOp (op2P (pEqD false)) (mUn (op1 (dXfV "blames" xv_blames)) (mOp (op2 dIxL) (mVar 8) (mC (.int 7)))) (mVar 6))))
def m_law_16 : MS := sSeq (sIf (mOr (mNot (mTest (mUn (op1 (dIsi .lst)) (mUn (op1 (dXfV "ring" xv_ring)) (mOp (op2 dIxL) (mVar 8) (mC (.int 6))))))) (mNot (mTest (mUn (op1 (dIsi .lst)) (mUn (op1 (dXfV "blames" xv_blames)) (mOp (op2 dIxL) (mVar 8) (mC (.int 7))))))))
      (sRet (mC (.bl false)))
      sNext) m_law_17
def m_law_15 : MS := sSeq (sIf (mTest (mOp (op2 dGt) (mUn (op1 dLen) (mFz (mLc0 [12] (iL (mVar 11)) (gSet 12) (mOr (mNot (mTest (mUn (op1 (dIsi .str)) (mVar 12)))) (mTest (mOp (op2 (dEq true)) (mVar 12) (mVar 4)))) (mVar 12)))) (mC (.int 0))))
      (sRet (mC (.bl false)))
      sNext) m_law_16
def m_law_14 : MS := sSeq (sAsg (mFz (mLst (mCons (mUn (op1 (dXfV "name" xv_name)) (mOp (op2 dIxL) (mVar 8) (mC (.int 1)))) (mCons (mUn (op1 (dXfV "name" xv_name)) (mOp (op2 dIxL) (mVar 8) (mC (.int 2)))) (mCons (mUn (op1 (dXfV "name" xv_name)) (mOp (op2 dIxL) (mVar 8) (mC (.int 3)))) (mCons (mUn (op1 (dXfV "state" xv_state)) (mOp (op2 dIxL) (mVar 8) (mC (.int 8)))) mNil)))))) (gSet 11)) m_law_15
def m_law_13 : MS := sSeq (sIf (mTest (mOp (op2 dGt) (mUn (op1 dLen) (mFz (mLc0 [10] (iL (mVar 9)) (gSet 10) (mOr (mNot (mTest (mCall ds_law_number [] (bCo (mVar 10) bNo)))) (mTest (mOp (op2 (dEq true)) (mVar 10) (mVar 2)))) (mVar 10)))) (mC (.int 0))))
      (sRet (mC (.bl false)))
      sNext) m_law_14
def m_law_12 : MS := sSeq (sAsg (mFz (mLst (mCons (mUn (op1 (dXfV "value" xv_value)) (mOp (op2 dIxL) (mVar 8) (mC (.int 0)))) (mCons (mUn (op1 (dXfV "place" xv_place)) (mOp (op2 dIxL) (mVar 8) (mC (.int 4)))) (mCons (mUn (op1 (dXfV "count" xv_count)) (mOp (op2 dIxL) (mVar 8) (mC (.int 5)))) (mCons (mUn (op1 (dXfV "line" xv_line)) (mOp (op2 dIxL) (mVar 8) (mC (.int 9)))) (mCons (mUn (op1 (dXfV "row" xv_row)) (mOp (op2 dIxL) (mVar 8) (mC (.int 10)))) mNil))))))) (gSet 9)) m_law_13
def m_law_11 : MS := sSeq (sIf (mNot (mTest (mCall ds_law_based [] (bCo (mVar 8) bNo))))
      (sRet (mC (.bl false)))
      sNext) m_law_12
def m_law_10 : MS := sSeq (sDrop (mClrP 7 [.idx 1])) m_law_11
def m_law_9 : MS := sSeq (sDrop (mAppP 7 [.idx 0] (mC (.int 99)))) m_law_10
def m_law_8 : MS := sSeq (sAsg (mFz (mOp (op2P pCat) (mVar 8) (mFz (mLst (mCons (mFz (mMkV 9 (mVar 2))) (mCons (mFz (mMkV 10 (mVar 2))) (mCons (mFz (mMkV0 11)) (mCons (mFz (mMkV0 12)) (mCons (mFz (mMkV0 13)) mNil))))))))) (gSet 8)) m_law_9
def m_law_7 : MS := sSeq (sAsg (mFz (mOp (op2P pCat) (mVar 8) (mFz (mLst (mCons (mFz (mMkV 5 (mVar 2))) (mCons (mFz (mMkV 6 (mFz (mBorN (mUn (op1P pList) (mOp (op2 dIxL) (mVar 7) (mC (.int 0)))))))) (mCons (mFz (mMkV 7 (mFz (mBorN (mUn (op1P pList) (mOp (op2 dIxL) (mVar 7) (mC (.int 1)))))))) (mCons (mFz (mMkV 8 (mVar 4))) mNil)))))))) (gSet 8)) m_law_8
def m_law_6 : MS := sSeq (sAsg (mFz (mLst (mCons (mFz (mMkV 0 (mVar 2))) (mCons (mFz (mMkV 1 (mVar 4))) (mCons (mFz (mMkV 2 (mVar 4))) (mCons (mFz (mMkV 3 (mVar 4))) (mCons (mFz (mMkV 4 (mVar 2))) mNil))))))) (gSet 8)) m_law_7
def m_law_5 : MS := sSeq (sAsg (mLstO (.ol .fr) (mCons (mUn (op1P pList) (mVar 5)) (mCons (mUn (op1P pList) (mVar 6)) mNil))) (gSet 7)) m_law_6
def m_law_4 : MS := sSeq (sAsg (mFz (mLc0 [3] (iR1 (mTake 1 (mC (.int 5)))) (gSet 3) mYes (mTup (mCons (mTake 1 (mC (.int 40))) mNil)))) (gSet 6)) m_law_5
def m_law_3 : MS := sSeq (sAsg (mFz (mLc0 [3] (iR1 (mTake 1 (mC (.int 5)))) (gSet 3) mYes (mOp (op2 dSub) (mTake 1 (mC (.int 24))) (mC (.int 1))))) (gSet 5)) m_law_4
def m_law_2 : MS := sSeq (sAsg (mJoin (mC (.str "")) (mFz (mLc0 [3] (iR1 (mTake 1 (mC (.int 9)))) (gSet 3) mYes (mOp (op2P pIxS) (mC (.str "abz A9_")) (mTake 1 (mC (.int 7))))))) (gSet 4)) m_law_3
def m_law_1 : MS := sSeq (sAsg (mOp (op2 dSub) (mTake 1 (mC (.int 1000000000000000000000000000000))) (mTake 1 (mC (.int 1000000000000000000000000000000)))) (gSet 2)) m_law_2
def m_law : MS := sSeq (sAsg (mBox (mVar 0)) (gSet 1)) m_law_1
theorem dx_law : ∃ R : M Sl, R = defM 1 13 m_law := ⟨_, rfl⟩
@[irreducible] noncomputable def ds_law : M Sl := Classical.choose dx_law
theorem dq_law : ds_law = defM 1 13 m_law := by unfold ds_law; exact Classical.choose_spec dx_law
theorem hm_law : ∀ as Q E, ds_law.wp as Q E → (defM 1 13 m_law).wp as Q E := by rw [dq_law]; exact fun _ _ _ w => w
theorem mh_law {as : List Sl} {Q : Sl → List Sl → Prop} {E : Er → List Sl → Prop} (h : (defM 1 13 m_law).wp as Q E) : ds_law.wp as Q E := by rw [dq_law]; exact h
theorem hl_law : ∀ as Q E, ds_law.wp as Q E → as.length = 1 := fun as Q E w => defM_len as Q E (hm_law as Q E w)
abbrev lwX (s2 s3 s4 s5 s6 s7 s8 s9 s10 s11 s12 : Sl) : Dl.Env := [.sh .scr, .bx, s2, s3, s4, s5, s6, s7, s8, s9, s10, s11, s12]
abbrev erX (v : Int) (n : Str) (r : List Int) (b : List Int) : List D :=
  [.exc 0 (.int v), .exc 1 (.str n), .exc 2 (.str n), .exc 3 (.str n), .exc 4 (.int v), .exc 5 (.int v), .exc 6 (.lst (r.map D.int)), .exc 7 (.lst (b.map fun x => D.tup [.int x])), .exc 8 (.str n), .exc 9 (.int v), .exc 10 (.int v), .exb 11, .exb 12, .exb 13]
theorem erX_is {v : Int} {n : Str} {r b : List Int} : ∀ i x, (erX v n r b)[i]? = some x → IsX i x := fun i x h => by
  match i with
  | 0 => cases h; exact isX_c
  | 1 => cases h; exact isX_c
  | 2 => cases h; exact isX_c
  | 3 => cases h; exact isX_c
  | 4 => cases h; exact isX_c
  | 5 => cases h; exact isX_c
  | 6 => cases h; exact isX_c
  | 7 => cases h; exact isX_c
  | 8 => cases h; exact isX_c
  | 9 => cases h; exact isX_c
  | 10 => cases h; exact isX_c
  | 11 => cases h; exact isX_b
  | 12 => cases h; exact isX_b
  | 13 => cases h; exact isX_b
  | i + 14 => cases h
theorem noL_ints {r : List Int} : D.noLs (r.map D.int) = true := by
  induction r with
  | nil => rfl
  | cons a r ih =>
    show (D.noL (.int a) && D.noLs (r.map D.int)) = true
    rw [ih]
    rfl
theorem noL_tups {r : List Int} : D.noLs (r.map fun x => D.tup [.int x]) = true := by
  induction r with
  | nil => rfl
  | cons a r ih =>
    show (D.noL (.tup [.int a]) && D.noLs (r.map fun x => D.tup [.int x])) = true
    rw [ih]
    rfl
theorem law_true : ds_law.wp [.sh .scr] (fun r _ => r = .sh (.bl true)) (fun _ _ => False) := by
  refine mh_law ?_
  refine df_in [.sh .scr, .un, .un, .un, .un, .un, .un, .un, .un, .un, .un, .un, .un] rfl rfl ?_
  show m_law_1.wp (lwX .un .un .un .un .un .un .un .un .un .un .un) _
  refine ⟨⟨by decide, by decide⟩, fun x x0 x1 => ?_⟩
  refine ⟨⟨by decide, by decide⟩, fun y y0 y1 => ?_⟩
  show m_law_2.wp (lwX (.sh (.int (x - y))) .un .un .un .un .un .un .un .un .un .un) _
  generalize x - y = val
  refine cut (fun z => ∃ (n : Str), z = lwX (.sh (.int val)) .un (.sh (.str n)) .un .un .un .un .un .un .un .un) ?_ ?_
  · refine ⟨⟨by decide, by decide⟩, fun m m0 m1 => ?_⟩
    refine ⟨⟨by omega, by omega⟩, ?_⟩
    refine lc_inv (fun i acc z => ∃ ys : List Str, (ys.length = i ∧ (ys.map (·.length)).sum = i) ∧ acc = ys.map D.str ∧ z = lwX (.sh (.int val)) .un .un .un .un .un .un .un .un .un .un) ⟨[], ⟨rfl, rfl⟩, rfl, rfl⟩ ?_ ?_
    · rintro i d acc z hd ⟨ys, ⟨h1, h2⟩, rfl, rfl⟩
      obtain ⟨hi, rfl⟩ := rg_at hd
      refine ⟨⟨by decide, by decide⟩, fun t t0 t1 => ?_⟩
      obtain ⟨c, ec⟩ : ∃ c, pIxS (.str "abz A9_") (.int t) = some (("abz A9_" : Str).length ≤ sizeLine, .sh (.str ⟨#[c]⟩)) := by
        rcases (show t = 0 ∨ t = 1 ∨ t = 2 ∨ t = 3 ∨ t = 4 ∨ t = 5 ∨ t = 6 by omega) with rfl | rfl | rfl | rfl | rfl | rfl | rfl
        all_goals exact ⟨_, rfl⟩
      conv => whnf
      dsimp only
      rw [ec]
      refine ⟨by rw [sizeLine_eq]; decide, small_line (by rw [List.length_map]; omega), ys ++ [⟨#[c]⟩], ⟨by rw [List.length_append, h1]; rfl, by rw [List.map_append, List.sum_append, h2]; rfl⟩, by rw [List.map_append]; rfl, rfl⟩
    · rintro acc z ⟨ys, ⟨h1, h2⟩, rfl, rfl⟩
      rw [rgD_len] at h1 h2
      have e : pJoin (.str "") (.lst (ys.map D.str)) = some ((ys.map (·.length)).sum + ys.length * ("" : Str).length ≤ 16777216, .sh (.str (Txt.join "" ys))) := by
        unfold pJoin
        simp only [strsD_map]
      show match pJoin (.str "") (.lst (ys.map D.str)) with | some (p, s) => p ∧ _ | none => False
      rw [e]
      have e0 : ("" : Str).length = 0 := rfl
      exact ⟨by rw [e0, h2]; omega, _, rfl⟩
  rintro _ ⟨n, rfl⟩
  refine cut (fun z => ∃ (r : List Int), r.length < 10 ∧ z = lwX (.sh (.int val)) .un (.sh (.str n)) (.sh (.lst (r.map D.int))) .un .un .un .un .un .un .un) ?_ ?_
  · refine ⟨⟨by decide, by decide⟩, fun m m0 m1 => ?_⟩
    refine ⟨⟨by omega, by omega⟩, ?_⟩
    refine lc_inv (fun i acc z => ∃ ys : List Int, ys.length = i ∧ acc = ys.map D.int ∧ z = lwX (.sh (.int val)) .un (.sh (.str n)) .un .un .un .un .un .un .un .un) ⟨[], rfl, rfl, rfl⟩ ?_ ?_
    · rintro i d acc z hd ⟨ys, h1, rfl, rfl⟩
      obtain ⟨hi, rfl⟩ := rg_at hd
      refine ⟨⟨by decide, by decide⟩, fun t t0 t1 => ?_⟩
      exact ⟨small_line (by rw [List.length_map]; omega), ys ++ [t - 1], by rw [List.length_append, h1]; rfl, by rw [List.map_append]; rfl, rfl⟩
    · rintro acc z ⟨ys, h1, rfl, rfl⟩
      rw [rgD_len] at h1
      exact ⟨ys, by omega, rfl⟩
  rintro _ ⟨r, hr, rfl⟩
  refine cut (fun z => ∃ (b : List Int), b.length < 10 ∧ z = lwX (.sh (.int val)) .un (.sh (.str n)) (.sh (.lst (r.map D.int))) (.sh (.lst (b.map fun x => D.tup [.int x]))) .un .un .un .un .un .un) ?_ ?_
  · refine ⟨⟨by decide, by decide⟩, fun m m0 m1 => ?_⟩
    refine ⟨⟨by omega, by omega⟩, ?_⟩
    refine lc_inv (fun i acc z => ∃ ys : List Int, ys.length = i ∧ acc = (ys.map fun x => D.tup [.int x]) ∧ z = lwX (.sh (.int val)) .un (.sh (.str n)) (.sh (.lst (r.map D.int))) .un .un .un .un .un .un .un) ⟨[], rfl, rfl, rfl⟩ ?_ ?_
    · rintro i d acc z hd ⟨ys, h1, rfl, rfl⟩
      obtain ⟨hi, rfl⟩ := rg_at hd
      refine ⟨⟨by decide, by decide⟩, fun t t0 t1 => ?_⟩
      exact ⟨small_line (by rw [List.length_map]; omega), ys ++ [t], by rw [List.length_append, h1]; rfl, by rw [List.map_append]; rfl, rfl⟩
    · rintro acc z ⟨ys, h1, rfl, rfl⟩
      rw [rgD_len] at h1
      exact ⟨ys, by omega, rfl⟩
  rintro _ ⟨b, hb, rfl⟩
  refine cut (fun z => z = lwX (.sh (.int val)) .un (.sh (.str n)) (.sh (.lst (r.map D.int))) (.sh (.lst (b.map fun x => D.tup [.int x]))) (.ow (.ol (.ol .fr)) (.lst [.lst (r.map D.int), .lst (b.map fun x => D.tup [.int x])])) .un .un .un .un .un) ?_ ?_
  · refine ⟨trivial, ?_⟩
    refine ⟨trivial, ?_⟩
    exact rfl
  rintro _ rfl
  show m_law_6.wp (lwX (.sh (.int val)) .un (.sh (.str n)) (.sh (.lst (r.map D.int))) (.sh (.lst (b.map fun x => D.tup [.int x]))) (.ow (.ol (.ol .fr)) (.lst [.lst (r.map D.int), .lst (b.map fun x => D.tup [.int x])])) .un .un .un .un .un) _
  refine cut (fun z => z = lwX (.sh (.int val)) .un (.sh (.str n)) (.sh (.lst (r.map D.int))) (.sh (.lst (b.map fun x => D.tup [.int x]))) (.ow (.ol (.ol .fr)) (.lst [.lst (r.map D.int), .lst (b.map fun x => D.tup [.int x])])) (.sh (.lst ((erX val n r b).take 5))) .un .un .un .un) ?_ ?_
  · exact rfl
  rintro _ rfl
  refine cut (fun z => z = lwX (.sh (.int val)) .un (.sh (.str n)) (.sh (.lst (r.map D.int))) (.sh (.lst (b.map fun x => D.tup [.int x]))) (.ow (.ol (.ol .fr)) (.lst [.lst (r.map D.int), .lst (b.map fun x => D.tup [.int x])])) (.sh (.lst ((erX val n r b).take 9))) .un .un .un .un) ?_ ?_
  · refine ⟨rfl, trivial, noL_ints, ?_⟩
    refine ⟨rfl, trivial, noL_tups, ?_⟩
    refine ⟨by rw [sizeLine_eq]; show 5 + 4 ≤ 16777216; decide, ?_⟩
    exact rfl
  rintro _ rfl
  refine cut (fun z => z = lwX (.sh (.int val)) .un (.sh (.str n)) (.sh (.lst (r.map D.int))) (.sh (.lst (b.map fun x => D.tup [.int x]))) (.ow (.ol (.ol .fr)) (.lst [.lst (r.map D.int), .lst (b.map fun x => D.tup [.int x])])) (.sh (.lst (erX val n r b))) .un .un .un .un) ?_ ?_
  · refine ⟨by rw [sizeLine_eq]; show 9 + 5 ≤ 16777216; decide, ?_⟩
    exact rfl
  rintro _ rfl
  refine cut (fun z => z = lwX (.sh (.int val)) .un (.sh (.str n)) (.sh (.lst (r.map D.int))) (.sh (.lst (b.map fun x => D.tup [.int x]))) (.ow (.ol (.ol .fr)) (.lst [.lst (r.map D.int ++ [.int 99]), .lst (b.map fun x => D.tup [.int x])])) (.sh (.lst (erX val n r b))) .un .un .un .un) ?_ ?_
  · refine ⟨small_line (by rw [List.length_map]; omega), ?_⟩
    exact rfl
  rintro _ rfl
  refine cut (fun z => z = lwX (.sh (.int val)) .un (.sh (.str n)) (.sh (.lst (r.map D.int))) (.sh (.lst (b.map fun x => D.tup [.int x]))) (.ow (.ol (.ol .fr)) (.lst [.lst (r.map D.int ++ [.int 99]), .lst []])) (.sh (.lst (erX val n r b))) .un .un .un .un) ?_ ?_
  · refine ⟨trivial, ?_⟩
    exact rfl
  rintro _ rfl
  generalize Sl.ow (.ol (.ol .fr)) (.lst [.lst (r.map D.int ++ [.int 99]), .lst []]) = s7
  refine based_ok rfl erX_is ?_
  show m_law_12.wp (lwX (.sh (.int val)) .un (.sh (.str n)) (.sh (.lst (r.map D.int))) (.sh (.lst (b.map fun x => D.tup [.int x]))) s7 (.sh (.lst (erX val n r b))) .un .un .un .un) _
  refine cut (fun z => z = lwX (.sh (.int val)) .un (.sh (.str n)) (.sh (.lst (r.map D.int))) (.sh (.lst (b.map fun x => D.tup [.int x]))) s7 (.sh (.lst (erX val n r b))) (.sh (.lst [.int val, .int val, .int val, .int val, .int val])) .un .un .un) ?_ ?_
  · exact rfl
  rintro _ rfl
  show m_law_13.wp (lwX (.sh (.int val)) .un (.sh (.str n)) (.sh (.lst (r.map D.int))) (.sh (.lst (b.map fun x => D.tup [.int x]))) s7 (.sh (.lst (erX val n r b))) (.sh (.lst [.int val, .int val, .int val, .int val, .int val])) .un .un .un) _
  refine cut (fun z => z = lwX (.sh (.int val)) .un (.sh (.str n)) (.sh (.lst (r.map D.int))) (.sh (.lst (b.map fun x => D.tup [.int x]))) s7 (.sh (.lst (erX val n r b))) (.sh (.lst [.int val, .int val, .int val, .int val, .int val])) .un .un .un) ?_ ?_
  · refine lc_inv (fun i acc z => acc = [] ∧ z = lwX (.sh (.int val)) .un (.sh (.str n)) (.sh (.lst (r.map D.int))) (.sh (.lst (b.map fun x => D.tup [.int x]))) s7 (.sh (.lst (erX val n r b))) (.sh (.lst [.int val, .int val, .int val, .int val, .int val])) .un .un .un) ⟨rfl, rfl⟩ ?_ ?_
    · rintro i d acc z hi ⟨rfl, rfl⟩
      have hm := List.mem_of_getElem? hi
      obtain rfl : d = .int val := by simpa using hm
      refine number_int ?_
      refine if2 (fun w => ?_) (fun _ => ⟨rfl, rfl⟩)
      have w' : (true ^^ decide (val = val)) = true := w
      rw [decide_eq_true rfl] at w'
      cases w'
    · rintro acc z ⟨rfl, rfl⟩
      exact rfl
  rintro _ rfl
  refine cut (fun z => z = lwX (.sh (.int val)) .un (.sh (.str n)) (.sh (.lst (r.map D.int))) (.sh (.lst (b.map fun x => D.tup [.int x]))) s7 (.sh (.lst (erX val n r b))) (.sh (.lst [.int val, .int val, .int val, .int val, .int val])) .un (.sh (.lst [.str n, .str n, .str n, .str n])) .un) ?_ ?_
  · exact rfl
  rintro _ rfl
  show m_law_15.wp (lwX (.sh (.int val)) .un (.sh (.str n)) (.sh (.lst (r.map D.int))) (.sh (.lst (b.map fun x => D.tup [.int x]))) s7 (.sh (.lst (erX val n r b))) (.sh (.lst [.int val, .int val, .int val, .int val, .int val])) .un (.sh (.lst [.str n, .str n, .str n, .str n])) .un) _
  refine cut (fun z => z = lwX (.sh (.int val)) .un (.sh (.str n)) (.sh (.lst (r.map D.int))) (.sh (.lst (b.map fun x => D.tup [.int x]))) s7 (.sh (.lst (erX val n r b))) (.sh (.lst [.int val, .int val, .int val, .int val, .int val])) .un (.sh (.lst [.str n, .str n, .str n, .str n])) .un) ?_ ?_
  · refine lc_inv (fun i acc z => acc = [] ∧ z = lwX (.sh (.int val)) .un (.sh (.str n)) (.sh (.lst (r.map D.int))) (.sh (.lst (b.map fun x => D.tup [.int x]))) s7 (.sh (.lst (erX val n r b))) (.sh (.lst [.int val, .int val, .int val, .int val, .int val])) .un (.sh (.lst [.str n, .str n, .str n, .str n])) .un) ⟨rfl, rfl⟩ ?_ ?_
    · rintro i d acc z hi ⟨rfl, rfl⟩
      have hm := List.mem_of_getElem? hi
      obtain rfl : d = .str n := by simpa using hm
      refine if2 (fun w => ?_) (fun _ => ⟨rfl, rfl⟩)
      have w' : (true ^^ decide (n = n)) = true := w
      rw [decide_eq_true rfl] at w'
      cases w'
    · rintro acc z ⟨rfl, rfl⟩
      exact rfl
  rintro _ rfl
  show m_law_16.wp (lwX (.sh (.int val)) .un (.sh (.str n)) (.sh (.lst (r.map D.int))) (.sh (.lst (b.map fun x => D.tup [.int x]))) s7 (.sh (.lst (erX val n r b))) (.sh (.lst [.int val, .int val, .int val, .int val, .int val])) .un (.sh (.lst [.str n, .str n, .str n, .str n])) .un) _
  have f1 : (D.lst (r.map D.int)).fit 64 := fit_ints (n := 63) _
  have f2 : (D.lst (b.map fun x => D.tup [.int x])).fit 64 := fit_lst (n := 63) fun d hd => by
    obtain ⟨x, _, rfl⟩ := List.mem_map.mp hd
    exact fit_tup (n := 62) fun d hd => by rw [List.mem_singleton.mp hd]; exact fit_int _
  refine ⟨⟨f1, f1⟩, ?_⟩
  rw [eq_refl f1]
  refine ⟨⟨f2, f2⟩, ?_⟩
  rw [eq_refl f2]
  rfl
end
end Pf
namespace Pf
open PySem PySem.Spec PyProof.Rows L2 Dl
theorem sc_law_box : FnScope ["_law_script", "_law_cell"] ["_law_script"] (defScope s_law_box) := ⟨rfl, rfl, rfl, by decide +kernel, rfl, by decide +kernel, by decide +kernel⟩
theorem sc_law_take : FnScope ["_law_box_here", "_law_size", "_law_cell", "_law_digit"] ["_law_box_here", "_law_size"] (defScope s_law_take) := ⟨rfl, rfl, rfl, by decide +kernel, rfl, by decide +kernel, by decide +kernel⟩
theorem sc_law_number : FnScope ["_law_x"] ["_law_x"] (defScope s_law_number) := ⟨rfl, rfl, rfl, by decide +kernel, rfl, by decide +kernel, by decide +kernel⟩
theorem sc_law_classes : FnScope ["_law_error", "_law_found", "_law_k"] ["_law_error"] (defScope s_law_classes) := ⟨rfl, rfl, rfl, by decide +kernel, rfl, by decide +kernel, by decide +kernel⟩
theorem sc_law_based : FnScope ["_law_errors", "_law_k", "_law_error"] ["_law_errors"] (defScope s_law_based) := ⟨rfl, rfl, rfl, by decide +kernel, rfl, by decide +kernel, by decide +kernel⟩
theorem sc_law : FnScope ["_law_script", "_law_box_here", "_law_value", "_law_k", "_law_name", "_law_ring", "_law_blames", "_law_passed", "_law_errors", "_law_numbers", "_law_number_here", "_law_names", "_law_word"] ["_law_script"] (defScope s_law) := ⟨rfl, rfl, rfl, by decide +kernel, rfl, by decide +kernel, by decide +kernel⟩
structure Txt (K : PySem.W.Frag) (mg : Str → Option Value) where
  fd_law_box : FuncData
  F_law_box : FunD K "_law_box" "_law_box" (defArgs s_law_box) (defBody s_law_box) (defScope s_law_box) [] [] (He.ga K "_law_box") fd_law_box
  fd_law_take : FuncData
  F_law_take : FunD K "_law_take" "_law_take" (defArgs s_law_take) (defBody s_law_take) (defScope s_law_take) [] [] (He.ga K "_law_take") fd_law_take
  fd_law_number : FuncData
  F_law_number : FunD K "_law_number" "_law_number" (defArgs s_law_number) (defBody s_law_number) (defScope s_law_number) [] [] (He.ga K "_law_number") fd_law_number
  fd_law_classes : FuncData
  F_law_classes : FunD K "_law_classes" "_law_classes" (defArgs s_law_classes) (defBody s_law_classes) (defScope s_law_classes) [] [] (He.ga K "_law_classes") fd_law_classes
  fd_law_based : FuncData
  F_law_based : FunD K "_law_based" "_law_based" (defArgs s_law_based) (defBody s_law_based) (defScope s_law_based) [] [] (He.ga K "_law_based") fd_law_based
  fd_law : FuncData
  F_law : FunD K "law" "law" (defArgs s_law) (defBody s_law) (defScope s_law) [] [] (He.ga K "law") fd_law
  m_BadLine : mg "BadLine" = some (.ref (He.ga K "BadLine"))
  m_BadName : mg "BadName" = some (.ref (He.ga K "BadName"))
  m_BadNumber : mg "BadNumber" = some (.ref (He.ga K "BadNumber"))
  m_BadState : mg "BadState" = some (.ref (He.ga K "BadState"))
  m_DeedFailed : mg "DeedFailed" = some (.ref (He.ga K "DeedFailed"))
  m_LadderError : mg "LadderError" = some (.ref (He.ga K "LadderError"))
  m_NoPlace : mg "NoPlace" = some (.ref (He.ga K "NoPlace"))
  m_NoShape : mg "NoShape" = some (.ref (He.ga K "NoShape"))
  m_NoSite : mg "NoSite" = some (.ref (He.ga K "NoSite"))
  m_NothingToRedo : mg "NothingToRedo" = some (.ref (He.ga K "NothingToRedo"))
  m_NothingToUndo : mg "NothingToUndo" = some (.ref (He.ga K "NothingToUndo"))
  m_OtherSite : mg "OtherSite" = some (.ref (He.ga K "OtherSite"))
  m_TakenName : mg "TakenName" = some (.ref (He.ga K "TakenName"))
  m_TooMany : mg "TooMany" = some (.ref (He.ga K "TooMany"))
  m_UnknownName : mg "UnknownName" = some (.ref (He.ga K "UnknownName"))
  m__law_based : mg "_law_based" = some (.ref (He.ga K "_law_based"))
  m__law_box : mg "_law_box" = some (.ref (He.ga K "_law_box"))
  m__law_classes : mg "_law_classes" = some (.ref (He.ga K "_law_classes"))
  m__law_number : mg "_law_number" = some (.ref (He.ga K "_law_number"))
  m__law_take : mg "_law_take" = some (.ref (He.ga K "_law_take"))
  m_law : mg "law" = some (.ref (He.ga K "law"))
  n_ValueError : mg "ValueError" = none
  n_bool : mg "bool" = none
  n_int : mg "int" = none
  n_isinstance : mg "isinstance" = none
  n_len : mg "len" = none
  n_list : mg "list" = none
  n_range : mg "range" = none
  n_str : mg "str" = none
  n_super : mg "super" = none
  er_BadNumber : PySem.ErrX.ErrTxt PP K (He.ga K "BadNumber") "value" "value"
  er_BadName : PySem.ErrX.ErrTxt PP K (He.ga K "BadName") "name" "name"
  er_TakenName : PySem.ErrX.ErrTxt PP K (He.ga K "TakenName") "name" "name"
  er_UnknownName : PySem.ErrX.ErrTxt PP K (He.ga K "UnknownName") "name" "name"
  er_NoPlace : PySem.ErrX.ErrTxt PP K (He.ga K "NoPlace") "place" "place"
  er_TooMany : PySem.ErrX.ErrTxt PP K (He.ga K "TooMany") "count" "count"
  er_NoSite : PySem.ErrX.ErrTxtL PP K (He.ga K "NoSite") "ring" "ring"
  er_NoShape : PySem.ErrX.ErrTxtL PP K (He.ga K "NoShape") "blames" "blames"
  er_BadState : PySem.ErrX.ErrTxt PP K (He.ga K "BadState") "state" "state"
  er_BadLine : PySem.ErrX.ErrTxt PP K (He.ga K "BadLine") "line" "line"
  er_DeedFailed : PySem.ErrX.ErrTxt PP K (He.ga K "DeedFailed") "row" "row"
  ob_OtherSite : BareX.OwnE K (He.ga K "OtherSite")
  ob_NothingToUndo : BareX.OwnE K (He.ga K "NothingToUndo")
  ob_NothingToRedo : BareX.OwnE K (He.ga K "NothingToRedo")
  xc_BadNumber : ExcC K (He.ga K "BadNumber")
  xc_BadName : ExcC K (He.ga K "BadName")
  xc_TakenName : ExcC K (He.ga K "TakenName")
  xc_UnknownName : ExcC K (He.ga K "UnknownName")
  xc_NoPlace : ExcC K (He.ga K "NoPlace")
  xc_TooMany : ExcC K (He.ga K "TooMany")
  xc_NoSite : ExcC K (He.ga K "NoSite")
  xc_NoShape : ExcC K (He.ga K "NoShape")
  xc_BadState : ExcC K (He.ga K "BadState")
  xc_BadLine : ExcC K (He.ga K "BadLine")
  xc_DeedFailed : ExcC K (He.ga K "DeedFailed")
  xc_OtherSite : ExcC K (He.ga K "OtherSite")
  xc_NothingToUndo : ExcC K (He.ga K "NothingToUndo")
  xc_NothingToRedo : ExcC K (He.ga K "NothingToRedo")
  ki_BadNumber_BadNumber : PySem.W.kitOne K (.ref (He.ga K "BadNumber")) (.ref (He.ga K "BadNumber")) = some true
  ki_BadName_BadNumber : PySem.W.kitOne K (.ref (He.ga K "BadName")) (.ref (He.ga K "BadNumber")) = some false
  ki_TakenName_BadNumber : PySem.W.kitOne K (.ref (He.ga K "TakenName")) (.ref (He.ga K "BadNumber")) = some false
  ki_UnknownName_BadNumber : PySem.W.kitOne K (.ref (He.ga K "UnknownName")) (.ref (He.ga K "BadNumber")) = some false
  ki_NoPlace_BadNumber : PySem.W.kitOne K (.ref (He.ga K "NoPlace")) (.ref (He.ga K "BadNumber")) = some false
  ki_TooMany_BadNumber : PySem.W.kitOne K (.ref (He.ga K "TooMany")) (.ref (He.ga K "BadNumber")) = some false
  ki_NoSite_BadNumber : PySem.W.kitOne K (.ref (He.ga K "NoSite")) (.ref (He.ga K "BadNumber")) = some false
  ki_NoShape_BadNumber : PySem.W.kitOne K (.ref (He.ga K "NoShape")) (.ref (He.ga K "BadNumber")) = some false
  ki_BadState_BadNumber : PySem.W.kitOne K (.ref (He.ga K "BadState")) (.ref (He.ga K "BadNumber")) = some false
  ki_BadLine_BadNumber : PySem.W.kitOne K (.ref (He.ga K "BadLine")) (.ref (He.ga K "BadNumber")) = some false
  ki_DeedFailed_BadNumber : PySem.W.kitOne K (.ref (He.ga K "DeedFailed")) (.ref (He.ga K "BadNumber")) = some false
  ki_OtherSite_BadNumber : PySem.W.kitOne K (.ref (He.ga K "OtherSite")) (.ref (He.ga K "BadNumber")) = some false
  ki_NothingToUndo_BadNumber : PySem.W.kitOne K (.ref (He.ga K "NothingToUndo")) (.ref (He.ga K "BadNumber")) = some false
  ki_NothingToRedo_BadNumber : PySem.W.kitOne K (.ref (He.ga K "NothingToRedo")) (.ref (He.ga K "BadNumber")) = some false
  ki_BadNumber_BadName : PySem.W.kitOne K (.ref (He.ga K "BadNumber")) (.ref (He.ga K "BadName")) = some false
  ki_BadName_BadName : PySem.W.kitOne K (.ref (He.ga K "BadName")) (.ref (He.ga K "BadName")) = some true
  ki_TakenName_BadName : PySem.W.kitOne K (.ref (He.ga K "TakenName")) (.ref (He.ga K "BadName")) = some false
  ki_UnknownName_BadName : PySem.W.kitOne K (.ref (He.ga K "UnknownName")) (.ref (He.ga K "BadName")) = some false
  ki_NoPlace_BadName : PySem.W.kitOne K (.ref (He.ga K "NoPlace")) (.ref (He.ga K "BadName")) = some false
  ki_TooMany_BadName : PySem.W.kitOne K (.ref (He.ga K "TooMany")) (.ref (He.ga K "BadName")) = some false
  ki_NoSite_BadName : PySem.W.kitOne K (.ref (He.ga K "NoSite")) (.ref (He.ga K "BadName")) = some false
  ki_NoShape_BadName : PySem.W.kitOne K (.ref (He.ga K "NoShape")) (.ref (He.ga K "BadName")) = some false
  ki_BadState_BadName : PySem.W.kitOne K (.ref (He.ga K "BadState")) (.ref (He.ga K "BadName")) = some false
  ki_BadLine_BadName : PySem.W.kitOne K (.ref (He.ga K "BadLine")) (.ref (He.ga K "BadName")) = some false
  ki_DeedFailed_BadName : PySem.W.kitOne K (.ref (He.ga K "DeedFailed")) (.ref (He.ga K "BadName")) = some false
  ki_OtherSite_BadName : PySem.W.kitOne K (.ref (He.ga K "OtherSite")) (.ref (He.ga K "BadName")) = some false
  ki_NothingToUndo_BadName : PySem.W.kitOne K (.ref (He.ga K "NothingToUndo")) (.ref (He.ga K "BadName")) = some false
  ki_NothingToRedo_BadName : PySem.W.kitOne K (.ref (He.ga K "NothingToRedo")) (.ref (He.ga K "BadName")) = some false
  ki_BadNumber_TakenName : PySem.W.kitOne K (.ref (He.ga K "BadNumber")) (.ref (He.ga K "TakenName")) = some false
  ki_BadName_TakenName : PySem.W.kitOne K (.ref (He.ga K "BadName")) (.ref (He.ga K "TakenName")) = some false
  ki_TakenName_TakenName : PySem.W.kitOne K (.ref (He.ga K "TakenName")) (.ref (He.ga K "TakenName")) = some true
  ki_UnknownName_TakenName : PySem.W.kitOne K (.ref (He.ga K "UnknownName")) (.ref (He.ga K "TakenName")) = some false
  ki_NoPlace_TakenName : PySem.W.kitOne K (.ref (He.ga K "NoPlace")) (.ref (He.ga K "TakenName")) = some false
  ki_TooMany_TakenName : PySem.W.kitOne K (.ref (He.ga K "TooMany")) (.ref (He.ga K "TakenName")) = some false
  ki_NoSite_TakenName : PySem.W.kitOne K (.ref (He.ga K "NoSite")) (.ref (He.ga K "TakenName")) = some false
  ki_NoShape_TakenName : PySem.W.kitOne K (.ref (He.ga K "NoShape")) (.ref (He.ga K "TakenName")) = some false
  ki_BadState_TakenName : PySem.W.kitOne K (.ref (He.ga K "BadState")) (.ref (He.ga K "TakenName")) = some false
  ki_BadLine_TakenName : PySem.W.kitOne K (.ref (He.ga K "BadLine")) (.ref (He.ga K "TakenName")) = some false
  ki_DeedFailed_TakenName : PySem.W.kitOne K (.ref (He.ga K "DeedFailed")) (.ref (He.ga K "TakenName")) = some false
  ki_OtherSite_TakenName : PySem.W.kitOne K (.ref (He.ga K "OtherSite")) (.ref (He.ga K "TakenName")) = some false
  ki_NothingToUndo_TakenName : PySem.W.kitOne K (.ref (He.ga K "NothingToUndo")) (.ref (He.ga K "TakenName")) = some false
  ki_NothingToRedo_TakenName : PySem.W.kitOne K (.ref (He.ga K "NothingToRedo")) (.ref (He.ga K "TakenName")) = some false
  ki_BadNumber_UnknownName : PySem.W.kitOne K (.ref (He.ga K "BadNumber")) (.ref (He.ga K "UnknownName")) = some false
  ki_BadName_UnknownName : PySem.W.kitOne K (.ref (He.ga K "BadName")) (.ref (He.ga K "UnknownName")) = some false
  ki_TakenName_UnknownName : PySem.W.kitOne K (.ref (He.ga K "TakenName")) (.ref (He.ga K "UnknownName")) = some false
  ki_UnknownName_UnknownName : PySem.W.kitOne K (.ref (He.ga K "UnknownName")) (.ref (He.ga K "UnknownName")) = some true
  ki_NoPlace_UnknownName : PySem.W.kitOne K (.ref (He.ga K "NoPlace")) (.ref (He.ga K "UnknownName")) = some false
  ki_TooMany_UnknownName : PySem.W.kitOne K (.ref (He.ga K "TooMany")) (.ref (He.ga K "UnknownName")) = some false
  ki_NoSite_UnknownName : PySem.W.kitOne K (.ref (He.ga K "NoSite")) (.ref (He.ga K "UnknownName")) = some false
  ki_NoShape_UnknownName : PySem.W.kitOne K (.ref (He.ga K "NoShape")) (.ref (He.ga K "UnknownName")) = some false
  ki_BadState_UnknownName : PySem.W.kitOne K (.ref (He.ga K "BadState")) (.ref (He.ga K "UnknownName")) = some false
  ki_BadLine_UnknownName : PySem.W.kitOne K (.ref (He.ga K "BadLine")) (.ref (He.ga K "UnknownName")) = some false
  ki_DeedFailed_UnknownName : PySem.W.kitOne K (.ref (He.ga K "DeedFailed")) (.ref (He.ga K "UnknownName")) = some false
  ki_OtherSite_UnknownName : PySem.W.kitOne K (.ref (He.ga K "OtherSite")) (.ref (He.ga K "UnknownName")) = some false
  ki_NothingToUndo_UnknownName : PySem.W.kitOne K (.ref (He.ga K "NothingToUndo")) (.ref (He.ga K "UnknownName")) = some false
  ki_NothingToRedo_UnknownName : PySem.W.kitOne K (.ref (He.ga K "NothingToRedo")) (.ref (He.ga K "UnknownName")) = some false
  ki_BadNumber_NoPlace : PySem.W.kitOne K (.ref (He.ga K "BadNumber")) (.ref (He.ga K "NoPlace")) = some false
  ki_BadName_NoPlace : PySem.W.kitOne K (.ref (He.ga K "BadName")) (.ref (He.ga K "NoPlace")) = some false
  ki_TakenName_NoPlace : PySem.W.kitOne K (.ref (He.ga K "TakenName")) (.ref (He.ga K "NoPlace")) = some false
  ki_UnknownName_NoPlace : PySem.W.kitOne K (.ref (He.ga K "UnknownName")) (.ref (He.ga K "NoPlace")) = some false
  ki_NoPlace_NoPlace : PySem.W.kitOne K (.ref (He.ga K "NoPlace")) (.ref (He.ga K "NoPlace")) = some true
  ki_TooMany_NoPlace : PySem.W.kitOne K (.ref (He.ga K "TooMany")) (.ref (He.ga K "NoPlace")) = some false
  ki_NoSite_NoPlace : PySem.W.kitOne K (.ref (He.ga K "NoSite")) (.ref (He.ga K "NoPlace")) = some false
  ki_NoShape_NoPlace : PySem.W.kitOne K (.ref (He.ga K "NoShape")) (.ref (He.ga K "NoPlace")) = some false
  ki_BadState_NoPlace : PySem.W.kitOne K (.ref (He.ga K "BadState")) (.ref (He.ga K "NoPlace")) = some false
  ki_BadLine_NoPlace : PySem.W.kitOne K (.ref (He.ga K "BadLine")) (.ref (He.ga K "NoPlace")) = some false
  ki_DeedFailed_NoPlace : PySem.W.kitOne K (.ref (He.ga K "DeedFailed")) (.ref (He.ga K "NoPlace")) = some false
  ki_OtherSite_NoPlace : PySem.W.kitOne K (.ref (He.ga K "OtherSite")) (.ref (He.ga K "NoPlace")) = some false
  ki_NothingToUndo_NoPlace : PySem.W.kitOne K (.ref (He.ga K "NothingToUndo")) (.ref (He.ga K "NoPlace")) = some false
  ki_NothingToRedo_NoPlace : PySem.W.kitOne K (.ref (He.ga K "NothingToRedo")) (.ref (He.ga K "NoPlace")) = some false
  ki_BadNumber_TooMany : PySem.W.kitOne K (.ref (He.ga K "BadNumber")) (.ref (He.ga K "TooMany")) = some false
  ki_BadName_TooMany : PySem.W.kitOne K (.ref (He.ga K "BadName")) (.ref (He.ga K "TooMany")) = some false
  ki_TakenName_TooMany : PySem.W.kitOne K (.ref (He.ga K "TakenName")) (.ref (He.ga K "TooMany")) = some false
  ki_UnknownName_TooMany : PySem.W.kitOne K (.ref (He.ga K "UnknownName")) (.ref (He.ga K "TooMany")) = some false
  ki_NoPlace_TooMany : PySem.W.kitOne K (.ref (He.ga K "NoPlace")) (.ref (He.ga K "TooMany")) = some false
  ki_TooMany_TooMany : PySem.W.kitOne K (.ref (He.ga K "TooMany")) (.ref (He.ga K "TooMany")) = some true
  ki_NoSite_TooMany : PySem.W.kitOne K (.ref (He.ga K "NoSite")) (.ref (He.ga K "TooMany")) = some false
  ki_NoShape_TooMany : PySem.W.kitOne K (.ref (He.ga K "NoShape")) (.ref (He.ga K "TooMany")) = some false
  ki_BadState_TooMany : PySem.W.kitOne K (.ref (He.ga K "BadState")) (.ref (He.ga K "TooMany")) = some false
  ki_BadLine_TooMany : PySem.W.kitOne K (.ref (He.ga K "BadLine")) (.ref (He.ga K "TooMany")) = some false
  ki_DeedFailed_TooMany : PySem.W.kitOne K (.ref (He.ga K "DeedFailed")) (.ref (He.ga K "TooMany")) = some false
  ki_OtherSite_TooMany : PySem.W.kitOne K (.ref (He.ga K "OtherSite")) (.ref (He.ga K "TooMany")) = some false
  ki_NothingToUndo_TooMany : PySem.W.kitOne K (.ref (He.ga K "NothingToUndo")) (.ref (He.ga K "TooMany")) = some false
  ki_NothingToRedo_TooMany : PySem.W.kitOne K (.ref (He.ga K "NothingToRedo")) (.ref (He.ga K "TooMany")) = some false
  ki_BadNumber_NoSite : PySem.W.kitOne K (.ref (He.ga K "BadNumber")) (.ref (He.ga K "NoSite")) = some false
  ki_BadName_NoSite : PySem.W.kitOne K (.ref (He.ga K "BadName")) (.ref (He.ga K "NoSite")) = some false
  ki_TakenName_NoSite : PySem.W.kitOne K (.ref (He.ga K "TakenName")) (.ref (He.ga K "NoSite")) = some false
  ki_UnknownName_NoSite : PySem.W.kitOne K (.ref (He.ga K "UnknownName")) (.ref (He.ga K "NoSite")) = some false
  ki_NoPlace_NoSite : PySem.W.kitOne K (.ref (He.ga K "NoPlace")) (.ref (He.ga K "NoSite")) = some false
  ki_TooMany_NoSite : PySem.W.kitOne K (.ref (He.ga K "TooMany")) (.ref (He.ga K "NoSite")) = some false
  ki_NoSite_NoSite : PySem.W.kitOne K (.ref (He.ga K "NoSite")) (.ref (He.ga K "NoSite")) = some true
  ki_NoShape_NoSite : PySem.W.kitOne K (.ref (He.ga K "NoShape")) (.ref (He.ga K "NoSite")) = some false
  ki_BadState_NoSite : PySem.W.kitOne K (.ref (He.ga K "BadState")) (.ref (He.ga K "NoSite")) = some false
  ki_BadLine_NoSite : PySem.W.kitOne K (.ref (He.ga K "BadLine")) (.ref (He.ga K "NoSite")) = some false
  ki_DeedFailed_NoSite : PySem.W.kitOne K (.ref (He.ga K "DeedFailed")) (.ref (He.ga K "NoSite")) = some false
  ki_OtherSite_NoSite : PySem.W.kitOne K (.ref (He.ga K "OtherSite")) (.ref (He.ga K "NoSite")) = some false
  ki_NothingToUndo_NoSite : PySem.W.kitOne K (.ref (He.ga K "NothingToUndo")) (.ref (He.ga K "NoSite")) = some false
  ki_NothingToRedo_NoSite : PySem.W.kitOne K (.ref (He.ga K "NothingToRedo")) (.ref (He.ga K "NoSite")) = some false
  ki_BadNumber_NoShape : PySem.W.kitOne K (.ref (He.ga K "BadNumber")) (.ref (He.ga K "NoShape")) = some false
  ki_BadName_NoShape : PySem.W.kitOne K (.ref (He.ga K "BadName")) (.ref (He.ga K "NoShape")) = some false
  ki_TakenName_NoShape : PySem.W.kitOne K (.ref (He.ga K "TakenName")) (.ref (He.ga K "NoShape")) = some false
  ki_UnknownName_NoShape : PySem.W.kitOne K (.ref (He.ga K "UnknownName")) (.ref (He.ga K "NoShape")) = some false
  ki_NoPlace_NoShape : PySem.W.kitOne K (.ref (He.ga K "NoPlace")) (.ref (He.ga K "NoShape")) = some false
  ki_TooMany_NoShape : PySem.W.kitOne K (.ref (He.ga K "TooMany")) (.ref (He.ga K "NoShape")) = some false
  ki_NoSite_NoShape : PySem.W.kitOne K (.ref (He.ga K "NoSite")) (.ref (He.ga K "NoShape")) = some false
  ki_NoShape_NoShape : PySem.W.kitOne K (.ref (He.ga K "NoShape")) (.ref (He.ga K "NoShape")) = some true
  ki_BadState_NoShape : PySem.W.kitOne K (.ref (He.ga K "BadState")) (.ref (He.ga K "NoShape")) = some false
  ki_BadLine_NoShape : PySem.W.kitOne K (.ref (He.ga K "BadLine")) (.ref (He.ga K "NoShape")) = some false
  ki_DeedFailed_NoShape : PySem.W.kitOne K (.ref (He.ga K "DeedFailed")) (.ref (He.ga K "NoShape")) = some false
  ki_OtherSite_NoShape : PySem.W.kitOne K (.ref (He.ga K "OtherSite")) (.ref (He.ga K "NoShape")) = some false
  ki_NothingToUndo_NoShape : PySem.W.kitOne K (.ref (He.ga K "NothingToUndo")) (.ref (He.ga K "NoShape")) = some false
  ki_NothingToRedo_NoShape : PySem.W.kitOne K (.ref (He.ga K "NothingToRedo")) (.ref (He.ga K "NoShape")) = some false
  ki_BadNumber_BadState : PySem.W.kitOne K (.ref (He.ga K "BadNumber")) (.ref (He.ga K "BadState")) = some false
  ki_BadName_BadState : PySem.W.kitOne K (.ref (He.ga K "BadName")) (.ref (He.ga K "BadState")) = some false
  ki_TakenName_BadState : PySem.W.kitOne K (.ref (He.ga K "TakenName")) (.ref (He.ga K "BadState")) = some false
  ki_UnknownName_BadState : PySem.W.kitOne K (.ref (He.ga K "UnknownName")) (.ref (He.ga K "BadState")) = some false
  ki_NoPlace_BadState : PySem.W.kitOne K (.ref (He.ga K "NoPlace")) (.ref (He.ga K "BadState")) = some false
  ki_TooMany_BadState : PySem.W.kitOne K (.ref (He.ga K "TooMany")) (.ref (He.ga K "BadState")) = some false
  ki_NoSite_BadState : PySem.W.kitOne K (.ref (He.ga K "NoSite")) (.ref (He.ga K "BadState")) = some false
  ki_NoShape_BadState : PySem.W.kitOne K (.ref (He.ga K "NoShape")) (.ref (He.ga K "BadState")) = some false
  ki_BadState_BadState : PySem.W.kitOne K (.ref (He.ga K "BadState")) (.ref (He.ga K "BadState")) = some true
  ki_BadLine_BadState : PySem.W.kitOne K (.ref (He.ga K "BadLine")) (.ref (He.ga K "BadState")) = some false
  ki_DeedFailed_BadState : PySem.W.kitOne K (.ref (He.ga K "DeedFailed")) (.ref (He.ga K "BadState")) = some false
  ki_OtherSite_BadState : PySem.W.kitOne K (.ref (He.ga K "OtherSite")) (.ref (He.ga K "BadState")) = some false
  ki_NothingToUndo_BadState : PySem.W.kitOne K (.ref (He.ga K "NothingToUndo")) (.ref (He.ga K "BadState")) = some false
  ki_NothingToRedo_BadState : PySem.W.kitOne K (.ref (He.ga K "NothingToRedo")) (.ref (He.ga K "BadState")) = some false
  ki_BadNumber_BadLine : PySem.W.kitOne K (.ref (He.ga K "BadNumber")) (.ref (He.ga K "BadLine")) = some false
  ki_BadName_BadLine : PySem.W.kitOne K (.ref (He.ga K "BadName")) (.ref (He.ga K "BadLine")) = some false
  ki_TakenName_BadLine : PySem.W.kitOne K (.ref (He.ga K "TakenName")) (.ref (He.ga K "BadLine")) = some false
  ki_UnknownName_BadLine : PySem.W.kitOne K (.ref (He.ga K "UnknownName")) (.ref (He.ga K "BadLine")) = some false
  ki_NoPlace_BadLine : PySem.W.kitOne K (.ref (He.ga K "NoPlace")) (.ref (He.ga K "BadLine")) = some false
  ki_TooMany_BadLine : PySem.W.kitOne K (.ref (He.ga K "TooMany")) (.ref (He.ga K "BadLine")) = some false
  ki_NoSite_BadLine : PySem.W.kitOne K (.ref (He.ga K "NoSite")) (.ref (He.ga K "BadLine")) = some false
  ki_NoShape_BadLine : PySem.W.kitOne K (.ref (He.ga K "NoShape")) (.ref (He.ga K "BadLine")) = some false
  ki_BadState_BadLine : PySem.W.kitOne K (.ref (He.ga K "BadState")) (.ref (He.ga K "BadLine")) = some false
  ki_BadLine_BadLine : PySem.W.kitOne K (.ref (He.ga K "BadLine")) (.ref (He.ga K "BadLine")) = some true
  ki_DeedFailed_BadLine : PySem.W.kitOne K (.ref (He.ga K "DeedFailed")) (.ref (He.ga K "BadLine")) = some false
  ki_OtherSite_BadLine : PySem.W.kitOne K (.ref (He.ga K "OtherSite")) (.ref (He.ga K "BadLine")) = some false
  ki_NothingToUndo_BadLine : PySem.W.kitOne K (.ref (He.ga K "NothingToUndo")) (.ref (He.ga K "BadLine")) = some false
  ki_NothingToRedo_BadLine : PySem.W.kitOne K (.ref (He.ga K "NothingToRedo")) (.ref (He.ga K "BadLine")) = some false
  ki_BadNumber_DeedFailed : PySem.W.kitOne K (.ref (He.ga K "BadNumber")) (.ref (He.ga K "DeedFailed")) = some false
  ki_BadName_DeedFailed : PySem.W.kitOne K (.ref (He.ga K "BadName")) (.ref (He.ga K "DeedFailed")) = some false
  ki_TakenName_DeedFailed : PySem.W.kitOne K (.ref (He.ga K "TakenName")) (.ref (He.ga K "DeedFailed")) = some false
  ki_UnknownName_DeedFailed : PySem.W.kitOne K (.ref (He.ga K "UnknownName")) (.ref (He.ga K "DeedFailed")) = some false
  ki_NoPlace_DeedFailed : PySem.W.kitOne K (.ref (He.ga K "NoPlace")) (.ref (He.ga K "DeedFailed")) = some false
  ki_TooMany_DeedFailed : PySem.W.kitOne K (.ref (He.ga K "TooMany")) (.ref (He.ga K "DeedFailed")) = some false
  ki_NoSite_DeedFailed : PySem.W.kitOne K (.ref (He.ga K "NoSite")) (.ref (He.ga K "DeedFailed")) = some false
  ki_NoShape_DeedFailed : PySem.W.kitOne K (.ref (He.ga K "NoShape")) (.ref (He.ga K "DeedFailed")) = some false
  ki_BadState_DeedFailed : PySem.W.kitOne K (.ref (He.ga K "BadState")) (.ref (He.ga K "DeedFailed")) = some false
  ki_BadLine_DeedFailed : PySem.W.kitOne K (.ref (He.ga K "BadLine")) (.ref (He.ga K "DeedFailed")) = some false
  ki_DeedFailed_DeedFailed : PySem.W.kitOne K (.ref (He.ga K "DeedFailed")) (.ref (He.ga K "DeedFailed")) = some true
  ki_OtherSite_DeedFailed : PySem.W.kitOne K (.ref (He.ga K "OtherSite")) (.ref (He.ga K "DeedFailed")) = some false
  ki_NothingToUndo_DeedFailed : PySem.W.kitOne K (.ref (He.ga K "NothingToUndo")) (.ref (He.ga K "DeedFailed")) = some false
  ki_NothingToRedo_DeedFailed : PySem.W.kitOne K (.ref (He.ga K "NothingToRedo")) (.ref (He.ga K "DeedFailed")) = some false
  ki_BadNumber_OtherSite : PySem.W.kitOne K (.ref (He.ga K "BadNumber")) (.ref (He.ga K "OtherSite")) = some false
  ki_BadName_OtherSite : PySem.W.kitOne K (.ref (He.ga K "BadName")) (.ref (He.ga K "OtherSite")) = some false
  ki_TakenName_OtherSite : PySem.W.kitOne K (.ref (He.ga K "TakenName")) (.ref (He.ga K "OtherSite")) = some false
  ki_UnknownName_OtherSite : PySem.W.kitOne K (.ref (He.ga K "UnknownName")) (.ref (He.ga K "OtherSite")) = some false
  ki_NoPlace_OtherSite : PySem.W.kitOne K (.ref (He.ga K "NoPlace")) (.ref (He.ga K "OtherSite")) = some false
  ki_TooMany_OtherSite : PySem.W.kitOne K (.ref (He.ga K "TooMany")) (.ref (He.ga K "OtherSite")) = some false
  ki_NoSite_OtherSite : PySem.W.kitOne K (.ref (He.ga K "NoSite")) (.ref (He.ga K "OtherSite")) = some false
  ki_NoShape_OtherSite : PySem.W.kitOne K (.ref (He.ga K "NoShape")) (.ref (He.ga K "OtherSite")) = some false
  ki_BadState_OtherSite : PySem.W.kitOne K (.ref (He.ga K "BadState")) (.ref (He.ga K "OtherSite")) = some false
  ki_BadLine_OtherSite : PySem.W.kitOne K (.ref (He.ga K "BadLine")) (.ref (He.ga K "OtherSite")) = some false
  ki_DeedFailed_OtherSite : PySem.W.kitOne K (.ref (He.ga K "DeedFailed")) (.ref (He.ga K "OtherSite")) = some false
  ki_OtherSite_OtherSite : PySem.W.kitOne K (.ref (He.ga K "OtherSite")) (.ref (He.ga K "OtherSite")) = some true
  ki_NothingToUndo_OtherSite : PySem.W.kitOne K (.ref (He.ga K "NothingToUndo")) (.ref (He.ga K "OtherSite")) = some false
  ki_NothingToRedo_OtherSite : PySem.W.kitOne K (.ref (He.ga K "NothingToRedo")) (.ref (He.ga K "OtherSite")) = some false
  ki_BadNumber_NothingToUndo : PySem.W.kitOne K (.ref (He.ga K "BadNumber")) (.ref (He.ga K "NothingToUndo")) = some false
  ki_BadName_NothingToUndo : PySem.W.kitOne K (.ref (He.ga K "BadName")) (.ref (He.ga K "NothingToUndo")) = some false
  ki_TakenName_NothingToUndo : PySem.W.kitOne K (.ref (He.ga K "TakenName")) (.ref (He.ga K "NothingToUndo")) = some false
  ki_UnknownName_NothingToUndo : PySem.W.kitOne K (.ref (He.ga K "UnknownName")) (.ref (He.ga K "NothingToUndo")) = some false
  ki_NoPlace_NothingToUndo : PySem.W.kitOne K (.ref (He.ga K "NoPlace")) (.ref (He.ga K "NothingToUndo")) = some false
  ki_TooMany_NothingToUndo : PySem.W.kitOne K (.ref (He.ga K "TooMany")) (.ref (He.ga K "NothingToUndo")) = some false
  ki_NoSite_NothingToUndo : PySem.W.kitOne K (.ref (He.ga K "NoSite")) (.ref (He.ga K "NothingToUndo")) = some false
  ki_NoShape_NothingToUndo : PySem.W.kitOne K (.ref (He.ga K "NoShape")) (.ref (He.ga K "NothingToUndo")) = some false
  ki_BadState_NothingToUndo : PySem.W.kitOne K (.ref (He.ga K "BadState")) (.ref (He.ga K "NothingToUndo")) = some false
  ki_BadLine_NothingToUndo : PySem.W.kitOne K (.ref (He.ga K "BadLine")) (.ref (He.ga K "NothingToUndo")) = some false
  ki_DeedFailed_NothingToUndo : PySem.W.kitOne K (.ref (He.ga K "DeedFailed")) (.ref (He.ga K "NothingToUndo")) = some false
  ki_OtherSite_NothingToUndo : PySem.W.kitOne K (.ref (He.ga K "OtherSite")) (.ref (He.ga K "NothingToUndo")) = some false
  ki_NothingToUndo_NothingToUndo : PySem.W.kitOne K (.ref (He.ga K "NothingToUndo")) (.ref (He.ga K "NothingToUndo")) = some true
  ki_NothingToRedo_NothingToUndo : PySem.W.kitOne K (.ref (He.ga K "NothingToRedo")) (.ref (He.ga K "NothingToUndo")) = some false
  ki_BadNumber_NothingToRedo : PySem.W.kitOne K (.ref (He.ga K "BadNumber")) (.ref (He.ga K "NothingToRedo")) = some false
  ki_BadName_NothingToRedo : PySem.W.kitOne K (.ref (He.ga K "BadName")) (.ref (He.ga K "NothingToRedo")) = some false
  ki_TakenName_NothingToRedo : PySem.W.kitOne K (.ref (He.ga K "TakenName")) (.ref (He.ga K "NothingToRedo")) = some false
  ki_UnknownName_NothingToRedo : PySem.W.kitOne K (.ref (He.ga K "UnknownName")) (.ref (He.ga K "NothingToRedo")) = some false
  ki_NoPlace_NothingToRedo : PySem.W.kitOne K (.ref (He.ga K "NoPlace")) (.ref (He.ga K "NothingToRedo")) = some false
  ki_TooMany_NothingToRedo : PySem.W.kitOne K (.ref (He.ga K "TooMany")) (.ref (He.ga K "NothingToRedo")) = some false
  ki_NoSite_NothingToRedo : PySem.W.kitOne K (.ref (He.ga K "NoSite")) (.ref (He.ga K "NothingToRedo")) = some false
  ki_NoShape_NothingToRedo : PySem.W.kitOne K (.ref (He.ga K "NoShape")) (.ref (He.ga K "NothingToRedo")) = some false
  ki_BadState_NothingToRedo : PySem.W.kitOne K (.ref (He.ga K "BadState")) (.ref (He.ga K "NothingToRedo")) = some false
  ki_BadLine_NothingToRedo : PySem.W.kitOne K (.ref (He.ga K "BadLine")) (.ref (He.ga K "NothingToRedo")) = some false
  ki_DeedFailed_NothingToRedo : PySem.W.kitOne K (.ref (He.ga K "DeedFailed")) (.ref (He.ga K "NothingToRedo")) = some false
  ki_OtherSite_NothingToRedo : PySem.W.kitOne K (.ref (He.ga K "OtherSite")) (.ref (He.ga K "NothingToRedo")) = some false
  ki_NothingToUndo_NothingToRedo : PySem.W.kitOne K (.ref (He.ga K "NothingToUndo")) (.ref (He.ga K "NothingToRedo")) = some false
  ki_NothingToRedo_NothingToRedo : PySem.W.kitOne K (.ref (He.ga K "NothingToRedo")) (.ref (He.ga K "NothingToRedo")) = some true
  ki_BadNumber_LadderError : PySem.W.kitOne K (.ref (He.ga K "BadNumber")) (.ref (He.ga K "LadderError")) = some true
  ki_BadName_LadderError : PySem.W.kitOne K (.ref (He.ga K "BadName")) (.ref (He.ga K "LadderError")) = some true
  ki_TakenName_LadderError : PySem.W.kitOne K (.ref (He.ga K "TakenName")) (.ref (He.ga K "LadderError")) = some true
  ki_UnknownName_LadderError : PySem.W.kitOne K (.ref (He.ga K "UnknownName")) (.ref (He.ga K "LadderError")) = some true
  ki_NoPlace_LadderError : PySem.W.kitOne K (.ref (He.ga K "NoPlace")) (.ref (He.ga K "LadderError")) = some true
  ki_TooMany_LadderError : PySem.W.kitOne K (.ref (He.ga K "TooMany")) (.ref (He.ga K "LadderError")) = some true
  ki_NoSite_LadderError : PySem.W.kitOne K (.ref (He.ga K "NoSite")) (.ref (He.ga K "LadderError")) = some true
  ki_NoShape_LadderError : PySem.W.kitOne K (.ref (He.ga K "NoShape")) (.ref (He.ga K "LadderError")) = some true
  ki_BadState_LadderError : PySem.W.kitOne K (.ref (He.ga K "BadState")) (.ref (He.ga K "LadderError")) = some true
  ki_BadLine_LadderError : PySem.W.kitOne K (.ref (He.ga K "BadLine")) (.ref (He.ga K "LadderError")) = some true
  ki_DeedFailed_LadderError : PySem.W.kitOne K (.ref (He.ga K "DeedFailed")) (.ref (He.ga K "LadderError")) = some true
  ki_OtherSite_LadderError : PySem.W.kitOne K (.ref (He.ga K "OtherSite")) (.ref (He.ga K "LadderError")) = some true
  ki_NothingToUndo_LadderError : PySem.W.kitOne K (.ref (He.ga K "NothingToUndo")) (.ref (He.ga K "LadderError")) = some true
  ki_NothingToRedo_LadderError : PySem.W.kitOne K (.ref (He.ga K "NothingToRedo")) (.ref (He.ga K "LadderError")) = some true
  ki_BadNumber_ValueError : PySem.W.kitOne K (.ref (He.ga K "BadNumber")) (.type "ValueError") = some true
  ki_BadName_ValueError : PySem.W.kitOne K (.ref (He.ga K "BadName")) (.type "ValueError") = some true
  ki_TakenName_ValueError : PySem.W.kitOne K (.ref (He.ga K "TakenName")) (.type "ValueError") = some true
  ki_UnknownName_ValueError : PySem.W.kitOne K (.ref (He.ga K "UnknownName")) (.type "ValueError") = some true
  ki_NoPlace_ValueError : PySem.W.kitOne K (.ref (He.ga K "NoPlace")) (.type "ValueError") = some true
  ki_TooMany_ValueError : PySem.W.kitOne K (.ref (He.ga K "TooMany")) (.type "ValueError") = some true
  ki_NoSite_ValueError : PySem.W.kitOne K (.ref (He.ga K "NoSite")) (.type "ValueError") = some true
  ki_NoShape_ValueError : PySem.W.kitOne K (.ref (He.ga K "NoShape")) (.type "ValueError") = some true
  ki_BadState_ValueError : PySem.W.kitOne K (.ref (He.ga K "BadState")) (.type "ValueError") = some true
  ki_BadLine_ValueError : PySem.W.kitOne K (.ref (He.ga K "BadLine")) (.type "ValueError") = some true
  ki_DeedFailed_ValueError : PySem.W.kitOne K (.ref (He.ga K "DeedFailed")) (.type "ValueError") = some true
  ki_OtherSite_ValueError : PySem.W.kitOne K (.ref (He.ga K "OtherSite")) (.type "ValueError") = some true
  ki_NothingToUndo_ValueError : PySem.W.kitOne K (.ref (He.ga K "NothingToUndo")) (.type "ValueError") = some true
  ki_NothingToRedo_ValueError : PySem.W.kitOne K (.ref (He.ga K "NothingToRedo")) (.type "ValueError") = some true
section
variable {w : World} {K : PySem.W.Frag} {mg : Str → Option Value} {base : Heap}
theorem b_law_based_1 (T : Txt K mg) : Vals [] ([] : List Value) ∧ Binds K T.fd_law_based ["_law_errors"] [] := ⟨.nil, FunD.bindsN T.F_law_based fun _ _ _ _ _ _ us hl => match us, hl with | [_], _ => rfl⟩
theorem b_law_box_1 (T : Txt K mg) : Vals [] ([] : List Value) ∧ Binds K T.fd_law_box ["_law_script"] [] := ⟨.nil, FunD.bindsN T.F_law_box fun _ _ _ _ _ _ us hl => match us, hl with | [_], _ => rfl⟩
theorem b_law_classes_1 (T : Txt K mg) : Vals [] ([] : List Value) ∧ Binds K T.fd_law_classes ["_law_error"] [] := ⟨.nil, FunD.bindsN T.F_law_classes fun _ _ _ _ _ _ us hl => match us, hl with | [_], _ => rfl⟩
theorem b_law_number_1 (T : Txt K mg) : Vals [] ([] : List Value) ∧ Binds K T.fd_law_number ["_law_x"] [] := ⟨.nil, FunD.bindsN T.F_law_number fun _ _ _ _ _ _ us hl => match us, hl with | [_], _ => rfl⟩
theorem b_law_take_2 (T : Txt K mg) : Vals [] ([] : List Value) ∧ Binds K T.fd_law_take ["_law_box_here", "_law_size"] [] := ⟨.nil, FunD.bindsN T.F_law_take fun _ _ _ _ _ _ us hl => match us, hl with | [_, _], _ => rfl⟩
theorem Txt.xo_BadNumber_o (T : Txt K mg) : ∀ c b, xo_BadNumber c = some b → ExcC K (He.ga K (en c)) ∧ PySem.W.kitOne K (.ref (He.ga K (en c))) (.ref (He.ga K "BadNumber")) = some b := fun c b e => match c, e with
  | 0, e => by cases e; exact ⟨T.xc_BadNumber, T.ki_BadNumber_BadNumber⟩
  | 1, e => by cases e; exact ⟨T.xc_BadName, T.ki_BadName_BadNumber⟩
  | 2, e => by cases e; exact ⟨T.xc_TakenName, T.ki_TakenName_BadNumber⟩
  | 3, e => by cases e; exact ⟨T.xc_UnknownName, T.ki_UnknownName_BadNumber⟩
  | 4, e => by cases e; exact ⟨T.xc_NoPlace, T.ki_NoPlace_BadNumber⟩
  | 5, e => by cases e; exact ⟨T.xc_TooMany, T.ki_TooMany_BadNumber⟩
  | 6, e => by cases e; exact ⟨T.xc_NoSite, T.ki_NoSite_BadNumber⟩
  | 7, e => by cases e; exact ⟨T.xc_NoShape, T.ki_NoShape_BadNumber⟩
  | 8, e => by cases e; exact ⟨T.xc_BadState, T.ki_BadState_BadNumber⟩
  | 9, e => by cases e; exact ⟨T.xc_BadLine, T.ki_BadLine_BadNumber⟩
  | 10, e => by cases e; exact ⟨T.xc_DeedFailed, T.ki_DeedFailed_BadNumber⟩
  | 11, e => by cases e; exact ⟨T.xc_OtherSite, T.ki_OtherSite_BadNumber⟩
  | 12, e => by cases e; exact ⟨T.xc_NothingToUndo, T.ki_NothingToUndo_BadNumber⟩
  | 13, e => by cases e; exact ⟨T.xc_NothingToRedo, T.ki_NothingToRedo_BadNumber⟩
  | _ + 14, e => by cases e
theorem Txt.xo_BadName_o (T : Txt K mg) : ∀ c b, xo_BadName c = some b → ExcC K (He.ga K (en c)) ∧ PySem.W.kitOne K (.ref (He.ga K (en c))) (.ref (He.ga K "BadName")) = some b := fun c b e => match c, e with
  | 0, e => by cases e; exact ⟨T.xc_BadNumber, T.ki_BadNumber_BadName⟩
  | 1, e => by cases e; exact ⟨T.xc_BadName, T.ki_BadName_BadName⟩
  | 2, e => by cases e; exact ⟨T.xc_TakenName, T.ki_TakenName_BadName⟩
  | 3, e => by cases e; exact ⟨T.xc_UnknownName, T.ki_UnknownName_BadName⟩
  | 4, e => by cases e; exact ⟨T.xc_NoPlace, T.ki_NoPlace_BadName⟩
  | 5, e => by cases e; exact ⟨T.xc_TooMany, T.ki_TooMany_BadName⟩
  | 6, e => by cases e; exact ⟨T.xc_NoSite, T.ki_NoSite_BadName⟩
  | 7, e => by cases e; exact ⟨T.xc_NoShape, T.ki_NoShape_BadName⟩
  | 8, e => by cases e; exact ⟨T.xc_BadState, T.ki_BadState_BadName⟩
  | 9, e => by cases e; exact ⟨T.xc_BadLine, T.ki_BadLine_BadName⟩
  | 10, e => by cases e; exact ⟨T.xc_DeedFailed, T.ki_DeedFailed_BadName⟩
  | 11, e => by cases e; exact ⟨T.xc_OtherSite, T.ki_OtherSite_BadName⟩
  | 12, e => by cases e; exact ⟨T.xc_NothingToUndo, T.ki_NothingToUndo_BadName⟩
  | 13, e => by cases e; exact ⟨T.xc_NothingToRedo, T.ki_NothingToRedo_BadName⟩
  | _ + 14, e => by cases e
theorem Txt.xo_TakenName_o (T : Txt K mg) : ∀ c b, xo_TakenName c = some b → ExcC K (He.ga K (en c)) ∧ PySem.W.kitOne K (.ref (He.ga K (en c))) (.ref (He.ga K "TakenName")) = some b := fun c b e => match c, e with
  | 0, e => by cases e; exact ⟨T.xc_BadNumber, T.ki_BadNumber_TakenName⟩
  | 1, e => by cases e; exact ⟨T.xc_BadName, T.ki_BadName_TakenName⟩
  | 2, e => by cases e; exact ⟨T.xc_TakenName, T.ki_TakenName_TakenName⟩
  | 3, e => by cases e; exact ⟨T.xc_UnknownName, T.ki_UnknownName_TakenName⟩
  | 4, e => by cases e; exact ⟨T.xc_NoPlace, T.ki_NoPlace_TakenName⟩
  | 5, e => by cases e; exact ⟨T.xc_TooMany, T.ki_TooMany_TakenName⟩
  | 6, e => by cases e; exact ⟨T.xc_NoSite, T.ki_NoSite_TakenName⟩
  | 7, e => by cases e; exact ⟨T.xc_NoShape, T.ki_NoShape_TakenName⟩
  | 8, e => by cases e; exact ⟨T.xc_BadState, T.ki_BadState_TakenName⟩
  | 9, e => by cases e; exact ⟨T.xc_BadLine, T.ki_BadLine_TakenName⟩
  | 10, e => by cases e; exact ⟨T.xc_DeedFailed, T.ki_DeedFailed_TakenName⟩
  | 11, e => by cases e; exact ⟨T.xc_OtherSite, T.ki_OtherSite_TakenName⟩
  | 12, e => by cases e; exact ⟨T.xc_NothingToUndo, T.ki_NothingToUndo_TakenName⟩
  | 13, e => by cases e; exact ⟨T.xc_NothingToRedo, T.ki_NothingToRedo_TakenName⟩
  | _ + 14, e => by cases e
theorem Txt.xo_UnknownName_o (T : Txt K mg) : ∀ c b, xo_UnknownName c = some b → ExcC K (He.ga K (en c)) ∧ PySem.W.kitOne K (.ref (He.ga K (en c))) (.ref (He.ga K "UnknownName")) = some b := fun c b e => match c, e with
  | 0, e => by cases e; exact ⟨T.xc_BadNumber, T.ki_BadNumber_UnknownName⟩
  | 1, e => by cases e; exact ⟨T.xc_BadName, T.ki_BadName_UnknownName⟩
  | 2, e => by cases e; exact ⟨T.xc_TakenName, T.ki_TakenName_UnknownName⟩
  | 3, e => by cases e; exact ⟨T.xc_UnknownName, T.ki_UnknownName_UnknownName⟩
  | 4, e => by cases e; exact ⟨T.xc_NoPlace, T.ki_NoPlace_UnknownName⟩
  | 5, e => by cases e; exact ⟨T.xc_TooMany, T.ki_TooMany_UnknownName⟩
  | 6, e => by cases e; exact ⟨T.xc_NoSite, T.ki_NoSite_UnknownName⟩
  | 7, e => by cases e; exact ⟨T.xc_NoShape, T.ki_NoShape_UnknownName⟩
  | 8, e => by cases e; exact ⟨T.xc_BadState, T.ki_BadState_UnknownName⟩
  | 9, e => by cases e; exact ⟨T.xc_BadLine, T.ki_BadLine_UnknownName⟩
  | 10, e => by cases e; exact ⟨T.xc_DeedFailed, T.ki_DeedFailed_UnknownName⟩
  | 11, e => by cases e; exact ⟨T.xc_OtherSite, T.ki_OtherSite_UnknownName⟩
  | 12, e => by cases e; exact ⟨T.xc_NothingToUndo, T.ki_NothingToUndo_UnknownName⟩
  | 13, e => by cases e; exact ⟨T.xc_NothingToRedo, T.ki_NothingToRedo_UnknownName⟩
  | _ + 14, e => by cases e
theorem Txt.xo_NoPlace_o (T : Txt K mg) : ∀ c b, xo_NoPlace c = some b → ExcC K (He.ga K (en c)) ∧ PySem.W.kitOne K (.ref (He.ga K (en c))) (.ref (He.ga K "NoPlace")) = some b := fun c b e => match c, e with
  | 0, e => by cases e; exact ⟨T.xc_BadNumber, T.ki_BadNumber_NoPlace⟩
  | 1, e => by cases e; exact ⟨T.xc_BadName, T.ki_BadName_NoPlace⟩
  | 2, e => by cases e; exact ⟨T.xc_TakenName, T.ki_TakenName_NoPlace⟩
  | 3, e => by cases e; exact ⟨T.xc_UnknownName, T.ki_UnknownName_NoPlace⟩
  | 4, e => by cases e; exact ⟨T.xc_NoPlace, T.ki_NoPlace_NoPlace⟩
  | 5, e => by cases e; exact ⟨T.xc_TooMany, T.ki_TooMany_NoPlace⟩
  | 6, e => by cases e; exact ⟨T.xc_NoSite, T.ki_NoSite_NoPlace⟩
  | 7, e => by cases e; exact ⟨T.xc_NoShape, T.ki_NoShape_NoPlace⟩
  | 8, e => by cases e; exact ⟨T.xc_BadState, T.ki_BadState_NoPlace⟩
  | 9, e => by cases e; exact ⟨T.xc_BadLine, T.ki_BadLine_NoPlace⟩
  | 10, e => by cases e; exact ⟨T.xc_DeedFailed, T.ki_DeedFailed_NoPlace⟩
  | 11, e => by cases e; exact ⟨T.xc_OtherSite, T.ki_OtherSite_NoPlace⟩
  | 12, e => by cases e; exact ⟨T.xc_NothingToUndo, T.ki_NothingToUndo_NoPlace⟩
  | 13, e => by cases e; exact ⟨T.xc_NothingToRedo, T.ki_NothingToRedo_NoPlace⟩
  | _ + 14, e => by cases e
theorem Txt.xo_TooMany_o (T : Txt K mg) : ∀ c b, xo_TooMany c = some b → ExcC K (He.ga K (en c)) ∧ PySem.W.kitOne K (.ref (He.ga K (en c))) (.ref (He.ga K "TooMany")) = some b := fun c b e => match c, e with
  | 0, e => by cases e; exact ⟨T.xc_BadNumber, T.ki_BadNumber_TooMany⟩
  | 1, e => by cases e; exact ⟨T.xc_BadName, T.ki_BadName_TooMany⟩
  | 2, e => by cases e; exact ⟨T.xc_TakenName, T.ki_TakenName_TooMany⟩
  | 3, e => by cases e; exact ⟨T.xc_UnknownName, T.ki_UnknownName_TooMany⟩
  | 4, e => by cases e; exact ⟨T.xc_NoPlace, T.ki_NoPlace_TooMany⟩
  | 5, e => by cases e; exact ⟨T.xc_TooMany, T.ki_TooMany_TooMany⟩
  | 6, e => by cases e; exact ⟨T.xc_NoSite, T.ki_NoSite_TooMany⟩
  | 7, e => by cases e; exact ⟨T.xc_NoShape, T.ki_NoShape_TooMany⟩
  | 8, e => by cases e; exact ⟨T.xc_BadState, T.ki_BadState_TooMany⟩
  | 9, e => by cases e; exact ⟨T.xc_BadLine, T.ki_BadLine_TooMany⟩
  | 10, e => by cases e; exact ⟨T.xc_DeedFailed, T.ki_DeedFailed_TooMany⟩
  | 11, e => by cases e; exact ⟨T.xc_OtherSite, T.ki_OtherSite_TooMany⟩
  | 12, e => by cases e; exact ⟨T.xc_NothingToUndo, T.ki_NothingToUndo_TooMany⟩
  | 13, e => by cases e; exact ⟨T.xc_NothingToRedo, T.ki_NothingToRedo_TooMany⟩
  | _ + 14, e => by cases e
theorem Txt.xo_NoSite_o (T : Txt K mg) : ∀ c b, xo_NoSite c = some b → ExcC K (He.ga K (en c)) ∧ PySem.W.kitOne K (.ref (He.ga K (en c))) (.ref (He.ga K "NoSite")) = some b := fun c b e => match c, e with
  | 0, e => by cases e; exact ⟨T.xc_BadNumber, T.ki_BadNumber_NoSite⟩
  | 1, e => by cases e; exact ⟨T.xc_BadName, T.ki_BadName_NoSite⟩
  | 2, e => by cases e; exact ⟨T.xc_TakenName, T.ki_TakenName_NoSite⟩
  | 3, e => by cases e; exact ⟨T.xc_UnknownName, T.ki_UnknownName_NoSite⟩
  | 4, e => by cases e; exact ⟨T.xc_NoPlace, T.ki_NoPlace_NoSite⟩
  | 5, e => by cases e; exact ⟨T.xc_TooMany, T.ki_TooMany_NoSite⟩
  | 6, e => by cases e; exact ⟨T.xc_NoSite, T.ki_NoSite_NoSite⟩
  | 7, e => by cases e; exact ⟨T.xc_NoShape, T.ki_NoShape_NoSite⟩
  | 8, e => by cases e; exact ⟨T.xc_BadState, T.ki_BadState_NoSite⟩
  | 9, e => by cases e; exact ⟨T.xc_BadLine, T.ki_BadLine_NoSite⟩
  | 10, e => by cases e; exact ⟨T.xc_DeedFailed, T.ki_DeedFailed_NoSite⟩
  | 11, e => by cases e; exact ⟨T.xc_OtherSite, T.ki_OtherSite_NoSite⟩
  | 12, e => by cases e; exact ⟨T.xc_NothingToUndo, T.ki_NothingToUndo_NoSite⟩
  | 13, e => by cases e; exact ⟨T.xc_NothingToRedo, T.ki_NothingToRedo_NoSite⟩
  | _ + 14, e => by cases e
theorem Txt.xo_NoShape_o (T : Txt K mg) : ∀ c b, xo_NoShape c = some b → ExcC K (He.ga K (en c)) ∧ PySem.W.kitOne K (.ref (He.ga K (en c))) (.ref (He.ga K "NoShape")) = some b := fun c b e => match c, e with
  | 0, e => by cases e; exact ⟨T.xc_BadNumber, T.ki_BadNumber_NoShape⟩
  | 1, e => by cases e; exact ⟨T.xc_BadName, T.ki_BadName_NoShape⟩
  | 2, e => by cases e; exact ⟨T.xc_TakenName, T.ki_TakenName_NoShape⟩
  | 3, e => by cases e; exact ⟨T.xc_UnknownName, T.ki_UnknownName_NoShape⟩
  | 4, e => by cases e; exact ⟨T.xc_NoPlace, T.ki_NoPlace_NoShape⟩
  | 5, e => by cases e; exact ⟨T.xc_TooMany, T.ki_TooMany_NoShape⟩
  | 6, e => by cases e; exact ⟨T.xc_NoSite, T.ki_NoSite_NoShape⟩
  | 7, e => by cases e; exact ⟨T.xc_NoShape, T.ki_NoShape_NoShape⟩
  | 8, e => by cases e; exact ⟨T.xc_BadState, T.ki_BadState_NoShape⟩
  | 9, e => by cases e; exact ⟨T.xc_BadLine, T.ki_BadLine_NoShape⟩
  | 10, e => by cases e; exact ⟨T.xc_DeedFailed, T.ki_DeedFailed_NoShape⟩
  | 11, e => by cases e; exact ⟨T.xc_OtherSite, T.ki_OtherSite_NoShape⟩
  | 12, e => by cases e; exact ⟨T.xc_NothingToUndo, T.ki_NothingToUndo_NoShape⟩
  | 13, e => by cases e; exact ⟨T.xc_NothingToRedo, T.ki_NothingToRedo_NoShape⟩
  | _ + 14, e => by cases e
theorem Txt.xo_BadState_o (T : Txt K mg) : ∀ c b, xo_BadState c = some b → ExcC K (He.ga K (en c)) ∧ PySem.W.kitOne K (.ref (He.ga K (en c))) (.ref (He.ga K "BadState")) = some b := fun c b e => match c, e with
  | 0, e => by cases e; exact ⟨T.xc_BadNumber, T.ki_BadNumber_BadState⟩
  | 1, e => by cases e; exact ⟨T.xc_BadName, T.ki_BadName_BadState⟩
  | 2, e => by cases e; exact ⟨T.xc_TakenName, T.ki_TakenName_BadState⟩
  | 3, e => by cases e; exact ⟨T.xc_UnknownName, T.ki_UnknownName_BadState⟩
  | 4, e => by cases e; exact ⟨T.xc_NoPlace, T.ki_NoPlace_BadState⟩
  | 5, e => by cases e; exact ⟨T.xc_TooMany, T.ki_TooMany_BadState⟩
  | 6, e => by cases e; exact ⟨T.xc_NoSite, T.ki_NoSite_BadState⟩
  | 7, e => by cases e; exact ⟨T.xc_NoShape, T.ki_NoShape_BadState⟩
  | 8, e => by cases e; exact ⟨T.xc_BadState, T.ki_BadState_BadState⟩
  | 9, e => by cases e; exact ⟨T.xc_BadLine, T.ki_BadLine_BadState⟩
  | 10, e => by cases e; exact ⟨T.xc_DeedFailed, T.ki_DeedFailed_BadState⟩
  | 11, e => by cases e; exact ⟨T.xc_OtherSite, T.ki_OtherSite_BadState⟩
  | 12, e => by cases e; exact ⟨T.xc_NothingToUndo, T.ki_NothingToUndo_BadState⟩
  | 13, e => by cases e; exact ⟨T.xc_NothingToRedo, T.ki_NothingToRedo_BadState⟩
  | _ + 14, e => by cases e
theorem Txt.xo_BadLine_o (T : Txt K mg) : ∀ c b, xo_BadLine c = some b → ExcC K (He.ga K (en c)) ∧ PySem.W.kitOne K (.ref (He.ga K (en c))) (.ref (He.ga K "BadLine")) = some b := fun c b e => match c, e with
  | 0, e => by cases e; exact ⟨T.xc_BadNumber, T.ki_BadNumber_BadLine⟩
  | 1, e => by cases e; exact ⟨T.xc_BadName, T.ki_BadName_BadLine⟩
  | 2, e => by cases e; exact ⟨T.xc_TakenName, T.ki_TakenName_BadLine⟩
  | 3, e => by cases e; exact ⟨T.xc_UnknownName, T.ki_UnknownName_BadLine⟩
  | 4, e => by cases e; exact ⟨T.xc_NoPlace, T.ki_NoPlace_BadLine⟩
  | 5, e => by cases e; exact ⟨T.xc_TooMany, T.ki_TooMany_BadLine⟩
  | 6, e => by cases e; exact ⟨T.xc_NoSite, T.ki_NoSite_BadLine⟩
  | 7, e => by cases e; exact ⟨T.xc_NoShape, T.ki_NoShape_BadLine⟩
  | 8, e => by cases e; exact ⟨T.xc_BadState, T.ki_BadState_BadLine⟩
  | 9, e => by cases e; exact ⟨T.xc_BadLine, T.ki_BadLine_BadLine⟩
  | 10, e => by cases e; exact ⟨T.xc_DeedFailed, T.ki_DeedFailed_BadLine⟩
  | 11, e => by cases e; exact ⟨T.xc_OtherSite, T.ki_OtherSite_BadLine⟩
  | 12, e => by cases e; exact ⟨T.xc_NothingToUndo, T.ki_NothingToUndo_BadLine⟩
  | 13, e => by cases e; exact ⟨T.xc_NothingToRedo, T.ki_NothingToRedo_BadLine⟩
  | _ + 14, e => by cases e
theorem Txt.xo_DeedFailed_o (T : Txt K mg) : ∀ c b, xo_DeedFailed c = some b → ExcC K (He.ga K (en c)) ∧ PySem.W.kitOne K (.ref (He.ga K (en c))) (.ref (He.ga K "DeedFailed")) = some b := fun c b e => match c, e with
  | 0, e => by cases e; exact ⟨T.xc_BadNumber, T.ki_BadNumber_DeedFailed⟩
  | 1, e => by cases e; exact ⟨T.xc_BadName, T.ki_BadName_DeedFailed⟩
  | 2, e => by cases e; exact ⟨T.xc_TakenName, T.ki_TakenName_DeedFailed⟩
  | 3, e => by cases e; exact ⟨T.xc_UnknownName, T.ki_UnknownName_DeedFailed⟩
  | 4, e => by cases e; exact ⟨T.xc_NoPlace, T.ki_NoPlace_DeedFailed⟩
  | 5, e => by cases e; exact ⟨T.xc_TooMany, T.ki_TooMany_DeedFailed⟩
  | 6, e => by cases e; exact ⟨T.xc_NoSite, T.ki_NoSite_DeedFailed⟩
  | 7, e => by cases e; exact ⟨T.xc_NoShape, T.ki_NoShape_DeedFailed⟩
  | 8, e => by cases e; exact ⟨T.xc_BadState, T.ki_BadState_DeedFailed⟩
  | 9, e => by cases e; exact ⟨T.xc_BadLine, T.ki_BadLine_DeedFailed⟩
  | 10, e => by cases e; exact ⟨T.xc_DeedFailed, T.ki_DeedFailed_DeedFailed⟩
  | 11, e => by cases e; exact ⟨T.xc_OtherSite, T.ki_OtherSite_DeedFailed⟩
  | 12, e => by cases e; exact ⟨T.xc_NothingToUndo, T.ki_NothingToUndo_DeedFailed⟩
  | 13, e => by cases e; exact ⟨T.xc_NothingToRedo, T.ki_NothingToRedo_DeedFailed⟩
  | _ + 14, e => by cases e
theorem Txt.xo_OtherSite_o (T : Txt K mg) : ∀ c b, xo_OtherSite c = some b → ExcC K (He.ga K (en c)) ∧ PySem.W.kitOne K (.ref (He.ga K (en c))) (.ref (He.ga K "OtherSite")) = some b := fun c b e => match c, e with
  | 0, e => by cases e; exact ⟨T.xc_BadNumber, T.ki_BadNumber_OtherSite⟩
  | 1, e => by cases e; exact ⟨T.xc_BadName, T.ki_BadName_OtherSite⟩
  | 2, e => by cases e; exact ⟨T.xc_TakenName, T.ki_TakenName_OtherSite⟩
  | 3, e => by cases e; exact ⟨T.xc_UnknownName, T.ki_UnknownName_OtherSite⟩
  | 4, e => by cases e; exact ⟨T.xc_NoPlace, T.ki_NoPlace_OtherSite⟩
  | 5, e => by cases e; exact ⟨T.xc_TooMany, T.ki_TooMany_OtherSite⟩
  | 6, e => by cases e; exact ⟨T.xc_NoSite, T.ki_NoSite_OtherSite⟩
  | 7, e => by cases e; exact ⟨T.xc_NoShape, T.ki_NoShape_OtherSite⟩
  | 8, e => by cases e; exact ⟨T.xc_BadState, T.ki_BadState_OtherSite⟩
  | 9, e => by cases e; exact ⟨T.xc_BadLine, T.ki_BadLine_OtherSite⟩
  | 10, e => by cases e; exact ⟨T.xc_DeedFailed, T.ki_DeedFailed_OtherSite⟩
  | 11, e => by cases e; exact ⟨T.xc_OtherSite, T.ki_OtherSite_OtherSite⟩
  | 12, e => by cases e; exact ⟨T.xc_NothingToUndo, T.ki_NothingToUndo_OtherSite⟩
  | 13, e => by cases e; exact ⟨T.xc_NothingToRedo, T.ki_NothingToRedo_OtherSite⟩
  | _ + 14, e => by cases e
theorem Txt.xo_NothingToUndo_o (T : Txt K mg) : ∀ c b, xo_NothingToUndo c = some b → ExcC K (He.ga K (en c)) ∧ PySem.W.kitOne K (.ref (He.ga K (en c))) (.ref (He.ga K "NothingToUndo")) = some b := fun c b e => match c, e with
  | 0, e => by cases e; exact ⟨T.xc_BadNumber, T.ki_BadNumber_NothingToUndo⟩
  | 1, e => by cases e; exact ⟨T.xc_BadName, T.ki_BadName_NothingToUndo⟩
  | 2, e => by cases e; exact ⟨T.xc_TakenName, T.ki_TakenName_NothingToUndo⟩
  | 3, e => by cases e; exact ⟨T.xc_UnknownName, T.ki_UnknownName_NothingToUndo⟩
  | 4, e => by cases e; exact ⟨T.xc_NoPlace, T.ki_NoPlace_NothingToUndo⟩
  | 5, e => by cases e; exact ⟨T.xc_TooMany, T.ki_TooMany_NothingToUndo⟩
  | 6, e => by cases e; exact ⟨T.xc_NoSite, T.ki_NoSite_NothingToUndo⟩
  | 7, e => by cases e; exact ⟨T.xc_NoShape, T.ki_NoShape_NothingToUndo⟩
  | 8, e => by cases e; exact ⟨T.xc_BadState, T.ki_BadState_NothingToUndo⟩
  | 9, e => by cases e; exact ⟨T.xc_BadLine, T.ki_BadLine_NothingToUndo⟩
  | 10, e => by cases e; exact ⟨T.xc_DeedFailed, T.ki_DeedFailed_NothingToUndo⟩
  | 11, e => by cases e; exact ⟨T.xc_OtherSite, T.ki_OtherSite_NothingToUndo⟩
  | 12, e => by cases e; exact ⟨T.xc_NothingToUndo, T.ki_NothingToUndo_NothingToUndo⟩
  | 13, e => by cases e; exact ⟨T.xc_NothingToRedo, T.ki_NothingToRedo_NothingToUndo⟩
  | _ + 14, e => by cases e
theorem Txt.xo_NothingToRedo_o (T : Txt K mg) : ∀ c b, xo_NothingToRedo c = some b → ExcC K (He.ga K (en c)) ∧ PySem.W.kitOne K (.ref (He.ga K (en c))) (.ref (He.ga K "NothingToRedo")) = some b := fun c b e => match c, e with
  | 0, e => by cases e; exact ⟨T.xc_BadNumber, T.ki_BadNumber_NothingToRedo⟩
  | 1, e => by cases e; exact ⟨T.xc_BadName, T.ki_BadName_NothingToRedo⟩
  | 2, e => by cases e; exact ⟨T.xc_TakenName, T.ki_TakenName_NothingToRedo⟩
  | 3, e => by cases e; exact ⟨T.xc_UnknownName, T.ki_UnknownName_NothingToRedo⟩
  | 4, e => by cases e; exact ⟨T.xc_NoPlace, T.ki_NoPlace_NothingToRedo⟩
  | 5, e => by cases e; exact ⟨T.xc_TooMany, T.ki_TooMany_NothingToRedo⟩
  | 6, e => by cases e; exact ⟨T.xc_NoSite, T.ki_NoSite_NothingToRedo⟩
  | 7, e => by cases e; exact ⟨T.xc_NoShape, T.ki_NoShape_NothingToRedo⟩
  | 8, e => by cases e; exact ⟨T.xc_BadState, T.ki_BadState_NothingToRedo⟩
  | 9, e => by cases e; exact ⟨T.xc_BadLine, T.ki_BadLine_NothingToRedo⟩
  | 10, e => by cases e; exact ⟨T.xc_DeedFailed, T.ki_DeedFailed_NothingToRedo⟩
  | 11, e => by cases e; exact ⟨T.xc_OtherSite, T.ki_OtherSite_NothingToRedo⟩
  | 12, e => by cases e; exact ⟨T.xc_NothingToUndo, T.ki_NothingToUndo_NothingToRedo⟩
  | 13, e => by cases e; exact ⟨T.xc_NothingToRedo, T.ki_NothingToRedo_NothingToRedo⟩
  | _ + 14, e => by cases e
theorem Txt.xo_LadderError_o (T : Txt K mg) : ∀ c b, xo_LadderError c = some b → ExcC K (He.ga K (en c)) ∧ PySem.W.kitOne K (.ref (He.ga K (en c))) (.ref (He.ga K "LadderError")) = some b := fun c b e => match c, e with
  | 0, e => by cases e; exact ⟨T.xc_BadNumber, T.ki_BadNumber_LadderError⟩
  | 1, e => by cases e; exact ⟨T.xc_BadName, T.ki_BadName_LadderError⟩
  | 2, e => by cases e; exact ⟨T.xc_TakenName, T.ki_TakenName_LadderError⟩
  | 3, e => by cases e; exact ⟨T.xc_UnknownName, T.ki_UnknownName_LadderError⟩
  | 4, e => by cases e; exact ⟨T.xc_NoPlace, T.ki_NoPlace_LadderError⟩
  | 5, e => by cases e; exact ⟨T.xc_TooMany, T.ki_TooMany_LadderError⟩
  | 6, e => by cases e; exact ⟨T.xc_NoSite, T.ki_NoSite_LadderError⟩
  | 7, e => by cases e; exact ⟨T.xc_NoShape, T.ki_NoShape_LadderError⟩
  | 8, e => by cases e; exact ⟨T.xc_BadState, T.ki_BadState_LadderError⟩
  | 9, e => by cases e; exact ⟨T.xc_BadLine, T.ki_BadLine_LadderError⟩
  | 10, e => by cases e; exact ⟨T.xc_DeedFailed, T.ki_DeedFailed_LadderError⟩
  | 11, e => by cases e; exact ⟨T.xc_OtherSite, T.ki_OtherSite_LadderError⟩
  | 12, e => by cases e; exact ⟨T.xc_NothingToUndo, T.ki_NothingToUndo_LadderError⟩
  | 13, e => by cases e; exact ⟨T.xc_NothingToRedo, T.ki_NothingToRedo_LadderError⟩
  | _ + 14, e => by cases e
theorem Txt.xo_ValueError_o (T : Txt K mg) : ∀ c b, xo_ValueError c = some b → ExcC K (He.ga K (en c)) ∧ PySem.W.kitOne K (.ref (He.ga K (en c))) (.type "ValueError") = some b := fun c b e => match c, e with
  | 0, e => by cases e; exact ⟨T.xc_BadNumber, T.ki_BadNumber_ValueError⟩
  | 1, e => by cases e; exact ⟨T.xc_BadName, T.ki_BadName_ValueError⟩
  | 2, e => by cases e; exact ⟨T.xc_TakenName, T.ki_TakenName_ValueError⟩
  | 3, e => by cases e; exact ⟨T.xc_UnknownName, T.ki_UnknownName_ValueError⟩
  | 4, e => by cases e; exact ⟨T.xc_NoPlace, T.ki_NoPlace_ValueError⟩
  | 5, e => by cases e; exact ⟨T.xc_TooMany, T.ki_TooMany_ValueError⟩
  | 6, e => by cases e; exact ⟨T.xc_NoSite, T.ki_NoSite_ValueError⟩
  | 7, e => by cases e; exact ⟨T.xc_NoShape, T.ki_NoShape_ValueError⟩
  | 8, e => by cases e; exact ⟨T.xc_BadState, T.ki_BadState_ValueError⟩
  | 9, e => by cases e; exact ⟨T.xc_BadLine, T.ki_BadLine_ValueError⟩
  | 10, e => by cases e; exact ⟨T.xc_DeedFailed, T.ki_DeedFailed_ValueError⟩
  | 11, e => by cases e; exact ⟨T.xc_OtherSite, T.ki_OtherSite_ValueError⟩
  | 12, e => by cases e; exact ⟨T.xc_NothingToUndo, T.ki_NothingToUndo_ValueError⟩
  | 13, e => by cases e; exact ⟨T.xc_NothingToRedo, T.ki_NothingToRedo_ValueError⟩
  | _ + 14, e => by cases e
theorem Txt.xv_value_o (T : Txt K mg) : ∀ c, xv_value c = true → XfC K (He.ga K (en c)) ∧ PySem.W.findIn K (.ref (He.ga K (en c))) "value" = some none := by
  intro c e
  unfold xv_value at e
  simp only [Bool.or_eq_true, decide_eq_true_eq] at e
  rcases e with rfl
  · exact ⟨errXf T.er_BadNumber, T.er_BadNumber.noN⟩
theorem Txt.xv_name_o (T : Txt K mg) : ∀ c, xv_name c = true → XfC K (He.ga K (en c)) ∧ PySem.W.findIn K (.ref (He.ga K (en c))) "name" = some none := by
  intro c e
  unfold xv_name at e
  simp only [Bool.or_eq_true, decide_eq_true_eq] at e
  rcases e with rfl | rfl | rfl
  · exact ⟨errXf T.er_BadName, T.er_BadName.noN⟩
  · exact ⟨errXf T.er_TakenName, T.er_TakenName.noN⟩
  · exact ⟨errXf T.er_UnknownName, T.er_UnknownName.noN⟩
theorem Txt.xv_place_o (T : Txt K mg) : ∀ c, xv_place c = true → XfC K (He.ga K (en c)) ∧ PySem.W.findIn K (.ref (He.ga K (en c))) "place" = some none := by
  intro c e
  unfold xv_place at e
  simp only [Bool.or_eq_true, decide_eq_true_eq] at e
  rcases e with rfl
  · exact ⟨errXf T.er_NoPlace, T.er_NoPlace.noN⟩
theorem Txt.xv_count_o (T : Txt K mg) : ∀ c, xv_count c = true → XfC K (He.ga K (en c)) ∧ PySem.W.findIn K (.ref (He.ga K (en c))) "count" = some none := by
  intro c e
  unfold xv_count at e
  simp only [Bool.or_eq_true, decide_eq_true_eq] at e
  rcases e with rfl
  · exact ⟨errXf T.er_TooMany, T.er_TooMany.noN⟩
theorem Txt.xv_ring_o (T : Txt K mg) : ∀ c, xv_ring c = true → XfC K (He.ga K (en c)) ∧ PySem.W.findIn K (.ref (He.ga K (en c))) "ring" = some none := by
  intro c e
  unfold xv_ring at e
  simp only [Bool.or_eq_true, decide_eq_true_eq] at e
  rcases e with rfl
  · exact ⟨errXfL T.er_NoSite, T.er_NoSite.noN⟩
theorem Txt.xv_blames_o (T : Txt K mg) : ∀ c, xv_blames c = true → XfC K (He.ga K (en c)) ∧ PySem.W.findIn K (.ref (He.ga K (en c))) "blames" = some none := by
  intro c e
  unfold xv_blames at e
  simp only [Bool.or_eq_true, decide_eq_true_eq] at e
  rcases e with rfl
  · exact ⟨errXfL T.er_NoShape, T.er_NoShape.noN⟩
theorem Txt.xv_state_o (T : Txt K mg) : ∀ c, xv_state c = true → XfC K (He.ga K (en c)) ∧ PySem.W.findIn K (.ref (He.ga K (en c))) "state" = some none := by
  intro c e
  unfold xv_state at e
  simp only [Bool.or_eq_true, decide_eq_true_eq] at e
  rcases e with rfl
  · exact ⟨errXf T.er_BadState, T.er_BadState.noN⟩
theorem Txt.xv_line_o (T : Txt K mg) : ∀ c, xv_line c = true → XfC K (He.ga K (en c)) ∧ PySem.W.findIn K (.ref (He.ga K (en c))) "line" = some none := by
  intro c e
  unfold xv_line at e
  simp only [Bool.or_eq_true, decide_eq_true_eq] at e
  rcases e with rfl
  · exact ⟨errXf T.er_BadLine, T.er_BadLine.noN⟩
theorem Txt.xv_row_o (T : Txt K mg) : ∀ c, xv_row c = true → XfC K (He.ga K (en c)) ∧ PySem.W.findIn K (.ref (He.ga K (en c))) "row" = some none := by
  intro c e
  unfold xv_row at e
  simp only [Bool.or_eq_true, decide_eq_true_eq] at e
  rcases e with rfl
  · exact ⟨errXf T.er_DeedFailed, T.er_DeedFailed.noN⟩
theorem map_get {ns : List Int} {i : Nat} {y : V} (hi : (ns.map V.int)[i]? = some y) : ∃ z, ns[i]? = some z ∧ y = V.int z := by
  rw [List.getElem?_map] at hi
  cases e : ns[i]? with
  | none =>
    rw [e] at hi
    cases hi
  | some z =>
    rw [e] at hi
    exact ⟨z, rfl, (Option.some.inj hi).symm⟩
theorem take_more {α : Type} : ∀ {l : List α} {i : Nat} {x : α}, l[i]? = some x → l.take (i + 1) = l.take i ++ [x]
  | [], i, x, h => by simp at h
  | a :: l, 0, x, h => by
    have e : a = x := Option.some.inj h
    subst e
    rfl
  | a :: l, i + 1, x, h => by
    have ih := take_more (l := l) (i := i) (x := x) h
    show a :: l.take (i + 1) = a :: l.take i ++ [x]
    rw [ih]
    rfl
theorem cut63 (ns : List Int) : ∃ ms : List Int, cutV (ns.map V.int) none (some 63) = ms.map V.int ∧ ms.length ≤ 63 := by
  refine ⟨(ns.drop (HT.sIx (ns.map V.int).length 0 none)).take (HT.sIx (ns.map V.int).length (ns.map V.int).length (some 63) - HT.sIx (ns.map V.int).length 0 none), ?_, ?_⟩
  · unfold cutV
    rw [List.map_take, List.map_drop]
  · rw [List.length_take]
    have e : HT.sIx (ns.map V.int).length (ns.map V.int).length (some 63) ≤ 63 := by
      unfold HT.sIx
      simp only []
      split <;> omega
    omega
theorem ok_law_box (T : Txt K mg) : FnOk PP w K mg base (L2.CX PP w) 1 (He.ga K "_law_box") T.fd_law_box ["_law_script"] (sp_box K) := by
  refine T.F_law_box.ok sc_law_box (fun vs H Q E h => ?_) (fun cdv A outer s H vs Q E hr h => ?_)
  · obtain ⟨a, ns, rfl, _⟩ := h
    rfl
  · obtain ⟨a, ns, rfl, hS, k⟩ := h
    refine ⟨_, (pss_one (ps_ret (pe_lst (pa_cons (pe_lc (own := [("_law_cell", 1)]) rfl sc_law_box.nd (Cl.piL K (pe_slice (Cl.slL K) (pv 0) po_none (po_some pe_int))) (blkOk_by (N := ["_law_script", "_law_cell"]) (sc := defScope s_law_box) (by decide +kernel)) (fun _ _ _ _ _ => (pg_name (i := 1) sc_law_box.nd rfl (by first | exact Or.inl rfl | exact Or.inr rfl))) (fun _ _ _ _ _ => pts_nil) (fun _ _ _ _ _ => (pe_callTy (T := "int") Cl.int1 (by rfl) T.n_int (by decide +kernel) (pa_cons (pv 1) pa_nil)))) (pa_cons pe_int (pa_cons pe_int (pa_cons pe_int pa_nil))))))), ?_⟩
    refine ⟨_, rfl, 63, rfl, a, _, rfl, hS, fun p hp => ?_⟩
    obtain ⟨ms, em, hm⟩ := cut63 ns
    rw [em]
    refine ⟨p, rfl, ⟨_, SqL.of upd_same⟩, fun D hD => ?_⟩
    have hDp : D ≠ p := fun z => by
      rw [z, upd_same] at hD
      cases hD
    have hD0 : H D = none := by
      rw [upd_ne hDp] at hD
      exact hD
    have hSq : ∀ H', H' p = some (.lst (ms.map V.int)) → SqL K H' p (ms.map V.int) := fun H' z => SqL.of z
    refine lc_list (K := K) (a := p) (xs := ms.map V.int) (fun i H' => H' D = some (.lst ((ms.take i).map V.int)) ∧ H' p = some (.lst (ms.map V.int)) ∧ Same H H') ⟨upd_same, ?_, ?_⟩ (fun i H' _ z => hSq H' z.2.1) ?_ ?_
    · rw [upd_ne (Ne.symm hDp), upd_same]
    · intro x o e
      rw [upd_ne (ne_of_none e hD0), upd_ne (ne_of_none e hp)]
      exact e
    · rintro i x H' hi ⟨h1, h2, h3⟩
      obtain ⟨z, hz, rfl⟩ := map_get hi
      refine ⟨rfl, ?_⟩
      refine ⟨_, rfl, z, rfl, _, h1, ?_, ?_, ?_, ?_⟩
      · rw [List.length_map, List.length_take, sizeLine_eq]
        omega
      · rw [upd_same, take_more hz, List.map_append]
        rfl
      · rw [upd_ne (Ne.symm hDp)]
        exact h2
      · intro x o e
        rw [upd_ne (ne_of_none e hD0)]
        exact h3 x o e
    · rintro H' ⟨h1, h2, h3⟩
      rw [List.length_map, List.take_length] at h1
      refine ⟨by show 4 ≤ sizeLine; decide, fun b hb => ?_⟩
      refine k _ b D (fun x o e => ?_) (h3.free hb) hD0 ⟨ms, 0, 0, 0, upd_same, ?_, hm, by decide, by decide, by decide, by decide⟩
      · rw [upd_ne (ne_of_none (h3 x o e) hb)]
        exact h3 x o e
      · rw [upd_ne (ne_of_none h1 hb)]
        exact h1
theorem upd_id {H : Hp} {b : Addr} {o : HO} (h : H b = some o) : upd H b o = H := by
  funext a
  by_cases e : a = b
  · rw [e, upd_same, h]
  · rw [upd_ne e]
theorem at_some {cs : List Int} {i : Int} (h0 : 0 ≤ i) (h1 : i < (cs.length : Int)) : ∃ z, atI (cs.map V.int) i = some (V.int z) := by
  have hj : i.toNat < cs.length := by omega
  refine ⟨cs[i.toNat], ?_⟩
  have e := atI_nat (xs := cs.map V.int) (j := i.toNat) (v := V.int cs[i.toNat]) (by rw [List.getElem?_map, List.getElem?_eq_getElem hj]; rfl)
  rw [Int.toNat_of_nonneg h0] at e
  exact e
theorem ok_law_take (T : Txt K mg) : FnOk PP w K mg base (L2.CX PP w) 1 (He.ga K "_law_take") T.fd_law_take ["_law_box_here", "_law_size"] sp_take := by
  refine T.F_law_take.ok sc_law_take (fun vs H Q E h => ?_) (fun cdv A outer s H vs Q E hr h => ?_)
  · obtain ⟨b, c, n, rfl, _⟩ := h
    rfl
  · obtain ⟨b, c, n, rfl, hB, hn, hN, k⟩ := h
    have ne := hB.ne
    obtain ⟨cs, i, r, u, hb, hc, hl, hi, hrr, hu, hv⟩ := id hB
    refine ⟨_, (Evl.pss_cut (ps_if (PW.pt (pw_and (pt_cmpR op_lt (pe_ix (Cl.ixL K) (pv 0) pe_int (fun _ _ => rfl)) pe_int (nomark _)) (pw_and1 (pt_cmpR op_lt (pe_ix (Cl.ixL K) (pv 0) pe_int (fun _ _ => rfl)) (pe_callB (id := "len") (Cl.len K) (by rfl) T.n_len (by decide +kernel) (pa_cons (pe_ix (Cl.ixL K) (pv 0) pe_int (fun _ _ => rfl)) pa_nil)) (nomark _)))))
      (pss_cons (ps_set (i := 2) sc_law_take.nd rfl (by first | exact Or.inl rfl | exact Or.inr rfl) (pe_ix (Cl.ixL K) (pe_ix (Cl.ixL K) (pv 0) pe_int (fun _ _ => rfl)) (pe_ix (Cl.ixL K) (pv 0) pe_int (fun _ _ => rfl)) (fun _ _ => rfl)))
      (pss_cons (ps_asg (pe_op op_add (pe_ix (Cl.ixL K) (pv 0) pe_int (fun _ _ => rfl)) pe_int) (pg_sub (pv 0) pe_int set_list))
      (pss_one (ps_if (pt_cmpR op_ge (pv 2) (pe_op op_pow pe_int pe_int) (nomark _))
      (pss_one (ps_asg (pe_op op_sub (pv 2) (pe_op op_pow pe_int pe_int)) (pg_sub (pv 0) pe_int set_list)))
      (pss_one (ps_asg (pe_op op_mod (pe_callTy (T := "int") Cl.int1 (by rfl) T.n_int (by decide +kernel) (pa_cons (pe_op op_add (pe_op op_add (pe_op op_mul (pe_ix (Cl.ixL K) (pv 0) pe_int (fun _ _ => rfl)) pe_int) (pe_op op_mul (pv 2) pe_int)) pe_int) pa_nil)) pe_int) (pg_sub (pv 0) pe_int set_list)))))))
      pss_nil)
      (pss_cons (ps_if (pt_cmpR op_gt (pe_ix (Cl.ixL K) (pv 0) pe_int (fun _ _ => rfl)) pe_int (nomark _))
      (pss_cons (ps_set (i := 3) sc_law_take.nd rfl (by first | exact Or.inl rfl | exact Or.inr rfl) (pe_op op_mod (pe_callTy (T := "int") Cl.int1 (by rfl) T.n_int (by decide +kernel) (pa_cons (pe_ix (Cl.ixL K) (pv 0) pe_int (fun _ _ => rfl)) pa_nil)) (pv 1)))
      (pss_cons (ps_asg (pe_op op_fdivW (pe_ix (Cl.ixL K) (pv 0) pe_int (fun _ _ => rfl)) (pv 1)) (pg_sub (pv 0) pe_int set_list))
      (pss_one (ps_ret (pv 3)))))
      pss_nil)
      (pss_cons (ps_asg (pe_op op_mod (pe_callTy (T := "int") Cl.int1 (by rfl) T.n_int (by decide +kernel) (pa_cons (pe_op op_mul (pe_ix (Cl.ixL K) (pv 0) pe_int (fun _ _ => rfl)) pe_int) pa_nil)) pe_int) (pg_sub (pv 0) pe_int set_list))
      (pss_one (ps_ret (pe_op op_mod (pe_callTy (T := "int") Cl.int1 (by rfl) T.n_int (by decide +kernel) (pa_cons (pe_op op_fdivW (pe_ix (Cl.ixL K) (pv 0) pe_int (fun _ _ => rfl)) pe_int) pa_nil)) (pv 1))))))), ?_⟩
    refine ⟨fun σ' H' => ∃ (v : Option V) (o : HO), σ' = [some (.ref b), some (.int n), v, none] ∧ H' = upd H b o ∧ Bx H' b c, ?_, ?_⟩
    · have no : ∃ (v : Option V) (o : HO), ([some (.ref b), some (.int n), none, none] : L2.St) = [some (.ref b), some (.int n), v, none] ∧ H = upd H b o ∧ Bx H b c := ⟨none, _, rfl, (upd_id hb).symm, hB⟩
      refine ⟨_, rfl, _, _, _, _, rfl, rfl, SqL.of hb, rfl, _, _, rfl, rfl, _, rfl, ?_⟩
      refine ite2 (fun c1 => ?_) (fun c1 => ?_)
      · refine ⟨_, rfl, _, _, _, _, rfl, rfl, SqL.of hb, rfl, _, rfl, _, _, _, _, rfl, rfl, SqL.of hb, rfl, c, _, rfl, .inl (SqL.of hc), _, _, rfl, rfl, _, rfl, ?_⟩
        refine ite2 (fun c2 => ?_) (fun c2 => ?_)
        · have c2' := of_decide_eq_true c2
          rw [List.length_map] at c2'
          obtain ⟨z, hz⟩ := at_some hi c2'
          refine ⟨_, rfl, _, _, _, _, rfl, rfl, SqL.of hb, rfl, _, rfl, _, _, _, _, rfl, rfl, SqL.of hb, rfl, c, _, i, .int z, rfl, rfl, SqL.of hc, hz, ?_⟩
          refine ⟨_, rfl, _, _, _, _, rfl, rfl, SqL.of hb, rfl, _, _, rfl, rfl, _, rfl, b, _, _, 1, rfl, rfl, hb, rfl, ?_⟩
          refine ⟨_, rfl, 10, 18, rfl, rfl, ⟨by decide, by decide, by decide⟩, _, _, rfl, rfl, _, rfl, ?_⟩
          refine ite2 (fun c3 => ?_) (fun c3 => ?_)
          · have c3' := of_decide_eq_true c3
            refine ⟨_, rfl, 10, 18, rfl, rfl, ⟨by decide, by decide, by decide⟩, _, _, rfl, rfl, _, rfl, b, _, _, 2, rfl, rfl, upd_same, rfl, ?_⟩
            refine ⟨_, _, rfl, upd_upd, cs, i + 1, z - 10 ^ 18, u, by rw [upd_upd, upd_same]; rfl, by rw [upd_upd, upd_ne ne]; exact hc, hl, by omega, ?_, hu, hv⟩
            have c4 : (10 : Int) ^ (18 : Int).toNat ≤ z := c3'
            have e : (18 : Int).toNat = 18 := rfl
            rw [e] at c4
            omega
          · refine ⟨_, rfl, _, _, _, _, rfl, rfl, SqL.of upd_same, rfl, _, _, rfl, rfl, .inr ⟨by decide, by decide⟩, _, rfl, _, _, rfl, rfl, .inr ⟨by decide, by decide⟩, _, _, rfl, rfl, _, _, rfl, rfl, _, rfl, _, _, rfl, rfl, (by show (0 : Int) < 2147483647; decide), _, rfl, b, _, _, 3, rfl, rfl, upd_same, rfl, ?_⟩
            exact ⟨_, _, rfl, upd_upd, cs, i + 1, r, _, by rw [upd_upd, upd_same]; rfl, by rw [upd_upd, upd_ne ne]; exact hc, hl, by omega, hrr, Int.emod_nonneg _ (by decide), Int.emod_lt_of_pos _ (by decide)⟩
        · exact no
      · exact no
    · rintro σ' H' ⟨v, o, rfl, rfl, hB'⟩
      obtain ⟨cs, i, r, u, hb, hc, hl, hi, hrr, hu, hv⟩ := id hB'
      refine ⟨_, rfl, _, _, _, _, rfl, rfl, SqL.of hb, rfl, _, _, rfl, rfl, _, rfl, ?_⟩
      refine ite2 (fun c1 => ?_) (fun c1 => ?_)
      · refine ⟨_, rfl, _, _, _, _, rfl, rfl, SqL.of hb, rfl, _, rfl, _, rfl, _, _, rfl, rfl, hn, ?_⟩
        refine ⟨_, rfl, _, _, _, _, rfl, rfl, SqL.of hb, rfl, _, rfl, _, _, rfl, rfl, wide_div hn hN (by decide) (by decide), _, rfl, b, _, _, 2, rfl, rfl, hb, rfl, ?_⟩
        refine ⟨_, rfl, ?_⟩
        show Q (.int (r % n)) (upd (upd H b o) b _)
        rw [upd_upd]
        refine k _ _ (Int.emod_nonneg _ (by omega)) (Int.emod_lt_of_pos _ hn) ⟨cs, i, r / n, u, upd_same, ?_, hl, hi, Int.ediv_nonneg hrr (by omega), hu, hv⟩
        rw [upd_ne ne] at hc ⊢
        exact hc
      · refine ⟨_, rfl, _, _, _, _, rfl, rfl, SqL.of hb, rfl, _, _, rfl, rfl, .inr ⟨by decide, by decide⟩, _, rfl, _, _, rfl, rfl, (by show (0 : Int) < 2147483647; decide), _, rfl, b, _, _, 3, rfl, rfl, hb, rfl, ?_⟩
        refine ⟨_, rfl, _, _, _, _, rfl, rfl, SqL.of upd_same, rfl, _, _, rfl, rfl, wide_div (b := 30) (by decide) (by decide) (by decide) (by decide), _, rfl, _, rfl, _, _, rfl, rfl, hn, ?_⟩
        rw [upd_upd]
        refine k _ _ (Int.emod_nonneg _ (by omega)) (Int.emod_lt_of_pos _ hn) ⟨cs, i, r, _, upd_same, ?_, hl, hi, hrr, Int.emod_nonneg _ (by decide), Int.emod_lt_of_pos _ (by decide)⟩
        rw [upd_ne ne] at hc ⊢
        exact hc
theorem ok_law_number (T : Txt K mg) : FnOk PP w K mg base (L2.CX PP w) 1 (He.ga K "_law_number") T.fd_law_number ["_law_x"] (spOf K ds_law_number) := by
  exact okD (m := m_law_number) T.F_law_number sc_law_number hl_law_number hm_law_number (fun cdv A outer s H E hr => ⟨_, (pss_one (ps_ret (pe_and (pe_callB (id := "isinstance") (Cl.isi K) (by rfl) T.n_isinstance (by decide +kernel) (pa_cons (pv 0) (pa_cons (pe_bltn (v := .ty "int") (u := .type "int") (by rfl) T.n_int (by decide +kernel) rfl) pa_nil))) (pe_one (pe_not (pe_callB (id := "isinstance") (Cl.isi K) (by rfl) T.n_isinstance (by decide +kernel) (pa_cons (pv 0) (pa_cons (pe_bltn (v := .ty "bool") (u := .type "bool") (by rfl) T.n_bool (by decide +kernel) rfl) pa_nil)))))))), (zRet (eAndV (eIsi (T := .int) (eVar (i := 0))) (eNotV (eIsi (T := .bl) (eVar (i := 0))))))⟩)
theorem ok_law_classes (T : Txt K mg) : FnOk PP w K mg base (L2.CX PP w) 1 (He.ga K "_law_classes") T.fd_law_classes ["_law_error"] (spOf K ds_law_classes) := by
  exact okD (m := m_law_classes) T.F_law_classes sc_law_classes hl_law_classes hm_law_classes (fun cdv A outer s H E hr => ⟨_, (pss_cons (ps_set (i := 1) sc_law_classes.nd rfl (by first | exact Or.inl rfl | exact Or.inr rfl) (pe_lst pa_nil))
      (pss_cons (ps_expr (pe_bm PySem.F.plainAttrs_list PySem.F.slot_list_append PySem.F.type_list_append mt_append (pv 1) (pa_cons (pe_callB ExV.call_isV (by rfl) T.n_isinstance (by decide +kernel) (pa_cons (pv 0) (pa_cons (pe_glob (v := .ref (He.ga K "BadNumber")) (by rfl) T.m_BadNumber rfl) pa_nil))) pa_nil)))
      (pss_cons (ps_expr (pe_bm PySem.F.plainAttrs_list PySem.F.slot_list_append PySem.F.type_list_append mt_append (pv 1) (pa_cons (pe_callB ExV.call_isV (by rfl) T.n_isinstance (by decide +kernel) (pa_cons (pv 0) (pa_cons (pe_glob (v := .ref (He.ga K "BadName")) (by rfl) T.m_BadName rfl) pa_nil))) pa_nil)))
      (pss_cons (ps_expr (pe_bm PySem.F.plainAttrs_list PySem.F.slot_list_append PySem.F.type_list_append mt_append (pv 1) (pa_cons (pe_callB ExV.call_isV (by rfl) T.n_isinstance (by decide +kernel) (pa_cons (pv 0) (pa_cons (pe_glob (v := .ref (He.ga K "TakenName")) (by rfl) T.m_TakenName rfl) pa_nil))) pa_nil)))
      (pss_cons (ps_expr (pe_bm PySem.F.plainAttrs_list PySem.F.slot_list_append PySem.F.type_list_append mt_append (pv 1) (pa_cons (pe_callB ExV.call_isV (by rfl) T.n_isinstance (by decide +kernel) (pa_cons (pv 0) (pa_cons (pe_glob (v := .ref (He.ga K "UnknownName")) (by rfl) T.m_UnknownName rfl) pa_nil))) pa_nil)))
      (pss_cons (ps_expr (pe_bm PySem.F.plainAttrs_list PySem.F.slot_list_append PySem.F.type_list_append mt_append (pv 1) (pa_cons (pe_callB ExV.call_isV (by rfl) T.n_isinstance (by decide +kernel) (pa_cons (pv 0) (pa_cons (pe_glob (v := .ref (He.ga K "NoPlace")) (by rfl) T.m_NoPlace rfl) pa_nil))) pa_nil)))
      (pss_cons (ps_expr (pe_bm PySem.F.plainAttrs_list PySem.F.slot_list_append PySem.F.type_list_append mt_append (pv 1) (pa_cons (pe_callB ExV.call_isV (by rfl) T.n_isinstance (by decide +kernel) (pa_cons (pv 0) (pa_cons (pe_glob (v := .ref (He.ga K "TooMany")) (by rfl) T.m_TooMany rfl) pa_nil))) pa_nil)))
      (pss_cons (ps_expr (pe_bm PySem.F.plainAttrs_list PySem.F.slot_list_append PySem.F.type_list_append mt_append (pv 1) (pa_cons (pe_callB ExV.call_isV (by rfl) T.n_isinstance (by decide +kernel) (pa_cons (pv 0) (pa_cons (pe_glob (v := .ref (He.ga K "NoSite")) (by rfl) T.m_NoSite rfl) pa_nil))) pa_nil)))
      (pss_cons (ps_expr (pe_bm PySem.F.plainAttrs_list PySem.F.slot_list_append PySem.F.type_list_append mt_append (pv 1) (pa_cons (pe_callB ExV.call_isV (by rfl) T.n_isinstance (by decide +kernel) (pa_cons (pv 0) (pa_cons (pe_glob (v := .ref (He.ga K "NoShape")) (by rfl) T.m_NoShape rfl) pa_nil))) pa_nil)))
      (pss_cons (ps_expr (pe_bm PySem.F.plainAttrs_list PySem.F.slot_list_append PySem.F.type_list_append mt_append (pv 1) (pa_cons (pe_callB ExV.call_isV (by rfl) T.n_isinstance (by decide +kernel) (pa_cons (pv 0) (pa_cons (pe_glob (v := .ref (He.ga K "BadState")) (by rfl) T.m_BadState rfl) pa_nil))) pa_nil)))
      (pss_cons (ps_expr (pe_bm PySem.F.plainAttrs_list PySem.F.slot_list_append PySem.F.type_list_append mt_append (pv 1) (pa_cons (pe_callB ExV.call_isV (by rfl) T.n_isinstance (by decide +kernel) (pa_cons (pv 0) (pa_cons (pe_glob (v := .ref (He.ga K "BadLine")) (by rfl) T.m_BadLine rfl) pa_nil))) pa_nil)))
      (pss_cons (ps_expr (pe_bm PySem.F.plainAttrs_list PySem.F.slot_list_append PySem.F.type_list_append mt_append (pv 1) (pa_cons (pe_callB ExV.call_isV (by rfl) T.n_isinstance (by decide +kernel) (pa_cons (pv 0) (pa_cons (pe_glob (v := .ref (He.ga K "DeedFailed")) (by rfl) T.m_DeedFailed rfl) pa_nil))) pa_nil)))
      (pss_cons (ps_expr (pe_bm PySem.F.plainAttrs_list PySem.F.slot_list_append PySem.F.type_list_append mt_append (pv 1) (pa_cons (pe_callB ExV.call_isV (by rfl) T.n_isinstance (by decide +kernel) (pa_cons (pv 0) (pa_cons (pe_glob (v := .ref (He.ga K "OtherSite")) (by rfl) T.m_OtherSite rfl) pa_nil))) pa_nil)))
      (pss_cons (ps_expr (pe_bm PySem.F.plainAttrs_list PySem.F.slot_list_append PySem.F.type_list_append mt_append (pv 1) (pa_cons (pe_callB ExV.call_isV (by rfl) T.n_isinstance (by decide +kernel) (pa_cons (pv 0) (pa_cons (pe_glob (v := .ref (He.ga K "NothingToUndo")) (by rfl) T.m_NothingToUndo rfl) pa_nil))) pa_nil)))
      (pss_cons (ps_expr (pe_bm PySem.F.plainAttrs_list PySem.F.slot_list_append PySem.F.type_list_append mt_append (pv 1) (pa_cons (pe_callB ExV.call_isV (by rfl) T.n_isinstance (by decide +kernel) (pa_cons (pv 0) (pa_cons (pe_glob (v := .ref (He.ga K "NothingToRedo")) (by rfl) T.m_NothingToRedo rfl) pa_nil))) pa_nil)))
      (pss_one (ps_ret (pe_lc (own := [("_law_k", 2)]) rfl sc_law_classes.nd (pi_range1 (by rfl) T.n_range (pa_cons (pe_callB (id := "len") (Cl.len K) (by rfl) T.n_len (by decide +kernel) (pa_cons (pv 1) pa_nil)) pa_nil)) (blkOk_by (N := ["_law_error", "_law_found", "_law_k"]) (sc := defScope s_law_classes) (by decide +kernel)) (fun _ _ _ _ _ => (pg_name (i := 2) sc_law_classes.nd rfl (by first | exact Or.inl rfl | exact Or.inr rfl))) (fun _ _ _ _ _ => (pts_one (pt_val (pe_ix (Cl.ixL K) (pv 1) (pv 2) (fun _ _ => rfl))))) (fun _ _ _ _ _ => (pv 2)))))))))))))))))))), (zSeq (zAsg (eLst aNil) (gNm (i := 1)))
      (zSeq (zDrop (eApp (i := 1) (eIsE T.xo_BadNumber_o (fun u r => by cases r; rfl) (eVar (i := 0)))))
      (zSeq (zDrop (eApp (i := 1) (eIsE T.xo_BadName_o (fun u r => by cases r; rfl) (eVar (i := 0)))))
      (zSeq (zDrop (eApp (i := 1) (eIsE T.xo_TakenName_o (fun u r => by cases r; rfl) (eVar (i := 0)))))
      (zSeq (zDrop (eApp (i := 1) (eIsE T.xo_UnknownName_o (fun u r => by cases r; rfl) (eVar (i := 0)))))
      (zSeq (zDrop (eApp (i := 1) (eIsE T.xo_NoPlace_o (fun u r => by cases r; rfl) (eVar (i := 0)))))
      (zSeq (zDrop (eApp (i := 1) (eIsE T.xo_TooMany_o (fun u r => by cases r; rfl) (eVar (i := 0)))))
      (zSeq (zDrop (eApp (i := 1) (eIsE T.xo_NoSite_o (fun u r => by cases r; rfl) (eVar (i := 0)))))
      (zSeq (zDrop (eApp (i := 1) (eIsE T.xo_NoShape_o (fun u r => by cases r; rfl) (eVar (i := 0)))))
      (zSeq (zDrop (eApp (i := 1) (eIsE T.xo_BadState_o (fun u r => by cases r; rfl) (eVar (i := 0)))))
      (zSeq (zDrop (eApp (i := 1) (eIsE T.xo_BadLine_o (fun u r => by cases r; rfl) (eVar (i := 0)))))
      (zSeq (zDrop (eApp (i := 1) (eIsE T.xo_DeedFailed_o (fun u r => by cases r; rfl) (eVar (i := 0)))))
      (zSeq (zDrop (eApp (i := 1) (eIsE T.xo_OtherSite_o (fun u r => by cases r; rfl) (eVar (i := 0)))))
      (zSeq (zDrop (eApp (i := 1) (eIsE T.xo_NothingToUndo_o (fun u r => by cases r; rfl) (eVar (i := 0)))))
      (zSeq (zDrop (eApp (i := 1) (eIsE T.xo_NothingToRedo_o (fun u r => by cases r; rfl) (eVar (i := 0)))))
      (zRet (eLc0 (wR1 (eBor (eCB1 c_len (eVar (i := 1))))) (gw_name (by decide)) gm_name (gNm (i := 2)) (tBor (tVal (eOp r_ixL (eVar (i := 1)) (eVar (i := 2))))) (eVar (i := 2)))))))))))))))))))⟩)
theorem ok_law_based (T : Txt K mg) : FnOk PP w K mg base (L2.CX PP w) 2 (He.ga K "_law_based") T.fd_law_based ["_law_errors"] (spOf K ds_law_based) := by
  have G_law_classes_1 : FnR PP w K mg base (L2.CX PP w) _ _ _ := (ok_law_classes T).raw (b_law_classes_1 T).2 (b_law_classes_1 T).1
  exact okD (m := m_law_based) T.F_law_based sc_law_based hl_law_based hm_law_based (fun cdv A outer s H E hr => ⟨_, (pss_cons (ps_for (passes_of rfl) rfl (pi_range1 (by rfl) T.n_range (pa_cons (pe_callB (id := "len") (Cl.len K) (by rfl) T.n_len (by decide +kernel) (pa_cons (pv 0) pa_nil)) pa_nil)) (pg_name (i := 1) sc_law_based.nd rfl (by first | exact Or.inl rfl | exact Or.inr rfl))
      (pss_cons (ps_set (i := 2) sc_law_based.nd rfl (by first | exact Or.inl rfl | exact Or.inr rfl) (pe_ix (Cl.ixL K) (pv 0) (pv 1) (fun _ _ => rfl)))
      (pss_cons (ps_if (PW.pt (pw_or (pt_not (pt_val (pe_callB ExV.call_isV (by rfl) T.n_isinstance (by decide +kernel) (pa_cons (pv 2) (pa_cons (pe_glob (v := .ref (He.ga K "LadderError")) (by rfl) T.m_LadderError rfl) pa_nil))))) (pw_or1 (pt_not (pt_val (pe_callB ExV.call_isV (by rfl) T.n_isinstance (by decide +kernel) (pa_cons (pv 2) (pa_cons (pe_bltn (v := .ty "ValueError") (u := .type "ValueError") (by rfl) T.n_ValueError (by decide +kernel) rfl) pa_nil))))))))
      (pss_one (ps_ret pe_bl))
      pss_nil)
      (pss_one (ps_if (pt_cmpR (Cl.neD K hr.units) (Cl.pe_f G_law_classes_1 (hr.mono (by decide)) (by rfl) T.m__law_classes T.F_law_classes.kp (fun σ => Cl.at_ (takes_of rfl rfl rfl rfl) σ) (pa_cons (pv 2) pa_nil)) (pe_lst (pa_cons (pv 1) pa_nil)) (nomark _))
      (pss_one (ps_ret pe_bl))
      pss_nil)))))
      (pss_one (ps_ret pe_bl))), (zSeq (zFor (m := m_law_based_L1) (wR1 (eCB1 c_len (eVar (i := 0)))) (gNm (i := 1))
      (zSeq (zAsg (eOp r_ixL (eVar (i := 0)) (eVar (i := 1))) (gNm (i := 2)))
      (zSeq (zIf (tOr' (tNot' (tVal (eIsE T.xo_LadderError_o (fun u r => by cases r; rfl) (eVar (i := 2))))) (tNot' (tVal (eIsE T.xo_ValueError_o (fun u r => by cases r; rfl) (eVar (i := 2))))))
      (zRet eC)
      zNext)
      (zIf (tTest' (eOp r_neD (eFz (eCall (bCons (eVar (i := 2)) bNil) (fun _ => .nil))) (eFz (eLst (aCons (eVar (i := 1)) aNil)))))
      (zRet eC)
      zNext))))
      (zRet eC))⟩)
theorem ok_law (T : Txt K mg) : FnOk PP w K mg base (L2.CX PP w) 3 (He.ga K "law") T.fd_law ["_law_script"] (spOf K ds_law) := by
  have G_law_based_1 : FnR PP w K mg base (L2.CX PP w) _ _ _ := (ok_law_based T).raw (b_law_based_1 T).2 (b_law_based_1 T).1
  have G_law_box_1 : FnR PP w K mg base (L2.CX PP w) _ _ _ := (ok_law_box T).raw (b_law_box_1 T).2 (b_law_box_1 T).1
  have G_law_number_1 : FnR PP w K mg base (L2.CX PP w) _ _ _ := (ok_law_number T).raw (b_law_number_1 T).2 (b_law_number_1 T).1
  have G_law_take_2 : FnR PP w K mg base (L2.CX PP w) _ _ _ := (ok_law_take T).raw (b_law_take_2 T).2 (b_law_take_2 T).1
  exact okD (m := m_law) T.F_law sc_law hl_law hm_law (fun cdv A outer s H E hr => ⟨_, (pss_cons (ps_set (i := 1) sc_law.nd rfl (by first | exact Or.inl rfl | exact Or.inr rfl) (Cl.pe_f G_law_box_1 (hr.mono (by decide)) (by rfl) T.m__law_box T.F_law_box.kp (fun σ => Cl.at_ (takes_of rfl rfl rfl rfl) σ) (pa_cons (pv 0) pa_nil)))
      (pss_cons (ps_set (i := 2) sc_law.nd rfl (by first | exact Or.inl rfl | exact Or.inr rfl) (pe_op op_sub (Cl.pe_f G_law_take_2 (hr.mono (by decide)) (by rfl) T.m__law_take T.F_law_take.kp (fun σ => Cl.at_ (takes_of rfl rfl rfl rfl) σ) (pa_cons (pv 1) (pa_cons (pe_op op_pow pe_int pe_int) pa_nil))) (Cl.pe_f G_law_take_2 (hr.mono (by decide)) (by rfl) T.m__law_take T.F_law_take.kp (fun σ => Cl.at_ (takes_of rfl rfl rfl rfl) σ) (pa_cons (pv 1) (pa_cons (pe_op op_pow pe_int pe_int) pa_nil)))))
      (pss_cons (ps_set (i := 4) sc_law.nd rfl (by first | exact Or.inl rfl | exact Or.inr rfl) (TxB.peJoin K pe_str (pe_lc (own := [("_law_k", 3)]) rfl sc_law.nd (pi_range1 (by rfl) T.n_range (pa_cons (Cl.pe_f G_law_take_2 (hr.mono (by decide)) (by rfl) T.m__law_take T.F_law_take.kp (fun σ => Cl.at_ (takes_of rfl rfl rfl rfl) σ) (pa_cons (pv 1) (pa_cons pe_int pa_nil))) pa_nil)) (blkOk_by (N := ["_law_script", "_law_box_here", "_law_value", "_law_k", "_law_name", "_law_ring", "_law_blames", "_law_passed", "_law_errors", "_law_numbers", "_law_number_here", "_law_names", "_law_word"]) (sc := defScope s_law) (by decide +kernel)) (fun _ _ _ _ _ => (pg_name (i := 3) sc_law.nd rfl (by first | exact Or.inl rfl | exact Or.inr rfl))) (fun _ _ _ _ _ => pts_nil) (fun _ _ _ _ _ => (pe_ix ix_str pe_str (Cl.pe_f G_law_take_2 (hr.mono (by decide)) (by rfl) T.m__law_take T.F_law_take.kp (E := fun _ _ _ _ => False) (fun σ => Cl.none_ σ) (pa_cons (pv 1) (pa_cons pe_int pa_nil))) (fun _ _ => rfl))))))
      (pss_cons (ps_setLc (i := 5) (own := [("_law_k", 3)]) rfl sc_law.nd rfl rfl (sw_true rfl rfl rfl (by decide +kernel)) (pi_range1 (by rfl) T.n_range (pa_cons (Cl.pe_f G_law_take_2 (hr.mono (by decide)) (by rfl) T.m__law_take T.F_law_take.kp (fun σ => Cl.at_ (takes_of rfl rfl rfl rfl) σ) (pa_cons (pv 1) (pa_cons pe_int pa_nil))) pa_nil)) (blkOk_by (N := ["_law_script", "_law_box_here", "_law_value", "_law_k", "_law_name", "_law_ring", "_law_blames", "_law_passed", "_law_errors", "_law_numbers", "_law_number_here", "_law_names", "_law_word"]) (sc := defScope s_law) (by decide +kernel)) (fun _ _ _ _ _ => (pg_name (i := 3) sc_law.nd rfl (by first | exact Or.inl rfl | exact Or.inr rfl))) (fun _ _ _ _ _ => pts_nil) (fun _ _ _ _ _ => (pe_op op_sub (Cl.pe_f G_law_take_2 (hr.mono (by decide)) (by rfl) T.m__law_take T.F_law_take.kp (E := fun _ _ _ _ => False) (fun σ => Cl.none_ σ) (pa_cons (pv 1) (pa_cons pe_int pa_nil))) pe_int)))
      (pss_cons (ps_setLc (i := 6) (own := [("_law_k", 3)]) rfl sc_law.nd rfl rfl (sw_true rfl rfl rfl (by decide +kernel)) (pi_range1 (by rfl) T.n_range (pa_cons (Cl.pe_f G_law_take_2 (hr.mono (by decide)) (by rfl) T.m__law_take T.F_law_take.kp (fun σ => Cl.at_ (takes_of rfl rfl rfl rfl) σ) (pa_cons (pv 1) (pa_cons pe_int pa_nil))) pa_nil)) (blkOk_by (N := ["_law_script", "_law_box_here", "_law_value", "_law_k", "_law_name", "_law_ring", "_law_blames", "_law_passed", "_law_errors", "_law_numbers", "_law_number_here", "_law_names", "_law_word"]) (sc := defScope s_law) (by decide +kernel)) (fun _ _ _ _ _ => (pg_name (i := 3) sc_law.nd rfl (by first | exact Or.inl rfl | exact Or.inr rfl))) (fun _ _ _ _ _ => pts_nil) (fun _ _ _ _ _ => (pe_tup (pa_cons (Cl.pe_f G_law_take_2 (hr.mono (by decide)) (by rfl) T.m__law_take T.F_law_take.kp (E := fun _ _ _ _ => False) (fun σ => Cl.none_ σ) (pa_cons (pv 1) (pa_cons pe_int pa_nil))) pa_nil))))
      (pss_cons (ps_set (i := 7) sc_law.nd rfl (by first | exact Or.inl rfl | exact Or.inr rfl) (pe_lst (pa_cons (pe_callTy (T := "list") (Cl.listOf K) (by rfl) T.n_list (by decide +kernel) (pa_cons (pv 5) pa_nil)) (pa_cons (pe_callTy (T := "list") (Cl.listOf K) (by rfl) T.n_list (by decide +kernel) (pa_cons (pv 6) pa_nil)) pa_nil))))
      (pss_cons (ps_set (i := 8) sc_law.nd rfl (by first | exact Or.inl rfl | exact Or.inr rfl) (pe_lst (pa_cons (ExV.pe_errV T.er_BadNumber T.m_BadNumber T.n_super hr (pa_cons (pv 2) pa_nil)) (pa_cons (ExV.pe_errV T.er_BadName T.m_BadName T.n_super hr (pa_cons (pv 4) pa_nil)) (pa_cons (ExV.pe_errV T.er_TakenName T.m_TakenName T.n_super hr (pa_cons (pv 4) pa_nil)) (pa_cons (ExV.pe_errV T.er_UnknownName T.m_UnknownName T.n_super hr (pa_cons (pv 4) pa_nil)) (pa_cons (ExV.pe_errV T.er_NoPlace T.m_NoPlace T.n_super hr (pa_cons (pv 2) pa_nil)) pa_nil)))))))
      (pss_cons (ps_set (i := 8) sc_law.nd rfl (by first | exact Or.inl rfl | exact Or.inr rfl) (pe_op op_cat (pv 8) (pe_lst (pa_cons (ExV.pe_errV T.er_TooMany T.m_TooMany T.n_super hr (pa_cons (pv 2) pa_nil)) (pa_cons (ExV.pe_errVL (K := K) rfl T.er_NoSite T.m_NoSite T.n_super T.n_list hr (pa_cons (pe_ix (Cl.ixL K) (pv 7) pe_int (fun _ _ => rfl)) pa_nil)) (pa_cons (ExV.pe_errVL (K := K) rfl T.er_NoShape T.m_NoShape T.n_super T.n_list hr (pa_cons (pe_ix (Cl.ixL K) (pv 7) pe_int (fun _ _ => rfl)) pa_nil)) (pa_cons (ExV.pe_errV T.er_BadState T.m_BadState T.n_super hr (pa_cons (pv 4) pa_nil)) pa_nil)))))))
      (pss_cons (ps_set (i := 8) sc_law.nd rfl (by first | exact Or.inl rfl | exact Or.inr rfl) (pe_op op_cat (pv 8) (pe_lst (pa_cons (ExV.pe_errV T.er_BadLine T.m_BadLine T.n_super hr (pa_cons (pv 2) pa_nil)) (pa_cons (ExV.pe_errV T.er_DeedFailed T.m_DeedFailed T.n_super hr (pa_cons (pv 2) pa_nil)) (pa_cons (ExV.pe_errV0 T.ob_OtherSite T.m_OtherSite) (pa_cons (ExV.pe_errV0 T.ob_NothingToUndo T.m_NothingToUndo) (pa_cons (ExV.pe_errV0 T.ob_NothingToRedo T.m_NothingToRedo) pa_nil))))))))
      (pss_cons (ps_expr (pe_bm PySem.F.plainAttrs_list PySem.F.slot_list_append PySem.F.type_list_append mt_append (pe_ix (Cl.ixL K) (pv 7) pe_int (fun _ _ => rfl)) (pa_cons pe_int pa_nil)))
      (pss_cons (ps_expr (pe_bm0 PySem.F.plainAttrs_list PySem.F.slot_list_clear PySem.F.type_list_clear mt_clear (pe_ix (Cl.ixL K) (pv 7) pe_int (fun _ _ => rfl))))
      (pss_cons (ps_if (pt_not (pt_val (Cl.pe_f G_law_based_1 (hr.mono (by decide)) (by rfl) T.m__law_based T.F_law_based.kp (fun σ => Cl.at_ (takes_of rfl rfl rfl rfl) σ) (pa_cons (pv 8) pa_nil))))
      (pss_one (ps_ret pe_bl))
      pss_nil)
      (pss_cons (ps_set (i := 9) sc_law.nd rfl (by first | exact Or.inl rfl | exact Or.inr rfl) (pe_lst (pa_cons (ExV.pe_xfV K (pe_ix (Cl.ixL K) (pv 8) pe_int (fun _ _ => rfl))) (pa_cons (ExV.pe_xfV K (pe_ix (Cl.ixL K) (pv 8) pe_int (fun _ _ => rfl))) (pa_cons (ExV.pe_xfV K (pe_ix (Cl.ixL K) (pv 8) pe_int (fun _ _ => rfl))) (pa_cons (ExV.pe_xfV K (pe_ix (Cl.ixL K) (pv 8) pe_int (fun _ _ => rfl))) (pa_cons (ExV.pe_xfV K (pe_ix (Cl.ixL K) (pv 8) pe_int (fun _ _ => rfl))) pa_nil)))))))
      (pss_cons (ps_if (pt_cmpR op_gt (pe_callB (id := "len") (Cl.len K) (by rfl) T.n_len (by decide +kernel) (pa_cons (pe_lc (own := [("_law_number_here", 10)]) rfl sc_law.nd (Cl.piL K (pv 9)) (blkOk_by (N := ["_law_script", "_law_box_here", "_law_value", "_law_k", "_law_name", "_law_ring", "_law_blames", "_law_passed", "_law_errors", "_law_numbers", "_law_number_here", "_law_names", "_law_word"]) (sc := defScope s_law) (by decide +kernel)) (fun _ _ _ _ _ => (pg_name (i := 10) sc_law.nd rfl (by first | exact Or.inl rfl | exact Or.inr rfl))) (fun _ _ _ _ _ => (pts_one (PW.pt (pw_or (pt_not (pt_val (Cl.pe_f G_law_number_1 (hr.mono (by decide)) (by rfl) T.m__law_number T.F_law_number.kp (E := fun _ _ _ _ => False) (fun σ => Cl.none_ σ) (pa_cons (pv 10) pa_nil)))) (pw_or1 (pt_cmpR op_ne (pv 10) (pv 2) (nomark _))))))) (fun _ _ _ _ _ => (pv 10))) pa_nil)) pe_int (nomark _))
      (pss_one (ps_ret pe_bl))
      pss_nil)
      (pss_cons (ps_set (i := 11) sc_law.nd rfl (by first | exact Or.inl rfl | exact Or.inr rfl) (pe_lst (pa_cons (ExV.pe_xfV K (pe_ix (Cl.ixL K) (pv 8) pe_int (fun _ _ => rfl))) (pa_cons (ExV.pe_xfV K (pe_ix (Cl.ixL K) (pv 8) pe_int (fun _ _ => rfl))) (pa_cons (ExV.pe_xfV K (pe_ix (Cl.ixL K) (pv 8) pe_int (fun _ _ => rfl))) (pa_cons (ExV.pe_xfV K (pe_ix (Cl.ixL K) (pv 8) pe_int (fun _ _ => rfl))) pa_nil))))))
      (pss_cons (ps_if (pt_cmpR op_gt (pe_callB (id := "len") (Cl.len K) (by rfl) T.n_len (by decide +kernel) (pa_cons (pe_lc (own := [("_law_word", 12)]) rfl sc_law.nd (Cl.piL K (pv 11)) (blkOk_by (N := ["_law_script", "_law_box_here", "_law_value", "_law_k", "_law_name", "_law_ring", "_law_blames", "_law_passed", "_law_errors", "_law_numbers", "_law_number_here", "_law_names", "_law_word"]) (sc := defScope s_law) (by decide +kernel)) (fun _ _ _ _ _ => (pg_name (i := 12) sc_law.nd rfl (by first | exact Or.inl rfl | exact Or.inr rfl))) (fun _ _ _ _ _ => (pts_one (PW.pt (pw_or (pt_not (pt_val (pe_callB (id := "isinstance") (Cl.isi K) (by rfl) T.n_isinstance (by decide +kernel) (pa_cons (pv 12) (pa_cons (pe_bltn (v := .ty "str") (u := .type "str") (by rfl) T.n_str (by decide +kernel) rfl) pa_nil))))) (pw_or1 (pt_cmpR op_ne (pv 12) (pv 4) (nomark _))))))) (fun _ _ _ _ _ => (pv 12))) pa_nil)) pe_int (nomark _))
      (pss_one (ps_ret pe_bl))
      pss_nil)
      (pss_cons (ps_if (PW.pt (pw_or (pt_not (pt_val (pe_callB (id := "isinstance") (Cl.isi K) (by rfl) T.n_isinstance (by decide +kernel) (pa_cons (ExV.pe_xfV K (pe_ix (Cl.ixL K) (pv 8) pe_int (fun _ _ => rfl))) (pa_cons (pe_bltn (v := .ty "list") (u := .type "list") (by rfl) T.n_list (by decide +kernel) rfl) pa_nil))))) (pw_or1 (pt_not (pt_val (pe_callB (id := "isinstance") (Cl.isi K) (by rfl) T.n_isinstance (by decide +kernel) (pa_cons (ExV.pe_xfV K (pe_ix (Cl.ixL K) (pv 8) pe_int (fun _ _ => rfl))) (pa_cons (pe_bltn (v := .ty "list") (u := .type "list") (by rfl) T.n_list (by decide +kernel) rfl) pa_nil))))))))
      (pss_one (ps_ret pe_bl))
      pss_nil)
      (pss_one (ps_ret (pe_and (pe_cmpR (Cl.eqD K hr.units) (ExV.pe_xfV K (pe_ix (Cl.ixL K) (pv 8) pe_int (fun _ _ => rfl))) (pv 5) (nomark _)) (pe_one (pe_cmpR (Cl.eqD K hr.units) (ExV.pe_xfV K (pe_ix (Cl.ixL K) (pv 8) pe_int (fun _ _ => rfl))) (pv 6) (nomark _))))))))))))))))))))))), (zSeq (zAsg (eBox (eVar (i := 0))) (gNm (i := 1)))
      (zSeq (zAsg (eOp r_sub (eTake (i := 1) (ePow (a := 10) (b := 30) (n := 1000000000000000000000000000000) ⟨by decide, by decide, by decide⟩ (by decide +kernel))) (eTake (i := 1) (ePow (a := 10) (b := 30) (n := 1000000000000000000000000000000) ⟨by decide, by decide, by decide⟩ (by decide +kernel)))) (gNm (i := 2)))
      (zSeq (zAsg (eJoin eC (eFz (eLc0 (wR1 (eTake (i := 1) eC)) (gw_name (by decide)) gm_name (gNm (i := 3)) tYes' (eOp r_ixS eC (eTake (i := 1) eC))))) (gNm (i := 4)))
      (zSeq (zAsg (eFz (eLc0 (wR1 (eTake (i := 1) eC)) (gw_name (by decide)) gm_name (gNm (i := 3)) tYes' (eOp r_sub (eTake (i := 1) eC) eC))) (gNm (i := 5)))
      (zSeq (zAsg (eFz (eLc0 (wR1 (eTake (i := 1) eC)) (gw_name (by decide)) gm_name (gNm (i := 3)) tYes' (eTup (aCons (eTake (i := 1) eC) aNil)))) (gNm (i := 6)))
      (zSeq (zAsg (eLstO (z := .ol .fr) (aCons (eCB1 c_list (eVar (i := 5))) (aCons (eCB1 c_list (eVar (i := 6))) aNil))) (gNm (i := 7)))
      (zSeq (zAsg (eFz (eLst (aCons (eFz (eMkV (c := 0) (eVar (i := 2)))) (aCons (eFz (eMkV (c := 1) (eVar (i := 4)))) (aCons (eFz (eMkV (c := 2) (eVar (i := 4)))) (aCons (eFz (eMkV (c := 3) (eVar (i := 4)))) (aCons (eFz (eMkV (c := 4) (eVar (i := 2)))) aNil))))))) (gNm (i := 8)))
      (zSeq (zAsg (eFz (eOp r_cat (eVar (i := 8)) (eFz (eLst (aCons (eFz (eMkV (c := 5) (eVar (i := 2)))) (aCons (eFz (eMkV (c := 6) (eFz (eBorN (eCB1 c_list (eOp r_ixL (eVar (i := 7)) eC)))))) (aCons (eFz (eMkV (c := 7) (eFz (eBorN (eCB1 c_list (eOp r_ixL (eVar (i := 7)) eC)))))) (aCons (eFz (eMkV (c := 8) (eVar (i := 4)))) aNil)))))))) (gNm (i := 8)))
      (zSeq (zAsg (eFz (eOp r_cat (eVar (i := 8)) (eFz (eLst (aCons (eFz (eMkV (c := 9) (eVar (i := 2)))) (aCons (eFz (eMkV (c := 10) (eVar (i := 2)))) (aCons (eFz (eMkV0 (c := 11))) (aCons (eFz (eMkV0 (c := 12))) (aCons (eFz (eMkV0 (c := 13))) aNil))))))))) (gNm (i := 8)))
      (zSeq (zDrop (eAppP (i := 7) (pl_idx (j := 0) pl_var) grow_C eC))
      (zSeq (zDrop (eClrP (i := 7) (pl_idx (j := 1) pl_var)))
      (zSeq (zIf (tNot' (tVal (eCall (bCons (eVar (i := 8)) bNil) (fun _ => .nil))))
      (zRet eC)
      zNext)
      (zSeq (zAsg (eFz (eLst (aCons (eXfV T.xv_value_o (eOp r_ixL (eVar (i := 8)) eC)) (aCons (eXfV T.xv_place_o (eOp r_ixL (eVar (i := 8)) eC)) (aCons (eXfV T.xv_count_o (eOp r_ixL (eVar (i := 8)) eC)) (aCons (eXfV T.xv_line_o (eOp r_ixL (eVar (i := 8)) eC)) (aCons (eXfV T.xv_row_o (eOp r_ixL (eVar (i := 8)) eC)) aNil))))))) (gNm (i := 9)))
      (zSeq (zIf (tTest' (eOp r_gt (eCB1 c_len (eFz (eLc0 (wList (eVar (i := 9))) (gw_name (by decide)) gm_name (gNm (i := 10)) (tOr' (tNot' (tVal (eCall (bCons (eVar (i := 10)) bNil) (fun _ => .nil)))) (tTest' (eOp r_ne (eVar (i := 10)) (eVar (i := 2))))) (eVar (i := 10))))) eC))
      (zRet eC)
      zNext)
      (zSeq (zAsg (eFz (eLst (aCons (eXfV T.xv_name_o (eOp r_ixL (eVar (i := 8)) eC)) (aCons (eXfV T.xv_name_o (eOp r_ixL (eVar (i := 8)) eC)) (aCons (eXfV T.xv_name_o (eOp r_ixL (eVar (i := 8)) eC)) (aCons (eXfV T.xv_state_o (eOp r_ixL (eVar (i := 8)) eC)) aNil)))))) (gNm (i := 11)))
      (zSeq (zIf (tTest' (eOp r_gt (eCB1 c_len (eFz (eLc0 (wList (eVar (i := 11))) (gw_name (by decide)) gm_name (gNm (i := 12)) (tOr' (tNot' (tVal (eIsi (T := .str) (eVar (i := 12))))) (tTest' (eOp r_ne (eVar (i := 12)) (eVar (i := 4))))) (eVar (i := 12))))) eC))
      (zRet eC)
      zNext)
      (zSeq (zIf (tOr' (tNot' (tVal (eIsi (T := .lst) (eXfV T.xv_ring_o (eOp r_ixL (eVar (i := 8)) eC))))) (tNot' (tVal (eIsi (T := .lst) (eXfV T.xv_blames_o (eOp r_ixL (eVar (i := 8)) eC))))))
      (zRet eC)
      zNext)
      (zRet (eAndV (eOp r_eqD (eXfV T.xv_ring_o (eOp r_ixL (eVar (i := 8)) eC)) (eVar (i := 5))) (eOp r_eqD (eXfV T.xv_blames_o (eOp r_ixL (eVar (i := 8)) eC)) (eVar (i := 6))))))))))))))))))))))⟩)
def sp_law (K : PySem.W.Frag) : Sp := fun vs H Q _ => ∃ (a : Addr) (ns : List Int), vs = [.ref a] ∧ SqL K H a (ns.map V.int) ∧ ns.length ≤ 63 ∧ ∀ H', Q (.bl true) H'
theorem ok_law0 (T : Txt K mg) : FnOk PP w K mg base CX0 3 (He.ga K "law") T.fd_law ["_law_script"] (sp_law K) := fn_calm ((ok_law T).imp fun vs H Q E h => by
  obtain ⟨a, ns, rfl, hS, hl, k⟩ := h
  refine ⟨H, [.sh .scr], [], Le.rfl, .cons (f := []) (.sh (.scr hS)) .nil, List.nodup_nil, fun a ha => (by cases ha), ds_law.mono (fun r as' e v H' hr => ?_) (fun _ _ z => z.elim) law_true⟩
  subst e
  obtain rfl := hr.topv (u := .bl true) rfl
  exact k H') fun _ _ _ _ h => h
end
theorem facts {K : PySem.W.Frag} {h : Heap} {mg : Str → Option Value} (X : K.In h) (G : h.Ns mainGlobals mg) (c : Hd.SaysP fnL erL exL K) : Nonempty (Txt K mg) := by
  have c0 : ((faL.all fun f => f.ok K) && (Hd.errB PP K "BadNumber" "value" "BadNumber.__init__" && (Hd.errB PP K "BadName" "name" "BadName.__init__" && (Hd.errB PP K "TakenName" "name" "TakenName.__init__" && (Hd.errB PP K "UnknownName" "name" "UnknownName.__init__" && (Hd.errB PP K "NoPlace" "place" "NoPlace.__init__" && (Hd.errB PP K "TooMany" "count" "TooMany.__init__" && (Hd.errB PP K "NoSite" "ring" "NoSite.__init__" && (Hd.errB PP K "NoShape" "blames" "NoShape.__init__" && (Hd.errB PP K "BadState" "state" "BadState.__init__" && (Hd.errB PP K "BadLine" "line" "BadLine.__init__" && (Hd.errB PP K "DeedFailed" "row" "DeedFailed.__init__" && (BareX.ownEB K (He.ga K "OtherSite") && (BareX.ownEB K (He.ga K "NothingToUndo") && (BareX.ownEB K (He.ga K "NothingToRedo") && (excB K (He.ga K "BadNumber") && (excB K (He.ga K "BadName") && (excB K (He.ga K "TakenName") && (excB K (He.ga K "UnknownName") && (excB K (He.ga K "NoPlace") && (excB K (He.ga K "TooMany") && (excB K (He.ga K "NoSite") && (excB K (He.ga K "NoShape") && (excB K (He.ga K "BadState") && (excB K (He.ga K "BadLine") && (excB K (He.ga K "DeedFailed") && (excB K (He.ga K "OtherSite") && (excB K (He.ga K "NothingToUndo") && (excB K (He.ga K "NothingToRedo") && (decide (PySem.W.kitOne K (.ref (He.ga K "BadNumber")) (.ref (He.ga K "BadNumber")) = some true) && (decide (PySem.W.kitOne K (.ref (He.ga K "BadName")) (.ref (He.ga K "BadNumber")) = some false) && (decide (PySem.W.kitOne K (.ref (He.ga K "TakenName")) (.ref (He.ga K "BadNumber")) = some false) && (decide (PySem.W.kitOne K (.ref (He.ga K "UnknownName")) (.ref (He.ga K "BadNumber")) = some false) && (decide (PySem.W.kitOne K (.ref (He.ga K "NoPlace")) (.ref (He.ga K "BadNumber")) = some false) && (decide (PySem.W.kitOne K (.ref (He.ga K "TooMany")) (.ref (He.ga K "BadNumber")) = some false) && (decide (PySem.W.kitOne K (.ref (He.ga K "NoSite")) (.ref (He.ga K "BadNumber")) = some false) && (decide (PySem.W.kitOne K (.ref (He.ga K "NoShape")) (.ref (He.ga K "BadNumber")) = some false) && (decide (PySem.W.kitOne K (.ref (He.ga K "BadState")) (.ref (He.ga K "BadNumber")) = some false) && (decide (PySem.W.kitOne K (.ref (He.ga K "BadLine")) (.ref (He.ga K "BadNumber")) = some false) && (decide (PySem.W.kitOne K (.ref (He.ga K "DeedFailed")) (.ref (He.ga K "BadNumber")) = some false) && (decide (PySem.W.kitOne K (.ref (He.ga K "OtherSite")) (.ref (He.ga K "BadNumber")) = some false) && (decide (PySem.W.kitOne K (.ref (He.ga K "NothingToUndo")) (.ref (He.ga K "BadNumber")) = some false) && (decide (PySem.W.kitOne K (.ref (He.ga K "NothingToRedo")) (.ref (He.ga K "BadNumber")) = some false) && (decide (PySem.W.kitOne K (.ref (He.ga K "BadNumber")) (.ref (He.ga K "BadName")) = some false) && (decide (PySem.W.kitOne K (.ref (He.ga K "BadName")) (.ref (He.ga K "BadName")) = some true) && (decide (PySem.W.kitOne K (.ref (He.ga K "TakenName")) (.ref (He.ga K "BadName")) = some false) && (decide (PySem.W.kitOne K (.ref (He.ga K "UnknownName")) (.ref (He.ga K "BadName")) = some false) && (decide (PySem.W.kitOne K (.ref (He.ga K "NoPlace")) (.ref (He.ga K "BadName")) = some false) && (decide (PySem.W.kitOne K (.ref (He.ga K "TooMany")) (.ref (He.ga K "BadName")) = some false) && (decide (PySem.W.kitOne K (.ref (He.ga K "NoSite")) (.ref (He.ga K "BadName")) = some false) && (decide (PySem.W.kitOne K (.ref (He.ga K "NoShape")) (.ref (He.ga K "BadName")) = some false) && (decide (PySem.W.kitOne K (.ref (He.ga K "BadState")) (.ref (He.ga K "BadName")) = some false) && (decide (PySem.W.kitOne K (.ref (He.ga K "BadLine")) (.ref (He.ga K "BadName")) = some false) && (decide (PySem.W.kitOne K (.ref (He.ga K "DeedFailed")) (.ref (He.ga K "BadName")) = some false) && (decide (PySem.W.kitOne K (.ref (He.ga K "OtherSite")) (.ref (He.ga K "BadName")) = some false) && (decide (PySem.W.kitOne K (.ref (He.ga K "NothingToUndo")) (.ref (He.ga K "BadName")) = some false) && (decide (PySem.W.kitOne K (.ref (He.ga K "NothingToRedo")) (.ref (He.ga K "BadName")) = some false) && (decide (PySem.W.kitOne K (.ref (He.ga K "BadNumber")) (.ref (He.ga K "TakenName")) = some false) && (decide (PySem.W.kitOne K (.ref (He.ga K "BadName")) (.ref (He.ga K "TakenName")) = some false) && (decide (PySem.W.kitOne K (.ref (He.ga K "TakenName")) (.ref (He.ga K "TakenName")) = some true) && (decide (PySem.W.kitOne K (.ref (He.ga K "UnknownName")) (.ref (He.ga K "TakenName")) = some false) && (decide (PySem.W.kitOne K (.ref (He.ga K "NoPlace")) (.ref (He.ga K "TakenName")) = some false) && (decide (PySem.W.kitOne K (.ref (He.ga K "TooMany")) (.ref (He.ga K "TakenName")) = some false) && (decide (PySem.W.kitOne K (.ref (He.ga K "NoSite")) (.ref (He.ga K "TakenName")) = some false) && (decide (PySem.W.kitOne K (.ref (He.ga K "NoShape")) (.ref (He.ga K "TakenName")) = some false) && (decide (PySem.W.kitOne K (.ref (He.ga K "BadState")) (.ref (He.ga K "TakenName")) = some false) && (decide (PySem.W.kitOne K (.ref (He.ga K "BadLine")) (.ref (He.ga K "TakenName")) = some false) && (decide (PySem.W.kitOne K (.ref (He.ga K "DeedFailed")) (.ref (He.ga K "TakenName")) = some false) && (decide (PySem.W.kitOne K (.ref (He.ga K "OtherSite")) (.ref (He.ga K "TakenName")) = some false) && (decide (PySem.W.kitOne K (.ref (He.ga K "NothingToUndo")) (.ref (He.ga K "TakenName")) = some false) && (decide (PySem.W.kitOne K (.ref (He.ga K "NothingToRedo")) (.ref (He.ga K "TakenName")) = some false) && (decide (PySem.W.kitOne K (.ref (He.ga K "BadNumber")) (.ref (He.ga K "UnknownName")) = some false) && (decide (PySem.W.kitOne K (.ref (He.ga K "BadName")) (.ref (He.ga K "UnknownName")) = some false) && (decide (PySem.W.kitOne K (.ref (He.ga K "TakenName")) (.ref (He.ga K "UnknownName")) = some false) && (decide (PySem.W.kitOne K (.ref (He.ga K "UnknownName")) (.ref (He.ga K "UnknownName")) = some true) && (decide (PySem.W.kitOne K (.ref (He.ga K "NoPlace")) (.ref (He.ga K "UnknownName")) = some false) && (decide (PySem.W.kitOne K (.ref (He.ga K "TooMany")) (.ref (He.ga K "UnknownName")) = some false) && (decide (PySem.W.kitOne K (.ref (He.ga K "NoSite")) (.ref (He.ga K "UnknownName")) = some false) && (decide (PySem.W.kitOne K (.ref (He.ga K "NoShape")) (.ref (He.ga K "UnknownName")) = some false) && (decide (PySem.W.kitOne K (.ref (He.ga K "BadState")) (.ref (He.ga K "UnknownName")) = some false) && (decide (PySem.W.kitOne K (.ref (He.ga K "BadLine")) (.ref (He.ga K "UnknownName")) = some false) && (decide (PySem.W.kitOne K (.ref (He.ga K "DeedFailed")) (.ref (He.ga K "UnknownName")) = some false) && (decide (PySem.W.kitOne K (.ref (He.ga K "OtherSite")) (.ref (He.ga K "UnknownName")) = some false) && (decide (PySem.W.kitOne K (.ref (He.ga K "NothingToUndo")) (.ref (He.ga K "UnknownName")) = some false) && (decide (PySem.W.kitOne K (.ref (He.ga K "NothingToRedo")) (.ref (He.ga K "UnknownName")) = some false) && (decide (PySem.W.kitOne K (.ref (He.ga K "BadNumber")) (.ref (He.ga K "NoPlace")) = some false) && (decide (PySem.W.kitOne K (.ref (He.ga K "BadName")) (.ref (He.ga K "NoPlace")) = some false) && (decide (PySem.W.kitOne K (.ref (He.ga K "TakenName")) (.ref (He.ga K "NoPlace")) = some false) && (decide (PySem.W.kitOne K (.ref (He.ga K "UnknownName")) (.ref (He.ga K "NoPlace")) = some false) && (decide (PySem.W.kitOne K (.ref (He.ga K "NoPlace")) (.ref (He.ga K "NoPlace")) = some true) && (decide (PySem.W.kitOne K (.ref (He.ga K "TooMany")) (.ref (He.ga K "NoPlace")) = some false) && (decide (PySem.W.kitOne K (.ref (He.ga K "NoSite")) (.ref (He.ga K "NoPlace")) = some false) && (decide (PySem.W.kitOne K (.ref (He.ga K "NoShape")) (.ref (He.ga K "NoPlace")) = some false) && (decide (PySem.W.kitOne K (.ref (He.ga K "BadState")) (.ref (He.ga K "NoPlace")) = some false) && (decide (PySem.W.kitOne K (.ref (He.ga K "BadLine")) (.ref (He.ga K "NoPlace")) = some false) && (decide (PySem.W.kitOne K (.ref (He.ga K "DeedFailed")) (.ref (He.ga K "NoPlace")) = some false) && (decide (PySem.W.kitOne K (.ref (He.ga K "OtherSite")) (.ref (He.ga K "NoPlace")) = some false) && (decide (PySem.W.kitOne K (.ref (He.ga K "NothingToUndo")) (.ref (He.ga K "NoPlace")) = some false) && (decide (PySem.W.kitOne K (.ref (He.ga K "NothingToRedo")) (.ref (He.ga K "NoPlace")) = some false) && (decide (PySem.W.kitOne K (.ref (He.ga K "BadNumber")) (.ref (He.ga K "TooMany")) = some false) && (decide (PySem.W.kitOne K (.ref (He.ga K "BadName")) (.ref (He.ga K "TooMany")) = some false) && (decide (PySem.W.kitOne K (.ref (He.ga K "TakenName")) (.ref (He.ga K "TooMany")) = some false) && (decide (PySem.W.kitOne K (.ref (He.ga K "UnknownName")) (.ref (He.ga K "TooMany")) = some false) && (decide (PySem.W.kitOne K (.ref (He.ga K "NoPlace")) (.ref (He.ga K "TooMany")) = some false) && (decide (PySem.W.kitOne K (.ref (He.ga K "TooMany")) (.ref (He.ga K "TooMany")) = some true) && (decide (PySem.W.kitOne K (.ref (He.ga K "NoSite")) (.ref (He.ga K "TooMany")) = some false) && (decide (PySem.W.kitOne K (.ref (He.ga K "NoShape")) (.ref (He.ga K "TooMany")) = some false) && (decide (PySem.W.kitOne K (.ref (He.ga K "BadState")) (.ref (He.ga K "TooMany")) = some false) && (decide (PySem.W.kitOne K (.ref (He.ga K "BadLine")) (.ref (He.ga K "TooMany")) = some false) && (decide (PySem.W.kitOne K (.ref (He.ga K "DeedFailed")) (.ref (He.ga K "TooMany")) = some false) && (decide (PySem.W.kitOne K (.ref (He.ga K "OtherSite")) (.ref (He.ga K "TooMany")) = some false) && (decide (PySem.W.kitOne K (.ref (He.ga K "NothingToUndo")) (.ref (He.ga K "TooMany")) = some false) && (decide (PySem.W.kitOne K (.ref (He.ga K "NothingToRedo")) (.ref (He.ga K "TooMany")) = some false) && (decide (PySem.W.kitOne K (.ref (He.ga K "BadNumber")) (.ref (He.ga K "NoSite")) = some false) && (decide (PySem.W.kitOne K (.ref (He.ga K "BadName")) (.ref (He.ga K "NoSite")) = some false) && (decide (PySem.W.kitOne K (.ref (He.ga K "TakenName")) (.ref (He.ga K "NoSite")) = some false) && (decide (PySem.W.kitOne K (.ref (He.ga K "UnknownName")) (.ref (He.ga K "NoSite")) = some false) && (decide (PySem.W.kitOne K (.ref (He.ga K "NoPlace")) (.ref (He.ga K "NoSite")) = some false) && (decide (PySem.W.kitOne K (.ref (He.ga K "TooMany")) (.ref (He.ga K "NoSite")) = some false) && (decide (PySem.W.kitOne K (.ref (He.ga K "NoSite")) (.ref (He.ga K "NoSite")) = some true) && (decide (PySem.W.kitOne K (.ref (He.ga K "NoShape")) (.ref (He.ga K "NoSite")) = some false) && (decide (PySem.W.kitOne K (.ref (He.ga K "BadState")) (.ref (He.ga K "NoSite")) = some false) && (decide (PySem.W.kitOne K (.ref (He.ga K "BadLine")) (.ref (He.ga K "NoSite")) = some false) && (decide (PySem.W.kitOne K (.ref (He.ga K "DeedFailed")) (.ref (He.ga K "NoSite")) = some false) && (decide (PySem.W.kitOne K (.ref (He.ga K "OtherSite")) (.ref (He.ga K "NoSite")) = some false) && (decide (PySem.W.kitOne K (.ref (He.ga K "NothingToUndo")) (.ref (He.ga K "NoSite")) = some false) && (decide (PySem.W.kitOne K (.ref (He.ga K "NothingToRedo")) (.ref (He.ga K "NoSite")) = some false) && (decide (PySem.W.kitOne K (.ref (He.ga K "BadNumber")) (.ref (He.ga K "NoShape")) = some false) && (decide (PySem.W.kitOne K (.ref (He.ga K "BadName")) (.ref (He.ga K "NoShape")) = some false) && (decide (PySem.W.kitOne K (.ref (He.ga K "TakenName")) (.ref (He.ga K "NoShape")) = some false) && (decide (PySem.W.kitOne K (.ref (He.ga K "UnknownName")) (.ref (He.ga K "NoShape")) = some false) && (decide (PySem.W.kitOne K (.ref (He.ga K "NoPlace")) (.ref (He.ga K "NoShape")) = some false) && (decide (PySem.W.kitOne K (.ref (He.ga K "TooMany")) (.ref (He.ga K "NoShape")) = some false) && (decide (PySem.W.kitOne K (.ref (He.ga K "NoSite")) (.ref (He.ga K "NoShape")) = some false) && (decide (PySem.W.kitOne K (.ref (He.ga K "NoShape")) (.ref (He.ga K "NoShape")) = some true) && (decide (PySem.W.kitOne K (.ref (He.ga K "BadState")) (.ref (He.ga K "NoShape")) = some false) && (decide (PySem.W.kitOne K (.ref (He.ga K "BadLine")) (.ref (He.ga K "NoShape")) = some false) && (decide (PySem.W.kitOne K (.ref (He.ga K "DeedFailed")) (.ref (He.ga K "NoShape")) = some false) && (decide (PySem.W.kitOne K (.ref (He.ga K "OtherSite")) (.ref (He.ga K "NoShape")) = some false) && (decide (PySem.W.kitOne K (.ref (He.ga K "NothingToUndo")) (.ref (He.ga K "NoShape")) = some false) && (decide (PySem.W.kitOne K (.ref (He.ga K "NothingToRedo")) (.ref (He.ga K "NoShape")) = some false) && (decide (PySem.W.kitOne K (.ref (He.ga K "BadNumber")) (.ref (He.ga K "BadState")) = some false) && (decide (PySem.W.kitOne K (.ref (He.ga K "BadName")) (.ref (He.ga K "BadState")) = some false) && (decide (PySem.W.kitOne K (.ref (He.ga K "TakenName")) (.ref (He.ga K "BadState")) = some false) && (decide (PySem.W.kitOne K (.ref (He.ga K "UnknownName")) (.ref (He.ga K "BadState")) = some false) && (decide (PySem.W.kitOne K (.ref (He.ga K "NoPlace")) (.ref (He.ga K "BadState")) = some false) && (decide (PySem.W.kitOne K (.ref (He.ga K "TooMany")) (.ref (He.ga K "BadState")) = some false) && (decide (PySem.W.kitOne K (.ref (He.ga K "NoSite")) (.ref (He.ga K "BadState")) = some false) && (decide (PySem.W.kitOne K (.ref (He.ga K "NoShape")) (.ref (He.ga K "BadState")) = some false) && (decide (PySem.W.kitOne K (.ref (He.ga K "BadState")) (.ref (He.ga K "BadState")) = some true) && (decide (PySem.W.kitOne K (.ref (He.ga K "BadLine")) (.ref (He.ga K "BadState")) = some false) && (decide (PySem.W.kitOne K (.ref (He.ga K "DeedFailed")) (.ref (He.ga K "BadState")) = some false) && (decide (PySem.W.kitOne K (.ref (He.ga K "OtherSite")) (.ref (He.ga K "BadState")) = some false) && (decide (PySem.W.kitOne K (.ref (He.ga K "NothingToUndo")) (.ref (He.ga K "BadState")) = some false) && (decide (PySem.W.kitOne K (.ref (He.ga K "NothingToRedo")) (.ref (He.ga K "BadState")) = some false) && (decide (PySem.W.kitOne K (.ref (He.ga K "BadNumber")) (.ref (He.ga K "BadLine")) = some false) && (decide (PySem.W.kitOne K (.ref (He.ga K "BadName")) (.ref (He.ga K "BadLine")) = some false) && (decide (PySem.W.kitOne K (.ref (He.ga K "TakenName")) (.ref (He.ga K "BadLine")) = some false) && (decide (PySem.W.kitOne K (.ref (He.ga K "UnknownName")) (.ref (He.ga K "BadLine")) = some false) && (decide (PySem.W.kitOne K (.ref (He.ga K "NoPlace")) (.ref (He.ga K "BadLine")) = some false) && (decide (PySem.W.kitOne K (.ref (He.ga K "TooMany")) (.ref (He.ga K "BadLine")) = some false) && (decide (PySem.W.kitOne K (.ref (He.ga K "NoSite")) (.ref (He.ga K "BadLine")) = some false) && (decide (PySem.W.kitOne K (.ref (He.ga K "NoShape")) (.ref (He.ga K "BadLine")) = some false) && (decide (PySem.W.kitOne K (.ref (He.ga K "BadState")) (.ref (He.ga K "BadLine")) = some false) && (decide (PySem.W.kitOne K (.ref (He.ga K "BadLine")) (.ref (He.ga K "BadLine")) = some true) && (decide (PySem.W.kitOne K (.ref (He.ga K "DeedFailed")) (.ref (He.ga K "BadLine")) = some false) && (decide (PySem.W.kitOne K (.ref (He.ga K "OtherSite")) (.ref (He.ga K "BadLine")) = some false) && (decide (PySem.W.kitOne K (.ref (He.ga K "NothingToUndo")) (.ref (He.ga K "BadLine")) = some false) && (decide (PySem.W.kitOne K (.ref (He.ga K "NothingToRedo")) (.ref (He.ga K "BadLine")) = some false) && (decide (PySem.W.kitOne K (.ref (He.ga K "BadNumber")) (.ref (He.ga K "DeedFailed")) = some false) && (decide (PySem.W.kitOne K (.ref (He.ga K "BadName")) (.ref (He.ga K "DeedFailed")) = some false) && (decide (PySem.W.kitOne K (.ref (He.ga K "TakenName")) (.ref (He.ga K "DeedFailed")) = some false) && (decide (PySem.W.kitOne K (.ref (He.ga K "UnknownName")) (.ref (He.ga K "DeedFailed")) = some false) && (decide (PySem.W.kitOne K (.ref (He.ga K "NoPlace")) (.ref (He.ga K "DeedFailed")) = some false) && (decide (PySem.W.kitOne K (.ref (He.ga K "TooMany")) (.ref (He.ga K "DeedFailed")) = some false) && (decide (PySem.W.kitOne K (.ref (He.ga K "NoSite")) (.ref (He.ga K "DeedFailed")) = some false) && (decide (PySem.W.kitOne K (.ref (He.ga K "NoShape")) (.ref (He.ga K "DeedFailed")) = some false) && (decide (PySem.W.kitOne K (.ref (He.ga K "BadState")) (.ref (He.ga K "DeedFailed")) = some false) && (decide (PySem.W.kitOne K (.ref (He.ga K "BadLine")) (.ref (He.ga K "DeedFailed")) = some false) && (decide (PySem.W.kitOne K (.ref (He.ga K "DeedFailed")) (.ref (He.ga K "DeedFailed")) = some true) && (decide (PySem.W.kitOne K (.ref (He.ga K "OtherSite")) (.ref (He.ga K "DeedFailed")) = some false) && (decide (PySem.W.kitOne K (.ref (He.ga K "NothingToUndo")) (.ref (He.ga K "DeedFailed")) = some false) && (decide (PySem.W.kitOne K (.ref (He.ga K "NothingToRedo")) (.ref (He.ga K "DeedFailed")) = some false) && (decide (PySem.W.kitOne K (.ref (He.ga K "BadNumber")) (.ref (He.ga K "OtherSite")) = some false) && (decide (PySem.W.kitOne K (.ref (He.ga K "BadName")) (.ref (He.ga K "OtherSite")) = some false) && (decide (PySem.W.kitOne K (.ref (He.ga K "TakenName")) (.ref (He.ga K "OtherSite")) = some false) && (decide (PySem.W.kitOne K (.ref (He.ga K "UnknownName")) (.ref (He.ga K "OtherSite")) = some false) && (decide (PySem.W.kitOne K (.ref (He.ga K "NoPlace")) (.ref (He.ga K "OtherSite")) = some false) && (decide (PySem.W.kitOne K (.ref (He.ga K "TooMany")) (.ref (He.ga K "OtherSite")) = some false) && (decide (PySem.W.kitOne K (.ref (He.ga K "NoSite")) (.ref (He.ga K "OtherSite")) = some false) && (decide (PySem.W.kitOne K (.ref (He.ga K "NoShape")) (.ref (He.ga K "OtherSite")) = some false) && (decide (PySem.W.kitOne K (.ref (He.ga K "BadState")) (.ref (He.ga K "OtherSite")) = some false) && (decide (PySem.W.kitOne K (.ref (He.ga K "BadLine")) (.ref (He.ga K "OtherSite")) = some false) && (decide (PySem.W.kitOne K (.ref (He.ga K "DeedFailed")) (.ref (He.ga K "OtherSite")) = some false) && (decide (PySem.W.kitOne K (.ref (He.ga K "OtherSite")) (.ref (He.ga K "OtherSite")) = some true) && (decide (PySem.W.kitOne K (.ref (He.ga K "NothingToUndo")) (.ref (He.ga K "OtherSite")) = some false) && (decide (PySem.W.kitOne K (.ref (He.ga K "NothingToRedo")) (.ref (He.ga K "OtherSite")) = some false) && (decide (PySem.W.kitOne K (.ref (He.ga K "BadNumber")) (.ref (He.ga K "NothingToUndo")) = some false) && (decide (PySem.W.kitOne K (.ref (He.ga K "BadName")) (.ref (He.ga K "NothingToUndo")) = some false) && (decide (PySem.W.kitOne K (.ref (He.ga K "TakenName")) (.ref (He.ga K "NothingToUndo")) = some false) && (decide (PySem.W.kitOne K (.ref (He.ga K "UnknownName")) (.ref (He.ga K "NothingToUndo")) = some false) && (decide (PySem.W.kitOne K (.ref (He.ga K "NoPlace")) (.ref (He.ga K "NothingToUndo")) = some false) && (decide (PySem.W.kitOne K (.ref (He.ga K "TooMany")) (.ref (He.ga K "NothingToUndo")) = some false) && (decide (PySem.W.kitOne K (.ref (He.ga K "NoSite")) (.ref (He.ga K "NothingToUndo")) = some false) && (decide (PySem.W.kitOne K (.ref (He.ga K "NoShape")) (.ref (He.ga K "NothingToUndo")) = some false) && (decide (PySem.W.kitOne K (.ref (He.ga K "BadState")) (.ref (He.ga K "NothingToUndo")) = some false) && (decide (PySem.W.kitOne K (.ref (He.ga K "BadLine")) (.ref (He.ga K "NothingToUndo")) = some false) && (decide (PySem.W.kitOne K (.ref (He.ga K "DeedFailed")) (.ref (He.ga K "NothingToUndo")) = some false) && (decide (PySem.W.kitOne K (.ref (He.ga K "OtherSite")) (.ref (He.ga K "NothingToUndo")) = some false) && (decide (PySem.W.kitOne K (.ref (He.ga K "NothingToUndo")) (.ref (He.ga K "NothingToUndo")) = some true) && (decide (PySem.W.kitOne K (.ref (He.ga K "NothingToRedo")) (.ref (He.ga K "NothingToUndo")) = some false) && (decide (PySem.W.kitOne K (.ref (He.ga K "BadNumber")) (.ref (He.ga K "NothingToRedo")) = some false) && (decide (PySem.W.kitOne K (.ref (He.ga K "BadName")) (.ref (He.ga K "NothingToRedo")) = some false) && (decide (PySem.W.kitOne K (.ref (He.ga K "TakenName")) (.ref (He.ga K "NothingToRedo")) = some false) && (decide (PySem.W.kitOne K (.ref (He.ga K "UnknownName")) (.ref (He.ga K "NothingToRedo")) = some false) && (decide (PySem.W.kitOne K (.ref (He.ga K "NoPlace")) (.ref (He.ga K "NothingToRedo")) = some false) && (decide (PySem.W.kitOne K (.ref (He.ga K "TooMany")) (.ref (He.ga K "NothingToRedo")) = some false) && (decide (PySem.W.kitOne K (.ref (He.ga K "NoSite")) (.ref (He.ga K "NothingToRedo")) = some false) && (decide (PySem.W.kitOne K (.ref (He.ga K "NoShape")) (.ref (He.ga K "NothingToRedo")) = some false) && (decide (PySem.W.kitOne K (.ref (He.ga K "BadState")) (.ref (He.ga K "NothingToRedo")) = some false) && (decide (PySem.W.kitOne K (.ref (He.ga K "BadLine")) (.ref (He.ga K "NothingToRedo")) = some false) && (decide (PySem.W.kitOne K (.ref (He.ga K "DeedFailed")) (.ref (He.ga K "NothingToRedo")) = some false) && (decide (PySem.W.kitOne K (.ref (He.ga K "OtherSite")) (.ref (He.ga K "NothingToRedo")) = some false) && (decide (PySem.W.kitOne K (.ref (He.ga K "NothingToUndo")) (.ref (He.ga K "NothingToRedo")) = some false) && (decide (PySem.W.kitOne K (.ref (He.ga K "NothingToRedo")) (.ref (He.ga K "NothingToRedo")) = some true) && (decide (PySem.W.kitOne K (.ref (He.ga K "BadNumber")) (.ref (He.ga K "LadderError")) = some true) && (decide (PySem.W.kitOne K (.ref (He.ga K "BadName")) (.ref (He.ga K "LadderError")) = some true) && (decide (PySem.W.kitOne K (.ref (He.ga K "TakenName")) (.ref (He.ga K "LadderError")) = some true) && (decide (PySem.W.kitOne K (.ref (He.ga K "UnknownName")) (.ref (He.ga K "LadderError")) = some true) && (decide (PySem.W.kitOne K (.ref (He.ga K "NoPlace")) (.ref (He.ga K "LadderError")) = some true) && (decide (PySem.W.kitOne K (.ref (He.ga K "TooMany")) (.ref (He.ga K "LadderError")) = some true) && (decide (PySem.W.kitOne K (.ref (He.ga K "NoSite")) (.ref (He.ga K "LadderError")) = some true) && (decide (PySem.W.kitOne K (.ref (He.ga K "NoShape")) (.ref (He.ga K "LadderError")) = some true) && (decide (PySem.W.kitOne K (.ref (He.ga K "BadState")) (.ref (He.ga K "LadderError")) = some true) && (decide (PySem.W.kitOne K (.ref (He.ga K "BadLine")) (.ref (He.ga K "LadderError")) = some true) && (decide (PySem.W.kitOne K (.ref (He.ga K "DeedFailed")) (.ref (He.ga K "LadderError")) = some true) && (decide (PySem.W.kitOne K (.ref (He.ga K "OtherSite")) (.ref (He.ga K "LadderError")) = some true) && (decide (PySem.W.kitOne K (.ref (He.ga K "NothingToUndo")) (.ref (He.ga K "LadderError")) = some true) && (decide (PySem.W.kitOne K (.ref (He.ga K "NothingToRedo")) (.ref (He.ga K "LadderError")) = some true) && (decide (PySem.W.kitOne K (.ref (He.ga K "BadNumber")) (.type "ValueError") = some true) && (decide (PySem.W.kitOne K (.ref (He.ga K "BadName")) (.type "ValueError") = some true) && (decide (PySem.W.kitOne K (.ref (He.ga K "TakenName")) (.type "ValueError") = some true) && (decide (PySem.W.kitOne K (.ref (He.ga K "UnknownName")) (.type "ValueError") = some true) && (decide (PySem.W.kitOne K (.ref (He.ga K "NoPlace")) (.type "ValueError") = some true) && (decide (PySem.W.kitOne K (.ref (He.ga K "TooMany")) (.type "ValueError") = some true) && (decide (PySem.W.kitOne K (.ref (He.ga K "NoSite")) (.type "ValueError") = some true) && (decide (PySem.W.kitOne K (.ref (He.ga K "NoShape")) (.type "ValueError") = some true) && (decide (PySem.W.kitOne K (.ref (He.ga K "BadState")) (.type "ValueError") = some true) && (decide (PySem.W.kitOne K (.ref (He.ga K "BadLine")) (.type "ValueError") = some true) && (decide (PySem.W.kitOne K (.ref (He.ga K "DeedFailed")) (.type "ValueError") = some true) && (decide (PySem.W.kitOne K (.ref (He.ga K "OtherSite")) (.type "ValueError") = some true) && (decide (PySem.W.kitOne K (.ref (He.ga K "NothingToUndo")) (.type "ValueError") = some true) && (decide (PySem.W.kitOne K (.ref (He.ga K "NothingToRedo")) (.type "ValueError") = some true) && true))))))))))))))))))))))))))))))))))))))))))))))))))))))))))))))))))))))))))))))))))))))))))))))))))))))))))))))))))))))))))))))))))))))))))))))))))))))))))))))))))))))))))))))))))))))))))))))))))))))))))))))))))))))))))))))))))))))))))))))))))))))))))))) = true := c.more
  obtain ⟨c1, c2⟩ := He.ba c0
  have ff : ∀ f ∈ faL, f.ok K = true := List.all_eq_true.mp c1
  obtain ⟨fd0, F0⟩ := c.def_ 0 (d := d_law_box) rfl
  obtain ⟨fd1, F1⟩ := c.def_ 1 (d := d_law_take) rfl
  obtain ⟨fd2, F2⟩ := c.def_ 2 (d := d_law_number) rfl
  obtain ⟨fd3, F3⟩ := c.def_ 3 (d := d_law_classes) rfl
  obtain ⟨fd4, F4⟩ := c.def_ 4 (d := d_law_based) rfl
  obtain ⟨fd5, F5⟩ := c.def_ 5 (d := d_law) rfl
  obtain ⟨z0, c2⟩ := He.ba c2
  obtain ⟨z1, c2⟩ := He.ba c2
  obtain ⟨z2, c2⟩ := He.ba c2
  obtain ⟨z3, c2⟩ := He.ba c2
  obtain ⟨z4, c2⟩ := He.ba c2
  obtain ⟨z5, c2⟩ := He.ba c2
  obtain ⟨z6, c2⟩ := He.ba c2
  obtain ⟨z7, c2⟩ := He.ba c2
  obtain ⟨z8, c2⟩ := He.ba c2
  obtain ⟨z9, c2⟩ := He.ba c2
  obtain ⟨z10, c2⟩ := He.ba c2
  obtain ⟨z11, c2⟩ := He.ba c2
  obtain ⟨z12, c2⟩ := He.ba c2
  obtain ⟨z13, c2⟩ := He.ba c2
  obtain ⟨z14, c2⟩ := He.ba c2
  obtain ⟨z15, c2⟩ := He.ba c2
  obtain ⟨z16, c2⟩ := He.ba c2
  obtain ⟨z17, c2⟩ := He.ba c2
  obtain ⟨z18, c2⟩ := He.ba c2
  obtain ⟨z19, c2⟩ := He.ba c2
  obtain ⟨z20, c2⟩ := He.ba c2
  obtain ⟨z21, c2⟩ := He.ba c2
  obtain ⟨z22, c2⟩ := He.ba c2
  obtain ⟨z23, c2⟩ := He.ba c2
  obtain ⟨z24, c2⟩ := He.ba c2
  obtain ⟨z25, c2⟩ := He.ba c2
  obtain ⟨z26, c2⟩ := He.ba c2
  obtain ⟨z27, c2⟩ := He.ba c2
  obtain ⟨z28, c2⟩ := He.ba c2
  obtain ⟨z29, c2⟩ := He.ba c2
  obtain ⟨z30, c2⟩ := He.ba c2
  obtain ⟨z31, c2⟩ := He.ba c2
  obtain ⟨z32, c2⟩ := He.ba c2
  obtain ⟨z33, c2⟩ := He.ba c2
  obtain ⟨z34, c2⟩ := He.ba c2
  obtain ⟨z35, c2⟩ := He.ba c2
  obtain ⟨z36, c2⟩ := He.ba c2
  obtain ⟨z37, c2⟩ := He.ba c2
  obtain ⟨z38, c2⟩ := He.ba c2
  obtain ⟨z39, c2⟩ := He.ba c2
  obtain ⟨z40, c2⟩ := He.ba c2
  obtain ⟨z41, c2⟩ := He.ba c2
  obtain ⟨z42, c2⟩ := He.ba c2
  obtain ⟨z43, c2⟩ := He.ba c2
  obtain ⟨z44, c2⟩ := He.ba c2
  obtain ⟨z45, c2⟩ := He.ba c2
  obtain ⟨z46, c2⟩ := He.ba c2
  obtain ⟨z47, c2⟩ := He.ba c2
  obtain ⟨z48, c2⟩ := He.ba c2
  obtain ⟨z49, c2⟩ := He.ba c2
  obtain ⟨z50, c2⟩ := He.ba c2
  obtain ⟨z51, c2⟩ := He.ba c2
  obtain ⟨z52, c2⟩ := He.ba c2
  obtain ⟨z53, c2⟩ := He.ba c2
  obtain ⟨z54, c2⟩ := He.ba c2
  obtain ⟨z55, c2⟩ := He.ba c2
  obtain ⟨z56, c2⟩ := He.ba c2
  obtain ⟨z57, c2⟩ := He.ba c2
  obtain ⟨z58, c2⟩ := He.ba c2
  obtain ⟨z59, c2⟩ := He.ba c2
  obtain ⟨z60, c2⟩ := He.ba c2
  obtain ⟨z61, c2⟩ := He.ba c2
  obtain ⟨z62, c2⟩ := He.ba c2
  obtain ⟨z63, c2⟩ := He.ba c2
  obtain ⟨z64, c2⟩ := He.ba c2
  obtain ⟨z65, c2⟩ := He.ba c2
  obtain ⟨z66, c2⟩ := He.ba c2
  obtain ⟨z67, c2⟩ := He.ba c2
  obtain ⟨z68, c2⟩ := He.ba c2
  obtain ⟨z69, c2⟩ := He.ba c2
  obtain ⟨z70, c2⟩ := He.ba c2
  obtain ⟨z71, c2⟩ := He.ba c2
  obtain ⟨z72, c2⟩ := He.ba c2
  obtain ⟨z73, c2⟩ := He.ba c2
  obtain ⟨z74, c2⟩ := He.ba c2
  obtain ⟨z75, c2⟩ := He.ba c2
  obtain ⟨z76, c2⟩ := He.ba c2
  obtain ⟨z77, c2⟩ := He.ba c2
  obtain ⟨z78, c2⟩ := He.ba c2
  obtain ⟨z79, c2⟩ := He.ba c2
  obtain ⟨z80, c2⟩ := He.ba c2
  obtain ⟨z81, c2⟩ := He.ba c2
  obtain ⟨z82, c2⟩ := He.ba c2
  obtain ⟨z83, c2⟩ := He.ba c2
  obtain ⟨z84, c2⟩ := He.ba c2
  obtain ⟨z85, c2⟩ := He.ba c2
  obtain ⟨z86, c2⟩ := He.ba c2
  obtain ⟨z87, c2⟩ := He.ba c2
  obtain ⟨z88, c2⟩ := He.ba c2
  obtain ⟨z89, c2⟩ := He.ba c2
  obtain ⟨z90, c2⟩ := He.ba c2
  obtain ⟨z91, c2⟩ := He.ba c2
  obtain ⟨z92, c2⟩ := He.ba c2
  obtain ⟨z93, c2⟩ := He.ba c2
  obtain ⟨z94, c2⟩ := He.ba c2
  obtain ⟨z95, c2⟩ := He.ba c2
  obtain ⟨z96, c2⟩ := He.ba c2
  obtain ⟨z97, c2⟩ := He.ba c2
  obtain ⟨z98, c2⟩ := He.ba c2
  obtain ⟨z99, c2⟩ := He.ba c2
  obtain ⟨z100, c2⟩ := He.ba c2
  obtain ⟨z101, c2⟩ := He.ba c2
  obtain ⟨z102, c2⟩ := He.ba c2
  obtain ⟨z103, c2⟩ := He.ba c2
  obtain ⟨z104, c2⟩ := He.ba c2
  obtain ⟨z105, c2⟩ := He.ba c2
  obtain ⟨z106, c2⟩ := He.ba c2
  obtain ⟨z107, c2⟩ := He.ba c2
  obtain ⟨z108, c2⟩ := He.ba c2
  obtain ⟨z109, c2⟩ := He.ba c2
  obtain ⟨z110, c2⟩ := He.ba c2
  obtain ⟨z111, c2⟩ := He.ba c2
  obtain ⟨z112, c2⟩ := He.ba c2
  obtain ⟨z113, c2⟩ := He.ba c2
  obtain ⟨z114, c2⟩ := He.ba c2
  obtain ⟨z115, c2⟩ := He.ba c2
  obtain ⟨z116, c2⟩ := He.ba c2
  obtain ⟨z117, c2⟩ := He.ba c2
  obtain ⟨z118, c2⟩ := He.ba c2
  obtain ⟨z119, c2⟩ := He.ba c2
  obtain ⟨z120, c2⟩ := He.ba c2
  obtain ⟨z121, c2⟩ := He.ba c2
  obtain ⟨z122, c2⟩ := He.ba c2
  obtain ⟨z123, c2⟩ := He.ba c2
  obtain ⟨z124, c2⟩ := He.ba c2
  obtain ⟨z125, c2⟩ := He.ba c2
  obtain ⟨z126, c2⟩ := He.ba c2
  obtain ⟨z127, c2⟩ := He.ba c2
  obtain ⟨z128, c2⟩ := He.ba c2
  obtain ⟨z129, c2⟩ := He.ba c2
  obtain ⟨z130, c2⟩ := He.ba c2
  obtain ⟨z131, c2⟩ := He.ba c2
  obtain ⟨z132, c2⟩ := He.ba c2
  obtain ⟨z133, c2⟩ := He.ba c2
  obtain ⟨z134, c2⟩ := He.ba c2
  obtain ⟨z135, c2⟩ := He.ba c2
  obtain ⟨z136, c2⟩ := He.ba c2
  obtain ⟨z137, c2⟩ := He.ba c2
  obtain ⟨z138, c2⟩ := He.ba c2
  obtain ⟨z139, c2⟩ := He.ba c2
  obtain ⟨z140, c2⟩ := He.ba c2
  obtain ⟨z141, c2⟩ := He.ba c2
  obtain ⟨z142, c2⟩ := He.ba c2
  obtain ⟨z143, c2⟩ := He.ba c2
  obtain ⟨z144, c2⟩ := He.ba c2
  obtain ⟨z145, c2⟩ := He.ba c2
  obtain ⟨z146, c2⟩ := He.ba c2
  obtain ⟨z147, c2⟩ := He.ba c2
  obtain ⟨z148, c2⟩ := He.ba c2
  obtain ⟨z149, c2⟩ := He.ba c2
  obtain ⟨z150, c2⟩ := He.ba c2
  obtain ⟨z151, c2⟩ := He.ba c2
  obtain ⟨z152, c2⟩ := He.ba c2
  obtain ⟨z153, c2⟩ := He.ba c2
  obtain ⟨z154, c2⟩ := He.ba c2
  obtain ⟨z155, c2⟩ := He.ba c2
  obtain ⟨z156, c2⟩ := He.ba c2
  obtain ⟨z157, c2⟩ := He.ba c2
  obtain ⟨z158, c2⟩ := He.ba c2
  obtain ⟨z159, c2⟩ := He.ba c2
  obtain ⟨z160, c2⟩ := He.ba c2
  obtain ⟨z161, c2⟩ := He.ba c2
  obtain ⟨z162, c2⟩ := He.ba c2
  obtain ⟨z163, c2⟩ := He.ba c2
  obtain ⟨z164, c2⟩ := He.ba c2
  obtain ⟨z165, c2⟩ := He.ba c2
  obtain ⟨z166, c2⟩ := He.ba c2
  obtain ⟨z167, c2⟩ := He.ba c2
  obtain ⟨z168, c2⟩ := He.ba c2
  obtain ⟨z169, c2⟩ := He.ba c2
  obtain ⟨z170, c2⟩ := He.ba c2
  obtain ⟨z171, c2⟩ := He.ba c2
  obtain ⟨z172, c2⟩ := He.ba c2
  obtain ⟨z173, c2⟩ := He.ba c2
  obtain ⟨z174, c2⟩ := He.ba c2
  obtain ⟨z175, c2⟩ := He.ba c2
  obtain ⟨z176, c2⟩ := He.ba c2
  obtain ⟨z177, c2⟩ := He.ba c2
  obtain ⟨z178, c2⟩ := He.ba c2
  obtain ⟨z179, c2⟩ := He.ba c2
  obtain ⟨z180, c2⟩ := He.ba c2
  obtain ⟨z181, c2⟩ := He.ba c2
  obtain ⟨z182, c2⟩ := He.ba c2
  obtain ⟨z183, c2⟩ := He.ba c2
  obtain ⟨z184, c2⟩ := He.ba c2
  obtain ⟨z185, c2⟩ := He.ba c2
  obtain ⟨z186, c2⟩ := He.ba c2
  obtain ⟨z187, c2⟩ := He.ba c2
  obtain ⟨z188, c2⟩ := He.ba c2
  obtain ⟨z189, c2⟩ := He.ba c2
  obtain ⟨z190, c2⟩ := He.ba c2
  obtain ⟨z191, c2⟩ := He.ba c2
  obtain ⟨z192, c2⟩ := He.ba c2
  obtain ⟨z193, c2⟩ := He.ba c2
  obtain ⟨z194, c2⟩ := He.ba c2
  obtain ⟨z195, c2⟩ := He.ba c2
  obtain ⟨z196, c2⟩ := He.ba c2
  obtain ⟨z197, c2⟩ := He.ba c2
  obtain ⟨z198, c2⟩ := He.ba c2
  obtain ⟨z199, c2⟩ := He.ba c2
  obtain ⟨z200, c2⟩ := He.ba c2
  obtain ⟨z201, c2⟩ := He.ba c2
  obtain ⟨z202, c2⟩ := He.ba c2
  obtain ⟨z203, c2⟩ := He.ba c2
  obtain ⟨z204, c2⟩ := He.ba c2
  obtain ⟨z205, c2⟩ := He.ba c2
  obtain ⟨z206, c2⟩ := He.ba c2
  obtain ⟨z207, c2⟩ := He.ba c2
  obtain ⟨z208, c2⟩ := He.ba c2
  obtain ⟨z209, c2⟩ := He.ba c2
  obtain ⟨z210, c2⟩ := He.ba c2
  obtain ⟨z211, c2⟩ := He.ba c2
  obtain ⟨z212, c2⟩ := He.ba c2
  obtain ⟨z213, c2⟩ := He.ba c2
  obtain ⟨z214, c2⟩ := He.ba c2
  obtain ⟨z215, c2⟩ := He.ba c2
  obtain ⟨z216, c2⟩ := He.ba c2
  obtain ⟨z217, c2⟩ := He.ba c2
  obtain ⟨z218, c2⟩ := He.ba c2
  obtain ⟨z219, c2⟩ := He.ba c2
  obtain ⟨z220, c2⟩ := He.ba c2
  obtain ⟨z221, c2⟩ := He.ba c2
  obtain ⟨z222, c2⟩ := He.ba c2
  obtain ⟨z223, c2⟩ := He.ba c2
  obtain ⟨z224, c2⟩ := He.ba c2
  obtain ⟨z225, c2⟩ := He.ba c2
  obtain ⟨z226, c2⟩ := He.ba c2
  obtain ⟨z227, c2⟩ := He.ba c2
  obtain ⟨z228, c2⟩ := He.ba c2
  obtain ⟨z229, c2⟩ := He.ba c2
  obtain ⟨z230, c2⟩ := He.ba c2
  obtain ⟨z231, c2⟩ := He.ba c2
  obtain ⟨z232, c2⟩ := He.ba c2
  obtain ⟨z233, c2⟩ := He.ba c2
  obtain ⟨z234, c2⟩ := He.ba c2
  obtain ⟨z235, c2⟩ := He.ba c2
  obtain ⟨z236, c2⟩ := He.ba c2
  obtain ⟨z237, c2⟩ := He.ba c2
  obtain ⟨z238, c2⟩ := He.ba c2
  obtain ⟨z239, c2⟩ := He.ba c2
  obtain ⟨z240, c2⟩ := He.ba c2
  obtain ⟨z241, c2⟩ := He.ba c2
  obtain ⟨z242, c2⟩ := He.ba c2
  obtain ⟨z243, c2⟩ := He.ba c2
  obtain ⟨z244, c2⟩ := He.ba c2
  obtain ⟨z245, c2⟩ := He.ba c2
  obtain ⟨z246, c2⟩ := He.ba c2
  obtain ⟨z247, c2⟩ := He.ba c2
  obtain ⟨z248, c2⟩ := He.ba c2
  obtain ⟨z249, c2⟩ := He.ba c2
  obtain ⟨z250, c2⟩ := He.ba c2
  obtain ⟨z251, c2⟩ := He.ba c2
  exact ⟨Txt.mk (fd0)
    (F0)
    (fd1)
    (F1)
    (fd2)
    (F2)
    (fd3)
    (F3)
    (fd4)
    (F4)
    (fd5)
    (F5)
    (He.glo_ok X G (ff (.glo "BadLine") (by simp [faL])))
    (He.glo_ok X G (ff (.glo "BadName") (by simp [faL])))
    (He.glo_ok X G (ff (.glo "BadNumber") (by simp [faL])))
    (He.glo_ok X G (ff (.glo "BadState") (by simp [faL])))
    (He.glo_ok X G (ff (.glo "DeedFailed") (by simp [faL])))
    (He.glo_ok X G (ff (.glo "LadderError") (by simp [faL])))
    (He.glo_ok X G (ff (.glo "NoPlace") (by simp [faL])))
    (He.glo_ok X G (ff (.glo "NoShape") (by simp [faL])))
    (He.glo_ok X G (ff (.glo "NoSite") (by simp [faL])))
    (He.glo_ok X G (ff (.glo "NothingToRedo") (by simp [faL])))
    (He.glo_ok X G (ff (.glo "NothingToUndo") (by simp [faL])))
    (He.glo_ok X G (ff (.glo "OtherSite") (by simp [faL])))
    (He.glo_ok X G (ff (.glo "TakenName") (by simp [faL])))
    (He.glo_ok X G (ff (.glo "TooMany") (by simp [faL])))
    (He.glo_ok X G (ff (.glo "UnknownName") (by simp [faL])))
    (He.glo_ok X G (ff (.glo "_law_based") (by simp [faL])))
    (He.glo_ok X G (ff (.glo "_law_box") (by simp [faL])))
    (He.glo_ok X G (ff (.glo "_law_classes") (by simp [faL])))
    (He.glo_ok X G (ff (.glo "_law_number") (by simp [faL])))
    (He.glo_ok X G (ff (.glo "_law_take") (by simp [faL])))
    (He.glo_ok X G (ff (.glo "law") (by simp [faL])))
    (He.free_ok X G (ff (.free "ValueError") (by simp [faL])))
    (He.free_ok X G (ff (.free "bool") (by simp [faL])))
    (He.free_ok X G (ff (.free "int") (by simp [faL])))
    (He.free_ok X G (ff (.free "isinstance") (by simp [faL])))
    (He.free_ok X G (ff (.free "len") (by simp [faL])))
    (He.free_ok X G (ff (.free "list") (by simp [faL])))
    (He.free_ok X G (ff (.free "range") (by simp [faL])))
    (He.free_ok X G (ff (.free "str") (by simp [faL])))
    (He.free_ok X G (ff (.free "super") (by simp [faL])))
    (Hd.err_mk (x := "value") (msg := "number out of range") (p1 := ⟨6, 17, 6, 21⟩) (p2 := ⟨6, 23, 6, 28⟩) (q1 := ⟨7, 8, 7, 13⟩) (q2 := ⟨7, 8, 7, 15⟩) (q3 := ⟨7, 8, 7, 24⟩) (q4 := ⟨7, 25, 7, 46⟩) (q5 := ⟨7, 8, 7, 47⟩) (q6 := ⟨7, 8, 7, 47⟩) (q7 := ⟨8, 8, 8, 12⟩) (q8 := ⟨8, 8, 8, 18⟩) (q9 := ⟨8, 21, 8, 26⟩) (q10 := ⟨8, 8, 8, 26⟩) z0 (c.err_ 0 rfl) rfl rfl rfl rfl (by decide +kernel) (by decide +kernel) (by decide +kernel) (by decide +kernel) (by decide +kernel) (fun _ _ _ _ _ _ _ _ _ _ _ _ _ _ => rfl))
    (Hd.err_mk (x := "name") (msg := "name not allowed") (p1 := ⟨11, 17, 11, 21⟩) (p2 := ⟨11, 23, 11, 27⟩) (q1 := ⟨12, 8, 12, 13⟩) (q2 := ⟨12, 8, 12, 15⟩) (q3 := ⟨12, 8, 12, 24⟩) (q4 := ⟨12, 25, 12, 43⟩) (q5 := ⟨12, 8, 12, 44⟩) (q6 := ⟨12, 8, 12, 44⟩) (q7 := ⟨13, 8, 13, 12⟩) (q8 := ⟨13, 8, 13, 17⟩) (q9 := ⟨13, 20, 13, 24⟩) (q10 := ⟨13, 8, 13, 24⟩) z1 (c.err_ 1 rfl) rfl rfl rfl rfl (by decide +kernel) (by decide +kernel) (by decide +kernel) (by decide +kernel) (by decide +kernel) (fun _ _ _ _ _ _ _ _ _ _ _ _ _ _ => rfl))
    (Hd.err_mk (x := "name") (msg := "name is taken") (p1 := ⟨16, 17, 16, 21⟩) (p2 := ⟨16, 23, 16, 27⟩) (q1 := ⟨17, 8, 17, 13⟩) (q2 := ⟨17, 8, 17, 15⟩) (q3 := ⟨17, 8, 17, 24⟩) (q4 := ⟨17, 25, 17, 40⟩) (q5 := ⟨17, 8, 17, 41⟩) (q6 := ⟨17, 8, 17, 41⟩) (q7 := ⟨18, 8, 18, 12⟩) (q8 := ⟨18, 8, 18, 17⟩) (q9 := ⟨18, 20, 18, 24⟩) (q10 := ⟨18, 8, 18, 24⟩) z2 (c.err_ 2 rfl) rfl rfl rfl rfl (by decide +kernel) (by decide +kernel) (by decide +kernel) (by decide +kernel) (by decide +kernel) (fun _ _ _ _ _ _ _ _ _ _ _ _ _ _ => rfl))
    (Hd.err_mk (x := "name") (msg := "unknown name") (p1 := ⟨21, 17, 21, 21⟩) (p2 := ⟨21, 23, 21, 27⟩) (q1 := ⟨22, 8, 22, 13⟩) (q2 := ⟨22, 8, 22, 15⟩) (q3 := ⟨22, 8, 22, 24⟩) (q4 := ⟨22, 25, 22, 39⟩) (q5 := ⟨22, 8, 22, 40⟩) (q6 := ⟨22, 8, 22, 40⟩) (q7 := ⟨23, 8, 23, 12⟩) (q8 := ⟨23, 8, 23, 17⟩) (q9 := ⟨23, 20, 23, 24⟩) (q10 := ⟨23, 8, 23, 24⟩) z3 (c.err_ 3 rfl) rfl rfl rfl rfl (by decide +kernel) (by decide +kernel) (by decide +kernel) (by decide +kernel) (by decide +kernel) (fun _ _ _ _ _ _ _ _ _ _ _ _ _ _ => rfl))
    (Hd.err_mk (x := "place") (msg := "no such place") (p1 := ⟨26, 17, 26, 21⟩) (p2 := ⟨26, 23, 26, 28⟩) (q1 := ⟨27, 8, 27, 13⟩) (q2 := ⟨27, 8, 27, 15⟩) (q3 := ⟨27, 8, 27, 24⟩) (q4 := ⟨27, 25, 27, 40⟩) (q5 := ⟨27, 8, 27, 41⟩) (q6 := ⟨27, 8, 27, 41⟩) (q7 := ⟨28, 8, 28, 12⟩) (q8 := ⟨28, 8, 28, 18⟩) (q9 := ⟨28, 21, 28, 26⟩) (q10 := ⟨28, 8, 28, 26⟩) z4 (c.err_ 4 rfl) rfl rfl rfl rfl (by decide +kernel) (by decide +kernel) (by decide +kernel) (by decide +kernel) (by decide +kernel) (fun _ _ _ _ _ _ _ _ _ _ _ _ _ _ => rfl))
    (Hd.err_mk (x := "count") (msg := "too many objects") (p1 := ⟨31, 17, 31, 21⟩) (p2 := ⟨31, 23, 31, 28⟩) (q1 := ⟨32, 8, 32, 13⟩) (q2 := ⟨32, 8, 32, 15⟩) (q3 := ⟨32, 8, 32, 24⟩) (q4 := ⟨32, 25, 32, 43⟩) (q5 := ⟨32, 8, 32, 44⟩) (q6 := ⟨32, 8, 32, 44⟩) (q7 := ⟨33, 8, 33, 12⟩) (q8 := ⟨33, 8, 33, 18⟩) (q9 := ⟨33, 21, 33, 26⟩) (q10 := ⟨33, 8, 33, 26⟩) z5 (c.err_ 5 rfl) rfl rfl rfl rfl (by decide +kernel) (by decide +kernel) (by decide +kernel) (by decide +kernel) (by decide +kernel) (fun _ _ _ _ _ _ _ _ _ _ _ _ _ _ => rfl))
    (Hd.err_mkL (x := "ring") (msg := "the told limits contradict one another") (p1 := ⟨36, 17, 36, 21⟩) (p2 := ⟨36, 23, 36, 27⟩) (q1 := ⟨37, 8, 37, 13⟩) (q2 := ⟨37, 8, 37, 15⟩) (q3 := ⟨37, 8, 37, 24⟩) (q4 := ⟨37, 25, 37, 65⟩) (q5 := ⟨37, 8, 37, 66⟩) (q6 := ⟨37, 8, 37, 66⟩) (q7 := ⟨38, 8, 38, 12⟩) (q8 := ⟨38, 8, 38, 17⟩) (q9 := ⟨38, 25, 38, 29⟩) (q10 := ⟨38, 8, 38, 30⟩) (qa := ⟨38, 20, 38, 24⟩) (qb := ⟨38, 20, 38, 30⟩) z6 (c.err_ 6 rfl) rfl rfl rfl rfl (by decide +kernel) (by decide +kernel) (by decide +kernel) (by decide +kernel) (by decide +kernel) (by decide +kernel) (by decide +kernel) (fun _ _ _ _ _ _ _ _ _ _ _ _ _ _ => rfl))
    (Hd.err_mkL (x := "blames") (msg := "the trials contradict one another") (p1 := ⟨41, 17, 41, 21⟩) (p2 := ⟨41, 23, 41, 29⟩) (q1 := ⟨42, 8, 42, 13⟩) (q2 := ⟨42, 8, 42, 15⟩) (q3 := ⟨42, 8, 42, 24⟩) (q4 := ⟨42, 25, 42, 60⟩) (q5 := ⟨42, 8, 42, 61⟩) (q6 := ⟨42, 8, 42, 61⟩) (q7 := ⟨43, 8, 43, 12⟩) (q8 := ⟨43, 8, 43, 19⟩) (q9 := ⟨43, 27, 43, 33⟩) (q10 := ⟨43, 8, 43, 34⟩) (qa := ⟨43, 22, 43, 26⟩) (qb := ⟨43, 22, 43, 34⟩) z7 (c.err_ 7 rfl) rfl rfl rfl rfl (by decide +kernel) (by decide +kernel) (by decide +kernel) (by decide +kernel) (by decide +kernel) (by decide +kernel) (by decide +kernel) (fun _ _ _ _ _ _ _ _ _ _ _ _ _ _ => rfl))
    (Hd.err_mk (x := "state") (msg := "not a state of the menu") (p1 := ⟨52, 17, 52, 21⟩) (p2 := ⟨52, 23, 52, 28⟩) (q1 := ⟨53, 8, 53, 13⟩) (q2 := ⟨53, 8, 53, 15⟩) (q3 := ⟨53, 8, 53, 24⟩) (q4 := ⟨53, 25, 53, 50⟩) (q5 := ⟨53, 8, 53, 51⟩) (q6 := ⟨53, 8, 53, 51⟩) (q7 := ⟨54, 8, 54, 12⟩) (q8 := ⟨54, 8, 54, 18⟩) (q9 := ⟨54, 21, 54, 26⟩) (q10 := ⟨54, 8, 54, 26⟩) z8 (c.err_ 8 rfl) rfl rfl rfl rfl (by decide +kernel) (by decide +kernel) (by decide +kernel) (by decide +kernel) (by decide +kernel) (fun _ _ _ _ _ _ _ _ _ _ _ _ _ _ => rfl))
    (Hd.err_mk (x := "line") (msg := "line not understood") (p1 := ⟨57, 17, 57, 21⟩) (p2 := ⟨57, 23, 57, 27⟩) (q1 := ⟨58, 8, 58, 13⟩) (q2 := ⟨58, 8, 58, 15⟩) (q3 := ⟨58, 8, 58, 24⟩) (q4 := ⟨58, 25, 58, 46⟩) (q5 := ⟨58, 8, 58, 47⟩) (q6 := ⟨58, 8, 58, 47⟩) (q7 := ⟨59, 8, 59, 12⟩) (q8 := ⟨59, 8, 59, 17⟩) (q9 := ⟨59, 20, 59, 24⟩) (q10 := ⟨59, 8, 59, 24⟩) z9 (c.err_ 9 rfl) rfl rfl rfl rfl (by decide +kernel) (by decide +kernel) (by decide +kernel) (by decide +kernel) (by decide +kernel) (fun _ _ _ _ _ _ _ _ _ _ _ _ _ _ => rfl))
    (Hd.err_mk (x := "row") (msg := "a deed of the run failed") (p1 := ⟨62, 17, 62, 21⟩) (p2 := ⟨62, 23, 62, 26⟩) (q1 := ⟨63, 8, 63, 13⟩) (q2 := ⟨63, 8, 63, 15⟩) (q3 := ⟨63, 8, 63, 24⟩) (q4 := ⟨63, 25, 63, 51⟩) (q5 := ⟨63, 8, 63, 52⟩) (q6 := ⟨63, 8, 63, 52⟩) (q7 := ⟨64, 8, 64, 12⟩) (q8 := ⟨64, 8, 64, 16⟩) (q9 := ⟨64, 19, 64, 22⟩) (q10 := ⟨64, 8, 64, 22⟩) z10 (c.err_ 10 rfl) rfl rfl rfl rfl (by decide +kernel) (by decide +kernel) (by decide +kernel) (by decide +kernel) (by decide +kernel) (fun _ _ _ _ _ _ _ _ _ _ _ _ _ _ => rfl))
    (BareX.ownE_ok z11)
    (BareX.ownE_ok z12)
    (BareX.ownE_ok z13)
    (excB_ok z14)
    (excB_ok z15)
    (excB_ok z16)
    (excB_ok z17)
    (excB_ok z18)
    (excB_ok z19)
    (excB_ok z20)
    (excB_ok z21)
    (excB_ok z22)
    (excB_ok z23)
    (excB_ok z24)
    (excB_ok z25)
    (excB_ok z26)
    (excB_ok z27)
    (of_decide_eq_true z28)
    (of_decide_eq_true z29)
    (of_decide_eq_true z30)
    (of_decide_eq_true z31)
    (of_decide_eq_true z32)
    (of_decide_eq_true z33)
    (of_decide_eq_true z34)
    (of_decide_eq_true z35)
    (of_decide_eq_true z36)
    (of_decide_eq_true z37)
    (of_decide_eq_true z38)
    (of_decide_eq_true z39)
    (of_decide_eq_true z40)
    (of_decide_eq_true z41)
    (of_decide_eq_true z42)
    (of_decide_eq_true z43)
    (of_decide_eq_true z44)
    (of_decide_eq_true z45)
    (of_decide_eq_true z46)
    (of_decide_eq_true z47)
    (of_decide_eq_true z48)
    (of_decide_eq_true z49)
    (of_decide_eq_true z50)
    (of_decide_eq_true z51)
    (of_decide_eq_true z52)
    (of_decide_eq_true z53)
    (of_decide_eq_true z54)
    (of_decide_eq_true z55)
    (of_decide_eq_true z56)
    (of_decide_eq_true z57)
    (of_decide_eq_true z58)
    (of_decide_eq_true z59)
    (of_decide_eq_true z60)
    (of_decide_eq_true z61)
    (of_decide_eq_true z62)
    (of_decide_eq_true z63)
    (of_decide_eq_true z64)
    (of_decide_eq_true z65)
    (of_decide_eq_true z66)
    (of_decide_eq_true z67)
    (of_decide_eq_true z68)
    (of_decide_eq_true z69)
    (of_decide_eq_true z70)
    (of_decide_eq_true z71)
    (of_decide_eq_true z72)
    (of_decide_eq_true z73)
    (of_decide_eq_true z74)
    (of_decide_eq_true z75)
    (of_decide_eq_true z76)
    (of_decide_eq_true z77)
    (of_decide_eq_true z78)
    (of_decide_eq_true z79)
    (of_decide_eq_true z80)
    (of_decide_eq_true z81)
    (of_decide_eq_true z82)
    (of_decide_eq_true z83)
    (of_decide_eq_true z84)
    (of_decide_eq_true z85)
    (of_decide_eq_true z86)
    (of_decide_eq_true z87)
    (of_decide_eq_true z88)
    (of_decide_eq_true z89)
    (of_decide_eq_true z90)
    (of_decide_eq_true z91)
    (of_decide_eq_true z92)
    (of_decide_eq_true z93)
    (of_decide_eq_true z94)
    (of_decide_eq_true z95)
    (of_decide_eq_true z96)
    (of_decide_eq_true z97)
    (of_decide_eq_true z98)
    (of_decide_eq_true z99)
    (of_decide_eq_true z100)
    (of_decide_eq_true z101)
    (of_decide_eq_true z102)
    (of_decide_eq_true z103)
    (of_decide_eq_true z104)
    (of_decide_eq_true z105)
    (of_decide_eq_true z106)
    (of_decide_eq_true z107)
    (of_decide_eq_true z108)
    (of_decide_eq_true z109)
    (of_decide_eq_true z110)
    (of_decide_eq_true z111)
    (of_decide_eq_true z112)
    (of_decide_eq_true z113)
    (of_decide_eq_true z114)
    (of_decide_eq_true z115)
    (of_decide_eq_true z116)
    (of_decide_eq_true z117)
    (of_decide_eq_true z118)
    (of_decide_eq_true z119)
    (of_decide_eq_true z120)
    (of_decide_eq_true z121)
    (of_decide_eq_true z122)
    (of_decide_eq_true z123)
    (of_decide_eq_true z124)
    (of_decide_eq_true z125)
    (of_decide_eq_true z126)
    (of_decide_eq_true z127)
    (of_decide_eq_true z128)
    (of_decide_eq_true z129)
    (of_decide_eq_true z130)
    (of_decide_eq_true z131)
    (of_decide_eq_true z132)
    (of_decide_eq_true z133)
    (of_decide_eq_true z134)
    (of_decide_eq_true z135)
    (of_decide_eq_true z136)
    (of_decide_eq_true z137)
    (of_decide_eq_true z138)
    (of_decide_eq_true z139)
    (of_decide_eq_true z140)
    (of_decide_eq_true z141)
    (of_decide_eq_true z142)
    (of_decide_eq_true z143)
    (of_decide_eq_true z144)
    (of_decide_eq_true z145)
    (of_decide_eq_true z146)
    (of_decide_eq_true z147)
    (of_decide_eq_true z148)
    (of_decide_eq_true z149)
    (of_decide_eq_true z150)
    (of_decide_eq_true z151)
    (of_decide_eq_true z152)
    (of_decide_eq_true z153)
    (of_decide_eq_true z154)
    (of_decide_eq_true z155)
    (of_decide_eq_true z156)
    (of_decide_eq_true z157)
    (of_decide_eq_true z158)
    (of_decide_eq_true z159)
    (of_decide_eq_true z160)
    (of_decide_eq_true z161)
    (of_decide_eq_true z162)
    (of_decide_eq_true z163)
    (of_decide_eq_true z164)
    (of_decide_eq_true z165)
    (of_decide_eq_true z166)
    (of_decide_eq_true z167)
    (of_decide_eq_true z168)
    (of_decide_eq_true z169)
    (of_decide_eq_true z170)
    (of_decide_eq_true z171)
    (of_decide_eq_true z172)
    (of_decide_eq_true z173)
    (of_decide_eq_true z174)
    (of_decide_eq_true z175)
    (of_decide_eq_true z176)
    (of_decide_eq_true z177)
    (of_decide_eq_true z178)
    (of_decide_eq_true z179)
    (of_decide_eq_true z180)
    (of_decide_eq_true z181)
    (of_decide_eq_true z182)
    (of_decide_eq_true z183)
    (of_decide_eq_true z184)
    (of_decide_eq_true z185)
    (of_decide_eq_true z186)
    (of_decide_eq_true z187)
    (of_decide_eq_true z188)
    (of_decide_eq_true z189)
    (of_decide_eq_true z190)
    (of_decide_eq_true z191)
    (of_decide_eq_true z192)
    (of_decide_eq_true z193)
    (of_decide_eq_true z194)
    (of_decide_eq_true z195)
    (of_decide_eq_true z196)
    (of_decide_eq_true z197)
    (of_decide_eq_true z198)
    (of_decide_eq_true z199)
    (of_decide_eq_true z200)
    (of_decide_eq_true z201)
    (of_decide_eq_true z202)
    (of_decide_eq_true z203)
    (of_decide_eq_true z204)
    (of_decide_eq_true z205)
    (of_decide_eq_true z206)
    (of_decide_eq_true z207)
    (of_decide_eq_true z208)
    (of_decide_eq_true z209)
    (of_decide_eq_true z210)
    (of_decide_eq_true z211)
    (of_decide_eq_true z212)
    (of_decide_eq_true z213)
    (of_decide_eq_true z214)
    (of_decide_eq_true z215)
    (of_decide_eq_true z216)
    (of_decide_eq_true z217)
    (of_decide_eq_true z218)
    (of_decide_eq_true z219)
    (of_decide_eq_true z220)
    (of_decide_eq_true z221)
    (of_decide_eq_true z222)
    (of_decide_eq_true z223)
    (of_decide_eq_true z224)
    (of_decide_eq_true z225)
    (of_decide_eq_true z226)
    (of_decide_eq_true z227)
    (of_decide_eq_true z228)
    (of_decide_eq_true z229)
    (of_decide_eq_true z230)
    (of_decide_eq_true z231)
    (of_decide_eq_true z232)
    (of_decide_eq_true z233)
    (of_decide_eq_true z234)
    (of_decide_eq_true z235)
    (of_decide_eq_true z236)
    (of_decide_eq_true z237)
    (of_decide_eq_true z238)
    (of_decide_eq_true z239)
    (of_decide_eq_true z240)
    (of_decide_eq_true z241)
    (of_decide_eq_true z242)
    (of_decide_eq_true z243)
    (of_decide_eq_true z244)
    (of_decide_eq_true z245)
    (of_decide_eq_true z246)
    (of_decide_eq_true z247)
    (of_decide_eq_true z248)
    (of_decide_eq_true z249)
    (of_decide_eq_true z250)
    (of_decide_eq_true z251)⟩
end Pf
open PySem PySem.W PySem.Calls PyProof.Rows
set_option maxHeartbeats 0 in
theorem PySem.Challenge.cw_rungbounds_k57_errors_and_their_fields_holds : PySem.Challenge.rw_rungbounds_k57_errors_and_their_fields.Holds := by
  w_on; o_law
  refine HandSHeadRun.head_any (r := OpenLaw.row PySem.Challenge.rw_rungbounds_k57_errors_and_their_fields) (q := view (OpenLaw.row PySem.Challenge.rw_rungbounds_k57_errors_and_their_fields).prog [22]) (H := Pf.hk) (ob := Pf.ob) (M := 6000) (loose := Pf.loose) (d := HandSHeadRun.topDef (OpenLaw.row PySem.Challenge.rw_rungbounds_k57_errors_and_their_fields).prog 22) (kwd := []) Pf.ob_eq
    (by kernel_rfl) (fun s => by kernel_rfl) Pf.run (by kernel_rfl) (by kernel_rfl) (by kernel_rfl) (by rfl) (by first | assumption | decide +kernel) (by decide +kernel) ⟨rfl, rfl, rfl, rfl, rfl, by decide +kernel⟩ ?hw ?hc
  case hw => w_witness2
  case hc =>
    refine L2.walk_ofE (l := PySem.Challenge.rw_rungbounds_k57_errors_and_their_fields) (n := 63) (k := 3) (x := "_law_script") (CX := L2.CX0) rfl (by decide) (by kernel_rfl) ⟨rfl, by decide, by decide⟩ ?F (fun _ _ _ _ z => z)
    intro w mg fa h Y G hmg0
    obtain ⟨K, KX, c⟩ := Y
    have hmg : mg ("law" : PySem.Str) = some (.ref fa) := by
      have e : (HandSHeadRun.topDef (OpenLaw.row PySem.Challenge.rw_rungbounds_k57_errors_and_their_fields).prog 22).name = ("law" : PySem.Str) := by kernel_rfl
      rw [← e]
      exact hmg0
    obtain ⟨T⟩ := Pf.facts KX G c
    have e := hmg.symm.trans T.m_law
    cases e
    have b := L2.FunD.bindsA (ps := ["_law_script"]) T.F_law fun _ _ _ _ _ _ us hl => match us, hl with | [_], _ => rfl
    exact ⟨K, T.fd_law, Pf.sp_law K, KX, fun s v => b s [v] rfl, fun H a ns hl hO hS => ⟨a, ns, rfl, hS, hl, fun _ => rfl⟩, fun base hb hn => Pf.ok_law0 (w := w) (base := base) T⟩
#print axioms PySem.Challenge.cw_rungbounds_k57_errors_and_their_fields_holds
