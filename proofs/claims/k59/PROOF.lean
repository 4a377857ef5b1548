import PyProof.Rows.All
import Wide.All
import OpenK.AllK
import Wide.FinOn
import KE.KStateDown
import KE.KExcSuper
import KE.KExcIs
import Lean
import HandS.ForMost
import HandS.ForExc
import HandS.ExcSuper
import HandS.ExcField
import HandS.ExcIs
import HandS.Defaults
import HandS.HeadHook3
import HandS.HeadEnd
import HandS.Head2
import HandS.WideBits
import HandS.Wide
import HandS.Evl
import HandS.CallSlots
import HandS.IsInst
import HandS.Codes
import HandS.SortInts
import HandS.Flow
import HandS.More
import HandS.Star
import HandS.ClsMeth
import HandS.HeadNt
import HandS.OwnEq
import HandS.Style
import HandS.FStr
import KE.KCallOwn
import KE.GoesEnum
import HandS.Walk
import HandS.EndBits
import KE.KSuper
import KE.KSuperObj
import HandS.Conv
import PyProof.DictDisplay
import HandS.MakeKwOnly
import HandS.MakeKw
import HandS.Deep
import HandS.TryMany
import HandS.ExcValue
import HandS.SetBool
import HandS.Strs
import OpenK.KMeth
import OpenK.KOps
import KE.DataCmp
import KE.SortData
import PyProof.AttrMiss
import HandS.Zip
import HandS.TupAny
import HandS.TryOnly
import HandS.TupMul
import KE.GoesMore
import KE.GoesZip
import HandS.Text
import PyProof.StrOps2
import HandS.ExcOwn
import HandS.Flt
import HandS.DictComp
import KE.KIntText
import PySem.Challenge.RW_rungbounds_k59_whole_trials_written_and
set_option Elab.async false
set_option linter.all false
set_option maxRecDepth 100000
set_option maxHeartbeats 8000000
set_option exponentiation.threshold 10000
namespace PySem
namespace ErrX
open PySem.W PySem.Calls PyProof.Rows PySem.HandSPX
def iA (x : Str) (p1 p2 : Pos) : Arguments := { posonlyargs := [], args := [{ arg := "self", annotation := none, pos := p1 }, { arg := x, annotation := none, pos := p2 }], vararg := none, kwonlyargs := [], kw_defaults := [], kwarg := none, defaults := [] }
def iB (x f msg : Str) (q1 q2 q3 q4 q5 q6 q7 q8 q9 q10 : Pos) : List Stmt :=
  [.Expr (.Call (.Attribute (.Call (.Name "super" q1) [] [] q2) "__init__" q3) [.Constant (.str msg) 0 q4] [] q5) q6,
   .Assign [.Attribute (.Name "self" q7) f q8] (.Name x q9) q10]
def iS (x : Str) : Scope := { kind := .function, names := [(PySem.Str.ofString "self", .local), (x, .local), (PySem.Str.ofString "__class__", .free), (PySem.Str.ofString "super", .globalImplicit)], isGenerator := false, isCoroutine := false, more := [] }
structure ErrTxt (P : Program) (K : Frag) (C : Addr) (x f : Str) : Prop where
  cls : ∃ nm q N bs bm sn sub ab col dd k0 k1 k2 k3 k5, K.lookup C = some (excClassObj nm q C N bs bm true sn sub ab col dd k0 k1 k2 k3 k5 "ValueError.__new__") ∧ refsVE bm = true
  along : ∃ cd, clsIn K C = some cd ∧ alongIn K "__init__" ((cd.mro.dropWhile (· != .ref C)).drop 1) = some (some (.builtin "ValueError.__init__"))
  opq : nsIn K cStatics "thirdparty.any" = some none
  selfC : mroIn K C (.ref C) = some true
  ve : subIn K (.ref C) (.type "ValueError") = some true
  sa : findIn K (.ref C) "__setattr__" = some (some (.builtin "object.__setattr__"))
  ga : findIn K (.ref C) "__getattribute__" = some (some (.builtin "BaseException.__getattribute__"))
  gg : findIn K (.ref C) "__getattr__" = some none
  noN : findIn K (.ref C) f = some none
  kC : keepIn K (.ref C) = true
  exC : subIn K (.ref C) (.type "BaseException") = some true
  tyC : typeIn K (.ref C) = some (.type "type")
  hdC : hasDictIn K C = true
  fn : ∃ fI, findIn K (.ref C) "__init__" = some (some (.ref fI)) ∧ typeIn K (.ref fI) = some (.type "function") ∧
    ∃ (oc : Value) (od : Option Addr) (doc pm kV : Value) (an : Option Addr) (cda cc : Addr) (ct : Value) (osl : Array (Option Value)) (nm qual msg : Str) (p1 p2 q1 q2 q3 q4 q5 q6 q7 q8 q9 q10 : Pos),
      (q3.endLine == q5.line) = true ∧ K.lookup fI = some ⟨oc, od, .func (ksFn nm qual (iA x p1 p2) (iB x f msg q1 q2 q3 q4 q5 q6 q7 q8 q9 q10) (iS x) .none kV doc pm an (.ref cda) ct cc), osl⟩ ∧ codeIn K (.ref cda) qual = true ∧
      (∃ ccl cdd vs ccs file tf, K.lookup cda = some ⟨ccl, cdd, .fields vs, ccs⟩ ∧ vs[2]? = some (.str file tf) ∧ ((P.main.file : Str) == file) = true) ∧
      ∃ cl cld csl, K.lookup cc = some ⟨cl, cld, .cell (some (.ref C)), csl⟩
  top : (P.main.scope.names.lookup ("super" : Str)).isSome = false
  xs : (x == ("self" : Str)) = false
  xc : (("__class__" : Str) == x) = false
  xu : (("super" : Str) == x) = false
  xd : (x == ("__debug__" : Str)) = false
  bnd : ∀ (nm qual : Str) (Bd : List Stmt) (kV doc pm : Value) (an : Option Addr) (cdv ct : Value) (cc : Addr) (p1 p2 : Pos) (u v : Value), bindArgs (ksFn nm qual (iA x p1 p2) Bd (iS x) .none kV doc pm an cdv ct cc) ⟨[u, v], []⟩ = pure [(("self" : Str), u), (x, v)]
theorem one_size (v : Value) : [v].length ≤ sizeLine := by
  rw [sizeLine_eq]
  exact (by decide : 1 ≤ 16777216)
structure Made (h h' : Heap) (e C d : Addr) (f : Str) (v : Value) : Prop where
  keep : ∀ b o, h.get? b = some o → h'.get? b = some o
  new : h.objs.size ≤ e
  obj : ∃ oe vs, h'.get? e = some oe ∧ oe.cls = .ref C ∧ oe.dict = some d ∧ oe.data = .fields vs ∧ vs[1]? = some .none
  dbig : h.objs.size ≤ d
  dne : d ≠ e
  ns : h'.Ns1 d (fun y => if y = f then some v else none)
section
variable {prog : Program} {w : World} {A : Around} {E : Value → Shared → Prop} {h : Heap} {g : Array GenState} {d : Drawn} {t : Nat} {os : OsState}
variable {nm q : Str} {C N : Addr} {bs bm : List Value} {hdct : Bool} {sn : List Str} {sub : List Value} {ab : Bool} {col : Option Bool} {dd : Option Addr} {k0 k1 k2 k3 k5 : Option Value}
theorem call_bw {u e t0 : Addr} {rest : List Value} {Q : Value → Shared → Prop}
    (hC : h.get? C = some (excClassObj nm q C N bs bm hdct sn sub ab col dd k0 k1 k2 k3 k5 "ValueError.__new__")) (he : h.get? e = some (excO C t0)) (hu : h.get? u = some (kxs_mw "ValueError.__init__" e)) (hrest : rest.length ≤ sizeLine)
    (hq : ∀ h' t1, (∀ b o, b ≠ e → h.get? b = some o → h'.get? b = some o) → h'.get? e = some (excO C t1) → Q .none ⟨h', g, d, t, os⟩) :
    wpAny (model prog w) A (call (.ref u) rest) Q E ⟨h, g, d, t, os⟩ := by
  refine wpAny_call (codeAny_of_tree ?_)
  show wpAny _ A.in1 (callAny (.ref u) ⟨rest, []⟩) _ _ _
  simp only [callAny]
  refine wpAny_bind (wpAny_load hu ?_)
  simp only [kxs_mw, show (Value.type "method-wrapper" == Value.type "method" || Value.type "method-wrapper" == Value.type "builtin_function_or_method" || Value.type "method-wrapper" == Value.type "method-wrapper") = true by decide, if_true]
  refine W.KFB.if_so (by decide) ?_
  refine wpAny_bind (ESX.check_bound F.excBase_ValueError hC he rfl ?_)
  refine wpAny_bind (wpAny_pure (wpAny_pure ?_))
  refine ⟨Code.quiet_builtin _ (by decide +kernel), codeAny_builtin F.excBase_ValueError.initEntry ?_⟩
  rw [Around.under_plainId F.excBase_ValueError.init.plain _]
  wp_walk
  refine hq _ h.objs.size (fun b o hb ho => ?_) ?_
  · rw [Heap.get?_update_other _ _ (Ne.symm hb)]
    exact Heap.get?_push_of_some _ ho
  · rw [Heap.get?_update_self _ (Heap.get?_push_of_some _ he) rfl]
    rfl
end
section
variable {prog : Program} {w : World} {A : Around} {E : Value → Shared → Prop} {R : Result → Shared → Prop} {s : Shared} {K : Frag} {mg mb : Str → Option Value} {C : Addr} {x f : Str}
structure InitEnd (h h' : Heap) (e C dx : Addr) (f : Str) (v : Value) : Prop where
  keep : ∀ b o, b ≠ e → h.get? b = some o → h'.get? b = some o
  obj : ∃ t1, h'.get? e = some { cls := .ref C, dict := some dx, data := .fields #[.ref t1, .none, .none, .none, .bool false, .none] }
  dbig : h.objs.size ≤ dx
  dne : dx ≠ e
  ns : h'.Ns1 dx (fun y => if y = f then some v else none)
theorem clsIn_of {nm q : Str} {N : Addr} {bs bm : List Value} {sn : List Str} {sub : List Value} {ab : Bool} {col : Option Bool} {dd : Option Addr} {k0 k1 k2 k3 k5 : Option Value}
    (hC : K.lookup C = some (excClassObj nm q C N bs bm true sn sub ab col dd k0 k1 k2 k3 k5 "ValueError.__new__")) :
    clsIn K C = some { name := nm, bases := bs, mro := .ref C :: bm, ns := N, qualname := q, hasDict := true, slotNames := sn, subclasses := sub, abstract := ab, collection := col, hasDel := false } := by
  unfold clsIn; rw [hC] <;> rfl
theorem mcall_one {o : Expr} {m : Str} {apos pos : Pos} {env : Env} {ov : Value} {n : Nat} {args : List (Bool × Sem Value)} (hf : methodCallForm n args [] = true) (hl : (apos.endLine == pos.line) = true) :
    methodCall o m apos pos env ov n args [] = (do
      let (f, first) ← holding [ov] (getMethod ov m (do return (← importBound o env).getD true))
      callWith pos f first args []) := by
  have e1 : calleeOf (methodCallForm n args []) o env ov m = getMethod ov m (do return (← importBound o env).getD true) := by
    rw [hf] <;> rfl
  have e2 : methodCallPos (methodCallForm n args []) o env apos pos = pure pos := by
    unfold methodCallPos
    exact if_pos (by rw [hl, Bool.or_true])
  unfold methodCall
  rw [e1, e2]
  first
    | rfl
    | simp only [pure_bind]
theorem look_x (T : ErrTxt prog K C x f) : (iS x).names.lookup x = some .local := by
  have e := T.xs
  have e2 : (x == PySem.Str.ofString "self") = false := e
  simp [iS, List.lookup, e2]
theorem look_c (T : ErrTxt prog K C x f) : (iS x).names.lookup ("__class__" : Str) = some .free := by
  have e := T.xc
  have e0 : ((PySem.Str.ofString "__class__") == PySem.Str.ofString "self") = false := by decide +kernel
  have e2 : (PySem.Str.ofString "__class__" == x) = false := e
  show List.lookup (PySem.Str.ofString "__class__") (iS x).names = _
  simp [iS, List.lookup, e2, e0]
theorem look_u (T : ErrTxt prog K C x f) : (iS x).names.lookup ("super" : Str) = some .globalImplicit := by
  have e := T.xu
  have e0 : ((PySem.Str.ofString "super") == PySem.Str.ofString "self") = false := by decide +kernel
  have e1 : ((PySem.Str.ofString "super") == PySem.Str.ofString "__class__") = false := by decide +kernel
  have e2 : (PySem.Str.ofString "super" == x) = false := e
  show List.lookup (PySem.Str.ofString "super") (iS x).names = _
  simp [iS, List.lookup, e2, e0, e1]
theorem look_s : (iS x).names.lookup ("self" : Str) = some .local := by
  show List.lookup (PySem.Str.ofString "self") (iS x).names = _
  simp [iS, List.lookup]
theorem err_init (T : ErrTxt prog K C x f) {e t0 fI : Addr} {v : Value} (hfI : findIn K (.ref C) "__init__" = some (some (.ref fI))) (X : K.In s.heap) (G : s.heap.Ns mainGlobals mg) (Gs : mg "super" = none) (B : s.heap.Ns builtinsNs mb) (Bs : mb "super" = some (.type "super"))
    (hlim : s.heap.NoLimit) (hx : s.heap.get? e = some (excO C t0)) (hnx : K.lookup e = none) (hroom : A.depth < recursionLimit)
    (hq : ∀ h' tk dx, InitEnd s.heap h' e C dx f v → R (.ok (.ret .none)) { s with heap := h', toks := tk }) :
    codeAny (model prog w) A (.call (.ref fI) ⟨[.ref e, v], []⟩) R s := by
  obtain ⟨fI', hfI', hty, oc, od, doc, pm, kV, an, cda, cc, ct, osl, nm0, qual, msg, p1, p2, q1, q2, q3, q4, q5, q6, q7, q8, q9, q10, hln, ho, hcd, ⟨ccl, cdd, cvs, ccs, file, tf, hcode, hvs, hfile⟩, ⟨cl, cld, csl, hcell⟩⟩ := T.fn
  have ef : fI' = fI := by
    have z := hfI'.symm.trans hfI
    simpa using z
  subst ef
  obtain ⟨nm, q, N, bs, bm, sn, sub, ab, col, dd, k0, k1, k2, k3, k5, hC, hbm⟩ := T.cls
  have hcl := clsIn_of hC
  obtain ⟨cd', hcd', hal⟩ := T.along
  have hcdE := hcd'
  rw [hcl] at hcd'
  have hcd'' := (Option.some.inj hcd')
  have hlx := look_x T
  have hlc := look_c T
  have hlu := look_u T
  have hls := look_s (x := x)
  refine ks_codeAny_call_defAt (fd := ksFn nm0 qual (iA x p1 p2) (iB x f msg q1 q2 q3 q4 q5 q6 q7 q8 q9 q10) (iS x) .none kV doc pm an (.ref cda) ct cc) (binds := [("self", .ref e), (x, v)]) hroom (X _ _ ho) rfl hlim (codeRec_of X hcd) rfl
    (BindsTo.of_eq (T.bnd ..)) ?hcell ?hloc (fun h₁ hns hk₁ => ?_) rfl rfl rfl
  case hcell =>
    intro y hy
    have hy' : y ∈ [(PySem.Str.ofString "self", NameKind.local), (x, NameKind.local), (PySem.Str.ofString "__class__", NameKind.free), (PySem.Str.ofString "super", NameKind.globalImplicit)] := hy
    simp only [List.mem_cons, List.not_mem_nil, or_false] at hy'
    rcases hy' with rfl | rfl | rfl | rfl <;> (intro z; cases z)
  case hloc =>
    intro y hy
    simp only [List.mem_cons, List.not_mem_nil, or_false] at hy
    rcases hy with rfl | rfl
    · exact hls
    · exact hlx
  have X₁ : K.In h₁ := X.keeps hk₁
  have hx₁ := hk₁ _ _ hx
  have hmx : (fun y => List.lookup y ([(("self" : Str), Value.ref e), (x, v)] : List (Str × Value)).reverse) x = some v := by simp [List.lookup]
  have hms : (fun y => List.lookup y ([(("self" : Str), Value.ref e), (x, v)] : List (Str × Value)).reverse) ("self" : Str) = some (.ref e) := by
    have e1 : (("self" : Str) == x) = false := by
      rw [Bool.eq_false_iff]
      intro z
      have z2 := (beq_iff_eq.mp z)
      have z3 := T.xs
      rw [← z2] at z3
      simp at z3
    simp [List.lookup, e1]
  obtain ⟨hp, g, dr, tk, os⟩ := s
  have hlc' : (ksEnv qual (iS x) hp.objs.size fI' (.ref cda) cc).kindOf "__class__" = some .free := hlc
  have hlu' : (ksEnv qual (iS x) hp.objs.size fI' (.ref cda) cc).kindOf "super" = some .globalImplicit := hlu
  have hls' : (ksEnv qual (iS x) hp.objs.size fI' (.ref cda) cc).kindOf "self" = some .local := hls
  have hlx' : (ksEnv qual (iS x) hp.objs.size fI' (.ref cda) cc).kindOf x = some .local := hlx
  obtain ⟨oD, hD1, hD2⟩ : ∃ oD, h₁.get? C = some oD ∧ ∃ cdc, oD.data = .cls cdc := ⟨_, X₁ _ _ hC, _, rfl⟩
  obtain ⟨cdc, hD2⟩ := hD2
  have I1 : InstAt h₁ e (excO C t0) C none := ⟨hx₁, rfl, rfl, trivial⟩
  show wpAt _ _ _ (execs (iB x f msg q1 q2 q3 q4 q5 q6 q7 q8 q9 q10) (ksEnv qual (iS x) hp.objs.size fI' (.ref cda) cc)) _ _ _
  refine ks_wpAt_execs_cons (ks_wpAt_Expr_any (ks_wpAt_MethodCall (pl := (do return (← importBound (.Call (.Name "super" q1) [] [] q2) (ksEnv qual (iS x) hp.objs.size fI' (.ref cda) cc)).getD true)) ?_ ?he))
  case he =>
    rw [arm_eval_Call]
    refine congrArg _ (funext fun ov => ?_)
    refine congrArg _ (funext fun _ => ?_)
    exact mcall_one rfl hln
  refine ks_wpAt_super_base (env := ksEnv qual (iS x) hp.objs.size fI' (.ref cda) cc) hlu' hlc' (by decide +kernel) rfl (X₁ _ _ ho) rfl rfl rfl (X₁ _ _ hcode) rfl hvs hfile T.top ?_
  refine ks_loadName_global rfl hlu' (loadGlobal_builtin (env := ksEnv qual (iS x) hp.objs.size fI' (.ref cda) cc) (G.keeps hk₁) Gs (B.keeps hk₁) Bs ⟨rfl, ?_⟩)
  refine wpAny_loadName_free rfl hlc' rfl ⟨_, X₁ _ _ hcell, rfl⟩ ?_
  refine wpAny_loadName_local rfl hls' hns hms ?_
  refine ks_wpAny_isType_cls hD1 hD2 ⟨rfl, ?_⟩
  refine ks_wpAny_call_super hD1 hD2 hx₁ rfl (fun c z => by cases z) (looks_mroIn X₁ T.selfC) (fun h₂ e₂ k₂ => ?_)
  have X₂ : K.In h₂ := X₁.keeps k₂
  have hx₂ := k₂ _ _ hx₁
  have I2 : InstAt h₂ e (excO C t0) C none := ⟨hx₂, rfl, rfl, trivial⟩
  have hI2 : Looks (model prog w) h₂ (isInstance (.ref e) (.type "ValueError")) true := I2.type.andThen (looks_subIn X₂ T.ve)
  refine kxs_getMethod kxs_ValueError e₂ (looks_opaque X₂ T.opq) (l₀ := cd'.mro) (fun A Q E s k q => wpAny_bind ((looks_clsIn X₂ hcdE) A _ E s k (wpAny_pure q))) rfl X₂ hal hI2 (ks_ne X₂ I2 hcdE) (by decide +kernel) ?_
  have hu₃ : (h₂.push (kxs_mw "ValueError.__init__" e)).get? h₂.objs.size = some (kxs_mw "ValueError.__init__" e) := Heap.get?_push_at rfl rfl
  have k₃ : ∀ b o, h₂.get? b = some o → (h₂.push (kxs_mw "ValueError.__init__" e)).get? b = some o := fun b o z => Heap.get?_push_of_some _ z
  refine kxs_callWith (i := "ValueError.__init__") (x := e) rfl ?_
  refine evalArgs_plain (PyProof.Rows.spliced_more (Constant_str (PyProof.Rows.spliced_none ?_)))
  refine ⟨hu₃, ?_⟩
  show wpAny _ _ (call (.ref h₂.objs.size) [_]) _ _ _
  refine call_bw (nm := nm) (q := q) (N := N) (bs := bs) (bm := bm) (hdct := true) (sn := sn) (sub := sub) (ab := ab) (col := col) (dd := dd) (k0 := k0) (k1 := k1) (k2 := k2) (k3 := k3) (k5 := k5) (X₂.keeps k₃ _ _ hC) (k₃ _ _ hx₂) hu₃ (one_size _) (fun h₄ t1 k₄ hx₄ => ?_)
  have hk14 : ∀ b o, b ≠ e → h₁.get? b = some o → h₄.get? b = some o := fun b o hb z => k₄ b o hb (k₃ b o (k₂ b o z))
  have hLe : hp.objs.size ≠ e := Nat.ne_of_gt (Heap.lt_size hx)
  have hns₄ : h₄.Ns hp.objs.size (fun y => List.lookup y ([(("self" : Str), Value.ref e), (x, v)] : List (Str × Value)).reverse) := by
    obtain ⟨o, es, ep, ho1, r⟩ := hns
    exact ⟨o, es, ep, hk14 _ _ hLe ho1, r⟩
  have X₄ : K.In h₄ := fun a o z => hk14 a o (fun y => by rw [y, hnx] at z; cases z) (X₁ a o z)
  refine ks_wpAt_execs_cons (ks_wpAt_Assign_Attr (wpAt_of_wpAny (ESX.ldL (env := ksEnv qual (iS x) hp.objs.size fI' (.ref cda) cc) hns₄ hmx (ESX.ldL (env := ksEnv qual (iS x) hp.objs.size fI' (.ref cda) cc) hns₄ hms ?_ rfl hls' (by decide)) rfl hlx' T.xd)))
  refine set_plain X₄ (ox := excO C t1) (od := none) ⟨hx₄, rfl, rfl, trivial⟩ T.sa ?_
  refine exc_osa X₄ hx₄ hcl (show refsVE (.ref C :: bm) = true from hbm) rfl T.noN (fun h₅ tk₅ dx k₅ dn dne hx₅ hn₅ => ?_)
  refine wpAt_of_wpAny (wpAny_execs_nil (hq h₅ tk₅ dx ⟨fun b o hb z => k₅ b o hb (hk14 b o hb (hk₁ b o z)), ⟨t1, hx₅⟩, ?_, dne, hn₅⟩))
  refine Nat.le_trans ?_ dn
  obtain ⟨o, es, ep, ho1, r⟩ := hns₄
  exact Nat.le_of_lt (Heap.lt_size ho1)
theorem err_made (T : ErrTxt prog K C x f) {v : Value} (X : K.In s.heap) (G : s.heap.Ns mainGlobals mg) (Gs : mg "super" = none) (B : s.heap.Ns builtinsNs mb) (Bs : mb "super" = some (.type "super")) (hlim : s.heap.NoLimit) (hroom : A.depth + 1 < recursionLimit)
    (hq : ∀ h' tk e d, Made s.heap h' e C d f v → R (.ok (.ret (.ref e))) { s with heap := h', toks := tk }) :
    codeAny (model prog w) A (.call (.ref C) ⟨[v], []⟩) R s := by
  obtain ⟨nm, q, N, bs, bm, sn, sub, ab, col, dd, k0, k1, k2, k3, k5, hC, hbm⟩ := T.cls
  obtain ⟨fI, iC, tC, _⟩ := id T.fn
  obtain ⟨hp, g, dr, tk, os⟩ := s
  have k : ∀ b o, hp.get? b = some o → ((hp.push (kdv_tup [v])).push (excO C hp.objs.size)).get? b = some o := fun b o e => Heap.get?_push_of_some _ (Heap.get?_push_of_some _ e)
  have hget : ((hp.push (kdv_tup [v])).push (excO C hp.objs.size)).get? (hp.objs.size + 1) = some (excO C hp.objs.size) := by heap_get
  have hnx : K.lookup (hp.objs.size + 1) = none := by
    cases e : K.lookup (hp.objs.size + 1) with
    | none => rfl
    | some o =>
      have z : hp.get? (hp.objs.size + 1) = some o := X _ _ e
      exact absurd (Nat.lt_of_succ_lt (Heap.lt_size z)) (Nat.lt_irrefl _)
  refine call_own F.excBase_ValueError (fun X => refsVE_contains X bm hbm) (X _ _ hC) (looks_findIn X iC) (fun self => bind_fn X self tC) (one_size v) ?_
  refine err_init (s := ⟨(hp.push (kdv_tup [v])).push (excO C hp.objs.size), g, dr, tk, os⟩) T iC (X.keeps k) (G.keeps k) Gs (B.keeps k) Bs (hlim.keeps k) hget hnx ?_ fun h' tk' dx ⟨k', ⟨t1, hx⟩, dn, dne, hns⟩ => ?_
  · show A.depth + 1 < recursionLimit
    exact hroom
  · have old : ∀ b o, hp.get? b = some o → h'.get? b = some o := fun b o e => k' b o (Nat.ne_of_lt (Nat.lt_succ_of_lt (Heap.lt_size e))) (k b o e)
    have z : hp.objs.size + 1 + 1 ≤ dx := by
      first
        | (simpa only [Heap.size_push] using dn)
        | exact dn
        | (have q := dn; rw [Heap.size_push, Heap.size_push] at q; exact q)
    exact ⟨rfl, hq h' tk' (hp.objs.size + 1) dx ⟨old, Nat.le_succ _, ⟨_, _, hx, rfl, rfl, rfl, rfl⟩, Nat.le_trans (Nat.le_trans (Nat.le_succ _) (Nat.le_succ _)) z, dne, hns⟩⟩
end
end ErrX
end PySem
namespace L2
open PySem PySem.Spec PyProof.Rows
theorem relO_one {v : V} {v' : Value} (r : RelV v v') (x f : Str) : RelO (List.lookup f [(x, v)]) (if f = x then some v' else none) := by
  by_cases hw : f = x
  · subst hw
    rw [if_pos rfl]
    have q : List.lookup f [(f, v)] = some v := by simp [List.lookup]
    rw [q]
    exact r
  · rw [if_neg hw]
    have qw : (f == x) = false := by simpa using hw
    have q2 : List.lookup f [(x, v)] = none := by simp [List.lookup, qw]
    rw [q2]
    trivial
def tMkErr (C : Addr) (f : Str) (ta : TA) : St → Hp → XK → Prop := fun σ H Q => ta σ H fun vs H1 => ∃ v, vs = [v] ∧ ∀ d, H1 d = none → Q (.ref C) (some d) (upd H1 d (.xd [(f, v)]))
section
variable {X : Cx} {C : Addr} {x f nm : Str}
theorem pmk_err {a : Expr} {ta : TA} {p pos : Pos} {k : Nat} (T : PySem.ErrX.ErrTxt X.prog X.K C x f) (hm : X.mg nm = some (.ref C)) (hsu : X.mg "super" = none) (hr : Room k X.A) (ha : PA X [a] ta) (hg : Gl X nm := by rfl) (hdb : (nm == ("__debug__" : Str)) = false := by decide)
    (he : starEach (a :: []) X.env = (false, eval a X.env) :: starEach [] X.env := by rfl) (hpl : (backTo pos (starEach [] X.env)).any (·.1) = false := by rfl) :
    PMk X (.Call (.Name nm p) [a] [] pos) (tMkErr C f ta) := by
  intro pins s σ H Q I h
  refine wpAny_Call_Name_kw (ld_glob I hg hm ?_ hdb)
  refine PySem.W.callWith_K (h₀ := X.base) I.ok.mod.kin T.kC (thn (ha.run pos pins s σ H _ I h) fun us s1 hh => ?_) he hpl
  obtain ⟨vs, H1, I1, r1, v, ev, q1⟩ := hh
  subst ev
  refine ⟨I1.kIn, ?_⟩
  cases r1 with
  | cons rv rn =>
    rename_i v' us'
    cases rn
    show wpAny _ _ (call (.ref C) [v']) _ _ _
    have hlim := I1.nolimit
    have hG := I1.mod.glob.keeps I1.bk
    obtain ⟨mb, hb1, hb2⟩ := I1.mod.blt
    have hB := hb1.keeps I1.bk
    obtain ⟨hp, g, dr, tk, os⟩ := s1
    refine wpAny_call (PySem.ErrX.err_made T I1.kIn hG hsu hB ((hb2 "super" (by decide)).trans (by decide +kernel)) hlim (by have := hr.dp; omega) fun h' tk' e d M => ?_)
    show MkP X pins σ Q (.ref e) ⟨h', g, dr, tk', os⟩
    obtain ⟨oe, fv, hoe, hc, hd, hdat, h1⟩ := M.obj
    have hns := M.ns
    obtain ⟨G', g1, g2⟩ := restrict h' fun b => decide (b ≠ e)
    have gk : ∀ b, b ≠ e → G'.get? b = h'.get? b := fun b hb => g1 b (decide_eq_true hb)
    have ge : G'.get? e = none := g2 e (by simp)
    have old : ∀ b o, hp.get? b = some o → G'.get? b = some o := fun b o q => (gk b (Nat.ne_of_lt (Nat.lt_of_lt_of_le (Heap.lt_size q) M.new))).trans (M.keep b o q)
    have ob : ObjOk X.prog X.w (upd H1 d (.xd [(f, v)])) G' d (.xd [(f, v)]) :=
      ⟨_, hns.at (fun o q => (gk d M.dne).trans q), fun y => relO_one rv f y⟩
    have J : Inv X pins σ (upd H1 d (.xd [(f, v)])) ⟨G', g, dr, tk', os⟩ := I1.laid (t' := tk') old M.dbig ob
    refine ⟨e, oe, fv, ⟨G', g, dr, tk', os⟩, _, .ref C, some d, rfl, J, fun b o q => ?_, ge, hoe, ⟨hc, hd⟩, hdat, h1, ?_, rfl, I1.bare, raises_own T.exC T.tyC, q1 d (I1.hok.fresh M.dbig)⟩
    · by_cases hb : b = e
      · have q' : G'.get? b = some o := q
        rw [hb, ge] at q'; cases q'
      · exact (gk b hb).symm.trans q
    · rw [upd_ne (Ne.symm M.dne)]
      exact I1.hok.fresh M.new
def tRaiseErr (C : Addr) (f : Str) (W : WX) (ta : TA) : TS := fun _ σ H => tMkErr C f ta σ H fun cls d H' => W cls d σ H'
theorem ps_raiseErr {a : Expr} {ta : TA} {W : WX} {p pos pos2 : Pos} {k : Nat} (hc : X.calm = true) (T : PySem.ErrX.ErrTxt X.prog X.K C x f) (hm : X.mg nm = some (.ref C)) (hsu : X.mg "super" = none) (hr : Room k X.A) (tk : Takes X W) (ha : PA X [a] ta) (hg : Gl X nm := by rfl) (hdb : (nm == ("__debug__" : Str)) = false := by decide)
    (he : starEach (a :: []) X.env = (false, eval a X.env) :: starEach [] X.env := by rfl) (hpl : (backTo pos (starEach [] X.env)).any (·.1) = false := by rfl) :
    PS X (.Raise (some (.Call (.Name nm p) [a] [] pos)) none pos2) (tRaiseErr C f W ta) := ps_raise hc tk (pmk_err T hm hsu hr ha hg hdb he hpl)
end
end L2
namespace PySem.W
open PySem PySem.Spec PySem.Calls PyProof.Rows
section
variable {prog : Program} {w : World} {A : Around} {E : Value → Shared → Prop} {s : Shared} {K : Frag} {x D : Addr} {ox : Obj} {od : Option Obj}
end
end PySem.W
namespace L2
open PySem PySem.Spec PyProof.Rows
end L2
namespace Hd
open PySem PySem.Spec PyProof.Rows L2 He
abbrev FnE : Type := Option (Str × Str × Arguments × FuncBody × Scope × Addr × List Str × Addr)
def fnE (K : PySem.W.Frag) (p : Str × Option Str) : FnE := match K.lookup (fAd K p) with
  | some ⟨_, _, .func fd, _⟩ => some (fd.name, fd.qualname, fd.params, fd.body, fd.scope, fd.globals, fd.closure.map (·.1), fd.builtins)
  | _ => none
structure ErD where
  cls : Str
  qual : Str
  st : Stmt
def ErD.val (d : ErD) : FnE := some ("__init__", d.qual, defArgs d.st, .stmts (defBody d.st), defScope d.st, mainGlobals, ["__class__"], builtinsNs)
def clsB (K : PySem.W.Frag) (C : Addr) : Bool := match K.lookup C with
  | some ⟨.type "type", _, .cls cd, sl⟩ => (match cd.mro, sl.toList with
    | .ref C' :: bm, [_, _, _, _, some (.builtin n), _] => C' == C && (n == "ValueError.__new__" && (!cd.hasDel && (cd.hasDict && PySem.HandSPX.refsVE bm)))
    | _, _ => false)
  | _ => false
theorem clsB_ok {K : PySem.W.Frag} {C : Addr} (h : clsB K C = true) : ∃ nm q N bs bm sn sub ab col dd k0 k1 k2 k3 k5, K.lookup C = some (excClassObj nm q C N bs bm true sn sub ab col dd k0 k1 k2 k3 k5 "ValueError.__new__") ∧ PySem.HandSPX.refsVE bm = true := by
  unfold clsB at h
  split at h
  · rename_i dd cd sl ho
    split at h
    · rename_i C' bm k0 k1 k2 k3 n k5 hm hs
      simp only [Bool.and_eq_true, beq_iff_eq, Bool.not_eq_true'] at h
      obtain ⟨rfl, rfl, hdel, hdi, hbm⟩ := h
      obtain ⟨nm, bs, mro, ns, qn, hd, sn, sub, ab, col, del⟩ := cd
      dsimp only at hm hdel hdi
      subst hm hdel hdi
      have hsl : sl = #[k0, k1, k2, k3, some (.builtin "ValueError.__new__"), k5] := by
        obtain ⟨l⟩ := sl
        simp only at hs
        rw [hs]
      subst hsl
      exact ⟨nm, qn, ns, bs, bm, sn, sub, ab, col, dd, k0, k1, k2, k3, k5, ho, hbm⟩
    · cases h
  · cases h
def alongB (K : PySem.W.Frag) (C : Addr) : Bool := match PySem.W.clsIn K C with
  | some cd => decide (PySem.W.alongIn K "__init__" ((cd.mro.dropWhile (· != .ref C)).drop 1) = some (some (.builtin "ValueError.__init__")))
  | none => false
theorem alongB_ok {K : PySem.W.Frag} {C : Addr} (h : alongB K C = true) : ∃ cd, PySem.W.clsIn K C = some cd ∧ PySem.W.alongIn K "__init__" ((cd.mro.dropWhile (· != .ref C)).drop 1) = some (some (.builtin "ValueError.__init__")) := by
  unfold alongB at h
  split at h
  · rename_i cd hc
    exact ⟨cd, hc, of_decide_eq_true h⟩
  · cases h
def initB (P : Program) (K : PySem.W.Frag) (fI C : Addr) (qual : Str) : Bool := match K.lookup fI with
  | some ⟨_, _, .func fd, _⟩ => (match fd.defaults, fd.code, fd.closure with
    | .none, .ref cda, [(_, cc)] => PySem.W.codeIn K (.ref cda) qual && ((match K.lookup cda with
      | some ⟨_, _, .fields vs, _⟩ => (match (vs[2]? : Option Value) with
        | some (.str file _) => ((P.main.file : Str) == file)
        | _ => false)
      | _ => false) && (match K.lookup cc with
      | some ⟨_, _, .cell (some (.ref C')), _⟩ => C' == C
      | _ => false))
    | _, _, _ => false)
  | _ => false
def errB (P : Program) (K : PySem.W.Frag) (c f qual : Str) : Bool :=
  clsB K (ga K c) && (alongB K (ga K c) && (decide (PySem.W.nsIn K cStatics "thirdparty.any" = some none) && (decide (PySem.W.mroIn K (ga K c) (.ref (ga K c)) = some true) && (decide (PySem.W.subIn K (.ref (ga K c)) (.type "ValueError") = some true) &&
  (eqO (PySem.W.findIn K (.ref (ga K c)) "__setattr__") (some (some (.builtin "object.__setattr__"))) && (eqO (PySem.W.findIn K (.ref (ga K c)) "__getattribute__") (some (some (.builtin "BaseException.__getattribute__"))) &&
  (eqO (PySem.W.findIn K (.ref (ga K c)) "__getattr__") (some none) && (eqO (PySem.W.findIn K (.ref (ga K c)) f) (some none) && (PySem.W.keepIn K (.ref (ga K c)) && (decide (PySem.W.subIn K (.ref (ga K c)) (.type "BaseException") = some true) &&
  (decide (PySem.W.typeIn K (.ref (ga K c)) = some (.type "type")) && (PySem.W.hasDictIn K (ga K c) && (eqO (PySem.W.findIn K (.ref (ga K c)) "__init__") (some (some (.ref (ma K (ga K c) "__init__")))) &&
  (decide (PySem.W.typeIn K (.ref (ma K (ga K c) "__init__")) = some (.type "function")) && initB P K (ma K (ga K c) "__init__") (ga K c) qual))))))))))))))
theorem err_mk {P : Program} {K : PySem.W.Frag} {c f x qual msg : Str} {st : Stmt} {p1 p2 q1 q2 q3 q4 q5 q6 q7 q8 q9 q10 : Pos} (h : errB P K c f qual = true) (e : fnE K (c, some "__init__") = (ErD.mk c qual st).val)
    (hA : defArgs st = PySem.ErrX.iA x p1 p2) (hB : defBody st = PySem.ErrX.iB x f msg q1 q2 q3 q4 q5 q6 q7 q8 q9 q10) (hS : defScope st = PySem.ErrX.iS x) (hl : (q3.endLine == q5.line) = true)
    (top : (P.main.scope.names.lookup ("super" : Str)).isSome = false) (xs : (x == ("self" : Str)) = false) (xc : (("__class__" : Str) == x) = false) (xu : (("super" : Str) == x) = false) (xd : (x == ("__debug__" : Str)) = false)
    (bnd : ∀ (nm qual : Str) (Bd : List Stmt) (kV doc pm : Value) (an : Option Addr) (cdv ct : Value) (cc : Addr) (p1 p2 : Pos) (u v : Value), bindArgs (PySem.W.ksFn nm qual (PySem.ErrX.iA x p1 p2) Bd (PySem.ErrX.iS x) .none kV doc pm an cdv ct cc) ⟨[u, v], []⟩ = pure [(("self" : Str), u), (x, v)]) :
    PySem.ErrX.ErrTxt P K (ga K c) x f := by
  unfold errB at h
  obtain ⟨h1, h⟩ := ba h
  obtain ⟨h2, h⟩ := ba h
  obtain ⟨h3, h⟩ := ba h
  obtain ⟨h4, h⟩ := ba h
  obtain ⟨h5, h⟩ := ba h
  obtain ⟨h6, h⟩ := ba h
  obtain ⟨h7, h⟩ := ba h
  obtain ⟨h8, h⟩ := ba h
  obtain ⟨h9, h⟩ := ba h
  obtain ⟨h10, h⟩ := ba h
  obtain ⟨h11, h⟩ := ba h
  obtain ⟨h12, h⟩ := ba h
  obtain ⟨h13, h⟩ := ba h
  obtain ⟨h14, h⟩ := ba h
  obtain ⟨h15, h16⟩ := ba h
  refine ⟨clsB_ok h1, alongB_ok h2, of_decide_eq_true h3, of_decide_eq_true h4, of_decide_eq_true h5, eqO_ok h6, eqO_ok h7, eqO_ok h8, eqO_ok h9, h10, of_decide_eq_true h11, of_decide_eq_true h12, h13,
    ⟨ma K (ga K c) "__init__", eqO_ok h14, of_decide_eq_true h15, ?_⟩, top, xs, xc, xu, xd, bnd⟩
  unfold initB at h16
  have e2 : fnE K (c, some "__init__") = (match K.lookup (ma K (ga K c) "__init__") with
    | some ⟨_, _, .func fd, _⟩ => some (fd.name, fd.qualname, fd.params, fd.body, fd.scope, fd.globals, fd.closure.map (·.1), fd.builtins)
    | _ => none) := rfl
  rw [e2] at e
  cases q : K.lookup (ma K (ga K c) "__init__") with
  | none =>
    rw [q] at h16
    cases h16
  | some o =>
    obtain ⟨oc, od, dt, osl⟩ := o
    rw [q] at h16 e
    cases dt with
    | func fd =>
      obtain ⟨n1, n2, n3, n4, n5, n6, n7, n8, n9, n10, n11, n12, n13, n14, n15⟩ := fd
      have e3 : (some (n1, n2, n3, n4, n5, n6, n7.map (·.1), n15) : FnE) = (some (("__init__" : Str), qual, defArgs st, FuncBody.stmts (defBody st), defScope st, mainGlobals, [("__class__" : Str)], builtinsNs) : FnE) := e
      simp only [Option.some.injEq, Prod.mk.injEq] at e3
      obtain ⟨e1, e2, e3, e4, e5, e6, e7, e8⟩ := e3
      subst e1 e2 e3 e4 e5 e6 e8
      dsimp only at h16
      split at h16
      · rename_i cda nn cc
        obtain ⟨k1, k2⟩ := ba h16
        obtain ⟨k2, k3⟩ := ba k2
        have en : nn = ("__class__" : Str) := by simpa using e7
        subst en
        refine ⟨oc, od, n10, n11, n9, n12, cda, cc, n14, osl, "__init__", n2, msg, p1, p2, q1, q2, q3, q4, q5, q6, q7, q8, q9, q10, hl, ?_, k1, ?_, ?_⟩
        · rw [← hA, ← hB, ← hS]
        · split at k2
          · rename_i ccl cdd vs ccs hc
            split at k2
            · rename_i file tf hv
              exact ⟨ccl, cdd, vs, ccs, file, tf, hc, hv, k2⟩
            · cases k2
          · cases k2
        · split at k3
          · rename_i cl cld C' csl hc
            have ec : C' = ga K c := by simpa using k3
            subst ec
            exact ⟨cl, cld, csl, hc⟩
          · cases k3
      · cases h16
    | _ => cases h16
def asP (g : Addr → Option Obj) (n : Nat) : List Addr := List.range (n * 400)
abbrev AlP : Type := Bool × List FnW × List FnE
def obsP (fn : List He5.DefA) (er : List ErD) (ex : PySem.W.Frag → Bool) (K : PySem.W.Frag) : AlP := (ex K && fn.all fun d => d.ok K, fn.map fun d => He5.fnA K (d.at_ K), er.map fun d => fnE K (d.cls, some "__init__"))
def valP (fn : List He5.DefA) (er : List ErD) : AlP := (true, fn.map He5.DefA.val, er.map ErD.val)
def SaysP (fn : List He5.DefA) (er : List ErD) (ex : PySem.W.Frag → Bool) (K : PySem.W.Frag) : Prop := obsP fn er ex K = valP fn er
def obsPG (n : Nat) (fn : List He5.DefA) (er : List ErD) (ex : PySem.W.Frag → Bool) (g : Addr → Option Obj) : AlP := obsP fn er ex (frG g (asP g n))
def hookP (n : Nat) (fn : List He5.DefA) (er : List ErD) (ex : PySem.W.Frag → Bool) : PySem.W.Hook where
  α := AlP
  obs := fun s => obsPG n fn er ex s.heap.get?
  val := fun _ => valP fn er
  says := fun _ h => ∃ K : PySem.W.Frag, K.In h ∧ SaysP fn er ex K
  of := fun _ _ e => ⟨_, frG_in, e⟩
  keeps := fun _ _ _ ⟨K, hK, c⟩ k => ⟨K, PySem.W.Frag.In.keeps hK k, c⟩
theorem obsPG_eq {n : Nat} {fn : List He5.DefA} {er : List ErD} {ex : PySem.W.Frag → Bool} {g : Addr → Option Obj} {s : Shared} (h : ∀ a, g a = s.heap.get? a) : obsPG n fn er ex g = (hookP n fn er ex).obs s := by
  have e : g = s.heap.get? := funext h
  rw [e] <;> rfl
section
variable {fn : List He5.DefA} {er : List ErD} {ex : PySem.W.Frag → Bool} {K : PySem.W.Frag}
theorem SaysP.more (c : SaysP fn er ex K) : ex K = true := (ba (show (ex K && fn.all fun d => d.ok K) = true from congrArg (fun z : AlP => z.1) c)).1
theorem SaysP.def_ (c : SaysP fn er ex K) (i : Nat) {d : He5.DefA} (h : fn[i]? = some d := by rfl) : ∃ fd, FunD K d.name d.qual d.params d.body d.scope (d.dvs K) (d.kws K) (d.at_ K) fd := by
  have c2 := (ba (show (ex K && fn.all fun d => d.ok K) = true from congrArg (fun z : AlP => z.1) c)).2
  have e : fn.map (fun d => He5.fnA K (d.at_ K)) = fn.map He5.DefA.val := congrArg (fun z : AlP => z.2.1) c
  have e2 : (fn.map fun d => He5.fnA K (d.at_ K))[i]? = (fn.map He5.DefA.val)[i]? := by rw [e]
  rw [List.getElem?_map, List.getElem?_map, h] at e2
  exact He5.DefA.funD (Option.some.inj e2) (List.all_eq_true.mp c2 d (List.mem_of_getElem? h))
theorem SaysP.err_ (c : SaysP fn er ex K) (i : Nat) {d : ErD} (h : er[i]? = some d := by rfl) : fnE K (d.cls, some "__init__") = d.val := by
  have e : er.map (fun d => fnE K (d.cls, some "__init__")) = er.map ErD.val := congrArg (fun z : AlP => z.2.2) c
  have e2 : (er.map fun d => fnE K (d.cls, some "__init__"))[i]? = (er.map ErD.val)[i]? := by rw [e]
  rw [List.getElem?_map, List.getElem?_map, h] at e2
  exact Option.some.inj e2
end
def tkOf : Option Value → Tok
  | some (.int _ t) => t
  | some (.str _ t) => t
  | _ => 0
theorem int_tk {o : Option Value} {i : Int} (h : ∃ t, o = some (.int i t)) : o = some (.int i (tkOf o)) := by
  obtain ⟨t, e⟩ := h
  rw [e] <;> rfl
theorem str_tk {o : Option Value} {z : Str} (h : ∃ t, o = some (.str z t)) : o = some (.str z (tkOf o)) := by
  obtain ⟨t, e⟩ := h
  rw [e] <;> rfl
end Hd
namespace L2
open PySem PySem.Spec PyProof.Rows
theorem fn_calm {P : Program} {w : World} {K : PySem.W.Frag} {mg : Str → Option Value} {base : Heap} {k : Nat} {f : Addr} {fd : FuncData} {ps : List Str} {sp : Sp} (F : FnOk P w K mg base (L2.CX P w) k f fd ps sp)
    (hs : ∀ vs H Q E, sp vs H Q E → sp vs H Q (fun _ _ _ => False)) : FnOk P w K mg base CX0 k f fd ps sp :=
  ⟨F.len, fun A outer s H args us vs Q E hr he hb hv h => codeAny_mono (F.run A outer s H args us vs Q _ hr he hb hv (hs _ _ _ _ h)) (fun r s' q => by
    cases r with
    | error e =>
      obtain ⟨_, _, _, _, _, _, _, _, _, _, _, _, z⟩ := q
      exact z.elim
    | ok f => cases f <;> exact q)⟩
end L2
namespace Hd
open PySem PySem.Spec PyProof.Rows L2 He
end Hd
namespace Hd
open PySem PySem.Spec PyProof.Rows L2
end Hd
namespace Hd
open PySem PySem.W PySem.Calls PyProof.Rows
section
variable {r : OpenRow} {q : Program} {H : Hook} {ob : SharedT → H.α} {M : Nat} {loose : List PySem.Str} {w : World}
abbrev runL (r : OpenRow) (M : Nat) (w : World) : Prop := ∀ os : OsState, (HandSHeadRun.endF (HandSHeadRun.stepQ (HandSHeadRun.denQ HandSHeadRun.tabQ) r.prog w) M r.prog w os).map (fun s => HandSHeadRun.looksF r.prog (boot_heap w.params) s.abs) = some true
abbrev runS (r : OpenRow) (q : Program) (M : Nat) (loose : List PySem.Str) (w : World) : Prop := ∀ os : OsState, (HandSHeadRun.endF (HandSHeadRun.stepQ (HandSHeadRun.denQ HandSHeadRun.tabQ) r.prog w) M r.prog w os).map (fun s => HandSHeadRun.seenQ q loose (importedModules r.prog.main.body) (fun s => xlAt q [] s && recOk r.toRowW.records s) s.abs) = some (openGood q loose)
abbrev runO (r : OpenRow) (H : Hook) (ob : SharedT → H.α) (M : Nat) (w : World) : Prop := ∀ os : OsState, (HandSHeadRun.endF (HandSHeadRun.stepQ (HandSHeadRun.denQ HandSHeadRun.tabQ) r.prog w) M r.prog w os).map (fun s => ob s) = some (H.val w)
theorem run_of (a : runL r M w) (b : runS r q M loose w) (c : runO r H ob M w) : HandSHeadRun.RunEq r q H ob M loose w := fun os => by
  obtain ⟨s, hs, ha⟩ := Option.map_eq_some_iff.mp (a os)
  have hb := b os
  have hc := c os
  rw [hs] at hb hc ⊢
  have hb' := Option.some.inj hb
  have hc' := Option.some.inj hc
  exact congrArg some (congr (congrArg Prod.mk ha) (congr (congrArg Prod.mk hb') hc'))
end
end Hd
namespace SupX
open PySem PySem.Spec PyProof.Rows L2 PySem.Calls
end SupX
namespace Hd
open PySem PySem.Spec PyProof.Rows L2
end Hd
namespace AndX
open PySem PySem.Spec PyProof.Rows L2 PySem.Calls
def missMsg (n : Str) (name : Str) : Str := (s!"type object '{n.toString}' has no attribute '" : Str) ++ name ++ "'"
end AndX
namespace IdC
open PySem PySem.Spec PyProof.Rows L2
end IdC
namespace BareX
open PySem PySem.Spec PyProof.Rows L2
end BareX
namespace Cl
open PySem PySem.Spec PyProof.Rows L2
section
variable {X : Cx} {CX : CXT} {k : Nat} {f C g : Addr} {sp : Sp} {E : L2.St → XK} {x m : Str} {p pos apos : Pos} {e o fe : Expr} {es : List Expr} {ta tf : TE} {t : TA}
theorem runS {pins : List (Addr × Obj)} {σ : L2.St} {H : Hp} {s : Shared} {Q : VK} {us : List Value} {vs : List V} (F : FnR X.prog X.w X.K X.mg X.base CX k f sp) (hr : Room k X.A) (hx : PassesAt CX X σ (E σ)) (I : Inv X pins σ H s) (r : Vals vs us) (h : sp vs H Q (E σ)) :
    codeAny (model X.prog X.w) X.A (.call (.ref f) ⟨us, []⟩) (fun r s' => match r with | .ok (.ret v) => EP X pins σ Q v s' | .ok _ => False | .error e => X.xe e s') s :=
  codeAny_mono (F X.A X.stack s H us vs Q (E σ) hr I.env0 r h) fun r s' hq => by
    cases r with
    | error er => exact hx pins H s er s' I hq
    | ok fl => cases fl <;> first | exact I.after hq | exact False.elim hq
def tF (sp : Sp) (E : L2.St → XK) (t : TA) : TE := fun σ H Q => t σ H fun vs H1 => sp vs H1 Q (E σ)
theorem pe_f (F : FnR X.prog X.w X.K X.mg X.base CX k f sp) (hr : Room k X.A) (hg : Gl X x) (hm : X.mg x = some (.ref f)) (hk : PySem.W.keepIn X.K (.ref f) = true) (hx : ∀ σ, PassesAt CX X σ (E σ)) (ha : PA X (e :: es) t)
    (hdb : (x == ("__debug__" : Str)) = false := by decide) (he : starEach (e :: es) X.env = (false, eval e X.env) :: starEach es X.env := by rfl) (hpl : (backTo pos (starEach es X.env)).any (·.1) = false := by rfl) :
    PE X (.Call (.Name x p) (e :: es) [] pos) (tF sp E t) :=
  ⟨fun pins s σ H Q I h => wpAny_Call_Name_kw (ld_glob I hg hm (PySem.W.callWith_K (h₀ := X.base) I.ok.mod.kin hk (thn (ha.run pos pins s σ H _ I h) fun us s1 ⟨vs, H1, I1, r, q⟩ => ⟨I1.kIn, wpAny_call (runS F hr (hx σ) I1 r q)⟩) he hpl) hdb)⟩
def tMk (C : Addr) (sp : Sp) (E : L2.St → XK) (t : TA) : TE := fun σ H Q => t σ H fun vs H1 => ∀ x dx, H1 x = none → H1 dx = none → dx ≠ x → sp (.ref x :: vs) (upd (upd H1 dx (.own x)) x (.ins C dx [])) (fun v H2 => v = .non ∧ Q (.ref x) H2) (E σ)
theorem runMk {pins : List (Addr × Obj)} {σ : L2.St} {H : Hp} {s : Shared} {Q : VK} {us : List Value} {vs : List V} (M : Mk X.K C f) (F : FnR X.prog X.w X.K X.mg X.base CX k f sp) (hr : Room (k + 1) X.A) (hx : PassesAt CX X σ (E σ)) (I : Inv X pins σ H s) (r : Vals vs us)
    (h : ∀ x dx, H x = none → H dx = none → dx ≠ x → sp (.ref x :: vs) (upd (upd H dx (.own x)) x (.ins C dx [])) (fun v H2 => v = .non ∧ Q (.ref x) H2) (E σ)) :
    wpAny (model X.prog X.w) X.A (call (.ref C) us) (EP X pins σ Q) X.xe s := by
  have hq := h (s.heap.objs.size + 1) s.heap.objs.size (I.hok.fresh (Nat.le_succ _)) (I.hok.fresh (Nat.le_refl _)) (Nat.ne_of_lt (Nat.lt_succ_self _))
  have I2 := Inv.made (C := C) I
  have r2 : Vals (V.ref (s.heap.objs.size + 1) :: vs) (Value.ref (s.heap.objs.size + 1) :: us) := .cons rfl r
  refine wpAny_call (make_map (f := f) I.kIn M.makes M.init (beq_iff_eq.mp M.fn) (codeAny_mono (F _ X.stack _ _ (Value.ref (s.heap.objs.size + 1) :: us) _ _ (E σ) (hr.make C us []) (I2.env0.make C us []) r2 hq) fun r s' hq' => ?_))
  cases r with
  | error er => exact hx pins _ _ er s' I2 hq'
  | ok fl =>
    cases fl with
    | ret u =>
      obtain ⟨v, H', I3, rv, ev, q3⟩ := I2.after hq'
      subst ev
      exact ⟨rv, ⟨V.ref (s.heap.objs.size + 1), H', I3, rfl, q3⟩⟩
    | _ => exact False.elim hq'
theorem pe_mk (M : Mk X.K C f) (F : FnR X.prog X.w X.K X.mg X.base CX k f sp) (hr : Room (k + 1) X.A) (hg : Gl X x) (hm : X.mg x = some (.ref C)) (hx : ∀ σ, PassesAt CX X σ (E σ)) (ha : PA X (e :: es) t) (hdb : (x == ("__debug__" : Str)) = false := by decide)
    (he : starEach (e :: es) X.env = (false, eval e X.env) :: starEach es X.env := by rfl) (hpl : (backTo pos (starEach es X.env)).any (·.1) = false := by rfl) : PE X (.Call (.Name x p) (e :: es) [] pos) (tMk C sp E t) :=
  ⟨fun pins s σ H Q I h => wpAny_Call_Name_kw (ld_glob I hg hm (PySem.W.callWith_K (h₀ := X.base) I.ok.mod.kin M.kp (thn (ha.run pos pins s σ H _ I h) fun us s1 ⟨vs, H1, I1, r, q⟩ => ⟨I1.kIn, runMk M F hr (hx σ) I1 r q⟩) he hpl) hdb)⟩
theorem at_ {W : WX} (tk : Takes X W) (σ : L2.St) : PassesAt (L2.CX X.prog X.w) X σ (WE W σ) := passAt tk σ
end
section
variable {P : Program} {w : World} {K : PySem.W.Frag} {mg : Str → Option Value} {base : Heap} {x qual : Str} {params : Arguments} {body : List Stmt} {scope : Scope} {dvs : List V} {kws : List (Str × V)} {f : Addr} {fd : FuncData}
end
end Cl
namespace Cl
open PySem PySem.Spec PyProof.Rows L2
section
variable {X : Cx} {e o value a : Expr} {ta tv tl : TE} {f : Str} {pos pos' : Pos} {tg : Expr}
theorem ixL (K : PySem.W.Frag) (hK : X.K = K := by rfl) : IxR X (rIxL K) := hK ▸ ix_list
theorem ixT (K : PySem.W.Frag) (hK : X.K = K := by rfl) : IxR X (rIxT K) := hK ▸ ix_tup
theorem slL (K : PySem.W.Frag) (hK : X.K = K := by rfl) : SlR X (rSlL K) := hK ▸ sl_list
def qLen (K : PySem.W.Frag) : List V → Hp → VK → Prop := fun xs H Q => ∃ p ys, xs = [.ref p] ∧ (SqL K H p ys ∨ SqT K H p ys) ∧ Q (.int ys.length) H
theorem len (K : PySem.W.Frag) (hK : X.K = K := by rfl) : CallR X (.builtin "len") (qLen K) := hK ▸ call_len_seq
def qTuple (K : PySem.W.Frag) : List V → Hp → VK → Prop := fun xs H Q => ∃ p ys, xs = [.ref p] ∧ ((SqL K H p ys ∧ ∀ l, H l = none → Q (.ref l) (upd H l (.tup ys))) ∨ (SqT K H p ys ∧ Q (.ref p) H))
theorem tupleOf (K : PySem.W.Frag) (hK : X.K = K := by rfl) : CallR X (.type "tuple") (qTuple K) := hK ▸ call_tuple_of
def qInt : List V → Hp → VK → Prop := fun xs H Q => ∃ i, xs = [.int i] ∧ Q (.int i) H
theorem int1 : CallR X (.type "int") qInt := fun pins s σ H xs us Q I r h => call_int1 pins s σ H xs us Q I r (.inl h)
theorem isi (K : PySem.W.Frag) (hK : X.K = K := by rfl) : CallR X (.builtin "isinstance") (rIsi K) := hK ▸ call_isi
theorem sum (K : PySem.W.Frag) (hc : X.calm = true := by rfl) (hK : X.K = K := by rfl) : CallR X (.builtin "sum") (rSum K) := hK ▸ cr_sum hc
theorem ninS (K : PySem.W.Frag) (hK : X.K = K := by rfl) : OpR X (compareOp .NotIn) (rIn K true) := hK ▸ op_notIn_seq
theorem eqD (K : PySem.W.Frag) (hu : X.A.units + 64 < cLine) (hK : X.K = K := by rfl) : OpR X (compareOp .Eq) (rEqD K) := hK ▸ op_eqD hu
theorem fld (K : PySem.W.Frag) (he : PE X e ta) (hb : attributeBase e f X.env (eval e X.env) = eval e X.env := by rfl) (hK : X.K = K := by rfl) : PE X (.Attribute e f pos) (tFld K ta f) := hK ▸ pe_fld he hb
theorem sfld (K : PySem.W.Frag) (ha : PE X o ta) (hv : PE X value tv) (hs : swapsWith value (some (.Attribute o f pos')) pos.line X.env = pure false := by rfl) (hK : X.K = K := by rfl) : PS X (.Assign [.Attribute o f pos'] value pos) (sFld K ta tv f) := hK ▸ ps_fld ha hv hs
theorem piL (K : PySem.W.Frag) {l : Expr} (hl : PE X l tl) (hK : X.K = K := by rfl) : PI X tg l (iList K tl) := hK ▸ pi_list hl
theorem piT (K : PySem.W.Frag) {l : Expr} (hl : PE X l tl) (hK : X.K = K := by rfl) : PI X tg l (iTup K tl) := hK ▸ pi_tup hl
theorem pgT (K : PySem.W.Frag) {es : List Expr} {k : Nat} {t : TGs} {n : Nat} (h : PGs X es t) (hc : X.calm = true := by rfl) (hn : (assignEach es X.env).length = n := by rfl) (hst : (assignEach es X.env).findIdx? (·.1) = none := by rfl) (hK : X.K = K := by rfl) : PG X (.Tuple es k pos) (gTup K n t) := hK ▸ pg_tup hc h hn hst
theorem piE (K : PySem.W.Frag) {ta : TA} {p tpos : Pos} {elts : List Expr} {kk : Nat} (hg : Gl X "enumerate") (hm : X.mg "enumerate" = none) (ha : PA X [e] ta) (hs : starEach [e] X.env = [(false, eval e X.env)] := by rfl) (hK : X.K = K := by rfl) :
    PI X (.Tuple elts kk tpos) (.Call (.Name "enumerate" p) [e] [] pos) (iEnum K ta) := hK ▸ pi_enum hg hm ha hs
theorem none_ {P : Program} {w : World} (σ : L2.St) : PassesAt (L2.CX P w) X σ (fun _ _ _ => False) := fun _ _ _ _ _ _ ⟨_, _, _, _, _, _, _, _, _, _, _, _, z⟩ => z.elim
end
end Cl
namespace CoR
open PySem PySem.Spec PyProof.Rows L2
def postX (M : Model) (A : Around) (E : Value → Shared → Prop) (use : Option (Value → Sem Unit)) (Q : Value → Shared → Prop) (acc : Value) (C : Addr) (fr : Option Addr) (r : Result) (s' : Shared) : Prop :=
  match r with
  | .ok f => compPost M A E use Q acc C (.ok f) s'
  | .error x => ∃ m, s'.heap.Ns C m ∧ ∀ h', Heap.SameBut C s'.heap h' → ∀ ce : Env, ce.locals = C → ce.frame = fr → wpAny M A (passOn "comprehension.variables-let-go" x ce : Sem Value) (fun _ _ => False) E { s' with heap := h' }
theorem comprehension_x {M : Model} {A : Around} {E : Value → Shared → Prop} {s : Shared} {env : Env} {e : Expr} {scope : Scope} {pos : Pos} {newAcc first : Sem Value} {g : Comprehension} {gs : List Comprehension} {cl : List (Str × Addr)} {use : Option (Value → Sem Unit)} {Q : Value → Shared → Prop}
    (hcl : clausesOf e = g :: gs) (hs : ∀ x, foldedSetIterable g.iter env x = pure x) (hclos : closureFor scope env = pure cl) (hkind : scope.kind = .function) (hnames : ∀ x ∈ scope.names, x.2 = .local → scope.names.lookup x.1 = some .local)
    (h : wpAny M A first (fun x s1 => wpAny M A (pyIter x) (fun it s2 => wpAny M A newAcc (fun acc s3 => wpAny M A (newFunctionEnv scope env.globals cl [] env.qual none .none (some env)) (fun ce s4 =>
        codeAny M A (.compStart e 0 it acc { ce with scope := relabel scope env }) (postX M A E use Q acc ce.locals ce.frame) s4) E s3) E s2) E s1) E s) :
    wpAny M A (comprehension e scope env pos newAcc false first use) Q E s := by
  unfold comprehension
  rw [hclos, hcl]
  refine wpAny_bind (wpAny_mono h (fun x s1 h1 => ?_) fun _ _ q => q)
  refine wpAny_bind (wpAny_standAt (wpAny_bind (wpAny_of_eq (hs x) ?_)))
  refine wpAny_bind (wpAny_holding (wpAny_mono h1 (fun it s2 h2 => ?_) fun _ _ q => q))
  refine wpAny_standIf (wpAny_bind (wpAny_mono h2 (fun acc s3 h3 => ?_) fun _ _ q => q))
  refine wpAny_bind (wpAny_pure (wpAny_bind (wpAny_mono h3 (fun ce s4 h4 => ?_) fun _ _ q => q)))
  dsimp only
  have loc : ∀ x ∈ (scope.names.filter fun x => (x.2 == .local || x.2 == .cell) && x.1 != (".0" : Str)), x.2 = .local → Env.kindOf { ce with scope := relabel scope env } x.1 = some .local :=
    fun x hx hl => lookup_relabel_local (hnames x (List.mem_filter.mp hx).1 hl)
  have v1 := fun x hx hl => loc x (List.mem_reverse.mp hx) hl
  refine wpAny_holding (wpAny_bind (wpAny_attempt (wpAny_holding (wpAny_run (codeAny_mono h4 fun r s' hr => ?_)))))
  cases r with
  | error x =>
    obtain ⟨m, hn, hr⟩ := hr
    exact wpAny_bind (wpAny_holding (wpAny_comp_letGo (cenv := { ce with scope := relabel scope env }) hkind _ s' m v1 hn fun h' m' _ hs' => wpAny_mono (hr h' hs' _ rfl rfl) (fun _ _ f => f.elim) fun _ _ y => y))
  | ok f =>
    cases use with
    | none =>
      obtain ⟨m, hn, hr⟩ := hr
      exact wpAny_bind (wpAny_holding (wpAny_comp_letGo (cenv := { ce with scope := relabel scope env }) hkind _ s' m v1 hn fun h' m' _ hs' => wpAny_pure (hr h' hs')))
    | some u =>
      refine wpAny_bind (wpAny_rule (wpAny_bind (wpAny_holding (wpAny_mono hr (fun _ s'' hr' => ?_) fun _ _ q => q))))
      obtain ⟨m, hn, hr'⟩ := hr'
      refine wpAny_bind (wpAny_comp_letGo (cenv := { ce with scope := relabel scope env }) hkind _ s'' m (fun x hx hl => ?_) hn fun h' m' _ hs' => wpAny_pure (hr' h' hs'))
      rcases List.mem_append.mp hx with h1 | h1
      · exact v1 x (List.mem_of_mem_drop h1) hl
      · exact v1 x (List.mem_of_mem_take h1) hl
theorem funFrames_but {base h h' : Heap} {C : Addr} (sb : Heap.SameBut C h h') : ∀ {l : List Env}, h.FunFrames base l → C ∉ frs l → h'.FunFrames base l
  | [], _, _ => trivial
  | env :: l, hl, hn => by
    obtain ⟨hk, ⟨L, o, hf, hb, ho, hd⟩, hr⟩ := hl
    have hm : ∀ b, b ∈ frs l → b ∈ frs (env :: l) := fun b hb => by
      obtain ⟨e, he, q⟩ := List.mem_filterMap.mp hb
      exact List.mem_filterMap.mpr ⟨e, List.mem_cons_of_mem _ he, q⟩
    have hL : L ≠ C := fun z => hn (z ▸ List.mem_filterMap.mpr ⟨env, List.mem_cons_self, hf⟩)
    exact ⟨hk, ⟨L, o, hf, hb, (sb.2 L hL).trans ho, hd⟩, funFrames_but sb hr fun z => hn (hm _ z)⟩
section
variable {X : Cx} {W : WX} {u : Value} {s' : Shared}
def HE (X : Cx) (W : WX) (u : Value) (s' : Shared) : Prop :=
  ∃ (a : Addr) (B : Heap) (sI : Shared) (σ : L2.St) (H : Hp) (cls : Value) (d : Option Addr), u = .ref a ∧ Inv X [] σ H sI ∧ (∀ b o, sI.heap.get? b = some o → b ∉ frs X.stack → B.get? b = some o) ∧ sI.heap.UpToSlots s'.heap ∧
    HandSPX.HeldZ B X.stack a (Zc cls d) X.env.locals s'.heap ∧ H a = none ∧ s'.os = sI.os ∧ AllBare s'.gens ∧ W cls d σ H
theorem noted (hs : X.stack = X.env :: X.outer) (hf : X.env.frame = some X.env.locals) {E1 : Value → Shared → Prop} (x : XE X W u s') :
    wpAny (model X.prog X.w) X.A (noteFrame u X.env) (fun _ s2 => HE X W u s2 ∧ s'.heap.UpToSlots s2.heap) E1 s' := by
  obtain ⟨a, B, sI, pins, σ, H, cls, d, rfl, I, nb, up, sky, na, os, ag, w⟩ := x
  have hfr : X.A.frames = some (X.env :: X.outer) := by rw [I.ok.frames, hs]
  have fin : ∀ h1, HandSPX.HeldZ B (X.env :: X.outer) a (Zc cls d) X.env.locals h1 → s'.heap.UpToSlots h1 → HE X W (.ref a) { s' with heap := h1 } ∧ s'.heap.UpToSlots h1 := fun h1 hh u1 =>
    ⟨⟨a, B, sI, σ, H, cls, d, rfl, Inv.unpinned (pins := []) (pl := pins) I, nb, up.trans u1, by rw [hs]; exact hh, na, os, ag, w⟩, u1⟩
  rw [hs] at sky
  rcases sky with ⟨hB, hn, hl, oe, vs, he, hz, hd, h1⟩ | fl | hh
  · exact HandSPX.look_newZ Zc.steady hfr hl hf he hB hn hd h1 hz fin
  · exact HandSPX.looks_onZ Zc.steady hfr hf fl fin
  · exact HandSPX.againZ hf hh.2.2.2 (fin s'.heap hh (Heap.UpToSlots.refl _))
theorem goesOn {W' : WX} {C : Addr} {m : Str → Option Value} {h' : Heap} {ce : Env} (hW : ∀ cls d σ H, W' cls d σ H → W cls d σ H ∧ H C = none) (hx : HE X W' u s') (f : FpOk X [] (fun _ => none) C) (hnf : C ∉ frs X.stack) (hn : s'.heap.Ns C m) (sb : Heap.SameBut C s'.heap h') (hfr : ce.frame = some X.env.locals)
    (tk : Takes X W) : wpAny (model X.prog X.w) X.A (passOn "comprehension.variables-let-go" u ce : Sem Value) (fun _ _ => False) X.xe { s' with heap := h' } := by
  obtain ⟨a, B, sI, σ, H, cls, d, rfl, I, nb, up, hh, na, os, ag, w⟩ := hx
  obtain ⟨w, hHC⟩ := hW _ _ _ _ w
  obtain ⟨oC, es, ep, hoC, hdC, _⟩ := hn
  obtain ⟨B', b1, b2⟩ := restrict B fun b => decide (b ≠ C)
  obtain ⟨G, g1, g2⟩ := restrict sI.heap fun b => decide (b ≠ C)
  have inB : ∀ b o, B'.get? b = some o → b ≠ C ∧ B.get? b = some o := fun b o e => by
    by_cases hb : b = C
    · rw [b2 b (by simp [hb])] at e; cases e
    · rw [b1 b (by simp [hb])] at e; exact ⟨hb, e⟩
  have inG : ∀ b o, G.get? b = some o → b ≠ C ∧ sI.heap.get? b = some o := fun b o e => by
    by_cases hb : b = C
    · rw [g2 b (by simp [hb])] at e; cases e
    · rw [g1 b (by simp [hb])] at e; exact ⟨hb, e⟩
  obtain ⟨st, an, ff, oe, vs, T, oT, ts, he, hz, hd, h1, hnT, hTe, hT, hdT, h3⟩ := hh
  have aC : a ≠ C := fun z => by rw [z, hoC] at he; cases he; rw [hdC] at hd; cases hd
  have tC : T ≠ C := fun z => by rw [z, hoC] at hT; cases hT; rw [hdC] at hdT; cases hdT
  have nB : ∀ b, B.get? b = none → B'.get? b = none := fun b e => by
    cases q : B'.get? b with
    | none => rfl
    | some o => rw [(inB b o q).2] at e; cases e
  have hh' : HandSPX.HeldZ B' X.stack a (Zc cls d) X.env.locals h' := by
    refine ⟨fun b o e => ?_, nB a an, ?_, oe, vs, T, oT, ts, (sb.2 a aC).trans he, hz, hd, h1, nB T hnT, hTe, (sb.2 T tC).trans hT, hdT, h3⟩
    · obtain ⟨q1, q2⟩ := inB b o e
      exact (sb.2 b q1).trans (st b o q2)
    · exact funFrames_none (funFrames_but sb ff hnf) fun L hL => nB L (by
        obtain ⟨e, _⟩ := Heap.FunFrames.mem ff hL
        exact e)
  have IG : Inv X [] σ H { sI with heap := G } := I.turned (t' := sI.toks) (fun b o hb e => by rw [g1 b (by simp [hb])]; exact e) hHC f.2.1 f.2.2.2.1 f.2.2.2.2.1 f.2.2.2.2.2
  have upG : G.UpToSlots h' := fun b o e hno => by
    obtain ⟨q1, q2⟩ := inG b o e
    obtain ⟨sl, q⟩ := up b o q2 hno
    exact ⟨sl, (sb.2 b q1).trans q⟩
  unfold PySem.passOn
  refine wpAny_bind (wpAny_field ((sb.2 a aC).trans he) hd h1 ?_)
  rw [if_neg (show ¬ ((Value.ref T == Value.none) = true) from by simp)]
  refine wpAny_bind ?_
  rw [hfr]
  refine HandSPX.setFlight_onZ hh' fun h2 hh2 up2 => wpAny_throw (tk _ _ ?_)
  exact ⟨a, B', { sI with heap := G }, [], σ, H, cls, d, rfl, IG, fun b o e hb => by
    obtain ⟨q1, q2⟩ := inG b o e
    rw [b1 b (by simp [q1])]
    exact nb b o q2 hb, upG.trans up2, .inr (.inr hh2), na, os, ag, w⟩
def outB (Y : Cx) (E : XK) (u : Value) (s' : Shared) : Prop := ∃ (pins : List (Addr × Obj)) (σ : L2.St) (H : Hp) (s : Shared), Inv Y pins σ H s ∧ L2.CX Y.prog Y.w Y.stack H s E u s'
abbrev blkX (X : Cx) (E : XK) (s : Shared) (H : Hp) (scope : Scope) (ce : Env) (fp : List Addr) : Cx := (X.blk s H scope ce fp).wish (outB (X.blk s H scope ce fp) E)
theorem inB {E : XK} {s : Shared} {H : Hp} {scope : Scope} {ce : Env} {fp : List Addr} (σ : L2.St) : PassesAt (L2.CX X.prog X.w) (blkX X E s H scope ce fp) σ E := fun pins H' s' _ _ I c => ⟨pins, σ, H', s', I.unwish, c⟩
theorem lc_coreX {E : XK} {pins : List (Addr × Obj)} {s : Shared} {σ : L2.St} {H : Hp} {Q : VK} {elt tg iter : Expr} {ifs : List Expr} {scope : Scope} {own : List (Str × Nat)} {pos pos' : Pos} {wi : TI} {g : TG} {tt : TT} {te : TE} {use : Option (Value → Sem Unit)} {Qf : Value → Shared → Prop}
    (hst : X.stack = X.env :: X.outer) (hfr : X.env.frame = some X.env.locals) (tk : Takes X (fun cls d _ H => E cls d H)) (hc : X.calm = true) (hN : X.N.Nodup) (I : Inv X pins σ H s) (hi : PI X tg iter wi) (ok : BlkOk X.N X.env.scope scope own)
    (hg : ∀ (s : Shared) (H : Hp) (C : Addr) (cl : List (Str × Addr)) (fp : List Addr), PG (blkX X E s H scope (compEnvC scope cl C X.env) fp) tg g) (ht : ∀ (s : Shared) (H : Hp) (C : Addr) (cl : List (Str × Addr)) (fp : List Addr), PTs (blkX X E s H scope (compEnvC scope cl C X.env) fp) ifs tt)
    (he : ∀ (s : Shared) (H : Hp) (C : Addr) (cl : List (Str × Addr)) (fp : List Addr), PE (blkX X E s H scope (compEnvC scope cl C X.env) fp) elt te) (hs : ∀ x, foldedSetIterable iter X.env x = pure x)
    (h : tLc wi g tt te (own.map (·.2)) σ H Q)
    (hRR : ∀ D C s' m H', Inv X pins σ H' s' → Q (.ref D) H' → s'.heap.Ns C m → FpOk X pins H' C → compPost (model X.prog X.w) X.A X.xe use Qf (.ref D) C (.ok .next) s') :
    wpAny (model X.prog X.w) X.A (comprehension (.ListComp elt [⟨tg, iter, ifs, 0⟩] scope pos) scope X.env pos' (newList []) false (eval iter X.env) use) Qf X.xe s := by
  have hfree : ∀ y ∈ scope.names, y.2 = .free → ∃ c, X.env.cells.lookup y.1 = some c := fun y hy e => (ok.free y hy e).elim (fun k => I.ok.has _ (.inl k)) fun k => I.ok.has _ (.inr k)
  refine comprehension_x (use := use) rfl hs (closure_ok hfree) ok.kind (fun y hy e => by rw [ok.uniq y hy, e]) (thn (hi.run pins s σ H _ I h) fun xv s1 hx => thn hx fun itv s2 h2 => ?_)
  obtain ⟨it, fp, tn, J, H2, e, I2, T, st2, f2, q⟩ := h2
  subst e
  refine wpAny_newObj_type (newEnv_comp ?_) (by show 0 ≤ sizeLine; decide)
  generalize hD : s2.heap.objs.size = D
  obtain ⟨Wn, ⟨m0, w0⟩, turn⟩ := q D (I2.hok.fresh (Nat.le_of_eq hD))
  generalize hs3 : ({ s2 with heap := s2.heap.push { cls := .type "list", data := .seq ([] : List Value).toArray } } : Shared) = s3
  have h3 : s3.heap = s2.heap.push { cls := .type "list", data := .seq ([] : List Value).toArray } := by rw [← hs3]
  have I3 : Inv X pins σ (upd H2 D (.lst [])) s3 := by
    rw [← hs3]
    exact I2.laid (t' := s2.toks) (fun b o e => Heap.get?_push_of_some _ e) (Nat.le_of_eq hD) ⟨Nat.zero_le _, [], 0, .nil, by rw [← hD]; exact Heap.get?_push_size _ rfl⟩
  have f3 : ∀ b ∈ fp, FpOk X pins (upd H2 D (.lst [])) b ∧ b < s3.heap.objs.size := fun b hb => by
    obtain ⟨o, e, _⟩ := T.obj _ _ st2 b hb
    have hlt := Heap.lt_size e
    refine ⟨⟨?_, (f2 b hb).2⟩, by rw [h3, Heap.size_push]; exact Nat.lt_succ_of_lt hlt⟩
    rw [upd_ne (by rw [← hD]; exact Nat.ne_of_lt hlt)]
    exact (f2 b hb).1
  have st3 : tn 0 s3.heap := T.keep _ _ _ st2 fun b _ o e => by rw [h3]; exact Heap.get?_push_of_some _ e
  have I4 := block_start I3 ok hN f3
  generalize hcl : cellsFrom (s3.heap.objs.size + 1) scope.names (cloFrom X.env.cells scope.names []) = cl at I4 ⊢
  have pg := hg s3 (upd H2 D (.lst [])) s3.heap.objs.size cl fp
  have pt := ht s3 (upd H2 D (.lst [])) s3.heap.objs.size cl fp
  have pe := he s3 (upd H2 D (.lst [])) s3.heap.objs.size cl fp
  show codeAny _ _ (.compStart (.ListComp elt [⟨tg, iter, ifs, 0⟩] scope pos) 0 (.ref it) (.ref D) (compEnvC scope cl s3.heap.objs.size X.env)) (postX (model X.prog X.w) X.A X.xe use Qf (.ref D) s3.heap.objs.size X.env.frame) { s3 with heap := pushCells (s3.heap.push { cls := .type "dict", data := .dict #[] }) scope.names }
  have nfp : ∀ b ∈ fp, (upd H2 D (.lst [])) b = none := fun b hb => (f3 b hb).1.1
  generalize hce : compEnvC scope cl s3.heap.objs.size X.env = ce at I4 pg pt pe ⊢
  have cL : ce.locals = s3.heap.objs.size := by subst hce; rfl
  have cF : ce.frame = X.env.frame := by subst hce; rfl
  generalize hH3 : upd H2 D (.lst []) = H3 at I3 I4 pg pt pe w0 nfp f3
  generalize hs4 : ({ s3 with heap := pushCells (s3.heap.push { cls := .type "dict", data := .dict #[] }) scope.names } : Shared) = s4 at I4 ⊢
  have st4 : tn 0 s4.heap := T.keep _ _ _ st3 fun b _ o e => by rw [← hs4]; exact pushCells_keeps _ _ _ _ (Heap.get?_push_of_some _ e)
  have stat : ∀ {σ' : L2.St} {H' : Hp} {s' : Shared}, Inv (X.blk s3 H3 scope ce fp) [] σ' H' s' → (∀ b ∈ fp, H' b = none) → ∀ b ∈ fp, FpOk (X.blk s3 H3 scope ce fp) [] H' b := fun {σ' H' s'} I' hn b hb =>
    ⟨hn b hb, (I'.ok.exf b hb).1, I'.ok.exfs b hb, .inl hb, fun x c e => (I'.ok.exf b hb).2 x c e, fun p hp => absurd (show p ∈ ([] : List (Addr × Obj)) ++ [] from hp) (by simp)⟩
  -- back in the def's context
  have back : ∀ {pB : List (Addr × Obj)} {σ' : L2.St} {H' : Hp} {s' : Shared}, Inv (X.blk s3 H3 scope ce fp) pB σ' H' s' → Inv X pins σ H' s' ∧ H' s3.heap.objs.size = none ∧ ∃ m, s'.heap.Ns s3.heap.objs.size m := fun {pB σ' H' s'} I' => by
    refine ⟨I3.call' (ch := fp) I'.os I'.base I'.hok I'.bare fun b hb => ⟨(f3 b hb).1.2.2.2.1, (f3 b hb).1.2.1, (f3 b hb).1.2.2.2.2.1, (f3 b hb).1.2.2.2.2.2⟩, ?_, ?_⟩
    · have z : H' ce.locals = none := I'.free
      rw [cL] at z; exact z
    · obtain ⟨m, hn, _⟩ := I'.loc
      have hn : s'.heap.Ns ce.locals m := hn
      rw [cL] at hn; exact ⟨m, hn⟩
  have fC : FpOk X [] (fun _ => none) s3.heap.objs.size := by
    obtain ⟨_, a2, a3, a4, a5, a6⟩ := I3.fpOk (H' := fun _ => none) (Nat.le_refl _) rfl
    exact ⟨rfl, a2, a3, a4, a5, fun p hp => a6 p (by rw [List.append_nil] at hp; exact List.mem_append_left _ hp)⟩
  have nfr : s3.heap.objs.size ∉ frs X.stack := fun z => by
    rcases List.mem_cons.mp (I3.stkSub _ z) with z | z
    · exact fC.2.1 z
    · exact fC.2.2.1 z
  -- what is let out
  have out : ∀ (u : Value) (s' : Shared), outB (X.blk s3 H3 scope ce fp) E u s' → notedBy (model X.prog X.w) X.A ce (fun e s' => postX (model X.prog X.w) X.A X.xe use Qf (.ref D) s3.heap.objs.size X.env.frame (.error e) s') u s' := by
    rintro u s' ⟨pB, σB, HB, sB, IB, c⟩
    obtain ⟨IX, hHC, m, hn⟩ := back IB
    obtain ⟨a, B, H', cls, d, rfl, fl, hok, ub, na, os, ag, hE⟩ := c
    have hn' := hn
    obtain ⟨oC, es, ep, hoC, hdC⟩ := hn'
    have hBC := ub.keep _ oC hoC hHC nfr
    have nsC : s'.heap.Ns s3.heap.objs.size m := ⟨oC, es, ep, fl.1 _ _ hBC, hdC⟩
    have x : XE X (fun cls d _ H => E cls d H ∧ H s3.heap.objs.size = none) (.ref a) s' :=
      XE.of_call (E := fun cls d H => E cls d H ∧ H s3.heap.objs.size = none) IX (fun _ _ _ h => h) ⟨a, B, H', cls, d, rfl, fl, hok, ub, na, os, ag, hE, ub.free _ _ hoC hHC⟩
    have e1 : noteFrame (.ref a) ce = noteFrame (.ref a) X.env := by subst hce; rfl
    show wpAny _ _ (noteFrame (.ref a) ce) _ _ s'
    rw [e1]
    refine wpAny_mono (noted hst hfr (E1 := fun _ _ => False) x) (fun _ s2 ⟨hx, up⟩ => ?_) fun _ _ z => z.elim
    have ns2 := up.ns nsC
    exact ⟨m, ns2, fun h' sb ce' _ hf' => goesOn (W := fun cls d _ H => E cls d H) (fun _ _ _ _ z => z) hx fC nfr ns2 sb (hf'.trans hfr) tk⟩
  have thnO : ∀ {α : Type} {t : Sem α} {Q1 Q2 : α → Shared → Prop} {s : Shared}, wpAny (model X.prog X.w) X.A t Q1 (outB (X.blk s3 H3 scope ce fp) E) s → (∀ a s, Q1 a s → Q2 a s) →
      wpAny (model X.prog X.w) X.A t Q2 (notedBy (model X.prog X.w) X.A ce (fun e s' => postX (model X.prog X.w) X.A X.xe use Qf (.ref D) s3.heap.objs.size X.env.frame (.error e) s')) s := fun h1 h2 => wpAny_mono h1 h2 out
  have loop : codeAny (model X.prog X.w) X.A (.compLoop (.ListComp elt [⟨tg, iter, ifs, 0⟩] scope pos) 0 (.ref it) (.ref D) ce) (postX (model X.prog X.w) X.A X.xe use Qf (.ref D) s3.heap.objs.size X.env.frame) s4 := by
    refine compLoop_any (fun n s' => ∃ i H', Inv (X.blk s3 H3 scope ce fp) [] (wipe σ (own.map (·.2))) H' s' ∧ tn i s'.heap ∧ (∀ b ∈ fp, H' b = none) ∧ Wn i n H') ?_ m0 ⟨0, H3, I4, st4, nfp, w0⟩
    rintro n s5 ⟨i, H5, I5, st5, n5, w5⟩
    rcases turn i n H5 w5 with ⟨stop, qq⟩ | ⟨go, Nx, hNx, step⟩
    · refine thnF (T.done (X.blk s3 H3 scope ce fp) rfl rfl rfl hc i [] s5 _ H5 (fun _ _ => False) I5 (stat I5 n5) st5 stop) fun r s6 ⟨hr, I6⟩ => ?_
      subst hr
      obtain ⟨I7, nC, m, hn⟩ := back I6
      exact hRR D s3.heap.objs.size s6 m H5 I7 qq hn (I3.fpOk (Nat.le_refl _) nC)
    · refine thnF (T.item (X.blk s3 H3 scope ce fp) rfl rfl rfl hc i [] s5 _ H5 (fun _ _ => False) I5 (stat I5 n5) st5 go) fun r s6 ⟨u, hr, h6⟩ => ?_
      subst hr
      refine thnF h6 fun _ s7 ⟨x, H7, I7, r7, y7, st7, n7⟩ => ?_
      have I7' := I7.pinned (stat I7 n7) (T.obj _ _ st7)
      refine thnO (pg.run _ s7 _ H7 x u _ (I7'.wish _) r7 (step x H7 y7)) fun _ s8 ⟨σ8, H8, I8, hw8, q8⟩ => ?_
      refine thnO (pt.run _ s8 σ8 H8 _ I8 q8) fun b s9 ⟨H9, I9, q9⟩ => ?_
      have fin : ∀ {s' : Shared} {H' : Hp}, Inv (blkX X E s3 H3 scope ce fp) ([] ++ pinsAt fp s7.heap) σ8 H' s' → Nx H' → ∃ m, m < n ∧ ∃ i H', Inv (X.blk s3 H3 scope ce fp) [] (wipe σ (own.map (·.2))) H' s' ∧ tn i s'.heap ∧ (∀ b ∈ fp, H' b = none) ∧ Wn i m H' := fun {s' H'} Iw nx => by
        have I' : Inv (X.blk s3 H3 scope ce fp) ([] ++ pinsAt fp s7.heap) σ8 H' s' := Iw.unwish
        obtain ⟨m', hm, w'⟩ := hNx H' nx
        have pin' : ∀ b ∈ fp, ∀ o, s7.heap.get? b = some o → s'.heap.get? b = some o ∧ H' b = none := fun b hb o e =>
          let z := I'.pin (b, o) (List.mem_append_right _ (List.mem_append_right _ (mem_pinsAt hb e)))
          ⟨z.1, z.2.1⟩
        have hl : (wipe σ (own.map (·.2))).length = σ8.length := by rw [← hw8, wipe_length]
        refine ⟨m', hm, i + 1, H', (I'.unpinned (pins := [])).weak hl (fun j v e => ?_), T.keep _ _ _ st7 fun b hb o e => (pin' b hb o e).1, fun b hb => ?_, w'⟩
        · rw [← hw8] at e
          exact (wipe_some e).1
        · obtain ⟨o, e, _⟩ := T.obj _ _ st7 b hb
          exact (pin' b hb o e).2
      cases b with
      | false =>
        simp only [Bool.false_eq_true, if_false] at q9 ⊢
        exact fin I9 q9
      | true =>
        simp only [if_true] at q9 ⊢
        refine thnO (pe.run _ s9 σ8 H9 _ I9 q9) fun z s10 ⟨yv, H10, I10, r10, acc, hD10, hz10, nx⟩ => ?_
        exact app_ok (X := blkX X E s3 H3 scope ce fp) I10 hD10 hz10 r10 fun s11 I11 => fin I11 nx
  exact codeAny_compStart_list loop (T.self X.A 0 _ _ _ st4 loop)
theorem pe_lc {E : XK} {elt tg iter : Expr} {ifs : List Expr} {scope : Scope} {own : List (Str × Nat)} {pos : Pos} {wi : TI} {g : TG} {tt : TT} {te : TE} (hst : X.stack = X.env :: X.outer) (hfr : X.env.frame = some X.env.locals) (tk : Takes X (fun cls d _ H => E cls d H)) (hc : X.calm = true) (hN : X.N.Nodup) (hi : PI X tg iter wi) (ok : BlkOk X.N X.env.scope scope own)
    (hg : ∀ (s : Shared) (H : Hp) (C : Addr) (cl : List (Str × Addr)) (fp : List Addr), PG (blkX X E s H scope (compEnvC scope cl C X.env) fp) tg g) (ht : ∀ (s : Shared) (H : Hp) (C : Addr) (cl : List (Str × Addr)) (fp : List Addr), PTs (blkX X E s H scope (compEnvC scope cl C X.env) fp) ifs tt)
    (he : ∀ (s : Shared) (H : Hp) (C : Addr) (cl : List (Str × Addr)) (fp : List Addr), PE (blkX X E s H scope (compEnvC scope cl C X.env) fp) elt te) (hs : ∀ x, foldedSetIterable iter X.env x = pure x := by intro _; rfl) :
    PE X (.ListComp elt [⟨tg, iter, ifs, 0⟩] scope pos) (tLc wi g tt te (own.map (·.2))) := by
  refine ⟨fun pins s σ H Q I h => ?_⟩
  rw [eval_ListComp]
  refine lc_coreX hst hfr tk hc hN I hi ok hg ht he hs h fun D C s' m H' I' q hn f => ⟨m, hn, fun h'' sb => ?_⟩
  obtain ⟨f0, f1, f2, f3, f4, f5⟩ := f
  exact ⟨.ref D, H', I'.turned (t' := s'.toks) (fun b o hb e => (sb.2 b hb).trans e) f0 f1 f3 f4 f5, rfl, q⟩
end
end CoR
namespace EnB
open PySem PySem.Spec PyProof.Rows L2
section
end
theorem pi_or {X : Cx} {tg it : Expr} {w1 w2 : TI} (h1 : PI X tg it w1) (h2 : PI X tg it w2) : PI X tg it (fun σ H R => w1 σ H R ∨ w2 σ H R) :=
  ⟨fun pins s σ H R I h => h.elim (h1.run pins s σ H R I) (h2.run pins s σ H R I)⟩
end EnB
namespace OpM
open PySem PySem.Spec PyProof.Rows L2
structure Own (K : PySem.W.Frag) (C : Addr) (m : Str) (f : Addr) : Prop where
  at_ : PySem.W.findIn K (.ref C) m = some (some (.ref f))
  fn : PySem.W.isFn K (.ref f) = true
theorem back {z : V} {v : Value} {Q : Value → Shared → Prop} {s : Shared} (r : RelV z v) (h : Q v s) : PySem.W.CmpBack Q v s := by
  cases z with
  | non => cases (show v = Value.none from r); exact h
  | bl b => cases (show v = Value.bool b from r); exact h
  | int i => obtain ⟨t, rfl⟩ := (show ∃ t, v = Value.int i t from r); exact h
  | str x => obtain ⟨t, rfl⟩ := (show ∃ t, v = Value.str x t from r); exact h
  | byt b => obtain ⟨t, rfl⟩ := (show ∃ t, v = Value.bytes b t from r); exact h
  | flt b => obtain ⟨t, rfl⟩ := (show ∃ t, v = Value.float b t from r); exact h
  | ref a => cases (show v = Value.ref a from r); exact h
  | ty n => cases (show v = Value.type n from r); exact h
section
variable {X : Cx} {CX : CXT} {k : Nat} {f C : Addr} {sp : Sp} {E : L2.St → XK} {pos : Pos} {a b : Expr} {ta tb : TE}
theorem runB {pins : List (Addr × Obj)} {σ : L2.St} {H : Hp} {s : Shared} {Q : VK} {us : List Value} {vs : List V} {A : Around} (F : FnR X.prog X.w X.K X.mg X.base CX k f sp) (hr : Room k A) (hfr : A.frames = X.A.frames) (hx : PassesAt CX X σ (E σ)) (I : Inv X pins σ H s) (r : Vals vs us) (h : sp vs H Q (E σ)) :
    wpAny (model X.prog X.w) A (call (.ref f) us) (EP X pins σ Q) X.xe s := by
  have e := I.env0
  have e0 : Env0 X.prog X.w X.K X.mg X.base A X.stack s H := ⟨by rw [hfr]; exact e.frames, e.mod, e.bs, e.bsz, e.funs, e.frf, e.hok, e.bare⟩
  refine wpAny_call (codeAny_mono (F A X.stack s H us vs Q (E σ) hr e0 r h) fun r s' hq => ?_)
  cases r with
  | error er => exact hx pins H s er s' I hq
  | ok fl => cases fl <;> first | exact I.after hq | exact False.elim hq
theorem inst {pins : List (Addr × Obj)} {σ : L2.St} {H : Hp} {s : Shared} {x dx : Addr} {fs : List (Str × V)} (I : Inv X pins σ H s) (hx : H x = some (.ins C dx fs)) : ∃ ox od, PySem.W.InstAt s.heap x ox C od := by
  obtain ⟨mA, J, _⟩ := ins_get I.hok hx
  obtain ⟨od, J, _⟩ := J.look
  exact ⟨_, _, J⟩
theorem cmp_run {pins : List (Addr × Obj)} {σ : L2.St} {H : Hp} {s : Shared} {Q : VK} {op : CmpOp} {x y : V} {u v : Value} (O : Own X.K C (cmpInfo op).2.1 f) (F : FnR X.prog X.w X.K X.mg X.base CX k f sp) (hr : Room k X.A) (hx : PassesAt CX X σ (E σ)) (I : Inv X pins σ H s) (rx : RelV x u) (ry : RelV y v)
    (h : ∃ p dx fs t, x = .ref p ∧ H p = some (.ins C dx fs) ∧ TyX X.K H y t ∧ PySem.W.notFirst X.K C t = true ∧ sp [x, y] H Q (E σ)) : wpAny (model X.prog X.w) X.A (richCompare op u v) (EP X pins σ Q) X.xe s := by
  obtain ⟨p, dx, fs, t, rfl, hp, ty, hn, q⟩ := h
  obtain rfl : u = Value.ref p := rx
  obtain ⟨ox, od, J⟩ := inst I hp
  obtain ⟨m, hF⟩ := I.fr
  obtain ⟨P, kit, hP, _⟩ := kit_of I ry ty
  refine PySem.W.cmp_K (Nat.lt_of_le_of_lt (Nat.le_add_right _ _) hr.units) hF I.ok.mod.kin J (kit.ty _ _ I.kIn hP) hn O.at_ O.fn ?_
  refine wpAny_mono (runB F hr rfl hx I (us := [.ref p, v]) (vs := [.ref p, y]) (.cons rfl (.cons ry .nil)) q) (fun w s' z => ?_) fun _ _ z => z
  obtain ⟨z, H', I', rz, q'⟩ := z
  exact back rz ⟨z, H', I', rz, q'⟩
theorem op_cmp {op : CmpOp} (O : Own X.K C (cmpInfo op).2.1 f) (F : FnR X.prog X.w X.K X.mg X.base CX k f sp) (hr : Room k X.A) (hx : ∀ σ, PassesAt CX X σ (fun _ _ _ => False)) :
    OpR X (richCompare op) (fun x y H Q => ∃ p dx fs t, x = .ref p ∧ H p = some (.ins C dx fs) ∧ TyX X.K H y t ∧ PySem.W.notFirst X.K C t = true ∧ sp [x, y] H Q (fun _ _ _ => False)) :=
  fun pins s σ H x y u v Q I rx ry h => cmp_run (E := fun _ _ _ _ => False) O F hr (hx σ) I rx ry h
def rTxt (C : Addr) (sp : Sp) : List V → Hp → VK → Prop := fun xs H Q => ∃ p dx fs, xs = [.ref p] ∧ H p = some (.ins C dx fs) ∧ sp [.ref p] H (fun v H' => (∃ t, v = .str t) ∧ Q v H') (fun _ _ _ => False)
theorem strBack {pins : List (Addr × Obj)} {σ : L2.St} {Q : VK} {v : Value} {s' : Shared} (h : EP X pins σ (fun v H' => (∃ t, v = .str t) ∧ Q v H') v s') : PySem.W.StrBack (EP X pins σ Q) v s' := by
  obtain ⟨z, H', I', rz, ⟨t, rfl⟩, q⟩ := h
  obtain ⟨u, rfl⟩ := (show ∃ u, v = Value.str t u from rz)
  exact ⟨.str t, H', I', ⟨u, rfl⟩, q⟩
theorem call_str_own (O : Own X.K C "__str__" f) (F : FnR X.prog X.w X.K X.mg X.base CX k f sp) (hr : Room (k + 2) X.A) (hx : ∀ σ, PassesAt CX X σ (fun _ _ _ => False)) : CallR X (.type "str") (rTxt C sp) := by
  intro pins s σ H xs us Q I r h
  obtain ⟨p, dx, fs, rfl, hp, q⟩ := h
  obtain ⟨u, rfl, ru⟩ := vals1 r
  obtain rfl : u = Value.ref p := ru
  obtain ⟨ox, od, J⟩ := inst I hp
  refine PySem.W.kso_call (Nat.lt_of_le_of_lt (Nat.le_add_right _ _) hr.in1.in1.units) I.kIn J O.at_ O.fn ?_
  exact wpAny_mono (runB (E := fun _ _ _ _ => False) F hr.in1.in1 rfl (hx σ) I (us := [.ref p]) (vs := [.ref p]) (.cons rfl .nil) q) (fun w s' z => strBack z) fun _ _ z => z
end
section
variable {M : Model} {prog : Program} {w : World} {A : Around} {E : Value → Shared → Prop} {s : Shared} {K : PySem.W.Frag} {x C f : Addr} {ox : Obj} {od : Option Obj} {b tb : Value}
end
section
variable {X : Cx} {CX : CXT} {k : Nat} {f C : Addr} {sp : Sp}
end
section
variable {X : Cx} {CX : CXT} {k i : Nat} {C p g f : Addr} {mc : Value} {sp : Sp} {E : L2.St → XK} {o e : Expr} {es : List Expr} {m x : Str} {pos apos np : Pos} {ta : TE} {t : TA} {pl : Sem Bool}
end
section
variable {X : Cx} {CX : CXT} {k : Nat} {f C : Addr} {sp : Sp}
def rCmp (K : PySem.W.Frag) (C : Addr) (sp : Sp) : R2 := fun x y H Q => ∃ p dx fs t, x = .ref p ∧ H p = some (.ins C dx fs) ∧ TyX K H y t ∧ PySem.W.notFirst K C t = true ∧ sp [x, y] H Q (fun _ _ _ => False)
theorem eqO (K : PySem.W.Frag) (O : Own K C "__eq__" f) (F : FnR X.prog X.w X.K X.mg X.base CX k f sp) (hr : Room k X.A) (hx : ∀ σ, PassesAt CX X σ (fun _ _ _ => False)) (hK : X.K = K := by rfl) : OpR X (compareOp .Eq) (rCmp K C sp) := by
  subst hK
  exact op_cmp (op := .Eq) O F hr hx
structure NeC (K : PySem.W.Frag) (C : Addr) : Prop where
  at_ : PySem.W.findIn K (.ref C) "__ne__" = some (some (.builtin "object.__ne__"))
  mro : PySem.W.mroIn K C (.type "object") = some true
theorem strO (K : PySem.W.Frag) (O : Own K C "__str__" f) (F : FnR X.prog X.w X.K X.mg X.base CX k f sp) (hr : Room (k + 2) X.A) (hx : ∀ σ, PassesAt CX X σ (fun _ _ _ => False)) (hK : X.K = K := by rfl) : CallR X (.type "str") (rTxt C sp) := by
  subst hK
  exact call_str_own O F hr hx
structure InsT (K : PySem.W.Frag) (C : Addr) : Prop where
  ha : PySem.W.findIn K (.ref C) "__class__" = some (some (.builtin "object.__class__"))
  hn : PySem.W.specialIn K (.builtin "object.__class__") "__get__" = some (some (.builtin "getset_descriptor.__get__"))
  htk : PySem.W.takesIn K (.builtin "object.__class__") = some true
  hm : PySem.W.mroIn K C (.type "object") = some true
theorem InsT.ty {K : PySem.W.Frag} {H : Hp} {a dx : Addr} {fs : List (Str × V)} (h : InsT K C) (c : Cls K C) (e : H a = some (.ins C dx fs)) : TyX K H (.ref a) (.ref C) := .base (.ins e c h.ha h.hn h.htk h.hm)
end
section
variable {K : PySem.W.Frag} {C f : Addr} {m : Str}
def ownB (K : PySem.W.Frag) (C : Addr) (m : Str) (f : Addr) : Bool := decide (PySem.W.findIn K (.ref C) m = some (some (.ref f))) && PySem.W.isFn K (.ref f)
theorem ownB_ok (h : ownB K C m f = true) : Own K C m f := ⟨of_decide_eq_true (He.ba h).1, (He.ba h).2⟩
def insB (K : PySem.W.Frag) (C : Addr) : Bool := decide (PySem.W.findIn K (.ref C) "__class__" = some (some (.builtin "object.__class__"))) && (decide (PySem.W.specialIn K (.builtin "object.__class__") "__get__" = some (some (.builtin "getset_descriptor.__get__"))) && (decide (PySem.W.takesIn K (.builtin "object.__class__") = some true) && decide (PySem.W.mroIn K C (.type "object") = some true)))
theorem insB_ok (h : insB K C = true) : InsT K C := ⟨of_decide_eq_true (He.ba h).1, of_decide_eq_true (He.ba (He.ba h).2).1, of_decide_eq_true (He.ba (He.ba (He.ba h).2).2).1, of_decide_eq_true (He.ba (He.ba (He.ba h).2).2).2⟩
end
end OpM
namespace OpM
open PySem PySem.Spec PyProof.Rows L2
section
variable {X : Cx} {CX : CXT} {k i : Nat} {C f : Addr} {sp : Sp} {E : L2.St → XK} {e : Expr} {es : List Expr} {x : Str} {pos np : Pos} {t : TA}
end
end OpM
namespace Pf
open PySem PySem.Spec PyProof.Rows L2
def top (i : Nat) : Stmt := PySem.Challenge.pw_rungbounds_k59_whole_trials_written_and.main.body.getD i (.Pass ⟨0, 0, 0, 0⟩)
abbrev PP : Program := PySem.Challenge.pw_rungbounds_k59_whole_trials_written_and
abbrev s_law_box : Stmt := top 14
abbrev s_law_take : Stmt := top 15
abbrev s_TrialU_initU : Stmt := inClass (top 5) 0
abbrev s_TrialU_eqU : Stmt := inClass (top 5) 2
abbrev s_TrialU_strU : Stmt := inClass (top 5) 4
abbrev s_law_number : Stmt := top 16
abbrev s_law_says : Stmt := top 17
abbrev s_read_number : Stmt := top 11
abbrev s_lines_of : Stmt := top 10
abbrev s_read_trials : Stmt := top 12
abbrev s_write_trials : Stmt := top 9
abbrev s_law_row : Stmt := top 18
abbrev s_law_line : Stmt := top 19
abbrev s_law_same : Stmt := top 20
abbrev s_law : Stmt := top 21
def d_law_box : He5.DefA := ⟨fun K => (He.ga K "_law_box"), "_law_box", "_law_box", defArgs s_law_box, defBody s_law_box, defScope s_law_box, [], []⟩
def d_law_take : He5.DefA := ⟨fun K => (He.ga K "_law_take"), "_law_take", "_law_take", defArgs s_law_take, defBody s_law_take, defScope s_law_take, [], []⟩
def d_TrialU_initU : He5.DefA := ⟨fun K => (He.ma K (He.ga K "Trial") "__init__"), "__init__", "Trial.__init__", defArgs s_TrialU_initU, defBody s_TrialU_initU, defScope s_TrialU_initU, [], []⟩
def d_TrialU_eqU : He5.DefA := ⟨fun K => (He.ma K (He.ga K "Trial") "__eq__"), "__eq__", "Trial.__eq__", defArgs s_TrialU_eqU, defBody s_TrialU_eqU, defScope s_TrialU_eqU, [], []⟩
def d_TrialU_strU : He5.DefA := ⟨fun K => (He.ma K (He.ga K "Trial") "__str__"), "__str__", "Trial.__str__", defArgs s_TrialU_strU, defBody s_TrialU_strU, defScope s_TrialU_strU, [], []⟩
def d_law_number : He5.DefA := ⟨fun K => (He.ga K "_law_number"), "_law_number", "_law_number", defArgs s_law_number, defBody s_law_number, defScope s_law_number, [], []⟩
def d_law_says : He5.DefA := ⟨fun K => (He.ga K "_law_says"), "_law_says", "_law_says", defArgs s_law_says, defBody s_law_says, defScope s_law_says, [], []⟩
def d_read_number : He5.DefA := ⟨fun K => (He.ga K "read_number"), "read_number", "read_number", defArgs s_read_number, defBody s_read_number, defScope s_read_number, [], []⟩
def d_lines_of : He5.DefA := ⟨fun K => (He.ga K "lines_of"), "lines_of", "lines_of", defArgs s_lines_of, defBody s_lines_of, defScope s_lines_of, [], []⟩
def d_read_trials : He5.DefA := ⟨fun K => (He.ga K "read_trials"), "read_trials", "read_trials", defArgs s_read_trials, defBody s_read_trials, defScope s_read_trials, [], []⟩
def d_write_trials : He5.DefA := ⟨fun K => (He.ga K "write_trials"), "write_trials", "write_trials", defArgs s_write_trials, defBody s_write_trials, defScope s_write_trials, [], []⟩
def d_law_row : He5.DefA := ⟨fun K => (He.ga K "_law_row"), "_law_row", "_law_row", defArgs s_law_row, defBody s_law_row, defScope s_law_row, [], []⟩
def d_law_line : He5.DefA := ⟨fun K => (He.ga K "_law_line"), "_law_line", "_law_line", defArgs s_law_line, defBody s_law_line, defScope s_law_line, [], []⟩
def d_law_same : He5.DefA := ⟨fun K => (He.ga K "_law_same"), "_law_same", "_law_same", defArgs s_law_same, defBody s_law_same, defScope s_law_same, [], []⟩
def d_law : He5.DefA := ⟨fun K => (He.ga K "law"), "law", "law", defArgs s_law, defBody s_law, defScope s_law, [], []⟩
def fnL : List He5.DefA := [d_law_box, d_law_take, d_TrialU_initU, d_TrialU_eqU, d_TrialU_strU, d_law_number, d_law_says, d_read_number, d_lines_of, d_read_trials, d_write_trials, d_law_row, d_law_line, d_law_same, d_law]
def erL : List Hd.ErD := [⟨"BadLine", "BadLine.__init__", inClass (top 3) 0⟩]
def faL : List He.Fa := [.glo "BadLine", .str "DIGITS" "0123456789", .int "MOST_DIGITS" (40), .glo "Trial", .glo "_law_box", .glo "_law_line", .glo "_law_number", .glo "_law_row", .glo "_law_same", .glo "_law_says", .glo "_law_take", .glo "law", .glo "lines_of", .glo "read_number", .glo "read_trials", .glo "write_trials", .free "bool", .free "enumerate", .free "int", .free "isinstance", .free "len", .free "list", .free "range", .free "str", .free "super", .free "tuple", .cls "Trial", .noat "Trial" "height", .noat "Trial" "place", .noat "Trial" "reached", .mkr "Trial"]
def exL (K : PySem.W.Frag) : Bool := (faL.all fun f => f.ok K) && (Hd.errB PP K "BadLine" "line" "BadLine.__init__" && (OpM.ownB K (He.ga K "Trial") "__eq__" (He.ma K (He.ga K "Trial") "__eq__") && (OpM.insB K (He.ga K "Trial") && (decide (PySem.W.kitOne K (.ref (He.ga K "Trial")) (.ref (He.ga K "Trial")) = some true) && (OpM.ownB K (He.ga K "Trial") "__str__" (He.ma K (He.ga K "Trial") "__str__") && true)))))
abbrev R : PySem.W.OpenRow := PySem.W.OpenLaw.row PySem.Challenge.rw_rungbounds_k59_whole_trials_written_and
abbrev hk : PySem.W.Hook := Hd.hookP 6 fnL erL exL
def loose : List Str := (["_wall", "LadderError", "BadLine", "Trial", "DIGITS", "MOST_DIGITS", "write_trials", "lines_of", "read_number", "read_trials", "_law_box", "_law_take", "_law_number", "_law_says", "_law_row", "_law_line", "_law_same"] : List Str)
def ob (s : PySem.W.SharedT) : Hd.AlP := Hd.obsPG 6 fnL erL exL (HandSHeadRun.getT s)
theorem ob_eq (s : PySem.W.SharedT) : ob s = hk.obs s.abs := Hd.obsPG_eq (HandSHeadRun.getT_eq s)
theorem runA (w : World) : Hd.runL R 6000 w := by
  intro os
  kernel_rfl
theorem runB (w : World) : Hd.runS R (PySem.W.view R.prog [21]) 6000 loose w := by
  intro os
  kernel_rfl
theorem runC (w : World) : Hd.runO R hk ob 6000 w := by
  intro os
  kernel_rfl
theorem run (w : World) : HandSHeadRun.RunEq R (PySem.W.view R.prog [21]) hk ob 6000 loose w := Hd.run_of (runA w) (runB w) (runC w)
end Pf
namespace Dl
open PySem PySem.Spec PyProof.Rows L2
inductive D where
  | non | bl (b : Bool) | int (i : Int) | str (x : Str) | lst (xs : List D) | tup (xs : List D) | dic (es : List (Key × D)) | dil (es : List (Key × D)) | obj (c : Nat) (fs : List D) | cls (c : Nat) | scr | idn (a : Addr) (d : D)
def cn : Nat → Str
  | 0 => "Trial" | 1 => "Ladder" | 2 => "Rack" | 3 => "Site" | 4 => "Bounds" | 5 => "Wish" | 6 => "AllWithin" | 7 => "SomeWithin" | 8 => "Band" | 9 => "Both" | 10 => "Planner" | 11 => "Situation" | 12 => "Together" | _ => "Crew"
def cf : Nat → List Str
  | 0 => ["place", "height", "reached"] | 1 => ["length", "parts"] | 2 => ["rows"] | 3 => ["wall_rows", "link_rows", "spots", "tops", "size", "direct", "far", "middles"] | 4 => ["site", "given", "least", "greatest"]
  | 5 => ["size"] | 6 => ["size", "pairs"] | 7 => ["size", "pairs"] | 8 => ["size", "place", "cuts"] | 9 => ["size", "first", "second"] | 10 => ["site", "given", "wish", "menu", "allowed", "known", "costs"]
  | 11 => ["ladder_rows", "pinned_marks", "tried", "allowed", "deeds"] | 12 => ["crew", "before"] | _ => ["site", "now", "past", "taken_back", "running"]
inductive Sh where
  | fr | ol (s : Sh) | od (s : Sh) | oo (ss : List Sh) | ot (ss : List Sh)
inductive Sl where
  | un | sh (d : D) | ow (s : Sh) (d : D) | le (v : V) (s : Sh) (d : D) | bx | lb (v : V) | er (a dd : Addr) (c : Nat) (d : D)
def en : Nat → Str
  | 0 => "BadNumber" | 1 => "BadName" | 2 => "TakenName" | 3 => "UnknownName" | 4 => "NoPlace" | 5 => "TooMany" | 6 => "NoSite" | 7 => "NoShape" | 8 => "BadState" | 9 => "BadLine" | 10 => "DeedFailed" | 11 => "OtherSite" | 12 => "NothingToUndo" | _ => "NothingToRedo"
def ef : Nat → Str
  | 0 => "value" | 1 => "name" | 2 => "name" | 3 => "name" | 4 => "place" | 5 => "count" | 6 => "ring" | 7 => "blames" | 8 => "state" | 9 => "line" | 10 => "row" | _ => ""
def Bx (H : Hp) (b c : Addr) : Prop := ∃ (cs : List Int) (i r s : Int), H b = some (.lst [.ref c, .int i, .int r, .int s]) ∧ H c = some (.lst (cs.map V.int)) ∧ cs.length ≤ 63 ∧ 0 ≤ i ∧ 0 ≤ r ∧ 0 ≤ s ∧ s < 2147483647
mutual
inductive Rep (K : PySem.W.Frag) (F : Hp) : V → D → Prop
  | non : Rep K F .non .non
  | bl (b : Bool) : Rep K F (.bl b) (.bl b)
  | int (i : Int) : Rep K F (.int i) (.int i)
  | str (x : Str) : Rep K F (.str x) (.str x)
  | lst {a : Addr} {vs : List V} {ds : List D} : F a = some (.lst vs) → RepL K F vs ds → Rep K F (.ref a) (.lst ds)
  | tup {a : Addr} {vs : List V} {ds : List D} : SqT K F a vs → RepL K F vs ds → Rep K F (.ref a) (.tup ds)
  | dic {a : Addr} {kvs : List (Key × V)} {es : List (Key × D)} : F a = some (.dK kvs) → RepK K F kvs es → Rep K F (.ref a) (.dic es)
  | dil {a : Addr} {o : Obj} {kvs : List (Key × V)} {es : List (Key × D)} : F a = some (.frz o (.dK kvs)) → RepK K F kvs es → Rep K F (.ref a) (.dil es)
  | obj {a dx : Addr} {c : Nat} {fs : List (Str × V)} {ds : List D} : F a = some (.ins (He.ga K (cn c)) dx fs) → F dx = some (.own a) → fs.map (·.1) = (cf c).take ds.length → RepL K F (fs.map (·.2)) ds → Rep K F (.ref a) (.obj c ds)
  | cls (c : Nat) : Rep K F (.ref (He.ga K (cn c))) (.cls c)
  | scr {a : Addr} {ns : List Int} : SqL K F a (ns.map V.int) → Rep K F (.ref a) .scr
  | idn {a : Addr} {d : D} : F a ≠ none → Rep K F (.ref a) d → Rep K F (.ref a) (.idn a d)
inductive RepL (K : PySem.W.Frag) (F : Hp) : List V → List D → Prop
  | nil : RepL K F [] []
  | cons {v : V} {d : D} {vs : List V} {ds : List D} : Rep K F v d → RepL K F vs ds → RepL K F (v :: vs) (d :: ds)
inductive RepK (K : PySem.W.Frag) (F : Hp) : List (Key × V) → List (Key × D) → Prop
  | nil : RepK K F [] []
  | cons {k : Key} {v : V} {d : D} {vs : List (Key × V)} {ds : List (Key × D)} : Rep K F v d → RepK K F vs ds → RepK K F ((k, v) :: vs) ((k, d) :: ds)
end
mutual
inductive Own (K : PySem.W.Frag) (F H : Hp) : Sh → V → D → List Addr → Prop
  | fr {v : V} {d : D} : Rep K F v d → Own K F H .fr v d []
  | ol {s : Sh} {a : Addr} {vs : List V} {ds : List D} {fp : List Addr} : H a = some (.lst vs) → OwnL K F H s vs ds fp → Own K F H (.ol s) (.ref a) (.lst ds) (a :: fp)
  | od {s : Sh} {a : Addr} {kvs : List (Key × V)} {es : List (Key × D)} {fp : List Addr} : H a = some (.dK kvs) → OwnK K F H s kvs es fp → Own K F H (.od s) (.ref a) (.dic es) (a :: fp)
  | oo {ss : List Sh} {a dx : Addr} {c : Nat} {fs : List (Str × V)} {ds : List D} {fp : List Addr} : H a = some (.ins (He.ga K (cn c)) dx fs) → H dx = some (.own a) → fs.map (·.1) = (cf c).take ds.length → OwnF K F H ss (fs.map (·.2)) ds fp → Own K F H (.oo ss) (.ref a) (.obj c ds) (a :: dx :: fp)
  | ot {ss : List Sh} {a : Addr} {vs : List V} {ds : List D} {fp : List Addr} : H a = some (.tup vs) → OwnF K F H ss vs ds fp → Own K F H (.ot ss) (.ref a) (.tup ds) (a :: fp)
inductive OwnL (K : PySem.W.Frag) (F H : Hp) : Sh → List V → List D → List Addr → Prop
  | nil {s : Sh} : OwnL K F H s [] [] []
  | cons {s : Sh} {v : V} {d : D} {f fp : List Addr} {vs : List V} {ds : List D} : Own K F H s v d f → OwnL K F H s vs ds fp → OwnL K F H s (v :: vs) (d :: ds) (f ++ fp)
inductive OwnK (K : PySem.W.Frag) (F H : Hp) : Sh → List (Key × V) → List (Key × D) → List Addr → Prop
  | nil {s : Sh} : OwnK K F H s [] [] []
  | cons {s : Sh} {k : Key} {v : V} {d : D} {f fp : List Addr} {vs : List (Key × V)} {ds : List (Key × D)} : Own K F H s v d f → OwnK K F H s vs ds fp → OwnK K F H s ((k, v) :: vs) ((k, d) :: ds) (f ++ fp)
inductive OwnF (K : PySem.W.Frag) (F H : Hp) : List Sh → List V → List D → List Addr → Prop
  | nil : OwnF K F H [] [] [] []
  | cons {s : Sh} {ss : List Sh} {v : V} {d : D} {f fp : List Addr} {vs : List V} {ds : List D} : Own K F H s v d f → OwnF K F H ss vs ds fp → OwnF K F H (s :: ss) (v :: vs) (d :: ds) (f ++ fp)
end
def Le (F F' : Hp) : Prop := ∀ a o, F a = some o → F' a = some o
theorem Le.rfl {F : Hp} : Le F F := fun _ _ h => h
theorem Le.trans {F F' F'' : Hp} (h : Le F F') (h' : Le F' F'') : Le F F'' := fun a o e => h' a o (h a o e)
section
variable {K : PySem.W.Frag} {F F' H H' : Hp}
theorem rd_mono (s : Le F F') {a : Addr} {u : HO} (h : Rd F a u) : Rd F' a u := by
  rcases h with h | ⟨o, h⟩
  · exact .inl (s _ _ h)
  · exact .inr ⟨o, s _ _ h⟩
theorem sql_mono (s : Le F F') {a : Addr} {vs : List V} (h : SqL K F a vs) : SqL K F' a vs := by
  rcases h with h | h
  · exact .inl (rd_mono s h)
  · exact .inr h
theorem sqt_mono (s : Le F F') {a : Addr} {vs : List V} (h : SqT K F a vs) : SqT K F' a vs := by
  rcases h with h | h
  · exact .inl (rd_mono s h)
  · exact .inr h
mutual
theorem Rep.mono (s : Le F F') : ∀ {v : V} {d : D}, Rep K F v d → Rep K F' v d
  | _, _, .non => .non
  | _, _, .bl b => .bl b
  | _, _, .int i => .int i
  | _, _, .str x => .str x
  | _, _, .lst h r => .lst (s _ _ h) (RepL.mono s r)
  | _, _, .tup h r => .tup (sqt_mono s h) (RepL.mono s r)
  | _, _, .dic h r => .dic (s _ _ h) (RepK.mono s r)
  | _, _, .dil h r => .dil (s _ _ h) (RepK.mono s r)
  | _, _, .obj h h' n r => .obj (s _ _ h) (s _ _ h') n (RepL.mono s r)
  | _, _, .cls c => .cls c
  | _, _, .scr h => .scr (sql_mono s h)
  | _, _, .idn n r => .idn (fun z => by cases e : F _ with | none => exact n e | some o => rw [s _ _ e] at z; cases z) (Rep.mono s r)
theorem RepL.mono (s : Le F F') : ∀ {v : List V} {d : List D}, RepL K F v d → RepL K F' v d
  | _, _, .nil => .nil
  | _, _, .cons h r => .cons (Rep.mono s h) (RepL.mono s r)
theorem RepK.mono (s : Le F F') : ∀ {v : List (Key × V)} {d : List (Key × D)}, RepK K F v d → RepK K F' v d
  | _, _, .nil => .nil
  | _, _, .cons h r => .cons (Rep.mono s h) (RepK.mono s r)
end
mutual
theorem Own.mono (s : Le F F') : ∀ {z : Sh} {v : V} {d : D} {fp : List Addr}, (∀ a ∈ fp, H' a = H a) → Own K F H z v d fp → Own K F' H' z v d fp
  | _, _, _, _, _, .fr r => .fr (r.mono s)
  | _, _, _, _, e, .ol h r => .ol (by rw [e _ (by simp)]; exact h) (OwnL.mono s (fun a ha => e a (List.mem_cons_of_mem _ ha)) r)
  | _, _, _, _, e, .od h r => .od (by rw [e _ (by simp)]; exact h) (OwnK.mono s (fun a ha => e a (List.mem_cons_of_mem _ ha)) r)
  | _, _, _, _, e, .oo h h' n r => .oo (by rw [e _ (by simp)]; exact h) (by rw [e _ (by simp)]; exact h') n (OwnF.mono s (fun a ha => e a (List.mem_cons_of_mem _ (List.mem_cons_of_mem _ ha))) r)
  | _, _, _, _, e, .ot h r => .ot (by rw [e _ (by simp)]; exact h) (OwnF.mono s (fun a ha => e a (List.mem_cons_of_mem _ ha)) r)
theorem OwnL.mono (s : Le F F') : ∀ {z : Sh} {v : List V} {d : List D} {fp : List Addr}, (∀ a ∈ fp, H' a = H a) → OwnL K F H z v d fp → OwnL K F' H' z v d fp
  | _, _, _, _, _, .nil => .nil
  | _, _, _, _, e, .cons h r => .cons (Own.mono s (fun a ha => e a (List.mem_append_left _ ha)) h) (OwnL.mono s (fun a ha => e a (List.mem_append_right _ ha)) r)
theorem OwnK.mono (s : Le F F') : ∀ {z : Sh} {v : List (Key × V)} {d : List (Key × D)} {fp : List Addr}, (∀ a ∈ fp, H' a = H a) → OwnK K F H z v d fp → OwnK K F' H' z v d fp
  | _, _, _, _, _, .nil => .nil
  | _, _, _, _, e, .cons h r => .cons (Own.mono s (fun a ha => e a (List.mem_append_left _ ha)) h) (OwnK.mono s (fun a ha => e a (List.mem_append_right _ ha)) r)
theorem OwnF.mono (s : Le F F') : ∀ {z : List Sh} {v : List V} {d : List D} {fp : List Addr}, (∀ a ∈ fp, H' a = H a) → OwnF K F H z v d fp → OwnF K F' H' z v d fp
  | _, _, _, _, _, .nil => .nil
  | _, _, _, _, e, .cons h r => .cons (Own.mono s (fun a ha => e a (List.mem_append_left _ ha)) h) (OwnF.mono s (fun a ha => e a (List.mem_append_right _ ha)) r)
end
mutual
theorem Own.fz (s : Le F F') : ∀ {z : Sh} {v : V} {d : D} {fp : List Addr}, (∀ a ∈ fp, F' a = H a) → Own K F H z v d fp → Rep K F' v d
  | _, _, _, _, _, .fr r => r.mono s
  | _, _, _, _, e, .ol h r => .lst (by rw [e _ (by simp)]; exact h) (OwnL.fz s (fun a ha => e a (List.mem_cons_of_mem _ ha)) r)
  | _, _, _, _, e, .od h r => .dic (by rw [e _ (by simp)]; exact h) (OwnK.fz s (fun a ha => e a (List.mem_cons_of_mem _ ha)) r)
  | _, _, _, _, e, .oo h h' n r => .obj (by rw [e _ (by simp)]; exact h) (by rw [e _ (by simp)]; exact h') n (OwnF.fz s (fun a ha => e a (List.mem_cons_of_mem _ (List.mem_cons_of_mem _ ha))) r)
  | _, _, _, _, e, .ot h r => .tup (.inl (.inl (by rw [e _ (by simp)]; exact h))) (OwnF.fz s (fun a ha => e a (List.mem_cons_of_mem _ ha)) r)
theorem OwnL.fz (s : Le F F') : ∀ {z : Sh} {v : List V} {d : List D} {fp : List Addr}, (∀ a ∈ fp, F' a = H a) → OwnL K F H z v d fp → RepL K F' v d
  | _, _, _, _, _, .nil => .nil
  | _, _, _, _, e, .cons h r => .cons (Own.fz s (fun a ha => e a (List.mem_append_left _ ha)) h) (OwnL.fz s (fun a ha => e a (List.mem_append_right _ ha)) r)
theorem OwnK.fz (s : Le F F') : ∀ {z : Sh} {v : List (Key × V)} {d : List (Key × D)} {fp : List Addr}, (∀ a ∈ fp, F' a = H a) → OwnK K F H z v d fp → RepK K F' v d
  | _, _, _, _, _, .nil => .nil
  | _, _, _, _, e, .cons h r => .cons (Own.fz s (fun a ha => e a (List.mem_append_left _ ha)) h) (OwnK.fz s (fun a ha => e a (List.mem_append_right _ ha)) r)
theorem OwnF.fz (s : Le F F') : ∀ {z : List Sh} {v : List V} {d : List D} {fp : List Addr}, (∀ a ∈ fp, F' a = H a) → OwnF K F H z v d fp → RepL K F' v d
  | _, _, _, _, _, .nil => .nil
  | _, _, _, _, e, .cons h r => .cons (Own.fz s (fun a ha => e a (List.mem_append_left _ ha)) h) (OwnF.fz s (fun a ha => e a (List.mem_append_right _ ha)) r)
end
mutual
theorem Own.here : ∀ {z : Sh} {v : V} {d : D} {fp : List Addr}, Own K F H z v d fp → ∀ a ∈ fp, H a ≠ none
  | _, _, _, _, .fr r, a, ha => by cases ha
  | _, _, _, _, .ol h r, a, ha => by
    rcases List.mem_cons.mp ha with rfl | ha
    · rw [h]; intro z; cases z
    · exact OwnL.here r a ha
  | _, _, _, _, .od h r, a, ha => by
    rcases List.mem_cons.mp ha with rfl | ha
    · rw [h]; intro z; cases z
    · exact OwnK.here r a ha
  | _, _, _, _, .oo h h' n r, a, ha => by
    rcases List.mem_cons.mp ha with rfl | ha
    · rw [h]; intro z; cases z
    rcases List.mem_cons.mp ha with rfl | ha
    · rw [h']; intro z; cases z
    · exact OwnF.here r a ha
  | _, _, _, _, .ot h r, a, ha => by
    rcases List.mem_cons.mp ha with rfl | ha
    · rw [h]; intro z; cases z
    · exact OwnF.here r a ha
theorem OwnL.here : ∀ {z : Sh} {v : List V} {d : List D} {fp : List Addr}, OwnL K F H z v d fp → ∀ a ∈ fp, H a ≠ none
  | _, _, _, _, .nil, a, ha => by cases ha
  | _, _, _, _, .cons h r, a, ha => by
    rcases List.mem_append.mp ha with ha | ha
    · exact Own.here h a ha
    · exact OwnL.here r a ha
theorem OwnK.here : ∀ {z : Sh} {v : List (Key × V)} {d : List (Key × D)} {fp : List Addr}, OwnK K F H z v d fp → ∀ a ∈ fp, H a ≠ none
  | _, _, _, _, .nil, a, ha => by cases ha
  | _, _, _, _, .cons h r, a, ha => by
    rcases List.mem_append.mp ha with ha | ha
    · exact Own.here h a ha
    · exact OwnK.here r a ha
theorem OwnF.here : ∀ {z : List Sh} {v : List V} {d : List D} {fp : List Addr}, OwnF K F H z v d fp → ∀ a ∈ fp, H a ≠ none
  | _, _, _, _, .nil, a, ha => by cases ha
  | _, _, _, _, .cons h r, a, ha => by
    rcases List.mem_append.mp ha with ha | ha
    · exact Own.here h a ha
    · exact OwnF.here r a ha
end
end
inductive SlV (K : PySem.W.Frag) (F H : Hp) : Option V → Sl → List Addr → Prop
  | un {o : Option V} : SlV K F H o .un []
  | sh {v : V} {d : D} : Rep K F v d → SlV K F H (some v) (.sh d) []
  | ow {v : V} {s : Sh} {d : D} {fp : List Addr} : Own K F H s v d fp → SlV K F H (some v) (.ow s d) fp
  | le {v : V} {s : Sh} {d : D} {fp : List Addr} : Own K F H s v d fp → SlV K F H (some v) (.le v s d) fp
  | bx {b c : Addr} : Bx H b c → SlV K F H (some (.ref b)) .bx [b, c]
  | lb {b c : Addr} : Bx H b c → SlV K F H (some (.ref b)) (.lb (.ref b)) [b, c]
  | erB {a dd : Addr} {c : Nat} {d : D} : ef c = ("" : Str) → SlV K F H (some (.ref a)) (.er a dd c d) []
  | er {a dd : Addr} {c : Nat} {v : V} {d : D} : ef c ≠ ("" : Str) → H dd = some (.xd [(ef c, v)]) → Rep K F v d → SlV K F H (some (.ref a)) (.er a dd c d) [dd]
inductive Slots (K : PySem.W.Frag) (F H : Hp) : L2.St → List Sl → List Addr → Prop
  | nil : Slots K F H [] [] []
  | cons {o : Option V} {s : Sl} {f fp : List Addr} {σ : L2.St} {ρ : List Sl} : SlV K F H o s f → Slots K F H σ ρ fp → Slots K F H (o :: σ) (s :: ρ) (f ++ fp)
section
variable {K : PySem.W.Frag} {F F' H H' : Hp}
theorem bx_mono {b c : Addr} (e : ∀ a ∈ [b, c], H' a = H a) (h : Bx H b c) : Bx H' b c := by
  obtain ⟨cs, i, r, s, h1, h2, h3⟩ := h
  exact ⟨cs, i, r, s, by rw [e _ (by simp)]; exact h1, by rw [e _ (by simp)]; exact h2, h3⟩
theorem SlV.mono (s : Le F F') {o : Option V} {z : Sl} {fp : List Addr} (e : ∀ a ∈ fp, H' a = H a) (h : SlV K F H o z fp) : SlV K F' H' o z fp := by
  cases h with
  | un => exact .un
  | sh r => exact .sh (r.mono s)
  | ow r => exact .ow (r.mono s e)
  | bx r => exact .bx (bx_mono e r)
  | le r => exact .le (r.mono s e)
  | lb r => exact .lb (bx_mono e r)
  | erB q => exact .erB q
  | er q h r => exact .er q (by rw [e _ (by simp)]; exact h) (r.mono s)
theorem Bx.here {b c : Addr} (r : Bx H b c) : ∀ a ∈ [b, c], H a ≠ none := by
  obtain ⟨cs, i, r, s, h1, h2, h3⟩ := r
  intro a ha z
  rcases List.mem_cons.mp ha with rfl | ha
  · rw [h1] at z; cases z
  · rcases List.mem_cons.mp ha with rfl | ha
    · rw [h2] at z; cases z
    · cases ha
theorem SlV.here {o : Option V} {z : Sl} {fp : List Addr} (h : SlV K F H o z fp) : ∀ a ∈ fp, H a ≠ none := by
  cases h with
  | un => intro a ha; cases ha
  | sh r => intro a ha; cases ha
  | ow r => exact r.here
  | bx r => exact r.here
  | le r => exact r.here
  | lb r => exact r.here
  | erB q => exact fun a ha => nomatch ha
  | er q h r =>
    intro a ha z
    rw [List.mem_singleton.mp ha, h] at z
    cases z
theorem Slots.mono (s : Le F F') {σ : L2.St} {ρ : List Sl} {fp : List Addr} (e : ∀ a ∈ fp, H' a = H a) (h : Slots K F H σ ρ fp) : Slots K F' H' σ ρ fp := by
  induction h with
  | nil => exact .nil
  | cons h r ih => exact .cons (h.mono s fun a ha => e a (List.mem_append_left _ ha)) (ih fun a ha => e a (List.mem_append_right _ ha))
theorem Slots.here {σ : L2.St} {ρ : List Sl} {fp : List Addr} (h : Slots K F H σ ρ fp) : ∀ a ∈ fp, H a ≠ none := by
  induction h with
  | nil => intro a ha; cases ha
  | cons h r ih =>
    intro a ha
    rcases List.mem_append.mp ha with ha | ha
    · exact h.here a ha
    · exact ih a ha
theorem Slots.len {σ : L2.St} {ρ : List Sl} {fp : List Addr} (h : Slots K F H σ ρ fp) : σ.length = ρ.length := by
  induction h with
  | nil => rfl
  | cons h r ih => simp [ih]
theorem Slots.at {σ : L2.St} {ρ : List Sl} {fp : List Addr} (h : Slots K F H σ ρ fp) : ∀ {i : Nat} {s : Sl}, ρ[i]? = some s → ∃ (o : Option V) (l f r : List Addr), fp = l ++ (f ++ r) ∧ σ[i]? = some o ∧ SlV K F H o s f ∧
    ∀ (o' : Option V) (s' : Sl) (f' : List Addr), SlV K F H o' s' f' → Slots K F H (σ.set i o') (ρ.set i s') (l ++ (f' ++ r)) := by
  induction h with
  | nil => intro i s e; cases e
  | @cons o s0 f fp σ ρ h r ih =>
    intro i s e
    cases i with
    | zero =>
      obtain rfl : s0 = s := Option.some.inj e
      exact ⟨o, [], f, fp, rfl, rfl, h, fun o' s' f' h' => by show Slots K F H (o' :: σ) (s' :: ρ) (f' ++ fp); exact .cons h' r⟩
    | succ i =>
      obtain ⟨o1, l, f1, r1, e1, e2, h1, k⟩ := ih (i := i) (s := s) e
      refine ⟨o1, f ++ l, f1, r1, by rw [e1, List.append_assoc], e2, h1, fun o' s' f' h' => ?_⟩
      rw [List.append_assoc]
      exact .cons h (k o' s' f' h')
theorem Slots.app {σ σ' : L2.St} {ρ ρ' : List Sl} {fp fp' : List Addr} (h : Slots K F H σ ρ fp) (h' : Slots K F H σ' ρ' fp') : Slots K F H (σ ++ σ') (ρ ++ ρ') (fp ++ fp') := by
  induction h with
  | nil => exact h'
  | cons h r ih => rw [List.append_assoc]; exact .cons h ih
theorem Slots.split {σ' : L2.St} {ρ' : List Sl} : ∀ {σ : L2.St} {ρ : List Sl} {fp : List Addr}, σ.length = ρ.length → Slots K F H (σ ++ σ') (ρ ++ ρ') fp → ∃ f1 f2, fp = f1 ++ f2 ∧ Slots K F H σ ρ f1 ∧ Slots K F H σ' ρ' f2
  | [], [], fp, _, h => ⟨[], fp, rfl, .nil, h⟩
  | [], _ :: _, _, e, _ => by simp at e
  | _ :: _, [], _, e, _ => by simp at e
  | o :: σ, s :: ρ, fp, e, h => by
    cases h with
    | cons h r =>
      obtain ⟨f1, f2, rfl, h1, h2⟩ := Slots.split (by simpa using e) r
      exact ⟨_ ++ f1, f2, by rw [List.append_assoc], .cons h h1, h2⟩
end
structure Ent where
  H : Hp
  F : Hp
  fp : List Addr
structure Good (G : Ent) (F H : Hp) (fp : List Addr) : Prop where
  sub : Le F H
  f0 : Le G.F F
  fN : ∀ a, F a ≠ none → G.F a ≠ none ∨ G.H a = none ∨ a ∈ G.fp
  frm : ∀ a o, G.H a = some o → a ∉ G.fp → H a = some o
  all : ∀ a, G.H a ≠ none → H a ≠ none
  own : ∀ a ∈ fp, a ∈ G.fp ∨ G.H a = none
  nf : ∀ a ∈ fp, F a = none
  nd : fp.Nodup
def Rel (K : PySem.W.Frag) (G : Ent) (H : Hp) (σ : L2.St) (ρ : List Sl) (τ : L2.St) (δ : List Sl) : Prop :=
  ∃ F f1 f2, Good G F H (f1 ++ f2) ∧ Slots K F H τ δ f1 ∧ Slots K F H σ ρ f2
section
variable {K : PySem.W.Frag} {G : Ent} {F F' H H' : Hp} {fp fp' : List Addr}
theorem Good.less (g : Good G F H fp) (p : fp'.Sublist fp) : Good G F H fp' :=
  ⟨g.sub, g.f0, g.fN, g.frm, g.all, fun a ha => g.own a (p.subset ha), fun a ha => g.nf a (p.subset ha), g.nd.sublist p⟩
theorem Good.cnt (g : Good G F H fp) (h : ∀ a, fp'.count a ≤ fp.count a) : Good G F H fp' := by
  have hm : ∀ a ∈ fp', a ∈ fp := fun a ha => List.count_pos_iff.mp (Nat.lt_of_lt_of_le (List.count_pos_iff.mpr ha) (h a))
  exact ⟨g.sub, g.f0, g.fN, g.frm, g.all, fun a ha => g.own a (hm a ha), fun a ha => g.nf a (hm a ha), List.nodup_iff_count.mpr fun a => Nat.le_trans (h a) (List.nodup_iff_count.mp g.nd a)⟩
theorem Good.newO (g : Good G F H fp) (hin : ∀ a ∈ fp, H a ≠ none) {p : Addr} (hp : H p = none) (o : HO) : Good G F (upd H p o) (p :: fp) := by
  have hG : G.H p = none := by
    cases e : G.H p with
    | none => rfl
    | some u => exact absurd hp (g.all p (by rw [e]; intro z; cases z))
  have hF : F p = none := by
    cases e : F p with
    | none => rfl
    | some u => have := g.sub p u e; rw [hp] at this; cases this
  refine ⟨fun a u e => ?_, g.f0, g.fN, fun a u e hn => ?_, fun a e => ?_, fun a ha => ?_, fun a ha => ?_, List.nodup_cons.mpr ⟨fun z => hin p z hp, g.nd⟩⟩
  · have h1 := g.sub a u e
    rw [upd_ne (ne_of_none h1 hp)]; exact h1
  · have h1 := g.frm a u e hn
    rw [upd_ne (ne_of_none h1 hp)]; exact h1
  · by_cases h : a = p
    · rw [h, upd_same]; intro z; cases z
    · rw [upd_ne h]; exact g.all a e
  · rcases List.mem_cons.mp ha with rfl | ha
    · exact .inr hG
    · exact g.own a ha
  · rcases List.mem_cons.mp ha with rfl | ha
    · exact hF
    · exact g.nf a ha
def fzH (F H : Hp) (f : List Addr) : Hp := fun a => if a ∈ f then H a else F a
theorem fzH_in {f : List Addr} {a : Addr} (h : a ∈ f) : fzH F H f a = H a := by unfold fzH; rw [if_pos h]
theorem fzH_out {f : List Addr} {a : Addr} (h : a ∉ f) : fzH F H f a = F a := by unfold fzH; rw [if_neg h]
theorem fzH_le {f : List Addr} (h : ∀ a ∈ f, F a = none) : Le F (fzH F H f) := fun a o e => by
  rw [fzH_out]
  · exact e
  · intro z
    rw [h a z] at e
    cases e
theorem Good.fz {f : List Addr} (g : Good G F H (f ++ fp)) : Good G (fzH F H f) H fp := by
  have hf : ∀ a ∈ f, F a = none := fun a ha => g.nf a (List.mem_append_left _ ha)
  refine ⟨fun a o e => ?_, g.f0.trans (fzH_le hf), fun a e => ?_, g.frm, g.all, fun a ha => g.own a (List.mem_append_right _ ha), fun a ha => ?_, (List.nodup_append.mp g.nd).2.1⟩
  · by_cases h : a ∈ f
    · rw [fzH_in h] at e; exact e
    · rw [fzH_out h] at e; exact g.sub a o e
  · by_cases h : a ∈ f
    · exact .inr ((g.own a (List.mem_append_left _ h)).symm)
    · rw [fzH_out h] at e; exact g.fN a e
  · have : a ∉ f := fun z => (List.nodup_append.mp g.nd).2.2 a z a ha rfl
    rw [fzH_out this]
    exact g.nf a (List.mem_append_right _ ha)
theorem Good.mut (g : Good G F H fp) {a : Addr} (ha : a ∈ fp) (o : HO) : Good G F (upd H a o) fp := by
  have hF := g.nf a ha
  refine ⟨fun b u e => ?_, g.f0, g.fN, fun b u e hn => ?_, fun b e => ?_, g.own, g.nf, g.nd⟩
  · have hb : b ≠ a := fun z => by rw [z, hF] at e; cases e
    rw [upd_ne hb]; exact g.sub b u e
  · have hb : b ≠ a := fun z => by
      rcases g.own a ha with q | q
      · exact hn (z ▸ q)
      · rw [z, q] at e; cases e
    rw [upd_ne hb]; exact g.frm b u e hn
  · by_cases h : b = a
    · rw [h, upd_same]; intro z; cases z
    · rw [upd_ne h]; exact g.all b e
end
end Dl
namespace Dl
open PySem PySem.Spec PyProof.Rows L2
section
variable {K : PySem.W.Frag} {G : Ent} {H H' : Hp} {σ τ : L2.St} {ρ δ : List Sl} {v x : V} {s : Sl} {d : D}
def D.val : D → Option V
  | .non => some .non
  | .bl b => some (.bl b)
  | .int i => some (.int i)
  | .str x => some (.str x)
  | _ => none
theorem Rep.val {F : Hp} {v u : V} {d : D} (h : Rep K F v d) (e : d.val = some u) : v = u := by
  cases h <;> first | exact Option.some.inj e | cases e
theorem rep_val {F : Hp} {v : V} {d : D} (e : d.val = some v) : Rep K F v d := by
  cases d <;> first | (cases e; done) | (cases e; constructor)
theorem Rel.pop {o : Option V} (h : Rel K G H σ ρ (o :: τ) (s :: δ)) : Rel K G H σ ρ τ δ := by
  obtain ⟨F, f1, f2, g, ht, hs⟩ := h
  cases ht with
  | cons h1 h2 => exact ⟨F, _, f2, g.cnt (by intro a; simp only [List.count_append]; omega), h2, hs⟩
theorem Rel.push (h : Rel K G H σ ρ τ δ) (e : d.val = some v) : Rel K G H σ ρ (some v :: τ) (.sh d :: δ) := by
  obtain ⟨F, f1, f2, g, ht, hs⟩ := h
  exact ⟨F, _, f2, g, .cons (.sh (rep_val e)) ht, hs⟩
theorem Rel.topv {u : V} (h : Rel K G H σ ρ (some v :: τ) (.sh d :: δ)) (e : d.val = some u) : v = u := by
  obtain ⟨F, f1, f2, g, ht, hs⟩ := h
  cases ht with
  | cons h1 h2 => cases h1 with | sh r => exact r.val e
theorem Rel.swap {o o' : Option V} {s' : Sl} (h : Rel K G H σ ρ (o :: o' :: τ) (s :: s' :: δ)) : Rel K G H σ ρ (o' :: o :: τ) (s' :: s :: δ) := by
  obtain ⟨F, f1, f2, g, ht, hs⟩ := h
  cases ht with
  | cons h1 h2 =>
    cases h2 with
    | @cons _ _ fb fr _ _ h2 h3 =>
      rename_i fa
      exact ⟨F, _, f2, g.cnt (by intro a; simp only [List.count_append]; omega), .cons h2 (.cons h1 h3), hs⟩
theorem Rel.len (h : Rel K G H σ ρ τ δ) : σ.length = ρ.length ∧ τ.length = δ.length := by
  obtain ⟨F, f1, f2, g, ht, hs⟩ := h
  exact ⟨hs.len, ht.len⟩
theorem Rel.get {i : Nat} (h : Rel K G H σ ρ τ δ) (e : ρ[i]? = some (.sh d)) : ∃ v, σ[i]? = some (some v) ∧ Rel K G H σ ρ (some v :: τ) (.sh d :: δ) := by
  obtain ⟨F, f1, f2, g, ht, hs⟩ := h
  obtain ⟨o, l, f, r, e1, e2, h1, _⟩ := hs.at e
  cases h1 with
  | sh q => exact ⟨_, e2, F, _, f2, g, .cons (.sh q) ht, hs⟩
theorem Rel.set {o : Option V} {i : Nat} (h : Rel K G H σ ρ (o :: τ) (s :: δ)) (hi : i < ρ.length) : Rel K G H (σ.set i o) (ρ.set i s) τ δ := by
  obtain ⟨F, f1, f2, g, ht, hs⟩ := h
  cases ht with
  | cons h1 h2 =>
    rename_i fa fb
    obtain ⟨o1, l, f, r, e1, e2, h3, k⟩ := hs.at (i := i) (s := ρ[i]) (by rw [List.getElem?_eq_getElem hi])
    subst e1
    exact ⟨F, fb, _, g.cnt (by intro a; simp only [List.count_append]; omega), h2, k _ _ _ h1⟩
def Sl.fz : Sl → Sl
  | .ow _ d => .sh d
  | .sh d => .sh d
  | _ => .un
theorem SlV.fz {F F' : Hp} {o : Option V} {s : Sl} {fp : List Addr} (l : Le F F') (e : ∀ a ∈ fp, F' a = H a) (h : SlV K F H o s fp) : SlV K F' H' o s.fz [] := by
  cases h with
  | un => exact .un
  | sh r => exact .sh (r.mono l)
  | ow r => exact .sh (r.fz l e)
  | _ => exact .un
theorem Rel.fz {o : Option V} (h : Rel K G H σ ρ (o :: τ) (s :: δ)) : Rel K G H σ ρ (o :: τ) (s.fz :: δ) := by
  obtain ⟨F, f1, f2, g, ht, hs⟩ := h
  cases ht with
  | cons h1 h2 =>
    rename_i fa fb
    rw [List.append_assoc] at g
    have hf : ∀ a ∈ fa, F a = none := fun a ha => g.nf a (List.mem_append_left _ ha)
    exact ⟨fzH F H fa, _, f2, g.fz, .cons (h1.fz (fzH_le hf) fun a ha => fzH_in ha) (h2.mono (fzH_le hf) fun _ _ => rfl), hs.mono (fzH_le hf) fun _ _ => rfl⟩
theorem Rel.fzAt {i : Nat} (h : Rel K G H σ ρ τ δ) (e : ρ[i]? = some s) : Rel K G H σ (ρ.set i s.fz) τ δ := by
  obtain ⟨F, f1, f2, g, ht, hs⟩ := h
  obtain ⟨o, l, f, r, e1, e2, h1, k⟩ := hs.at e
  subst e1
  have g' : Good G F H (f ++ (f1 ++ (l ++ r))) := g.cnt (by intro a; simp only [List.count_append]; omega)
  have hf : ∀ a ∈ f, F a = none := fun a ha => g'.nf a (List.mem_append_left _ ha)
  have hs' := hs.mono (F' := fzH F H f) (H' := H) (fzH_le hf) fun _ _ => rfl
  obtain ⟨o', l', f', r', e1', e2', h1', k'⟩ := hs'.at e
  have k2 := (k o .un [] .un).mono (F' := fzH F H f) (H' := H) (fzH_le hf) fun _ _ => rfl
  have hlt : i < ρ.length := by
    rcases Nat.lt_or_ge i ρ.length with z | z
    · exact z
    · rw [List.getElem?_eq_none z] at e; cases e
  obtain ⟨o2, l2, f2, r2, e12, e22, h12, k3⟩ := k2.at (i := i) (s := .un) (by rw [List.getElem?_set_self hlt])
  have k4 := k3 o s.fz [] (h1.fz (fzH_le hf) fun a ha => fzH_in ha)
  have : f2 = [] := by cases h12; rfl
  subst this
  rw [List.set_set, List.set_set] at k4
  have eσ : σ.set i o = σ := by
    apply List.ext_getElem?
    intro j
    by_cases hj : j = i
    · subst hj; rw [e2]; exact List.getElem?_set_self (by rw [hs.len]; exact hlt)
    · rw [List.getElem?_set_ne (Ne.symm hj)]
  rw [eσ] at k4
  simp only [List.nil_append] at e12 k4
  rw [← e12] at k4
  exact ⟨fzH F H f, f1, l ++ r, g'.fz, ht.mono (fzH_le hf) fun _ _ => rfl, k4⟩
theorem Rel.drop2 {o o' : Option V} {s' : Sl} (h : Rel K G H σ ρ (o :: o' :: τ) (s :: s' :: δ)) : Rel K G H σ ρ (o :: τ) (s :: δ) := h.swap.pop
theorem Rel.dropN {o : Option V} : ∀ {τ' : L2.St} {δ' : List Sl}, τ'.length = δ'.length → Rel K G H σ ρ (o :: (τ' ++ τ)) (s :: (δ' ++ δ)) → Rel K G H σ ρ (o :: τ) (s :: δ)
  | [], [], _, h => h
  | [], _ :: _, e, _ => by simp at e
  | _ :: _, [], e, _ => by simp at e
  | _ :: _, _ :: _, e, h => Rel.dropN (by simpa using e) h.drop2
theorem Rel.popN : ∀ {τ' : L2.St} {δ' : List Sl}, τ'.length = δ'.length → Rel K G H σ ρ (τ' ++ τ) (δ' ++ δ) → Rel K G H σ ρ τ δ
  | [], [], _, h => h
  | [], _ :: _, e, _ => by simp at e
  | _ :: _, [], e, _ => by simp at e
  | _ :: _, _ :: _, e, h => Rel.popN (by simpa using e) h.pop
theorem Rel.rot {o : Option V} {τ' : L2.St} {δ' : List Sl} (e : τ'.length = δ'.length) (h : Rel K G H σ ρ (τ' ++ o :: τ) (δ' ++ s :: δ)) : Rel K G H σ ρ (o :: (τ' ++ τ)) (s :: (δ' ++ δ)) := by
  obtain ⟨F, f1, f2, g, ht, hs⟩ := h
  obtain ⟨fa, fb, rfl, h1, h2⟩ := ht.split e
  cases h2 with
  | cons h3 h4 => exact ⟨F, _, f2, g.cnt (by intro a; simp only [List.count_append]; omega), .cons h3 (h1.app h4), hs⟩
theorem Slots.shs {F : Hp} : ∀ {vs : List V} {ds : List D} {f : List Addr}, vs.length = ds.length → Slots K F H (vs.map some ++ τ) (ds.map Sl.sh ++ δ) f → RepL K F vs ds ∧ Slots K F H τ δ f
  | [], [], _, _, h => ⟨.nil, h⟩
  | [], _ :: _, _, e, _ => by simp at e
  | _ :: _, [], _, e, _ => by simp at e
  | v :: vs, d :: ds, f, e, h => by
    cases h with
    | cons h1 h2 =>
      cases h1 with
      | sh r =>
        obtain ⟨a, b⟩ := Slots.shs (by simpa using e) h2
        exact ⟨.cons r a, b⟩
theorem upd_fz {F : Hp} {p : Addr} {o : HO} : fzH F (upd H p o) [p] = upd F p o := by
  funext a
  by_cases h : a = p
  · subst h; rw [fzH_in (by simp), upd_same, upd_same]
  · rw [fzH_out (by simpa using h), upd_ne h]
theorem le_new {F : Hp} {p : Addr} {o : HO} (h : F p = none) : Le F (upd F p o) := fun a u e => by rw [upd_ne (ne_of_none e h)]; exact e
theorem Rel.newF {ds : List D} {vs : List V} {p : Addr} {o : HO} (hp : H p = none) (e : vs.length = ds.length) (h : Rel K G H σ ρ (vs.map some ++ τ) (ds.map Sl.sh ++ δ)) (hd : ∀ F, RepL K F vs ds → F p = some o → Rep K F (.ref p) d) :
    Rel K G (upd H p o) σ ρ (some (.ref p) :: τ) (.sh d :: δ) := by
  obtain ⟨F, f1, f2, g, ht, hs⟩ := h
  obtain ⟨hr, ht⟩ := ht.shs e
  have hin : ∀ a ∈ f1 ++ f2, H a ≠ none := fun a ha => by
    rcases List.mem_append.mp ha with z | z
    · exact ht.here a z
    · exact hs.here a z
  have g1 := g.newO hin hp o
  have hF : F p = none := g1.nf p (by simp)
  have g2 : Good G (upd F p o) (upd H p o) (f1 ++ f2) := by
    have := Good.fz (f := [p]) (fp := f1 ++ f2) g1
    rwa [upd_fz] at this
  have hn : ∀ a ∈ f1 ++ f2, upd H p o a = H a := fun a ha => upd_ne fun z => hin a ha (by rw [z]; exact hp)
  have l := le_new (o := o) hF
  exact ⟨_, f1, f2, g2, .cons (.sh (hd _ (hr.mono l) upd_same)) (ht.mono l fun a ha => hn a (List.mem_append_left _ ha)), hs.mono l fun a ha => hn a (List.mem_append_right _ ha)⟩
theorem Rel.tup {ds : List D} {vs : List V} {p : Addr} (hp : H p = none) (e : vs.length = ds.length) (h : Rel K G H σ ρ (vs.map some ++ τ) (ds.map Sl.sh ++ δ)) : Rel K G (upd H p (.tup vs)) σ ρ (some (.ref p) :: τ) (.sh (.tup ds) :: δ) :=
  h.newF hp e fun F r z => .tup (SqT.of z) r
theorem RepL.own {F : Hp} : ∀ {vs : List V} {ds : List D}, RepL K F vs ds → OwnL K F H .fr vs ds []
  | _, _, .nil => .nil
  | _, _, .cons r t => .cons (f := []) (.fr r) (RepL.own t)
theorem OwnL.rep {F : Hp} : ∀ {vs : List V} {ds : List D} {fp : List Addr}, OwnL K F H .fr vs ds fp → RepL K F vs ds ∧ fp = []
  | _, _, _, .nil => ⟨.nil, rfl⟩
  | _, _, _, .cons (.fr r) t => by
    obtain ⟨a, rfl⟩ := OwnL.rep t
    exact ⟨.cons r a, rfl⟩
theorem RepK.own {F : Hp} : ∀ {vs : List (Key × V)} {ds : List (Key × D)}, RepK K F vs ds → OwnK K F H .fr vs ds []
  | _, _, .nil => .nil
  | _, _, .cons r t => .cons (f := []) (.fr r) (RepK.own t)
theorem OwnK.rep {F : Hp} : ∀ {vs : List (Key × V)} {ds : List (Key × D)} {fp : List Addr}, OwnK K F H .fr vs ds fp → RepK K F vs ds ∧ fp = []
  | _, _, _, .nil => ⟨.nil, rfl⟩
  | _, _, _, .cons (.fr r) t => by
    obtain ⟨a, rfl⟩ := OwnK.rep t
    exact ⟨.cons r a, rfl⟩
theorem Rel.newO {ds : List D} {vs : List V} {p : Addr} {o : HO} {s : Sh} (hp : H p = none) (e : vs.length = ds.length) (h : Rel K G H σ ρ (vs.map some ++ τ) (ds.map Sl.sh ++ δ)) (hd : ∀ F, RepL K F vs ds → Own K F (upd H p o) s (.ref p) d [p]) :
    Rel K G (upd H p o) σ ρ (some (.ref p) :: τ) (.ow s d :: δ) := by
  obtain ⟨F, f1, f2, g, ht, hs⟩ := h
  obtain ⟨hr, ht⟩ := ht.shs e
  have hin : ∀ a ∈ f1 ++ f2, H a ≠ none := fun a ha => by
    rcases List.mem_append.mp ha with z | z
    · exact ht.here a z
    · exact hs.here a z
  have hn : ∀ a ∈ f1 ++ f2, upd H p o a = H a := fun a ha => upd_ne fun z => hin a ha (by rw [z]; exact hp)
  exact ⟨F, p :: f1, f2, g.newO hin hp o, .cons (.ow (hd F hr)) (ht.mono Le.rfl fun a ha => hn a (List.mem_append_left _ ha)), hs.mono Le.rfl fun a ha => hn a (List.mem_append_right _ ha)⟩
theorem Rel.lst {ds : List D} {vs : List V} {p : Addr} (hp : H p = none) (e : vs.length = ds.length) (h : Rel K G H σ ρ (vs.map some ++ τ) (ds.map Sl.sh ++ δ)) : Rel K G (upd H p (.lst vs)) σ ρ (some (.ref p) :: τ) (.ow (.ol .fr) (.lst ds) :: δ) :=
  h.newO hp e fun F r => .ol upd_same r.own
end
structure Er where
  c : Nat
  d : D
abbrev Env := List Sl
structure M (α : Type) where
  wp : Env → (α → Env → Prop) → (Er → Env → Prop) → Prop
  mono : ∀ {ρ : Env} {Q Q' : α → Env → Prop} {E E' : Er → Env → Prop}, (∀ a r, Q a r → Q' a r) → (∀ e r, E e r → E' e r) → wp ρ Q E → wp ρ Q' E'
namespace M
variable {α β : Type}
def ret (a : α) : M α := ⟨fun ρ Q _ => Q a ρ, fun h _ w => h _ _ w⟩
def bind (m : M α) (k : α → M β) : M β := ⟨fun ρ Q E => m.wp ρ (fun a r => (k a).wp r Q E) E, fun h h' w => m.mono (fun _ _ z => (k _).mono h h' z) h' w⟩
def stuck : M α := ⟨fun _ _ _ => False, fun _ _ w => w⟩
def get : M Env := ⟨fun ρ Q _ => Q ρ ρ, fun h _ w => h _ _ w⟩
def set (r : Env) : M Unit := ⟨fun _ Q _ => Q () r, fun h _ w => h _ _ w⟩
def any (p : α → Prop) : M α := ⟨fun ρ Q _ => ∀ a, p a → Q a ρ, fun h _ w a z => h _ _ (w a z)⟩
def ite (b : Bool) (m k : M α) : M α := ⟨fun ρ Q E => if b = true then m.wp ρ Q E else k.wp ρ Q E, fun {ρ Q Q' E E'} h h' w => by
  cases b with
  | true => exact m.mono h h' w
  | false => exact k.mono h h' w⟩
end M
abbrev ME := M Sl
abbrev MT := M Bool
abbrev MA := M (List Sl)
def XE (E : XK) (H : Hp) (C : Addr) (f : Str) (v : V) : Prop := (f = ("" : Str) → E (.ref C) none H) ∧ (f ≠ ("" : Str) → ∀ d : Addr, H d = none → E (.ref C) (some d) (upd H d (.xd [(f, v)])))
def dOf (c : Nat) (d : Addr) : Option Addr := if ef c = ("" : Str) then none else some d
abbrev WS := L2.St → XK
abbrev exQ (K : PySem.W.Frag) (W : WS) (G : Ent) (σ τ : L2.St) (δ : List Sl) : Er → Env → Prop := fun er ρ' => ∀ v H', Rel K G H' σ ρ' (some v :: τ) (.sh er.d :: δ) → XE (W σ) H' (He.ga K (en er.c)) (ef er.c) v
def EOk (K : PySem.W.Frag) (W : WS) (t : TE) (m : ME) : Prop := ∀ (G : Ent) (H : Hp) (σ : L2.St) (ρ : Env) (τ : L2.St) (δ : List Sl) (Q : VK), Rel K G H σ ρ τ δ →
  m.wp ρ (fun s ρ' => ∀ v H', Rel K G H' σ ρ' (some v :: τ) (s :: δ) → Q v H') (exQ K W G σ τ δ) → t σ H Q
def TOk (K : PySem.W.Frag) (W : WS) (t : TT) (m : MT) : Prop := ∀ (G : Ent) (H : Hp) (σ : L2.St) (ρ : Env) (τ : L2.St) (δ : List Sl) (Q : Bool → Hp → Prop), Rel K G H σ ρ τ δ →
  m.wp ρ (fun b ρ' => ∀ H', Rel K G H' σ ρ' τ δ → Q b H') (exQ K W G σ τ δ) → t σ H Q
def AOk (K : PySem.W.Frag) (W : WS) (t : TA) (m : MA) : Prop := ∀ (G : Ent) (H : Hp) (σ : L2.St) (ρ : Env) (τ : L2.St) (δ : List Sl) (Q : List V → Hp → Prop), Rel K G H σ ρ τ δ →
  m.wp ρ (fun ss ρ' => ∀ vs H', vs.length = ss.length → Rel K G H' σ ρ' (vs.map some ++ τ) (ss ++ δ) → Q vs H') (exQ K W G σ τ δ) → t σ H Q
def R2Ok (K : PySem.W.Frag) (r : R2) (f : Sl → Sl → ME) : Prop := ∀ (G : Ent) (H : Hp) (σ : L2.St) (ρ : Env) (τ : L2.St) (δ : List Sl) (x y : V) (s1 s2 : Sl) (Q : VK) (E : Er → Env → Prop), Rel K G H σ ρ (some y :: some x :: τ) (s2 :: s1 :: δ) →
  (f s1 s2).wp ρ (fun s ρ' => ∀ v H', Rel K G H' σ ρ' (some v :: τ) (s :: δ) → Q v H') E → r x y H Q
def R1Ok (K : PySem.W.Frag) (r : V → Hp → VK → Prop) (f : Sl → ME) : Prop := ∀ (G : Ent) (H : Hp) (σ : L2.St) (ρ : Env) (τ : L2.St) (δ : List Sl) (x : V) (s1 : Sl) (Q : VK) (E : Er → Env → Prop), Rel K G H σ ρ (some x :: τ) (s1 :: δ) →
  (f s1).wp ρ (fun s ρ' => ∀ v H', Rel K G H' σ ρ' (some v :: τ) (s :: δ) → Q v H') E → r x H Q
def op2 (g : D → D → Option D) : Sl → Sl → ME
  | .sh a, .sh b => match g a b with
    | some d => M.ret (.sh d)
    | none => M.stuck
  | _, _ => M.stuck
def op1 (g : D → Option D) : Sl → ME
  | .sh a => match g a with
    | some d => M.ret (.sh d)
    | none => M.stuck
  | _ => M.stuck
def mOp (f : Sl → Sl → ME) (a b : ME) : ME := a.bind fun x => b.bind fun y => f x y
def mUn (f : Sl → ME) (a : ME) : ME := a.bind f
def mVar (i : Nat) : ME := ⟨fun ρ Q _ => match ρ[i]? with
  | some (.sh d) => Q (.sh d) ρ
  | _ => False, fun {ρ Q Q' E E'} h _ w => by
    revert w
    split
    · exact fun w => h _ _ w
    · exact id⟩
def mC (d : D) : ME := M.ret (.sh d)
def mFz (a : ME) : ME := a.bind fun s => M.ret s.fz
section
variable {K : PySem.W.Frag} {W : WS} {ta tb tc : TE} {ma mb mc : ME} {r r' : R2} {f f' : Sl → Sl → ME}
theorem eVar {i : Nat} : EOk K W (tVar i) (mVar i) := by
  intro G H σ ρ τ δ Q h w
  unfold mVar at w
  simp only at w
  split at w
  · rename_i d e
    obtain ⟨v, e1, h1⟩ := h.get e
    exact ⟨v, e1, w v H h1⟩
  · exact w.elim
theorem eC {v : V} {d : D} (e : d.val = some v := by rfl) : EOk K W (tC v) (mC d) := fun G H σ ρ τ δ Q h w => w v H (h.push e)
theorem eFz {t : TE} (h : EOk K W t ma) : EOk K W t (mFz ma) := fun G H σ ρ τ δ Q hr w => h G H σ ρ τ δ Q hr (ma.mono (fun s ρ' z v H' q => z v H' q.fz) (fun _ _ z => z) w)
theorem eOp (hr : R2Ok K r f) (ha : EOk K W ta ma) (hb : EOk K W tb mb) : EOk K W (tOp r ta tb) (mOp f ma mb) := fun G H σ ρ τ δ Q h w =>
  ha G H σ ρ τ δ _ h (ma.mono (fun s1 ρ1 w1 v1 H1 h1 => hb G H1 σ ρ1 _ _ _ h1 (mb.mono (fun s2 ρ2 w2 v2 H2 h2 => hr G H2 σ ρ2 τ δ v1 v2 s1 s2 Q _ h2 w2) (fun e ρ' z v H' q => z v H' q.drop2) w1)) (fun _ _ z => z) w)
end
end Dl
namespace Dl
open PySem PySem.Spec PyProof.Rows L2
section
variable {K : PySem.W.Frag} {F : Hp}
theorem RepL.len {F : Hp} : ∀ {vs : List V} {ds : List D}, RepL K F vs ds → vs.length = ds.length
  | _, _, .nil => rfl
  | _, _, .cons _ t => by simp [RepL.len t]
theorem RepL.get {F : Hp} : ∀ {vs : List V} {ds : List D} {i : Nat} {d : D}, RepL K F vs ds → ds[i]? = some d → ∃ v, vs[i]? = some v ∧ Rep K F v d
  | _, _, _, _, .nil, e => by cases e
  | _, _, 0, _, .cons r _, e => by cases e; exact ⟨_, rfl, r⟩
  | _, _, i + 1, _, .cons _ t, e => RepL.get (i := i) t e
theorem RepL.drop {F : Hp} : ∀ {vs : List V} {ds : List D} (n : Nat), RepL K F vs ds → RepL K F (vs.drop n) (ds.drop n)
  | _, _, 0, h => h
  | _, _, _ + 1, .nil => .nil
  | _, _, n + 1, .cons _ t => RepL.drop n t
theorem RepL.take {F : Hp} : ∀ {vs : List V} {ds : List D} (n : Nat), RepL K F vs ds → RepL K F (vs.take n) (ds.take n)
  | _, _, 0, _ => .nil
  | _, _, _ + 1, .nil => .nil
  | _, _, n + 1, .cons r t => .cons r (RepL.take n t)
theorem RepL.app {F : Hp} : ∀ {vs us : List V} {ds es : List D}, RepL K F vs ds → RepL K F us es → RepL K F (vs ++ us) (ds ++ es)
  | _, _, _, _, .nil, h => h
  | _, _, _, _, .cons r t, h => .cons r (RepL.app t h)
theorem RepL.set {F : Hp} {x : V} {d : D} (r : Rep K F x d) : ∀ {vs : List V} {ds : List D} (i : Nat), RepL K F vs ds → RepL K F (vs.set i x) (ds.set i d)
  | _, _, _, .nil => .nil
  | _, _, 0, .cons _ t => .cons r t
  | _, _, i + 1, .cons q t => .cons q (RepL.set r i t)
theorem look_at : ∀ {fs : List (Str × V)} {ns : List Str} {i : Nat} {f : Str} {v : V}, fs.map (·.1) = ns → (ns.findIdx? (· == f)) = some i → (fs.map (·.2))[i]? = some v → fs.lookup f = some v
  | [], _, i, f, v, e, h, q => by cases q
  | (k, u) :: fs, _, i, f, v, e, h, q => by
    subst e
    rw [List.map_cons, List.findIdx?_cons] at h
    rw [List.lookup_cons]
    cases hk : k == f with
    | true =>
      rw [hk] at h
      cases h
      have : f == k := by rw [beq_iff_eq] at hk ⊢; exact hk.symm
      rw [this]
      exact q
    | false =>
      rw [hk] at h
      have : (f == k) = false := by
        rw [beq_eq_false_iff_ne] at hk ⊢; exact fun z => hk z.symm
      rw [this]
      simp only [Bool.false_eq_true, if_false] at h
      cases hj : (List.map (fun x => x.1) fs).findIdx? (fun x => x == f) with
      | none => rw [hj] at h; cases h
      | some j =>
        rw [hj] at h
        cases h
        exact look_at rfl hj q
end
section
variable {K : PySem.W.Frag} {G : Ent} {H H' : Hp} {σ τ : L2.St} {ρ δ : List Sl} {v x : V} {s : Sl} {d : D}
structure Fz (K : PySem.W.Frag) (G : Ent) (H : Hp) (σ : L2.St) (ρ : Env) (τ : L2.St) (δ : List Sl) (F : Hp) : Prop where
  le : Le F H
  sh : ∀ u z, Rep K F u z → Rel K G H σ ρ (some u :: τ) (.sh z :: δ)
  ow : ∀ p o s z, H p = none → Own K F (upd H p o) s (.ref p) z [p] → Rel K G (upd H p o) σ ρ (some (.ref p) :: τ) (.ow s z :: δ)
  nw : ∀ p o z, H p = none → (∀ F', Le F F' → F' p = some o → Rep K F' (.ref p) z) → Rel K G (upd H p o) σ ρ (some (.ref p) :: τ) (.sh z :: δ)
theorem Rel.fzs {F : Hp} {f1 f2 : List Addr} (g : Good G F H (f1 ++ f2)) (ht : Slots K F H τ δ f1) (hs : Slots K F H σ ρ f2) : Fz K G H σ ρ τ δ F := by
  have hin : ∀ a ∈ f1 ++ f2, H a ≠ none := fun a ha => by
    rcases List.mem_append.mp ha with z | z
    · exact ht.here a z
    · exact hs.here a z
  refine ⟨g.sub, fun u z r => ⟨F, _, f2, g, .cons (.sh r) ht, hs⟩, fun p o s z hp r => ?_, fun p o z hp r => ?_⟩
  · have hn : ∀ a ∈ f1 ++ f2, upd H p o a = H a := fun a ha => upd_ne fun z => hin a ha (by rw [z]; exact hp)
    exact ⟨F, p :: f1, f2, g.newO hin hp o, .cons (.ow r) (ht.mono Le.rfl fun a ha => hn a (List.mem_append_left _ ha)), hs.mono Le.rfl fun a ha => hn a (List.mem_append_right _ ha)⟩
  · have g1 := g.newO hin hp o
    have hF : F p = none := g1.nf p (by simp)
    have g2 : Good G (upd F p o) (upd H p o) (f1 ++ f2) := by
      have := Good.fz (f := [p]) (fp := f1 ++ f2) g1
      rwa [upd_fz] at this
    have hn : ∀ a ∈ f1 ++ f2, upd H p o a = H a := fun a ha => upd_ne fun z => hin a ha (by rw [z]; exact hp)
    have l := le_new (o := o) hF
    exact ⟨_, f1, f2, g2, .cons (.sh (r _ l upd_same)) (ht.mono l fun a ha => hn a (List.mem_append_left _ ha)), hs.mono l fun a ha => hn a (List.mem_append_right _ ha)⟩
theorem Rel.top (h : Rel K G H σ ρ (some v :: τ) (.sh d :: δ)) : ∃ F, Rep K F v d ∧ Fz K G H σ ρ τ δ F := by
  obtain ⟨F, f1, f2, g, ht, hs⟩ := h
  cases ht with
  | cons h1 h2 =>
    cases h1 with
    | sh r => exact ⟨F, r, Rel.fzs g h2 hs⟩
theorem Rel.top2 {y : V} {e : D} (h : Rel K G H σ ρ (some y :: some x :: τ) (.sh e :: .sh d :: δ)) : ∃ F, Rep K F x d ∧ Rep K F y e ∧ Fz K G H σ ρ τ δ F := by
  obtain ⟨F, f1, f2, g, ht, hs⟩ := h
  cases ht with
  | cons h1 h2 =>
    cases h1 with
    | sh r =>
      cases h2 with
      | cons h3 h4 =>
        cases h3 with
        | sh r' => exact ⟨F, r', r, Rel.fzs g h4 hs⟩
end
section
variable {K : PySem.W.Frag} {W : WS}
def dI (g : Int → Int → D) : D → D → Option D
  | .int i, .int j => some (g i j)
  | _, _ => none
theorem op2_go {g : D → D → Option D} {s1 s2 : Sl} {ρ : Env} {Q : Sl → Env → Prop} {E : Er → Env → Prop} (w : (op2 g s1 s2).wp ρ Q E) : ∃ a b d, s1 = .sh a ∧ s2 = .sh b ∧ g a b = some d ∧ Q (.sh d) ρ := by
  unfold op2 at w
  split at w
  · split at w
    · exact ⟨_, _, _, rfl, rfl, by assumption, w⟩
    · exact w.elim
  · exact w.elim
theorem op1_go {g : D → Option D} {s1 : Sl} {ρ : Env} {Q : Sl → Env → Prop} {E : Er → Env → Prop} (w : (op1 g s1).wp ρ Q E) : ∃ a d, s1 = .sh a ∧ g a = some d ∧ Q (.sh d) ρ := by
  unfold op1 at w
  split at w
  · split at w
    · exact ⟨_, _, rfl, by assumption, w⟩
    · exact w.elim
  · exact w.elim
theorem dI_go {g : Int → Int → D} {a b d : D} (e : dI g a b = some d) : ∃ i j, a = .int i ∧ b = .int j ∧ d = g i j := by
  unfold dI at e
  split at e
  · exact ⟨_, _, rfl, rfl, (Option.some.inj e).symm⟩
  · cases e
theorem r_I0 {g : Int → Int → V} {gd : Int → Int → D} (h : ∀ i j, (gd i j).val = some (g i j) := by intro _ _; rfl) : R2Ok K (rI0 g) (op2 (dI gd)) := by
  intro G H σ ρ τ δ x y s1 s2 Q E hr w
  obtain ⟨a, b, d, rfl, rfl, e, q⟩ := op2_go w
  obtain ⟨i, j, rfl, rfl, rfl⟩ := dI_go e
  obtain rfl := hr.topv (u := .int j) rfl
  obtain rfl := hr.pop.topv (u := .int i) rfl
  exact ⟨i, j, rfl, rfl, q _ _ (hr.pop.pop.push (h i j))⟩
def opC (C : Int → Int → Prop) (g : Int → Int → D) : Sl → Sl → ME := fun s1 s2 => ⟨fun ρ Q _ => match s1, s2 with
  | .sh (.int i), .sh (.int j) => C i j ∧ Q (.sh (g i j)) ρ
  | _, _ => False, fun {ρ Q Q' E E'} h _ w => by
    revert w
    split
    · exact fun w => ⟨w.1, h _ _ w.2⟩
    · exact id⟩
theorem r_I {C : Int → Int → Prop} {g : Int → Int → V} {gd : Int → Int → D} (h : ∀ i j, (gd i j).val = some (g i j) := by intro _ _; rfl) : R2Ok K (rI C g) (opC C gd) := by
  intro G H σ ρ τ δ x y s1 s2 Q E hr w
  unfold opC at w
  simp only at w
  split at w
  · rename_i i j
    obtain rfl := hr.topv (u := .int j) rfl
    obtain rfl := hr.pop.topv (u := .int i) rfl
    exact ⟨i, j, rfl, rfl, w.1, w.2 _ _ (hr.pop.pop.push (h i j))⟩
  · exact w.elim
def dAdd := dI fun i j => .int (i + j)
def dSub := dI fun i j => .int (i - j)
def dLe := dI fun i j => .bl (decide (i ≤ j))
def dGt := dI fun i j => .bl (decide (i > j))
theorem r_add : R2Ok K (rI0 fun i j => .int (i + j)) (op2 dAdd) := r_I0
theorem r_sub : R2Ok K (rI0 fun i j => .int (i - j)) (op2 dSub) := r_I0
theorem r_le : R2Ok K (rI0 fun i j => .bl (decide (i ≤ j))) (op2 dLe) := r_I0
theorem r_gt : R2Ok K (rI0 fun i j => .bl (decide (j < i))) (op2 dGt) := r_I0
def dEq (neg : Bool) : D → D → Option D
  | .int i, .int j => some (.bl (neg ^^ decide (i = j)))
  | .str x, .str y => some (.bl (neg ^^ decide (x = y)))
  | .bl a, .bl b => some (.bl (neg ^^ decide (a = b)))
  | .non, .non => some (.bl (neg ^^ true))
  | .non, .int _ | .int _, .non | .non, .str _ | .str _, .non | .non, .bl _ | .bl _, .non => some (.bl (neg ^^ false))
  | .int _, .str _ | .str _, .int _ | .bl _, .str _ | .str _, .bl _ => some (.bl (neg ^^ false))
  | _, _ => none
theorem dEq_go {neg : Bool} {a b d : D} (e : dEq neg a b = some d) : ∃ x y, a.val = some x ∧ b.val = some y ∧ scal x y = true ∧ d = .bl (neg ^^ decide (x = y)) := by
  unfold dEq at e
  split at e
  case h_1 i j => exact ⟨_, _, rfl, rfl, rfl, by rw [← Option.some.inj e]; simp⟩
  case h_2 i j => exact ⟨_, _, rfl, rfl, rfl, by rw [← Option.some.inj e]; simp⟩
  case h_3 i j => exact ⟨_, _, rfl, rfl, rfl, by rw [← Option.some.inj e]; simp⟩
  all_goals first
    | (cases e; done)
    | exact ⟨_, _, rfl, rfl, rfl, by rw [← Option.some.inj e]; simp⟩
theorem r_eq : R2Ok K rEq (op2 (dEq false)) := by
  intro G H σ ρ τ δ x y s1 s2 Q E hr w
  obtain ⟨a, b, d, rfl, rfl, e, q⟩ := op2_go w
  obtain ⟨u, z, h1, h2, h3, rfl⟩ := dEq_go e
  obtain rfl := hr.topv h2
  obtain rfl := hr.pop.topv h1
  exact ⟨h3, q _ _ (hr.pop.pop.push (by simp [D.val]))⟩
theorem r_ne : R2Ok K rNe (op2 (dEq true)) := by
  intro G H σ ρ τ δ x y s1 s2 Q E hr w
  obtain ⟨a, b, d, rfl, rfl, e, q⟩ := op2_go w
  obtain ⟨u, z, h1, h2, h3, rfl⟩ := dEq_go e
  obtain rfl := hr.topv h2
  obtain rfl := hr.pop.topv h1
  exact ⟨h3, q _ _ (hr.pop.pop.push (by simp [D.val]))⟩
def dIsB (neg : Bool) : D → D → Option D
  | .bl a, .bl b => some (.bl (neg ^^ decide (a = b)))
  | _, _ => none
theorem r_isB : R2Ok K rIsB (op2 (dIsB false)) := by
  intro G H σ ρ τ δ x y s1 s2 Q E hr w
  obtain ⟨a, b, d, rfl, rfl, e, q⟩ := op2_go w
  unfold dIsB at e
  split at e
  · rename_i a b
    obtain rfl := hr.topv (u := .bl b) rfl
    obtain rfl := hr.pop.topv (u := .bl a) rfl
    exact ⟨a, b, rfl, rfl, q _ _ (hr.pop.pop.push (by rw [← Option.some.inj e]; simp [D.val]))⟩
  · cases e
def opStr : Sl → Sl → ME := fun s1 s2 => ⟨fun ρ Q _ => match s1, s2 with
  | .sh (.str i), .sh (.str j) => i.length + j.length ≤ sizeLine ∧ Q (.sh (.str (i ++ j))) ρ
  | _, _ => False, fun {ρ Q Q' E E'} h _ w => by
    revert w
    split
    · exact fun w => ⟨w.1, h _ _ w.2⟩
    · exact id⟩
theorem r_addS : R2Ok K (fun x y H Q => ∃ i j, x = .str i ∧ y = .str j ∧ i.length + j.length ≤ sizeLine ∧ Q (.str (i ++ j)) H) opStr := by
  intro G H σ ρ τ δ x y s1 s2 Q E hr w
  unfold opStr at w
  simp only at w
  split at w
  · rename_i i j
    obtain rfl := hr.topv (u := .str j) rfl
    obtain rfl := hr.pop.topv (u := .str i) rfl
    exact ⟨i, j, rfl, rfl, w.1, w.2 _ _ (hr.pop.pop.push rfl)⟩
  · exact w.elim
def dInS (neg : Bool) : D → D → Option D
  | .str x, .str z => match x.cps.toList with
    | [c] => some (.bl (neg ^^ decide (c ∈ z.cps.toList)))
    | _ => none
  | _, _ => none
theorem dInS_go {neg : Bool} {a b d : D} (e : dInS neg a b = some d) : ∃ (c : Nat) (z : Str), a = .str ⟨#[c]⟩ ∧ b = .str z ∧ d = .bl (neg ^^ decide (c ∈ z.cps.toList)) := by
  unfold dInS at e
  split at e
  · rename_i x z
    split at e
    · rename_i c h
      refine ⟨c, z, ?_, rfl, (Option.some.inj e).symm⟩
      have : x.cps = #[c] := by
        apply Array.ext'
        rw [h]
      cases x
      simp only at this
      rw [this]
    · cases e
  · cases e
theorem r_ninS : R2Ok K (fun x y H Q => ∃ (c : Nat) (z : Str), x = .str ⟨#[c]⟩ ∧ y = .str z ∧ Q (.bl (!decide (c ∈ z.cps.toList))) H) (op2 (dInS true)) := by
  intro G H σ ρ τ δ x y s1 s2 Q E hr w
  obtain ⟨a, b, d, rfl, rfl, e, q⟩ := op2_go w
  obtain ⟨c, z, rfl, rfl, rfl⟩ := dInS_go e
  obtain rfl := hr.topv (u := .str z) rfl
  obtain rfl := hr.pop.topv (u := .str ⟨#[c]⟩) rfl
  exact ⟨c, z, rfl, rfl, q _ _ (hr.pop.pop.push (by simp [D.val]))⟩
end
end Dl
namespace Dl
open PySem PySem.Spec PyProof.Rows L2
section
variable {K : PySem.W.Frag} {W : WS} {ta tb tc : TE} {ma mb mc : ME} {r r' : R2} {f f' : Sl → Sl → ME}
def dIxL : D → D → Option D
  | .lst xs, .int i => atI xs i
  | _, _ => none
def dIxT : D → D → Option D
  | .tup xs, .int i => atI xs i
  | _, _ => none
theorem RepL.atI {F : Hp} {vs : List V} {ds : List D} {i : Int} {d : D} (h : RepL K F vs ds) (e : L2.atI ds i = some d) : ∃ v, L2.atI vs i = some v ∧ Rep K F v d := by
  unfold L2.atI at e ⊢
  rw [h.len]
  cases hj : ixN ds.length i with
  | none => rw [hj] at e; cases e
  | some j =>
    rw [hj] at e
    exact RepL.get h e
theorem r_ixL : R2Ok K (rIxL K) (op2 dIxL) := by
  intro G H σ ρ τ δ x y s1 s2 Q E hr w
  obtain ⟨a, b, d, rfl, rfl, e, q⟩ := op2_go w
  obtain ⟨F, r1, r2, z⟩ := hr.top2
  unfold dIxL at e
  split at e
  · cases r1 with
    | lst h r =>
      cases r2
      obtain ⟨v, h1, h2⟩ := r.atI e
      exact ⟨_, _, _, v, rfl, rfl, SqL.of (z.le _ _ h), h1, q _ _ (z.sh _ _ h2)⟩
  · cases e
theorem r_ixT : R2Ok K (rIxT K) (op2 dIxT) := by
  intro G H σ ρ τ δ x y s1 s2 Q E hr w
  obtain ⟨a, b, d, rfl, rfl, e, q⟩ := op2_go w
  obtain ⟨F, r1, r2, z⟩ := hr.top2
  unfold dIxT at e
  split at e
  · cases r1 with
    | tup h r =>
      cases r2
      obtain ⟨v, h1, h2⟩ := r.atI e
      exact ⟨_, _, _, v, rfl, rfl, sqt_mono z.le h, h1, q _ _ (z.sh _ _ h2)⟩
  · cases e
def opP {α : Type} (k : α → Option (Prop × Sl)) : α → ME := fun a => ⟨fun ρ Q _ => match k a with
  | some (p, s) => p ∧ Q s ρ
  | none => False, fun {ρ Q Q' E E'} h _ w => by
    revert w
    split
    · exact fun w => ⟨w.1, h _ _ w.2⟩
    · exact id⟩
theorem opP_go {α : Type} {k : α → Option (Prop × Sl)} {a : α} {ρ : Env} {Q : Sl → Env → Prop} {E : Er → Env → Prop} (w : (opP k a).wp ρ Q E) : ∃ p s, k a = some (p, s) ∧ p ∧ Q s ρ := by
  unfold opP at w
  simp only at w
  split at w
  · exact ⟨_, _, by assumption, w.1, w.2⟩
  · exact w.elim
def op2P (k : D → D → Option (Prop × Sl)) : Sl → Sl → ME := fun s1 s2 => opP (fun (p : Sl × Sl) => match p with
  | (.sh a, .sh b) => k a b
  | _ => none) (s1, s2)
theorem op2P_go {k : D → D → Option (Prop × Sl)} {s1 s2 : Sl} {ρ : Env} {Q : Sl → Env → Prop} {E : Er → Env → Prop} (w : (op2P k s1 s2).wp ρ Q E) : ∃ a b p s, s1 = .sh a ∧ s2 = .sh b ∧ k a b = some (p, s) ∧ p ∧ Q s ρ := by
  obtain ⟨p, s, e, hp, q⟩ := opP_go w
  split at e
  · rename_i a b e'
    cases e'
    exact ⟨a, b, p, s, rfl, rfl, e, hp, q⟩
  · cases e
def op1P (k : D → Option (Prop × Sl)) : Sl → ME := opP fun p => match p with
  | .sh a => k a
  | _ => none
theorem op1P_go {k : D → Option (Prop × Sl)} {s1 : Sl} {ρ : Env} {Q : Sl → Env → Prop} {E : Er → Env → Prop} (w : (op1P k s1).wp ρ Q E) : ∃ a p s, s1 = .sh a ∧ k a = some (p, s) ∧ p ∧ Q s ρ := by
  obtain ⟨p, s, e, hp, q⟩ := opP_go w
  split at e
  · exact ⟨_, p, s, rfl, e, hp, q⟩
  · cases e
def pIxS : D → D → Option (Prop × Sl)
  | .str z, .int i => match atI z.cps.toList i with
    | some c => some (z.length ≤ sizeLine, .sh (.str ⟨#[c]⟩))
    | none => none
  | _, _ => none
theorem r_ixS : R2Ok K rIxS (op2P pIxS) := by
  intro G H σ ρ τ δ x y s1 s2 Q E hr w
  obtain ⟨a, b, p, s, rfl, rfl, e, hp, q⟩ := op2P_go w
  unfold pIxS at e
  split at e
  · rename_i z i
    split at e
    · rename_i c hc
      cases e
      obtain rfl := hr.topv (u := .int i) rfl
      obtain rfl := hr.pop.topv (u := .str z) rfl
      exact ⟨z, i, c, rfl, rfl, hp, hc, q _ _ (hr.pop.pop.push rfl)⟩
    · cases e
  · cases e
def cutD (xs : List D) (lo hi : Option Int) : List D := (xs.drop (HT.sIx xs.length 0 lo)).take (HT.sIx xs.length xs.length hi - HT.sIx xs.length 0 lo)
theorem RepL.cut {F : Hp} {vs : List V} {ds : List D} (h : RepL K F vs ds) (lo hi : Option Int) : RepL K F (cutV vs lo hi) (cutD ds lo hi) := by
  unfold cutV cutD
  rw [h.len]
  exact (h.drop _).take _
abbrev MO := M (Option Int)
def OOk (K : PySem.W.Frag) (W : WS) (t : TO) (m : MO) : Prop := ∀ (G : Ent) (H : Hp) (σ : L2.St) (ρ : Env) (τ : L2.St) (δ : List Sl) (Q : Option Int → Hp → Prop), Rel K G H σ ρ τ δ →
  m.wp ρ (fun b ρ' => ∀ H', Rel K G H' σ ρ' τ δ → Q b H') (exQ K W G σ τ δ) → t σ H Q
def mPart (m : ME) : MO := m.bind fun s => match s with
  | .sh (.int i) => M.ret (some i)
  | _ => M.stuck
def mNoPart : MO := M.ret none
theorem oNone : OOk K W tNoPart mNoPart := fun G H σ ρ τ δ Q h w => w H h
theorem oSome (ha : EOk K W ta ma) : OOk K W (tPart ta) (mPart ma) := fun G H σ ρ τ δ Q h w =>
  ha G H σ ρ τ δ _ h (ma.mono (fun s1 ρ1 w1 v1 H1 h1 => by
    simp only at w1
    split at w1
    · rename_i i
      obtain rfl := h1.topv (u := .int i) rfl
      exact ⟨i, rfl, w1 H1 h1.pop⟩
    · exact w1.elim) (fun _ _ z => z) w)
def S3Ok (K : PySem.W.Frag) (r : V → Option Int → Option Int → Hp → VK → Prop) (f : Sl → Option Int → Option Int → ME) : Prop := ∀ (lo hi : Option Int), R1Ok K (fun x H Q => r x lo hi H Q) (fun s => f s lo hi)
def mSl (f : Sl → Option Int → Option Int → ME) (ma : ME) (ml mh : MO) : ME := ma.bind fun s => ml.bind fun lo => mh.bind fun hi => f s lo hi
theorem eSl {r : V → Option Int → Option Int → Hp → VK → Prop} {f : Sl → Option Int → Option Int → ME} {tl th : TO} {ml mh : MO} (hr : S3Ok K r f) (ha : EOk K W ta ma) (hl : OOk K W tl ml) (hh : OOk K W th mh) : EOk K W (tSl r ta tl th) (mSl f ma ml mh) := fun G H σ ρ τ δ Q h w =>
  ha G H σ ρ τ δ _ h (ma.mono (fun s1 ρ1 w1 v1 H1 h1 => hl G H1 σ ρ1 _ _ _ h1 (ml.mono (fun lo ρ2 w2 H2 h2 => hh G H2 σ ρ2 _ _ _ h2 (mh.mono (fun hi ρ3 w3 H3 h3 => hr lo hi G H3 σ ρ3 τ δ v1 s1 Q _ h3 w3) (fun e ρ' z v H' q => z v H' q.drop2) w2)) (fun e ρ' z v H' q => z v H' q.drop2) w1)) (fun _ _ z => z) w)
def fSlS (s : Sl) (lo hi : Option Int) : ME := op1P (fun d => match d with
  | .str z => some (z.length ≤ sizeLine, .sh (.str (cutS z lo hi)))
  | _ => none) s
theorem s_s : S3Ok K rSlS fSlS := by
  intro lo hi G H σ ρ τ δ x s1 Q E hr w
  obtain ⟨a, p, s, rfl, e, hp, q⟩ := op1P_go w
  split at e
  · rename_i z
    cases e
    obtain rfl := hr.topv (u := .str z) rfl
    exact ⟨z, rfl, hp, q _ _ (hr.pop.push rfl)⟩
  · cases e
mutual
def D.py : D → PyData
  | .non => .none
  | .bl b => .bool b
  | .int i => .int i
  | .str x => .str x
  | .lst xs => .list (D.pys xs)
  | .tup xs => .tuple (D.pys xs)
  | .dic _ => .dict []
  | .dil _ => .dict []
  | .obj _ _ => .dict []
  | .cls _ => .dict []
  | .scr => .dict []
  | .idn _ _ => .dict []
def D.pys : List D → List PyData
  | [] => []
  | d :: ds => D.py d :: D.pys ds
end
mutual
/-- no objects, no dicts within -/
inductive Plain : D → Prop
  | non : Plain .non
  | bl (b : Bool) : Plain (.bl b)
  | int (i : Int) : Plain (.int i)
  | str (x : Str) : Plain (.str x)
  | lst {xs : List D} : Plains xs → Plain (.lst xs)
  | tup {xs : List D} : Plains xs → Plain (.tup xs)
inductive Plains : List D → Prop
  | nil : Plains []
  | cons {d : D} {ds : List D} : Plain d → Plains ds → Plains (d :: ds)
end
mutual
theorem Rep.dp {F H : Hp} (l : Le F H) : ∀ {d : D} {v : V}, Plain d → Rep K F v d → Dp K H v d.py
  | .non, _, _, .non => .non
  | .bl b, _, _, .bl _ => .bl b
  | .int i, _, _, .int _ => .int i
  | .str x, _, _, .str _ => .str x
  | .lst xs, _, .lst p, .lst h r => .lst (SqL.of (l _ _ h)) (RepL.dp l p r)
  | .tup xs, _, .tup p, .tup h r => .tup (sqt_mono l h) (RepL.dp l p r)
theorem RepL.dp {F H : Hp} (l : Le F H) : ∀ {ds : List D} {vs : List V}, Plains ds → RepL K F vs ds → DpAll K H vs (D.pys ds)
  | [], _, _, .nil => .nil
  | _ :: _, _, .cons p ps, .cons r t => .cons (Rep.dp l p r) (RepL.dp l ps t)
end
def D.fit (n : Nat) (d : D) : Prop := Plain d ∧ d.py.canLay0 = true ∧ d.py.depth ≤ n
def D.eq (a b : D) : Bool := PyData.eqv a.py b.py
def pEqD (neg : Bool) : D → D → Option (Prop × Sl) := fun a b => some (a.fit 64 ∧ b.fit 64, .sh (.bl (neg ^^ D.eq a b)))
theorem D.fit.shaped {d : D} (h : d.fit 64) : SeqAt.shaped d.py = true := by
  unfold SeqAt.shaped
  rw [h.2.1, Bool.true_and]
  exact decide_eq_true h.2.2
theorem r_eqD : R2Ok K (rEqD K) (op2P (pEqD false)) := by
  intro G H σ ρ τ δ x y s1 s2 Q E hr w
  obtain ⟨a, b, p, s, rfl, rfl, e, hp, q⟩ := op2P_go w
  obtain ⟨F, r1, r2, z⟩ := hr.top2
  cases e
  exact ⟨_, _, r1.dp z.le hp.1.1, r2.dp z.le hp.2.1, hp.1.shaped, hp.2.shaped, q _ _ (hr.pop.pop.push (by simp [D.val, D.eq]))⟩
def D.flat : D → Bool
  | .non => true
  | .bl _ => true
  | .int _ => true
  | .str _ => true
  | _ => false
def D.seq : D → Option (List D)
  | .lst xs => some xs
  | .tup xs => some xs
  | _ => none
def pIn (neg : Bool) : D → D → Option (Prop × Sl) := fun a b => match b.seq with
  | some xs => some (a.flat = true ∧ xs.all D.flat = true, .sh (.bl (neg ^^ xs.any fun y => D.eq y a)))
  | none => none
theorem Rep.flat {F : Hp} {v : V} {d : D} (h : Rep K F v d) (f : d.flat = true) : flatV v = true := by
  cases h <;> first | rfl | cases f
theorem Rep.eqV {F : Hp} {v u : V} {d e : D} (h : Rep K F v d) (h' : Rep K F u e) (f : d.flat = true) (f' : e.flat = true) : eqV v u = D.eq d e := by
  cases h <;> first | cases f; done | (cases h' <;> first | (cases f'; done) | (simp [L2.eqV, D.eq, D.py, PyData.eqv]))
theorem RepL.flat {F : Hp} : ∀ {vs : List V} {ds : List D}, RepL K F vs ds → ds.all D.flat = true → vs.all flatV = true
  | _, _, .nil, _ => rfl
  | _, _, .cons r t, f => by
    rw [List.all_cons, Bool.and_eq_true] at f
    rw [List.all_cons, Bool.and_eq_true]
    exact ⟨r.flat f.1, RepL.flat t f.2⟩
theorem RepL.inV {F : Hp} {u : V} {e : D} (h' : Rep K F u e) (f' : e.flat = true) : ∀ {vs : List V} {ds : List D}, RepL K F vs ds → ds.all D.flat = true → L2.inV u vs = ds.any fun y => D.eq y e
  | _, _, .nil, _ => rfl
  | _, _, .cons r t, f => by
    rw [List.all_cons, Bool.and_eq_true] at f
    show (L2.eqV _ u || L2.inV u _) = _
    rw [List.any_cons, r.eqV h' f.1 f', RepL.inV h' f' t f.2]
theorem r_in {neg : Bool} : R2Ok K (rIn K neg) (op2P (pIn neg)) := by
  intro G H σ ρ τ δ x y s1 s2 Q E hr w
  obtain ⟨a, b, p, s, rfl, rfl, e, hp, q⟩ := op2P_go w
  obtain ⟨F, r1, r2, z⟩ := hr.top2
  unfold pIn at e
  split at e
  · rename_i xs hb
    cases e
    have key : ∀ (p : Addr) (vs : List V), (SqL K H p vs ∨ SqT K H p vs) → RepL K F vs xs → y = .ref p → rIn K neg x y H Q := fun p vs hs rl ey => by
      refine ⟨p, vs, ey, hs, r1.flat hp.1, rl.flat hp.2, ?_⟩
      rw [rl.inV r1 hp.1 hp.2]
      refine q _ _ (hr.pop.pop.push ?_)
      cases neg <;> simp [D.val]
    unfold D.seq at hb
    split at hb
    · cases hb
      cases r2 with
      | lst h1 rl => exact key _ _ (.inl (SqL.of (z.le _ _ h1))) rl rfl
    · cases hb
      cases r2 with
      | tup h1 rl => exact key _ _ (.inr (sqt_mono z.le h1)) rl rfl
    · cases hb
  · cases e
end
end Dl
namespace Dl
open PySem PySem.Spec PyProof.Rows L2
section
variable {K : PySem.W.Frag} {W : WS} {ta tb tc : TE} {ma mb mc : ME} {r r' : R2} {f f' : Sl → Sl → ME} {tA tB' : TT} {mA mB : MT}
theorem eCB1 {r : List V → Hp → VK → Prop} {f : Sl → ME} (hr : R1Ok K (fun x H Q => r [x] H Q) f) (ha : EOk K W ta ma) : EOk K W (tCB r (tCons ta tNil)) (mUn f ma) := fun G H σ ρ τ δ Q h w =>
  ha G H σ ρ τ δ _ h (ma.mono (fun s1 ρ1 w1 v1 H1 h1 => hr G H1 σ ρ1 τ δ v1 s1 Q _ h1 w1) (fun _ _ z => z) w)
def dLen (d : D) : Option D := match d.seq with
  | some xs => some (.int xs.length)
  | none => none
theorem Rep.seq {F H : Hp} {v : V} {d : D} {xs : List D} (h : Rep K F v d) (l : Le F H) (e : d.seq = some xs) : ∃ p vs, v = .ref p ∧ RepL K F vs xs ∧ ((SqL K H p vs ∧ d = .lst xs ∧ F p = some (.lst vs)) ∨ (SqT K H p vs ∧ d = .tup xs)) := by
  unfold D.seq at e
  split at e
  · cases e
    cases h with
    | lst h1 r => exact ⟨_, _, rfl, r, .inl ⟨SqL.of (l _ _ h1), rfl, h1⟩⟩
  · cases e
    cases h with
    | tup h1 r => exact ⟨_, _, rfl, r, .inr ⟨sqt_mono l h1, rfl⟩⟩
  · cases e
theorem c_len : R1Ok K (fun x H Q => Cl.qLen K [x] H Q) (op1 dLen) := by
  intro G H σ ρ τ δ x s1 Q E hr w
  obtain ⟨a, d, rfl, e, q⟩ := op1_go w
  obtain ⟨F, r1, z⟩ := hr.top
  unfold dLen at e
  split at e
  · rename_i xs hx
    cases e
    obtain ⟨p, vs, rfl, rl, k⟩ := r1.seq z.le hx
    refine ⟨p, vs, rfl, ?_, ?_⟩
    · rcases k with k | k
      · exact .inl k.1
      · exact .inr k.1
    · rw [rl.len]
      exact q _ _ (hr.pop.push rfl)
  · cases e
def p1 (p : D → Option (Prop × Sl)) := op1P p
def pLenS : D → Option (Prop × Sl)
  | .str z => some (z.length ≤ sizeLine, .sh (.int z.length))
  | _ => none
theorem c_lenS : R1Ok K (fun x H Q => (fun (xs : List V) (H : Hp) (Q : VK) => ∃ z, xs = [.str z] ∧ z.length ≤ sizeLine ∧ Q (.int z.length) H) [x] H Q) (op1P pLenS) := by
  intro G H σ ρ τ δ x s1 Q E hr w
  obtain ⟨a, p, s, rfl, e, hp, q⟩ := op1P_go w
  unfold pLenS at e
  split at e
  · rename_i z
    cases e
    obtain rfl := hr.topv (u := .str z) rfl
    exact ⟨z, rfl, hp, q _ _ (hr.pop.push rfl)⟩
  · cases e
def pTuple (d : D) : Option (Prop × Sl) := match d.seq with
  | some xs => some (True, .sh (.tup xs))
  | none => none
theorem c_tuple : R1Ok K (fun x H Q => Cl.qTuple K [x] H Q) (op1P pTuple) := by
  intro G H σ ρ τ δ x s1 Q E hr w
  obtain ⟨a, p, s, rfl, e, hp, q⟩ := op1P_go w
  obtain ⟨F, r1, z⟩ := hr.top
  unfold pTuple at e
  split at e
  · rename_i xs hx
    cases e
    obtain ⟨p, vs, rfl, rl, k⟩ := r1.seq z.le hx
    refine ⟨p, vs, rfl, ?_⟩
    rcases k with k | k
    · exact .inl ⟨k.1, fun l hl => q _ _ (z.nw _ _ _ hl fun F' l z' => .tup (SqT.of z') (rl.mono l))⟩
    · refine .inr ⟨k.1, q _ _ (z.sh _ _ ?_)⟩
      rw [k.2] at r1
      exact r1
  · cases e
def pStr : D → Option (Prop × Sl)
  | .int i => some (i.natAbs.log2 < 1920, .sh (.str (toString i)))
  | _ => none
theorem c_str : R1Ok K (fun x H Q => (fun (xs : List V) (H : Hp) (Q : VK) => ∃ i, xs = [.int i] ∧ i.natAbs.log2 < 1920 ∧ Q (.str (toString i)) H) [x] H Q) (op1P pStr) := by
  intro G H σ ρ τ δ x s1 Q E hr w
  obtain ⟨a, p, s, rfl, e, hp, q⟩ := op1P_go w
  unfold pStr at e
  split at e
  · rename_i i
    cases e
    obtain rfl := hr.topv (u := .int i) rfl
    exact ⟨i, rfl, hp, q _ _ (hr.pop.push rfl)⟩
  · cases e
end
end Dl
namespace Dl
open PySem PySem.Spec PyProof.Rows L2
section
variable {K : PySem.W.Frag} {W : WS} {ta tb tc : TE} {ma mb mc : ME} {r r' : R2} {f f' : Sl → Sl → ME} {tA tB' : TT} {mA mB : MT} {tl : TA} {ml : MA}
def asB : Sl → MT
  | .sh (.bl b) => M.ret b
  | _ => M.stuck
theorem asB_go {s : Sl} {ρ : Env} {Q : Bool → Env → Prop} {E : Er → Env → Prop} (w : (asB s).wp ρ Q E) : ∃ b, s = .sh (.bl b) ∧ Q b ρ := by
  unfold asB at w
  split at w
  · exact ⟨_, rfl, w⟩
  · exact w.elim
def mTest (a : ME) : MT := a.bind asB
def mBl (b : Bool) : ME := M.ret (.sh (.bl b))
def mAndV (a b : ME) : ME := a.bind fun s => (asB s).bind fun c => M.ite c b (mBl false)
def mNotV (a : ME) : ME := a.bind fun s => (asB s).bind fun c => mBl (!c)
def mIf (t : MT) (a b : ME) : ME := t.bind fun c => M.ite c a b
def mAnd (a b : MT) : MT := a.bind fun c => M.ite c b (M.ret false)
def mOr (a b : MT) : MT := a.bind fun c => M.ite c (M.ret true) b
def mNot (a : MT) : MT := a.bind fun c => M.ret (!c)
theorem eAndV (ha : EOk K W ta ma) (hb : EOk K W tb mb) : EOk K W (tAndV ta tb) (mAndV ma mb) := fun G H σ ρ τ δ Q h w =>
  ha G H σ ρ τ δ _ h (ma.mono (fun s1 ρ1 w1 v1 H1 h1 => by
    obtain ⟨c, rfl, q⟩ := asB_go w1
    obtain rfl := h1.topv (u := .bl c) rfl
    refine ⟨c, rfl, ?_⟩
    cases c with
    | true => exact hb G H1 σ ρ1 τ δ Q h1.pop q
    | false => exact q _ _ (h1.pop.push rfl)) (fun _ _ z => z) w)
theorem eNotV (ha : EOk K W ta ma) : EOk K W (tNotV ta) (mNotV ma) := fun G H σ ρ τ δ Q h w =>
  ha G H σ ρ τ δ _ h (ma.mono (fun s1 ρ1 w1 v1 H1 h1 => by
    obtain ⟨c, rfl, q⟩ := asB_go w1
    obtain rfl := h1.topv (u := .bl c) rfl
    exact ⟨c, rfl, q _ _ (h1.pop.push rfl)⟩) (fun _ _ z => z) w)
theorem eIf (ht : TOk K W tA mA) (ha : EOk K W ta ma) (hb : EOk K W tb mb) : EOk K W (tIf tA ta tb) (mIf mA ma mb) := fun G H σ ρ τ δ Q h w =>
  ht G H σ ρ τ δ _ h (mA.mono (fun c ρ1 w1 H1 h1 => by
    cases c with
    | true => exact ha G H1 σ ρ1 τ δ Q h1 w1
    | false => exact hb G H1 σ ρ1 τ δ Q h1 w1) (fun _ _ z => z) w)
def mChain (f f' : Sl → Sl → ME) (a b c : ME) : ME := a.bind fun x => b.bind fun y => (f x y).bind fun z => (asB z).bind fun k => M.ite k (c.bind fun w => f' y w) (mBl false)
def R2Kp (K : PySem.W.Frag) (r : R2) (f : Sl → Sl → ME) : Prop := ∀ (G : Ent) (H : Hp) (σ : L2.St) (ρ : Env) (τ : L2.St) (δ : List Sl) (x y : V) (s1 s2 : Sl) (Q : VK) (E : Er → Env → Prop), Rel K G H σ ρ (some y :: some x :: τ) (s2 :: s1 :: δ) →
  (f s1 s2).wp ρ (fun s ρ' => ∀ v H', Rel K G H' σ ρ' (some v :: some y :: τ) (s :: s2 :: δ) → Q v H') E → r x y H Q
theorem k_I0 {g : Int → Int → V} {gd : Int → Int → D} (h : ∀ i j, (gd i j).val = some (g i j) := by intro _ _; rfl) : R2Kp K (rI0 g) (op2 (dI gd)) := by
  intro G H σ ρ τ δ x y s1 s2 Q E hr w
  obtain ⟨a, b, d, rfl, rfl, e, q⟩ := op2_go w
  obtain ⟨i, j, rfl, rfl, rfl⟩ := dI_go e
  obtain rfl := hr.topv (u := .int j) rfl
  obtain rfl := hr.pop.topv (u := .int i) rfl
  exact ⟨i, j, rfl, rfl, q _ _ (hr.drop2.push (h i j))⟩
theorem k_le : R2Kp K (rI0 fun i j => .bl (decide (i ≤ j))) (op2 dLe) := k_I0
theorem eChain (hr : R2Kp K r f) (hr' : R2Ok K r' f') (ha : EOk K W ta ma) (hb : EOk K W tb mb) (hc : EOk K W tc mc) : EOk K W (tChain r r' ta tb tc) (mChain f f' ma mb mc) := fun G H σ ρ τ δ Q h w =>
  ha G H σ ρ τ δ _ h (ma.mono (fun s1 ρ1 w1 v1 H1 h1 => hb G H1 σ ρ1 _ _ _ h1 (mb.mono (fun s2 ρ2 w2 v2 H2 h2 => by
    refine hr G H2 σ ρ2 τ δ v1 v2 s1 s2 _ _ h2 ((f s1 s2).mono (fun s3 ρ3 w3 v3 H3 h3 => ?_) (fun _ _ z => z) w2)
    obtain ⟨c, rfl, q⟩ := asB_go w3
    obtain rfl := h3.topv (u := .bl c) rfl
    refine ⟨c, rfl, ?_⟩
    cases c with
    | true => exact hc G H3 σ ρ3 _ _ _ h3.pop (mc.mono (fun s4 ρ4 w4 v4 H4 h4 => hr' G H4 σ ρ4 τ δ v2 v4 s2 s4 Q _ h4 w4) (fun e ρ' z v H' q => z v H' q.drop2) q)
    | false => exact q _ _ (h3.pop.pop.push rfl)) (fun e ρ' z v H' q => z v H' q.drop2) w1)) (fun _ _ z => z) w)
theorem tTest' (ha : EOk K W ta ma) : TOk K W (tTest ta) (mTest ma) := fun G H σ ρ τ δ Q h w =>
  ha G H σ ρ τ δ _ h (ma.mono (fun s1 ρ1 w1 v1 H1 h1 => by
    obtain ⟨c, rfl, q⟩ := asB_go w1
    obtain rfl := h1.topv (u := .bl c) rfl
    exact ⟨c, rfl, q _ h1.pop⟩) (fun _ _ z => z) w)
theorem tVal (ha : EOk K W ta ma) : TOk K W (tB ta) (mTest ma) := tTest' ha
theorem tAnd' (ha : TOk K W tA mA) (hb : TOk K W tB' mB) : TOk K W (tAnd tA tB') (mAnd mA mB) := fun G H σ ρ τ δ Q h w =>
  ha G H σ ρ τ δ _ h (mA.mono (fun c ρ1 w1 H1 h1 => by
    cases c with
    | true => exact hb G H1 σ ρ1 τ δ Q h1 w1
    | false => exact w1 H1 h1) (fun _ _ z => z) w)
theorem tOr' (ha : TOk K W tA mA) (hb : TOk K W tB' mB) : TOk K W (tOr tA tB') (mOr mA mB) := fun G H σ ρ τ δ Q h w =>
  ha G H σ ρ τ δ _ h (mA.mono (fun c ρ1 w1 H1 h1 => by
    cases c with
    | true => exact w1 H1 h1
    | false => exact hb G H1 σ ρ1 τ δ Q h1 w1) (fun _ _ z => z) w)
theorem tNot' (ha : TOk K W tA mA) : TOk K W (tNot tA) (mNot mA) := fun G H σ ρ τ δ Q h w =>
  ha G H σ ρ τ δ _ h (mA.mono (fun c ρ1 w1 H1 h1 => w1 H1 h1) (fun _ _ z => z) w)
def mNil : MA := M.ret []
def mCons (a : ME) (l : MA) : MA := a.bind fun s => l.bind fun ss => M.ret (s :: ss)
theorem aNil : AOk K W tNil mNil := fun G H σ ρ τ δ Q h w => w [] H rfl h
theorem aCons (ha : EOk K W ta ma) (hl : AOk K W tl ml) : AOk K W (tCons ta tl) (mCons ma ml) := fun G H σ ρ τ δ Q h w =>
  ha G H σ ρ τ δ _ h (ma.mono (fun s1 ρ1 w1 v1 H1 h1 => hl G H1 σ ρ1 _ _ _ h1 (ml.mono (fun ss ρ2 w2 vs H2 hl h2 => w2 (v1 :: vs) H2 (by simp [hl]) (Rel.rot (by simp [hl]) h2)) (fun e ρ' z v H' q => z v H' q.drop2) w1)) (fun _ _ z => z) w)
def allSh : List Sl → Option (List D)
  | [] => some []
  | .sh d :: ss => match allSh ss with
    | some ds => some (d :: ds)
    | none => none
  | _ :: _ => none
theorem allSh_go : ∀ {ss : List Sl} {ds : List D}, allSh ss = some ds → ss = ds.map Sl.sh
  | [], _, e => by cases e; rfl
  | s :: ss, ds, e => by
    cases s with
    | sh d =>
      have e' : (match allSh ss with | some ds => some (d :: ds) | none => none) = some ds := e
      cases h : allSh ss with
      | none => rw [h] at e'; cases e'
      | some ms => rw [h] at e'; cases e'; rw [List.map_cons, ← allSh_go h]
    | _ => cases e
def mkSeq (g : List D → Sl) (ss : List Sl) : ME := ⟨fun ρ Q _ => match allSh ss with
  | some ds => match Nat.ble ds.length sizeLine with
    | true => Q (g ds) ρ
    | false => False
  | none => False, fun {ρ Q Q' E E'} h _ w => by
    revert w
    split
    · split
      · exact fun w => h _ _ w
      · exact id
    · exact id⟩
theorem mkSeq_go {g : List D → Sl} {ss : List Sl} {ρ : Env} {Q : Sl → Env → Prop} {E : Er → Env → Prop} (w : (mkSeq g ss).wp ρ Q E) : ∃ ds, ss = ds.map Sl.sh ∧ ds.length ≤ sizeLine ∧ Q (g ds) ρ := by
  unfold mkSeq at w
  simp only at w
  split at w
  · rename_i ds e
    split at w
    · rename_i h
      exact ⟨ds, allSh_go e, Nat.le_of_ble_eq_true h, w⟩
    · exact w.elim
  · exact w.elim
def mTup (l : MA) : ME := l.bind (mkSeq fun ds => .sh (.tup ds))
def mLst (l : MA) : ME := l.bind (mkSeq fun ds => .ow (.ol .fr) (.lst ds))
theorem eTup (hl : AOk K W tl ml) : EOk K W (tTup tl) (mTup ml) := fun G H σ ρ τ δ Q h w =>
  hl G H σ ρ τ δ _ h (ml.mono (fun ss ρ1 w1 vs H1 hn h1 => by
    obtain ⟨ds, rfl, hz, q⟩ := mkSeq_go w1
    rw [List.length_map] at hn
    exact ⟨by rw [hn]; exact hz, fun p hp => q _ _ (h1.tup hp hn)⟩) (fun _ _ z => z) w)
theorem eLst (hl : AOk K W tl ml) : EOk K W (tLst tl) (mLst ml) := fun G H σ ρ τ δ Q h w =>
  hl G H σ ρ τ δ _ h (ml.mono (fun ss ρ1 w1 vs H1 hn h1 => by
    obtain ⟨ds, rfl, hz, q⟩ := mkSeq_go w1
    rw [List.length_map] at hn
    exact ⟨by rw [hn]; exact hz, fun p hp => q _ _ (h1.lst hp hn)⟩) (fun _ _ z => z) w)
def dFld (c i : Nat) : D → Option D
  | .obj c' fs => if c' = c then fs[i]? else none
  | _ => none
def mFld (c i : Nat) (a : ME) : ME := a.bind (op1 (dFld c i))
theorem eFld {c i : Nat} {n : Str} (cl : Cls K (He.ga K (cn c))) (na : NoAttr K (He.ga K (cn c)) n) (hi : (cf c).findIdx? (· == n) = some i) (ha : EOk K W ta ma) : EOk K W (tFld K ta n) (mFld c i ma) := fun G H σ ρ τ δ Q h w =>
  ha G H σ ρ τ δ _ h (ma.mono (fun s1 ρ1 w1 v1 H1 h1 => by
    obtain ⟨a, d, rfl, e, q⟩ := op1_go w1
    obtain ⟨F, r, z⟩ := h1.top
    unfold dFld at e
    split at e
    · rename_i c' fs
      split at e
      · rename_i hc
        subst hc
        cases r with
        | obj k1 k2 kn kr =>
          obtain ⟨v, e1, r1⟩ := kr.get e
          refine ⟨_, _, _, _, v, rfl, z.le _ _ k1, cl, na, ?_, q _ _ (z.sh _ _ r1)⟩
          refine look_at (i := i) kn ?_ e1
          have hlt : i < fs.length := by
            rcases Nat.lt_or_ge i fs.length with z | z
            · exact z
            · rw [List.getElem?_eq_none z] at e; cases e
          rw [List.findIdx?_eq_some_iff_getElem] at hi ⊢
          obtain ⟨g1, g2, g3⟩ := hi
          refine ⟨by rw [List.length_take]; omega, by rw [List.getElem_take]; exact g2, fun j hj => ?_⟩
          rw [List.getElem_take]
          exact g3 j hj
      · cases e
    · cases e) (fun _ _ z => z) w)
end
end Dl
namespace Dl
open PySem PySem.Spec PyProof.Rows L2
structure MEnds where
  nx : Env → Prop
  rt : Sl → Env → Prop
  bk : Env → Prop
  ct : Env → Prop
  ex : Er → Env → Prop
structure MEnds.Le (M M' : MEnds) : Prop where
  nx : ∀ r, M.nx r → M'.nx r
  rt : ∀ s r, M.rt s r → M'.rt s r
  bk : ∀ r, M.bk r → M'.bk r
  ct : ∀ r, M.ct r → M'.ct r
  ex : ∀ e r, M.ex e r → M'.ex e r
structure MS where
  wp : Env → MEnds → Prop
  mono : ∀ {ρ : Env} {M M' : MEnds}, M.Le M' → wp ρ M → wp ρ M'
structure Into (K : PySem.W.Frag) (W : WS) (G : Ent) (τ : L2.St) (δ : List Sl) (D : Ends) (M : MEnds) : Prop where
  nx : ∀ σ ρ H, Rel K G H σ ρ τ δ → M.nx ρ → D.nx σ H
  rt : ∀ s ρ v σ H, Rel K G H σ ρ (some v :: τ) (s :: δ) → M.rt s ρ → D.rt v H
  bk : ∀ σ ρ H, Rel K G H σ ρ τ δ → M.bk ρ → D.bk σ H
  ct : ∀ σ ρ H, Rel K G H σ ρ τ δ → M.ct ρ → D.ct σ H
  ex : ∀ σ er ρ, M.ex er ρ → exQ K W G σ τ δ er ρ
def SOk (K : PySem.W.Frag) (W : WS) (t : TS) (m : MS) : Prop := ∀ (G : Ent) (H : Hp) (σ : L2.St) (ρ : Env) (τ : L2.St) (δ : List Sl) (D : Ends) (M : MEnds), Rel K G H σ ρ τ δ → Into K W G τ δ D M → m.wp ρ M → t D σ H
def sNext : MS := ⟨fun ρ M => M.nx ρ, fun h w => h.nx _ w⟩
def sSeq (a b : MS) : MS := ⟨fun ρ M => a.wp ρ { M with nx := fun r => b.wp r M }, fun {ρ M M'} h w => a.mono (M := { M with nx := fun r => b.wp r M }) ⟨fun r (z : b.wp r M) => b.mono h z, h.rt, h.bk, h.ct, h.ex⟩ w⟩
def sDrop (m : ME) : MS := ⟨fun ρ M => m.wp ρ (fun _ r => M.nx r) M.ex, fun h w => m.mono (fun _ r z => h.nx r z) h.ex w⟩
def sRet (m : ME) : MS := ⟨fun ρ M => m.wp ρ M.rt M.ex, fun h w => m.mono h.rt h.ex w⟩
def sIf (c : MT) (a b : MS) : MS := ⟨fun ρ M => c.wp ρ (fun k r => if k = true then a.wp r M else b.wp r M) M.ex, fun h w => c.mono (fun k r z => by
  cases k with
  | true => exact a.mono h z
  | false => exact b.mono h z) h.ex w⟩
section
variable {K : PySem.W.Frag} {W : WS} {ta tb tc : TE} {ma mb mc : ME} {t u : TS} {m k : MS} {tA : TT} {mA : MT}
theorem zNext : SOk K W tNext sNext := fun G H σ ρ τ δ D M h i w => i.nx σ ρ H h w
theorem zSeq (ht : SOk K W t m) (hu : SOk K W u k) : SOk K W (tSeq t u) (sSeq m k) := fun G H σ ρ τ δ D M h i w =>
  ht G H σ ρ τ δ _ { M with nx := fun r => k.wp r M } h ⟨fun σ' ρ' H' h' w' => hu G H' σ' ρ' τ δ D M h' i w', i.rt, i.bk, i.ct, i.ex⟩ w
theorem zDrop (ha : EOk K W ta ma) : SOk K W (tDrop ta) (sDrop ma) := fun G H σ ρ τ δ D M h i w =>
  ha G H σ ρ τ δ _ h (ma.mono (fun s ρ' z v H' q => i.nx σ ρ' H' q.pop z) (fun e ρ' z => i.ex σ e ρ' z) w)
theorem zRet (ha : EOk K W ta ma) : SOk K W (tRet ta) (sRet ma) := fun G H σ ρ τ δ D M h i w =>
  ha G H σ ρ τ δ _ h (ma.mono (fun s ρ' z v H' q => i.rt s ρ' v σ H' q z) (fun e ρ' z => i.ex σ e ρ' z) w)
theorem zIf (hc : TOk K W tA mA) (ht : SOk K W t m) (hu : SOk K W u k) : SOk K W (tIfS tA t u) (sIf mA m k) := fun G H σ ρ τ δ D M h i w =>
  hc G H σ ρ τ δ _ h (mA.mono (fun b ρ' z H' q => by
    cases b with
    | true => exact ht G H' σ ρ' τ δ D M q i z
    | false => exact hu G H' σ ρ' τ δ D M q i z) (fun e ρ' z => i.ex σ e ρ' z) w)
abbrev MG := Sl → M Unit
def GOk (K : PySem.W.Frag) (g : TG) (mg : MG) : Prop := ∀ (G : Ent) (H : Hp) (σ : L2.St) (ρ : Env) (τ : L2.St) (δ : List Sl) (v : V) (s : Sl) (Q : L2.St → Hp → Prop), Rel K G H σ ρ (some v :: τ) (s :: δ) →
  (mg s).wp ρ (fun _ ρ' => ∀ σ' H', Rel K G H' σ' ρ' τ δ → Q σ' H') (fun _ _ => False) → g v σ H Q
def gSet (i : Nat) : MG := fun s => ⟨fun ρ Q _ => match ρ[i]? with
  | some _ => Q () (ρ.set i s)
  | none => False, fun {ρ Q Q' E E'} h _ w => by
    revert w
    split
    · exact fun w => h _ _ w
    · exact id⟩
theorem gNm {i : Nat} : GOk K (gName i) (gSet i) := fun G H σ ρ τ δ v s Q h w => by
  unfold gSet at w
  simp only at w
  split at w
  · rename_i e
    refine w _ _ (h.set ?_)
    rcases Nat.lt_or_ge i ρ.length with z | z
    · exact z
    · rw [List.getElem?_eq_none z] at e; cases e
  · exact w.elim
def GsOk (K : PySem.W.Frag) (g : TGs) (mg : List D → M Unit) : Prop := ∀ (G : Ent) (H : Hp) (σ : L2.St) (ρ : Env) (τ : L2.St) (δ : List Sl) (vs : List V) (ds : List D) (Q : L2.St → Hp → Prop), vs.length = ds.length → Rel K G H σ ρ (vs.map some ++ τ) (ds.map Sl.sh ++ δ) →
  (mg ds).wp ρ (fun _ ρ' => ∀ σ' H', Rel K G H' σ' ρ' τ δ → Q σ' H') (fun _ _ => False) → g vs σ H Q
def gNo : List D → M Unit
  | [] => M.ret ()
  | _ => M.stuck
def gCo (g : MG) (gs : List D → M Unit) : List D → M Unit
  | d :: ds => (g (.sh d)).bind fun _ => gs ds
  | [] => M.stuck
theorem gsNil : GsOk K gNil gNo := fun G H σ ρ τ δ vs ds Q e h w => by
  unfold gNo at w
  split at w
  · cases vs with
    | nil => exact ⟨rfl, w _ _ h⟩
    | cons a l => simp at e
  · exact w.elim
theorem gsCons {g : TG} {gs : TGs} {mg : MG} {mgs : List D → M Unit} (hg : GOk K g mg) (hgs : GsOk K gs mgs) : GsOk K (gCons g gs) (gCo mg mgs) := fun G H σ ρ τ δ vs ds Q e h w => by
  cases ds with
  | nil => exact w.elim
  | cons d ds =>
    cases vs with
    | nil => simp at e
    | cons v vs => exact ⟨v, vs, rfl, hg G H σ ρ (vs.map some ++ τ) (ds.map Sl.sh ++ δ) v (.sh d) _ h ((mg (.sh d)).mono (fun _ ρ1 w1 σ1 H1 h1 => hgs G H1 σ1 ρ1 τ δ vs ds Q (by simpa using e) h1 w1) (fun _ _ z => z) w)⟩
def gTu (n : Nat) (gs : List D → M Unit) : MG
  | .sh (.tup ds) => if ds.length = n then gs ds else M.stuck
  | _ => M.stuck
theorem RepL.slots {F H : Hp} {τ : L2.St} {δ : List Sl} {f : List Addr} (h : Slots K F H τ δ f) : ∀ {vs : List V} {ds : List D}, RepL K F vs ds → Slots K F H (vs.map some ++ τ) (ds.map Sl.sh ++ δ) f
  | _, _, .nil => h
  | _, _, .cons r t => .cons (f := []) (.sh r) (RepL.slots h t)
theorem Rel.parts {G : Ent} {H : Hp} {σ : L2.St} {ρ : Env} {τ : L2.St} {δ : List Sl} {v : V} {ds : List D} (h : Rel K G H σ ρ (some v :: τ) (.sh (.tup ds) :: δ)) : ∃ a vs, v = .ref a ∧ SqT K H a vs ∧ vs.length = ds.length ∧ Rel K G H σ ρ (vs.map some ++ τ) (ds.map Sl.sh ++ δ) := by
  obtain ⟨F, f1, f2, g, ht, hs⟩ := h
  cases ht with
  | cons h1 h2 =>
    cases h1 with
    | sh r =>
      cases r with
      | @tup a vs _ h1 r =>
        refine ⟨a, vs, rfl, sqt_mono g.sub h1, r.len, F, _, f2, g, ?_, hs⟩
        exact RepL.slots h2 r
theorem gTp {n : Nat} {gs : TGs} {mgs : List D → M Unit} (hg : GsOk K gs mgs) : GOk K (gTup K n gs) (gTu n mgs) := fun G H σ ρ τ δ v s Q h w => by
  unfold gTu at w
  split at w
  · split at w
    · rename_i ds hn
      obtain ⟨a, vs, rfl, h1, h2, h3⟩ := h.parts
      exact ⟨a, vs, rfl, h1, h2.trans hn, hg G H σ ρ τ δ vs ds Q h2 h3 w⟩
    · exact w.elim
  · exact w.elim
def sAsg (m : ME) (g : MG) : MS := ⟨fun ρ M => m.wp ρ (fun s r => (g s).wp r (fun _ r' => M.nx r') (fun _ _ => False)) M.ex, fun h w => m.mono (fun s r z => (g s).mono (fun _ r' q => h.nx r' q) (fun _ _ q => q) z) h.ex w⟩
theorem zAsg {g : TG} {mg : MG} (ha : EOk K W ta ma) (hg : GOk K g mg) : SOk K W (tAsg ta g) (sAsg ma mg) := fun G H σ ρ τ δ D M h i w =>
  ha G H σ ρ τ δ _ h (ma.mono (fun s ρ1 w1 v H1 h1 => hg G H1 σ ρ1 τ δ v s _ h1 ((mg s).mono (fun _ ρ2 w2 σ2 H2 h2 => i.nx σ2 ρ2 H2 h2 w2) (fun _ _ z => z) w1)) (fun e ρ' z => i.ex σ e ρ' z) w)
abbrev MI := M (List D)
structure Walks (K : PySem.W.Frag) (G : Ent) (J : It) (ds : List D) (τ' : L2.St) (δ' : List Sl) : Prop where
  go : ∀ H σ ρ τ δ i, Rel K G H σ ρ (τ' ++ τ) (δ' ++ δ) → i < ds.length → J.go i H
  stop : ∀ H σ ρ τ δ, Rel K G H σ ρ (τ' ++ τ) (δ' ++ δ) → J.stop ds.length H
  yld : ∀ H σ ρ τ δ i x H' d, Rel K G H σ ρ (τ' ++ τ) (δ' ++ δ) → ds[i]? = some d → J.yld i H x H' → Rel K G H' σ ρ (some x :: (τ' ++ τ)) (.sh d :: (δ' ++ δ))
def IOk (K : PySem.W.Frag) (W : WS) (wi : TI) (m : MI) : Prop := ∀ (G : Ent) (H : Hp) (σ : L2.St) (ρ : Env) (τ : L2.St) (δ : List Sl) (R : It → Hp → Prop), Rel K G H σ ρ τ δ →
  m.wp ρ (fun ds ρ' => ∀ J H' τ' δ', τ'.length = δ'.length → Rel K G H' σ ρ' (τ' ++ τ) (δ' ++ δ) → Walks K G J ds τ' δ' → R J H') (exQ K W G σ τ δ) → wi σ H R
def forM (g : MG) (b : MS) : List D → Env → MEnds → Prop
  | [], ρ, M => M.nx ρ
  | d :: ds, ρ, M => (g (.sh d)).wp ρ (fun _ r => b.wp r { M with nx := fun r => forM g b ds r M, ct := fun r => forM g b ds r M, bk := M.nx }) (fun _ _ => False)
theorem forM_mono {g : MG} {b : MS} {M M' : MEnds} (h : M.Le M') : ∀ {ds : List D} {ρ : Env}, forM g b ds ρ M → forM g b ds ρ M'
  | [], ρ, w => h.nx ρ w
  | d :: ds, ρ, w => (g (.sh d)).mono (fun _ r z => b.mono (M := { M with nx := fun r => forM g b ds r M, ct := fun r => forM g b ds r M, bk := M.nx }) ⟨fun r z => forM_mono h z, h.rt, h.nx, fun r z => forM_mono h z, h.ex⟩ z) (fun _ _ z => z) w
def sFor (i : MI) (g : MG) (b : MS) : MS := ⟨fun ρ M => i.wp ρ (fun ds r => forM g b ds r M) M.ex, fun h w => i.mono (fun ds r z => forM_mono h z) h.ex w⟩
theorem for_go {J : It} {g : TG} {mg : MG} (hg : GOk K g mg) (hb : SOk K W t m) {G : Ent} {H1 : Hp} {σ τ τ' : L2.St} {ρ1 : Env} {δ δ' : List Sl} {ds : List D} {D : Ends} {M : MEnds} (el : τ'.length = δ'.length) (h1 : Rel K G H1 σ ρ1 (τ' ++ τ) (δ' ++ δ)) (hw : Walks K G J ds τ' δ') (hi' : Into K W G τ δ D M) (w1 : forM mg m ds ρ1 M) :
    ∃ W : Nat → Nat → L2.St → Hp → Prop, (∃ m, W 0 m σ H1) ∧ ∀ i m σ H, W i m σ H →
      (J.stop i H ∧ D.nx σ H) ∨ (J.go i H ∧ ∃ N : L2.St → Hp → Prop, (∀ σ' H', N σ' H' → ∃ m', m' < m ∧ W (i + 1) m' σ' H') ∧ ∀ x H', J.yld i H x H' → g x σ H' fun σ2 H2 => t { D with nx := N, ct := N, bk := D.nx } σ2 H2) := by
  refine ⟨fun i n σ' H' => n = ds.length - i ∧ i ≤ ds.length ∧ ∃ ρ', Rel K G H' σ' ρ' (τ' ++ τ) (δ' ++ δ) ∧ forM mg m (ds.drop i) ρ' M, ⟨_, rfl, Nat.zero_le _, ρ1, h1, w1⟩, ?_⟩
  rintro i n σ' H' ⟨rfl, hle, ρ', h2, w2⟩
  by_cases hlt : i < ds.length
  · have hd : ds.drop i = ds[i] :: ds.drop (i + 1) := List.drop_eq_getElem_cons hlt
    rw [hd] at w2
    refine .inr ⟨hw.go H' σ' ρ' τ δ i h2 hlt, fun σ2 H2 => ∃ ρ2, Rel K G H2 σ2 ρ2 (τ' ++ τ) (δ' ++ δ) ∧ forM mg m (ds.drop (i + 1)) ρ2 M, fun σ2 H2 ⟨ρ2, h3, w3⟩ => ⟨_, by omega, rfl, hlt, ρ2, h3, w3⟩, fun x H2 y => ?_⟩
    have h3 := hw.yld H' σ' ρ' τ δ i x H2 ds[i] h2 (List.getElem?_eq_getElem hlt) y
    refine hg G H2 σ' ρ' _ _ x _ _ h3 ((mg _).mono (fun _ ρ3 w3 σ3 H3 h4 => ?_) (fun _ _ z => z) w2)
    refine hb G H3 σ3 ρ3 _ _ _ { M with nx := fun r => forM mg m (ds.drop (i + 1)) r M, ct := fun r => forM mg m (ds.drop (i + 1)) r M, bk := M.nx } h4 ⟨fun σ4 ρ4 H4 h5 w4 => ⟨ρ4, h5, w4⟩, fun s ρ4 v σ4 H4 h5 w4 => hi'.rt s ρ4 v σ4 H4 (Rel.dropN el h5) w4, fun σ4 ρ4 H4 h5 w4 => hi'.nx σ4 ρ4 H4 (Rel.popN el h5) w4, fun σ4 ρ4 H4 h5 w4 => ⟨ρ4, h5, w4⟩, fun σ4 er ρ4 w4 v H4 h5 => hi'.ex σ4 er ρ4 w4 v H4 (Rel.dropN el h5)⟩ w3
  · have e : i = ds.length := by omega
    subst e
    rw [List.drop_length] at w2
    exact .inl ⟨hw.stop H' σ' ρ' τ δ h2, hi'.nx σ' ρ' H' (Rel.popN el h2) w2⟩
theorem zFor {wi : TI} {mi : MI} {g : TG} {mg : MG} (hi : IOk K W wi mi) (hg : GOk K g mg) (hb : SOk K W t m) : SOk K W (tFor wi g t) (sFor mi mg m) := fun G H σ ρ τ δ D M h hi' w =>
  hi G H σ ρ τ δ _ h (mi.mono (fun ds ρ1 w1 J H1 τ' δ' el h1 hw => for_go hg hb el h1 hw hi' w1) (fun e ρ' z => hi'.ex σ e ρ' z) w)
end
end Dl
namespace Dl
open PySem PySem.Spec PyProof.Rows L2
section
variable {K : PySem.W.Frag} {W : WS} {ta tb tc : TE} {ma mb mc : ME} {t u : TS} {m k : MS} {tA : TT} {mA : MT} {tl : TA} {ml : MA}
def asSeq (p : D → Option (List D)) : Sl → MI
  | .sh d => match p d with
    | some xs => M.ret xs
    | none => M.stuck
  | _ => M.stuck
theorem asSeq_go {p : D → Option (List D)} {s : Sl} {ρ : Env} {Q : List D → Env → Prop} {E : Er → Env → Prop} (w : (asSeq p s).wp ρ Q E) : ∃ d xs, s = .sh d ∧ p d = some xs ∧ Q xs ρ := by
  unfold asSeq at w
  split at w
  · split at w
    · exact ⟨_, _, rfl, by assumption, w⟩
    · exact w.elim
  · exact w.elim
def D.asL : D → Option (List D)
  | .lst xs => some xs
  | _ => none
def D.asTp : D → Option (List D)
  | .tup xs => some xs
  | _ => none
def iL (a : ME) : MI := a.bind (asSeq D.asL)
def iT (a : ME) : MI := a.bind (asSeq D.asTp)
theorem Rel.held {G : Ent} {H : Hp} {σ : L2.St} {ρ : Env} {τ : L2.St} {δ : List Sl} {v : V} {d : D} (h : Rel K G H σ ρ (some v :: τ) (.sh d :: δ)) : ∃ F, Rep K F v d ∧ Le F H ∧ ∀ u z, Rep K F u z → Rel K G H σ ρ (some u :: some v :: τ) (.sh z :: .sh d :: δ) := by
  obtain ⟨F, f1, f2, g, ht, hs⟩ := h
  cases ht with
  | cons h1 h2 =>
    cases h1 with
    | sh r => exact ⟨F, r, g.sub, fun u z q => ⟨F, _, f2, g, .cons (.sh q) (.cons (.sh r) h2), hs⟩⟩
theorem Rel.lstAt {G : Ent} {H : Hp} {σ : L2.St} {ρ : Env} {τ : L2.St} {δ : List Sl} {a : Addr} {ds : List D} (h : Rel K G H σ ρ (some (.ref a) :: τ) (.sh (.lst ds) :: δ)) : ∃ vs, H a = some (.lst vs) ∧ vs.length = ds.length ∧ ∀ (i : Nat) (x : V) (d : D), vs[i]? = some x → ds[i]? = some d → Rel K G H σ ρ (some x :: some (.ref a) :: τ) (.sh d :: .sh (.lst ds) :: δ) := by
  obtain ⟨F, r, l, k⟩ := h.held
  cases r with
  | lst h1 r =>
    refine ⟨_, l _ _ h1, r.len, fun i x d e1 e2 => ?_⟩
    obtain ⟨v, e3, q⟩ := r.get e2
    rw [e1] at e3
    cases e3
    exact k _ _ q
theorem Rel.tupAt {G : Ent} {H : Hp} {σ : L2.St} {ρ : Env} {τ : L2.St} {δ : List Sl} {a : Addr} {ds : List D} (h : Rel K G H σ ρ (some (.ref a) :: τ) (.sh (.tup ds) :: δ)) : ∃ vs, SqT K H a vs ∧ vs.length = ds.length ∧ ∀ (i : Nat) (x : V) (d : D), vs[i]? = some x → ds[i]? = some d → Rel K G H σ ρ (some x :: some (.ref a) :: τ) (.sh d :: .sh (.tup ds) :: δ) := by
  obtain ⟨F, r, l, k⟩ := h.held
  cases r with
  | tup h1 r =>
    refine ⟨_, sqt_mono l h1, r.len, fun i x d e1 e2 => ?_⟩
    obtain ⟨v, e3, q⟩ := r.get e2
    rw [e1] at e3
    cases e3
    exact k _ _ q
theorem walks_list {a : Addr} {ds : List D} : Walks K G (Itl K a) ds [some (.ref a)] [.sh (.lst ds)] where
  go := fun H σ ρ τ δ i h hi => by
    obtain ⟨vs, h1, h2, _⟩ := h.lstAt
    exact walk_list.goes i H (by omega) (SqL.of h1)
  stop := fun H σ ρ τ δ h => by
    obtain ⟨vs, h1, h2, _⟩ := h.lstAt
    rw [← h2]
    exact walk_list.stops H (SqL.of h1)
  yld := fun H σ ρ τ δ i x H' d h hi y => by
    obtain ⟨vs, h1, h2, h3⟩ := h.lstAt
    have hlt : i < ds.length := by
      rcases Nat.lt_or_ge i ds.length with z | z
      · exact z
      · rw [List.getElem?_eq_none z] at hi; cases hi
    obtain ⟨e1, e2⟩ := (walk_list (K := K) (a := a) (xs := vs)).yields i H x H' (by omega) (SqL.of h1) y
    subst e1
    exact h3 i x d e2 hi
theorem walks_tup {a : Addr} {ds : List D} : Walks K G (Itt K a) ds [some (.ref a)] [.sh (.tup ds)] where
  go := fun H σ ρ τ δ i h hi => by
    obtain ⟨vs, h1, h2, _⟩ := h.tupAt
    exact walk_tup.goes i H (by omega) h1
  stop := fun H σ ρ τ δ h => by
    obtain ⟨vs, h1, h2, _⟩ := h.tupAt
    rw [← h2]
    exact walk_tup.stops H h1
  yld := fun H σ ρ τ δ i x H' d h hi y => by
    obtain ⟨vs, h1, h2, h3⟩ := h.tupAt
    have hlt : i < ds.length := by
      rcases Nat.lt_or_ge i ds.length with z | z
      · exact z
      · rw [List.getElem?_eq_none z] at hi; cases hi
    obtain ⟨e1, e2⟩ := (walk_tup (K := K) (a := a) (xs := vs)).yields i H x H' (by omega) h1 y
    subst e1
    exact h3 i x d e2 hi
theorem wList (ha : EOk K W ta ma) : IOk K W (iList K ta) (iL ma) := fun G H σ ρ τ δ R h w =>
  ha G H σ ρ τ δ _ h (ma.mono (fun s ρ1 w1 v H1 h1 => by
    obtain ⟨d, xs, rfl, e, q⟩ := asSeq_go w1
    unfold D.asL at e
    split at e
    · cases e
      obtain ⟨F, r, z⟩ := h1.top
      cases r with
      | lst h2 r => exact ⟨_, rfl, ⟨_, SqL.of (z.le _ _ h2)⟩, q _ _ _ _ rfl h1 walks_list⟩
    · cases e) (fun _ _ z => z) w)
theorem wTup (ha : EOk K W ta ma) : IOk K W (iTup K ta) (iT ma) := fun G H σ ρ τ δ R h w =>
  ha G H σ ρ τ δ _ h (ma.mono (fun s ρ1 w1 v H1 h1 => by
    obtain ⟨d, xs, rfl, e, q⟩ := asSeq_go w1
    unfold D.asTp at e
    split at e
    · cases e
      obtain ⟨F, r, z⟩ := h1.top
      cases r with
      | tup h2 r => exact ⟨_, rfl, ⟨_, sqt_mono z.le h2⟩, q _ _ _ _ rfl h1 walks_tup⟩
    · cases e) (fun _ _ z => z) w)
def rgD (lo : Int) (n : Nat) : List D := (List.range n).map fun i => D.int (lo + (i : Nat))
theorem walks_range {lo : Int} {n : Nat} : Walks K G (Itr lo n) (rgD lo n) [] [] where
  go := fun H σ ρ τ δ i h hi => by
    simp only [rgD, List.length_map, List.length_range] at hi
    exact hi
  stop := fun H σ ρ τ δ h => by
    simp only [rgD, List.length_map, List.length_range]
    exact Nat.le_refl _
  yld := fun H σ ρ τ δ i x H' d h hi y => by
    obtain ⟨rfl, rfl⟩ := y
    have hlt : i < n := by
      rcases Nat.lt_or_ge i n with z | z
      · exact z
      · rw [List.getElem?_eq_none (by simp only [rgD, List.length_map, List.length_range]; exact z)] at hi; cases hi
    have : d = .int (lo + (i : Nat)) := by
      simp only [rgD, List.getElem?_map, List.getElem?_range hlt, Option.map_some] at hi
      exact (Option.some.inj hi).symm
    rw [this]
    exact h.push rfl
def asI (k : Int → MI) : Sl → MI
  | .sh (.int j) => k j
  | _ => M.stuck
def need {α : Type} (p : Prop) (m : M α) : M α := ⟨fun ρ Q E => p ∧ m.wp ρ Q E, fun h h' w => ⟨w.1, m.mono h h' w.2⟩⟩
def iR1 (a : ME) : MI := a.bind (asI fun j => need (-(2 ^ 62) ≤ j ∧ j < 2 ^ 62) (M.ret (rgD 0 j.toNat)))
theorem asI_go {k : Int → MI} {s : Sl} {ρ : Env} {Q : List D → Env → Prop} {E : Er → Env → Prop} (w : (asI k s).wp ρ Q E) : ∃ j, s = .sh (.int j) ∧ (k j).wp ρ Q E := by
  unfold asI at w
  split at w
  · exact ⟨_, rfl, w⟩
  · exact w.elim
theorem wR1 (ha : EOk K W ta ma) : IOk K W (iRng1 (tCons ta tNil)) (iR1 ma) := fun G H σ ρ τ δ R h w =>
  ha G H σ ρ τ δ _ h (ma.mono (fun s ρ1 w1 v H1 h1 => by
    obtain ⟨j, rfl, w2, w3⟩ := asI_go w1
    obtain rfl := h1.topv (u := .int j) rfl
    exact ⟨j, rfl, w2.1, w2.2, w3 _ _ [] [] rfl h1.pop walks_range⟩) (fun _ _ z => z) w)
def sgD (z : Str) : List D := z.cps.toList.map fun c => D.str ⟨#[c]⟩
def D.asS : D → Option (List D)
  | .str z => some (sgD z)
  | _ => none
def iS (a : ME) : MI := a.bind (asSeq D.asS)
theorem walks_str {z : Str} : Walks K G (Its z) (sgD z) [] [] where
  go := fun H σ ρ τ δ i h hi => by
    simp only [sgD, List.length_map, Array.length_toList] at hi
    exact hi
  stop := fun H σ ρ τ δ h => by
    simp only [sgD, List.length_map, Array.length_toList]
    exact Nat.le_refl _
  yld := fun H σ ρ τ δ i x H' d h hi y => by
    obtain ⟨rfl, c, hc, rfl⟩ := y
    have : d = .str ⟨#[c]⟩ := by
      simp only [sgD, List.getElem?_map, Array.getElem?_toList, hc, Option.map_some] at hi
      exact (Option.some.inj hi).symm
    rw [this]
    exact h.push rfl
theorem wStr (ha : EOk K W ta ma) : IOk K W (iStr ta) (iS ma) := fun G H σ ρ τ δ R h w =>
  ha G H σ ρ τ δ _ h (ma.mono (fun s ρ1 w1 v H1 h1 => by
    obtain ⟨d, xs, rfl, e, q⟩ := asSeq_go w1
    unfold D.asS at e
    split at e
    · rename_i z
      cases e
      obtain rfl := h1.topv (u := .str z) rfl
      exact ⟨z, rfl, q _ _ [] [] rfl h1.pop walks_str⟩
    · cases e) (fun _ _ z => z) w)
theorem Rel.pair {G : Ent} {H : Hp} {σ : L2.St} {ρ : Env} {τ : L2.St} {δ : List Sl} {x y : V} {d e : D} {T : Addr} (h : Rel K G H σ ρ (some x :: some y :: τ) (.sh d :: .sh e :: δ)) (hT : H T = none) : Rel K G (upd H T (.tup [x, y])) σ ρ (some (.ref T) :: τ) (.sh (.tup [d, e]) :: δ) :=
  Rel.tup (vs := [x, y]) (ds := [d, e]) hT rfl h
def enD (xs : List D) : List D := (List.range xs.length).zipWith (fun i d => D.tup [.int (i : Nat), d]) xs
theorem enD_at {xs : List D} {i : Nat} {d : D} (h : (enD xs)[i]? = some d) : ∃ x, xs[i]? = some x ∧ d = .tup [.int (i : Nat), x] := by
  unfold enD at h
  rw [List.getElem?_zipWith] at h
  cases e : xs[i]? with
  | none => rw [e] at h; cases h1 : (List.range xs.length)[i]? <;> rw [h1] at h <;> cases h
  | some x =>
    have hlt : i < xs.length := by
      rcases Nat.lt_or_ge i xs.length with z | z
      · exact z
      · rw [List.getElem?_eq_none z] at e; cases e
    rw [e, List.getElem?_range hlt] at h
    exact ⟨x, rfl, (Option.some.inj h).symm⟩
theorem enD_len (xs : List D) : (enD xs).length = xs.length := by unfold enD; rw [List.length_zipWith, List.length_range]; omega
def iE (a : ME) : MI := a.bind fun s => (asSeq D.asL s).bind fun xs => M.ret (enD xs)
theorem walks_enum {a : Addr} {ds : List D} : Walks K G (Ite K a) (enD ds) [some (.ref a)] [.sh (.lst ds)] where
  go := fun H σ ρ τ δ i h hi => by
    obtain ⟨vs, h1, h2, _⟩ := h.lstAt
    rw [enD_len] at hi
    exact walk_enum.goes i H (by omega) (SqL.of h1)
  stop := fun H σ ρ τ δ h => by
    obtain ⟨vs, h1, h2, _⟩ := h.lstAt
    rw [enD_len, ← h2]
    exact walk_enum.stops H (SqL.of h1)
  yld := fun H σ ρ τ δ i x H' d h hi y => by
    obtain ⟨vs, h1, h2, h3⟩ := h.lstAt
    obtain ⟨z, e1, rfl⟩ := enD_at hi
    have hlt : i < ds.length := by
      rcases Nat.lt_or_ge i ds.length with z | z
      · exact z
      · rw [List.getElem?_eq_none z] at e1; cases e1
    obtain ⟨T, x1, y1, rfl, hT, rfl, e2, e3⟩ := (walk_enum (K := K) (a := a) (xs := vs)).yields i H x H' (by omega) (SqL.of h1) y
    cases e2
    exact ((h3 i y1 z e3 e1).push (d := .int (i : Nat)) rfl).pair hT
theorem wEnum (ha : EOk K W ta ma) : IOk K W (iEnum K (tCons ta tNil)) (iE ma) := fun G H σ ρ τ δ R h w =>
  ha G H σ ρ τ δ _ h (ma.mono (fun s ρ1 w1 v H1 h1 => by
    obtain ⟨d, xs, rfl, e, q⟩ := asSeq_go w1
    unfold D.asL at e
    split at e
    · cases e
      obtain ⟨F, r, z⟩ := h1.top
      cases r with
      | lst h2 r => exact ⟨_, _, rfl, SqL.of (z.le _ _ h2), q _ _ _ _ rfl h1 walks_enum⟩
    · cases e) (fun _ _ z => z) w)
end
end Dl
namespace Dl
open PySem PySem.Spec PyProof.Rows L2
inductive Ag where
  | s (x : Sl) | l (i : Nat)
inductive Ags (σ : L2.St) : List V → List Ag → L2.St → List Sl → Prop
  | nil : Ags σ [] [] [] []
  | s {v : V} {vs : List V} {x : Sl} {ags : List Ag} {τs : L2.St} {δs : List Sl} : Ags σ vs ags τs δs → Ags σ (v :: vs) (.s x :: ags) (some v :: τs) (x :: δs)
  | l {v : V} {vs : List V} {i : Nat} {ags : List Ag} {τs : L2.St} {δs : List Sl} : σ[i]? = some (some v) → Ags σ vs ags τs δs → Ags σ (v :: vs) (.l i :: ags) τs δs
theorem Ags.len {σ : L2.St} {vs : List V} {ags : List Ag} {τs : L2.St} {δs : List Sl} (h : Ags σ vs ags τs δs) : τs.length = δs.length := by
  induction h with
  | nil => rfl
  | s _ ih => simp [ih]
  | l _ _ ih => exact ih
abbrev MB := M (List Ag)
def BOk (K : PySem.W.Frag) (W : WS) (t : TA) (m : MB) : Prop := ∀ (G : Ent) (H : Hp) (σ : L2.St) (ρ : Env) (τ : L2.St) (δ : List Sl) (Q : List V → Hp → Prop), Rel K G H σ ρ τ δ →
  m.wp ρ (fun ags ρ' => ∀ vs H' τs δs, Ags σ vs ags τs δs → Rel K G H' σ ρ' (τs ++ τ) (δs ++ δ) → Q vs H') (exQ K W G σ τ δ) → t σ H Q
def bNo : MB := M.ret []
def bCo (a : ME) (l : MB) : MB := a.bind fun s => l.bind fun ss => M.ret (.s s :: ss)
def Sl.lends : Sl → Bool
  | .ow _ _ => true
  | .le _ _ _ => true
  | .bx => true
  | .lb _ => true
  | _ => false
def bLe (i : Nat) (l : MB) : MB := ⟨fun ρ Q E => match ρ[i]? with
  | some s => match s.lends with
    | true => l.wp ρ (fun ss r => Q (.l i :: ss) r) E
    | false => False
  | none => False, fun {ρ Q Q' E E'} h h' w => by
    revert w
    split
    · split
      · exact fun w => l.mono (fun ss r z => h _ _ z) h' w
      · exact id
    · exact id⟩
section
variable {K : PySem.W.Frag} {W : WS} {ta tb tc : TE} {ma mb mc : ME} {tl : TA} {ml : MB}
theorem bNil : BOk K W tNil bNo := fun G H σ ρ τ δ Q h w => w [] H [] [] .nil h
theorem bCons (ha : EOk K W ta ma) (hl : BOk K W tl ml) : BOk K W (tCons ta tl) (bCo ma ml) := fun G H σ ρ τ δ Q h w =>
  ha G H σ ρ τ δ _ h (ma.mono (fun s1 ρ1 w1 v1 H1 h1 => hl G H1 σ ρ1 _ _ _ h1 (ml.mono (fun ss ρ2 w2 vs H2 τs δs ha h2 => w2 (v1 :: vs) H2 _ _ (.s ha) (Rel.rot ha.len h2)) (fun e ρ' z v H' q => z v H' q.drop2) w1)) (fun _ _ z => z) w)
theorem SlV.lends {F H : Hp} {o : Option V} {s : Sl} {f : List Addr} (h : SlV K F H o s f) (e : s.lends = true) : ∃ v, o = some v := by
  cases h <;> first | exact ⟨_, rfl⟩ | cases e
theorem bLent {i : Nat} (hl : BOk K W tl ml) : BOk K W (tCons (tVar i) tl) (bLe i ml) := fun G H σ ρ τ δ Q h w => by
  unfold bLe at w
  simp only at w
  split at w
  · rename_i s e
    split at w
    · rename_i el
      have : ∃ v, σ[i]? = some (some v) := by
        obtain ⟨F, f1, f2, g, ht, hs⟩ := h
        obtain ⟨o, l, f, r, e1, e2, h1, _⟩ := hs.at e
        obtain ⟨v, rfl⟩ := h1.lends el
        exact ⟨v, e2⟩
      obtain ⟨v, e1⟩ := this
      exact ⟨v, e1, hl G H σ ρ τ δ _ h (ml.mono (fun ss ρ2 w2 vs H2 τs δs ha h2 => w2 (v :: vs) H2 _ _ (.l e1 ha) h2) (fun _ _ z => z) w)⟩
    · exact w.elim
  · exact w.elim
end
def lendP : Env → List Ag → (List Sl → Env → Prop) → Prop
  | ρ, [], k => k [] ρ
  | ρ, .s (.sh d) :: ags, k => lendP ρ ags fun as r => k (.sh d :: as) r
  | ρ, .s (.ow s d) :: ags, k => ∀ v, lendP ρ ags fun as r => k (.le v s d :: as) r
  | _, .s _ :: _, _ => False
  | ρ, .l i :: ags, k => match ρ[i]? with
    | some (.ow s d) => ∀ v, lendP (ρ.set i .un) ags fun as r => k (.le v s d :: as) r
    | some (.le v s d) => lendP (ρ.set i .un) ags fun as r => k (.le v s d :: as) r
    | some .bx => ∀ v, lendP (ρ.set i .un) ags fun as r => k (.lb v :: as) r
    | some (.lb v) => lendP (ρ.set i .un) ags fun as r => k (.lb v :: as) r
    | _ => False
theorem lendP_mono : ∀ {ags : List Ag} {ρ : Env} {k k' : List Sl → Env → Prop}, (∀ as r, k as r → k' as r) → lendP ρ ags k → lendP ρ ags k'
  | [], ρ, k, k', h, w => h _ _ w
  | .s x :: ags, ρ, k, k', h, w => by
    cases x with
    | sh d => exact lendP_mono (ags := ags) (fun as r z => h _ _ z) w
    | ow s d => exact fun v => lendP_mono (ags := ags) (fun as r z => h _ _ z) (w v)
    | _ => exact False.elim w
  | .l i :: ags, ρ, k, k', h, w => by
    unfold lendP at w ⊢
    split at w
    · exact fun v => lendP_mono (ags := ags) (fun as r z => h _ _ z) (w v)
    · exact lendP_mono (ags := ags) (fun as r z => h _ _ z) w
    · exact fun v => lendP_mono (ags := ags) (fun as r z => h _ _ z) (w v)
    · exact lendP_mono (ags := ags) (fun as r z => h _ _ z) w
    · exact w.elim
def backOne : Option Sl → Sl → Option Sl
  | some (.ow _ _), .le _ s d => some (.ow s d)
  | some (.le v _ _), .le _ s d => some (.le v s d)
  | some .bx, .lb _ => some .bx
  | some (.lb v), .lb _ => some (.lb v)
  | some (.ow _ _), .sh d => some (.sh d)
  | some (.le _ _ _), .sh d => some (.sh d)
  | _, _ => none
def backP (ρ0 : Env) : List Ag → List Sl → Env → (Env → Prop) → Prop
  | [], _, ρ, k => k ρ
  | .s _ :: ags, _ :: as, ρ, k => backP ρ0 ags as ρ k
  | .l i :: ags, a :: as, ρ, k => match backOne ρ0[i]? a with
    | some s => backP ρ0 ags as (ρ.set i s) k
    | none => False
  | _ :: _, [], _, _ => False
theorem backP_mono {ρ0 : Env} : ∀ {ags : List Ag} {as : List Sl} {ρ : Env} {k k' : Env → Prop}, (∀ r, k r → k' r) → backP ρ0 ags as ρ k → backP ρ0 ags as ρ k'
  | [], _, _, _, _, h, w => h _ w
  | .s _ :: ags, _ :: as, _, _, _, h, w => backP_mono (ags := ags) (as := as) h w
  | .l i :: ags, a :: as, ρ, k, k', h, w => by
    unfold backP at w ⊢
    split at w
    · exact backP_mono (ags := ags) h w
    · exact w.elim
  | .s _ :: _, [], _, _, _, _, w => w
  | .l _ :: _, [], _, _, _, _, w => w
def callM (ds : M Sl) (dv : List D) (ags : List Ag) : ME := ⟨fun ρ Q E => lendP ρ ags fun as ρ1 => ds.wp (as ++ dv.map Sl.sh) (fun r as' => backP ρ ags as' ρ1 fun ρ2 => Q r ρ2) (fun er as' => backP ρ ags as' ρ1 fun ρ2 => E er ρ2),
  fun h h' w => lendP_mono (fun as r z => ds.mono (fun _ _ q => backP_mono (fun _ p => h _ _ p) q) (fun _ _ q => backP_mono (fun _ p => h' _ _ p) q) z) w⟩
def spOf (K : PySem.W.Frag) (ds : M Sl) : Sp := fun vs H Q E => ∃ (F : Hp) (as : List Sl) (fp : List Addr), Le F H ∧ Slots K F H (vs.map some) as fp ∧ fp.Nodup ∧ (∀ a ∈ fp, F a = none) ∧
  ds.wp as (fun r as' => ∀ v H', Rel K ⟨H, F, fp⟩ H' (vs.map some) as' [some v] [r] → Q v H') (fun er as' => ∀ v H', Rel K ⟨H, F, fp⟩ H' (vs.map some) as' [some v] [.sh er.d] → XE E H' (He.ga K (en er.c)) (ef er.c) v)
section
variable {K : PySem.W.Frag} {W : WS} {G : Ent} {F F' H H' : Hp} {σ : L2.St} {ρ : Env}
theorem Good.call {fA fR gs : List Addr} (g : Good G F H (fA ++ fR)) (c : Good ⟨H, F, fA⟩ F' H' gs) (here : ∀ a ∈ fR, H a ≠ none) : Good G F' H' (gs ++ fR) := by
  have dis := (List.nodup_append.mp g.nd).2.2
  refine ⟨c.sub, g.f0.trans c.f0, fun a e => ?_, fun a o e hn => ?_, fun a e => c.all a (g.all a e), fun a ha => ?_, fun a ha => ?_, ?_⟩
  · rcases c.fN a e with z | z | z
    · exact g.fN a z
    · refine .inr (.inl ?_)
      cases q : G.H a with
      | none => rfl
      | some o => exact absurd z (g.all a (by rw [q]; intro z; cases z))
    · exact .inr ((g.own a (List.mem_append_left _ z)).symm)
  · refine c.frm a o (g.frm a o e hn) fun z => ?_
    rcases g.own a (List.mem_append_left _ z) with q | q
    · exact hn q
    · rw [q] at e; cases e
  · rcases List.mem_append.mp ha with z | z
    · rcases c.own a z with q | q
      · exact g.own a (List.mem_append_left _ q)
      · refine .inr ?_
        cases q2 : G.H a with
        | none => rfl
        | some o => exact absurd q (g.all a (by rw [q2]; intro z; cases z))
    · exact g.own a (List.mem_append_right _ z)
  · rcases List.mem_append.mp ha with z | z
    · exact c.nf a z
    · cases q : F' a with
      | none => rfl
      | some o =>
        exfalso
        rcases c.fN a (by rw [q]; intro z; cases z) with p | p | p
        · exact p (g.nf a (List.mem_append_right _ z))
        · exact here a z p
        · exact dis a p a z rfl
  · refine List.nodup_append.mpr ⟨c.nd, (List.nodup_append.mp g.nd).2.1, fun a ha b hb e => ?_⟩
    subst e
    rcases c.own a ha with q | q
    · exact dis a q a hb rfl
    · exact here a hb q
theorem lend_out : ∀ {ags : List Ag} {vs : List V} {τs : L2.St} {δs : List Sl} {τ : L2.St} {δ : List Sl} {ρ : Env} {fT fR : List Addr} {k : List Sl → Env → Prop}, Ags σ vs ags τs δs → Slots K F H (τs ++ τ) (δs ++ δ) fT → Slots K F H σ ρ fR → lendP ρ ags k →
    ∃ as ρ1 fA fT' fR', k as ρ1 ∧ Slots K F H (vs.map some) as fA ∧ Slots K F H τ δ fT' ∧ Slots K F H σ ρ1 fR' ∧ (∀ a, (fA ++ (fT' ++ fR')).count a = (fT ++ fR).count a)
  | [], _, _, _, τ, δ, ρ, fT, fR, k, .nil, ht, hs, w => ⟨[], ρ, [], fT, fR, w, .nil, ht, hs, fun _ => rfl⟩
  | .s x :: ags, _, _, _, τ, δ, ρ, fT, fR, k, .s (v := v) ha, ht, hs, w => by
    cases x with
    | sh d =>
      cases ht with
      | cons h1 h2 =>
        rename_i f f'
        obtain ⟨as, ρ1, fA, fT', fR', q, k1, k2, k3, k4⟩ := lend_out ha h2 hs w
        refine ⟨_, ρ1, f ++ fA, fT', fR', q, .cons h1 k1, k2, k3, fun a => ?_⟩
        have := k4 a
        simp only [List.count_append] at this ⊢
        omega
    | ow s d =>
      cases ht with
      | @cons _ _ f f' _ _ h1 h2 =>
        cases h1 with
        | ow r =>
          obtain ⟨as, ρ1, fA, fT', fR', q, k1, k2, k3, k4⟩ := lend_out ha h2 hs (w v)
          refine ⟨_, ρ1, f ++ fA, fT', fR', q, .cons (.le r) k1, k2, k3, fun a => ?_⟩
          have := k4 a
          simp only [List.count_append] at this ⊢
          omega
    | _ => exact False.elim w
  | .l i :: ags, _, _, _, τ, δ, ρ, fT, fR, k, .l (v := v) e0 ha, ht, hs, w => by
    have key : ∀ (s : Sl) (s' : Sl), ρ[i]? = some s → (∀ f, SlV K F H (some v) s f → SlV K F H (some v) s' f) → lendP (ρ.set i .un) ags (fun as r => k (s' :: as) r) → ∃ as ρ1 fA fT' fR', k as ρ1 ∧ Slots K F H (v :: _ |>.map some) as fA ∧ Slots K F H τ δ fT' ∧ Slots K F H σ ρ1 fR' ∧ (∀ a, (fA ++ (fT' ++ fR')).count a = (fT ++ fR).count a) := fun s s' e hv w => by
      obtain ⟨o, l, f, r, e1, e2, h1, kk⟩ := hs.at e
      rw [e0] at e2
      cases e2
      have h2 := kk (some v) .un [] .un
      have eσ : σ.set i (some v) = σ := by
        apply List.ext_getElem?
        intro j
        by_cases hj : j = i
        · subst hj
          rw [e0]
          refine List.getElem?_set_self ?_
          rcases Nat.lt_or_ge j σ.length with z | z
          · exact z
          · rw [List.getElem?_eq_none z] at e0; cases e0
        · rw [List.getElem?_set_ne (Ne.symm hj)]
      rw [eσ] at h2
      obtain ⟨as, ρ1, fA, fT', fR', q, k1, k2, k3, k4⟩ := lend_out ha ht h2 w
      refine ⟨_, ρ1, f ++ fA, fT', fR', q, .cons (hv f h1) k1, k2, k3, fun a => ?_⟩
      have := k4 a
      subst e1
      simp only [List.count_append, List.count_nil] at this ⊢
      omega
    unfold lendP at w
    split at w
    · rename_i s d e
      exact key _ _ e (fun f z => by cases z with | ow r => exact .le r) (w v)
    · rename_i v' s d e
      exact key _ _ e (fun f z => z) w
    · rename_i e
      exact key _ _ e (fun f z => by cases z with | bx r => exact .lb r) (w v)
    · rename_i v' e
      exact key _ _ e (fun f z => z) w
    · exact w.elim
theorem lend_back {ρ0 : Env} (h0 : ∀ (i : Nat) (s : Sl) (v : V), ρ0[i]? = some s → σ[i]? = some (some v) → (∀ v' z d, s = .le v' z d → v' = v) ∧ (∀ v', s = .lb v' → v' = v)) : ∀ {ags : List Ag} {vs ws : List V} {τs : L2.St} {δs : List Sl} {as : List Sl} {ρ : Env} {fA fR : List Addr} {k : Env → Prop}, Ags σ vs ags τs δs → Slots K F H (vs.map some ++ ws.map some) as fA → Slots K F H σ ρ fR → backP ρ0 ags as ρ k →
    ∃ ρ2 g, k ρ2 ∧ Slots K F H σ ρ2 g ∧ ∀ a, g.count a ≤ (fA ++ fR).count a
  | [], _, _, _, _, as, ρ, fA, fR, k, .nil, hA, hs, w => ⟨ρ, fR, w, hs, fun a => by simp only [List.count_append]; omega⟩
  | .s x :: ags, _, _, _, _, as, ρ, fA, fR, k, .s ha, hA, hs, w => by
    cases hA with
    | cons h1 h2 =>
      obtain ⟨ρ2, g, q, k1, k2⟩ := lend_back h0 ha h2 hs w
      refine ⟨ρ2, g, q, k1, fun a => ?_⟩
      have := k2 a
      simp only [List.count_append] at this ⊢
      omega
  | .l i :: ags, _, _, _, _, as, ρ, fA, fR, k, .l (v := v) e0 ha, hA, hs, w => by
    cases hA with
    | cons h1 h2 =>
      rename_i f f' s
      unfold backP at w
      split at w
      · rename_i s2 e
        have hv : SlV K F H (some v) s2 f := by
          unfold backOne at e
          split at e
          · cases e; cases h1 with | le r => exact .ow r
          · rename_i v0 z0 d0 v1 z d e1
            cases e
            cases h1 with
            | le r =>
              obtain rfl := (h0 i _ v e1 e0).1 _ _ _ rfl
              exact .le r
          · cases e; cases h1 with | lb r => exact .bx r
          · rename_i v0 v1 e1
            cases e
            cases h1 with
            | lb r =>
              obtain rfl := (h0 i _ _ e1 e0).2 _ rfl
              exact .lb r
          · cases e; cases h1 with | sh r => exact .sh r
          · cases e; cases h1 with | sh r => exact .sh r
          · cases e
        have hlt : i < ρ.length := by
          rw [← hs.len]
          rcases Nat.lt_or_ge i σ.length with z | z
          · exact z
          · rw [List.getElem?_eq_none z] at e0; cases e0
        obtain ⟨o, l, f1, r, e1, e2, h3, kk⟩ := hs.at (i := i) (s := ρ[i]) (by rw [List.getElem?_eq_getElem hlt])
        rw [e0] at e2
        cases e2
        have h4 := kk (some v) s2 f hv
        have eσ : σ.set i (some v) = σ := by
          apply List.ext_getElem?
          intro j
          by_cases hj : j = i
          · subst hj
            rw [e0]
            exact List.getElem?_set_self (by rw [hs.len]; exact hlt)
          · rw [List.getElem?_set_ne (Ne.symm hj)]
        rw [eσ] at h4
        obtain ⟨ρ2, g, q, k1, k2⟩ := lend_back h0 ha h2 h4 w
        refine ⟨ρ2, g, q, k1, fun a => ?_⟩
        have := k2 a
        subst e1
        simp only [List.count_append] at this ⊢
        omega
      · exact w.elim
theorem Slots.same {fR : List Addr} (hs : Slots K F H σ ρ fR) {i : Nat} {s : Sl} {v : V} (e : ρ[i]? = some s) (e' : σ[i]? = some (some v)) : (∀ v' z d, s = .le v' z d → v' = v) ∧ (∀ v', s = .lb v' → v' = v) := by
  obtain ⟨o, l, f1, r, e1, e2, h3, kk⟩ := hs.at e
  rw [e'] at e2
  cases e2
  refine ⟨fun v' z d q => ?_, fun v' q => ?_⟩
  · subst q; cases h3; rfl
  · subst q; cases h3; rfl
theorem callCore {ds : M Sl} {dv : List D} {dvs : List V} {ags : List Ag} {vs : List V} {τs τ : L2.St} {δs δ : List Sl} {Q : VK} {E : Er → Env → Prop} {X : XK} (hA : Ags σ vs ags τs δs) (h : Rel K G H σ ρ (τs ++ τ) (δs ++ δ)) (hd : ∀ F, RepL K F dvs dv)
    (hE : ∀ er ρ', E er ρ' → ∀ v H', Rel K G H' σ ρ' (some v :: τ) (.sh er.d :: δ) → XE X H' (He.ga K (en er.c)) (ef er.c) v)
    (w : (callM ds dv ags).wp ρ (fun s ρ' => ∀ v H', Rel K G H' σ ρ' (some v :: τ) (s :: δ) → Q v H') E) : spOf K ds (vs ++ dvs) H Q X := by
  obtain ⟨F, fT, fR, g, ht, hs⟩ := h
  obtain ⟨as, ρ1, fA, fT', fR', q, k1, k2, k3, k4⟩ := lend_out hA ht hs w
  have g1 : Good G F H (fA ++ (fT' ++ fR')) := g.cnt fun a => Nat.le_of_eq (k4 a)
  have here : ∀ a ∈ fT' ++ fR', H a ≠ none := fun a ha => by
    rcases List.mem_append.mp ha with z | z
    · exact k2.here a z
    · exact k3.here a z
  have k5 : Slots K F H ((vs ++ dvs).map some) (as ++ dv.map Sl.sh) fA := by
    rw [List.map_append]
    have : Slots K F H (dvs.map some) (dv.map Sl.sh) [] := by
      have := RepL.slots (K := K) (F := F) (H := H) (τ := []) (δ := []) .nil (hd F)
      rwa [List.append_nil, List.append_nil] at this
    have := k1.app this
    rwa [List.append_nil] at this
  have fin : ∀ (r : Sl) (as' : List Sl) (k : Env → Prop) (v : V) (H' : Hp), backP ρ ags as' ρ1 k → Rel K ⟨H, F, fA⟩ H' ((vs ++ dvs).map some) as' [some v] [r] → ∃ ρ2, k ρ2 ∧ Rel K G H' σ ρ2 (some v :: τ) (r :: δ) := fun r as' k v H' wb hr => by
    obtain ⟨F', g1', g2', gg, hv, hvs⟩ := hr
    have G2 := g1.call gg here
    have hn : ∀ a ∈ fT' ++ fR', H' a = H a := fun a ha => by
      cases e : H a with
      | none => exact absurd e (here a ha)
      | some o => exact gg.frm a o e fun z => (List.nodup_append.mp g1.nd).2.2 a z a ha rfl
    have k2' := k2.mono (F' := F') (H' := H') gg.f0 fun a ha => hn a (List.mem_append_left _ ha)
    have k3' := k3.mono (F' := F') (H' := H') gg.f0 fun a ha => hn a (List.mem_append_right _ ha)
    rw [List.map_append] at hvs
    obtain ⟨ρ2, gb, q2, b1, b2⟩ := lend_back (fun i s v e e' => hs.same e e') hA hvs k3' wb
    refine ⟨ρ2, q2, F', g1' ++ fT', gb, G2.cnt fun a => ?_, ?_, b1⟩
    · have := b2 a
      simp only [List.count_append] at this ⊢
      omega
    · exact hv.app k2'
  refine ⟨F, _, fA, g1.sub, k5, (List.nodup_append.mp g1.nd).1, fun a ha => g1.nf a (List.mem_append_left _ ha), ds.mono (fun r as' wb v H' hr => ?_) (fun er as' wb v H' hr => ?_) q⟩
  · obtain ⟨ρ2, z, hr'⟩ := fin r as' _ v H' wb hr
    exact z v H' hr'
  · obtain ⟨ρ2, z, hr'⟩ := fin _ as' _ v H' wb hr
    exact hE er ρ2 z v H' hr'
def mCall (ds : M Sl) (dv : List D) (l : MB) : ME := l.bind (callM ds dv)
theorem eCall {ds : M Sl} {dv : List D} {dvs : List V} {tl : TA} {ml : MB} (hl : BOk K W tl ml) (hd : ∀ F, RepL K F dvs dv) : EOk K W (Cl.tF (fun vs H Q E => spOf K ds (vs ++ dvs) H Q E) W tl) (mCall ds dv ml) := fun G H σ ρ τ δ Q h w =>
  hl G H σ ρ τ δ _ h (ml.mono (fun ags ρ1 w1 vs H1 τs δs ha h1 => callCore ha h1 hd (fun er ρ' z => z) w1) (fun _ _ z => z) w)
def newM (c : Nat) (ds : M Sl) (dv : List D) (ags : List Ag) : ME := ⟨fun ρ Q E => ∀ v, lendP ρ ags fun as ρ1 => ds.wp (.le v (.oo []) (.obj c []) :: as ++ dv.map Sl.sh) (fun r as' => match r, as' with
    | .sh .non, .le _ z d :: as'' => backP ρ ags as'' ρ1 fun ρ2 => Q (.ow z d) ρ2
    | _, _ => False) (fun er as' => match as' with
    | _ :: as'' => backP ρ ags as'' ρ1 fun ρ2 => E er ρ2
    | _ => False),
  fun h h' w v => lendP_mono (fun as r z => ds.mono (fun _ _ q => by
    revert q
    split
    · exact fun q => backP_mono (fun _ p => h _ _ p) q
    · exact id) (fun _ _ q => by
    revert q
    split
    · exact fun q => backP_mono (fun _ p => h' _ _ p) q
    · exact id) z) (w v)⟩
@[irreducible] def newI (c : Nat) (ds : M Sl) (dv : List D) (ags : List Ag) : ME := newM c ds dv ags
theorem newI_eq {c : Nat} {ds : M Sl} {dv : List D} {ags : List Ag} : newI c ds dv ags = newM c ds dv ags := by unfold newI; rfl
def mMake (c : Nat) (ds : M Sl) (dv : List D) (l : MB) : ME := l.bind (newI c ds dv)
theorem eMake {ds : M Sl} {dv : List D} {dvs : List V} {tl : TA} {ml : MB} {c : Nat} (hl : BOk K W tl ml) (hd : ∀ F, RepL K F dvs dv) :
    EOk K W (Cl.tMk (He.ga K (cn c)) (fun vs H Q E => spOf K ds (vs ++ dvs) H Q E) W tl) (mMake c ds dv ml) := fun G H σ ρ τ δ Q h w =>
  hl G H σ ρ τ δ _ h (ml.mono (fun ags ρ1 w1 vs H1 τs δs hA h1 x dx hx hdx hne => by
    rw [newI_eq] at w1
    obtain ⟨F, fT, fR, g, ht, hs⟩ := h1
    obtain ⟨as, ρ2, fA, fT', fR', q, k1, k2, k3, k4⟩ := lend_out hA ht hs (w1 (.ref x))
    have g1 : Good G F H1 (fA ++ (fT' ++ fR')) := g.cnt fun a => Nat.le_of_eq (k4 a)
    have here0 : ∀ a ∈ fA ++ (fT' ++ fR'), H1 a ≠ none := fun a ha => by
      rcases List.mem_append.mp ha with z | z
      · exact k1.here a z
      rcases List.mem_append.mp z with z | z
      · exact k2.here a z
      · exact k3.here a z
    have g2 := g1.newO here0 hdx (.own x)
    have hx2 : upd H1 dx (.own x) x = none := by rw [upd_ne (Ne.symm hne)]; exact hx
    have here1 : ∀ a ∈ dx :: (fA ++ (fT' ++ fR')), upd H1 dx (.own x) a ≠ none := fun a ha => by
      rcases List.mem_cons.mp ha with rfl | ha
      · rw [upd_same]; intro z; cases z
      · rw [upd_ne fun z => here0 a ha (by rw [z]; exact hdx)]; exact here0 a ha
    have g3 := g2.newO here1 hx2 (.ins (He.ga K (cn c)) dx [])
    have hn : ∀ a ∈ fA ++ (fT' ++ fR'), upd (upd H1 dx (.own x)) x (.ins (He.ga K (cn c)) dx []) a = H1 a := fun a ha => by
      rw [upd_ne fun z => here0 a ha (by rw [z]; exact hx), upd_ne fun z => here0 a ha (by rw [z]; exact hdx)]
    generalize hH2 : upd (upd H1 dx (.own x)) x (.ins (He.ga K (cn c)) dx []) = H2 at *
    have g4 : Good G F H2 ((x :: dx :: fA) ++ (fT' ++ fR')) := g3
    have l1 := k1.mono (F' := F) (H' := H2) Le.rfl fun a ha => hn a (List.mem_append_left _ ha)
    have l2 := k2.mono (F' := F) (H' := H2) Le.rfl fun a ha => hn a (List.mem_append_right _ (List.mem_append_left _ ha))
    have l3 := k3.mono (F' := F) (H' := H2) Le.rfl fun a ha => hn a (List.mem_append_right _ (List.mem_append_right _ ha))
    have here : ∀ a ∈ fT' ++ fR', H2 a ≠ none := fun a ha => by
      rcases List.mem_append.mp ha with z | z
      · exact l2.here a z
      · exact l3.here a z
    have hox : Own K F H2 (.oo []) (.ref x) (.obj c []) [x, dx] := .oo (fs := []) (by rw [← hH2, upd_same]) (by rw [← hH2, upd_ne hne, upd_same]) rfl .nil
    have k5 : Slots K F H2 ((V.ref x :: vs ++ dvs).map some) (.le (.ref x) (.oo []) (.obj c []) :: as ++ dv.map Sl.sh) (x :: dx :: fA) := by
      have z : Slots K F H2 (dvs.map some) (dv.map Sl.sh) [] := by
        have := RepL.slots (K := K) (F := F) (H := H2) (τ := []) (δ := []) .nil (hd F)
        rwa [List.append_nil, List.append_nil] at this
      have := l1.app z
      rw [List.append_nil] at this
      rw [List.cons_append, List.cons_append, List.map_cons, List.map_append]
      exact .cons (f := [x, dx]) (.le hox) this
    have hs2 : ∀ (i : Nat) (s : Sl) (v : V), ρ1[i]? = some s → σ[i]? = some (some v) → (∀ v' z d, s = .le v' z d → v' = v) ∧ (∀ v', s = .lb v' → v' = v) := fun i s v e e' => hs.same e e'
    have fin : ∀ (s0 s0' r : Sl) (as' : List Sl) (k : Env → Prop) (u : Option V) (v : V) (H' : Hp), backP ρ1 ags as' ρ2 k → (∀ F f, SlV K F H' (some (.ref x)) s0 f → SlV K F H' u s0' f) → Rel K ⟨H2, F, x :: dx :: fA⟩ H' ((V.ref x :: vs ++ dvs).map some) (s0 :: as') [some v] [r] → ∃ ρ3, k ρ3 ∧ Rel K G H' σ ρ3 (u :: some v :: τ) (s0' :: r :: δ) := fun s0 s0' r as' k u v H' wb hs0 hr => by
      obtain ⟨F', g1', g2', gg, hv, hvs⟩ := hr
      have G2 := g4.call gg here
      have hn : ∀ a ∈ fT' ++ fR', H' a = H2 a := fun a ha => by
        cases e : H2 a with
        | none => exact absurd e (here a ha)
        | some o => exact gg.frm a o e fun z => (List.nodup_append.mp g4.nd).2.2 a z a ha rfl
      have k2' := l2.mono (F' := F') (H' := H') gg.f0 fun a ha => hn a (List.mem_append_left _ ha)
      have k3' := l3.mono (F' := F') (H' := H') gg.f0 fun a ha => hn a (List.mem_append_right _ ha)
      rw [List.cons_append, List.map_cons, List.map_append] at hvs
      cases hvs with
      | cons hx1 hvs =>
        rename_i fx fv
        obtain ⟨ρ3, gb, q2, b1, b2⟩ := lend_back hs2 hA hvs k3' wb
        refine ⟨ρ3, q2, F', fx ++ (g1' ++ fT'), gb, G2.cnt fun a => ?_, .cons (hs0 _ _ hx1) (hv.app k2'), b1⟩
        have := b2 a
        simp only [List.count_append] at this ⊢
        omega
    refine ⟨F, _, x :: dx :: fA, g4.sub, k5, (List.nodup_append.mp g4.nd).1, fun a ha => g4.nf a (List.mem_append_left _ ha), ds.mono (fun r as' wb v H' hr => ?_) (fun er as' wb v H' hr => ?_) q⟩
    · simp only at wb
      split at wb
      · rename_i v' z d as''
        obtain ⟨ρ3, z3, hr'⟩ := fin _ (.ow z d) _ as'' _ (some (.ref x)) v H' wb (fun F f z => by cases z with | le r => exact .ow r) hr
        obtain rfl := hr'.pop.topv (u := .non) rfl
        exact ⟨rfl, z3 _ _ hr'.drop2⟩
      · exact wb.elim
    · split at wb
      · rename_i s0 as''
        obtain ⟨ρ3, z3, hr'⟩ := fin s0 s0 _ as'' _ _ v H' wb (fun F f z => z) hr
        exact z3 v H' hr'.pop
      · exact wb.elim) (fun _ _ z => z) w)
end
end Dl
namespace Dl
open PySem PySem.Spec PyProof.Rows L2
def keepP : List Sl → Env → (List Sl → Prop) → Prop
  | [], _, k => k []
  | .sh d :: as, _ :: ρ, k => keepP as ρ fun l => k (.sh d :: l)
  | .le v _ _ :: as, .le v' s d :: ρ, k => v' = v ∧ keepP as ρ fun l => k (.le v s d :: l)
  | .lb v :: as, .lb v' :: ρ, k => v' = v ∧ keepP as ρ fun l => k (.lb v :: l)
  | _, _, _ => False
theorem keepP_mono : ∀ {as : List Sl} {ρ : Env} {k k' : List Sl → Prop}, (∀ l, k l → k' l) → keepP as ρ k → keepP as ρ k'
  | [], _, _, _, h, w => h _ w
  | a :: as, ρ, k, k', h, w => by
    unfold keepP at w ⊢
    split at w
    · cases ‹a :: as = []›
    · rename_i d as' s ρ' e
      cases e
      exact keepP_mono (as := as) (fun l z => h _ z) w
    · rename_i v z d as' v' z' d' ρ' e
      cases e
      exact ⟨w.1, keepP_mono (as := as) (fun l z => h _ z) w.2⟩
    · rename_i v as' v' ρ' e
      cases e
      exact ⟨w.1, keepP_mono (as := as) (fun l z => h _ z) w.2⟩
    · exact w.elim
def mends (as : List Sl) (Q : Sl → List Sl → Prop) (E : Er → List Sl → Prop) : MEnds := ⟨fun ρ => keepP as ρ (Q (.sh .non)), fun s ρ => keepP as ρ (Q s), fun _ => False, fun _ => False, fun er ρ => keepP as ρ (E er)⟩
def defM (n N : Nat) (m : MS) : M Sl := ⟨fun as Q E => match Nat.beq as.length n with
  | true => m.wp (as ++ List.replicate (N - n) .un) (mends as Q E)
  | false => False, fun {as Q Q' E E'} h h' w => by
    revert w
    split
    · exact fun w => m.mono (M := mends as Q E) (M' := mends as Q' E') ⟨fun r z => keepP_mono (fun l q => h _ _ q) z, fun s r z => keepP_mono (fun l q => h _ _ q) z, fun _ z => z, fun _ z => z, fun e r z => keepP_mono (fun l q => h' _ _ q) z⟩ w
    · exact id⟩
theorem defM_go {n N : Nat} {m : MS} {as : List Sl} {Q : Sl → List Sl → Prop} {E : Er → List Sl → Prop} (w : (defM n N m).wp as Q E) : as.length = n ∧ m.wp (as ++ List.replicate (N - n) .un) (mends as Q E) := by
  unfold defM at w
  simp only at w
  split at w
  · rename_i h
    exact ⟨Nat.eq_of_beq_eq_true h, w⟩
  · exact w.elim
section
variable {K : PySem.W.Frag} {F F' H H' : Hp}
theorem keep_back (l : Le F F') : ∀ {as : List Sl} {vs : List V} {σ : L2.St} {ρ : Env} {fp g : List Addr} {k : List Sl → Prop}, Slots K F H (vs.map some) as fp → Slots K F' H' σ ρ g → keepP as ρ k →
    ∃ as' g', k as' ∧ Slots K F' H' (vs.map some) as' g' ∧ ∀ a, g'.count a ≤ g.count a
  | [], vs, σ, ρ, fp, g, k, hA, hs, w => by
    cases vs with
    | nil => exact ⟨[], [], w, .nil, fun a => by simp⟩
    | cons v vs => cases hA
  | s :: as, vs, σ, ρ, fp, g, k, hA, hs, w => by
    cases vs with
    | nil => cases hA
    | cons v vs =>
      cases hA with
      | cons h1 h2 =>
        unfold keepP at w
        split at w
        · cases ‹s :: as = []›
        · rename_i d as' s' ρ' e
          cases e
          cases hs with
          | cons k1 k2 =>
            obtain ⟨as', g', q, b1, b2⟩ := keep_back l h2 k2 w
            cases h1 with
            | sh r =>
              refine ⟨_, g', q, .cons (f := []) (.sh (r.mono l)) b1, fun a => ?_⟩
              have := b2 a
              simp only [List.count_append] at this ⊢
              omega
        · rename_i v0 z d as' v' z' d' ρ' e
          cases e
          cases hs with
          | cons k1 k2 =>
            obtain ⟨as', g', q, b1, b2⟩ := keep_back l h2 k2 w.2
            have ev := w.1
            subst ev
            cases h1 with
            | le r =>
              cases k1 with
              | le r' =>
                refine ⟨_, _, q, .cons (.le r') b1, fun a => ?_⟩
                have := b2 a
                simp only [List.count_append] at this ⊢
                omega
        · rename_i v0 as' v' ρ' e
          cases e
          cases hs with
          | cons k1 k2 =>
            obtain ⟨as', g', q, b1, b2⟩ := keep_back l h2 k2 w.2
            have ev := w.1
            subst ev
            cases h1 with
            | lb r =>
              cases k1 with
              | lb r' =>
                refine ⟨_, _, q, .cons (.lb r') b1, fun a => ?_⟩
                have := b2 a
                simp only [List.count_append] at this ⊢
                omega
        · exact w.elim
theorem slots_none {n : Nat} : Slots K F H (List.replicate n none) (List.replicate n .un) [] := by
  induction n with
  | zero => exact .nil
  | succ n ih => exact .cons (f := []) .un ih
variable {P : Program} {w : World} {mg : Str → Option Value} {base : Heap} {x qual : Str} {params : Arguments} {body : List Stmt} {scope : Scope} {dvs : List V} {kws : List (Str × V)} {f : Addr} {fd : FuncData}
theorem spOf_len {ds : M Sl} {n : Nat} (hl : ∀ as Q E, ds.wp as Q E → as.length = n) : ∀ vs H Q E, spOf K ds vs H Q E → vs.length = n := fun vs H Q E ⟨F, as, fp, h1, h2, h3, h4, h5⟩ => by
  have := h2.len
  rw [List.length_map] at this
  rw [this]
  exact hl _ _ _ h5
theorem body_ok {ds : M Sl} {N ps : List Str} {m : MS} {t : TS} {vs : List V} {H : Hp} {Q : VK} {E : XK} (hm : ∀ as Q E, ds.wp as Q E → (defM ps.length N.length m).wp as Q E) (h : spOf K ds vs H Q E) (ht : SOk K (fun _ => E) t m) : t { nx := fun _ H' => Q .non H', rt := Q } (L2.start N vs) H := by
  obtain ⟨F, as, fp, h1, h2, h3, h4, h5⟩ := h
  obtain ⟨hn, w⟩ := defM_go (hm as _ _ h5)
  have hl : vs.length = as.length := by have := h2.len; rwa [List.length_map] at this
  have hR : Rel K ⟨H, F, fp⟩ H (L2.start N vs) (as ++ List.replicate (N.length - ps.length) .un) [] [] := by
    refine ⟨F, [], fp, ⟨h1, Le.rfl, fun a e => .inl e, fun a o e _ => e, fun a e => e, fun a ha => .inl ha, h4, h3⟩, .nil, ?_⟩
    unfold L2.start
    rw [hl, hn]
    have := h2.app (slots_none (K := K) (F := F) (H := H) (n := N.length - ps.length))
    rwa [List.append_nil] at this
  have fin : ∀ (s : Sl) (ρ : Env) (k : List Sl → Prop) (v : V) (σ : L2.St) (H' : Hp), keepP as ρ k → Rel K ⟨H, F, fp⟩ H' σ ρ [some v] [s] → ∃ as', k as' ∧ Rel K ⟨H, F, fp⟩ H' (vs.map some) as' [some v] [s] := fun s ρ k v σ H' wk hr => by
    obtain ⟨F', g1, g2, gg, ht, hs⟩ := hr
    obtain ⟨as', g', q, b1, b2⟩ := keep_back gg.f0 h2 hs wk
    refine ⟨as', q, F', g1, g', gg.cnt fun a => ?_, ht, b1⟩
    have := b2 a
    simp only [List.count_append]
    omega
  refine ht ⟨H, F, fp⟩ H _ _ [] [] _ (mends as _ _) hR ⟨fun σ ρ H' hr z => ?_, fun s ρ v σ H' hr z => ?_, fun σ ρ H' hr z => z.elim, fun σ ρ H' hr z => z.elim, fun σ er ρ z v H' hr => ?_⟩ w
  · obtain ⟨as', q, r⟩ := fin (.sh .non) ρ _ .non σ H' z (hr.push rfl)
    exact q _ _ r
  · obtain ⟨as', q, r⟩ := fin _ ρ _ v σ H' z hr
    exact q _ _ r
  · obtain ⟨as', q, r⟩ := fin _ ρ _ v σ H' z hr
    exact q _ _ r
theorem okD {ds : M Sl} {N ps : List Str} {k : Nat} {m : MS} (T : FunD K x qual params body scope dvs kws f fd) (S : FnScope N ps scope) (hl : ∀ as Q E, ds.wp as Q E → as.length = ps.length) (hm : ∀ as Q E, ds.wp as Q E → (defM ps.length N.length m).wp as Q E)
    (hbody : ∀ (cdv : Value) (A : Around) (outer : List PySem.Env) (s : Shared) (H : Hp) (E : XK), Room k (A.deeper (envOfC qual scope s.heap.objs.size f cdv)) → ∃ t, PSs (cxOf (L2.CX P w) P w K mg base N qual scope f cdv A outer s H E) body t ∧ SOk K (fun _ => E) t m) :
    FnOk P w K mg base (L2.CX P w) (k + 1) f fd ps (spOf K ds) :=
  T.ok S (spOf_len hl) fun cdv A outer s H vs Q E hr h => by
    obtain ⟨t, h1, h2⟩ := hbody cdv A outer s H E hr
    exact ⟨t, h1, body_ok hm h h2⟩
theorem defM_len {n N : Nat} {m : MS} : ∀ as Q E, (defM n N m).wp as Q E → as.length = n := fun _ _ _ w => (defM_go w).1
end
section
variable {K : PySem.W.Frag} {W : WS} {ta tb tc : TE} {ma mb mc : ME} {t u : TS} {m k : MS}
def sRaise (c : Nat) (a : ME) : MS := ⟨fun ρ M => a.wp ρ (fun s r => match s with
  | .sh d => M.ex ⟨c, d⟩ r
  | _ => False) M.ex, fun {ρ M M'} h w => a.mono (fun s r z => by
    revert z
    split
    · exact fun z => h.ex _ _ z
    · exact id) h.ex w⟩
theorem zRaise {c : Nat} {X : WX} (ha : EOk K (WE X) ta ma) (hf : ef c ≠ ("" : Str) := by decide +kernel) : SOk K (WE X) (tRaiseErr (He.ga K (en c)) (ef c) X (tCons ta tNil)) (sRaise c ma) := fun G H σ ρ τ δ D M h hi w =>
  ha G H σ ρ τ δ _ h (ma.mono (fun s ρ1 w1 v H1 h1 => by
    split at w1
    · exact ⟨v, rfl, fun d hd => (hi.ex σ _ ρ1 w1 v H1 h1).2 hf d hd⟩
    · exact w1.elim) (fun e ρ' z => hi.ex σ e ρ' z) w)
theorem Rel.clr {G : Ent} {H : Hp} {σ τ : L2.St} {ρ : Env} {δ : List Sl} {i : Nat} (h : Rel K G H σ ρ τ δ) : Rel K G H (σ.set i none) (ρ.set i .un) τ δ := by
  rcases Nat.lt_or_ge i ρ.length with z | z
  · obtain ⟨F, f1, f2, g, ht, hs⟩ := h
    exact Rel.set (o := none) (s := .un) ⟨F, f1, f2, g, .cons (f := []) .un ht, hs⟩ z
  · rw [List.set_eq_of_length_le z, List.set_eq_of_length_le (by rw [h.len.1]; exact z)]
    exact h
end
end Dl
namespace Dl
open PySem PySem.Spec PyProof.Rows L2
def wipeE (ρ : Env) : List Nat → Env
  | [] => ρ
  | v :: vs => (wipeE ρ vs).set v .un
theorem wipe_at {σ : L2.St} {j : Nat} : ∀ {vs : List Nat}, (wipe σ vs)[j]? = if j ∈ vs ∧ j < σ.length then some none else σ[j]?
  | [] => by simp [wipe]
  | v :: vs => by
    unfold wipe
    by_cases h : v = j
    · subst h
      by_cases hv : v < σ.length
      · rw [List.getElem?_set_self (by rw [wipe_length]; exact hv), if_pos ⟨List.mem_cons_self, hv⟩]
      · rw [List.getElem?_eq_none (by rw [List.length_set, wipe_length]; omega), if_neg (fun z => hv z.2), List.getElem?_eq_none (by omega)]
    · rw [List.getElem?_set_ne h, wipe_at]
      have : (j ∈ v :: vs) ↔ j ∈ vs := by simp [Ne.symm h]
      simp only [this]
theorem wipe_ext {σ σ' : L2.St} {vs : List Nat} (hl : σ'.length = σ.length) (h : ∀ j, j ∉ vs → σ'[j]? = σ[j]?) : wipe σ' vs = wipe σ vs := by
  apply List.ext_getElem?
  intro j
  rw [wipe_at, wipe_at, hl]
  by_cases hj : j ∈ vs
  · by_cases hlt : j < σ.length
    · rw [if_pos ⟨hj, hlt⟩, if_pos ⟨hj, hlt⟩]
    · rw [if_neg (fun z => hlt z.2), if_neg (fun z => hlt z.2), List.getElem?_eq_none (by omega), List.getElem?_eq_none (by omega)]
  · rw [if_neg (fun z => hj z.1), if_neg (fun z => hj z.1), h j hj]
theorem wipe_wipe {σ : L2.St} {vs : List Nat} : wipe (wipe σ vs) vs = wipe σ vs := wipe_ext (wipe_length _ _) fun j hj => by rw [wipe_at, if_neg (fun z => hj z.1)]
theorem wipe_set {σ : L2.St} {vs : List Nat} {i : Nat} {o : Option V} (hi : i ∈ vs) : wipe (σ.set i o) vs = wipe σ vs := wipe_ext (List.length_set) fun j hj => List.getElem?_set_ne (fun (z : i = j) => hj (by rw [← z]; exact hi))
def GW (vs : List Nat) (g : TG) : Prop := ∀ v σ H Q, g v σ H (fun σ' H' => wipe σ' vs = wipe σ vs → Q σ' H') → g v σ H Q
def GWs (vs : List Nat) (g : TGs) : Prop := ∀ us σ H Q, g us σ H (fun σ' H' => wipe σ' vs = wipe σ vs → Q σ' H') → g us σ H Q
theorem gw_name {vs : List Nat} {i : Nat} (hi : i ∈ vs) : GW vs (gName i) := fun v σ H Q h => h (wipe_set hi)
theorem gw_nil {vs : List Nat} : GWs vs gNil := fun us σ H Q h => ⟨h.1, h.2 rfl⟩
section
variable {K : PySem.W.Frag} {W W' : WS} {ta tb tc te : TE} {ma mb mc me : ME} {t u : TS} {m k : MS} {tA tt : TT} {mA mt : MT} {tl : TA} {ml : MA}
theorem gw_tup {vs : List Nat} {n : Nat} {g : TGs} (h : GWs vs g) : GW vs (gTup K n g) := fun v σ H Q ⟨a, xs, h1, h2, h3, h4⟩ => ⟨a, xs, h1, h2, h3, h _ _ _ _ h4⟩
def GMono (g : TG) : Prop := ∀ v σ H (Q Q' : L2.St → Hp → Prop), (∀ σ' H', Q σ' H' → Q' σ' H') → g v σ H Q → g v σ H Q'
def GsMono (g : TGs) : Prop := ∀ v σ H (Q Q' : L2.St → Hp → Prop), (∀ σ' H', Q σ' H' → Q' σ' H') → g v σ H Q → g v σ H Q'
theorem gm_name {i : Nat} : GMono (gName i) := fun v σ H Q Q' h w => h _ _ w
theorem gm_nil : GsMono gNil := fun v σ H Q Q' h w => ⟨w.1, h _ _ w.2⟩
theorem gm_cons {g : TG} {gs : TGs} (h1 : GMono g) (h2 : GsMono gs) : GsMono (gCons g gs) := fun v σ H Q Q' h ⟨x, r, e, w⟩ => ⟨x, r, e, h1 _ _ _ _ _ (fun σ' H' z => h2 _ _ _ _ _ h z) w⟩
theorem gm_tup {n : Nat} {gs : TGs} (h : GsMono gs) : GMono (gTup K n gs) := fun v σ H Q Q' hq ⟨a, xs, e1, e2, e3, w⟩ => ⟨a, xs, e1, e2, e3, h _ _ _ _ _ hq w⟩
theorem gw_cons {vs : List Nat} {g : TG} {gs : TGs} (hm : GMono g) (h1 : GW vs g) (hms : GsMono gs) (h2 : GWs vs gs) : GWs vs (gCons g gs) := fun us σ H Q ⟨x, r, e, w⟩ => ⟨x, r, e, h1 _ _ _ _ (hm _ _ _ _ _ (fun σ' H' z ez => h2 _ _ _ _ (hms _ _ _ _ _ (fun σ2 H2 q e2 => q (e2.trans ez)) z)) w)⟩
theorem Slots.unAt {F H : Hp} {σ : L2.St} {ρ : Env} {fp : List Addr} {i : Nat} {o o' : Option V} (h : Slots K F H (σ.set i o) ρ fp) (e : ρ[i]? = some .un) : Slots K F H (σ.set i o') ρ fp := by
  obtain ⟨o1, l, f, r, e1, e2, h1, k⟩ := h.at e
  have : f = [] := by cases h1; rfl
  subst this
  have := k o' .un [] .un
  rw [List.set_set] at this
  have eρ : ρ.set i .un = ρ := by
    apply List.ext_getElem?
    intro j
    by_cases hj : j = i
    · subst hj
      rw [e]
      refine List.getElem?_set_self ?_
      rcases Nat.lt_or_ge j ρ.length with z | z
      · exact z
      · rw [List.getElem?_eq_none z] at e; cases e
    · rw [List.getElem?_set_ne (Ne.symm hj)]
  rw [eρ, ← e1] at this
  exact this
theorem wipeE_len (ρ : Env) : ∀ vs : List Nat, (wipeE ρ vs).length = ρ.length
  | [] => rfl
  | v :: vs => by unfold wipeE; rw [List.length_set, wipeE_len ρ vs]
theorem wipeE_un {ρ : Env} {j : Nat} : ∀ {vs : List Nat}, j ∈ vs → j < ρ.length → (wipeE ρ vs)[j]? = some .un
  | v :: vs, h, hl => by
    unfold wipeE
    by_cases e : v = j
    · subst e; exact List.getElem?_set_self (by rw [wipeE_len]; exact hl)
    · rw [List.getElem?_set_ne e]
      exact wipeE_un ((List.mem_cons.mp h).resolve_left (Ne.symm e)) hl
theorem Slots.unwipe {F H : Hp} {σ : L2.St} {ρ : Env} {fp : List Addr} : ∀ {vs : List Nat}, (∀ v ∈ vs, v < ρ.length → ρ[v]? = some .un) → Slots K F H (wipe σ vs) ρ fp → Slots K F H σ ρ fp
  | [], _, h => h
  | v :: vs, hu, h => by
    unfold wipe at h
    refine Slots.unwipe (vs := vs) (fun v' hv => hu v' (List.mem_cons_of_mem _ hv)) ?_
    rcases Nat.lt_or_ge v ρ.length with z | z
    · have := h.unAt (o' := (wipe σ vs)[v]?.getD none) (hu v List.mem_cons_self z)
      have e : (wipe σ vs).set v ((wipe σ vs)[v]?.getD none) = wipe σ vs := by
        have hl := h.len
        rw [List.length_set] at hl
        apply List.ext_getElem?
        intro j
        by_cases hj : j = v
        · subst hj
          rw [List.getElem?_set_self (by omega), List.getElem?_eq_getElem (by omega : j < (wipe σ vs).length)]
          rfl
        · rw [List.getElem?_set_ne (Ne.symm hj)]
      rwa [e] at this
    · rw [List.set_eq_of_length_le (by have hl := h.len; rw [List.length_set] at hl; omega)] at h
      exact h
theorem Rel.wipe {G : Ent} {H : Hp} {σ τ : L2.St} {ρ : Env} {δ : List Sl} (h : Rel K G H σ ρ τ δ) : ∀ vs : List Nat, Rel K G H (L2.wipe σ vs) (wipeE ρ vs) τ δ
  | [] => h
  | v :: vs => (Rel.wipe h vs).clr
theorem Rel.unwipe {G : Ent} {H : Hp} {σ σ2 τ : L2.St} {ρ : Env} {δ : List Sl} {vs : List Nat} (h : Rel K G H σ2 ρ τ δ) (e : L2.wipe σ2 vs = L2.wipe σ vs) : Rel K G H σ (wipeE ρ vs) τ δ := by
  have h2 := h.wipe vs
  rw [e] at h2
  obtain ⟨F, f1, f2, g, ht, hs⟩ := h2
  exact ⟨F, f1, f2, g, ht, hs.unwipe fun v hv hl => wipeE_un hv (by rwa [wipeE_len] at hl)⟩
theorem Rel.unrot {G : Ent} {H : Hp} {σ τ : L2.St} {ρ : Env} {δ : List Sl} {o : Option V} {s : Sl} {τ' : L2.St} {δ' : List Sl} (e : τ'.length = δ'.length) (h : Rel K G H σ ρ (o :: (τ' ++ τ)) (s :: (δ' ++ δ))) : Rel K G H σ ρ (τ' ++ o :: τ) (δ' ++ s :: δ) := by
  obtain ⟨F, f1, f2, g, ht, hs⟩ := h
  cases ht with
  | cons h1 h2 =>
    obtain ⟨fa, fb, rfl, h3, h4⟩ := h2.split e
    exact ⟨F, _, f2, g.cnt (by intro a; simp only [List.count_append]; omega), h3.app (.cons h1 h4), hs⟩
theorem Rel.grow {G : Ent} {H : Hp} {σ τ : L2.St} {ρ : Env} {δ : List Sl} {D0 : Addr} {y : V} {x : D} {acc : List D} (h : Rel K G H σ ρ (some y :: some (.ref D0) :: τ) (.sh x :: .ow (.ol .fr) (.lst acc) :: δ)) :
    ∃ vs, H D0 = some (.lst vs) ∧ vs.length = acc.length ∧ Rel K G (upd H D0 (.lst (vs ++ [y]))) σ ρ (some (.ref D0) :: τ) (.ow (.ol .fr) (.lst (acc ++ [x])) :: δ) := by
  obtain ⟨F, f1, f2, g, ht, hs⟩ := h
  cases ht with
  | cons h1 h2 =>
    cases h1 with
    | sh r =>
      cases h2 with
      | cons h3 h4 =>
        cases h3 with
        | ow q =>
          cases q with
          | @ol _ _ vs _ fp hD rl =>
            rename_i fb
            obtain ⟨rl', rfl⟩ := rl.rep
            have g' : Good G F H (D0 :: (fb ++ f2)) := g
            have hne : ∀ a ∈ fb ++ f2, a ≠ D0 := fun a ha z => (List.nodup_cons.mp g'.nd).1 (z ▸ ha)
            refine ⟨vs, hD, rl'.len, F, D0 :: fb, f2, g'.mut (by simp) _, .cons (f := [D0]) (.ow (.ol upd_same (rl'.app (.cons r .nil)).own)) (h4.mono Le.rfl fun a ha => upd_ne (hne a (List.mem_append_left _ ha))), hs.mono Le.rfl fun a ha => upd_ne (hne a (List.mem_append_right _ ha))⟩
def lcM (vs : List Nat) (g : MG) (c : MT) (e : ME) : List D → List D → Env → (List D → Env → Prop) → (Er → Env → Prop) → Prop
  | [], acc, ρ, Q, _ => Q acc ρ
  | d :: ds, acc, ρ, Q, E => (g (.sh d)).wp (wipeE ρ vs) (fun _ r1 => c.wp r1 (fun b r2 => if b = true then e.wp r2 (fun s r3 => match s with
      | .sh x => acc.length < sizeLine ∧ lcM vs g c e ds (acc ++ [x]) (wipeE r3 vs) Q E
      | _ => False) (fun er r => E er (wipeE r vs)) else lcM vs g c e ds acc (wipeE r2 vs) Q E) (fun er r => E er (wipeE r vs))) (fun _ _ => False)
theorem lcM_mono {vs : List Nat} {g : MG} {c : MT} {e : ME} {Q Q' : List D → Env → Prop} {E E' : Er → Env → Prop} (h : ∀ l r, Q l r → Q' l r) (h' : ∀ er r, E er r → E' er r) : ∀ {ds acc : List D} {ρ : Env}, lcM vs g c e ds acc ρ Q E → lcM vs g c e ds acc ρ Q' E'
  | [], acc, ρ, w => h _ _ w
  | d :: ds, acc, ρ, w => (g (.sh d)).mono (fun _ r1 w1 => c.mono (fun b r2 w2 => by
      cases b with
      | true =>
        refine e.mono (fun s r3 w3 => ?_) (fun er r z => h' _ _ z) w2
        revert w3
        split
        · exact fun w3 => ⟨w3.1, lcM_mono h h' w3.2⟩
        · exact id
      | false => exact lcM_mono h h' w2) (fun er r z => h' _ _ z) w1) (fun _ _ z => z) w
def mLc0 (vs : List Nat) (i : MI) (g : MG) (c : MT) (e : ME) : ME := ⟨fun ρ Q E => i.wp ρ (fun ds r => lcM vs g c e ds [] r (fun acc r => Q (.ow (.ol .fr) (.lst acc)) r) (fun _ _ => False)) E, fun h h' w => i.mono (fun ds r z => lcM_mono (fun _ _ q => h _ _ q) (fun _ _ q => q) z) h' w⟩
theorem lc_core_go {J : It} {g : TG} {mg : MG} {vs : List Nat} {E1 : Er → Env → Prop} {G : Ent} {H1 : Hp} {σ τ τ' : L2.St} {ρ1 : Env} {δ δ' : List Sl} {ds : List D} {Q : VK} (hE : ∀ er r, E1 er r → ∀ v H', Rel K G H' σ r (some v :: τ) (.sh er.d :: δ) → ∀ σ2, XE (W' σ2) H' (He.ga K (en er.c)) (ef er.c) v)
    (hw : GW vs g) (hgm : GMono g) (hg : GOk K g mg) (hc : TOk K W' tt mt) (he : EOk K W' te me) (el : τ'.length = δ'.length) (h1 : Rel K G H1 σ ρ1 (τ' ++ τ) (δ' ++ δ)) (hwk : Walks K G J ds τ' δ')
    (w1 : lcM vs mg mt me ds [] ρ1 (fun acc r => ∀ v H', Rel K G H' σ r (some v :: τ) (.ow (.ol .fr) (.lst acc) :: δ) → Q v H') E1) (A0 : Addr) (hD : H1 A0 = none) :
    ∃ W : Nat → Nat → Hp → Prop, (∃ m, W 0 m (upd H1 A0 (.lst []))) ∧ ∀ i m H, W i m H →
      (J.stop i H ∧ Q (.ref A0) H) ∨ (J.go i H ∧ ∃ Nx : Hp → Prop, (∀ H', Nx H' → ∃ m', m' < m ∧ W (i + 1) m' H') ∧ ∀ x H', J.yld i H x H' → g x (L2.wipe σ vs) H' fun σ2 H2 => L2.wipe σ2 vs = L2.wipe σ vs ∧ tt σ2 H2 fun b H3 =>
        if b = true then te σ2 H3 fun y H4 => ∃ acc, H4 A0 = some (.lst acc) ∧ acc.length < sizeLine ∧ Nx (upd H4 A0 (.lst (acc ++ [y]))) else Nx H3) := by
  have start : Rel K G (upd H1 A0 (.lst [])) σ ρ1 (τ' ++ some (.ref A0) :: τ) (δ' ++ .ow (.ol .fr) (.lst []) :: δ) := by
    have := Rel.lst (K := K) (vs := []) (ds := []) hD rfl h1
    exact Rel.unrot el this
  refine ⟨fun i n H' => n = ds.length - i ∧ i ≤ ds.length ∧ ∃ ρ' acc, Rel K G H' σ ρ' (τ' ++ some (.ref A0) :: τ) (δ' ++ .ow (.ol .fr) (.lst acc) :: δ) ∧ lcM vs mg mt me (ds.drop i) acc ρ' (fun acc r => ∀ v H', Rel K G H' σ r (some v :: τ) (.ow (.ol .fr) (.lst acc) :: δ) → Q v H') E1, ⟨_, rfl, Nat.zero_le _, ρ1, [], start, w1⟩, ?_⟩
  rintro i n H' ⟨rfl, hle, ρ', acc, h2, w2⟩
  by_cases hlt : i < ds.length
  · have hd : ds.drop i = ds[i] :: ds.drop (i + 1) := List.drop_eq_getElem_cons hlt
    rw [hd] at w2
    refine .inr ⟨hwk.go H' σ ρ' _ _ i h2 hlt, fun H2 => ∃ ρ2 acc, Rel K G H2 σ ρ2 (τ' ++ some (.ref A0) :: τ) (δ' ++ .ow (.ol .fr) (.lst acc) :: δ) ∧ lcM vs mg mt me (ds.drop (i + 1)) acc ρ2 (fun acc r => ∀ v H', Rel K G H' σ r (some v :: τ) (.ow (.ol .fr) (.lst acc) :: δ) → Q v H') E1, fun H2 ⟨ρ2, acc2, h3, w3⟩ => ⟨_, by omega, rfl, hlt, ρ2, acc2, h3, w3⟩, fun x H2 y => ?_⟩
    have h3 := hwk.yld H' σ ρ' _ _ i x H2 ds[i] h2 (List.getElem?_eq_getElem hlt) y
    refine hw _ _ _ _ (hg G H2 _ _ _ _ x _ _ (h3.wipe vs) ((mg _).mono (fun _ ρ3 w3 σ3 H3 h4 ew => ?_) (fun _ _ z => z) w2))
    rw [wipe_wipe] at ew
    have drop : ∀ {v : V} {d : D} {ρx : Env} {Hx : Hp} {σx : L2.St}, L2.wipe σx vs = L2.wipe σ vs → Rel K G Hx σx ρx (some v :: (τ' ++ some (.ref A0) :: τ)) (.sh d :: (δ' ++ .ow (.ol .fr) (.lst acc) :: δ)) → Rel K G Hx σ (wipeE ρx vs) (some v :: τ) (.sh d :: δ) := fun ew q => (Rel.dropN el q).drop2.unwipe ew
    refine ⟨ew, hc G H3 σ3 ρ3 _ _ _ h4 (mt.mono (fun b ρ4 w4 H4 h5 => ?_) (fun er ρx z v Hx q => hE _ _ z v Hx (drop ew q) _) w3)⟩
    cases b with
    | false => exact ⟨_, acc, h5.unwipe ew, w4⟩
    | true =>
      refine he G H4 σ3 ρ4 _ _ _ h5 (me.mono (fun s ρ5 w5 v H5 h6 => ?_) (fun er ρx z v Hx q => hE _ _ z v Hx (drop ew q) _) w4)
      split at w5
      · rename_i xd
        have h7 : Rel K G H5 σ3 ρ5 (some v :: some (.ref A0) :: (τ' ++ τ)) (.sh xd :: .ow (.ol .fr) (.lst acc) :: (δ' ++ δ)) := (Rel.rot (τ' := some v :: τ') (δ' := .sh xd :: δ') (by simp [el]) h6).swap
        obtain ⟨us, e1, e2, h8⟩ := h7.grow
        refine ⟨us, e1, by rw [e2]; exact w5.1, _, _, (Rel.unrot el h8).unwipe ew, w5.2⟩
      · exact w5.elim
  · have e : i = ds.length := by omega
    subst e
    rw [List.drop_length] at w2
    refine .inl ⟨hwk.stop H' σ ρ' _ _ h2, w2 _ _ ?_⟩
    exact Rel.dropN el (Rel.rot el h2)
theorem lc_go {wi : TI} {mi : MI} {g : TG} {mg : MG} {vs : List Nat} {E0 : Ent → L2.St → L2.St → List Sl → Er → Env → Prop} (hE : ∀ G σ τ δ er r, E0 G σ τ δ er r → ∀ v H', Rel K G H' σ r (some v :: τ) (.sh er.d :: δ) → ∀ σ2, XE (W' σ2) H' (He.ga K (en er.c)) (ef er.c) v)
    (hi : IOk K W wi mi) (hw : GW vs g) (hgm : GMono g) (hg : GOk K g mg) (hc : TOk K W' tt mt) (he : EOk K W' te me) (G : Ent) (H : Hp) (σ : L2.St) (ρ : Env) (τ : L2.St) (δ : List Sl) (Q : VK) (h : Rel K G H σ ρ τ δ)
    (w : mi.wp ρ (fun ds r => lcM vs mg mt me ds [] r (fun acc r => ∀ v H', Rel K G H' σ r (some v :: τ) (.ow (.ol .fr) (.lst acc) :: δ) → Q v H') (E0 G σ τ δ)) (exQ K W G σ τ δ)) : tLc wi g tt te vs σ H Q :=
  hi G H σ ρ τ δ _ h (mi.mono (fun ds ρ1 w1 J H1 τ' δ' el h1 hwk A0 hD => lc_core_go (hE G σ τ δ) hw hgm hg hc he el h1 hwk w1 A0 hD) (fun _ _ z => z) w)
theorem eLc0 {wi : TI} {mi : MI} {g : TG} {mg : MG} {vs : List Nat} (hi : IOk K W wi mi) (hw : GW vs g) (hgm : GMono g) (hg : GOk K g mg) (hc : TOk K (fun _ _ _ _ => False) tt mt) (he : EOk K (fun _ _ _ _ => False) te me) : EOk K W (tLc wi g tt te vs) (mLc0 vs mi mg mt me) := fun G H σ ρ τ δ Q h w =>
  lc_go (W' := fun _ _ _ _ => False) (E0 := fun _ _ _ _ _ _ => False) (fun _ _ _ _ _ _ z => z.elim) hi hw hgm hg hc he G H σ ρ τ δ Q h w
def mYes : MT := M.ret true
theorem tYes' : TOk K W tYes mYes := fun G H σ ρ τ δ Q h w => w H h
end
end Dl
namespace Dl
open PySem PySem.Spec PyProof.Rows L2
def Sl.own : Sl → Option (Sh × D)
  | .ow z d => some (z, d)
  | .le _ z d => some (z, d)
  | _ => none
def Sl.put : Sl → Sh → D → Sl
  | .le v _ _, z, d => .le v z d
  | _, z, d => .ow z d
section
variable {K : PySem.W.Frag} {W W' : WS} {ta tb tc te tn : TE} {ma mb mc me mn : ME} {t u : TS} {m k : MS} {tA tt : TT} {mA mt : MT} {tl : TA} {ml : MA} {G : Ent} {F H H' : Hp} {σ τ : L2.St} {ρ : Env} {δ : List Sl}
theorem SlV.owns {o : Option V} {s : Sl} {f : List Addr} {z : Sh} {d : D} (h : SlV K F H o s f) (e : s.own = some (z, d)) : ∃ v, o = some v ∧ Own K F H z v d f ∧ ∀ F' H' z' d' f', Own K F' H' z' v d' f' → SlV K F' H' o (s.put z' d') f' := by
  cases h with
  | ow r => cases e; exact ⟨_, rfl, r, fun _ _ _ _ _ q => .ow q⟩
  | le r => cases e; exact ⟨_, rfl, r, fun _ _ _ _ _ q => .le q⟩
  | _ => cases e
theorem set_same {α : Type} {l : List α} {i : Nat} {x : α} (h : l[i]? = some x) : l.set i x = l := by
  apply List.ext_getElem?
  intro j
  by_cases hj : j = i
  · subst hj
    rw [h]
    refine List.getElem?_set_self ?_
    rcases Nat.lt_or_ge j l.length with z | z
    · exact z
    · rw [List.getElem?_eq_none z] at h; cases h
  · rw [List.getElem?_set_ne (Ne.symm hj)]
theorem Rel.own {i : Nat} {s : Sl} {z : Sh} {d : D} (h : Rel K G H σ ρ τ δ) (e : ρ[i]? = some s) (eo : s.own = some (z, d)) : ∃ F f1 v f, Slots K F H τ δ f1 ∧ Le F H ∧ σ[i]? = some (some v) ∧ Own K F H z v d f ∧ (∀ u x, Rep K F u x → Rel K G H σ ρ (some u :: τ) (.sh x :: δ)) ∧
    (∀ a o z' d' f', a ∈ f → Own K F (upd H a o) z' v d' f' → (∀ b, f'.count b ≤ f.count b) → Rel K G (upd H a o) σ (ρ.set i (s.put z' d')) τ δ) := by
  obtain ⟨F, f1, f2, g, ht, hs⟩ := h
  obtain ⟨o, l, f, r, e1, e2, h1, k⟩ := hs.at e
  obtain ⟨v, rfl, q, kk⟩ := h1.owns eo
  subst e1
  refine ⟨F, f1, v, f, ht, g.sub, e2, q, fun u x r => ⟨F, f1, _, g, .cons (f := []) (.sh r) ht, hs⟩, fun a o z' d' f' ha q' hc => ?_⟩
  have hnd : ∀ b ∈ f1 ++ (l ++ r), b ≠ a := fun b hb eb => by
    subst eb
    have c1 := List.nodup_iff_count.mp g.nd b
    have c2 := List.count_pos_iff.mpr ha
    have c3 := List.count_pos_iff.mpr hb
    simp only [List.count_append] at c1 c3
    omega
  have g1 := g.mut (a := a) (List.mem_append_right _ (List.mem_append_right _ (List.mem_append_left _ ha))) o
  have h0 := (k (some v) .un [] .un).mono (F' := F) (H' := upd H a o) Le.rfl fun b hb => upd_ne (hnd b (List.mem_append_right _ (by simpa using hb)))
  rw [set_same e2] at h0
  have hlt : i < ρ.length := by
    rcases Nat.lt_or_ge i ρ.length with z | z
    · exact z
    · rw [List.getElem?_eq_none z] at e; cases e
  obtain ⟨o2, l2, f2, r2, e12, e22, h12, k2⟩ := h0.at (i := i) (s := .un) (by rw [List.getElem?_set_self hlt])
  have : f2 = [] := by cases h12; rfl
  subst this
  have h3 := k2 (some v) _ f' (kk F (upd H a o) z' d' f' q')
  rw [set_same e2, List.set_set] at h3
  refine ⟨F, f1, _, g1.cnt fun b => ?_, ht.mono Le.rfl fun b hb => upd_ne (hnd b (List.mem_append_left _ hb)), h3⟩
  have c1 := hc b
  have c2 : (l ++ ([] ++ r)).count b = (l2 ++ ([] ++ r2)).count b := by rw [e12]
  simp only [List.count_append, List.count_nil] at c1 c2 ⊢
  omega
def sp_take : Sp := fun vs H Q _ => ∃ (b c : Addr) (n : Int), vs = [.ref b, .int n] ∧ Bx H b c ∧ 0 < n ∧ n.natAbs < 2 ^ 9000 ∧ ∀ (k : Int) (o : HO), 0 ≤ k → k < n → Bx (upd H b o) b c → Q (.int k) (upd H b o)
def Sl.isBx : Sl → Bool
  | .bx => true
  | .lb _ => true
  | _ => false
def atBx {α : Type} (i : Nat) (m : M α) : M α := ⟨fun ρ Q E => match ρ[i]? with
  | some .bx => m.wp ρ Q E
  | some (.lb _) => m.wp ρ Q E
  | _ => False, fun {ρ Q Q' E E'} h h' w => by
    revert w
    split
    · exact fun w => m.mono h h' w
    · exact fun w => m.mono h h' w
    · exact id⟩
theorem atBx_go {α : Type} {i : Nat} {m : M α} {ρ : Env} {Q : α → Env → Prop} {E : Er → Env → Prop} (w : (atBx i m).wp ρ Q E) : ∃ s, ρ[i]? = some s ∧ s.isBx = true ∧ m.wp ρ Q E := by
  unfold atBx at w
  simp only at w
  split at w
  · exact ⟨_, by assumption, rfl, w⟩
  · exact ⟨_, by assumption, rfl, w⟩
  · exact w.elim
def drawM : Sl → ME := fun s => ⟨fun ρ Q _ => match s with
  | .sh (.int n) => (0 < n ∧ n.natAbs < 2 ^ 9000) ∧ ∀ k : Int, 0 ≤ k → k < n → Q (.sh (.int k)) ρ
  | _ => False, fun {ρ Q Q' E E'} h _ w => by
    revert w
    split
    · exact fun w => ⟨w.1, fun k h1 h2 => h _ _ (w.2 k h1 h2)⟩
    · exact id⟩
def mTake (i : Nat) (n : ME) : ME := atBx i (n.bind fun s => atBx i (drawM s))
theorem Rel.box {i : Nat} {s : Sl} (h : Rel K G H σ ρ τ δ) (e : ρ[i]? = some s) (eb : s.isBx = true) : ∃ b c, σ[i]? = some (some (.ref b)) ∧ Bx H b c ∧ ∀ o, Bx (upd H b o) b c → Rel K G (upd H b o) σ ρ τ δ := by
  obtain ⟨F, f1, f2, g, ht, hs⟩ := h
  obtain ⟨o, l, f, r, e1, e2, h1, k⟩ := hs.at e
  have key : ∃ b c, o = some (.ref b) ∧ f = [b, c] ∧ Bx H b c ∧ ∀ H', Bx H' b c → SlV K F H' o s f := by
    cases h1 with
    | @bx b c r => exact ⟨b, c, rfl, rfl, r, fun _ q => .bx q⟩
    | @lb b c r => exact ⟨b, c, rfl, rfl, r, fun _ q => .lb q⟩
    | _ => cases eb
  obtain ⟨b, c, rfl, rfl, hB, kk⟩ := key
  subst e1
  refine ⟨b, c, e2, hB, fun o hB' => ?_⟩
  have hnd : ∀ a ∈ f1 ++ (l ++ r), a ≠ b := fun a ha eb => by
    subst eb
    have c1 := List.nodup_iff_count.mp g.nd a
    have c3 := List.count_pos_iff.mpr ha
    simp only [List.count_append, List.count_cons, beq_self_eq_true, if_true] at c1 c3
    omega
  have g1 := g.mut (a := b) (by simp) o
  have h0 := (k (some (.ref b)) .un [] .un).mono (F' := F) (H' := upd H b o) Le.rfl fun a ha => upd_ne (hnd a (List.mem_append_right _ (by simpa using ha)))
  rw [set_same e2] at h0
  have hlt : i < ρ.length := by
    rcases Nat.lt_or_ge i ρ.length with z | z
    · exact z
    · rw [List.getElem?_eq_none z] at e; cases e
  obtain ⟨o2, l2, f2, r2, e12, e22, h12, k2⟩ := h0.at (i := i) (s := .un) (by rw [List.getElem?_set_self hlt])
  have : f2 = [] := by cases h12; rfl
  subst this
  have h3 := k2 (some (.ref b)) s [b, c] (kk _ hB')
  rw [set_same e2, List.set_set, set_same e] at h3
  refine ⟨F, f1, _, g1.cnt fun a => ?_, ht.mono Le.rfl fun a ha => upd_ne (hnd a (List.mem_append_left _ ha)), h3⟩
  have c2 : (l ++ ([] ++ r)).count a = (l2 ++ ([] ++ r2)).count a := by rw [e12]
  simp only [List.count_append, List.count_nil] at c2 ⊢
  omega
theorem eTake {i : Nat} (hn : EOk K W tn mn) : EOk K W (Cl.tF (fun vs H Q E => sp_take (vs ++ []) H Q E) W (tCons (tVar i) (tCons tn tNil))) (mTake i mn) := fun G H σ ρ τ δ Q h w => by
  obtain ⟨s0, e0, eb0, w⟩ := atBx_go w
  obtain ⟨b0, c0, e, _⟩ := h.box e0 eb0
  refine ⟨_, e, hn G H σ ρ τ δ _ h (mn.mono (fun s ρ1 w1 u H1 h1 => ?_) (fun _ _ z => z) w)⟩
  obtain ⟨s1, e1, eb1, w2⟩ := atBx_go w1
  clear w1
  unfold drawM at w2
  simp only at w2
  split at w2
  · rename_i n
    obtain ⟨b', c, e2, hB, kb⟩ := h1.pop.box e1 eb1
    rw [e] at e2
    cases e2
    obtain rfl := h1.topv (u := .int n) rfl
    exact ⟨b0, c, n, rfl, hB, w2.1.1, w2.1.2, fun k o k0 k1 hB' => w2.2 k k0 k1 _ _ ((kb o hB').push rfl)⟩
  · exact w2.elim
def sp_box (K : PySem.W.Frag) : Sp := fun vs H Q _ => ∃ (a : Addr) (ns : List Int), vs = [.ref a] ∧ SqL K H a (ns.map V.int) ∧ ∀ (H' : Hp) (b c : Addr), Same H H' → H b = none → H c = none → Bx H' b c → Q (.ref b) H'
def boxM : Sl → ME
  | .sh .scr => M.ret .bx
  | _ => M.stuck
def mBox (a : ME) : ME := a.bind boxM
theorem Bx.ne {b c : Addr} (h : Bx H b c) : c ≠ b := by
  obtain ⟨cs, i, r, s, h1, h2, _⟩ := h
  refine ne_of h2 h1 fun z => ?_
  have z2 : cs.map V.int = [.ref c, .int i, .int r, .int s] := by injection z
  cases cs with
  | nil => cases z2
  | cons a l => cases z2
theorem Good.grow {fp fn : List Addr} (g : Good G F H fp) (s : Same H H') (here : ∀ a ∈ fp, H a ≠ none) (hf : ∀ a ∈ fn, H a = none) (nd : fn.Nodup) : Good G F H' (fn ++ fp) := by
  refine ⟨fun a o e => s _ _ (g.sub a o e), g.f0, g.fN, fun a o e hn => s _ _ (g.frm a o e hn), fun a e => ?_, fun a ha => ?_, fun a ha => ?_, List.nodup_append.mpr ⟨nd, g.nd, fun a ha b hb e => here b hb (by rw [← e]; exact hf a ha)⟩⟩
  · cases q : H a with
    | none => exact absurd q (g.all a e)
    | some o => rw [s _ _ q]; intro z; cases z
  · rcases List.mem_append.mp ha with z | z
    · refine .inr ?_
      cases q : G.H a with
      | none => rfl
      | some o => exact absurd (hf a z) (g.all a (by rw [q]; intro z; cases z))
    · exact g.own a z
  · rcases List.mem_append.mp ha with z | z
    · cases q : F a with
      | none => rfl
      | some o => have := g.sub a o q; rw [hf a z] at this; cases this
    · exact g.nf a z
theorem eBox (ha : EOk K W ta ma) : EOk K W (Cl.tF (fun vs H Q E => sp_box K (vs ++ []) H Q E) W (tCons ta tNil)) (mBox ma) := fun G H σ ρ τ δ Q h w =>
  ha G H σ ρ τ δ _ h (ma.mono (fun s ρ1 w1 v H1 h1 => by
    unfold boxM at w1
    split at w1
    · obtain ⟨F, f1, f2, g, ht, hs⟩ := h1
      cases ht with
      | cons q1 q2 =>
        cases q1 with
        | sh r =>
          cases r with
          | @scr a ns hsq =>
            rename_i fb
            refine ⟨a, ns, rfl, sql_mono g.sub hsq, fun H' b c s nb nc hB => w1 _ _ ?_⟩
            have hin : ∀ a ∈ fb ++ f2, H1 a ≠ none := fun a ha => by
              rcases List.mem_append.mp ha with z | z
              · exact q2.here a z
              · exact hs.here a z
            have hn : ∀ a ∈ fb ++ f2, H' a = H1 a := fun a ha => by
              cases q : H1 a with
              | none => exact absurd q (hin a ha)
              | some o => exact s _ _ q
            have g1 := Good.grow (fp := fb ++ f2) (fn := [b, c]) g s hin (fun a ha => by
              rcases List.mem_cons.mp ha with rfl | ha
              · exact nb
              · rw [List.mem_singleton.mp ha]; exact nc) (by simp [Ne.symm hB.ne])
            exact ⟨F, b :: c :: fb, f2, g1, .cons (f := [b, c]) (.bx hB) (q2.mono Le.rfl fun a ha => hn a (List.mem_append_left _ ha)), hs.mono Le.rfl fun a ha => hn a (List.mem_append_right _ ha)⟩
    · exact w1.elim) (fun _ _ z => z) w)
def atOwn {α : Type} (i : Nat) (k : Sl → Sh → D → M α) : M α := ⟨fun ρ Q E => match ρ[i]? with
  | some (.ow z d) => (k (.ow z d) z d).wp ρ Q E
  | some (.le v z d) => (k (.le v z d) z d).wp ρ Q E
  | _ => False, fun {ρ Q Q' E E'} h h' w => by
    revert w
    split
    · exact fun w => (k _ _ _).mono h h' w
    · exact fun w => (k _ _ _).mono h h' w
    · exact id⟩
theorem atOwn_go {α : Type} {i : Nat} {k : Sl → Sh → D → M α} {ρ : Env} {Q : α → Env → Prop} {E : Er → Env → Prop} (w : (atOwn i k).wp ρ Q E) : ∃ s z d, ρ[i]? = some s ∧ s.own = some (z, d) ∧ (k s z d).wp ρ Q E := by
  unfold atOwn at w
  simp only at w
  split at w
  · exact ⟨_, _, _, by assumption, rfl, w⟩
  · exact ⟨_, _, _, by assumption, rfl, w⟩
  · exact w.elim
def ownL {α : Type} (i : Nat) (f : List D → Option (Prop × List D × α)) : M α := atOwn i fun s z d => ⟨fun ρ Q _ => match z, d with
  | .ol .fr, .lst ds => match f ds with
    | some (p, ds', a) => p ∧ Q a (ρ.set i (s.put (.ol .fr) (.lst ds')))
    | none => False
  | _, _ => False, fun {ρ Q Q' E E'} h h' w => by
    revert w
    split
    · split
      · exact fun w => ⟨w.1, h _ _ w.2⟩
      · exact id
    · exact id⟩
theorem ownL_go {α : Type} {i : Nat} {f : List D → Option (Prop × List D × α)} {ρ : Env} {Q : α → Env → Prop} {E : Er → Env → Prop} (w : (ownL i f).wp ρ Q E) : ∃ s ds p ds' a, ρ[i]? = some s ∧ s.own = some (.ol .fr, .lst ds) ∧ f ds = some (p, ds', a) ∧ p ∧ Q a (ρ.set i (s.put (.ol .fr) (.lst ds'))) := by
  obtain ⟨s, z, d, e, eo, w⟩ := atOwn_go w
  simp only at w
  split at w
  · split at w
    · exact ⟨_, _, _, _, _, e, eo, by assumption, w.1, w.2⟩
    · exact w.elim
  · exact w.elim
theorem Rel.ownL {i : Nat} {s : Sl} {ds : List D} (h : Rel K G H σ ρ τ δ) (e : ρ[i]? = some s) (eo : s.own = some (.ol .fr, .lst ds)) : ∃ F f1 l vs, Slots K F H τ δ f1 ∧ Le F H ∧ σ[i]? = some (some (.ref l)) ∧ H l = some (.lst vs) ∧ RepL K F vs ds ∧ (∀ u x, Rep K F u x → Rel K G H σ ρ (some u :: τ) (.sh x :: δ)) ∧
    (∀ vs' ds', RepL K F vs' ds' → Rel K G (upd H l (.lst vs')) σ (ρ.set i (s.put (.ol .fr) (.lst ds'))) τ δ) := by
  obtain ⟨F, f1, v, f, ht, hl, e1, q, kv, k⟩ := h.own e eo
  cases q with
  | @ol _ l vs _ fp hh rl =>
    obtain ⟨rl', rfl⟩ := rl.rep
    exact ⟨F, f1, l, vs, ht, hl, e1, hh, rl', kv, fun vs' ds' r' => k l _ _ _ [l] (by simp) (.ol upd_same r'.own) (fun _ => Nat.le_refl _)⟩
def isOwnL (i : Nat) (m : ME) : ME := atOwn i fun _ z d => match z, d with
  | .ol .fr, .lst _ => m
  | _, _ => M.stuck
theorem isOwnL_go {i : Nat} {m : ME} {ρ : Env} {Q : Sl → Env → Prop} {E : Er → Env → Prop} (w : (isOwnL i m).wp ρ Q E) : ∃ s ds, ρ[i]? = some s ∧ s.own = some (.ol .fr, .lst ds) ∧ m.wp ρ Q E := by
  obtain ⟨s, z, d, e, eo, w⟩ := atOwn_go w
  split at w
  · exact ⟨s, _, e, eo, w⟩
  · exact w.elim
def mApp (i : Nat) (e : ME) : ME := isOwnL i (e.bind fun s => match s with
  | .sh x => ownL i fun ds => some (ds.length < sizeLine, ds ++ [x], .sh .non)
  | _ => M.stuck)
theorem eApp {i : Nat} (he : EOk K W te me) : EOk K W (tBM K "list" rAppend (tVar i) (tCons te tNil)) (mApp i me) := fun G H σ ρ τ δ Q h w => by
  obtain ⟨s0, ds0, e0, eo0, w⟩ := isOwnL_go w
  obtain ⟨F, f1, l, vs, ht, hl, e1, hh, rl, kv, k⟩ := h.ownL e0 eo0
  refine ⟨_, e1, Or.inl ⟨rfl, _, SqL.of hh⟩, he G H σ ρ τ δ _ h (me.mono (fun s ρ1 w1 v H1 h1 => ?_) (fun _ _ z => z) w)⟩
  simp only at w1
  split at w1
  · rename_i x
    obtain ⟨s1, ds, p, ds', a, e2, eo, ef, hp, q⟩ := ownL_go w1
    cases ef
    obtain ⟨F2, f2, l2, vs2, ht2, hl2, e3, hh2, rl2, kv2, k2⟩ := h1.ownL e2 eo
    rw [e1] at e3
    cases e3
    cases ht2 with
    | cons q1 q2 =>
      cases q1 with
      | sh r =>
        have := (k2 _ _ (rl2.app (.cons r .nil))).pop
        exact ⟨l, vs2, v, rfl, rfl, hh2, by rw [rl2.len]; exact hp, q _ _ (this.push rfl)⟩
  · exact w1.elim
end
end Dl
namespace Dl
open PySem PySem.Spec PyProof.Rows L2
section
variable {K : PySem.W.Frag} {W W' : WS} {ta tb tc te tn tv : TE} {ma mb mc me mn mv : ME} {t u : TS} {m k : MS} {tA tt : TT} {mA mt : MT} {tl : TA} {ml : MA} {G : Ent} {F H H' : Hp} {σ τ : L2.St} {ρ : Env} {δ : List Sl}
theorem Rel.own1 {i : Nat} {s sv : Sl} {o0 : Option V} {z : Sh} {d : D} (h : Rel K G H σ ρ (o0 :: τ) (sv :: δ)) (e : ρ[i]? = some s) (eo : s.own = some (z, d)) : ∃ F f0 v f, SlV K F H o0 sv f0 ∧ Le F H ∧ σ[i]? = some (some v) ∧ Own K F H z v d f ∧ (∀ a ∈ f, a ∉ f0) ∧ f.Nodup ∧
    (∀ a o z' d' f', a ∈ f → Own K F (upd H a o) z' v d' f' → (∀ b, f'.count b ≤ f0.count b + f.count b) → Rel K G (upd H a o) σ (ρ.set i (s.put z' d')) τ δ) := by
  obtain ⟨F, f1, f2, g, ht, hs⟩ := h
  cases ht with
  | cons h0 h2 =>
    rename_i f0 fb
    obtain ⟨o, l, f, r, e1, e2, h1, k⟩ := hs.at e
    obtain ⟨v, rfl, q, kk⟩ := h1.owns eo
    subst e1
    have hdis : ∀ a ∈ f, a ∉ f0 := fun a ha ha0 => by
      have c1 := List.nodup_iff_count.mp g.nd a
      have c2 := List.count_pos_iff.mpr ha
      have c3 := List.count_pos_iff.mpr ha0
      simp only [List.count_append] at c1
      omega
    have hfn : f.Nodup := List.nodup_iff_count.mpr fun a => by
      have c1 := List.nodup_iff_count.mp g.nd a
      simp only [List.count_append] at c1
      omega
    refine ⟨F, f0, v, f, h0, g.sub, e2, q, hdis, hfn, fun a o z' d' f' ha q' hc => ?_⟩
    have hnd : ∀ b ∈ fb ++ (l ++ r), b ≠ a := fun b hb eb => by
      subst eb
      have c1 := List.nodup_iff_count.mp g.nd b
      have c2 := List.count_pos_iff.mpr ha
      have c3 := List.count_pos_iff.mpr hb
      simp only [List.count_append] at c1 c3
      omega
    have g1 := g.mut (a := a) (List.mem_append_right _ (List.mem_append_right _ (List.mem_append_left _ ha))) o
    have h0' := (k (some v) .un [] .un).mono (F' := F) (H' := upd H a o) Le.rfl fun b hb => upd_ne (hnd b (List.mem_append_right _ (by simpa using hb)))
    rw [set_same e2] at h0'
    have hlt : i < ρ.length := by
      rcases Nat.lt_or_ge i ρ.length with z | z
      · exact z
      · rw [List.getElem?_eq_none z] at e; cases e
    obtain ⟨o2, l2, f2, r2, e12, e22, h12, k2⟩ := h0'.at (i := i) (s := .un) (by rw [List.getElem?_set_self hlt])
    have : f2 = [] := by cases h12; rfl
    subst this
    have h3 := k2 (some v) _ f' (kk F (upd H a o) z' d' f' q')
    rw [set_same e2, List.set_set] at h3
    refine ⟨F, fb, _, g1.cnt fun b => ?_, h2.mono Le.rfl fun b hb => upd_ne (hnd b (List.mem_append_left _ hb)), h3⟩
    have c1 := hc b
    have c2 : (l ++ ([] ++ r)).count b = (l2 ++ ([] ++ r2)).count b := by rw [e12]
    simp only [List.count_append, List.count_nil] at c1 c2 ⊢
    omega
theorem putF_new {n : Str} {y : V} : ∀ {fs : List (Str × V)}, n ∉ fs.map (·.1) → putF n y fs = fs ++ [(n, y)]
  | [], _ => rfl
  | (k, x) :: fs, h => by
    have hk : k ≠ n := fun z => h (by rw [z]; simp)
    unfold putF
    rw [if_neg hk, putF_new fun z => h (List.mem_cons_of_mem _ z)]
    rfl
theorem OwnF.app {ss ss' : List Sh} {vs vs' : List V} {ds ds' : List D} {fp fp' : List Addr} (h : OwnF K F H ss vs ds fp) (h' : OwnF K F H ss' vs' ds' fp') : OwnF K F H (ss ++ ss') (vs ++ vs') (ds ++ ds') (fp ++ fp') := by
  match h with
  | .nil => exact h'
  | .cons q r => rw [List.append_assoc]; exact .cons q (OwnF.app r h')
theorem OwnF.len : ∀ {ss : List Sh} {vs : List V} {ds : List D} {fp : List Addr}, OwnF K F H ss vs ds fp → vs.length = ds.length ∧ ss.length = ds.length
  | _, _, _, _, .nil => ⟨rfl, rfl⟩
  | _, _, _, _, .cons _ r => by
    obtain ⟨a, b⟩ := OwnF.len r
    exact ⟨by simp [a], by simp [b]⟩
def Sl.part : Sl → Option (Sh × D)
  | .sh d => some (.fr, d)
  | .ow z d => some (z, d)
  | _ => none
theorem SlV.part {o : Option V} {s : Sl} {f : List Addr} {z : Sh} {d : D} (h : SlV K F H o s f) (e : s.part = some (z, d)) : ∃ v, o = some v ∧ Own K F H z v d f := by
  cases h with
  | sh r => cases e; exact ⟨_, rfl, .fr r⟩
  | ow r => cases e; exact ⟨_, rfl, r⟩
  | _ => cases e
def fldNew (c j i : Nat) (s : Sl) : M Unit := match s.part with
  | some (z', d') => atOwn i fun s0 z d => ⟨fun ρ Q _ => match z, d with
    | .oo ss, .obj c' ds => match Nat.beq c' c, Nat.beq ds.length j with
      | true, true => Q () (ρ.set i (s0.put (.oo (ss ++ [z'])) (.obj c' (ds ++ [d']))))
      | _, _ => False
    | _, _ => False, fun {ρ Q Q' E E'} h h' w => by
      revert w
      split
      · split
        · exact fun w => h _ _ w
        · exact id
      · exact id⟩
  | none => M.stuck
def sFldN (c j i : Nat) (v : ME) : MS := ⟨fun ρ M => v.wp ρ (fun s r => (fldNew c j i s).wp r (fun _ r' => M.nx r') (fun _ _ => False)) M.ex, fun h w => v.mono (fun s r z => (fldNew c j i s).mono (fun _ r' q => h.nx r' q) (fun _ _ q => q) z) h.ex w⟩
theorem zFldN {c j i : Nat} {n : Str} (cl : Cls K (He.ga K (cn c))) (na : NoAttr K (He.ga K (cn c)) n) (hj : (cf c)[j]? = some n) (hn : n ∉ (cf c).take j) (hs : j < 1000) (hv : EOk K W tv mv) : SOk K W (sFld K (tVar i) tv n) (sFldN c j i mv) := fun G H σ ρ τ δ D M h hi w =>
  hv G H σ ρ τ δ _ h (mv.mono (fun s ρ1 w1 y H1 h1 => by
    unfold fldNew at w1
    split at w1
    · rename_i z' d' ep
      obtain ⟨s0, z, d, e0, eo, w2⟩ := atOwn_go w1
      simp only at w2
      split at w2
      · rename_i ss c' ds
        have w3 : c' = c ∧ ds.length = j ∧ M.nx (ρ1.set i (s0.put (.oo (ss ++ [z'])) (.obj c' (ds ++ [d'])))) := by
          split at w2
          · rename_i g1 g2
            exact ⟨Nat.eq_of_beq_eq_true g1, Nat.eq_of_beq_eq_true g2, w2⟩
          · exact w2.elim
        obtain ⟨rfl, rfl, q⟩ := w3
        obtain ⟨F, f0, v, f, q0, hl, e1, qo, hdis, hfn, k⟩ := h1.own1 e0 eo
        obtain ⟨y', ey, qy⟩ := q0.part ep
        cases ey
        cases qo with
        | @oo _ a dx _ fs _ fp ha hdx hnm hof =>
          have hlen : fs.length = ds.length := by have := hof.len.1; rwa [List.length_map] at this
          have hnn : n ∉ fs.map (·.1) := by rw [hnm]; exact hn
          refine ⟨_, e1, a, _, dx, fs, rfl, ha, cl, na, by omega, hi.nx _ _ _ ?_ q⟩
          rw [putF_new hnn]
          refine k a _ _ _ (a :: dx :: (fp ++ f0)) (by simp) ?_ (fun b => by simp only [List.count_append, List.count_cons]; omega)
          have hadx : dx ≠ a := fun z => by rw [z, ha] at hdx; cases hdx
          have hfp : ∀ b ∈ fp, b ≠ a := fun b hb eb => (List.nodup_cons.mp hfn).1 (by rw [← eb]; exact List.mem_cons_of_mem _ hb)
          refine .oo (fs := fs ++ [(n, y)]) upd_same (by rw [upd_ne hadx]; exact hdx) ?_ ?_
          · rw [List.map_append, hnm, List.length_append, List.length_singleton]
            show _ ++ [n] = _
            rw [List.take_add_one, hj]
            rfl
          · rw [List.map_append]
            refine OwnF.app (hof.mono Le.rfl fun b hb => upd_ne (hfp b hb)) ?_
            have := OwnF.cons (qy.mono Le.rfl (H' := upd H1 a (.ins (He.ga K (cn c')) dx (fs ++ [(n, y)]))) fun b hb => upd_ne fun z => hdis a (by simp) (by rw [← z]; exact hb)) (.nil (K := K) (F := F))
            rw [List.append_nil] at this
            exact this
      · exact w2.elim
    · exact w1.elim) (fun e ρ' z => hi.ex σ e ρ' z) w)
mutual
/-- no address is within -/
def Sh.clean : Sh → D → Bool
  | .fr, d => d.flat
  | .ol s, .lst ds => Sh.cleanL s ds
  | .oo ss, .obj _ ds => Sh.cleanF ss ds
  | .ot ss, .tup ds => Sh.cleanF ss ds
  | _, _ => false
def Sh.cleanL : Sh → List D → Bool
  | _, [] => true
  | s, d :: ds => Sh.clean s d && Sh.cleanL s ds
def Sh.cleanF : List Sh → List D → Bool
  | [], [] => true
  | s :: ss, d :: ds => Sh.clean s d && Sh.cleanF ss ds
  | _, _ => false
end
theorem Rep.flatAny {v : V} {d : D} {F' : Hp} (h : Rep K F v d) (f : d.flat = true) : Rep K F' v d := by
  cases h with
  | non => exact .non
  | bl b => exact .bl b
  | int i => exact .int i
  | str x => exact .str x
  | _ => cases f
mutual
theorem Own.clean {F' : Hp} : ∀ {z : Sh} {v : V} {d : D} {fp : List Addr}, Own K F H z v d fp → Sh.clean z d = true → Own K F' H z v d fp
  | _, _, _, _, .fr r, e => .fr (r.flatAny (by unfold Sh.clean at e; exact e))
  | _, _, _, _, .ol h r, e => .ol h (OwnL.clean r (by unfold Sh.clean at e; exact e))
  | _, _, _, _, .od h r, e => by unfold Sh.clean at e; cases e
  | _, _, _, _, .ot h r, e => .ot h (OwnF.clean r (by unfold Sh.clean at e; exact e))
  | _, _, _, _, .oo h h' n r, e => .oo h h' n (OwnF.clean r (by unfold Sh.clean at e; exact e))
theorem OwnL.clean {F' : Hp} : ∀ {z : Sh} {v : List V} {d : List D} {fp : List Addr}, OwnL K F H z v d fp → Sh.cleanL z d = true → OwnL K F' H z v d fp
  | _, _, _, _, .nil, _ => .nil
  | _, _, _, _, .cons h r, e => by
    unfold Sh.cleanL at e
    rw [Bool.and_eq_true] at e
    exact .cons (Own.clean h e.1) (OwnL.clean r e.2)
theorem OwnF.clean {F' : Hp} : ∀ {z : List Sh} {v : List V} {d : List D} {fp : List Addr}, OwnF K F H z v d fp → Sh.cleanF z d = true → OwnF K F' H z v d fp
  | _, _, _, _, .nil, _ => .nil
  | _, _, _, _, .cons h r, e => by
    unfold Sh.cleanF at e
    rw [Bool.and_eq_true] at e
    exact .cons (Own.clean h e.1) (OwnF.clean r e.2)
end
def Sl.clean : Sl → Bool
  | .sh d => d.flat
  | .ow z d => Sh.clean z d
  | _ => false
theorem SlV.clean {F' : Hp} {o : Option V} {s : Sl} {f : List Addr} (h : SlV K F H o s f) (e : s.clean = true) : SlV K F' H o s f := by
  cases h with
  | sh r => exact .sh (r.flatAny e)
  | ow r => exact .ow (r.clean e)
  | _ => cases e
def Sl.bz : Sl → Sl
  | .ow _ d => .sh d
  | .le _ _ d => .sh d
  | .sh d => .sh d
  | _ => .un
theorem SlV.bz {F' : Hp} {o : Option V} {s : Sl} {fp : List Addr} (l : Le F F') (e : ∀ a ∈ fp, F' a = H a) (h : SlV K F H o s fp) : SlV K F' H o s.bz [] := by
  cases h with
  | sh r => exact .sh (r.mono l)
  | ow r => exact .sh (r.fz l e)
  | le r => exact .sh (r.fz l e)
  | _ => exact .un
theorem Slots.bz {F' : Hp} {fp : List Addr} (l : Le F F') (e : ∀ a ∈ fp, F' a = H a) (h : Slots K F H σ ρ fp) : Slots K F' H σ (ρ.map Sl.bz) [] := by
  induction h with
  | nil => exact .nil
  | cons h r ih => exact .cons (f := []) (h.bz l fun a ha => e a (List.mem_append_left _ ha)) (ih fun a ha => e a (List.mem_append_right _ ha))
def mBor (m : ME) : ME := ⟨fun ρ Q E => m.wp (ρ.map Sl.bz) (fun s _ => s.clean = true ∧ Q s ρ) (fun er _ => er.d.flat = true ∧ E er ρ), fun h h' w => m.mono (fun s r z => ⟨z.1, h _ _ z.2⟩) (fun er r z => ⟨z.1, h' _ _ z.2⟩) w⟩
theorem eBor {t : TE} (ht : EOk K W t ma) : EOk K W t (mBor ma) := fun G H σ ρ τ δ Q h w => by
  obtain ⟨F, f1, f2, g, hτ, hs⟩ := h
  have hf : ∀ a ∈ f1 ++ f2, F a = none := g.nf
  have l := fzH_le (H := H) hf
  have g' : Good ⟨H, fzH F H (f1 ++ f2), []⟩ (fzH F H (f1 ++ f2)) H ([] ++ []) := ⟨fun a o e => by
    by_cases z : a ∈ f1 ++ f2
    · rw [fzH_in z] at e; exact e
    · rw [fzH_out z] at e; exact g.sub a o e, Le.rfl, fun a e => .inl e, fun a o e _ => e, fun a e => e, fun a ha => (by cases ha), fun a ha => (by cases ha), List.nodup_nil⟩
  have hin : ∀ a ∈ f1 ++ f2, H a ≠ none := fun a ha => by
    rcases List.mem_append.mp ha with z | z
    · exact hτ.here a z
    · exact hs.here a z
  have hR : Rel K ⟨H, fzH F H (f1 ++ f2), []⟩ H σ (ρ.map Sl.bz) τ (δ.map Sl.bz) := ⟨_, [], [], g', hτ.bz l fun a ha => fzH_in (List.mem_append_left _ ha), hs.bz l fun a ha => fzH_in (List.mem_append_right _ ha)⟩
  have back : ∀ (s : Sl) (ρ' : Env) (v : V) (H' : Hp), s.clean = true → Rel K ⟨H, fzH F H (f1 ++ f2), []⟩ H' σ ρ' (some v :: τ) (s :: δ.map Sl.bz) → Rel K G H' σ ρ (some v :: τ) (s :: δ) := fun s ρ' v H' hc hr => by
    obtain ⟨F', g1, g2, gg, ht, _⟩ := hr
    cases ht with
    | cons q1 q2 =>
      rename_i fa fb
      have hsame : Same H H' := fun a o e => gg.frm a o e (by simp)
      have hn : ∀ a ∈ f1 ++ f2, H' a = H a := fun a ha => by
        cases q : H a with
        | none => exact absurd q (hin a ha)
        | some o => exact hsame _ _ q
      have gn := g.grow (fn := fa) hsame hin (fun a ha => by
        rcases gg.own a (List.mem_append_left _ (List.mem_append_left _ ha)) with z | z
        · cases z
        · exact z) (by
        have := gg.nd
        rw [List.append_assoc] at this
        exact (List.nodup_append.mp this).1)
      rw [← List.append_assoc] at gn
      exact ⟨F, fa ++ f1, f2, gn, .cons (q1.clean hc) (hτ.mono Le.rfl fun a ha => hn a (List.mem_append_left _ ha)), hs.mono Le.rfl fun a ha => hn a (List.mem_append_right _ ha)⟩
  exact ht _ H σ _ τ _ Q hR (ma.mono (fun s ρ' z v H' q => z.2 v H' (back s ρ' v H' z.1 q)) (fun er ρ' z v H' q => z.2 v H' (back (.sh er.d) ρ' v H' z.1 q)) w)
def tBorM (m : MT) : MT := ⟨fun ρ Q E => m.wp (ρ.map Sl.bz) (fun s _ => Q s ρ) (fun er _ => er.d.flat = true ∧ E er ρ), fun h h' w => m.mono (fun s r z => h _ _ z) (fun er r z => ⟨z.1, h' _ _ z.2⟩) w⟩
theorem tBor {t : TT} (ht : TOk K W t mA) : TOk K W t (tBorM mA) := fun G H σ ρ τ δ Q h w => by
  obtain ⟨F, f1, f2, g, hτ, hs⟩ := h
  have hf : ∀ a ∈ f1 ++ f2, F a = none := g.nf
  have l := fzH_le (H := H) hf
  have g' : Good ⟨H, fzH F H (f1 ++ f2), []⟩ (fzH F H (f1 ++ f2)) H ([] ++ []) := ⟨fun a o e => by
    by_cases z : a ∈ f1 ++ f2
    · rw [fzH_in z] at e; exact e
    · rw [fzH_out z] at e; exact g.sub a o e, Le.rfl, fun a e => .inl e, fun a o e _ => e, fun a e => e, fun a ha => (by cases ha), fun a ha => (by cases ha), List.nodup_nil⟩
  have hin : ∀ a ∈ f1 ++ f2, H a ≠ none := fun a ha => by
    rcases List.mem_append.mp ha with z | z
    · exact hτ.here a z
    · exact hs.here a z
  have hR : Rel K ⟨H, fzH F H (f1 ++ f2), []⟩ H σ (ρ.map Sl.bz) τ (δ.map Sl.bz) := ⟨_, [], [], g', hτ.bz l fun a ha => fzH_in (List.mem_append_left _ ha), hs.bz l fun a ha => fzH_in (List.mem_append_right _ ha)⟩
  have back : ∀ (s : Sl) (ρ' : Env) (v : V) (H' : Hp), s.clean = true → Rel K ⟨H, fzH F H (f1 ++ f2), []⟩ H' σ ρ' (some v :: τ) (s :: δ.map Sl.bz) → Rel K G H' σ ρ (some v :: τ) (s :: δ) := fun s ρ' v H' hc hr => by
    obtain ⟨F', g1, g2, gg, ht, _⟩ := hr
    cases ht with
    | cons q1 q2 =>
      rename_i fa fb
      have hsame : Same H H' := fun a o e => gg.frm a o e (by simp)
      have hn : ∀ a ∈ f1 ++ f2, H' a = H a := fun a ha => by
        cases q : H a with
        | none => exact absurd q (hin a ha)
        | some o => exact hsame _ _ q
      have gn := g.grow (fn := fa) hsame hin (fun a ha => by
        rcases gg.own a (List.mem_append_left _ (List.mem_append_left _ ha)) with z | z
        · cases z
        · exact z) (by
        have := gg.nd
        rw [List.append_assoc] at this
        exact (List.nodup_append.mp this).1)
      rw [← List.append_assoc] at gn
      exact ⟨F, fa ++ f1, f2, gn, .cons (q1.clean hc) (hτ.mono Le.rfl fun a ha => hn a (List.mem_append_left _ ha)), hs.mono Le.rfl fun a ha => hn a (List.mem_append_right _ ha)⟩
  exact ht _ H σ _ τ _ Q hR (mA.mono (fun s ρ' z H' q => z H' ((back (.sh .non) ρ' .non H' rfl (q.push rfl)).pop)) (fun er ρ' z v H' q => z.2 v H' (back (.sh er.d) ρ' v H' z.1 q)) w)
inductive BT where
  | non | bl | int | str | lst | tup | dic
def BT.nm : BT → String
  | .non => "NoneType" | .bl => "bool" | .int => "int" | .str => "str" | .lst => "list" | .tup => "tuple" | .dic => "dict"
def D.bty : D → Option BT
  | .non => some .non
  | .bl _ => some .bl
  | .int _ => some .int
  | .str _ => some .str
  | .lst _ => some .lst
  | .tup _ => some .tup
  | .dic _ => some .dic
  | .dil _ => some .dic
  | _ => none
theorem Rep.ty {v : V} {d : D} {s : BT} (h : Rep K F v d) (l : Le F H) (e : d.bty = some s) : TyX K H v (.type s.nm) := by
  cases h with
  | non => cases e; exact .base .non
  | bl b => cases e; exact .base (.bl b)
  | int i => cases e; exact .base (.int i)
  | str x => cases e; exact .base (.str x)
  | lst h r => cases e; exact .base (.lst (l _ _ h))
  | tup h r =>
    cases e
    rcases h with (h | ⟨o, h⟩) | ⟨o, its, n, h1, h2, _⟩
    · exact .base (.tup (l _ _ h))
    · exact .fTuple (l _ _ h)
    · exact .kTuple h1 h2
  | dic h r => cases e; exact .base (.dK (l _ _ h))
  | dil h r => cases e; exact .fDict (l _ _ h)
  | _ => cases e
def isB : BT → BT → Bool
  | .non, .non => true | .bl, .bl => true | .int, .int => true | .int, .bl => true | .str, .str => true | .lst, .lst => true | .tup, .tup => true | .dic, .dic => true
  | _, _ => false
def dIsi (T : BT) (d : D) : Option D := match d.bty with
  | some s => some (.bl (isB T s))
  | none => none
theorem kit_all (T s : BT) : kitB s.nm T.nm = some (isB T s) := by
  cases T <;> cases s <;> decide +kernel
theorem eIsi {T : BT} (ha : EOk K W ta ma) : EOk K W (tCB (rIsi K) (tCons ta (tCons (tC (.ty T.nm)) tNil))) (mUn (op1 (dIsi T)) ma) := fun G H σ ρ τ δ Q h w =>
  ha G H σ ρ τ δ _ h (ma.mono (fun s1 ρ1 w1 v1 H1 h1 => by
    obtain ⟨a, d, rfl, e, q⟩ := op1_go w1
    obtain ⟨F, r, z⟩ := h1.top
    unfold dIsi at e
    split at e
    · rename_i s es
      cases e
      exact ⟨_, _, _, _, _, rfl, .ty T.nm, r.ty z.le es, kit_ty (kit_all T s), q _ _ (h1.pop.push rfl)⟩
    · cases e) (fun _ _ z => z) w)
def dIsO (own : Nat → Option Bool) (blt : BT → Option Bool) : D → Option D
  | .obj c _ => match own c with
    | some b => some (.bl b)
    | none => none
  | d => match d.bty with
    | some s => match blt s with
      | some b => some (.bl b)
      | none => none
    | none => none
theorem eIsO {c0 : Nat} {own : Nat → Option Bool} {blt : BT → Option Bool} (ho : ∀ c b, own c = some b → PySem.W.kitOne K (.ref (He.ga K (cn c))) (.ref (He.ga K (cn c0))) = some b ∧ Cls K (He.ga K (cn c)) ∧ OpM.InsT K (He.ga K (cn c))) (hb : ∀ s b, blt s = some b → PySem.W.kitOne K (.type s.nm) (.ref (He.ga K (cn c0))) = some b) (ha : EOk K W ta ma) :
    EOk K W (tCB (rIsi K) (tCons ta (tCons (tC (.ref (He.ga K (cn c0)))) tNil))) (mUn (op1 (dIsO own blt)) ma) := fun G H σ ρ τ δ Q h w =>
  ha G H σ ρ τ δ _ h (ma.mono (fun s1 ρ1 w1 v1 H1 h1 => by
    obtain ⟨a, d, rfl, e, q⟩ := op1_go w1
    obtain ⟨F, r, z⟩ := h1.top
    unfold dIsO at e
    split at e
    · rename_i c fs
      split at e
      · rename_i b hb'
        cases e
        obtain ⟨k1, k2, k3⟩ := ho c b hb'
        cases r with
        | obj g1 g2 g3 g4 => exact ⟨_, _, _, _, _, rfl, .own _, k3.ty k2 (z.le _ _ g1), k1, q _ _ (h1.pop.push rfl)⟩
      · cases e
    · split at e
      · rename_i s es
        split at e
        · rename_i b hb'
          cases e
          exact ⟨_, _, _, _, _, rfl, .own _, r.ty z.le es, hb s b hb', q _ _ (h1.pop.push rfl)⟩
        · cases e
      · cases e) (fun _ _ z => z) w)
end
end Dl
namespace Dl
open PySem PySem.Spec PyProof.Rows L2
def calm {α : Type} (m : M α) : M α := ⟨fun ρ Q _ => m.wp ρ Q fun _ _ => False, fun h _ w => m.mono h (fun _ _ z => z) w⟩
structure Knows where
  own : Nat → Bool
  blt : BT → Bool
def Knows.is (T : Knows) : D → Bool
  | .obj c _ => T.own c
  | d => match d.bty with
    | some s => T.blt s
    | none => false
structure Knows.Ok (K : PySem.W.Frag) (C : Addr) (T : Knows) : Prop where
  own : ∀ c, T.own c = true → PySem.W.notFirst K C (.ref (He.ga K (cn c))) = true ∧ Cls K (He.ga K (cn c)) ∧ OpM.InsT K (He.ga K (cn c))
  blt : ∀ s, T.blt s = true → PySem.W.notFirst K C (.type s.nm) = true
section
variable {K : PySem.W.Frag} {W W' : WS} {ta tb tc te tn tv : TE} {ma mb mc me mn mv : ME} {G : Ent} {F H H' : Hp} {σ τ : L2.St} {ρ : Env} {δ : List Sl}
theorem Knows.Ok.ty {C : Addr} {T : Knows} (k : T.Ok K C) {v : V} {d : D} (h : Rep K F v d) (l : Le F H) (e : T.is d = true) : ∃ t, TyX K H v t ∧ PySem.W.notFirst K C t = true := by
  unfold Knows.is at e
  split at e
  · obtain ⟨k1, k2, k3⟩ := k.own _ e
    cases h with
    | obj g1 g2 g3 g4 => exact ⟨_, k3.ty k2 (l _ _ g1), k1⟩
  · split at e
    · rename_i s es
      exact ⟨_, h.ty l es, k.blt s e⟩
    · cases e
def opUn (c : Nat) (ds : M Sl) : Sl → ME
  | .sh (.obj c' fs) => if c' = c then calm (callM ds [] [.s (.sh (.obj c' fs))]) else M.stuck
  | _ => M.stuck
theorem opUn_go {c : Nat} {ds : M Sl} {s1 : Sl} {Q : Sl → Env → Prop} {E : Er → Env → Prop} (w : (opUn c ds s1).wp ρ Q E) : ∃ fs, s1 = .sh (.obj c fs) ∧ (callM ds [] [.s (.sh (.obj c fs))]).wp ρ Q (fun _ _ => False) := by
  unfold opUn at w
  split at w
  · split at w
    · rename_i h
      subst h
      exact ⟨_, rfl, w⟩
    · exact w.elim
  · exact w.elim
def opTxt (c : Nat) (ds : M Sl) : Sl → ME := fun s => (opUn c ds s).bind fun r => match r with
  | .sh (.str t) => M.ret (.sh (.str t))
  | _ => M.stuck
theorem c_txt {c : Nat} {ds : M Sl} : R1Ok K (fun x H Q => OpM.rTxt (He.ga K (cn c)) (fun vs H Q E => spOf K ds (vs ++ []) H Q E) [x] H Q) (opTxt c ds) := by
  intro G H σ ρ τ δ x s1 Q E hr w
  obtain ⟨fs, rfl, w2⟩ := opUn_go w
  clear w
  obtain ⟨F, r1, z⟩ := hr.top
  have core := callCore (dvs := []) (dv := []) (X := fun _ _ _ => False) (Q := fun v H' => (∃ t, v = .str t) ∧ Q v H') (.s .nil) hr (fun _ => .nil) (fun _ _ z => z.elim) ((callM ds [] _).mono (fun s ρ' w v H' hq => by
    simp only at w
    split at w
    · rename_i t
      have hv := hq.topv (u := .str t) rfl
      exact ⟨⟨t, hv⟩, w _ _ hq⟩
    · exact w.elim) (fun _ _ z => z) w2)
  cases r1 with
  | obj g1 g2 g3 g4 => exact ⟨_, _, _, rfl, z.le _ _ g1, core⟩
def fmtM : Sl → ME := fun s => ⟨fun ρ Q _ => match s with
  | .sh (.str y) => y.length ≤ sizeLine ∧ Q (.sh (.str y)) ρ
  | .sh (.int i) => i.natAbs.log2 < 1920 ∧ Q (.sh (.str (toString i))) ρ
  | _ => False, fun {ρ Q Q' E E'} h _ w => by
    revert w
    split
    · exact fun w => ⟨w.1, h _ _ w.2⟩
    · exact fun w => ⟨w.1, h _ _ w.2⟩
    · exact id⟩
def mFmt (a : ME) : ME := a.bind fmtM
theorem eFmt (ha : EOk K W ta ma) : EOk K W (tFmt ta) (mFmt ma) := fun G H σ ρ τ δ Q h w =>
  ha G H σ ρ τ δ _ h (ma.mono (fun s1 ρ1 w1 v1 H1 h1 => by
    unfold fmtM at w1
    simp only at w1
    split at w1
    · rename_i y
      obtain rfl := h1.topv (u := .str y) rfl
      exact .inl ⟨y, rfl, w1.1, w1.2 _ _ (h1.pop.push rfl)⟩
    · rename_i i
      obtain rfl := h1.topv (u := .int i) rfl
      exact .inr ⟨i, rfl, w1.1, w1.2 _ _ (h1.pop.push rfl)⟩
    · exact w1.elim) (fun _ _ z => z) w)
def jsM : List ME → Str → ME
  | [], acc => M.ret (.sh (.str acc))
  | m :: ms, acc => m.bind fun s => ⟨fun ρ Q E => match s with
    | .sh (.str y) => (acc ++ y).length ≤ sizeLine ∧ (jsM ms (acc ++ y)).wp ρ Q E
    | _ => False, fun {ρ Q Q' E E'} h h' w => by
      revert w
      split
      · exact fun w => ⟨w.1, (jsM ms _).mono h h' w.2⟩
      · exact id⟩
inductive JOk (K : PySem.W.Frag) (W : WS) : List TE → List ME → Prop
  | nil : JOk K W [] []
  | cons {t : TE} {m : ME} {ts : List TE} {ms : List ME} : EOk K W t m → JOk K W ts ms → JOk K W (t :: ts) (m :: ms)
theorem js_go {ts : List TE} {ms : List ME} (h : JOk K W ts ms) : ∀ (acc : Str) (G : Ent) (H : Hp) (σ : L2.St) (ρ : Env) (τ : L2.St) (δ : List Sl) (Q : VK), Rel K G H σ ρ τ δ → (jsM ms acc).wp ρ (fun s ρ' => ∀ v H', Rel K G H' σ ρ' (some v :: τ) (s :: δ) → Q v H') (exQ K W G σ τ δ) → tJs ts acc σ H fun out H1 => Q (.str out) H1 := by
  induction h with
  | nil => exact fun acc G H σ ρ τ δ Q h w => w _ _ (h.push rfl)
  | @cons t m ts ms h1 h2 ih =>
    intro acc G H σ ρ τ δ Q h w
    refine h1 G H σ ρ τ δ _ h (m.mono (fun s ρ1 w1 v H1 h1 => ?_) (fun _ _ z => z) w)
    simp only at w1
    split at w1
    · rename_i y
      obtain rfl := h1.topv (u := .str y) rfl
      exact ⟨y, rfl, w1.1, ih _ G H1 σ ρ1 τ δ Q h1.pop w1.2⟩
    · exact w1.elim
theorem eJs {ts : List TE} {ms : List ME} (h : JOk K W ts ms) : EOk K W (fun σ H Q => tJs ts Str.empty σ H fun out H1 => Q (.str out) H1) (jsM ms Str.empty) := fun G H σ ρ τ δ Q hr w => js_go h _ G H σ ρ τ δ Q hr w
def mVarF (i : Nat) : ME := ⟨fun ρ Q _ => match ρ[i]? with
  | some (.sh d) => Q (.sh d) ρ
  | some (.ow _ d) => Q (.sh d) (ρ.set i (.sh d))
  | _ => False, fun {ρ Q Q' E E'} h _ w => by
    revert w
    split
    · exact fun w => h _ _ w
    · exact fun w => h _ _ w
    · exact id⟩
theorem eVarF {i : Nat} : EOk K W (tVar i) (mVarF i) := by
  intro G H σ ρ τ δ Q h w
  unfold mVarF at w
  simp only at w
  split at w
  · rename_i d e
    obtain ⟨v, e1, h1⟩ := h.get e
    exact ⟨v, e1, w v H h1⟩
  · rename_i z d e
    have hlt : i < ρ.length := by
      rcases Nat.lt_or_ge i ρ.length with q | q
      · exact q
      · rw [List.getElem?_eq_none q] at e; cases e
    have h1 := h.fzAt e
    obtain ⟨v, e1, h2⟩ := h1.get (i := i) (d := d) (by rw [List.getElem?_set_self hlt]; rfl)
    exact ⟨v, e1, w v H h2⟩
  · exact w.elim
def mMv (i : Nat) : ME := ⟨fun ρ Q _ => match ρ[i]? with
  | some (.ow z d) => Q (.ow z d) (ρ.set i .un)
  | some (.sh d) => Q (.sh d) ρ
  | _ => False, fun {ρ Q Q' E E'} h _ w => by
    revert w
    split
    · exact fun w => h _ _ w
    · exact fun w => h _ _ w
    · exact id⟩
theorem eMv {i : Nat} : EOk K W (tVar i) (mMv i) := by
  intro G H σ ρ τ δ Q h w
  unfold mMv at w
  simp only at w
  split at w
  · rename_i z d e
    obtain ⟨F, f1, f2, g, ht, hs⟩ := h
    obtain ⟨o, l, f, r, e1, e2, h1, k⟩ := hs.at e
    cases h1 with
    | ow q =>
      rename_i v
      refine ⟨v, e2, w v H ?_⟩
      have h3 := k (some v) .un [] .un
      rw [set_same e2] at h3
      subst e1
      exact ⟨F, f ++ f1, _, g.cnt (by intro a; simp only [List.count_append, List.count_nil]; omega), .cons (.ow q) ht, h3⟩
  · rename_i d e
    obtain ⟨v, e1, h1⟩ := h.get e
    exact ⟨v, e1, w v H h1⟩
  · exact w.elim
def mIxO (i : Nat) (ix : ME) : ME := isOwnL i (ix.bind fun j => match j with
  | .sh (.int n) => ownL i fun ds => match atI ds n with
    | some d => some (True, ds, .sh d)
    | none => none
  | _ => M.stuck)
theorem eIxO {i : Nat} {ti : TE} {mi : ME} (hi : EOk K W ti mi) : EOk K W (tOp (rIxL K) (tVar i) ti) (mIxO i mi) := fun G H σ ρ τ δ Q h w => by
  obtain ⟨s0, ds0, e0, eo0, w'⟩ := isOwnL_go w
  clear w
  obtain ⟨F, f1, l, vs, ht, hl, e1, hh, rl, kv, k⟩ := h.ownL e0 eo0
  refine ⟨_, e1, hi G H σ ρ _ _ _ h (mi.mono (fun j ρ1 w1 u H1 h1 => ?_) (fun _ _ z => z) w')⟩
  simp only at w1
  split at w1
  · rename_i n
    obtain rfl := h1.topv (u := .int n) rfl
    obtain ⟨s1, ds, p, ds', a, e2, eo, ef, hp, q⟩ := ownL_go w1
    split at ef
    · rename_i d ed
      cases ef
      obtain ⟨F2, f2, l2, vs2, ht2, hl2, e3, hh2, rl2, kv2, k2⟩ := h1.pop.ownL e2 eo
      rw [e1] at e3
      cases e3
      obtain ⟨v, ev, rv⟩ := rl2.atI ed
      refine ⟨l, vs2, n, v, rfl, rfl, SqL.of hh2, ev, q _ _ ?_⟩
      have hput : s1.put (.ol .fr) (.lst ds) = s1 := by
        cases s1 with
        | ow z d => cases eo; rfl
        | le v z d => cases eo; rfl
        | _ => cases eo
      rw [hput, set_same e2]
      exact kv2 v d rv
    · cases ef
  · exact w1.elim
theorem ePow {a b n : Int} (h : CPow a b) (e : a ^ b.toNat = n) : EOk K W (tOp (rI CPow fun i j => .int (i ^ j.toNat)) (tC (.int a)) (tC (.int b))) (mC (.int n)) := fun G H σ ρ τ δ Q hr w => ⟨a, b, rfl, rfl, h, w _ _ (hr.push (by show some (V.int n) = some (V.int (a ^ b.toNat)); rw [e]))⟩
theorem Rel.cls (h : Rel K G H σ ρ τ δ) (c : Nat) : Rel K G H σ ρ (some (.ref (He.ga K (cn c))) :: τ) (.sh (.cls c) :: δ) := by
  obtain ⟨F, f1, f2, g, ht, hs⟩ := h
  exact ⟨F, _, f2, g, .cons (f := []) (.sh (.cls c)) ht, hs⟩
def iOr (a b : MI) : MI := ⟨fun ρ Q E => a.wp ρ Q E ∨ b.wp ρ Q E, fun h h' w => w.elim (fun w => .inl (a.mono h h' w)) (fun w => .inr (b.mono h h' w))⟩
theorem wOr {w1 w2 : TI} {m1 m2 : MI} (h1 : IOk K W w1 m1) (h2 : IOk K W w2 m2) : IOk K W (fun σ H R => w1 σ H R ∨ w2 σ H R) (iOr m1 m2) := fun G H σ ρ τ δ R h w =>
  w.elim (fun w => .inl (h1 G H σ ρ τ δ R h w)) (fun w => .inr (h2 G H σ ρ τ δ R h w))
end
end Dl
namespace OpM
open PySem PySem.Spec PyProof.Rows L2
end OpM
namespace Dl
open PySem PySem.Spec PyProof.Rows L2
section
variable {K : PySem.W.Frag} {W W' : WS} {ta tb tc te ti tj tv : TE} {ma mb mc me mi' mj mv : ME} {t u : TS} {m k : MS} {tA tt : TT} {mA mt : MT} {G : Ent} {F H H' : Hp} {σ τ : L2.St} {ρ : Env} {δ : List Sl}
theorem OwnF.get : ∀ {ss : List Sh} {vs : List V} {ds : List D} {fp : List Addr} {i : Nat} {s : Sh}, OwnF K F H ss vs ds fp → ss[i]? = some s → ∃ v d l f r, vs[i]? = some v ∧ ds[i]? = some d ∧ fp = l ++ (f ++ r) ∧ Own K F H s v d f ∧
    ∀ F' H' s' v' d' f', Le F F' → (∀ a ∈ l ++ r, H' a = H a) → Own K F' H' s' v' d' f' → OwnF K F' H' (ss.set i s') (vs.set i v') (ds.set i d') (l ++ (f' ++ r))
  | _, _, _, _, i, s, .nil, e => by cases e
  | _, _, _, _, 0, s, .cons (f := f) (fp := fp) q r, e => by
    cases e
    exact ⟨_, _, [], f, fp, rfl, rfl, rfl, q, fun F' H' s' v' d' f' l hh q' => by
      have := OwnF.cons q' (r.mono l (fun a ha => hh a ha))
      exact this⟩
  | _, _, _, _, i + 1, s, .cons (f := f) (fp := fp) q r, e => by
    obtain ⟨v, d, l, f1, r1, e1, e2, e3, q1, k⟩ := OwnF.get (i := i) r e
    refine ⟨v, d, f ++ l, f1, r1, e1, e2, by rw [e3, List.append_assoc], q1, fun F' H' s' v' d' f' hl hh q' => ?_⟩
    rw [List.append_assoc]
    exact .cons (q.mono hl fun a ha => hh a (by simp [ha])) (k F' H' s' v' d' f' hl (fun a ha => hh a (by
      rcases List.mem_append.mp ha with z | z
      · simp [z]
      · simp [z])) q')
end
end Dl
namespace Dl
open PySem PySem.Spec PyProof.Rows L2
section
variable {K : PySem.W.Frag} {W W' : WS} {ta tb tc te ti tj tv : TE} {ma mb mc me mi' mj mv : ME} {t u : TS} {m k : MS} {tA tt : TT} {mA mt : MT} {G : Ent} {F H H' : Hp} {σ τ : L2.St} {ρ : Env} {δ : List Sl}
theorem OwnL.get {s : Sh} : ∀ {vs : List V} {ds : List D} {fp : List Addr} {i : Nat} {d : D}, OwnL K F H s vs ds fp → ds[i]? = some d → ∃ v l f r, vs[i]? = some v ∧ fp = l ++ (f ++ r) ∧ Own K F H s v d f ∧
    ∀ F' H' d' f', Le F F' → (∀ a ∈ l ++ r, H' a = H a) → Own K F' H' s v d' f' → OwnL K F' H' s vs (ds.set i d') (l ++ (f' ++ r))
  | _, _, _, i, d, .nil, e => by cases e
  | _, _, _, 0, d, .cons (f := f) (fp := fp) q r, e => by
    cases e
    exact ⟨_, [], f, fp, rfl, rfl, q, fun F' H' d' f' l hh q' => by
      have := OwnL.cons q' (r.mono l (fun a ha => hh a ha))
      exact this⟩
  | _, _, _, i + 1, d, .cons (f := f) (fp := fp) q r, e => by
    obtain ⟨v, l, f1, r1, e1, e3, q1, k⟩ := OwnL.get (i := i) r e
    refine ⟨v, f ++ l, f1, r1, e1, by rw [e3, List.append_assoc], q1, fun F' H' d' f' hl hh q' => ?_⟩
    rw [List.append_assoc]
    exact .cons (q.mono hl fun a ha => hh a (by simp [ha])) (k F' H' d' f' hl (fun a ha => hh a (by
      rcases List.mem_append.mp ha with z | z
      · simp [z]
      · simp [z])) q')
theorem OwnL.length {s : Sh} : ∀ {vs : List V} {ds : List D} {fp : List Addr}, OwnL K F H s vs ds fp → vs.length = ds.length
  | _, _, _, .nil => rfl
  | _, _, _, .cons _ r => congrArg (· + 1) r.length
theorem OwnL.app {s : Sh} : ∀ {vs vs' : List V} {ds ds' : List D} {fp fp' : List Addr}, OwnL K F H s vs ds fp → OwnL K F H s vs' ds' fp' → OwnL K F H s (vs ++ vs') (ds ++ ds') (fp ++ fp')
  | _, _, _, _, _, _, .nil, h => h
  | _, _, _, _, _, _, .cons q r, h => by rw [List.append_assoc]; exact .cons q (r.app h)
theorem Rel.at {i : Nat} {d : D} (h : Rel K G H σ ρ τ δ) (e : ρ[i]? = some (.sh d)) : ∃ F v, Le F H ∧ σ[i]? = some (some v) ∧ Rep K F v d := by
  obtain ⟨F, f1, f2, g, ht, hs⟩ := h
  obtain ⟨o, l, f, r, e1, e2, h1, k⟩ := hs.at e
  cases h1 with
  | sh r => exact ⟨F, _, g.sub, e2, r⟩
theorem Le.new {A : Hp} {p : Addr} {o : HO} (h : A p = none) : Le A (upd A p o) := fun a x e => by rw [upd_ne (fun z => by rw [z, h] at e; cases e)]; exact e
end
end Dl
namespace Dl
open PySem PySem.Spec PyProof.Rows L2
end Dl
namespace PySem
open Sem (wp)
section
variable {prog : Program} {w : World} {K : Type} [DecidableEq K] {knd : KeyKind prog w K} {A : Around} {E : Value → Shared → Prop} {s : Shared}
end
end PySem
namespace StX
open PySem PySem.Spec PyProof.Rows L2
open Sem (wp)
section
variable {X : Cx} {pos : Pos}
end
end StX
namespace Dl
open PySem PySem.Spec PyProof.Rows L2
def D.key : D → Option Key
  | .int i => some (.inl i)
  | .str x => some (.inr x)
  | _ => none
def D.pairs : D → Option (List (Key × D))
  | .dic es => some es
  | .dil es => some es
  | _ => none
def getE (es : List (Key × D)) (k : Key) : Option D := (es.find? fun p => decide (p.1 = k)).map (·.2)
def putE (es : List (Key × D)) (k : Key) (x : D) : List (Key × D) := if (es.any fun p => decide (p.1 = k)) = true then es.map (fun p => if p.1 = k then (p.1, x) else p) else es ++ [(k, x)]
section
variable {K : PySem.W.Frag} {W W' : WS} {ta tb tc te tn tk tv : TE} {ma mb mc me mn mk mv : ME} {t u : TS} {m k : MS} {tA tt : TT} {mA mt : MT} {tl : TA} {ml : MA} {G : Ent} {F H H' : Hp} {σ τ : L2.St} {ρ : Env} {δ : List Sl}
theorem Rep.key {v : V} {d : D} {k : Key} (h : Rep K F v d) (e : d.key = some k) : v = kV k := by
  cases h <;> first | (cases e; rfl) | (cases e; done)
theorem RepK.keys : ∀ {kvs : List (Key × V)} {es : List (Key × D)}, RepK K F kvs es → kvs.map (·.1) = es.map (·.1)
  | _, _, .nil => rfl
  | _, _, .cons r t => by rw [List.map_cons, List.map_cons, RepK.keys t]
theorem RepK.len {kvs : List (Key × V)} {es : List (Key × D)} (h : RepK K F kvs es) : kvs.length = es.length := by
  have := congrArg List.length h.keys
  simpa using this
theorem RepK.val : ∀ {kvs : List (Key × V)} {es : List (Key × D)}, RepK K F kvs es → ∀ k, (∃ v d, valV kvs k = some v ∧ getE es k = some d ∧ Rep K F v d) ∨ (valV kvs k = none ∧ getE es k = none)
  | _, _, .nil, k => .inr ⟨rfl, rfl⟩
  | _, _, .cons (k := k0) (v := v) (d := d) r t, k => by
    by_cases e : k0 = k
    · exact .inl ⟨v, d, valV_pos (p := (k0, v)) e, by simp [getE, List.find?_cons, e], r⟩
    · rw [valV_neg (p := (k0, v)) e]
      have : ∀ es : List (Key × D), getE ((k0, d) :: es) k = getE es k := fun es => by simp [getE, List.find?_cons, e]
      rw [this]
      exact RepK.val t k
theorem RepK.any : ∀ {kvs : List (Key × V)} {es : List (Key × D)}, RepK K F kvs es → ∀ k, (kvs.any fun p => decide (p.1 = k)) = es.any fun p => decide (p.1 = k)
  | _, _, .nil, k => rfl
  | _, _, .cons r t, k => by rw [List.any_cons, List.any_cons, RepK.any t k]
theorem RepK.app : ∀ {kvs kvs' : List (Key × V)} {es es' : List (Key × D)}, RepK K F kvs es → RepK K F kvs' es' → RepK K F (kvs ++ kvs') (es ++ es')
  | _, _, _, _, .nil, h => h
  | _, _, _, _, .cons r t, h => .cons r (t.app h)
theorem RepK.repl {k : Key} {v : V} {d : D} (q : Rep K F v d) : ∀ {kvs : List (Key × V)} {es : List (Key × D)}, RepK K F kvs es → RepK K F (kvs.map fun p => if p.1 = k then (p.1, v) else p) (es.map fun p => if p.1 = k then (p.1, d) else p)
  | _, _, .nil => .nil
  | _, _, .cons (k := k0) r t => by
    rw [List.map_cons, List.map_cons]
    by_cases e : k0 = k
    · rw [if_pos e, if_pos e]; exact .cons q (t.repl q)
    · rw [if_neg e, if_neg e]; exact .cons r (t.repl q)
theorem RepK.put {k : Key} {v : V} {d : D} {kvs : List (Key × V)} {es : List (Key × D)} (h : RepK K F kvs es) (q : Rep K F v d) : RepK K F (putK kvs k v) (putE es k d) := by
  unfold putK putE
  rw [h.any k]
  split
  · exact h.repl q
  · exact h.app (.cons q .nil)
theorem Rep.dict {v : V} {d : D} {es : List (Key × D)} (h : Rep K F v d) (l : Le F H) (e : d.pairs = some es) : ∃ a kvs, v = .ref a ∧ F a ≠ none ∧ Rd H a (.dK kvs) ∧ RepK K F kvs es := by
  cases h with
  | dic h r => cases e; exact ⟨_, _, rfl, (by rw [h]; intro z; cases z), .inl (l _ _ h), r⟩
  | dil h r => cases e; exact ⟨_, _, rfl, (by rw [h]; intro z; cases z), .inr ⟨_, l _ _ h⟩, r⟩
  | _ => cases e
end
end Dl
namespace Dl
open PySem PySem.Spec PyProof.Rows L2
section
variable {K : PySem.W.Frag} {W W' : WS} {ta tb tc te tn tk tv : TE} {ma mb mc me mn mk mv : ME} {t u : TS} {m k : MS} {tA tt : TT} {mA mt : MT} {tl : TA} {ml : MA} {G : Ent} {F H H' : Hp} {σ τ : L2.St} {ρ : Env} {δ : List Sl}
end
end Dl
namespace Cl
open PySem PySem.Spec PyProof.Rows L2
section
variable {X : Cx} {CX : CXT} {k n : Nat} {f C : Addr} {fd : FuncData} {ps ks : List Str} {sp : Sp} {E : L2.St → XK} {x m : Str} {p pos apos : Pos} {e o : Expr} {es : List Expr} {kws : List Keyword} {ta : TE} {t tk : TA} {g : List Value → List Value → List Value} {gV : List V → List V → List V}
end
end Cl
namespace Dl
open PySem PySem.Spec PyProof.Rows L2
section
variable {K : PySem.W.Frag} {W W' : WS} {ta tb tc te tn : TE} {ma mb mc me mn : ME} {t tk tB tl : TA} {mB ml : MB} {gV : List V → List V → List V} {n l c : Nat} {ds : M Sl}
end
end Dl
namespace Cl
open PySem PySem.Spec PyProof.Rows L2
end Cl
namespace Dl
open PySem PySem.Spec PyProof.Rows L2
end Dl
namespace Dl
open PySem PySem.Spec PyProof.Rows L2
section
variable {K : PySem.W.Frag} {W W' : WS} {ta tb tc te tn tk tv : TE} {ma mb mc me mn mk mv : ME} {t u : TS} {m k : MS} {tA tt : TT} {mA mt : MT} {tl : TA} {ml : MA} {G : Ent} {F H H' : Hp} {σ τ : L2.St} {ρ : Env} {δ : List Sl}
end
end Dl
namespace Dl
open PySem PySem.Spec PyProof.Rows L2
section
variable {K : PySem.W.Frag} {G : Ent} {F H H' : Hp} {σ τ : L2.St} {ρ : Env} {δ : List Sl}
theorem Rel.ext (h : Rel K G H σ ρ τ δ) (e : Ext H H') : Rel K G H' σ ρ τ δ := by
  obtain ⟨F, f1, f2, g, ht, hs⟩ := h
  have same : ∀ a, H a ≠ none → H' a = H a := fun a ha => by
    cases q : H a with
    | none => exact absurd q ha
    | some o => exact e a o q
  refine ⟨F, f1, f2, ⟨fun a o q => e a o (g.sub a o q), g.f0, g.fN, fun a o q n => e a o (g.frm a o q n), fun a q => ?_, g.own, g.nf, g.nd⟩, ht.mono Le.rfl fun a ha => same a (ht.here a ha), hs.mono Le.rfl fun a ha => same a (hs.here a ha)⟩
  have := g.all a q
  rw [same a this]
  exact this
def eqYes (c : Nat) (ds : M Sl) (fs : List D) : Prop := ds.wp [.sh (.obj c fs), .sh (.obj c fs)] (fun r _ => r = .sh (.bl true)) (fun _ _ => False)
def RObj (K : PySem.W.Frag) (c : Nat) (ds : M Sl) : Addr → Addr → Hp → Prop := fun a b H => ∃ fs, Rep K H (.ref a) (.obj c fs) ∧ Rep K H (.ref b) (.obj c fs) ∧ eqYes c ds fs
theorem robj_mon {c : Nat} {ds : M Sl} : ∀ a b H H', Ext H H' → RObj K c ds a b H → RObj K c ds a b H' := fun a b H H' e ⟨fs, r1, r2, q⟩ => ⟨fs, r1.mono e, r2.mono e, q⟩
theorem sp_eq {c : Nat} {ds : M Sl} : ∀ vs H Q E, spEq (RObj K c ds) vs H Q E → spOf K ds vs H Q E := fun vs H Q E h => by
  obtain ⟨a, b, rfl, ⟨fs, r1, r2, q⟩, k⟩ := h
  refine ⟨H, [.sh (.obj c fs), .sh (.obj c fs)], [], Le.rfl, .cons (f := []) (.sh r1) (.cons (f := []) (.sh r2) .nil), List.nodup_nil, fun a ha => (by cases ha), ds.mono (fun r as' e v H' hr => ?_) (fun _ _ z => z.elim) q⟩
  subst e
  obtain rfl := hr.topv (u := .bl true) rfl
  refine k H' fun a o e => ?_
  obtain ⟨F', g1, g2, g, _, _⟩ := hr
  exact g.frm a o e (by intro z; cases z)
def pEqL (c : Nat) (ds : M Sl) : D → D → Option (Prop × Sl)
  | .lst xs, .lst ys => some (xs = ys ∧ ∀ x ∈ xs, ∃ fs, x = .obj c fs ∧ eqYes c ds fs, .sh (.bl true))
  | _, _ => none
theorem r_eqL {c : Nat} {ds : M Sl} : R2Ok K (rEqG (DList (DIns (He.ga K (cn c)) (RObj K c ds)))) (op2P (pEqL c ds)) := by
  intro G H σ ρ τ δ x y s1 s2 Q E hr w
  obtain ⟨a, b, p, s, rfl, rfl, e, hp, q⟩ := op2P_go w
  obtain ⟨F, r1, r2, z⟩ := hr.top2
  unfold pEqL at e
  split at e
  · rename_i xs ys
    cases e
    obtain ⟨rfl, ho⟩ := hp
    cases r1 with
    | lst h1 k1 =>
      cases r2 with
      | lst h2 k2 =>
        refine ⟨⟨_, _, _, _, rfl, rfl, z.le _ _ h1, z.le _ _ h2, k1.len.trans k2.len.symm, fun i u v e1 e2 => ?_⟩, fun H' e => q _ _ ((hr.pop.pop.push rfl).ext e)⟩
        have hlt : i < xs.length := by
          rw [← k1.len]
          rcases Nat.lt_or_ge i _ with z | z
          · exact z
          · rw [List.getElem?_eq_none z] at e1; cases e1
        obtain ⟨u', g1, ru⟩ := k1.get (List.getElem?_eq_getElem hlt)
        obtain ⟨v', g2, rv⟩ := k2.get (List.getElem?_eq_getElem hlt)
        rw [e1] at g1
        rw [e2] at g2
        cases g1
        cases g2
        obtain ⟨fs, ex, hq⟩ := ho xs[i] (List.getElem_mem hlt)
        rw [ex] at ru rv
        have ru' := ru.mono z.le
        have rv' := rv.mono z.le
        cases id ru' with
        | obj a1 a2 a3 a4 =>
          cases id rv' with
          | obj b1 b2 b3 b4 => exact ⟨_, _, _, _, _, _, rfl, rfl, a1, b1, fs, ru', rv', hq⟩
  · cases e
end
end Dl
namespace Cl
open PySem PySem.Spec PyProof.Rows L2
end Cl
namespace Dl
open PySem PySem.Spec PyProof.Rows L2
section
variable {K : PySem.W.Frag} {W W' : WS} {ta tb tc te tn tk tv : TE} {ma mb mc me mn mk mv : ME} {t u : TS} {m k : MS} {tA tt : TT} {mA mt : MT} {tl : TA} {ml : MA} {G : Ent} {F H H' : Hp} {σ τ : L2.St} {ρ : Env} {δ : List Sl}
theorem OwnF.getD : ∀ {zs : List Sh} {vs : List V} {ds : List D} {fp : List Addr} {j : Nat} {z : Sh} {d : D}, OwnF K F H zs vs ds fp → zs[j]? = some z → ds[j]? = some d → ∃ v f, vs[j]? = some v ∧ Own K F H z v d f ∧ f.Sublist fp
  | _, _, _, _, 0, z, d, .cons (f := f) (fp := fp) h r, e1, e2 => by
    cases e1
    cases e2
    exact ⟨_, f, rfl, h, List.sublist_append_left _ _⟩
  | _, _, _, _, j + 1, z, d, .cons (f := f) (fp := fp) h r, e1, e2 => by
    obtain ⟨v, g, a1, a2, a3⟩ := OwnF.getD (j := j) r e1 e2
    exact ⟨v, g, a1, a2, a3.trans (List.sublist_append_right _ _)⟩
theorem atI_of {α : Type} {xs : List α} {j : Nat} {x : α} (e : xs[j]? = some x) : L2.atI xs ((j : Nat) : Int) = some x := atI_nat e
end
end Dl
namespace NeG
open PySem PySem.SeqAt GQ
open AutoSeq1 (wpAny_loadPart')
open MeetsSeq MeetsSeq2 MeetsSeq3 SeqRoads2
section
variable {prog : Program} {w : World} {A : Around} {R : Result → Shared → Prop}
theorem ne_loop (l b : Addr) (N : Nat) (I : Nat → Shared → Prop) (hl : ListI prog w A (fun e s' => R (.error e) s') l b N I)
    (fin : ∀ s, I N s → R (.ok (.ret (.bool false))) s) (k : Nat) :
    ∀ i : Nat, N - i = k → i ≤ N → ∀ s, I i s →
      wpAny (model prog w) A.in1 (Builtin.«list.__eq__.loop» ⟨[.ref l, .ref b, rawInt i, rawInt 3], []⟩) (FinOf prog w A R) (fun e s' => R (.error e) s') s := by
  induction k with
  | zero =>
    intro i hk hi s h
    obtain ⟨items, items2, n, n2, hl1, hb1, hs1, hs2, _⟩ := hl _ _ h
    have hi' : i = N := by omega
    have hR : R (.ok (.ret (.bool false))) s := fin s (hi' ▸ h)
    obtain ⟨hp, g, d, tk, os⟩ := s
    wp_walk using wpAny_loadPart' hl1, wpAny_loadPart' hb1
    have hi1 : items[((i : Nat) : Int).toNat]? = none := by simp; omega
    have hi2 : items2[((i : Nat) : Int).toNat]? = none := by simp; omega
    rw [hi1, hi2]
    wp_walk using wpAny_loadPart' hl1, wpAny_loadPart' hb1
    show R (.ok (.ret (.bool (items.size != items2.size)))) _
    rw [hs1, hs2]
    simpa using hR
  | succ k ih =>
    intro i hk hi s h
    obtain ⟨items, items2, n, n2, hl1, hb1, hs1, hs2, turn⟩ := hl _ _ h
    have hlt : i < items.size := by omega
    have hlt2 : i < items2.size := by omega
    have ht := turn hlt hlt2
    obtain ⟨hp, g, d, tk, os⟩ := s
    wp_walk using wpAny_loadPart' hl1, wpAny_loadPart' hb1
    have hi1 : items[((i : Nat) : Int).toNat]? = some items[i] := by simp [hlt]
    have hi2 : items2[((i : Nat) : Int).toNat]? = some items2[i] := by simp [hlt2]
    have hc : ((i : Int) + 1) = ((i + 1 : Nat) : Int) := by omega
    rw [hi1, hi2]
    refine wpAny_bind (wpAny_mono ht (fun r s2 h2 => ?_) fun _ _ x => x)
    obtain ⟨hr, h2⟩ := h2
    subst hr
    have hrec := ih (i + 1) (by omega) (by omega) s2 h2
    obtain ⟨hp2, g2, d2, tk2, os2⟩ := s2
    wp_walk
    rw [hc]
    exact ⟨plainId_quiet plain_eq_loop _, codeAny_builtin entry_eq_loop (by
      rw [Around.under_plainId plain_eq_loop _]
      exact hrec)⟩
theorem list_ne (l b : Addr) (N : Nat) (I : Nat → Shared → Prop) (hl : ListI prog w A (fun e s' => R (.error e) s') l b N I)
    (fin : ∀ s, I N s → R (.ok (.ret (.bool false))) s) {s : Shared} (h : I 0 s) :
    wpAny (model prog w) A.in1 (Builtin.«list.__ne__» ⟨[.ref l, .ref b], []⟩) (FinOf prog w A R) (fun e s' => R (.error e) s') s := by
  obtain ⟨items, items2, n, n2, hl1, hb1, hs1, hs2, _⟩ := hl _ _ h
  have hrec := ne_loop (A := A) (R := R) l b N I hl fin _ 0 rfl (Nat.zero_le _) s h
  obtain ⟨hp, g, d, tk, os⟩ := s
  have f3 := AutoSeq1.sub_list_list
  have hne : ¬ (items.size != items2.size) = true := by simp [hs1, hs2]
  wp_walk using wpAny_loadPart' hl1, wpAny_loadPart' hb1
  exact ⟨plainId_quiet plain_eq_loop _, codeAny_builtin entry_eq_loop (by
    rw [Around.under_plainId plain_eq_loop _]
    exact hrec)⟩
end
section
variable {prog : Program} {w : World} {A : Around} {E : Value → Shared → Prop} {s : Shared}
theorem rc_list {l b : Addr} {N : Nat} {Q : Value → Shared → Prop} (hu : A.units < cLine) (I : Nat → Shared → Prop) (hl : ListI prog w A E l b N I)
    (fin : ∀ s, I N s → Q (.bool false) s) (h : I 0 s) : wpAny (model prog w) A (richCompare .NotEq (.ref l) (.ref b)) Q E s := by
  obtain ⟨items, items2, n, n2, hl1, hb1, _, _, _⟩ := hl _ _ h
  refine wpAny_richCompare_same_room (op := .NotEq) ⟨_, hl1, rfl⟩ ⟨_, hb1, rfl⟩ F.slot_list_ne (call_here F.slot_list_ne ⟨_, hl1, rfl⟩ F.entry_list_ne (F.args_list_ne_2 _ _) ?_) hu
  exact list_ne (R := wants (fun v s' => v ≠ .notImplemented ∧ Q v s') E) l b N I hl (fun s' q => ⟨(fun x => nomatch x), fin s' q⟩) h
end
end NeG
namespace L2
open PySem PySem.Spec PyProof.Rows
section
variable {X : Cx} {n : Nat} {D : Eqv}
def RcN (X : Cx) (n : Nat) (D : Eqv) : Prop :=
  ∀ (A : Around) (pins : List (Addr × Obj)) (s : Shared) (σ : St) (H : Hp) (x y : V) (u v : Value), Sub X n A → Inv X pins σ H s → RelV x u → RelV y v → D x y H →
    wpAny (model X.prog X.w) A (richCompare .NotEq u v) (fun r s' => r = .bool false ∧ ∃ H', Inv X pins σ H' s' ∧ Ext H H') X.xe s
theorem rcN_list (hD : Mon D) (h : EqG X n D) : RcN X (n + 1) (DList D) := by
  intro A pins s σ H x y u v sb I rx ry d
  obtain ⟨a, b, xs, ys, rfl, rfl, ha, hb, p⟩ := d
  cases rx
  cases ry
  refine NeG.rc_list (N := xs.length) sb.room.units0 (fun _ s' => LoopI X pins σ H s') (fun i s' q => ?_) (fun s' q => ⟨rfl, q⟩) ⟨H, I, Ext.rfl'⟩
  obtain ⟨H1, I1, e1⟩ := id q
  obtain ⟨z, its, k, r, e⟩ := I1.hok a _ (e1 _ _ ha)
  obtain ⟨z2, its2, k2, r2, e2⟩ := I1.hok b _ (e1 _ _ hb)
  refine ⟨its.toArray, its2.toArray, k, k2, e, e2, by rw [List.size_toArray, ← r.length], by rw [List.size_toArray, ← r2.length, ← p.1], fun h1 h2 => ?_⟩
  exact turnG hD h sb p r r2 i h1 h2 s' q
def rNeG (D : Eqv) : R2 := fun x y H Q => D x y H ∧ ∀ H', Ext H H' → Q (.bl false) H'
theorem op_neG (h : RcN X n D) (hr : Room n X.A) : OpR X (compareOp .NotEq) (rNeG D) := by
  intro pins s σ H x y v u Q I rx ry hq
  obtain ⟨d, q⟩ := hq
  show wpAny (model X.prog X.w) X.A (richCompare .NotEq v u) (EP X pins σ Q) X.xe s
  refine wpAny_mono (h X.A pins s σ H x y v u ⟨hr, rfl⟩ I rx ry d) (fun r s' z => ?_) fun _ _ x => x
  obtain ⟨hr', H', I', e⟩ := z
  subst hr'
  exact ⟨.bl false, H', I', rfl, q H' e⟩
end
end L2
namespace Dl
open PySem PySem.Spec PyProof.Rows L2
section
variable {K : PySem.W.Frag}
def pNeL (c : Nat) (ds : M Sl) : D → D → Option (Prop × Sl)
  | .lst xs, .lst ys => some (xs = ys ∧ ∀ x ∈ xs, ∃ fs, x = .obj c fs ∧ eqYes c ds fs, .sh (.bl false))
  | _, _ => none
theorem r_neL {c : Nat} {ds : M Sl} : R2Ok K (rNeG (DList (DIns (He.ga K (cn c)) (RObj K c ds)))) (op2P (pNeL c ds)) := by
  intro G H σ ρ τ δ x y s1 s2 Q E hr w
  obtain ⟨a, b, p, s, rfl, rfl, e, hp, q⟩ := op2P_go w
  unfold pNeL at e
  split at e
  · rename_i xs ys
    cases e
    have yes : (op2P (pEqL c ds) (.sh (.lst xs)) (.sh (.lst ys))).wp ρ (fun s ρ' => ∀ v H', Rel K G H' σ ρ' (some v :: τ) (s :: δ) → v = .bl true → True) E := ⟨hp, fun _ _ _ _ => trivial⟩
    have hd := (r_eqL (K := K) (c := c) (ds := ds) G H σ ρ τ δ x y _ _ (fun _ _ => True) E hr ⟨hp, fun _ _ _ => trivial⟩).1
    exact ⟨hd, fun H' e => q _ _ ((hr.pop.pop.push rfl).ext e)⟩
  · cases e
end
end Dl
namespace Cl
open PySem PySem.Spec PyProof.Rows L2
theorem neLs {X : Cx} (K : PySem.W.Frag) {k c : Nat} {f : Addr} {fd : FuncData} {ps : List Str} {ds : Dl.M Dl.Sl} (O : OpM.Own K (He.ga K (Dl.cn c)) "__eq__" f) (F : FnOk X.prog X.w X.K X.mg X.base (L2.CX X.prog X.w) k f fd ps (Dl.spOf K ds)) (hb : Binds X.K fd ps []) (hr : Room (k + 1) X.A) (hK : X.K = K := by rfl) :
    OpR X (compareOp .NotEq) (rNeG (DList (DIns (He.ga K (Dl.cn c)) (Dl.RObj K c ds)))) := by
  subst hK
  exact op_neG (rcN_list (mon_ins Dl.robj_mon) (eqG_ins (E := fun _ _ _ => False) (F.imp Dl.sp_eq) O.at_ O.fn hb fun pins σ H s e s' I z => none_ σ pins H s e s' I z)) hr
end Cl
namespace Cl
open PySem PySem.Spec PyProof.Rows L2
end Cl
namespace Dl
open PySem PySem.Spec PyProof.Rows L2
section
variable {K : PySem.W.Frag}
end
end Dl
namespace Dl
open PySem PySem.Spec PyProof.Rows L2
section
variable {K : PySem.W.Frag} {W : WS} {te tf : TE} {me mf : ME}
end
end Dl
namespace TryM
open PySem PySem.Spec PyProof.Rows L2
abbrev Sui := Addr → Value → Option Addr → TS
def NmOk (X : Cx) : Option Str → Option Nat → Prop
  | none, none => True
  | some n, some i => X.N.Nodup ∧ X.N[i]? = some n ∧ X.env.kindOf n = some .local
  | _, _ => False
inductive HdM (X : Cx) : List ExceptHandler → List (Value × Option Nat × Sui) → Prop
  | nil : HdM X [] []
  | cons {x : Str} {c : Value} {m : Option Str} {o : Option Nat} {t : Sui} {b : Stmt} {bs : List Stmt} {p q : Pos} {hs : List ExceptHandler} {l : List (Value × Option Nat × Sui)} (hc : Names X x c) (hm : NmOk X m o)
      (ht : ∀ (a : Addr) (u : Obj) (cls : Value) (d : Option Addr) (pn : List (Addr × Obj)), Zc cls d u → (∃ vs, u.data = .fields vs) → PSs (X.suite a ((a, u) :: pn)) (b :: bs) (t a cls d)) (r : HdM X hs l) :
      HdM X (.ExceptHandler (some (.Name x p)) m (b :: bs) q :: hs) ((c, o, t) :: l)
structure Landed (X : Cx) (pins : List (Addr × Obj)) (B : Heap) (a : Addr) (cls : Value) (d : Option Addr) (r : L2.St) (H : Hp) (sI s : Shared) (h : Heap) : Prop where
  inv : Inv X pins r H sI
  old : ∀ b o, sI.heap.get? b = some o → b ∉ frs X.stack → B.get? b = some o
  fly : HandSPX.FlyingZ B (X.env :: X.outer) a (Zc cls d) h
  slo : sI.heap.UpToSlots h
  osE : s.os = sI.os
  bar : AllBare s.gens
  new : H a = none
section
variable {X : Cx} {pins : List (Addr × Obj)} {D : Ends} {Wo : WX} {B : Heap} {a : Addr} {cls : Value} {d : Option Addr} {r : L2.St} {H : Hp} {sI s : Shared} {h : Heap}
theorem Landed.up (L : Landed X pins B a cls d r H sI s h) {h' : Heap} (f : HandSPX.FlyingZ B (X.env :: X.outer) a (Zc cls d) h') (u : h.UpToSlots h') : Landed X pins B a cls d r H sI s h' :=
  ⟨L.inv, L.old, f, L.slo.trans u, L.osE, L.bar, L.new⟩
theorem Landed.here (L : Landed X pins B a cls d r H sI s h) (hf : X.env.frame = some X.env.locals) : ∃ u vs, h.get? a = some u ∧ Zc cls d u ∧ u.data = .fields vs ∧ Inv X pins r H { s with heap := h } ∧ Inv (X.suite a ((a, u) :: (X.pn ++ pins))) [] r H { s with heap := h } := by
  have I : Inv X pins r H { s with heap := h } := L.inv.landed L.old L.fly.1 L.slo L.osE L.bar
  obtain ⟨u, vs, hu, hz, hd⟩ := L.fly.there
  have no : a ∉ frs (X.env :: X.outer) := fun m => by
    obtain ⟨_, u', e, n⟩ := L.fly.2.2.1.mem m
    cases hu.symm.trans e
    exact n _ hd
  refine ⟨u, vs, hu, hz, hd, I, I.suite hu hd L.new (fun z => no ?_) (fun m => no ?_)⟩
  · exact List.mem_filterMap.mpr ⟨_, List.mem_cons_self, z ▸ hf⟩
  · obtain ⟨v, hv, q⟩ := List.mem_filterMap.mp m
    exact List.mem_filterMap.mpr ⟨v, List.mem_cons_of_mem _ hv, q⟩
end
end TryM
namespace Dl
open PySem PySem.Spec PyProof.Rows L2
abbrev HdD := (Nat → Option Bool) × Option Nat × (Addr → Addr → Nat → MS)
section
variable {K : PySem.W.Frag}
inductive NOk (K : PySem.W.Frag) : List (Value × Option Nat × TryM.Sui) → List HdD → Prop
  | nil : NOk K [] []
  | cons {c : Value} {o : Option Nat} {ts : TryM.Sui} {tbl : Nat → Option Bool} {mh : Addr → Addr → Nat → MS} {l : List (Value × Option Nat × TryM.Sui)} {m : List HdD} (ht : ∀ n b, tbl n = some b → PySem.W.exmOne K (.ref (He.ga K (en n))) c = some b)
      (hh : ∀ a dd n, SOk K (fun _ _ _ _ => False) (ts a (.ref (He.ga K (en n))) (dOf n dd)) (mh a dd n)) (r : NOk K l m) : NOk K ((c, o, ts) :: l) ((tbl, o, mh) :: m)
end
end Dl
namespace Cl
open PySem PySem.Spec PyProof.Rows L2
def pm {α : Type} : List Nat → List α → List α
  | [], _ => []
  | i :: is, l => match l[i]? with
    | some x => x :: pm is l
    | none => pm is l
end Cl
namespace PySem
namespace ErrX
open PySem.W PySem.Calls PyProof.Rows PySem.HandSPX
def iBL (x f msg : Str) (q1 q2 q3 q4 q5 q6 q7 q8 q9 q10 qa qb : Pos) : List Stmt :=
  [.Expr (.Call (.Attribute (.Call (.Name "super" q1) [] [] q2) "__init__" q3) [.Constant (.str msg) 0 q4] [] q5) q6,
   .Assign [.Attribute (.Name "self" q7) f q8] (.Call (.Name "list" qa) [.Name x q9] [] qb) q10]
def iSL (x : Str) : Scope := { kind := .function, names := [(PySem.Str.ofString "self", .local), (x, .local), (PySem.Str.ofString "__class__", .free), (PySem.Str.ofString "super", .globalImplicit), (PySem.Str.ofString "list", .globalImplicit)], isGenerator := false, isCoroutine := false, more := [] }
structure ErrTxtL (P : Program) (K : Frag) (C : Addr) (x f : Str) : Prop where
  cls : ∃ nm q N bs bm sn sub ab col dd k0 k1 k2 k3 k5, K.lookup C = some (excClassObj nm q C N bs bm true sn sub ab col dd k0 k1 k2 k3 k5 "ValueError.__new__") ∧ refsVE bm = true
  along : ∃ cd, clsIn K C = some cd ∧ alongIn K "__init__" ((cd.mro.dropWhile (· != .ref C)).drop 1) = some (some (.builtin "ValueError.__init__"))
  opq : nsIn K cStatics "thirdparty.any" = some none
  selfC : mroIn K C (.ref C) = some true
  ve : subIn K (.ref C) (.type "ValueError") = some true
  sa : findIn K (.ref C) "__setattr__" = some (some (.builtin "object.__setattr__"))
  ga : findIn K (.ref C) "__getattribute__" = some (some (.builtin "BaseException.__getattribute__"))
  gg : findIn K (.ref C) "__getattr__" = some none
  noN : findIn K (.ref C) f = some none
  kC : keepIn K (.ref C) = true
  exC : subIn K (.ref C) (.type "BaseException") = some true
  tyC : typeIn K (.ref C) = some (.type "type")
  hdC : hasDictIn K C = true
  fn : ∃ fI, findIn K (.ref C) "__init__" = some (some (.ref fI)) ∧ typeIn K (.ref fI) = some (.type "function") ∧
    ∃ (oc : Value) (od : Option Addr) (doc pm kV : Value) (an : Option Addr) (cda cc : Addr) (ct : Value) (osl : Array (Option Value)) (nm qual msg : Str) (p1 p2 q1 q2 q3 q4 q5 q6 q7 q8 q9 q10 qa qb : Pos),
      (q3.endLine == q5.line) = true ∧ K.lookup fI = some ⟨oc, od, .func (ksFn nm qual (iA x p1 p2) (iBL x f msg q1 q2 q3 q4 q5 q6 q7 q8 q9 q10 qa qb) (iSL x) .none kV doc pm an (.ref cda) ct cc), osl⟩ ∧ codeIn K (.ref cda) qual = true ∧
      (∃ ccl cdd vs ccs file tf, K.lookup cda = some ⟨ccl, cdd, .fields vs, ccs⟩ ∧ vs[2]? = some (.str file tf) ∧ ((P.main.file : Str) == file) = true) ∧
      ∃ cl cld csl, K.lookup cc = some ⟨cl, cld, .cell (some (.ref C)), csl⟩
  topl : (P.main.scope.names.lookup ("list" : Str)).isSome = false
  top : (P.main.scope.names.lookup ("super" : Str)).isSome = false
  xs : (x == ("self" : Str)) = false
  xc : (("__class__" : Str) == x) = false
  xu : (("super" : Str) == x) = false
  xl : (("list" : Str) == x) = false
  xd : (x == ("__debug__" : Str)) = false
  bnd : ∀ (nm qual : Str) (Bd : List Stmt) (kV doc pm : Value) (an : Option Addr) (cdv ct : Value) (cc : Addr) (p1 p2 : Pos) (u v : Value), bindArgs (ksFn nm qual (iA x p1 p2) Bd (iSL x) .none kV doc pm an cdv ct cc) ⟨[u, v], []⟩ = pure [(("self" : Str), u), (x, v)]
structure InitEndL (h h' : Heap) (e C dx : Addr) (f : Str) (l : Addr) (items : Array Value) (cl : Nat) : Prop where
  ini : InitEnd h h' e C dx f (.ref l)
  lbig : h.objs.size ≤ l
  lne : l ≠ e
  lnd : l ≠ dx
  lobj : h'.get? l = some { cls := .type "list", dict := none, data := .seq items cl, slots := #[] }
structure MadeL (h h' : Heap) (e C d : Addr) (f : Str) (l : Addr) (items : Array Value) (cl : Nat) : Prop where
  made : Made h h' e C d f (.ref l)
  lbig : h.objs.size ≤ l
  lne : l ≠ e
  lnd : l ≠ d
  lobj : h'.get? l = some { cls := .type "list", dict := none, data := .seq items cl, slots := #[] }
section
variable {prog : Program} {w : World} {A : Around} {E : Value → Shared → Prop} {R : Result → Shared → Prop} {s : Shared} {K : Frag} {mg mb : Str → Option Value} {C : Addr} {x f : Str}
end
end ErrX
end PySem
namespace L2
open PySem PySem.Spec PyProof.Rows
section
variable {X : Cx} {C : Addr} {x f nm : Str}
end
end L2
namespace Hd
open PySem PySem.Spec PyProof.Rows L2 He
end Hd
namespace ScI
open PySem PySem.Spec PyProof.Rows L2
section
variable {X : Cx}
end
end ScI
namespace L2
open PySem PySem.Spec PyProof.Rows
end L2
namespace Dl
open PySem PySem.Spec PyProof.Rows L2
section
variable {K : PySem.W.Frag} {W : WS} {ta te : TE} {ma me : ME} {tt : TT} {mt : MT} {g : TG} {mg : MG} {vs : List Nat}
def RelQ (K : PySem.W.Frag) (G : Ent) (H : Hp) (σ : L2.St) (ρ : Env) (τ : L2.St) (δ : List Sl) (q : Addr) : Prop := ∃ F f1 f2, Good G F H (f1 ++ f2) ∧ Slots K F H τ δ f1 ∧ Slots K F H σ ρ f2 ∧ q ∉ f1 ++ f2 ∧ F q = none ∧ G.H q = none
theorem RelQ.start {G : Ent} {H : Hp} {σ τ : L2.St} {ρ : Env} {δ : List Sl} {q : Addr} {o : HO} (h : Rel K G H σ ρ τ δ) (hq : H q = none) : RelQ K G (upd H q o) σ ρ τ δ q := by
  obtain ⟨F, f1, f2, g, a, b⟩ := h
  have hin : ∀ x ∈ f1 ++ f2, H x ≠ none := fun x hx => (List.mem_append.mp hx).elim (a.here x) (b.here x)
  have nq : q ∉ f1 ++ f2 := fun z => hin q z hq
  have ne : ∀ x ∈ f1 ++ f2, upd H q o x = H x := fun x hx => upd_ne fun z => nq (z ▸ hx)
  have Fq : F q = none := by
    cases e : F q with
    | none => rfl
    | some u => have := g.sub q u e; rw [hq] at this; cases this
  have Gq : G.H q = none := by
    cases e : G.H q with
    | none => rfl
    | some u => exact absurd hq (g.all q (by rw [e]; exact fun z => by cases z))
  exact ⟨F, f1, f2, (g.newO hin hq o).less (List.sublist_cons_self _ _), a.mono Le.rfl fun x hx => ne x (List.mem_append_left _ hx), b.mono Le.rfl fun x hx => ne x (List.mem_append_right _ hx), nq, Fq, Gq⟩
theorem RelQ.put {G : Ent} {H : Hp} {σ τ : L2.St} {ρ : Env} {δ : List Sl} {q : Addr} {o : HO} (h : RelQ K G H σ ρ τ δ q) : RelQ K G (upd H q o) σ ρ τ δ q := by
  obtain ⟨F, f1, f2, g, a, b, nq, Fq, Gq⟩ := h
  have ne : ∀ x ∈ f1 ++ f2, upd H q o x = H x := fun x hx => upd_ne fun z => nq (z ▸ hx)
  refine ⟨F, f1, f2, ⟨fun x u e => ?_, g.f0, g.fN, fun x u e hn => ?_, fun x e => ?_, g.own, g.nf, g.nd⟩, a.mono Le.rfl fun x hx => ne x (List.mem_append_left _ hx), b.mono Le.rfl fun x hx => ne x (List.mem_append_right _ hx), nq, Fq, Gq⟩
  · rw [upd_ne fun z => by rw [z, Fq] at e; cases e]
    exact g.sub x u e
  · rw [upd_ne fun z => by rw [z, Gq] at e; cases e]
    exact g.frm x u e hn
  · by_cases z : x = q
    · rw [z, upd_same]; exact fun z => by cases z
    · rw [upd_ne z]; exact g.all x e
end
end Dl
namespace Dl
open PySem PySem.Spec PyProof.Rows L2
section
variable {K : PySem.W.Frag} {W : WS} {ta : TE} {ma : ME} {tl : TA} {ml : MB}
end
end Dl
namespace Dl
open PySem PySem.Spec PyProof.Rows L2
section
variable {K : PySem.W.Frag} {W : WS} {te : TE} {me : ME} {tA : TT} {mA : MT}
end
end Dl
namespace OpM
open PySem PySem.Spec PyProof.Rows L2
section
variable {X : Cx} {CX : CXT} {k : Nat} {f C : Addr} {sp : Sp} {E : L2.St → XK} {pos : Pos} {a b : Expr} {ta tb : TE}
end
end OpM
namespace Dl
open PySem PySem.Spec PyProof.Rows L2
section
variable {K : PySem.W.Frag} {W : WS} {G : Ent} {H : Hp} {σ τ : L2.St} {ρ δ : List Sl} {ta tb : TE} {ma mb : ME}
end
end Dl
namespace Dl
open PySem PySem.Spec PyProof.Rows L2
section
variable {K : PySem.W.Frag} {W : WS} {G : Ent} {H : Hp} {σ τ : L2.St} {ρ δ : List Sl}
end
end Dl
namespace OpM
open PySem PySem.Spec PyProof.Rows L2
variable {X : Cx} {o e : Expr} {es : List Expr} {to : TE} {t : TA} {name : Str} {apos cpos : Pos} {TT id : String} {r : V → List V → Hp → VK → Prop}
end OpM
namespace Dl
open PySem PySem.Spec PyProof.Rows L2
section
variable {K : PySem.W.Frag} {W : WS} {te : TE} {me : ME} {tt tt1 : TT} {mt mt1 : MT}
end
end Dl
namespace Dl
open PySem PySem.Spec PyProof.Rows L2
section
variable {X : Cx} {K : PySem.W.Frag}
end
end Dl
namespace Dl
open PySem PySem.Spec PyProof.Rows L2
mutual
/-- no list within -/
def D.noL : D → Bool
  | .non => true
  | .bl _ => true
  | .int _ => true
  | .str _ => true
  | .lst _ => false
  | .tup xs => D.noLs xs
  | .dic es => D.noLk es
  | .dil es => D.noLk es
  | .obj _ fs => D.noLs fs
  | .cls _ => true
  | .scr => false
  | .idn _ _ => false
def D.noLs : List D → Bool
  | [] => true
  | d :: ds => D.noL d && D.noLs ds
def D.noLk : List (Key × D) → Bool
  | [] => true
  | (_, d) :: ds => D.noL d && D.noLk ds
end
section
variable {K : PySem.W.Frag} {G : Ent} {F F3 H H' : Hp} {σ τ : L2.St} {ρ δ : List Sl} {v x : V} {s : Sl} {d : D}
def OffL (F F3 : Hp) : Prop := ∀ a o, F a = some o → F3 a = some o ∨ ∃ xs, o = .lst xs
theorem rd_off (l : OffL F F3) {a : Addr} {u : HO} (hu : ∀ xs, u ≠ .lst xs) (h : Rd F a u) : Rd F3 a u := by
  rcases h with h | ⟨o, h⟩
  · rcases l a _ h with z | ⟨xs, z⟩
    · exact .inl z
    · exact absurd z (hu xs)
  · rcases l a _ h with z | ⟨xs, z⟩
    · exact .inr ⟨o, z⟩
    · cases z
theorem sqt_off (l : OffL F F3) {a : Addr} {vs : List V} (h : SqT K F a vs) : SqT K F3 a vs := by
  rcases h with h | h
  · exact .inl (rd_off l (fun _ z => by cases z) h)
  · exact .inr h
mutual
theorem Rep.off (l : OffL F F3) : ∀ {v : V} {d : D}, Rep K F v d → D.noL d = true → Rep K F3 v d
  | _, _, .non, _ => .non
  | _, _, .bl b, _ => .bl b
  | _, _, .int i, _ => .int i
  | _, _, .str x, _ => .str x
  | _, _, .lst h r, e => by unfold D.noL at e; cases e
  | _, _, .tup h r, e => .tup (sqt_off l h) (RepL.off l r (by unfold D.noL at e; exact e))
  | _, _, .dic h r, e => .dic ((l _ _ h).resolve_right fun ⟨_, z⟩ => by cases z) (RepK.off l r (by unfold D.noL at e; exact e))
  | _, _, .dil h r, e => .dil ((l _ _ h).resolve_right fun ⟨_, z⟩ => by cases z) (RepK.off l r (by unfold D.noL at e; exact e))
  | _, _, .obj h h' n r, e => .obj ((l _ _ h).resolve_right fun ⟨_, z⟩ => by cases z) ((l _ _ h').resolve_right fun ⟨_, z⟩ => by cases z) n (RepL.off l r (by unfold D.noL at e; exact e))
  | _, _, .cls c, _ => .cls c
  | _, _, .scr h, e => by unfold D.noL at e; cases e
theorem RepL.off (l : OffL F F3) : ∀ {v : List V} {d : List D}, RepL K F v d → D.noLs d = true → RepL K F3 v d
  | _, _, .nil, _ => .nil
  | _, _, .cons h r, e => by
    unfold D.noLs at e
    rw [Bool.and_eq_true] at e
    exact .cons (Rep.off l h e.1) (RepL.off l r e.2)
theorem RepK.off (l : OffL F F3) : ∀ {v : List (Key × V)} {d : List (Key × D)}, RepK K F v d → D.noLk d = true → RepK K F3 v d
  | _, _, .nil, _ => .nil
  | _, _, .cons h r, e => by
    unfold D.noLk at e
    rw [Bool.and_eq_true] at e
    exact .cons (Rep.off l h e.1) (RepK.off l r e.2)
end
def Sh.listy : Sh → Bool
  | .fr => true
  | .ol s => Sh.listy s
  | _ => false
def Sl.listy : Sl → Bool
  | .un => true
  | .sh _ => true
  | .ow z _ => z.listy
  | .le _ z _ => z.listy
  | .bx => true
  | .lb _ => true
  | .er .. => false
mutual
theorem Own.listy : ∀ {z : Sh} {v : V} {d : D} {fp : List Addr}, Own K F H z v d fp → z.listy = true → ∀ a ∈ fp, ∃ xs, H a = some (.lst xs)
  | _, _, _, _, .fr r, _, a, ha => by cases ha
  | _, _, _, _, .ol h r, e, a, ha => by
    rcases List.mem_cons.mp ha with rfl | ha
    · exact ⟨_, h⟩
    · exact OwnL.listy r (by unfold Sh.listy at e; exact e) a ha
  | _, _, _, _, .od h r, e, a, ha => by unfold Sh.listy at e; cases e
  | _, _, _, _, .oo h h' n r, e, a, ha => by unfold Sh.listy at e; cases e
  | _, _, _, _, .ot h r, e, a, ha => by unfold Sh.listy at e; cases e
theorem OwnL.listy : ∀ {z : Sh} {v : List V} {d : List D} {fp : List Addr}, OwnL K F H z v d fp → z.listy = true → ∀ a ∈ fp, ∃ xs, H a = some (.lst xs)
  | _, _, _, _, .nil, _, a, ha => by cases ha
  | _, _, _, _, .cons h r, e, a, ha => by
    rcases List.mem_append.mp ha with ha | ha
    · exact Own.listy h e a ha
    · exact OwnL.listy r e a ha
end
theorem SlV.listy {o : Option V} {s : Sl} {fp : List Addr} (h : SlV K F H o s fp) (e : s.listy = true) : ∀ a ∈ fp, ∃ xs, H a = some (.lst xs) := by
  cases h with
  | un => intro a ha; cases ha
  | sh r => intro a ha; cases ha
  | ow r => exact r.listy e
  | le r => exact r.listy e
  | erB q => cases e
  | er q h r => cases e
  | bx r =>
    obtain ⟨cs, i, r, s, h1, h2, h3⟩ := r
    intro a ha
    rcases List.mem_cons.mp ha with rfl | ha
    · exact ⟨_, h1⟩
    · rw [List.mem_singleton.mp ha]; exact ⟨_, h2⟩
  | lb r =>
    obtain ⟨cs, i, r, s, h1, h2, h3⟩ := r
    intro a ha
    rcases List.mem_cons.mp ha with rfl | ha
    · exact ⟨_, h1⟩
    · rw [List.mem_singleton.mp ha]; exact ⟨_, h2⟩
theorem Slots.listy {fp : List Addr} (h : Slots K F H σ ρ fp) : ρ.all Sl.listy = true → ∀ a ∈ fp, ∃ xs, H a = some (.lst xs) := by
  induction h with
  | nil => intro _ a ha; cases ha
  | cons h r ih =>
    intro e a ha
    rw [List.all_cons, Bool.and_eq_true] at e
    rcases List.mem_append.mp ha with ha | ha
    · exact h.listy e.1 a ha
    · exact ih e.2 a ha
def Sl.noL : Sl → Bool
  | .sh d => d.noL
  | .ow (.ol .fr) (.lst ds) => D.noLs ds
  | _ => false
theorem SlV.noL {o : Option V} {s : Sl} {f : List Addr} (l : OffL F F3) (h : SlV K F H o s f) (e : s.noL = true) : SlV K F3 H o s f := by
  cases h with
  | sh r => exact .sh (r.off l e)
  | ow r =>
    unfold Sl.noL at e
    split at e
    · rename_i q
      cases q
    · rename_i q
      cases q
      cases r with
      | ol h r =>
        obtain ⟨r', rfl⟩ := OwnL.rep r
        exact .ow (.ol h (RepL.own (r'.off l e)))
    · cases e
  | _ => cases e
end
section
variable {K : PySem.W.Frag} {W : WS} {ta tb tc : TE} {ma mb mc : ME}
end
end Dl
namespace SupX
open PySem PySem.Spec PyProof.Rows L2 PySem.Calls
structure ScopeS (N P : List Str) (sc : Scope) : Prop where
  kind : sc.kind = .function
  co : sc.isCoroutine = false
  gen : sc.isGenerator = false
  nd : N.Nodup
  pre : N.take P.length = P
  par : ∀ x ∈ P, sc.names.lookup x = some .local
  free : ∀ y ∈ sc.names, (y.2 = .free → y.1 = ("__class__" : Str)) ∧ y.2 ≠ .cell
  cls : sc.names.lookup ("__class__" : Str) = some .free
  sup : sc.names.lookup ("super" : Str) = some .globalImplicit
section
variable {CX : CXT} {P : Program} {w : World} {K : PySem.W.Frag} {mg : Str → Option Value} {base : Heap} {N ps : List Str} {qual : Str} {scope : Scope} {f cda cc : Addr} {A : Around} {outer : List Env} {s : Shared} {H : Hp} {E : XK} {us : List Value} {vs : List V}
end
end SupX
namespace SupX
open PySem PySem.Spec PyProof.Rows L2 PySem.Calls
structure FunS (P : Program) (K : PySem.W.Frag) (x qual : Str) (params : Arguments) (body : List Stmt) (scope : Scope) (C f f2 : Addr) (fd : FuncData) : Prop where
  ex : ∃ (oc : Value) (od : Option Addr) (kV doc pm : Value) (an : Option Addr) (cda : Addr) (ct : Value) (cc : Addr) (osl : Array (Option Value)),
    fd = PySem.W.ksFn x qual params body scope .none kV doc pm an (.ref cda) ct cc ∧ K.lookup f = some ⟨oc, od, .func fd, osl⟩ ∧ PySem.W.codeIn K (.ref cda) qual = true ∧
    (∃ (ccl : Value) (cdd : Option Addr) (cvv : Array Value) (ccs : Array (Option Value)) (file : Str) (tf : Tok), K.lookup cda = some ⟨ccl, cdd, .fields cvv, ccs⟩ ∧ cvv[2]? = some (.str file tf) ∧ ((P.main.file : Str) == file) = true) ∧
    (∃ (cl : Value) (cld : Option Addr) (csl : Array (Option Value)), K.lookup cc = some ⟨cl, cld, .cell (some (.ref C)), csl⟩)
  cls : ∃ cd, PySem.W.clsIn K C = some cd
  self : PySem.W.mroIn K C (.ref C) = some true
  sup : PySem.W.ks_superIn K C C "__init__" = some (some (.ref f2))
  ty : PySem.W.typeIn K (.ref f2) = some (.type "function")
  fn2 : PySem.W.fnIn K f2 = true
  opq : PySem.W.nsIn K cStatics "thirdparty.any" = some none
  top : (P.main.scope.names.lookup ("super" : Str)).isSome = false
section
variable {CX : CXT} {P : Program} {w : World} {K : PySem.W.Frag} {mg : Str → Option Value} {base : Heap} {N ps ps' : List Str} {x qual : Str} {params : Arguments} {scope : Scope} {f f2 C : Addr} {fd : FuncData} {k : Nat} {sp sp2 : Sp} {ar : Arg}
  {pre rest : List Stmt} {e1 : Expr} {es : List Expr} {q1 q2 q3 q5 q6 : Pos}
end
end SupX
namespace SupX
open PySem PySem.Spec PyProof.Rows L2 PySem.Calls
theorem FunS.bindsN {P : Program} {K : PySem.W.Frag} {x qual : Str} {params : Arguments} {body : List Stmt} {scope : Scope} {C f f2 : Addr} {fd : FuncData} {ps : List Str} (T : FunS P K x qual params body scope C f f2 fd)
    (h : ∀ (kV doc pm : Value) (an : Option Addr) (cdv ct : Value) (cc : Addr) (us : List Value), us.length = ps.length → bindArgs (PySem.W.ksFn x qual params body scope .none kV doc pm an cdv ct cc) ⟨us, []⟩ = pure (ps.zip us)) : Binds K fd ps [] := by
  obtain ⟨oc, od, kV, doc, pm, an, cda, ct, cc, osl, rfl, _⟩ := T.ex
  exact .all (h kV doc pm an _ ct cc)
end SupX
namespace Dl
open PySem PySem.Spec PyProof.Rows L2
section
variable {K : PySem.W.Frag} {W : WS} {F H : Hp} {P : Program} {w : World} {mg : Str → Option Value} {base : Heap} {x qual : Str} {params : Arguments} {body : List Stmt} {scope : Scope} {kws : List (Str × V)} {f : Addr} {fd : FuncData}
end
end Dl
namespace Hd
open PySem PySem.Spec PyProof.Rows L2
end Hd
namespace AndX
open PySem PySem.Spec PyProof.Rows L2 PySem.Calls
section
variable {α : Type} {prog : Program} {w : World} {A : Around} {E : Value → Shared → Prop} {s : Shared} {K : PySem.W.Frag}
structure Lacks (K : PySem.W.Frag) (D : Addr) (name : Str) : Prop where
  cd : ∃ cd, PySem.W.clsIn K D = some cd ∧ cd.name.cps.foldl (fun k c => k + (Str.utf8Of c).length) 0 ≤ 100 ∧ (missMsg cd.name name).length ≤ sizeLine
  ty : PySem.W.typeIn K (.ref D) = some (.type "type")
  no : PySem.W.findIn K (.ref D) name = some none
  nt : PySem.W.findIn K (.type "type") name = some none
  opq : PySem.W.nsIn K cStatics "thirdparty.any" = some none
structure OpC (K : PySem.W.Frag) (C : Addr) (nm : String) (f : Addr) : Prop where
  at_ : PySem.W.findIn K (.ref C) (dunder nm) = some (some (.ref f))
  fn : PySem.W.isFn K (.ref f) = true
  first : PySem.W.selfFirst K C = true
  lack : Lacks K C (dunderR nm)
end
section
variable {X : Cx} {CX : CXT} {k : Nat} {f : Addr} {sp : Sp} {E : L2.St → XK} {a b : Expr} {ta tb : TE} {pos : Pos} {P : Addr → Prop}
structure Kin (K : PySem.W.Frag) (P : Addr → Prop) (nm : String) (f : Addr) : Prop where
  op : ∀ C, P C → OpC K C nm f
  sub : ∀ C D, P C → P D → ∃ b, PySem.W.mroIn K D (.ref C) = some b
  ga : PySem.W.findIn K (.type "type") "__getattribute__" = some (some (.builtin "type.__getattribute__"))
  tt : PySem.W.subIn K (.type "type") (.type "type") = some true
  sz : (dunderR nm).length ≤ sizeLine
end
end AndX
namespace Dl
open PySem PySem.Spec PyProof.Rows L2
section
variable {K : PySem.W.Frag} {W : WS} {ta tb : TE} {ma mb : ME}
end
end Dl
namespace Cl
open PySem PySem.Spec PyProof.Rows L2 RZ
section
variable {X : Cx} {e : Expr} {pos : Pos}
def qIntB : List V → Hp → VK → Prop := fun xs H Q => ∃ k : Bool, xs = [.bl k] ∧ Q (.int (if k then 1 else 0)) H
theorem intB : CallR X (.type "int") qIntB := fun pins s σ H xs us Q I r h => call_int1 pins s σ H xs us Q I r (.inr h)
end
end Cl
namespace Dl
open PySem PySem.Spec PyProof.Rows L2 RZ
section
variable {K : PySem.W.Frag} {W : WS} {G : Ent} {ta tb : TE} {ma mb : ME}
def dIntB : D → Option D
  | .bl k => some (.int (if k then 1 else 0))
  | _ => none
theorem c_intB : R1Ok K (fun x H Q => Cl.qIntB [x] H Q) (op1 dIntB) := by
  intro G H σ ρ τ δ x s1 Q E hr w
  obtain ⟨a, d, rfl, e, q⟩ := op1_go w
  unfold dIntB at e
  split at e
  · rename_i i
    cases e
    obtain rfl := hr.topv (u := .bl i) rfl
    exact ⟨i, rfl, q _ _ (hr.pop.push rfl)⟩
  · cases e
end
end Dl
namespace Dl
open PySem PySem.Spec PyProof.Rows L2
inductive Pt where
  | fld (c j : Nat) | tp (j : Nat) | idx (n : Nat)
def subP : List Pt → Sh → D → Option (Sh × D)
  | [], z, d => some (z, d)
  | .fld c j :: p, .oo ss, .obj c' ds => match Nat.beq c' c, ss[j]?, ds[j]? with
    | true, some z, some d => subP p z d
    | _, _, _ => none
  | .tp j :: p, .ot ss, .tup ds => match ss[j]?, ds[j]? with
    | some z, some d => subP p z d
    | _, _ => none
  | .idx n :: p, .ol s, .lst ds => match ds[n]? with
    | some d => subP p s d
    | none => none
  | _, _, _ => none
def putP : List Pt → D → D → D
  | [], _, x => x
  | .fld _ j :: p, .obj c' ds, x => match ds[j]? with
    | some d => .obj c' (ds.set j (putP p d x))
    | none => .obj c' ds
  | .tp j :: p, .tup ds, x => match ds[j]? with
    | some d => .tup (ds.set j (putP p d x))
    | none => .tup ds
  | .idx n :: p, .lst ds, x => match ds[n]? with
    | some d => .lst (ds.set n (putP p d x))
    | none => .lst ds
  | _, d, _ => d
inductive AtP (K : PySem.W.Frag) (H : Hp) : V → List Pt → V → Prop
  | nil {v : V} : AtP K H v [] v
  | fld {a dx : Addr} {c j k : Nat} {fs : List (Str × V)} {v u : V} {p : List Pt} : H a = some (.ins (He.ga K (cn c)) dx fs) → fs.map (·.1) = (cf c).take k → (fs.map (·.2))[j]? = some v → AtP K H v p u → AtP K H (.ref a) (.fld c j :: p) u
  | tp {a : Addr} {j : Nat} {vs : List V} {v u : V} {p : List Pt} : H a = some (.tup vs) → vs[j]? = some v → AtP K H v p u → AtP K H (.ref a) (.tp j :: p) u
  | idx {a : Addr} {n : Nat} {vs : List V} {v u : V} {p : List Pt} : H a = some (.lst vs) → vs[n]? = some v → AtP K H v p u → AtP K H (.ref a) (.idx n :: p) u
section
variable {K : PySem.W.Frag} {W W' : WS} {ta tb tc te tn tv to : TE} {ma mb mc me mn mv : ME} {t u : TS} {m k : MS} {tA tt : TT} {mA mt : MT} {tl : TA} {ml : MA} {G : Ent} {F H H' : Hp} {σ τ : L2.St} {ρ : Env} {δ : List Sl}
theorem AtP.mono {v u : V} {p : List Pt} (l : Le H H') (h : AtP K H v p u) : AtP K H' v p u := by
  induction h with
  | nil => exact .nil
  | fld h1 h2 h3 _ ih => exact .fld (l _ _ h1) h2 h3 ih
  | tp h1 h3 _ ih => exact .tp (l _ _ h1) h3 ih
  | idx h1 h3 _ ih => exact .idx (l _ _ h1) h3 ih
theorem Own.sub : ∀ {p : List Pt} {z : Sh} {v : V} {d : D} {f : List Addr} {z' : Sh} {d' : D}, Own K F H z v d f → subP p z d = some (z', d') → ∃ u l f' r, AtP K H v p u ∧ f = l ++ (f' ++ r) ∧ Own K F H z' u d' f' ∧
    ∀ F' H' d2 f2, Le F F' → (∀ a ∈ l ++ r, H' a = H a) → Own K F' H' z' u d2 f2 → Own K F' H' z v (putP p d d2) (l ++ (f2 ++ r))
  | [], z, v, d, f, z', d', q, e => by
    cases e
    exact ⟨v, [], f, [], .nil, by simp, q, fun F' H' d2 f2 _ _ q' => by simpa [putP] using q'⟩
  | .fld c j :: p, z, v, d, f, z', d', q, e => by
    cases q with
    | @oo ss a dx c' fs ds fp h1 h2 h3 h4 =>
      unfold subP at e
      split at e
      · rename_i z1 d1 hc hs hd
        obtain rfl := Nat.eq_of_beq_eq_true hc
        obtain ⟨v1, d1', l1, f1, r1, g1, g2, g3, g4, g5⟩ := h4.get hs
        rw [hd] at g2; cases g2
        obtain ⟨u, l', f', r', a1, a2, a3, a4⟩ := Own.sub (p := p) g4 e
        subst g3
        subst a2
        refine ⟨u, a :: dx :: (l1 ++ l'), f', r' ++ r1, .fld h1 h3 g1 a1, by simp [List.append_assoc], a3, fun F' H' d2 f2 hl hh q' => ?_⟩
        have b := g5 F' H' z1 v1 _ _ hl (fun b hb => hh b (by
          rcases List.mem_append.mp hb with z | z
          · simp [z]
          · simp [z])) (a4 F' H' d2 f2 hl (fun b hb => hh b (by
          rcases List.mem_append.mp hb with z | z
          · simp [z]
          · simp [z])) q')
        rw [set_same hs, set_same g1] at b
        have e2 : putP (.fld c' j :: p) (.obj c' ds) d2 = .obj c' (ds.set j (putP p d1 d2)) := by
          show (match ds[j]? with | some d => D.obj c' (ds.set j (putP p d d2)) | none => .obj c' ds) = _
          rw [hd]
        rw [e2]
        have := Own.oo (K := K) (F := F') (H := H') (fs := fs) (by rw [hh a (by simp)]; exact h1) (by rw [hh dx (by simp)]; exact h2) (by rw [List.length_set]; exact h3) b
        simpa [List.append_assoc] using this
      · cases e
    | _ => cases e
  | .tp j :: p, z, v, d, f, z', d', q, e => by
    cases q with
    | @ot ss a vs ds fp h1 h4 =>
      unfold subP at e
      split at e
      · rename_i z1 d1 hs hd
        obtain ⟨v1, d1', l1, f1, r1, g1, g2, g3, g4, g5⟩ := h4.get hs
        rw [hd] at g2; cases g2
        obtain ⟨u, l', f', r', a1, a2, a3, a4⟩ := Own.sub (p := p) g4 e
        subst g3
        subst a2
        refine ⟨u, a :: (l1 ++ l'), f', r' ++ r1, .tp h1 g1 a1, by simp [List.append_assoc], a3, fun F' H' d2 f2 hl hh q' => ?_⟩
        have b := g5 F' H' z1 v1 _ _ hl (fun b hb => hh b (by
          rcases List.mem_append.mp hb with z | z
          · simp [z]
          · simp [z])) (a4 F' H' d2 f2 hl (fun b hb => hh b (by
          rcases List.mem_append.mp hb with z | z
          · simp [z]
          · simp [z])) q')
        rw [set_same hs, set_same g1] at b
        have e2 : putP (.tp j :: p) (.tup ds) d2 = .tup (ds.set j (putP p d1 d2)) := by
          show (match ds[j]? with | some d => D.tup (ds.set j (putP p d d2)) | none => .tup ds) = _
          rw [hd]
        rw [e2]
        have := Own.ot (K := K) (F := F') (H := H') (by rw [hh a (by simp)]; exact h1) b
        simpa [List.append_assoc] using this
      · cases e
    | _ => cases e
  | .idx n :: p, z, v, d, f, z', d', q, e => by
    cases q with
    | @ol s a vs ds fp h1 h4 =>
      unfold subP at e
      split at e
      · rename_i d1 hd
        obtain ⟨v1, l1, f1, r1, g1, g3, g4, g5⟩ := h4.get hd
        obtain ⟨u, l', f', r', a1, a2, a3, a4⟩ := Own.sub (p := p) g4 e
        subst g3
        subst a2
        refine ⟨u, a :: (l1 ++ l'), f', r' ++ r1, .idx h1 g1 a1, by simp [List.append_assoc], a3, fun F' H' d2 f2 hl hh q' => ?_⟩
        have b := g5 F' H' _ _ hl (fun b hb => hh b (by
          rcases List.mem_append.mp hb with z | z
          · simp [z]
          · simp [z])) (a4 F' H' d2 f2 hl (fun b hb => hh b (by
          rcases List.mem_append.mp hb with z | z
          · simp [z]
          · simp [z])) q')
        have e2 : putP (.idx n :: p) (.lst ds) d2 = .lst (ds.set n (putP p d1 d2)) := by
          show (match ds[n]? with | some d => D.lst (ds.set n (putP p d d2)) | none => .lst ds) = _
          rw [hd]
        rw [e2]
        have := Own.ol (K := K) (F := F') (H := H') (by rw [hh a (by simp)]; exact h1) b
        simpa [List.append_assoc] using this
      · cases e
    | _ => cases e
end
end Dl
namespace Dl
open PySem PySem.Spec PyProof.Rows L2
end Dl
namespace Ls
open PySem PySem.Spec PyProof.Rows L2
end Ls
namespace Dl
open PySem PySem.Spec PyProof.Rows L2
section
variable {K : PySem.W.Frag}
end
end Dl
namespace Dl
open PySem PySem.Spec PyProof.Rows L2
section
variable {K : PySem.W.Frag} {W W' : WS} {ta tb tc te tn tv to : TE} {ma mb mc me mn mv : ME} {t u : TS} {m k : MS} {tA tt : TT} {mA mt : MT} {tl : TA} {ml : MA} {G : Ent} {F H H' : Hp} {σ τ : L2.St} {ρ : Env} {δ : List Sl}
mutual
def Sh.same : Sh → Sh → Bool
  | .fr, .fr => true
  | .ol a, .ol b => Sh.same a b
  | .od a, .od b => Sh.same a b
  | .oo a, .oo b => Sh.sameL a b
  | .ot a, .ot b => Sh.sameL a b
  | _, _ => false
def Sh.sameL : List Sh → List Sh → Bool
  | [], [] => true
  | a :: as, b :: bs => Sh.same a b && Sh.sameL as bs
  | _, _ => false
end
mutual
theorem Sh.same_eq : ∀ {a b : Sh}, Sh.same a b = true → a = b
  | .fr, .fr, _ => rfl
  | .ol a, .ol b, h => by unfold Sh.same at h; rw [Sh.same_eq h]
  | .od a, .od b, h => by unfold Sh.same at h; rw [Sh.same_eq h]
  | .oo a, .oo b, h => by unfold Sh.same at h; rw [Sh.sameL_eq h]
  | .ot a, .ot b, h => by unfold Sh.same at h; rw [Sh.sameL_eq h]
  | .fr, .ol _, h => by cases h
  | .fr, .od _, h => by cases h
  | .fr, .oo _, h => by cases h
  | .fr, .ot _, h => by cases h
  | .ol _, .fr, h => by cases h
  | .ol _, .od _, h => by cases h
  | .ol _, .oo _, h => by cases h
  | .ol _, .ot _, h => by cases h
  | .od _, .fr, h => by cases h
  | .od _, .ol _, h => by cases h
  | .od _, .oo _, h => by cases h
  | .od _, .ot _, h => by cases h
  | .oo _, .fr, h => by cases h
  | .oo _, .ol _, h => by cases h
  | .oo _, .od _, h => by cases h
  | .oo _, .ot _, h => by cases h
  | .ot _, .fr, h => by cases h
  | .ot _, .ol _, h => by cases h
  | .ot _, .od _, h => by cases h
  | .ot _, .oo _, h => by cases h
theorem Sh.sameL_eq : ∀ {a b : List Sh}, Sh.sameL a b = true → a = b
  | [], [], _ => rfl
  | a :: as, b :: bs, h => by
    unfold Sh.sameL at h
    rw [Bool.and_eq_true] at h
    rw [Sh.same_eq h.1, Sh.sameL_eq h.2]
  | [], _ :: _, h => by cases h
  | _ :: _, [], h => by cases h
end
theorem OwnL.any {z z' : Sh} {vs : List V} {ds : List D} {fp : List Addr} (h : OwnL K F H z' vs ds fp) (e : (Sh.same z' z || ds.isEmpty) = true) : OwnL K F H z vs ds fp := by
  rcases Bool.or_eq_true _ _ ▸ e with e | e
  · rw [Sh.same_eq e] at h
    exact h
  · cases ds with
    | nil => cases h; exact .nil
    | cons _ _ => cases e
theorem Rel.unAt {j : Nat} {s : Sl} {o : Option V} (h : Rel K G H σ ρ τ δ) (e : ρ[j]? = some s) : Rel K G H σ (ρ.set j .un) τ δ := by
  obtain ⟨F, f1, f2, g, ht, hs⟩ := h
  obtain ⟨o, l, f, r, e1, e2, h1, k⟩ := hs.at e
  have h3 := k o .un [] .un
  rw [set_same e2] at h3
  subst e1
  exact ⟨F, f1, _, g.cnt (by intro a; simp only [List.count_append, List.count_nil]; omega), ht, h3⟩
end
end Dl
namespace Dl
open PySem PySem.Spec PyProof.Rows L2
section
variable {K : PySem.W.Frag} {W W' : WS} {G : Ent} {F H H' : Hp} {σ τ : L2.St} {ρ : Env} {δ : List Sl}
end
end Dl
namespace Dl
open PySem PySem.Spec PyProof.Rows L2
end Dl
namespace Dl
open PySem PySem.Spec PyProof.Rows L2
section
variable {K : PySem.W.Frag} {G : Ent} {F F3 H H' : Hp} {σ τ : L2.St} {ρ δ : List Sl} {v x : V} {s : Sl} {d : D}
end
end Dl
namespace Dl
open PySem PySem.Spec PyProof.Rows L2
section
variable {K : PySem.W.Frag} {W : WS} {te tf : TE} {me mf : ME}
end
end Dl
namespace IdC
open PySem PySem.Spec PyProof.Rows L2 OpM
section
variable {M : Model} {prog : Program} {w : World} {A : Around} {E : Value → Shared → Prop} {s : Shared} {K : PySem.W.Frag} {x y C : Addr} {ox oy : Obj} {od od' : Option Obj}
end
structure IdK (K : PySem.W.Frag) (C : Addr) : Prop where
  m : PySem.W.mroIn K C (.type "object") = some true
  e : PySem.W.findIn K (.ref C) "__eq__" = some (some (.builtin "object.__eq__"))
  n : PySem.W.findIn K (.ref C) "__ne__" = some (some (.builtin "object.__ne__"))
section
variable {X : Cx} {C : Addr}
end
end IdC
namespace Dl
open PySem PySem.Spec PyProof.Rows L2
section
variable {K : PySem.W.Frag} {W : WS} {t : TE} {ma : ME} {G : Ent} {F F3 H H' : Hp} {σ τ : L2.St} {ρ δ : List Sl} {v x : V} {o : Option V} {s : Sl} {d : D}
end
end Dl
namespace IdC
open PySem PySem.Spec PyProof.Rows L2 OpM
section
variable {X : Cx} {C : Addr}
end
end IdC
namespace Dl
open PySem PySem.Spec PyProof.Rows L2
section
variable {K : PySem.W.Frag} {W : WS} {ta te : TE} {ma me : ME} {G : Ent} {F H H' : Hp} {σ τ : L2.St} {ρ δ : List Sl} {v u : V} {s : Sl} {ds : List D}
end
end Dl
namespace TxB
open PySem PySem.Spec PyProof.Rows L2 RZ
section
variable {X : Cx}
end
abbrev rJoin (K : PySem.W.Frag) : V → List V → Hp → VK → Prop := fun x xs H Q => ∃ a p, ∃ ys : List Str, x = .str a ∧ xs = [.ref p] ∧ (SqL K H p (ys.map V.str) ∨ SqT K H p (ys.map V.str)) ∧ (ys.map (·.length)).sum + ys.length * a.length ≤ 16777216 ∧ Q (.str (Txt.join a ys)) H
theorem peJoin (K : PySem.W.Frag) {X : Cx} {o e : Expr} {to te : TE} {apos pos : Pos} (ho : PE X o to) (he : PE X e te) (hs : starEach [e] X.env = [(false, eval e X.env)] := by rfl) (hbase : attributeBase o "join" X.env (eval o X.env) = eval o X.env := by rfl) (hline : (apos.endLine == pos.line) = true := by rfl) (hK : X.K = K := by rfl) :
    PE X (.Call (.Attribute o "join" apos) [e] [] pos) (tM1 (rJoin K) to te) := hK ▸ pe_join ho he hs hbase hline
end TxB
namespace Dl
open PySem PySem.Spec PyProof.Rows L2
section
variable {K : PySem.W.Frag} {W : WS} {G : Ent} {ta tb : TE} {ma mb : ME}
def strsD : List D → Option (List Str)
  | [] => some []
  | .str x :: ds => (strsD ds).map (x :: ·)
  | _ :: _ => none
theorem strsD_go : ∀ {ds : List D} {ys : List Str}, strsD ds = some ys → ds = ys.map D.str
  | [], ys, h => by cases h; rfl
  | .str x :: ds, ys, h => by
    unfold strsD at h
    cases e : strsD ds with
    | none => rw [e] at h; cases h
    | some zs => rw [e] at h; cases h; rw [strsD_go e]; rfl
  | .non :: _, _, h => by cases h
  | .bl _ :: _, _, h => by cases h
  | .int _ :: _, _, h => by cases h
  | .lst _ :: _, _, h => by cases h
  | .tup _ :: _, _, h => by cases h
  | .dic _ :: _, _, h => by cases h
  | .dil _ :: _, _, h => by cases h
  | .obj _ _ :: _, _, h => by cases h
  | .cls _ :: _, _, h => by cases h
  | .scr :: _, _, h => by cases h
  | .idn _ _ :: _, _, h => by cases h
theorem strsD_map : ∀ {ys : List Str}, strsD (ys.map D.str) = some ys
  | [] => rfl
  | y :: ys => by
    show (strsD (ys.map D.str)).map (y :: ·) = _
    rw [strsD_map]
    rfl
theorem RepL.strs {F : Hp} : ∀ {vs : List V} {ys : List Str}, RepL K F vs (ys.map D.str) → vs = ys.map V.str
  | _, [], .nil => rfl
  | _, _ :: _, .cons r t => by
    cases r
    rw [RepL.strs t]
    rfl
def pJoin : D → D → Option (Prop × Sl)
  | .str a, .lst ds => match strsD ds with
    | some ys => some ((ys.map (·.length)).sum + ys.length * a.length ≤ 16777216, .sh (.str (Txt.join a ys)))
    | none => none
  | _, _ => none
def mJoin (a b : ME) : ME := a.bind fun s => match s with
  | .sh (.str x) => b.bind fun s2 => op2P pJoin (.sh (.str x)) s2
  | _ => M.stuck
theorem eJoin (ha : EOk K W ta ma) (hb : EOk K W tb mb) : EOk K W (tM1 (TxB.rJoin K) ta tb) (mJoin ma mb) := fun G H σ ρ τ δ Q h w =>
  ha G H σ ρ τ δ _ h (ma.mono (fun s ρ1 w1 v H1 h1 => by
    simp only at w1
    split at w1
    · rename_i x
      obtain rfl := h1.topv (u := .str x) rfl
      refine ⟨⟨x, rfl⟩, hb G H1 σ ρ1 _ _ _ h1 (mb.mono (fun s2 ρ2 w2 v2 H2 h2 => ?_) (fun e ρ' z v H' q => z v H' q.drop2) w1)⟩
      obtain ⟨a, b, p, s, e1, rfl, e, hp, q⟩ := op2P_go w2
      cases e1
      unfold pJoin at e
      split at e
      · rename_i a0 ds e0
        cases e0
        split at e
        · rename_i ys hy
          cases e
          obtain rfl := strsD_go hy
          obtain ⟨F, r1, r2, z⟩ := h2.top2
          cases r2 with
          | lst k2 r2 =>
            obtain rfl := r2.strs
            exact ⟨_, _, _, rfl, rfl, .inl (SqL.of (z.le _ _ k2)), hp, q _ _ (h2.pop.pop.push rfl)⟩
        · cases e
      · cases e
    · exact w1.elim) (fun _ _ z => z) w)
end
end Dl
namespace Cl
open PySem PySem.Spec PyProof.Rows L2
section
variable {X : Cx} {CX : CXT} {k n : Nat} {f C : Addr} {fd : FuncData} {ps ks : List Str} {sp : Sp} {E : L2.St → XK} {x : Str} {p pos : Pos} {e : Expr} {es : List Expr} {kws : List Keyword} {t tk : TA} {g : List Value → List Value → List Value} {gV : List V → List V → List V}
end
end Cl
namespace Dl
open PySem PySem.Spec PyProof.Rows L2
section
variable {K : PySem.W.Frag} {W W' : WS} {to tv : TE} {mv : ME} {G : Ent} {F H H' : Hp} {σ τ : L2.St} {ρ : Env} {δ : List Sl}
end
end Dl
namespace BareX
open PySem PySem.Spec PyProof.Rows L2
structure OwnE (K : PySem.W.Frag) (C : Addr) : Prop where
  q : PySem.W.excIn K C [.type "ValueError", .type "Exception", .type "BaseException", .type "object"] "ValueError.__new__" = true
  keep : PySem.W.keepIn K (.ref C) = true
  exC : PySem.W.subIn K (.ref C) (.type "BaseException") = some true
  tyC : PySem.W.typeIn K (.ref C) = some (.type "type")
end BareX
namespace OpM
open PySem PySem.Spec PyProof.Rows L2
section
variable {X : Cx} {CX : CXT} {k : Nat} {f C : Addr} {sp : Sp} {E : L2.St → XK} {pos : Pos} {a b : Expr} {ta tb : TE}
end
end OpM
namespace Dl
open PySem PySem.Spec PyProof.Rows L2
section
variable {K : PySem.W.Frag} {W : WS} {ta tb : TE} {ma mb : ME}
end
end Dl
namespace M3
open PySem PySem.Spec PyProof.Rows L2
section
variable {X : Cx}
end
end M3
namespace Dl
open PySem PySem.Spec PyProof.Rows L2
section
variable {K : PySem.W.Frag} {W : WS} {ta tb tc : TE} {ma mb mc : ME}
end
end Dl
namespace Dl
open PySem PySem.Spec PyProof.Rows L2
section
variable {K : PySem.W.Frag} {G : Ent} {F H : Hp} {σ τ : L2.St} {ρ : Env} {δ : List Sl}
def partS : Sh → D → Sl
  | .fr, d => .sh d
  | s, d => .ow s d
theorem Own.slot {s : Sh} {v : V} {d : D} {fp : List Addr} (h : Own K F H s v d fp) : SlV K F H (some v) (partS s d) fp := by
  cases h with
  | fr r => exact .sh r
  | ol h1 h2 => exact .ow (.ol h1 h2)
  | od h1 h2 => exact .ow (.od h1 h2)
  | oo h1 h2 h3 h4 => exact .ow (.oo h1 h2 h3 h4)
  | ot h1 h2 => exact .ow (.ot h1 h2)
def partsS : List Sh → List D → List Sl
  | s :: ss, d :: ds => partS s d :: partsS ss ds
  | _, _ => []
theorem OwnF.slots {f : List Addr} (h : Slots K F H τ δ f) : ∀ {ss : List Sh} {vs : List V} {ds : List D} {fp : List Addr}, OwnF K F H ss vs ds fp → Slots K F H (vs.map some ++ τ) (partsS ss ds ++ δ) (fp ++ f)
  | _, _, _, _, .nil => h
  | _, _, _, _, .cons (f := f1) (fp := f2) r t => by
    have := Slots.cons r.slot (OwnF.slots h t)
    rw [← List.append_assoc] at this
    exact this
end
end Dl
namespace Dl
open PySem PySem.Spec PyProof.Rows L2
section
variable {K : PySem.W.Frag} {W : WS} {ta tb tc t : TE} {ma mb mc : ME} {G : Ent} {F H : Hp} {σ τ : L2.St} {ρ : Env} {δ : List Sl}
end
end Dl
namespace SzB
open PySem PySem.Spec PyProof.Rows L2 RZ
end SzB
namespace Dl
open PySem PySem.Spec PyProof.Rows L2 RZ
section
variable {K : PySem.W.Frag} {W : WS} {G : Ent} {ta tb : TE} {ma mb : ME}
end
end Dl
namespace Dl
open PySem PySem.Spec PyProof.Rows L2
def dropE (es : List (Key × D)) (k : Key) : List (Key × D) := es.filter fun p => decide (p.1 ≠ k)
theorem RepK.drop {K : PySem.W.Frag} {F : Hp} : ∀ {kvs : List (Key × V)} {es : List (Key × D)}, RepK K F kvs es → ∀ k, RepK K F (dropK kvs k) (dropE es k)
  | _, _, .nil, k => .nil
  | _, _, .cons (k := k0) r q, k => by
    have ih := RepK.drop q k
    unfold dropK dropE at ih ⊢
    by_cases e : k0 = k
    · rw [List.filter_cons_of_neg (by simp [e]), List.filter_cons_of_neg (by simp [e])]
      exact ih
    · rw [List.filter_cons_of_pos (by simp [e]), List.filter_cons_of_pos (by simp [e])]
      exact .cons r ih
section
variable {K : PySem.W.Frag} {W : WS} {G : Ent} {te tk tv : TE} {me mk mv : ME} {H : Hp} {σ τ : L2.St} {ρ δ : List Sl}
end
end Dl
namespace Dl
open PySem PySem.Spec PyProof.Rows L2
section
variable {K : PySem.W.Frag} {W : WS} {G : Ent} {F F' H H' : Hp} {σ τ : L2.St} {ρ : Env} {δ : List Sl} {ta : TE} {ma : ME} {tl : TA} {ml : MB}
end
section
variable {K : PySem.W.Frag} {F H1 : Hp} {G : Ent} {σ τs τ : L2.St} {ρ1 : Env} {δs δ : List Sl} {fT fR kp : List Addr}
end
section
variable {K : PySem.W.Frag} {W : WS} {tl : TA} {ml : MB} {G : Ent} {F' H' : Hp} {σ τ : L2.St} {δ : List Sl} {ρ' : Env}
end
end Dl
namespace Dl
open PySem PySem.Spec PyProof.Rows L2
section
variable {K : PySem.W.Frag} {W : WS} {ta tb : TE} {ma mb : ME}
end
end Dl
namespace Dl
open PySem PySem.Spec PyProof.Rows L2
end Dl
namespace StX
open PySem PySem.Spec PyProof.Rows L2
section
variable {CX : CXT} {P : Program} {w : World} {K : PySem.W.Frag} {mg : Str → Option Value} {base : Heap} {k : Nat} {f : Addr} {name qual : Str} {params : Arguments} {body : List Stmt} {scope : Scope} {dV kV doc pm cdv ct oc : Value} {an od : Option Addr}
  {osl : Array (Option Value)} {N ps : List Str} {sp : Sp}
end
end StX
namespace Cl
open PySem PySem.Spec PyProof.Rows L2
section
variable {P : Program} {w : World} {K : PySem.W.Frag} {mg : Str → Option Value} {base : Heap} {x qual : Str} {params : Arguments} {body : List Stmt} {scope : Scope} {dvs : List V} {kws : List (Str × V)} {f : Addr} {fd : FuncData}
end
end Cl
namespace Dl
open PySem PySem.Spec PyProof.Rows L2
section
variable {K : PySem.W.Frag} {W : WS} {F H : Hp} {P : Program} {w : World} {mg : Str → Option Value} {base : Heap} {x qual : Str} {params : Arguments} {body : List Stmt} {scope : Scope} {kws : List (Str × V)} {f : Addr} {fd : FuncData}
end
section
variable {K : PySem.W.Frag} {W : WS} {ta : TE} {ma : ME} {t : TS} {m : MS} {F : Hp}
end
end Dl
namespace Cl
open PySem PySem.Spec PyProof.Rows L2
section
variable {X : Cx} {CX : CXT} {k : Nat} {f : Addr} {sp : Sp} {E : L2.St → XK} {x : Str} {p pos sp_ : Pos} {e : Expr} {te : TE}
end
end Cl
namespace Dl
open PySem PySem.Spec PyProof.Rows L2
section
variable {K : PySem.W.Frag} {W : WS} {ta : TE} {ma : ME} {G : Ent} {H : Hp} {σ τ : L2.St} {ρ : Env} {δ : List Sl}
end
end Dl
namespace Dl
open PySem PySem.Spec PyProof.Rows L2
section
variable {K : PySem.W.Frag} {W : WS} {ta : TE} {ma : ME} {t : TS} {m : MS} {G : Ent} {F H H' : Hp} {σ τ : L2.St} {ρ : Env} {δ : List Sl}
def Mv (K : PySem.W.Frag) (G : Ent) (H : Hp) (σ : L2.St) (ρ : Env) (τ : L2.St) (δ : List Sl) (a : Addr) (vs : List V) (s : Sh) (ds : List D) (i : Nat) : Prop :=
  ∃ F f1 f2 f3, Good G F H ((f1 ++ f2) ++ (a :: f3)) ∧ Slots K F H τ δ f1 ∧ Slots K F H σ ρ f2 ∧ H a = some (.lst vs) ∧ OwnL K F H s (vs.drop i) (ds.drop i) f3
theorem Mv.start {v : V} {s : Sh} {ds : List D} (h : Rel K G H σ ρ (some v :: τ) (.ow (.ol s) (.lst ds) :: δ)) : ∃ a vs, v = .ref a ∧ Mv K G H σ ρ τ δ a vs s ds 0 := by
  obtain ⟨F, f1, f2, g, ht, hs⟩ := h
  cases ht with
  | cons q1 q2 =>
    cases q1 with
    | ow q =>
      cases q with
      | @ol _ a vs _ fp hh rl =>
        refine ⟨a, vs, rfl, F, _, f2, fp, g.cnt fun b => ?_, q2, hs, hh, rl⟩
        simp only [List.count_append, List.count_cons]
        omega
theorem Mv.step {a : Addr} {vs : List V} {s : Sh} {ds : List D} {i : Nat} {x : V} {d : D} (h : Mv K G H σ ρ τ δ a vs s ds i) (ex : vs[i]? = some x) (ed : ds[i]? = some d) :
    ∃ G2, Rel K G2 H σ ρ (some x :: τ) (.ow s d :: δ) ∧ (∀ H' σ' ρ', Rel K G2 H' σ' ρ' τ δ → Mv K G H' σ' ρ' τ δ a vs s ds (i + 1)) ∧ ∀ H' σ' ρ' τ' δ', Rel K G2 H' σ' ρ' τ' δ' → Rel K G H' σ' ρ' τ' δ' := by
  obtain ⟨F, f1, f2, f3, g, ht, hs, hh, ol⟩ := h
  obtain ⟨hi, e1⟩ := List.getElem?_eq_some_iff.mp ex
  obtain ⟨hj, e2⟩ := List.getElem?_eq_some_iff.mp ed
  rw [List.drop_eq_getElem_cons hi, List.drop_eq_getElem_cons hj, e1, e2] at ol
  cases ol with
  | @cons _ _ _ f fp _ _ o r =>
    have g1 : Good G F H (((f ++ f1) ++ f2) ++ (a :: fp)) := g.cnt fun b => by
      simp only [List.count_append, List.count_cons]
      omega
    have nd := List.nodup_append.mp g1.nd
    have here : ∀ b ∈ a :: fp, H b ≠ none := fun b hb => by
      rcases List.mem_cons.mp hb with rfl | hb
      · rw [hh]; intro z; cases z
      · exact r.here b hb
    have same : ∀ {F' H' gs}, Good ⟨H, F, (f ++ f1) ++ f2⟩ F' H' gs → ∀ b ∈ a :: fp, H' b = H b := fun {F' H' gs} gg b hb => by
      cases q : H b with
      | none => exact absurd q (here b hb)
      | some u => exact gg.frm b u q fun z => nd.2.2 b z b hb rfl
    refine ⟨⟨H, F, (f ++ f1) ++ f2⟩, ⟨F, f ++ f1, f2, ⟨g1.sub, Le.rfl, fun a ha => .inl ha, fun a o e _ => e, fun a ha => ha, fun a ha => .inl ha, fun a ha => g1.nf a (List.mem_append_left _ ha), nd.1⟩, .cons (.ow o) ht, hs⟩, fun H' σ' ρ' hr => ?_, fun H' σ' ρ' τ' δ' hr => ?_⟩
    · obtain ⟨F', g1', g2', gg, ht', hs'⟩ := hr
      have G2 := g1.call gg here
      refine ⟨F', g1', g2', fp, G2, ht', hs', by rw [same gg a List.mem_cons_self]; exact hh, r.mono gg.f0 fun b hb => same gg b (List.mem_cons_of_mem _ hb)⟩
    · obtain ⟨F', g1', g2', gg, ht', hs'⟩ := hr
      have G2 := g1.call gg here
      refine ⟨F', g1', g2', G2.cnt fun b => ?_, ht', hs'⟩
      simp only [List.count_append]
      omega
end
end Dl
namespace L2
open PySem PySem.Spec PyProof.Rows
section
variable {P : Program} {w : World} {A : Around} {E : Value → Shared → Prop} {s : Shared} {a : Addr}
end
end L2
namespace Dl
open PySem PySem.Spec PyProof.Rows L2
section
variable {K : PySem.W.Frag} {W : WS} {ta te : TE} {ma me : ME} {tt : TT} {mt : MT} {g : TG} {mg : MG} {vs : List Nat}
end
end Dl
namespace Cl
open PySem PySem.Spec PyProof.Rows L2
section
variable {X : Cx} {CX : CXT} {k : Nat} {f C : Addr} {fd : FuncData} {ps ks : List Str} {sp : Sp} {E : L2.St → XK} {x m : Str} {p pos apos : Pos} {o : Expr} {kws : List Keyword} {ta : TE} {tk : TA} {g : List Value → List Value → List Value} {gV : List V → List V → List V}
end
end Cl
namespace NtB
open PySem PySem.Spec PyProof.Rows L2
section
variable {X : Cx}
def qIntS : List V → Hp → VK → Prop := fun xs H Q => ∃ (x : Str) (n : Int), xs = [.str x] ∧ x.length ≤ 640 ∧ PySem.intText? x = some n ∧ Q (.int n) H
theorem intS : CallR X (.type "int") qIntS := by
  intro pins s σ H xs us Q I r h
  obtain ⟨x, n, rfl, hl, hn, q⟩ := h
  obtain ⟨u, rfl, t, rfl⟩ := vals1 r
  exact PySem.W.KIN.call_text hn hl ⟨.int n, H, I.tok _, ⟨_, rfl⟩, q⟩
def rSplit : V → List V → Hp → VK → Prop := fun x xs H Q => ∃ a b, x = .str a ∧ xs = [.str b] ∧ (b.length == 0) = false ∧ a.length + 2 ≤ sizeLine ∧ rNewStrs (Txt.split a b) H Q
theorem peSplit {o e : Expr} {to te : TE} {apos pos : Pos} (ho : PE X o to) (he : PE X e te) (hs : starEach [e] X.env = [(false, eval e X.env)] := by rfl) (hbase : attributeBase o "split" X.env (eval o X.env) = eval o X.env := by rfl) (hline : (apos.endLine == pos.line) = true := by rfl) :
    PE X (.Call (.Attribute o "split" apos) [e] [] pos) (tM1 rSplit to te) := pe_split ho he hs hbase hline
end
end NtB
namespace Dl
open PySem PySem.Spec PyProof.Rows L2
section
variable {K : PySem.W.Frag} {W : WS} {G : Ent} {ta tb : TE} {ma mb : ME}
def pIntS : D → Option (Prop × Sl)
  | .str x => match PySem.intText? x with
    | some n => some (x.length ≤ 640, .sh (.int n))
    | none => none
  | _ => none
theorem c_intS : R1Ok K (fun x H Q => NtB.qIntS [x] H Q) (op1P pIntS) := by
  intro G H σ ρ τ δ x s1 Q E hr w
  obtain ⟨a, p, s, rfl, e, hp, q⟩ := op1P_go w
  unfold pIntS at e
  split at e
  · rename_i x
    split at e
    · rename_i n hn
      cases e
      obtain rfl := hr.topv (u := .str x) rfl
      exact ⟨x, n, rfl, hp, hn, q _ _ (hr.pop.push rfl)⟩
    · cases e
  · cases e
theorem strs_repL (K : PySem.W.Frag) (F : Hp) : ∀ ys : List Str, RepL K F (ys.map V.str) (ys.map D.str)
  | [] => .nil
  | y :: ys => .cons (.str y) (strs_repL K F ys)
def pSplit : D → D → Option (Prop × Sl)
  | .str x, .str y => some ((y.length == 0) = false ∧ x.length + 2 ≤ sizeLine, .sh (.lst ((Txt.split x y).map D.str)))
  | _, _ => none
def mSplit (a b : ME) : ME := a.bind fun s => match s with
  | .sh (.str x) => b.bind fun s2 => op2P pSplit (.sh (.str x)) s2
  | _ => M.stuck
theorem eSplit (ha : EOk K W ta ma) (hb : EOk K W tb mb) : EOk K W (tM1 NtB.rSplit ta tb) (mSplit ma mb) := fun G H σ ρ τ δ Q h w =>
  ha G H σ ρ τ δ _ h (ma.mono (fun s ρ1 w1 v H1 h1 => by
    simp only at w1
    split at w1
    · rename_i x
      obtain rfl := h1.topv (u := .str x) rfl
      refine ⟨⟨x, rfl⟩, hb G H1 σ ρ1 _ _ _ h1 (mb.mono (fun s2 ρ2 w2 v2 H2 h2 => ?_) (fun e ρ' z v H' q => z v H' q.drop2) w1)⟩
      obtain ⟨a, b, p, s, e1, rfl, e, hp, q⟩ := op2P_go w2
      cases e1
      unfold pSplit at e
      split at e
      · rename_i a0 y e0
        cases e0
        cases e
        obtain rfl := h2.topv (u := .str y) rfl
        obtain ⟨F, r1, z⟩ := h2.pop.top
        refine ⟨_, _, rfl, rfl, hp.1, hp.2, fun p hp' => q _ _ (z.nw _ _ _ hp' fun F' l z' => .lst z' (strs_repL K _ _))⟩
      · cases e
    · exact w1.elim) (fun _ _ z => z) w)
end
end Dl
namespace Pf
open PySem PySem.Spec PyProof.Rows L2 Dl
noncomputable section
def is_Trial : Nat → Option Bool := fun c => if c = 0 then some true else none
def ib_Trial : BT → Option Bool := fun s => match s with | _ => none
theorem if2 {c : Prop} [Decidable c] {a b : Prop} (h1 : c → a) (h2 : ¬ c → b) : if c then a else b := by
  split
  · exact h1 (by assumption)
  · exact h2 (by assumption)
theorem cut {a b : MS} {ρ : Dl.Env} {M : MEnds} (P : Dl.Env → Prop) (h1 : a.wp ρ { M with nx := P }) (h2 : ∀ r, P r → b.wp r M) : (sSeq a b).wp ρ M := a.mono (M := { M with nx := P }) ⟨fun r z => h2 r z, fun _ _ z => z, fun _ z => z, fun _ z => z, fun _ _ z => z⟩ h1
theorem dt {p : Prop} [Decidable p] (h : decide p = true) : p := of_decide_eq_true h
theorem df {p : Prop} [Decidable p] (h : ¬ decide p = true) : ¬ p := fun z => h (decide_eq_true z)
theorem op2_ok {g : D → D → Option D} {a b d : D} {ρ : Dl.Env} {Q : Sl → Dl.Env → Prop} {E : Er → Dl.Env → Prop} (h : g a b = some d) (k : Q (.sh d) ρ) : (op2 g (.sh a) (.sh b)).wp ρ Q E := by
  show (match g a b with | some d => M.ret (.sh d) | none => M.stuck : ME).wp ρ Q E
  rw [h]
  exact k
theorem fit_int {n : Nat} (i : Int) : (D.int i).fit n := ⟨.int i, rfl, Nat.zero_le _⟩
theorem fit_all {n : Nat} : ∀ {ds : List D}, (∀ d ∈ ds, D.fit n d) → Plains ds ∧ PyData.canLayAll0 (D.pys ds) = true ∧ PyData.depthAll (D.pys ds) ≤ n
  | [], _ => ⟨.nil, rfl, Nat.zero_le _⟩
  | d :: ds, h => by
    obtain ⟨a1, a2, a3⟩ := h d List.mem_cons_self
    obtain ⟨b1, b2, b3⟩ := fit_all (ds := ds) fun e he => h e (List.mem_cons_of_mem _ he)
    refine ⟨.cons a1 b1, ?_, Nat.max_le.mpr ⟨a3, b3⟩⟩
    show (PyData.canLay0 d.py && PyData.canLayAll0 (D.pys ds)) = true
    rw [a2, b2]
    rfl
theorem fit_lst {n : Nat} {ds : List D} (h : ∀ d ∈ ds, D.fit n d) : (D.lst ds).fit (n + 1) := let ⟨a, b, c⟩ := fit_all h; ⟨.lst a, b, Nat.succ_le_succ c⟩
theorem eq_refl {n : Nat} {d : D} (h : d.fit n) : D.eq d d = true := SeqAt.eqv_refl _ h.2.1
theorem lc_inv {vs : List Nat} {g : MG} {c : MT} {e : ME} {all : List D} {ρ : Dl.Env} {Q : List D → Dl.Env → Prop} {E : Er → Dl.Env → Prop} (P : Nat → List D → Dl.Env → Prop) (h0 : P 0 [] ρ)
    (hs : ∀ i d acc ρ, all[i]? = some d → P i acc ρ → (g (.sh d)).wp (wipeE ρ vs) (fun _ r1 => c.wp r1 (fun b r2 => if b = true then e.wp r2 (fun s r3 => match s with
      | .sh x => acc.length < sizeLine ∧ P (i + 1) (acc ++ [x]) (wipeE r3 vs)
      | _ => False) (fun er r => E er (wipeE r vs)) else P (i + 1) acc (wipeE r2 vs)) (fun er r => E er (wipeE r vs))) (fun _ _ => False))
    (hd : ∀ acc ρ, P all.length acc ρ → Q acc ρ) : lcM vs g c e all [] ρ Q E := by
  have main : ∀ n i acc ρ, i + n = all.length → P i acc ρ → lcM vs g c e (all.drop i) acc ρ Q E := by
    intro n
    induction n with
    | zero =>
      intro i acc ρ hi hp
      have e0 : i = all.length := by omega
      subst e0
      rw [List.drop_length]
      exact hd acc ρ hp
    | succ n ih =>
      intro i acc ρ hi hp
      have hlt : i < all.length := by omega
      rw [List.drop_eq_getElem_cons hlt]
      refine (g _).mono (fun _ r1 w1 => c.mono (fun b r2 w2 => ?_) (fun _ _ z => z) w1) (fun _ _ z => z) (hs i _ acc ρ (List.getElem?_eq_getElem hlt) hp)
      cases b with
      | true =>
        refine e.mono (fun s r3 w3 => ?_) (fun _ _ z => z) w2
        split at w3
        · exact ⟨w3.1, ih (i + 1) _ _ (by omega) w3.2⟩
        · exact w3.elim
      | false => exact ih (i + 1) _ _ (by omega) w2
  exact main all.length 0 [] ρ (by omega) h0
theorem for_inv {g : MG} {b : MS} {all : List D} {ρ : Dl.Env} {M : MEnds} (P : Nat → Dl.Env → Prop) (h0 : P 0 ρ)
    (hs : ∀ i d ρ, all[i]? = some d → P i ρ → (g (.sh d)).wp ρ (fun _ r => b.wp r { M with nx := P (i + 1), ct := P (i + 1), bk := M.nx }) (fun _ _ => False))
    (hd : ∀ ρ, P all.length ρ → M.nx ρ) : forM g b all ρ M := by
  have main : ∀ n i ρ, i + n = all.length → P i ρ → forM g b (all.drop i) ρ M := by
    intro n
    induction n with
    | zero =>
      intro i ρ hi hp
      have e0 : i = all.length := by omega
      subst e0
      rw [List.drop_length]
      exact hd ρ hp
    | succ n ih =>
      intro i ρ hi hp
      have hlt : i < all.length := by omega
      rw [List.drop_eq_getElem_cons hlt]
      refine (g _).mono (fun _ r1 w1 => b.mono (M := { M with nx := P (i + 1), ct := P (i + 1), bk := M.nx }) ⟨fun r z => ih (i + 1) r (by omega) z, fun _ _ z => z, fun _ z => z, fun r z => ih (i + 1) r (by omega) z, fun _ _ z => z⟩ w1) (fun _ _ z => z) (hs i _ ρ (List.getElem?_eq_getElem hlt) hp)
  exact main all.length 0 ρ (by omega) h0
theorem get_lt {α : Type} {l : List α} {i : Nat} {x : α} (e : l[i]? = some x) : i < l.length := (List.getElem?_eq_some_iff.mp e).1
theorem map_at {α β : Type} {f : α → β} {l : List α} {i : Nat} {y : β} (h : (l.map f)[i]? = some y) : ∃ x, l[i]? = some x ∧ y = f x := by
  rw [List.getElem?_map] at h
  cases e : l[i]? with
  | none => rw [e] at h; cases h
  | some x => rw [e] at h; cases h; exact ⟨x, rfl, rfl⟩
theorem take_snoc {α : Type} {l : List α} {i : Nat} {x : α} (e : l[i]? = some x) : l.take (i + 1) = l.take i ++ [x] := by rw [List.take_add_one, e]; rfl
theorem rgD_len (lo : Int) (n : Nat) : (rgD lo n).length = n := by unfold rgD; rw [List.length_map, List.length_range]
theorem fit_ints {n : Nat} (hs : List Int) : (D.lst (hs.map D.int)).fit (n + 1) := fit_lst fun d hd => by
  obtain ⟨x, _, rfl⟩ := List.mem_map.mp hd
  exact fit_int x
theorem gs_ok {i : Nat} {s : Sl} {ρ ρ' : Dl.Env} {b : MS} {M : MEnds} {E : Er → Dl.Env → Prop} (h : (gSet i s).wp ρ (fun _ r => r = ρ') (fun _ _ => False)) (k : b.wp ρ' M) : (gSet i s).wp ρ (fun _ r => b.wp r M) E := (gSet i s).mono (fun _ r e => by subst e; exact k) (fun _ _ z => z.elim) h
theorem df_in {n N : Nat} {m : MS} {as : List Sl} {Q : Sl → List Sl → Prop} {E : Er → List Sl → Prop} (ρ : Dl.Env) (hl : as.length = n) (hρ : as ++ List.replicate (N - n) .un = ρ) (h : m.wp ρ (mends as Q E)) : (defM n N m).wp as Q E := by
  subst hl
  subst hρ
  unfold defM
  show (match Nat.beq as.length as.length with
    | true => m.wp (as ++ List.replicate (N - as.length) .un) (mends as Q E)
    | false => False)
  rw [Nat.beq_refl]
  exact h
def m_TrialU_initU_2 : MS := (sFldN 0 2 0 (mVar 3))
def m_TrialU_initU_1 : MS := sSeq (sFldN 0 1 0 (mVar 2)) m_TrialU_initU_2
def m_TrialU_initU : MS := sSeq (sFldN 0 0 0 (mVar 1)) m_TrialU_initU_1
theorem dx_TrialU_initU : ∃ R : M Sl, R = defM 4 4 m_TrialU_initU := ⟨_, rfl⟩
@[irreducible] noncomputable def ds_TrialU_initU : M Sl := Classical.choose dx_TrialU_initU
theorem dq_TrialU_initU : ds_TrialU_initU = defM 4 4 m_TrialU_initU := by unfold ds_TrialU_initU; exact Classical.choose_spec dx_TrialU_initU
theorem hm_TrialU_initU : ∀ as Q E, ds_TrialU_initU.wp as Q E → (defM 4 4 m_TrialU_initU).wp as Q E := by rw [dq_TrialU_initU]; exact fun _ _ _ w => w
theorem mh_TrialU_initU {as : List Sl} {Q : Sl → List Sl → Prop} {E : Er → List Sl → Prop} (h : (defM 4 4 m_TrialU_initU).wp as Q E) : ds_TrialU_initU.wp as Q E := by rw [dq_TrialU_initU]; exact h
theorem hl_TrialU_initU : ∀ as Q E, ds_TrialU_initU.wp as Q E → as.length = 4 := fun as Q E w => defM_len as Q E (hm_TrialU_initU as Q E w)
def m_TrialU_eqU : MS := (sRet (mAndV (mUn (op1 (dIsO is_Trial ib_Trial)) (mVar 1)) (mAndV (mOp (op2 (dEq false)) (mFld 0 0 (mVar 0)) (mFld 0 0 (mVar 1))) (mAndV (mOp (op2 (dEq false)) (mFld 0 1 (mVar 0)) (mFld 0 1 (mVar 1))) (mOp (op2 (dEq false)) (mFld 0 2 (mVar 0)) (mFld 0 2 (mVar 1)))))))
theorem dx_TrialU_eqU : ∃ R : M Sl, R = defM 2 2 m_TrialU_eqU := ⟨_, rfl⟩
@[irreducible] noncomputable def ds_TrialU_eqU : M Sl := Classical.choose dx_TrialU_eqU
theorem dq_TrialU_eqU : ds_TrialU_eqU = defM 2 2 m_TrialU_eqU := by unfold ds_TrialU_eqU; exact Classical.choose_spec dx_TrialU_eqU
theorem hm_TrialU_eqU : ∀ as Q E, ds_TrialU_eqU.wp as Q E → (defM 2 2 m_TrialU_eqU).wp as Q E := by rw [dq_TrialU_eqU]; exact fun _ _ _ w => w
theorem mh_TrialU_eqU {as : List Sl} {Q : Sl → List Sl → Prop} {E : Er → List Sl → Prop} (h : (defM 2 2 m_TrialU_eqU).wp as Q E) : ds_TrialU_eqU.wp as Q E := by rw [dq_TrialU_eqU]; exact h
theorem hl_TrialU_eqU : ∀ as Q E, ds_TrialU_eqU.wp as Q E → as.length = 2 := fun as Q E w => defM_len as Q E (hm_TrialU_eqU as Q E w)
def m_TrialU_strU_1 : MS := (sRet (jsM ((mFmt (mFld 0 0 (mVar 0))) :: ((mC (.str " ")) :: ((mFmt (mFld 0 1 (mVar 0))) :: ((mC (.str " ")) :: ((mFmt (mVar 1)) :: []))))) Str.empty))
def m_TrialU_strU : MS := sSeq (sAsg (mIf (mTest (mFld 0 2 (mVar 0))) (mC (.str "reached")) (mC (.str "missed"))) (gSet 1)) m_TrialU_strU_1
theorem dx_TrialU_strU : ∃ R : M Sl, R = defM 1 2 m_TrialU_strU := ⟨_, rfl⟩
@[irreducible] noncomputable def ds_TrialU_strU : M Sl := Classical.choose dx_TrialU_strU
theorem dq_TrialU_strU : ds_TrialU_strU = defM 1 2 m_TrialU_strU := by unfold ds_TrialU_strU; exact Classical.choose_spec dx_TrialU_strU
theorem hm_TrialU_strU : ∀ as Q E, ds_TrialU_strU.wp as Q E → (defM 1 2 m_TrialU_strU).wp as Q E := by rw [dq_TrialU_strU]; exact fun _ _ _ w => w
theorem mh_TrialU_strU {as : List Sl} {Q : Sl → List Sl → Prop} {E : Er → List Sl → Prop} (h : (defM 1 2 m_TrialU_strU).wp as Q E) : ds_TrialU_strU.wp as Q E := by rw [dq_TrialU_strU]; exact h
theorem hl_TrialU_strU : ∀ as Q E, ds_TrialU_strU.wp as Q E → as.length = 1 := fun as Q E w => defM_len as Q E (hm_TrialU_strU as Q E w)
abbrev trD (p h : Int) (r : Bool) : D := .obj 0 [.int p, .int h, .bl r]
theorem new_trial {p h : Int} {r : Bool} {ρ : Dl.Env} {Q : Sl → Dl.Env → Prop} {E : Er → Dl.Env → Prop} (k : Q (.ow (.oo [.fr, .fr, .fr]) (trD p h r)) ρ) : (newI 0 ds_TrialU_initU [] [.s (.sh (.int p)), .s (.sh (.int h)), .s (.sh (.bl r))]).wp ρ Q E := by
  rw [newI_eq]
  exact fun v => mh_TrialU_initU ⟨rfl, k⟩
def wordS (r : Bool) : Str := if r = true then "reached" else "missed"
def trTxt (p h : Int) (r : Bool) : Str := toString p ++ " " ++ toString h ++ " " ++ wordS r
theorem num_len {i : Int} (h : i.natAbs.log2 < 1920) : (toString i : Str).length ≤ 1921 := int_text_len_1921 h
theorem str_ok {p h : Int} {r : Bool} {Q : Sl → List Sl → Prop} {E : Er → List Sl → Prop} (hp : p.natAbs.log2 < 1920) (hh : h.natAbs.log2 < 1920) (k : Q (.sh (.str (trTxt p h r))) [.sh (trD p h r)]) : ds_TrialU_strU.wp [.sh (trD p h r)] Q E := by
  have a1 := num_len hp
  have a2 := num_len hh
  have b1 : (Str.ofString " ").length = 1 := by decide +kernel
  have b2 : (Str.ofString "reached").length = 7 := by decide +kernel
  have b3 : (Str.ofString "missed").length = 6 := by decide +kernel
  have e : trTxt p h r = Str.empty ++ toString p ++ " " ++ toString h ++ " " ++ wordS r := by unfold trTxt; rw [Str.empty_append]
  rw [e] at k
  refine mh_TrialU_strU ?_
  have c0 : Str.empty.length = 0 := rfl
  cases r
  all_goals
    refine ⟨hp, ?_, ?_, hh, ?_, ?_, ?_, ?_, k⟩
    all_goals
      simp only [Str.length_append, sizeLine_eq]
      first | omega | (show Str.length (Str.ofString _) ≤ _; omega)
def m_law_number : MS := (sRet (mAndV (mUn (op1 (dIsi .int)) (mVar 0)) (mNotV (mUn (op1 (dIsi .bl)) (mVar 0)))))
theorem dx_law_number : ∃ R : M Sl, R = defM 1 1 m_law_number := ⟨_, rfl⟩
@[irreducible] noncomputable def ds_law_number : M Sl := Classical.choose dx_law_number
theorem dq_law_number : ds_law_number = defM 1 1 m_law_number := by unfold ds_law_number; exact Classical.choose_spec dx_law_number
theorem hm_law_number : ∀ as Q E, ds_law_number.wp as Q E → (defM 1 1 m_law_number).wp as Q E := by rw [dq_law_number]; exact fun _ _ _ w => w
theorem mh_law_number {as : List Sl} {Q : Sl → List Sl → Prop} {E : Er → List Sl → Prop} (h : (defM 1 1 m_law_number).wp as Q E) : ds_law_number.wp as Q E := by rw [dq_law_number]; exact h
theorem hl_law_number : ∀ as Q E, ds_law_number.wp as Q E → as.length = 1 := fun as Q E w => defM_len as Q E (hm_law_number as Q E w)
theorem number_int {i : Int} {Q : Sl → List Sl → Prop} {E : Er → List Sl → Prop} (k : Q (.sh (.bl true)) [.sh (.int i)]) : ds_law_number.wp [.sh (.int i)] Q E := mh_law_number k
def m_law_says_1 : MS := (sRet (mOp (op2 (dIsB false)) (mVar 0) (mC (.bl false))))
def m_law_says : MS := sSeq (sIf (mTest (mVar 1))
      (sRet (mOp (op2 (dIsB false)) (mVar 0) (mC (.bl true))))
      sNext) m_law_says_1
theorem dx_law_says : ∃ R : M Sl, R = defM 2 2 m_law_says := ⟨_, rfl⟩
@[irreducible] noncomputable def ds_law_says : M Sl := Classical.choose dx_law_says
theorem dq_law_says : ds_law_says = defM 2 2 m_law_says := by unfold ds_law_says; exact Classical.choose_spec dx_law_says
theorem hm_law_says : ∀ as Q E, ds_law_says.wp as Q E → (defM 2 2 m_law_says).wp as Q E := by rw [dq_law_says]; exact fun _ _ _ w => w
theorem mh_law_says {as : List Sl} {Q : Sl → List Sl → Prop} {E : Er → List Sl → Prop} (h : (defM 2 2 m_law_says).wp as Q E) : ds_law_says.wp as Q E := by rw [dq_law_says]; exact h
theorem hl_law_says : ∀ as Q E, ds_law_says.wp as Q E → as.length = 2 := fun as Q E w => defM_len as Q E (hm_law_says as Q E w)
theorem says_ok {a b : Bool} {Q : Sl → List Sl → Prop} {E : Er → List Sl → Prop} (k : Q (.sh (.bl (decide (a = b)))) [.sh (.bl a), .sh (.bl b)]) : ds_law_says.wp [.sh (.bl a), .sh (.bl b)] Q E := by
  refine mh_law_says ?_
  cases b <;> cases a <;> exact k
def m_read_number_L1 : MS := (sIf (mTest (mOp (op2 (dInS true)) (mVar 3) (mC (.str "0123456789"))))
      (sRaise 9 (mVar 1))
      sNext)
def m_read_number_3 : MS := (sRet (mUn (op1P pIntS) (mVar 0)))
def m_read_number_2 : MS := sSeq (sFor (iS (mVar 2)) (gSet 3) m_read_number_L1) m_read_number_3
def m_read_number_1 : MS := sSeq (sIf (mOr (mNot (mTest (mChain (op2 dLe) (op2 dLe) (mC (.int 1)) (mUn (op1P pLenS) (mVar 2)) (mC (.int 40))))) (mAnd (mTest (mOp (op2 (dEq false)) (mOp (op2P pIxS) (mVar 2) (mC (.int 0))) (mC (.str "0")))) (mTest (mOp (op2 (dEq true)) (mVar 0) (mC (.str "0"))))))
      (sRaise 9 (mVar 1))
      sNext) m_read_number_2
def m_read_number : MS := sSeq (sAsg (mIf (mTest (mOp (op2 (dEq false)) (mSl fSlS (mVar 0) mNoPart (mPart (mC (.int 1)))) (mC (.str "-")))) (mSl fSlS (mVar 0) (mPart (mC (.int 1))) mNoPart) (mVar 0)) (gSet 2)) m_read_number_1
theorem dx_read_number : ∃ R : M Sl, R = defM 2 4 m_read_number := ⟨_, rfl⟩
@[irreducible] noncomputable def ds_read_number : M Sl := Classical.choose dx_read_number
theorem dq_read_number : ds_read_number = defM 2 4 m_read_number := by unfold ds_read_number; exact Classical.choose_spec dx_read_number
theorem hm_read_number : ∀ as Q E, ds_read_number.wp as Q E → (defM 2 4 m_read_number).wp as Q E := by rw [dq_read_number]; exact fun _ _ _ w => w
theorem mh_read_number {as : List Sl} {Q : Sl → List Sl → Prop} {E : Er → List Sl → Prop} (h : (defM 2 4 m_read_number).wp as Q E) : ds_read_number.wp as Q E := by rw [dq_read_number]; exact h
theorem hl_read_number : ∀ as Q E, ds_read_number.wp as Q E → as.length = 2 := fun as Q E w => defM_len as Q E (hm_read_number as Q E w)
theorem small_line {n : Nat} (h : n < 1000) : n < sizeLine := by rw [sizeLine_eq]; omega
def mkS (l : List Nat) : Str := ⟨l.toArray⟩
theorem cl_mk {l : List Nat} : (mkS l).cps.toList = l := rfl
theorem str_inj {x y : Str} (h : x.cps.toList = y.cps.toList) : x = y := Str.ext' (Array.toList_inj.mp h)
theorem mk_cl {x : Str} : mkS x.cps.toList = x := str_inj rfl
theorem mk_inj {l m : List Nat} : mkS l = mkS m ↔ l = m := ⟨fun h => by rw [← cl_mk (l := l), h, cl_mk], fun h => by rw [h]⟩
theorem len_cl {x : Str} : x.length = x.cps.toList.length := by
  show x.cps.size = _
  rw [Array.length_toList]
theorem len_mk {l : List Nat} : (mkS l).length = l.length := by rw [len_cl, cl_mk]
theorem cut_head {x : Str} : cutS x none (some 1) = mkS (x.cps.toList.take 1) := by
  refine str_inj ?_
  rw [cl_mk]
  unfold cutS HT.sIx
  simp only [len_cl]
  rw [List.drop_zero]
  by_cases h : x.cps.toList = []
  · rw [h]; rfl
  · have := List.length_pos_iff.mpr h
    congr 1
    show (if (1 : Int) < 0 then _ else _) - 0 = 1
    rw [if_neg (by omega)]
    omega
theorem cut_tail {x : Str} : cutS x (some 1) none = mkS (x.cps.toList.drop 1) := by
  refine str_inj ?_
  rw [cl_mk]
  unfold cutS HT.sIx
  simp only [len_cl]
  show (x.cps.toList.drop (if (1 : Int) < 0 then _ else _)).take (x.cps.toList.length - (if (1 : Int) < 0 then _ else _)) = _
  rw [if_neg (by omega)]
  by_cases h : x.cps.toList = []
  · rw [h]; rfl
  · have := List.length_pos_iff.mpr h
    rw [show min (1 : Int).toNat x.cps.toList.length = 1 by omega]
    rw [List.take_of_length_le (by rw [List.length_drop]; omega)]
def digB (c : Nat) : Bool := decide (48 ≤ c ∧ c ≤ 57)
def bodyN (l : List Nat) : List Nat := if l.head? = some 45 then l.drop 1 else l
def numOk (x : Str) : Bool := (decide (1 ≤ (bodyN x.cps.toList).length ∧ (bodyN x.cps.toList).length ≤ 40) && !(decide ((bodyN x.cps.toList).head? = some 48) && decide (x.cps.toList ≠ [48]))) && (bodyN x.cps.toList).all digB
def numV (x : Str) : Int := if x.cps.toList.head? = some 45 then -((NumText.digitsVal (bodyN x.cps.toList) : Nat) : Int) else ((NumText.digitsVal (bodyN x.cps.toList) : Nat) : Int)
theorem dig_all {l : List Nat} (h : l.all digB = true) : NumText.AllDigits l := fun c hc => of_decide_eq_true (List.all_eq_true.mp h c hc)
theorem num_text {x : Str} (h : numOk x = true) (hx : x.length < 600) : intText? x = some (numV x) := by
  unfold numOk at h
  rw [Bool.and_eq_true, Bool.and_eq_true, decide_eq_true_eq] at h
  obtain ⟨⟨⟨h1, h2⟩, _⟩, h3⟩ := h
  have h4 := dig_all h3
  unfold numV
  by_cases c : x.cps.toList.head? = some 45
  · rw [if_pos c]
    cases e : x.cps.toList with
    | nil => rw [e] at c; cases c
    | cons a l =>
      rw [e] at c
      have c : a = 45 := Option.some.inj c
      subst c
      have eb : bodyN (45 :: l) = l := by unfold bodyN; exact if_pos rfl
      rw [e, eb] at h1 h4
      rw [eb]
      exact intText_neg e h4 (fun z => by rw [z] at h1; simp at h1) (by omega)
  · rw [if_neg c]
    have eb : bodyN x.cps.toList = x.cps.toList := by unfold bodyN; rw [if_neg c]
    rw [eb] at h1 h4 ⊢
    exact intText_digits h4 (fun z => by rw [z] at h1; simp at h1) (by omega)
theorem xt {b : Bool} (h : (false ^^ b) = true) : b = true := by rwa [Bool.false_xor] at h
theorem xf {b : Bool} (h : ¬ (false ^^ b) = true) : ¬ b = true := by rwa [Bool.false_xor] at h
theorem yt {b : Bool} (h : (true ^^ b) = true) : b = false := by revert h; cases b <;> simp
theorem yf {b : Bool} (h : ¬ (true ^^ b) = true) : b = true := by revert h; cases b <;> simp
def DIG : Str := "0123456789"
theorem dig_in {c : Nat} : decide (c ∈ DIG.cps.toList) = digB c := by
  have e : DIG.cps.toList = [48, 49, 50, 51, 52, 53, 54, 55, 56, 57] := by decide +kernel
  rw [e]
  unfold digB
  refine decide_eq_decide.mpr ?_
  simp only [List.mem_cons, List.not_mem_nil, or_false]
  omega
theorem dash_eq : ("-" : Str) = mkS [45] := by decide +kernel
theorem zero_eq : ("0" : Str) = mkS [48] := by decide +kernel
theorem read_any {x : Str} {ln : Int} {Q : Sl → List Sl → Prop} {E : Er → List Sl → Prop} (hx : x.length < 600) (k : numOk x = true → Q (.sh (.int (numV x))) [.sh (.str x), .sh (.int ln)]) (ke : numOk x = false → E ⟨9, .int ln⟩ [.sh (.str x), .sh (.int ln)]) : ds_read_number.wp [.sh (.str x), .sh (.int ln)] Q E := by
  refine mh_read_number ?_
  refine df_in [.sh (.str x), .sh (.int ln), .un, .un] rfl rfl ?_
  have sz : x.length ≤ sizeLine := by rw [sizeLine_eq]; omega
  refine cut (fun r => r = [.sh (.str x), .sh (.int ln), .sh (.str (mkS (bodyN x.cps.toList))), .un]) ?_ ?_
  · refine ⟨sz, ?_⟩
    refine if2 (fun z => ?_) (fun z => ?_)
    · have z1 : cutS x none (some 1) = ("-" : Str) := dt (xt z)
      rw [cut_head, dash_eq, mk_inj] at z1
      refine ⟨sz, ?_⟩
      show _ = _
      rw [cut_tail]
      have : x.cps.toList.head? = some 45 := by
        cases e : x.cps.toList with
        | nil => rw [e] at z1; cases z1
        | cons a l => rw [e] at z1; simp at z1; rw [z1]; rfl
      unfold bodyN
      rw [if_pos this]
      rfl
    · have z1 : ¬ cutS x none (some 1) = ("-" : Str) := df (xf z)
      rw [cut_head, dash_eq, mk_inj] at z1
      show _ = _
      have : ¬ x.cps.toList.head? = some 45 := fun h => z1 (by
        cases e : x.cps.toList with
        | nil => rw [e] at h; cases h
        | cons a l => rw [e] at h; rw [Option.some.inj h]; rfl)
      unfold bodyN
      rw [if_neg this, mk_cl]
      rfl
  rintro _ rfl
  have nt := fun h => num_text (x := x) h hx
  have hds : (bodyN x.cps.toList).length ≤ x.length := by
    rw [len_cl]
    unfold bodyN
    split
    · rw [List.length_drop]; omega
    · omega
  unfold numOk at k ke nt
  generalize bodyN x.cps.toList = ds at *
  have sz2 : (mkS ds).length ≤ sizeLine := by rw [len_mk]; omega
  have e0 : (((mkS ds).length : Nat) : Int) = ((ds.length : Nat) : Int) := by rw [len_mk]
  refine cut (fun r => (decide (1 ≤ ds.length ∧ ds.length ≤ 40) && !(decide (ds.head? = some 48) && decide (x.cps.toList ≠ [48]))) = true ∧ r = [.sh (.str x), .sh (.int ln), .sh (.str (mkS ds)), .un]) ?_ ?_
  · have bad1 : ¬ (1 ≤ ds.length ∧ ds.length ≤ 40) → E ⟨9, .int ln⟩ [.sh (.str x), .sh (.int ln)] := fun h => ke (by rw [decide_eq_false h, Bool.false_and, Bool.false_and])
    refine ⟨sz2, ?_⟩
    refine if2 (fun c => ?_) (fun c => ?_)
    · have c1 : (1 : Int) ≤ ((mkS ds).length : Int) := dt c
      rw [e0] at c1
      refine if2 (fun d => ?_) (fun d => ?_)
      · have d1 : ¬ ((mkS ds).length : Int) ≤ 40 := by simpa using d
        rw [e0] at d1
        exact bad1 (by omega)
      · have d1 : ((mkS ds).length : Int) ≤ 40 := by simpa using d
        rw [e0] at d1
        have r1 : 1 ≤ ds.length ∧ ds.length ≤ 40 := by omega
        rw [decide_eq_true r1, Bool.true_and] at ke ⊢
        cases hd : ds with
        | nil => rw [hd] at r1; simp at r1
        | cons a l =>
          rw [hd] at ke
          have e1 : atI (a :: l) 0 = some a := L2.atI_nat (j := 0) rfl
          have ep : pIxS (.str (mkS (a :: l))) (.int 0) = some ((mkS (a :: l)).length ≤ sizeLine, .sh (.str (mkS [a]))) := by
            unfold pIxS
            simp only [cl_mk, e1]
            rfl
          conv => whnf
          dsimp only
          rw [ep]
          refine ⟨by rw [← hd]; exact sz2, ?_⟩
          refine if2 (fun z => ?_) (fun z => ?_)
          · have z1 : mkS [a] = ("0" : Str) := dt (xt z)
            rw [zero_eq, mk_inj] at z1
            have z2 : a = 48 := by simpa using z1
            subst z2
            refine if2 (fun y => ?_) (fun y => ?_)
            · have y1 : ¬ x = ("0" : Str) := df (by rw [yt y]; decide)
              have y2 : x.cps.toList ≠ [48] := fun h => y1 (by rw [zero_eq, ← h, mk_cl])
              exact ke (by rw [decide_eq_true y2]; rfl)
            · have y1 : x = ("0" : Str) := dt (yf y)
              refine ⟨?_, rfl⟩
              rw [decide_eq_false (p := x.cps.toList ≠ [48]) (fun h => h (by rw [y1, zero_eq, cl_mk]))]
              rfl
          · have z1 : ¬ mkS [a] = ("0" : Str) := df (xf z)
            refine ⟨?_, rfl⟩
            rw [decide_eq_false (p := (a :: l).head? = some 48) (fun h => z1 (by rw [zero_eq, Option.some.inj h]))]
            rfl
    · have c1 : ¬ (1 : Int) ≤ ((mkS ds).length : Int) := df c
      rw [e0] at c1
      exact bad1 (by omega)
  rintro _ ⟨h1, rfl⟩
  rw [h1, Bool.true_and] at k ke nt
  refine cut (fun r => ds.all digB = true ∧ ∃ s, r = [.sh (.str x), .sh (.int ln), .sh (.str (mkS ds)), s]) ?_ ?_
  · refine for_inv (all := sgD (mkS ds)) (fun i r => (∀ c ∈ ds.take i, digB c = true) ∧ ∃ s, r = [.sh (.str x), .sh (.int ln), .sh (.str (mkS ds)), s]) ⟨fun c h => (by cases h), _, rfl⟩ ?_ ?_
    · rintro i d r hd ⟨ok, _, rfl⟩
      obtain ⟨q, eq, rfl⟩ := map_at hd
      have eq : ds[i]? = some q := eq
      show m_read_number_L1.wp [.sh (.str x), .sh (.int ln), .sh (.str (mkS ds)), .sh (.str ⟨#[q]⟩)] _
      refine if2 (fun z => ?_) (fun z => ?_)
      · refine ke ?_
        rw [List.all_eq_false]
        refine ⟨q, List.mem_of_getElem? eq, ?_⟩
        have z1 : decide (q ∈ DIG.cps.toList) = false := yt z
        rw [dig_in] at z1
        rw [z1]
        decide
      · refine ⟨fun c hc => ?_, _, rfl⟩
        rw [take_snoc eq] at hc
        rcases List.mem_append.mp hc with h | h
        · exact ok c h
        · rw [List.mem_singleton.mp h, ← dig_in]
          exact yf z
    · rintro r ⟨ok, s, rfl⟩
      refine ⟨?_, _, rfl⟩
      rw [List.all_eq_true]
      intro c hc
      refine ok c ?_
      show c ∈ ds.take (sgD (mkS ds)).length
      unfold sgD
      rw [List.length_map, cl_mk, List.take_length]
      exact hc
  rintro _ ⟨h2, s, rfl⟩
  have e := nt h2
  have ep : pIntS (.str x) = some (x.length ≤ 640, .sh (.int (numV x))) := by
    unfold pIntS
    simp only [e]
  conv => whnf
  dsimp only
  rw [ep]
  exact ⟨by omega, k h2⟩
def m_lines_of_1 : MS := (sRet (mFz (mLc0 [1, 2] (iE (mSplit (mVar 0) (mC (.str "
")))) (gTu 2 (gCo (gSet 1) (gCo (gSet 2) gNo))) mYes (mTup (mCons (mOp (op2 dAdd) (mVar 1) (mC (.int 1))) (mCons (mSplit (mVar 2) (mC (.str " "))) mNil))))))
def m_lines_of : MS := sSeq (sIf (mTest (mOp (op2 (dEq false)) (mVar 0) (mC (.str ""))))
      (sRet (mFz (mLst mNil)))
      sNext) m_lines_of_1
theorem dx_lines_of : ∃ R : M Sl, R = defM 1 3 m_lines_of := ⟨_, rfl⟩
@[irreducible] noncomputable def ds_lines_of : M Sl := Classical.choose dx_lines_of
theorem dq_lines_of : ds_lines_of = defM 1 3 m_lines_of := by unfold ds_lines_of; exact Classical.choose_spec dx_lines_of
theorem hm_lines_of : ∀ as Q E, ds_lines_of.wp as Q E → (defM 1 3 m_lines_of).wp as Q E := by rw [dq_lines_of]; exact fun _ _ _ w => w
theorem mh_lines_of {as : List Sl} {Q : Sl → List Sl → Prop} {E : Er → List Sl → Prop} (h : (defM 1 3 m_lines_of).wp as Q E) : ds_lines_of.wp as Q E := by rw [dq_lines_of]; exact h
theorem hl_lines_of : ∀ as Q E, ds_lines_of.wp as Q E → as.length = 1 := fun as Q E w => defM_len as Q E (hm_lines_of as Q E w)
def wds (y : Str) : List Str := Txt.split y " "
theorem spl_len {S : List Nat} : ∀ {l : List Nat} {k : Nat} {acc p : List Nat}, p ∈ TL.spl S k acc l → p.length ≤ acc.length + l.length
  | [], k, acc, p, h => by
    rw [TL.spl_nil] at h
    rw [List.mem_singleton.mp h]
    omega
  | c :: r, 0, acc, p, h => by
    by_cases e : TL.pre S (c :: r) = true
    · rw [TL.spl_hit e] at h
      rcases List.mem_cons.mp h with q | q
      · rw [q]; omega
      · have := spl_len q
        rw [List.length_cons]
        simp only [List.length_nil] at this
        omega
    · rw [TL.spl_miss (by simpa using e)] at h
      have := spl_len h
      rw [List.length_append, List.length_singleton] at this
      rw [List.length_cons]
      omega
  | c :: r, k + 1, acc, p, h => by
    have h : p ∈ TL.spl S k acc r := h
    have := spl_len h
    rw [List.length_cons]
    omega
theorem sp_cl : (" " : Str).cps.toList = [32] := by decide +kernel
theorem nl_cl : ("\n" : Str).cps.toList = [10] := by decide +kernel
theorem wds_spl (y : Str) : (wds y).map TL.tl = TL.spl [32] 0 [] y.cps.toList := by
  have := TL.split_spl y " " (by rw [show TL.tl (" " : Str) = [32] from sp_cl]; simp) (TL.kind_ok (by decide +kernel))
  rw [show TL.tl (" " : Str) = [32] from sp_cl] at this
  exact this
theorem wds_len {y w : Str} (h : w ∈ wds y) : w.length ≤ y.length := by
  have h1 : TL.tl w ∈ (wds y).map TL.tl := List.mem_map.mpr ⟨w, h, rfl⟩
  rw [wds_spl] at h1
  have := spl_len h1
  rw [len_cl, len_cl]
  simp only [List.length_nil] at this
  show (TL.tl w).length ≤ _
  omega
def lnD (i : Nat) (y : Str) : D := .tup [.int ((i + 1 : Nat) : Int), .lst ((wds y).map D.str)]
def lnsL : Nat → List Str → List D
  | _, [] => []
  | i, y :: ys => lnD i y :: lnsL (i + 1) ys
theorem lns_snoc : ∀ {n : Nat} {L : List Str} {y : Str}, lnsL n (L ++ [y]) = lnsL n L ++ [lnD (n + L.length) y]
  | n, [], y => rfl
  | n, x :: L, y => by
    show lnD n x :: lnsL (n + 1) (L ++ [y]) = lnD n x :: lnsL (n + 1) L ++ [lnD (n + (L.length + 1)) y]
    rw [lns_snoc, show n + 1 + L.length = n + (L.length + 1) by omega]
    rfl
theorem lns_len : ∀ {n : Nat} {L : List Str}, (lnsL n L).length = L.length
  | n, [] => rfl
  | n, x :: L => by
    show (lnsL (n + 1) L).length + 1 = L.length + 1
    rw [lns_len]
theorem lns_at : ∀ {n : Nat} {L : List Str} {i : Nat} {d : D}, (lnsL n L)[i]? = some d → ∃ y, L[i]? = some y ∧ d = lnD (n + i) y
  | n, [], i, d, h => by cases h
  | n, x :: L, 0, d, h => ⟨x, rfl, (Option.some.inj h).symm⟩
  | n, x :: L, i + 1, d, h => by
    have h : (lnsL (n + 1) L)[i]? = some d := h
    obtain ⟨y, e, hd⟩ := lns_at h
    exact ⟨y, e, by rw [hd, show n + 1 + i = n + (i + 1) by omega]⟩
theorem en_str {Ls : List Str} {i : Nat} {d : D} (h : (enD (Ls.map D.str))[i]? = some d) : ∃ y, Ls[i]? = some y ∧ d = .tup [.int ((i : Nat) : Int), .str y] := by
  obtain ⟨x, e, rfl⟩ := enD_at h
  obtain ⟨y, e2, rfl⟩ := map_at e
  exact ⟨y, e2, rfl⟩
theorem lines_ok {x : Str} {Ls : List Str} {Q : Sl → List Sl → Prop} {E : Er → List Sl → Prop} (hz : x.length < 100000) (h0 : x = "" → Ls = []) (h1 : x ≠ "" → Txt.split x "\n" = Ls) (hl : Ls.length < 900) (hy : ∀ y ∈ Ls, y.length < 600)
    (k : Q (.sh (.lst (lnsL 0 Ls))) [.sh (.str x)]) : ds_lines_of.wp [.sh (.str x)] Q E := by
  refine mh_lines_of ?_
  refine df_in [.sh (.str x), .un, .un] rfl rfl ?_
  refine cut (fun r => x ≠ "" ∧ r = [.sh (.str x), .un, .un]) ?_ ?_
  · refine if2 (fun z => ?_) (fun z => ?_)
    · have z1 : x = "" := dt (xt z)
      rw [h0 z1] at k
      exact k
    · have z1 : ¬ x = "" := df (xf z)
      exact ⟨z1, rfl⟩
  rintro _ ⟨ne, rfl⟩
  have e := h1 ne
  have nz : (("\n" : Str).length == 0) = false := by decide +kernel
  have sz : (" " : Str).length = 1 := by decide +kernel
  refine ⟨⟨nz, by rw [sizeLine_eq]; omega⟩, ?_⟩
  rw [e]
  refine lc_inv (fun i acc r => acc = lnsL 0 (Ls.take i) ∧ ∃ s1 s2, r = [.sh (.str x), s1, s2]) ⟨rfl, _, _, rfl⟩ ?_ ?_
  · rintro i d acc r hd ⟨rfl, s1, s2, rfl⟩
    obtain ⟨y, ey, rfl⟩ := en_str hd
    have hi := get_lt ey
    have hy1 := hy y (List.mem_of_getElem? ey)
    refine ⟨⟨by decide +kernel, by rw [sizeLine_eq]; omega⟩, ?_⟩
    refine ⟨small_line (by rw [lns_len, List.length_take]; omega), ?_, _, _, rfl⟩
    rw [take_snoc ey, lns_snoc, List.length_take, Nat.min_eq_left (by omega), Nat.zero_add]
    rfl
  · rintro acc r ⟨rfl, s1, s2, rfl⟩
    rw [enD_len, List.length_map, List.take_length]
    exact k
def m_read_trials_L1_3 : MS := (sDrop (mApp 1 (mFz (mMake 0 ds_TrialU_initU [] (bCo (mVar 4) (bCo (mVar 5) (bCo (mOp (op2 (dEq false)) (mOp (op2 dIxL) (mVar 3) (mC (.int 3))) (mC (.str "reached"))) bNo)))))))
def m_read_trials_L1_2 : MS := sSeq (sAsg (mCall ds_read_number [] (bCo (mOp (op2 dIxL) (mVar 3) (mC (.int 2))) (bCo (mVar 2) bNo))) (gSet 5)) m_read_trials_L1_3
def m_read_trials_L1_1 : MS := sSeq (sAsg (mCall ds_read_number [] (bCo (mOp (op2 dIxL) (mVar 3) (mC (.int 1))) (bCo (mVar 2) bNo))) (gSet 4)) m_read_trials_L1_2
def m_read_trials_L1 : MS := sSeq (sIf (mOr (mTest (mOp (op2 (dEq true)) (mUn (op1 dLen) (mVar 3)) (mC (.int 4)))) (mOr (mTest (mOp (op2 (dEq true)) (mOp (op2 dIxL) (mVar 3) (mC (.int 0))) (mC (.str "trial")))) (mTest (mOp (op2P (pIn true)) (mOp (op2 dIxL) (mVar 3) (mC (.int 3))) (mTup (mCons (mC (.str "reached")) (mCons (mC (.str "missed")) mNil)))))))
      (sRaise 9 (mVar 2))
      sNext) m_read_trials_L1_1
def m_read_trials_2 : MS := (sRet (mMv 1))
def m_read_trials_1 : MS := sSeq (sFor (iL (mCall ds_lines_of [] (bCo (mVar 0) bNo))) (gTu 2 (gCo (gSet 2) (gCo (gSet 3) gNo))) m_read_trials_L1) m_read_trials_2
def m_read_trials : MS := sSeq (sAsg (mLst mNil) (gSet 1)) m_read_trials_1
theorem dx_read_trials : ∃ R : M Sl, R = defM 1 6 m_read_trials := ⟨_, rfl⟩
@[irreducible] noncomputable def ds_read_trials : M Sl := Classical.choose dx_read_trials
theorem dq_read_trials : ds_read_trials = defM 1 6 m_read_trials := by unfold ds_read_trials; exact Classical.choose_spec dx_read_trials
theorem hm_read_trials : ∀ as Q E, ds_read_trials.wp as Q E → (defM 1 6 m_read_trials).wp as Q E := by rw [dq_read_trials]; exact fun _ _ _ w => w
theorem mh_read_trials {as : List Sl} {Q : Sl → List Sl → Prop} {E : Er → List Sl → Prop} (h : (defM 1 6 m_read_trials).wp as Q E) : ds_read_trials.wp as Q E := by rw [dq_read_trials]; exact h
theorem hl_read_trials : ∀ as Q E, ds_read_trials.wp as Q E → as.length = 1 := fun as Q E w => defM_len as Q E (hm_read_trials as Q E w)
def m_write_trials : MS := (sRet (mJoin (mC (.str "
")) (mFz (mLc0 [1] (iOr (iL (mVar 0)) (iT (mVar 0))) (gSet 1) mYes (mOp opStr (mC (.str "trial ")) (mUn (opTxt 0 ds_TrialU_strU) (mVar 1)))))))
theorem dx_write_trials : ∃ R : M Sl, R = defM 1 2 m_write_trials := ⟨_, rfl⟩
@[irreducible] noncomputable def ds_write_trials : M Sl := Classical.choose dx_write_trials
theorem dq_write_trials : ds_write_trials = defM 1 2 m_write_trials := by unfold ds_write_trials; exact Classical.choose_spec dx_write_trials
theorem hm_write_trials : ∀ as Q E, ds_write_trials.wp as Q E → (defM 1 2 m_write_trials).wp as Q E := by rw [dq_write_trials]; exact fun _ _ _ w => w
theorem mh_write_trials {as : List Sl} {Q : Sl → List Sl → Prop} {E : Er → List Sl → Prop} (h : (defM 1 2 m_write_trials).wp as Q E) : ds_write_trials.wp as Q E := by rw [dq_write_trials]; exact h
theorem hl_write_trials : ∀ as Q E, ds_write_trials.wp as Q E → as.length = 1 := fun as Q E w => defM_len as Q E (hm_write_trials as Q E w)
abbrev T3 := Int × Int × Bool
def t3D (t : T3) : D := trD t.1 t.2.1 t.2.2
def trW (ws : List Str) : Option T3 := match ws with
  | [a, b, c, d] => if (a = "trial" ∧ (d = "reached" ∨ d = "missed")) ∧ (numOk b = true ∧ numOk c = true) then some (numV b, numV c, decide (d = "reached")) else none
  | _ => none
theorem str_eq {x y : Str} : D.eq (.str x) (.str y) = decide (x = y) := by
  have e : D.eq (.str x) (.str y) = (x == y) := by unfold D.eq; show PyData.eqv (.str _) (.str _) = _; unfold PyData.eqv; rfl
  rw [e]
  by_cases h : x = y
  · subst h; simp
  · rw [decide_eq_false h]; exact beq_eq_false_iff_ne.mpr h
theorem word_any {d : Str} : ([D.str "reached", D.str "missed"].any fun y => D.eq y (.str d)) = decide (d = "reached" ∨ d = "missed") := by
  simp only [List.any_cons, List.any_nil, Bool.or_false, str_eq]
  rw [← Bool.decide_or]
  refine decide_eq_decide.mpr ⟨fun h => ?_, fun h => ?_⟩
  · rcases h with h | h
    · exact .inl h.symm
    · exact .inr h.symm
  · rcases h with h | h
    · exact .inl h.symm
    · exact .inr h.symm
abbrev rtE (x : Str) (ts : List T3) (s2 s3 s4 s5 : Sl) : Dl.Env := [.sh (.str x), .ow (.ol .fr) (.lst (ts.map t3D)), s2, s3, s4, s5]
theorem read_trials_any {x : Str} {Ls : List Str} {Q : Sl → List Sl → Prop} {E : Er → List Sl → Prop} (hz : x.length < 100000) (h0 : x = "" → Ls = []) (h1 : x ≠ "" → Txt.split x "\n" = Ls) (hl : Ls.length < 900) (hy : ∀ y ∈ Ls, y.length < 600)
    (k : ∀ ts : List T3, Ls.map (fun y => trW (wds y)) = ts.map some → Q (.ow (.ol .fr) (.lst (ts.map t3D))) [.sh (.str x)])
    (ke : ∀ i y, Ls[i]? = some y → trW (wds y) = none → (∀ z ∈ Ls.take i, trW (wds z) ≠ none) → E ⟨9, .int ((i + 1 : Nat) : Int)⟩ [.sh (.str x)]) : ds_read_trials.wp [.sh (.str x)] Q E := by
  refine mh_read_trials ?_
  refine df_in [.sh (.str x), .un, .un, .un, .un, .un] rfl rfl ?_
  refine cut (fun r => r = rtE x [] .un .un .un .un) rfl ?_
  rintro _ rfl
  refine cut (fun r => ∃ (ts : List T3) (s2 s3 s4 s5 : Sl), Ls.map (fun y => trW (wds y)) = ts.map some ∧ r = rtE x ts s2 s3 s4 s5) ?_ ?_
  · refine lines_ok hz h0 h1 hl hy ?_
    refine for_inv (fun i r => ∃ (ts : List T3) (s2 s3 s4 s5 : Sl), (Ls.take i).map (fun y => trW (wds y)) = ts.map some ∧ r = rtE x ts s2 s3 s4 s5) ⟨[], _, _, _, _, rfl, rfl⟩ ?_ ?_
    · rintro i d r hd ⟨ts, s2, s3, s4, s5, hts, rfl⟩
      obtain ⟨y, ey, rfl⟩ := lns_at hd
      have hi := get_lt ey
      have hyl := hy y (List.mem_of_getElem? ey)
      have hwl : ∀ w ∈ wds y, w.length < 600 := fun w hw => Nat.lt_of_le_of_lt (wds_len hw) hyl
      have lts : ts.length = i := by
        have := congrArg List.length hts
        rw [List.length_map, List.length_map, List.length_take] at this
        omega
      have bad : trW (wds y) = none → E ⟨9, .int ((i + 1 : Nat) : Int)⟩ [.sh (.str x)] := fun h => ke i y ey h fun z hz e => by
        have : trW (wds z) ∈ (Ls.take i).map (fun y => trW (wds y)) := List.mem_map.mpr ⟨z, hz, rfl⟩
        rw [hts, e] at this
        obtain ⟨t, _, q⟩ := List.mem_map.mp this
        cases q
      have next : ∀ t, trW (wds y) = some t → (Ls.take (i + 1)).map (fun y => trW (wds y)) = (ts ++ [t]).map some := fun t h => by
        rw [take_snoc ey, List.map_append, List.map_append, hts, List.map_cons, h]
        rfl
      rw [Nat.zero_add]
      show m_read_trials_L1.wp (rtE x ts (.sh (.int ((i + 1 : Nat) : Int))) (.sh (.lst ((wds y).map D.str))) s4 s5) _
      generalize wds y = ws at *
      by_cases c4 : ws.length = 4
      · obtain ⟨a, b, c, d, rfl⟩ : ∃ a b c d, ws = [a, b, c, d] := by
          match ws, c4 with
          | [a, b, c, d], _ => exact ⟨a, b, c, d, rfl⟩
        have la := hwl b (by simp)
        have lc := hwl c (by simp)
        refine cut (fun r => (a = "trial" ∧ (d = "reached" ∨ d = "missed")) ∧ r = rtE x ts (.sh (.int ((i + 1 : Nat) : Int))) (.sh (.lst ([a, b, c, d].map D.str))) s4 s5) ?_ ?_
        · refine if2 (fun z => ?_) (fun z => ?_)
          · have z1 : ¬ a = "trial" := df (by rw [yt z]; decide)
            exact bad (if_neg fun h => z1 h.1.1)
          · have z1 : a = "trial" := dt (yf z)
            refine ⟨⟨rfl, rfl⟩, ?_⟩
            refine if2 (fun y => ?_) (fun y => ?_)
            · have y1 : ([D.str "reached", D.str "missed"].any fun y => D.eq y (.str d)) = false := yt y
              rw [word_any] at y1
              exact bad (if_neg fun h => of_decide_eq_false y1 h.1.2)
            · have y1 : ([D.str "reached", D.str "missed"].any fun y => D.eq y (.str d)) = true := yf y
              rw [word_any] at y1
              exact ⟨⟨z1, of_decide_eq_true y1⟩, rfl⟩
        rintro _ ⟨hw, rfl⟩
        refine cut (fun r => numOk b = true ∧ r = rtE x ts (.sh (.int ((i + 1 : Nat) : Int))) (.sh (.lst ([a, b, c, d].map D.str))) (.sh (.int (numV b))) s5) ?_ ?_
        · refine read_any la (fun o => ?_) (fun o => ?_)
          · exact ⟨o, rfl⟩
          · exact bad (if_neg fun h => by rw [o] at h; exact absurd h.2.1 (by decide))
        rintro _ ⟨o1, rfl⟩
        refine cut (fun r => numOk c = true ∧ r = rtE x ts (.sh (.int ((i + 1 : Nat) : Int))) (.sh (.lst ([a, b, c, d].map D.str))) (.sh (.int (numV b))) (.sh (.int (numV c)))) ?_ ?_
        · refine read_any lc (fun o => ?_) (fun o => ?_)
          · exact ⟨o, rfl⟩
          · exact bad (if_neg fun h => by rw [o] at h; exact absurd h.2.2 (by decide))
        rintro _ ⟨o2, rfl⟩
        have ok := next (numV b, numV c, decide (d = "reached")) (if_pos ⟨hw, o1, o2⟩)
        refine new_trial (p := numV b) (h := numV c) (r := false ^^ decide (d = "reached")) ?_
        rw [Bool.false_xor]
        refine ⟨small_line (by rw [List.length_map]; omega), ts ++ [(numV b, numV c, decide (d = "reached"))], .sh (.int ((i + 1 : Nat) : Int)), .sh (.lst ([a, b, c, d].map D.str)), .sh (.int (numV b)), .sh (.int (numV c)), ok, ?_⟩
        unfold rtE
        rw [List.map_append]
        rfl
      · refine if2 (fun z => ?_) (fun z => ?_)
        · refine bad ?_
          unfold trW
          split
          · rename_i a b c d
            exact absurd rfl c4
          · rfl
        · have z1 : ((((ws.map D.str).length : Nat) : Int)) = 4 := dt (yf z)
          rw [List.length_map] at z1
          omega
    · rintro r ⟨ts, s2, s3, s4, s5, hts, rfl⟩
      rw [lns_len, List.take_length] at hts
      exact ⟨ts, _, _, _, _, hts, rfl⟩
  rintro _ ⟨ts, s2, s3, s4, s5, hts, rfl⟩
  exact k ts hts
def lineT (t : T3) : Str := "trial " ++ trTxt t.1 t.2.1 t.2.2
def small41 (i : Int) : Prop := i.natAbs < 10 ^ 40
def T3ok (t : T3) : Prop := small41 t.1 ∧ small41 t.2.1
theorem log_41 {i : Int} (h : small41 i) : i.natAbs.log2 < 1920 := by
  have h : i.natAbs < 10 ^ 40 := h
  by_cases z : i.natAbs = 0
  · rw [z]; decide
  · refine (Nat.log2_lt z).mpr (Nat.lt_of_lt_of_le h ?_)
    exact (by decide +kernel : 10 ^ 40 ≤ 2 ^ 1920)
theorem line_len {t : T3} (h : T3ok t) : (lineT t).length < 4000 := by
  unfold lineT trTxt
  have a1 := num_len (log_41 h.1)
  have a2 := num_len (log_41 h.2)
  have b1 : (Str.ofString " ").length = 1 := by decide +kernel
  have b2 : (Str.ofString "reached").length = 7 := by decide +kernel
  have b3 : (Str.ofString "missed").length = 6 := by decide +kernel
  have b4 : (Str.ofString "trial ").length = 6 := by decide +kernel
  have b5 : (wordS t.2.2).length ≤ 7 := by
    unfold wordS
    split
    · omega
    · omega
  simp only [Str.length_append]
  omega
theorem write_ok {a : Bool} {ts : List T3} {Q : Sl → List Sl → Prop} {E : Er → List Sl → Prop} (hn : ts.length < 900) (h : ∀ t ∈ ts, T3ok t) (k : Q (.sh (.str (Txt.join "\n" (ts.map lineT)))) [.sh (if a = true then .tup (ts.map t3D) else .lst (ts.map t3D))]) : ds_write_trials.wp [.sh (if a = true then .tup (ts.map t3D) else .lst (ts.map t3D))] Q E := by
  have sum : ∀ {l : List T3}, (∀ t ∈ l, T3ok t) → ((l.map lineT).map (·.length)).sum ≤ 4000 * l.length := by
    intro l
    induction l with
    | nil => intro _; simp
    | cons t l ih =>
      intro h
      have := ih fun t ht => h t (List.mem_cons_of_mem _ ht)
      have := line_len (h t List.mem_cons_self)
      simp only [List.map_cons, List.sum_cons, List.length_cons]
      omega
  have b1 : (Str.ofString "\n").length = 1 := by decide +kernel
  have main : ∀ d : D, (d = .tup (ts.map t3D) ∨ d = .lst (ts.map t3D)) → Q (.sh (.str (Txt.join "\n" (ts.map lineT)))) [.sh d] → ds_write_trials.wp [.sh d] Q E := fun d hd k => by
    refine mh_write_trials ?_
    refine df_in [.sh d, .un] rfl rfl ?_
    have go : ∀ {Q' : List D → Dl.Env → Prop} {E' : Er → Dl.Env → Prop}, (∀ s, Q' ((ts.map lineT).map D.str) [.sh d, s]) → lcM [1] (gSet 1) mYes (mOp opStr (mC (.str "trial ")) (mUn (opTxt 0 ds_TrialU_strU) (mVar 1))) (ts.map t3D) [] [.sh d, .un] Q' E' := fun {Q' E'} k => by
      refine lc_inv (fun i acc r => acc = ((ts.take i).map lineT).map D.str ∧ ∃ s, r = [.sh d, s]) ⟨rfl, _, rfl⟩ ?_ ?_
      · rintro i e acc r he ⟨rfl, s, rfl⟩
        obtain ⟨t, et, rfl⟩ := map_at he
        have hi := get_lt et
        have ht := h t (List.mem_of_getElem? et)
        have hln := line_len ht
        refine str_ok (p := t.1) (h := t.2.1) (r := t.2.2) (log_41 ht.1) (log_41 ht.2) ?_
        refine ⟨?_, small_line (by rw [List.length_map, List.length_map, List.length_take]; omega), ?_, _, rfl⟩
        · rw [← Str.length_append, sizeLine_eq]
          show (lineT t).length ≤ _
          omega
        · rw [take_snoc et, List.map_append, List.map_append]
          rfl
      · rintro acc r ⟨rfl, s, rfl⟩
        rw [List.length_map, List.take_length]
        exact k _
    have ej : pJoin (.str "\n") (.lst ((ts.map lineT).map D.str)) = some (((ts.map lineT).map (·.length)).sum + (ts.map lineT).length * ("\n" : Str).length ≤ 16777216, .sh (.str (Txt.join "\n" (ts.map lineT)))) := by
      unfold pJoin
      simp only [strsD_map]
    have hs := sum h
    rcases hd with rfl | rfl
    · refine .inr ?_
      refine go fun s => ?_
      show match pJoin (.str "\n") (.lst ((ts.map lineT).map D.str)) with | some (p, s) => p ∧ _ | none => False
      rw [ej]
      refine ⟨?_, k⟩
      rw [List.length_map, b1]
      omega
    · refine .inl ?_
      refine go fun s => ?_
      show match pJoin (.str "\n") (.lst ((ts.map lineT).map D.str)) with | some (p, s) => p ∧ _ | none => False
      rw [ej]
      refine ⟨?_, k⟩
      rw [List.length_map, b1]
      omega
  cases a
  · exact main _ (.inr rfl) k
  · exact main _ (.inl rfl) k
theorem cl_num (n : Nat) : (toString ((n : Nat) : Int) : Str).cps.toList = TL.numL n := TL.tl_num n
theorem cl_neg (m : Nat) : (toString (Int.negSucc m) : Str).cps.toList = 45 :: TL.numL (m + 1) := by
  show (Str.ofString (toString (Int.negSucc m))).cps.toList = _
  rw [signs_ofString]
  show ("-" ++ Nat.repr (m + 1)).toList.map Char.toNat = _
  rw [String.toList_append, List.map_append, Nat.toList_repr]
  rfl
theorem numL_ne (n : Nat) : TL.numL n ≠ [] := by
  by_cases h : n < 10
  · rw [TL.numL_lt h]; simp
  · rw [TL.numL_step (by omega)]; simp
theorem numL_len : ∀ {k n : Nat}, n < 10 ^ k → 1 ≤ k → (TL.numL n).length ≤ k
  | 0, n, _, h => by omega
  | k + 1, n, h, _ => by
    by_cases c : n < 10
    · rw [TL.numL_lt c]; simp
    · rw [TL.numL_step (by omega), List.length_append, List.length_singleton]
      have h2 : n / 10 < 10 ^ k := by
        rw [Nat.pow_succ] at h
        omega
      have hk : 1 ≤ k := by
        cases k with
        | zero => omega
        | succ k => omega
      have := numL_len h2 hk
      omega
theorem numL_dig (n : Nat) : (TL.numL n).all digB = true := by
  induction n using Nat.strongRecOn with
  | _ n ih =>
    by_cases c : n < 10
    · rw [TL.numL_lt c]
      simp only [List.all_cons, List.all_nil, Bool.and_true]
      exact decide_eq_true (by omega)
    · rw [TL.numL_step (by omega), List.all_append, ih (n / 10) (by omega)]
      simp only [List.all_cons, List.all_nil, Bool.and_true, Bool.true_and]
      exact decide_eq_true (by omega)
theorem numL_head (n : Nat) (h : 0 < n) : ∃ c l, TL.numL n = c :: l ∧ 49 ≤ c ∧ c ≤ 57 := by
  induction n using Nat.strongRecOn with
  | _ n ih =>
    by_cases c : n < 10
    · exact ⟨48 + n, [], TL.numL_lt c, by omega, by omega⟩
    · obtain ⟨d, l, e, h1⟩ := ih (n / 10) (by omega) (by omega)
      exact ⟨d, l ++ [48 + n % 10], by rw [TL.numL_step (by omega), e]; rfl, h1⟩
theorem numL_val (n : Nat) : NumText.digitsVal (TL.numL n) = n := PySem.W.KIN.val_back n
theorem num_read {i : Int} (h : small41 i) : numOk (toString i) = true ∧ numV (toString i) = i := by
  have h : i.natAbs < 10 ^ 40 := h
  unfold numOk numV
  cases i with
  | ofNat n =>
    have h : n < 10 ^ 40 := h
    have e : (toString (Int.ofNat n) : Str).cps.toList = TL.numL n := cl_num n
    rw [e]
    have hd : ¬ (TL.numL n).head? = some 45 := by
      by_cases z : n = 0
      · rw [z, TL.numL_lt (by omega)]; decide
      · obtain ⟨c, l, e2, a, b⟩ := numL_head n (by omega)
        rw [e2]
        intro q
        have := Option.some.inj q
        omega
    have eb : bodyN (TL.numL n) = TL.numL n := by unfold bodyN; rw [if_neg hd]
    rw [eb, if_neg hd, numL_dig, numL_val]
    refine ⟨?_, rfl⟩
    rw [decide_eq_true (p := 1 ≤ (TL.numL n).length ∧ (TL.numL n).length ≤ 40) ⟨List.length_pos_iff.mpr (numL_ne n), numL_len h (by decide)⟩]
    by_cases z : n = 0
    · rw [z, TL.numL_lt (by omega)]; decide
    · obtain ⟨c, l, e2, a, b⟩ := numL_head n (by omega)
      rw [decide_eq_false (p := (TL.numL n).head? = some 48) (by rw [e2]; intro q; have := Option.some.inj q; omega)]
      rfl
  | negSucc m =>
    have h : m + 1 < 10 ^ 40 := h
    rw [cl_neg]
    have eb : bodyN (45 :: TL.numL (m + 1)) = TL.numL (m + 1) := by unfold bodyN; exact if_pos rfl
    rw [eb, if_pos (show (45 :: TL.numL (m + 1)).head? = some 45 from rfl), numL_dig, numL_val]
    refine ⟨?_, rfl⟩
    rw [decide_eq_true (p := 1 ≤ (TL.numL (m + 1)).length ∧ (TL.numL (m + 1)).length ≤ 40) ⟨List.length_pos_iff.mpr (numL_ne _), numL_len h (by decide)⟩]
    obtain ⟨c, l, e2, a, b⟩ := numL_head (m + 1) (by omega)
    rw [decide_eq_false (p := (TL.numL (m + 1)).head? = some 48) (by rw [e2]; intro q; have := Option.some.inj q; omega)]
    rfl
theorem num_sgn (i : Int) : ∀ c ∈ (toString i : Str).cps.toList, c = 45 ∨ (48 ≤ c ∧ c ≤ 57) := fun c hc => by
  cases i with
  | ofNat n =>
    have e : (toString (Int.ofNat n) : Str).cps.toList = TL.numL n := cl_num n
    rw [e] at hc
    exact .inr (of_decide_eq_true (List.all_eq_true.mp (numL_dig n) c hc))
  | negSucc m =>
    rw [cl_neg] at hc
    rcases List.mem_cons.mp hc with q | q
    · exact .inl q
    · exact .inr (of_decide_eq_true (List.all_eq_true.mp (numL_dig _) c q))
theorem num_short {i : Int} (h : small41 i) : (toString i : Str).length ≤ 41 := by
  have h : i.natAbs < 10 ^ 40 := h
  rw [len_cl]
  cases i with
  | ofNat n =>
    have e : (toString (Int.ofNat n) : Str).cps.toList = TL.numL n := cl_num n
    rw [e]
    have := numL_len (k := 40) (n := n) h (by decide)
    omega
  | negSucc m =>
    rw [cl_neg, List.length_cons]
    have := numL_len (k := 40) (n := m + 1) h (by decide)
    omega
theorem wds_join {ws : List Str} (ne : ws ≠ []) (h : ∀ w ∈ ws, 32 ∉ w.cps.toList) : wds (Txt.join " " ws) = ws := TL.split_join (y := " ") (s := 32) (S := []) sp_cl (by decide +kernel) ne h
theorem lns_join {ws : List Str} (ne : ws ≠ []) (h : ∀ w ∈ ws, 10 ∉ w.cps.toList) : Txt.split (Txt.join "\n" ws) "\n" = ws := TL.split_join (y := "\n") (s := 10) (S := []) nl_cl (by decide +kernel) ne h
def m_law_row_L1_2 : MS := (sDrop (mApp 1 (mOp (op2 dIxL) (mFz (mLst (mCons (mVar 3) (mCons (mVar 4) mNil)))) (mTake 0 (mC (.int 2))))))
def m_law_row_L1_1 : MS := sSeq (sAsg (mOp (opC CMulX fun i j => .int (i * j)) (mOp (op2 dSub) (mC (.int 1)) (mOp (opC CMul fun i j => .int (i * j)) (mC (.int 2)) (mTake 0 (mC (.int 2))))) (mTake 0 (mC (.int 10000000000000000000000000000000000000000)))) (gSet 4)) m_law_row_L1_2
def m_law_row_L1 : MS := sSeq (sAsg (mOp (op2 dSub) (mTake 0 (mC (.int 19))) (mC (.int 9))) (gSet 3)) m_law_row_L1_1
def m_law_row_2 : MS := (sRet (mTup (mCons (mBor (mOp (op2 dIxL) (mVar 1) (mC (.int 0)))) (mCons (mBor (mOp (op2 dIxL) (mVar 1) (mC (.int 1)))) (mCons (mOp (op2 (dEq false)) (mTake 0 (mC (.int 2))) (mC (.int 1))) mNil)))))
def m_law_row_1 : MS := sSeq (sFor (iR1 (mC (.int 2))) (gSet 2) m_law_row_L1) m_law_row_2
def m_law_row : MS := sSeq (sAsg (mLst mNil) (gSet 1)) m_law_row_1
theorem dx_law_row : ∃ R : M Sl, R = defM 1 5 m_law_row := ⟨_, rfl⟩
@[irreducible] noncomputable def ds_law_row : M Sl := Classical.choose dx_law_row
theorem dq_law_row : ds_law_row = defM 1 5 m_law_row := by unfold ds_law_row; exact Classical.choose_spec dx_law_row
theorem hm_law_row : ∀ as Q E, ds_law_row.wp as Q E → (defM 1 5 m_law_row).wp as Q E := by rw [dq_law_row]; exact fun _ _ _ w => w
theorem mh_law_row {as : List Sl} {Q : Sl → List Sl → Prop} {E : Er → List Sl → Prop} (h : (defM 1 5 m_law_row).wp as Q E) : ds_law_row.wp as Q E := by rw [dq_law_row]; exact h
theorem hl_law_row : ∀ as Q E, ds_law_row.wp as Q E → as.length = 1 := fun as Q E w => defM_len as Q E (hm_law_row as Q E w)
def m_law_line : MS := (sRet (mOp opStr (mOp opStr (mOp opStr (mOp opStr (mOp opStr (mC (.str "trial ")) (mUn (op1P pStr) (mOp (op2 dIxT) (mVar 0) (mC (.int 0))))) (mC (.str " "))) (mUn (op1P pStr) (mOp (op2 dIxT) (mVar 0) (mC (.int 1))))) (mC (.str " "))) (mOp (op2 dIxL) (mFz (mLst (mCons (mC (.str "missed")) (mCons (mC (.str "reached")) mNil)))) (mUn (op1 dIntB) (mOp (op2 dIxT) (mVar 0) (mC (.int 2)))))))
theorem dx_law_line : ∃ R : M Sl, R = defM 1 1 m_law_line := ⟨_, rfl⟩
@[irreducible] noncomputable def ds_law_line : M Sl := Classical.choose dx_law_line
theorem dq_law_line : ds_law_line = defM 1 1 m_law_line := by unfold ds_law_line; exact Classical.choose_spec dx_law_line
theorem hm_law_line : ∀ as Q E, ds_law_line.wp as Q E → (defM 1 1 m_law_line).wp as Q E := by rw [dq_law_line]; exact fun _ _ _ w => w
theorem mh_law_line {as : List Sl} {Q : Sl → List Sl → Prop} {E : Er → List Sl → Prop} (h : (defM 1 1 m_law_line).wp as Q E) : ds_law_line.wp as Q E := by rw [dq_law_line]; exact h
theorem hl_law_line : ∀ as Q E, ds_law_line.wp as Q E → as.length = 1 := fun as Q E w => defM_len as Q E (hm_law_line as Q E w)
def m_law_same_L1_3 : MS := (sIf (mNot (mTest (mCall ds_law_says [] (bCo (mFld 0 2 (mVar 3)) (bCo (mOp (op2 dIxT) (mOp (op2 dIxL) (mVar 1) (mVar 2)) (mC (.int 2))) bNo)))))
      (sRet (mC (.bl false)))
      sNext)
def m_law_same_L1_2 : MS := sSeq (sIf (mOr (mTest (mOp (op2 (dEq true)) (mFld 0 0 (mVar 3)) (mOp (op2 dIxT) (mOp (op2 dIxL) (mVar 1) (mVar 2)) (mC (.int 0))))) (mTest (mOp (op2 (dEq true)) (mFld 0 1 (mVar 3)) (mOp (op2 dIxT) (mOp (op2 dIxL) (mVar 1) (mVar 2)) (mC (.int 1))))))
      (sRet (mC (.bl false)))
      sNext) m_law_same_L1_3
def m_law_same_L1_1 : MS := sSeq (sIf (mOr (mNot (mTest (mCall ds_law_number [] (bCo (mFld 0 0 (mVar 3)) bNo)))) (mNot (mTest (mCall ds_law_number [] (bCo (mFld 0 1 (mVar 3)) bNo)))))
      (sRet (mC (.bl false)))
      sNext) m_law_same_L1_2
def m_law_same_L1 : MS := sSeq (sAsg (mOp (op2 dIxL) (mVar 0) (mVar 2)) (gSet 3)) m_law_same_L1_1
def m_law_same_2 : MS := (sRet (mC (.bl true)))
def m_law_same_1 : MS := sSeq (sFor (iR1 (mUn (op1 dLen) (mVar 1))) (gSet 2) m_law_same_L1) m_law_same_2
def m_law_same : MS := sSeq (sIf (mOr (mNot (mTest (mUn (op1 (dIsi .lst)) (mVar 0)))) (mTest (mOp (op2 (dEq true)) (mUn (op1 dLen) (mVar 0)) (mUn (op1 dLen) (mVar 1)))))
      (sRet (mC (.bl false)))
      sNext) m_law_same_1
theorem dx_law_same : ∃ R : M Sl, R = defM 2 4 m_law_same := ⟨_, rfl⟩
@[irreducible] noncomputable def ds_law_same : M Sl := Classical.choose dx_law_same
theorem dq_law_same : ds_law_same = defM 2 4 m_law_same := by unfold ds_law_same; exact Classical.choose_spec dx_law_same
theorem hm_law_same : ∀ as Q E, ds_law_same.wp as Q E → (defM 2 4 m_law_same).wp as Q E := by rw [dq_law_same]; exact fun _ _ _ w => w
theorem mh_law_same {as : List Sl} {Q : Sl → List Sl → Prop} {E : Er → List Sl → Prop} (h : (defM 2 4 m_law_same).wp as Q E) : ds_law_same.wp as Q E := by rw [dq_law_same]; exact h
theorem hl_law_same : ∀ as Q E, ds_law_same.wp as Q E → as.length = 2 := fun as Q E w => defM_len as Q E (hm_law_same as Q E w)
def m_law_L1 : MS := (sIf (mNot (mTest (mCall ds_law_same [] (bCo (mFz (mCall ds_read_trials [] (bCo (mCall ds_law_line [] (bCo (mVar 4) bNo)) bNo))) (bCo (mFz (mLst (mCons (mVar 4) mNil))) bNo)))))
      (sRet (mC (.bl false)))
      sNext)
def m_law_10 : MS := (sRet (mAndV (mOp (op2P (pEqD false)) (mFz (mCall ds_read_trials [] (bCo (mC (.str "")) bNo))) (mFz (mLst mNil))) (mOp (op2 (dEq false)) (mCall ds_write_trials [] (bCo (mTup mNil) bNo)) (mC (.str "")))))
def m_law_9 : MS := sSeq (sFor (iL (mVarF 3)) (gSet 4) m_law_L1) m_law_10
def m_law_8 : MS := sSeq (sIf (mTest (mOp (op2 (dEq true)) (mCall ds_write_trials [] (bCo (mUn (op1P pTuple) (mVar 7)) bNo)) (mVar 6)))
      (sRet (mC (.bl false)))
      sNext) m_law_9
def m_law_7 : MS := sSeq (sIf (tBorM (mOr (mNot (mTest (mCall ds_law_same [] (bCo (mVar 7) (bCo (mVar 3) bNo))))) (mOr (mNot (mTest (mCall ds_law_same [] (bCo (mVar 5) (bCo (mVar 3) bNo))))) (mTest (mOp (op2P (pNeL 0 ds_TrialU_eqU)) (mVar 7) (mVar 5))))))
      (sRet (mC (.bl false)))
      sNext) m_law_8
def m_law_6 : MS := sSeq (sAsg (mFz (mCall ds_read_trials [] (bCo (mVar 6) bNo))) (gSet 7)) m_law_7
def m_law_5 : MS := sSeq (sIf (tBorM (mOr (mNot (mTest (mUn (op1 (dIsi .str)) (mVar 6)))) (mTest (mOp (op2 (dEq true)) (mVar 6) (mJoin (mC (.str "
")) (mFz (mLc0 [4] (iL (mVar 3)) (gSet 4) mYes (mCall ds_law_line [] (bCo (mVar 4) bNo)))))))))
      (sRet (mC (.bl false)))
      sNext) m_law_6
def m_law_4 : MS := sSeq (sAsg (mCall ds_write_trials [] (bCo (mVar 5) bNo)) (gSet 6)) m_law_5
def m_law_3 : MS := sSeq (sAsg (mFz (mLc0 [4] (iL (mVarF 3)) (gSet 4) mYes (mFz (mMake 0 ds_TrialU_initU [] (bCo (mOp (op2 dIxT) (mVar 4) (mC (.int 0))) (bCo (mOp (op2 dIxT) (mVar 4) (mC (.int 1))) (bCo (mOp (op2 dIxT) (mVar 4) (mC (.int 2))) bNo))))))) (gSet 5)) m_law_4
def m_law_2 : MS := sSeq (sIf (mAnd (tBorM (mTest (mOp (op2 dGt) (mUn (op1 dLen) (mVar 3)) (mC (.int 0))))) (mTest (mOp (op2 (dEq false)) (mTake 1 (mC (.int 2))) (mC (.int 1)))))
      (sDrop (mApp 3 (mIxO 3 (mTake 1 (mBor (mUn (op1 dLen) (mVar 3)))))))
      sNext) m_law_3
def m_law_1 : MS := sSeq (sAsg (mLc0 [2] (iR1 (mTake 1 (mC (.int 10)))) (gSet 2) mYes (mCall ds_law_row [] (bLe 1 bNo))) (gSet 3)) m_law_2
def m_law : MS := sSeq (sAsg (mBox (mVar 0)) (gSet 1)) m_law_1
theorem dx_law : ∃ R : M Sl, R = defM 1 8 m_law := ⟨_, rfl⟩
@[irreducible] noncomputable def ds_law : M Sl := Classical.choose dx_law
theorem dq_law : ds_law = defM 1 8 m_law := by unfold ds_law; exact Classical.choose_spec dx_law
theorem hm_law : ∀ as Q E, ds_law.wp as Q E → (defM 1 8 m_law).wp as Q E := by rw [dq_law]; exact fun _ _ _ w => w
theorem mh_law {as : List Sl} {Q : Sl → List Sl → Prop} {E : Er → List Sl → Prop} (h : (defM 1 8 m_law).wp as Q E) : ds_law.wp as Q E := by rw [dq_law]; exact h
theorem hl_law : ∀ as Q E, ds_law.wp as Q E → as.length = 1 := fun as Q E w => defM_len as Q E (hm_law as Q E w)
def t3R (t : T3) : D := .tup [.int t.1, .int t.2.1, .bl t.2.2]
theorem word_cl (r : Bool) : 32 ∉ (wordS r).cps.toList ∧ 10 ∉ (wordS r).cps.toList := by cases r <;> decide +kernel
theorem trial_cl : 32 ∉ ("trial" : Str).cps.toList ∧ 10 ∉ ("trial" : Str).cps.toList := by decide +kernel
theorem num_free (i : Int) : 32 ∉ (toString i : Str).cps.toList ∧ 10 ∉ (toString i : Str).cps.toList := ⟨fun h => by have := num_sgn i 32 h; omega, fun h => by have := num_sgn i 10 h; omega⟩
theorem line_words (t : T3) : lineT t = Txt.join " " (["trial", toString t.1, toString t.2.1, wordS t.2.2] : List Str) := by
  rw [TL.join_eq]
  refine str_inj ?_
  show _ = TL.tl (Str.join " " (["trial", toString t.1, toString t.2.1, wordS t.2.2] : List Str))
  rw [TL.tl_join]
  unfold lineT trTxt
  have e1 : ("trial " : Str).cps.toList = ("trial" : Str).cps.toList ++ [32] := by decide +kernel
  show TL.tl ("trial " ++ (toString t.1 ++ " " ++ toString t.2.1 ++ " " ++ wordS t.2.2)) = _
  rw [TL.tl_append, TL.tl_append, TL.tl_append, TL.tl_append, TL.tl_append]
  show ("trial " : Str).cps.toList ++ _ = _
  rw [e1]
  have e2 : TL.tl (" " : Str) = [32] := sp_cl
  rw [e2]
  simp only [List.map_cons, List.map_nil, TL.joinL, List.append_assoc]
theorem line_wds (t : T3) : wds (lineT t) = (["trial", toString t.1, toString t.2.1, wordS t.2.2] : List Str) := by
  rw [line_words]
  refine wds_join (by simp) fun w hw => ?_
  simp only [List.mem_cons, List.not_mem_nil, or_false] at hw
  rcases hw with rfl | rfl | rfl | rfl
  · exact trial_cl.1
  · exact (num_free _).1
  · exact (num_free _).1
  · exact (word_cl _).1
theorem line_read {t : T3} (h : T3ok t) : trW (wds (lineT t)) = some t := by
  rw [line_wds]
  have a := num_read h.1
  have b := num_read h.2
  have hw : (wordS t.2.2 = "reached" ∨ wordS t.2.2 = "missed") ∧ decide (wordS t.2.2 = "reached") = t.2.2 := by
    cases t.2.2
    · exact ⟨.inr rfl, by decide +kernel⟩
    · exact ⟨.inl rfl, by decide +kernel⟩
  show (if ((("trial" : Str) = "trial" ∧ (wordS t.2.2 = "reached" ∨ wordS t.2.2 = "missed")) ∧ (numOk (toString t.1) = true ∧ numOk (toString t.2.1) = true)) then some (numV (toString t.1), numV (toString t.2.1), decide (wordS t.2.2 = "reached")) else none) = some t
  rw [if_pos ⟨⟨rfl, hw.1⟩, a.1, b.1⟩, hw.2, a.2, b.2]
theorem line_nl (t : T3) : 10 ∉ (lineT t).cps.toList := by
  intro h
  rw [show (lineT t).cps.toList = TL.tl ("trial " ++ (toString t.1 ++ " " ++ toString t.2.1 ++ " " ++ wordS t.2.2)) from rfl] at h
  rw [TL.tl_append, TL.tl_append, TL.tl_append, TL.tl_append, TL.tl_append] at h
  simp only [List.mem_append] at h
  have c1 : 10 ∉ TL.tl ("trial " : Str) := by decide +kernel
  have c2 : 10 ∉ TL.tl (" " : Str) := by decide +kernel
  rcases h with h | ((h | h) | h) | h
  · exact c1 h
  · rcases h with h | h
    · exact (num_free _).2 h
    · exact c2 h
  · exact (num_free _).2 h
  · exact c2 h
  · exact (word_cl _).2 h
theorem line_short {t : T3} (h : T3ok t) : (lineT t).length < 100 ∧ 6 ≤ (lineT t).length := by
  unfold lineT trTxt
  have a1 := num_short h.1
  have a2 := num_short h.2
  have b1 : (Str.ofString " ").length = 1 := by decide +kernel
  have b2 : (Str.ofString "reached").length = 7 := by decide +kernel
  have b3 : (Str.ofString "missed").length = 6 := by decide +kernel
  have b4 : (Str.ofString "trial ").length = 6 := by decide +kernel
  have b5 : (wordS t.2.2).length ≤ 7 := by
    unfold wordS
    split <;> omega
  simp only [Str.length_append]
  omega
theorem joinL_len {S : List Nat} : ∀ {ps : List (List Nat)}, (TL.joinL S ps).length ≤ (ps.map (·.length)).sum + S.length * ps.length
  | [] => by simp [TL.joinL]
  | [p] => by simp [TL.joinL]
  | p :: q :: r => by
    have := joinL_len (S := S) (ps := q :: r)
    simp only [TL.joinL, List.length_append, List.map_cons, List.sum_cons, List.length_cons, Nat.mul_add, Nat.mul_one] at this ⊢
    omega
theorem joinL_front {S p : List Nat} {ps : List (List Nat)} : p.length ≤ (TL.joinL S (p :: ps)).length := by
  cases ps with
  | nil => exact Nat.le_refl _
  | cons q r =>
    show _ ≤ (p ++ (S ++ TL.joinL S (q :: r))).length
    rw [List.length_append]
    omega
theorem join_cl (ws : List Str) : (Txt.join "\n" ws).cps.toList = TL.joinL [10] (ws.map TL.tl) := by
  rw [TL.join_eq]
  show TL.tl (Str.join "\n" ws) = _
  rw [TL.tl_join, show TL.tl ("\n" : Str) = [10] from nl_cl]
theorem text_short {ts : List T3} (h : ∀ t ∈ ts, T3ok t) : (Txt.join "\n" (ts.map lineT)).length ≤ 101 * ts.length := by
  rw [len_cl, join_cl]
  have := joinL_len (S := [10]) (ps := (ts.map lineT).map TL.tl)
  have s : ∀ {l : List T3}, (∀ t ∈ l, T3ok t) → ((((l.map lineT).map TL.tl).map (·.length)).sum ≤ 100 * l.length) := by
    intro l
    induction l with
    | nil => intro _; simp
    | cons t l ih =>
      intro h
      have a := ih fun t ht => h t (List.mem_cons_of_mem _ ht)
      have b := line_short (h t List.mem_cons_self)
      have c : (TL.tl (lineT t)).length = (lineT t).length := by rw [len_cl]
      simp only [List.map_cons, List.sum_cons, List.length_cons] at a ⊢
      omega
  have := s h
  simp only [List.length_map, List.length_cons, List.length_nil] at *
  omega
theorem text_nil {ts : List T3} (h : ∀ t ∈ ts, T3ok t) (e : Txt.join "\n" (ts.map lineT) = "") : ts.map lineT = [] := by
  cases ts with
  | nil => rfl
  | cons t ts =>
    have a := (line_short (h t List.mem_cons_self)).2
    have b := joinL_front (S := [10]) (p := TL.tl (lineT t)) (ps := (ts.map lineT).map TL.tl)
    have c := join_cl ((t :: ts).map lineT)
    rw [e] at c
    have d : ("" : Str).cps.toList = [] := by decide +kernel
    rw [d] at c
    rw [len_cl] at a
    rw [List.map_cons, List.map_cons] at c
    rw [← c] at b
    have : (lineT t).cps.toList.length ≤ 0 := b
    omega
theorem map_some {α : Type} : ∀ {ts us : List α}, ts.map some = us.map some → ts = us
  | [], [], _ => rfl
  | [], u :: us, h => by cases h
  | t :: ts, [], h => by cases h
  | t :: ts, u :: us, h => by
    rw [List.map_cons, List.map_cons] at h
    have a := List.cons.inj h
    rw [Option.some.inj a.1, map_some a.2]
theorem read_back {ts : List T3} {Q : Sl → List Sl → Prop} {E : Er → List Sl → Prop} (hn : ts.length < 900) (h : ∀ t ∈ ts, T3ok t) (k : Q (.ow (.ol .fr) (.lst (ts.map t3D))) [.sh (.str (Txt.join "\n" (ts.map lineT)))]) : ds_read_trials.wp [.sh (.str (Txt.join "\n" (ts.map lineT)))] Q E := by
  have hs := text_short h
  have rd : (ts.map lineT).map (fun y => trW (wds y)) = ts.map some := by
    rw [List.map_map]
    exact List.map_congr_left fun t ht => line_read (h t ht)
  refine read_trials_any (Ls := ts.map lineT) (by omega) (fun e => text_nil h e) (fun e => ?_) (by rw [List.length_map]; exact hn) (fun y hy => ?_) (fun us hu => ?_) (fun i y ey no _ => ?_)
  · have ne : ts.map lineT ≠ [] := fun z => e (by rw [z]; rfl)
    exact lns_join ne fun w hw => by
      obtain ⟨t, _, rfl⟩ := List.mem_map.mp hw
      exact line_nl t
  · obtain ⟨t, ht, rfl⟩ := List.mem_map.mp hy
    have := (line_short (h t ht)).1
    omega
  · rw [rd] at hu
    have e : ts = us := map_some hu
    rw [← e]
    exact k
  · obtain ⟨t, et, rfl⟩ := map_at ey
    rw [line_read (h t (List.mem_of_getElem? et))] at no
    cases no
theorem read_one {t : T3} {Q : Sl → List Sl → Prop} {E : Er → List Sl → Prop} (h : T3ok t) (k : Q (.ow (.ol .fr) (.lst [t3D t])) [.sh (.str (lineT t))]) : ds_read_trials.wp [.sh (.str (lineT t))] Q E :=
  read_back (ts := [t]) (by simp) (fun x hx => by rw [List.mem_singleton.mp hx]; exact h) k
theorem lline_ok {t : T3} {Q : Sl → List Sl → Prop} {E : Er → List Sl → Prop} (h : T3ok t) (k : Q (.sh (.str (lineT t))) [.sh (t3R t)]) : ds_law_line.wp [.sh (t3R t)] Q E := by
  have a1 := num_short h.1
  have a2 := num_short h.2
  have b1 : (Str.ofString " ").length = 1 := by decide +kernel
  have b2 : (Str.ofString "reached").length = 7 := by decide +kernel
  have b3 : (Str.ofString "missed").length = 6 := by decide +kernel
  have b4 : (Str.ofString "trial ").length = 6 := by decide +kernel
  have e : ("trial " : Str) ++ toString t.1 ++ " " ++ toString t.2.1 ++ " " ++ wordS t.2.2 = lineT t := by
    unfold lineT trTxt
    refine TL.ext_tl ?_
    rw [TL.tl_append, TL.tl_append, TL.tl_append, TL.tl_append, TL.tl_append, TL.tl_append, TL.tl_append, TL.tl_append, TL.tl_append, TL.tl_append]
    simp only [List.append_assoc]
  obtain ⟨p, hh, r⟩ := t
  rw [← e] at k
  refine mh_law_line ?_
  cases r
  all_goals
    refine ⟨log_41 h.1, ?_, ?_, log_41 h.2, ?_, ?_, ?_, k⟩
    all_goals
      simp only [Str.length_append, sizeLine_eq] at *
      first | omega | (show Str.length (Str.ofString _) ≤ _; omega)
theorem rg_at {lo : Int} {n i : Nat} {d : D} (h : (rgD lo n)[i]? = some d) : i < n ∧ d = .int (lo + (i : Nat)) := by
  have hi : i < n := by
    rcases Nat.lt_or_ge i n with z | z
    · exact z
    · rw [List.getElem?_eq_none (by rw [rgD_len]; exact z)] at h; cases h
  unfold rgD at h
  rw [List.getElem?_map, List.getElem?_range hi] at h
  exact ⟨hi, (Option.some.inj h).symm⟩
theorem ixL_ok {l : List D} {p : Nat} {d : D} (e : l[p]? = some d) : dIxL (.lst l) (.int ((p : Nat) : Int)) = some d := by
  show atI l ((p : Nat) : Int) = some d
  exact atI_of e
theorem says_ok2 {a : Bool} {Q : Sl → List Sl → Prop} {E : Er → List Sl → Prop} (k : Q (.sh (.bl true)) [.sh (.bl a), .sh (.bl a)]) : ds_law_says.wp [.sh (.bl a), .sh (.bl a)] Q E := says_ok (by rw [decide_eq_true rfl]; exact k)
theorem lsame_ok {ts : List T3} {Q : Sl → List Sl → Prop} {E : Er → List Sl → Prop} (hn : ts.length < 900) (k : Q (.sh (.bl true)) [.sh (.lst (ts.map t3D)), .sh (.lst (ts.map t3R))]) : ds_law_same.wp [.sh (.lst (ts.map t3D)), .sh (.lst (ts.map t3R))] Q E := by
  refine mh_law_same ?_
  refine df_in [.sh (.lst (ts.map t3D)), .sh (.lst (ts.map t3R)), .un, .un] rfl rfl ?_
  refine cut (fun r => r = [.sh (.lst (ts.map t3D)), .sh (.lst (ts.map t3R)), .un, .un]) ?_ ?_
  · exact if2 (fun c => absurd c (by simp)) (fun _ => rfl)
  rintro r rfl
  refine cut (fun r => ∃ s2 s3, r = [.sh (.lst (ts.map t3D)), .sh (.lst (ts.map t3R)), s2, s3]) ?_ ?_
  · refine ⟨⟨by rw [List.length_map]; omega, by rw [List.length_map]; omega⟩, ?_⟩
    refine for_inv (fun i r => ∃ s2 s3, r = [.sh (.lst (ts.map t3D)), .sh (.lst (ts.map t3R)), s2, s3]) ⟨_, _, rfl⟩ ?_ (fun r z => z)
    rintro i d r hd ⟨s2, s3, rfl⟩
    obtain ⟨hi, rfl⟩ := rg_at hd
    rw [Int.zero_add]
    have hi' : i < ts.length := by simpa using hi
    obtain ⟨t, et⟩ : ∃ t, ts[i]? = some t := ⟨_, List.getElem?_eq_getElem hi'⟩
    have i1 : dIxL (.lst (ts.map t3D)) (.int ((i : Nat) : Int)) = some (t3D t) := ixL_ok (by rw [List.getElem?_map, et]; rfl)
    have i2 : dIxL (.lst (ts.map t3R)) (.int ((i : Nat) : Int)) = some (t3R t) := ixL_ok (by rw [List.getElem?_map, et]; rfl)
    refine gs_ok (ρ' := [.sh (.lst (ts.map t3D)), .sh (.lst (ts.map t3R)), .sh (.int ((i : Nat) : Int)), s3]) rfl ?_
    refine cut (fun r => r = [.sh (.lst (ts.map t3D)), .sh (.lst (ts.map t3R)), .sh (.int ((i : Nat) : Int)), .sh (t3D t)]) ?_ ?_
    · refine op2_ok i1 ?_
      exact rfl
    rintro _ rfl
    refine cut (fun r => r = [.sh (.lst (ts.map t3D)), .sh (.lst (ts.map t3R)), .sh (.int ((i : Nat) : Int)), .sh (t3D t)]) ?_ ?_
    · refine number_int ?_
      refine number_int ?_
      exact rfl
    rintro _ rfl
    refine cut (fun r => r = [.sh (.lst (ts.map t3D)), .sh (.lst (ts.map t3R)), .sh (.int ((i : Nat) : Int)), .sh (t3D t)]) ?_ ?_
    · refine op2_ok i2 ?_
      refine if2 (fun c => absurd c (by simp)) (fun _ => ?_)
      refine op2_ok i2 ?_
      refine if2 (fun c => absurd c (by simp)) (fun _ => ?_)
      exact rfl
    rintro _ rfl
    refine op2_ok i2 ?_
    refine says_ok2 ?_
    exact ⟨_, _, rfl⟩
  · rintro _ ⟨s2, s3, rfl⟩
    exact k
abbrev lrE (v : V) (rs : List Int) (s2 s3 s4 : Sl) : Dl.Env := [.lb v, .ow (.ol .fr) (.lst (rs.map D.int)), s2, s3, s4]
theorem lrow_ok {v : V} {Q : Sl → List Sl → Prop} {E : Er → List Sl → Prop} (k : ∀ t : T3, T3ok t → Q (.sh (t3R t)) [.lb v]) : ds_law_row.wp [.lb v] Q E := by
  refine mh_law_row ?_
  refine df_in [.lb v, .un, .un, .un, .un] rfl rfl ?_
  refine cut (fun r => r = lrE v [] .un .un .un) rfl ?_
  rintro _ rfl
  refine cut (fun r => ∃ a b s2 s3 s4, (small41 a ∧ small41 b) ∧ r = lrE v [a, b] s2 s3 s4) ?_ ?_
  · refine ⟨⟨by decide, by decide⟩, ?_⟩
    refine for_inv (fun i r => ∃ (rs : List Int) (s2 s3 s4 : Sl), (rs.length = i ∧ ∀ a ∈ rs, small41 a) ∧ r = lrE v rs s2 s3 s4) ⟨[], _, _, _, ⟨rfl, fun a h => (by cases h)⟩, rfl⟩ ?_ ?_
    · rintro i d r hd ⟨rs, s2, s3, s4, ⟨hr, hs⟩, rfl⟩
      have hi := get_lt hd
      rw [rgD_len] at hi
      refine gs_ok (ρ' := lrE v rs (.sh d) s3 s4) rfl ?_
      refine cut (fun r => ∃ a, small41 a ∧ r = lrE v rs (.sh d) (.sh (.int a)) s4) ?_ ?_
      · refine ⟨⟨by decide, by decide⟩, fun y y0 y1 => ?_⟩
        exact ⟨y - 9, (by show (y - 9).natAbs < 10 ^ 40; omega), rfl⟩
      rintro _ ⟨a, ha, rfl⟩
      refine cut (fun r => ∃ b, small41 b ∧ r = lrE v rs (.sh d) (.sh (.int a)) (.sh (.int b))) ?_ ?_
      · refine ⟨⟨by decide, by decide⟩, fun y y0 y1 => ?_⟩
        refine ⟨by unfold CMul; omega, ?_⟩
        refine ⟨⟨by decide +kernel, by decide +kernel⟩, fun g g0 g1 => ?_⟩
        refine ⟨mulx_ok (a := 10) (b := 140) (by omega) (by omega) (by decide), (1 - 2 * y) * g, ?_, rfl⟩
        show ((1 - 2 * y) * g).natAbs < 10 ^ 40
        rcases (by omega : y = 0 ∨ y = 1) with rfl | rfl <;> omega
      rintro _ ⟨b, hb, rfl⟩
      refine ⟨⟨by decide, by decide⟩, fun y y0 y1 => ?_⟩
      have ey : ∃ c, small41 c ∧ dIxL (.lst [.int a, .int b]) (.int y) = some (.int c) := by
        rcases (by omega : y = 0 ∨ y = 1) with rfl | rfl
        · exact ⟨a, ha, rfl⟩
        · exact ⟨b, hb, rfl⟩
      obtain ⟨c, hc, ec⟩ := ey
      refine op2_ok ec ?_
      refine ⟨small_line (by rw [List.length_map]; omega), rs ++ [c], .sh d, .sh (.int a), .sh (.int b), ⟨by rw [List.length_append, hr]; rfl, fun x hx => ?_⟩, ?_⟩
      · rcases List.mem_append.mp hx with z | z
        · exact hs x z
        · rw [List.mem_singleton.mp z]; exact hc
      · unfold lrE
        rw [List.map_append]
        rfl
    · rintro r ⟨rs, s2, s3, s4, ⟨hr, hs⟩, rfl⟩
      rw [rgD_len] at hr
      match rs, hr with
      | [a, b], _ => exact ⟨a, b, _, _, _, ⟨hs a (by simp), hs b (by simp)⟩, rfl⟩
  rintro _ ⟨a, b, s2, s3, s4, ⟨ha, hb⟩, rfl⟩
  refine ⟨rfl, rfl, ⟨by decide, by decide⟩, fun y y0 y1 => ?_⟩
  exact ⟨rfl, k (a, b, (false ^^ decide (y = 1))) ⟨ha, hb⟩⟩
abbrev lE (rs : List T3) (s4 s5 s6 s7 : Sl) : Dl.Env := [.sh .scr, .bx, .un, .ow (.ol .fr) (.lst (rs.map t3R)), s4, s5, s6, s7]
abbrev lG (rs : List T3) (s4 s5 s6 s7 : Sl) : Dl.Env := [.sh .scr, .bx, .un, .sh (.lst (rs.map t3R)), s4, s5, s6, s7]
theorem teq_yes3 {t : T3} : eqYes 0 ds_TrialU_eqU [.int t.1, .int t.2.1, .bl t.2.2] := by
  refine mh_TrialU_eqU ?_
  refine if2 (fun c => ?_) (fun c => absurd (by simp) c)
  refine if2 (fun c2 => ?_) (fun c2 => absurd (by simp) c2)
  show Sl.sh (.bl (false ^^ decide (t.2.2 = t.2.2))) = _
  simp
theorem write_lst {ts : List T3} {Q : Sl → List Sl → Prop} {E : Er → List Sl → Prop} (hn : ts.length < 900) (h : ∀ t ∈ ts, T3ok t) (k : Q (.sh (.str (Txt.join "\n" (ts.map lineT)))) [.sh (.lst (ts.map t3D))]) : ds_write_trials.wp [.sh (.lst (ts.map t3D))] Q E := write_ok (a := false) hn h k
theorem write_tup {ts : List T3} {Q : Sl → List Sl → Prop} {E : Er → List Sl → Prop} (hn : ts.length < 900) (h : ∀ t ∈ ts, T3ok t) (k : Q (.sh (.str (Txt.join "\n" (ts.map lineT)))) [.sh (.tup (ts.map t3D))]) : ds_write_trials.wp [.sh (.tup (ts.map t3D))] Q E := write_ok (a := true) hn h k
theorem pj {ls : List Str} : pJoin (.str "\n") (.lst (ls.map D.str)) = some ((ls.map (·.length)).sum + ls.length * ("\n" : Str).length ≤ 16777216, .sh (.str (Txt.join "\n" ls))) := by
  unfold pJoin
  simp only [strsD_map]
theorem sum_short {l : List T3} (h : ∀ t ∈ l, T3ok t) : ((l.map lineT).map (·.length)).sum ≤ 100 * l.length := by
  induction l with
  | nil => simp
  | cons t l ih =>
    have := ih fun t ht => h t (List.mem_cons_of_mem _ ht)
    have := line_short (h t List.mem_cons_self)
    simp only [List.map_cons, List.sum_cons, List.length_cons]
    omega
theorem read_nil {Q : Sl → List Sl → Prop} {E : Er → List Sl → Prop} (k : Q (.ow (.ol .fr) (.lst [])) [.sh (.str "")]) : ds_read_trials.wp [.sh (.str "")] Q E := by
  refine read_trials_any (Ls := []) (by decide +kernel) (fun _ => rfl) (fun e => absurd rfl e) (by decide) (fun y hy => (by cases hy)) (fun us hu => ?_) (fun i y ey no _ => by cases ey)
  cases us with
  | nil => exact k
  | cons u us => cases hu
theorem law_true : ds_law.wp [.sh .scr] (fun r _ => r = .sh (.bl true)) (fun _ _ => False) := by
  refine mh_law ?_
  refine df_in [.sh .scr, .un, .un, .un, .un, .un, .un, .un] rfl rfl ?_
  refine cut (fun r => r = [.sh .scr, .bx, .un, .un, .un, .un, .un, .un]) rfl ?_
  rintro _ rfl
  refine cut (fun r => ∃ rs : List T3, (rs.length < 10 ∧ ∀ t ∈ rs, T3ok t) ∧ r = lE rs .un .un .un .un) ?_ ?_
  · refine ⟨⟨by decide, by decide⟩, fun n n0 n1 => ?_⟩
    refine ⟨⟨by omega, by omega⟩, ?_⟩
    refine lc_inv (fun i acc r => ∃ (rs : List T3), (rs.length = i ∧ ∀ t ∈ rs, T3ok t) ∧ acc = rs.map t3R ∧ r = [.sh .scr, .bx, .un, .un, .un, .un, .un, .un]) ⟨[], ⟨rfl, fun a h => (by cases h)⟩, rfl, rfl⟩ ?_ ?_
    · rintro i d acc r hd ⟨rs, ⟨hr, ok⟩, rfl, rfl⟩
      have hi := get_lt hd
      rw [rgD_len] at hi
      refine fun v => lrow_ok fun t ht => ?_
      refine ⟨small_line (by rw [List.length_map]; omega), rs ++ [t], ⟨by rw [List.length_append, hr]; rfl, fun x hx => ?_⟩, by rw [List.map_append]; rfl, rfl⟩
      rcases List.mem_append.mp hx with z | z
      · exact ok x z
      · rw [List.mem_singleton.mp z]; exact ht
    · rintro acc r ⟨rs, ⟨hr, ok⟩, rfl, rfl⟩
      rw [rgD_len] at hr
      exact ⟨rs, ⟨by omega, ok⟩, rfl⟩
  rintro _ ⟨rs, ⟨hr, ok⟩, rfl⟩
  refine cut (fun r => ∃ rs : List T3, (rs.length < 11 ∧ ∀ t ∈ rs, T3ok t) ∧ r = lE rs .un .un .un .un) ?_ ?_
  · have eL : (((rs.map t3R).length : Nat) : Int) = ((rs.length : Nat) : Int) := by rw [List.length_map]
    refine if2 (fun z => ?_) (fun z => ⟨rs, ⟨by omega, ok⟩, rfl⟩)
    have z1 : (((rs.map t3R).length : Nat) : Int) > 0 := dt z
    rw [eL] at z1
    refine ⟨⟨by decide, by decide⟩, fun y y0 y1 => ?_⟩
    refine if2 (fun _ => ?_) (fun _ => ⟨rs, ⟨by omega, ok⟩, rfl⟩)
    refine ⟨rfl, ⟨by rw [eL]; omega, by rw [eL]; omega⟩, fun q q0 q1 => ?_⟩
    rw [eL] at q1
    obtain ⟨j, rfl⟩ : ∃ j : Nat, q = ((j : Nat) : Int) := ⟨q.toNat, by omega⟩
    obtain ⟨t, et⟩ : ∃ t, rs[j]? = some t := ⟨_, List.getElem?_eq_getElem (by omega)⟩
    have ix : dIxL (.lst (rs.map t3R)) (.int ((j : Nat) : Int)) = some (t3R t) := ixL_ok (by rw [List.getElem?_map, et]; rfl)
    have ix : atI (rs.map t3R) ((j : Nat) : Int) = some (t3R t) := ix
    conv => whnf
    dsimp only
    rw [ix]
    refine ⟨trivial, small_line (by rw [List.length_map]; omega), rs ++ [t], ⟨by rw [List.length_append]; show rs.length + 1 < 11; omega, fun x hx => ?_⟩, ?_⟩
    · rcases List.mem_append.mp hx with w | w
      · exact ok x w
      · rw [List.mem_singleton.mp w]; exact ok t (List.mem_of_getElem? et)
    · unfold lE
      rw [List.map_append]
      rfl
  rintro _ ⟨rs, ⟨hr, ok⟩, rfl⟩
  have eL : (((rs.map t3R).length : Nat) : Int) = ((rs.length : Nat) : Int) := by rw [List.length_map]
  refine cut (fun r => r = lG rs .un (.sh (.lst (rs.map t3D))) .un .un) ?_ ?_
  · refine lc_inv (fun i acc r => acc = (rs.take i).map t3D ∧ r = lG rs .un .un .un .un) ⟨rfl, rfl⟩ ?_ ?_
    · rintro i d acc r hd ⟨rfl, rfl⟩
      obtain ⟨t, et, rfl⟩ := map_at hd
      have hi := get_lt et
      refine new_trial ?_
      refine ⟨small_line (by rw [List.length_map, List.length_take]; omega), ?_, rfl⟩
      rw [take_snoc et, List.map_append]
      rfl
    · rintro acc r ⟨rfl, rfl⟩
      rw [List.length_map, List.take_length]
      exact rfl
  rintro _ rfl
  refine cut (fun r => r = lG rs .un (.sh (.lst (rs.map t3D))) (.sh (.str (Txt.join "\n" (rs.map lineT)))) .un) ?_ ?_
  · refine write_lst (by omega) ok ?_
    exact rfl
  rintro _ rfl
  refine cut (fun r => r = lG rs .un (.sh (.lst (rs.map t3D))) (.sh (.str (Txt.join "\n" (rs.map lineT)))) .un) ?_ ?_
  · refine lc_inv (fun i acc r => acc = ((rs.take i).map lineT).map D.str ∧ r = [.sh .scr, .un, .un, .sh (.lst (rs.map t3R)), .un, .sh (.lst (rs.map t3D)), .sh (.str (Txt.join "\n" (rs.map lineT))), .un]) ⟨rfl, rfl⟩ ?_ ?_
    · rintro i d acc r hd ⟨rfl, rfl⟩
      obtain ⟨t, et, rfl⟩ := map_at hd
      have hi := get_lt et
      refine lline_ok (ok t (List.mem_of_getElem? et)) ?_
      refine ⟨small_line (by rw [List.length_map, List.length_map, List.length_take]; omega), ?_, rfl⟩
      rw [take_snoc et, List.map_append, List.map_append]
      rfl
    · rintro acc r ⟨rfl, rfl⟩
      rw [List.length_map, List.take_length]
      have b1 : (Str.ofString "\n").length = 1 := by decide +kernel
      have hs := sum_short ok
      show match pJoin (.str "\n") (.lst ((rs.map lineT).map D.str)) with | some (p, s) => p ∧ _ | none => False
      rw [pj]
      refine ⟨by rw [List.length_map, b1]; omega, ?_⟩
      exact if2 (fun c => absurd c (by simp)) (fun _ => rfl)
  rintro _ rfl
  refine cut (fun r => r = lG rs .un (.sh (.lst (rs.map t3D))) (.sh (.str (Txt.join "\n" (rs.map lineT)))) (.sh (.lst (rs.map t3D)))) ?_ ?_
  · refine read_back (by omega) ok ?_
    exact rfl
  rintro _ rfl
  refine cut (fun r => r = lG rs .un (.sh (.lst (rs.map t3D))) (.sh (.str (Txt.join "\n" (rs.map lineT)))) (.sh (.lst (rs.map t3D)))) ?_ ?_
  · refine lsame_ok (by omega) ?_
    refine lsame_ok (by omega) ?_
    refine ⟨⟨rfl, fun x hx => by
      obtain ⟨t, _, e⟩ := List.mem_map.mp hx
      exact ⟨_, e.symm, teq_yes3⟩⟩, ?_⟩
    exact rfl
  rintro _ rfl
  refine cut (fun r => r = lG rs .un (.sh (.lst (rs.map t3D))) (.sh (.str (Txt.join "\n" (rs.map lineT)))) (.sh (.lst (rs.map t3D)))) ?_ ?_
  · refine ⟨trivial, ?_⟩
    refine write_tup (by omega) ok ?_
    exact if2 (fun c => absurd c (by simp)) (fun _ => rfl)
  rintro _ rfl
  refine cut (fun r => ∃ s4, r = lG rs s4 (.sh (.lst (rs.map t3D))) (.sh (.str (Txt.join "\n" (rs.map lineT)))) (.sh (.lst (rs.map t3D)))) ?_ ?_
  · refine for_inv (fun i r => ∃ s4, r = lG rs s4 (.sh (.lst (rs.map t3D))) (.sh (.str (Txt.join "\n" (rs.map lineT)))) (.sh (.lst (rs.map t3D)))) ⟨_, rfl⟩ ?_ (fun r z => z)
    rintro i d r hd ⟨s4, rfl⟩
    obtain ⟨t, et, rfl⟩ := map_at hd
    have ht := ok t (List.mem_of_getElem? et)
    refine gs_ok (ρ' := lG rs (.sh (t3R t)) (.sh (.lst (rs.map t3D))) (.sh (.str (Txt.join "\n" (rs.map lineT)))) (.sh (.lst (rs.map t3D)))) rfl ?_
    refine lline_ok ht ?_
    refine read_one ht ?_
    refine lsame_ok (ts := [t]) (by simp) ?_
    exact ⟨_, rfl⟩
  rintro _ ⟨s4, rfl⟩
  have fn : (D.lst []).fit 64 := fit_ints (n := 63) []
  refine read_nil ?_
  refine ⟨⟨fn, fn⟩, ?_⟩
  rw [eq_refl fn]
  refine write_tup (ts := []) (by simp) (fun t h => (by cases h)) ?_
  have e : Txt.join "\n" (([] : List T3).map lineT) = "" := by decide +kernel
  rw [e]
  show Sl.sh (D.bl (false ^^ decide (("" : Str) = ""))) = Sl.sh (D.bl true)
  rw [decide_eq_true rfl]
  rfl
end
end Pf
namespace Pf
open PySem PySem.Spec PyProof.Rows L2 Dl
theorem sc_law_box : FnScope ["_law_script", "_law_cell"] ["_law_script"] (defScope s_law_box) := ⟨rfl, rfl, rfl, by decide +kernel, rfl, by decide +kernel, by decide +kernel⟩
theorem sc_law_take : FnScope ["_law_box_here", "_law_size", "_law_cell", "_law_digit"] ["_law_box_here", "_law_size"] (defScope s_law_take) := ⟨rfl, rfl, rfl, by decide +kernel, rfl, by decide +kernel, by decide +kernel⟩
theorem sc_TrialU_initU : FnScope ["self", "place", "height", "reached"] ["self", "place", "height", "reached"] (defScope s_TrialU_initU) := ⟨rfl, rfl, rfl, by decide +kernel, rfl, by decide +kernel, by decide +kernel⟩
theorem sc_TrialU_eqU : FnScope ["self", "other"] ["self", "other"] (defScope s_TrialU_eqU) := ⟨rfl, rfl, rfl, by decide +kernel, rfl, by decide +kernel, by decide +kernel⟩
theorem sc_TrialU_strU : FnScope ["self", "word"] ["self"] (defScope s_TrialU_strU) := ⟨rfl, rfl, rfl, by decide +kernel, rfl, by decide +kernel, by decide +kernel⟩
theorem sc_law_number : FnScope ["_law_x"] ["_law_x"] (defScope s_law_number) := ⟨rfl, rfl, rfl, by decide +kernel, rfl, by decide +kernel, by decide +kernel⟩
theorem sc_law_says : FnScope ["_law_told", "_law_due"] ["_law_told", "_law_due"] (defScope s_law_says) := ⟨rfl, rfl, rfl, by decide +kernel, rfl, by decide +kernel, by decide +kernel⟩
theorem sc_read_number : FnScope ["word", "line", "digits", "digit"] ["word", "line"] (defScope s_read_number) := ⟨rfl, rfl, rfl, by decide +kernel, rfl, by decide +kernel, by decide +kernel⟩
theorem sc_lines_of : FnScope ["text", "index", "line"] ["text"] (defScope s_lines_of) := ⟨rfl, rfl, rfl, by decide +kernel, rfl, by decide +kernel, by decide +kernel⟩
theorem sc_read_trials : FnScope ["text", "trials", "line", "words", "place", "height"] ["text"] (defScope s_read_trials) := ⟨rfl, rfl, rfl, by decide +kernel, rfl, by decide +kernel, by decide +kernel⟩
theorem sc_write_trials : FnScope ["trials", "trial"] ["trials"] (defScope s_write_trials) := ⟨rfl, rfl, rfl, by decide +kernel, rfl, by decide +kernel, by decide +kernel⟩
theorem sc_law_row : FnScope ["_law_box_here", "_law_row_here", "_law_k", "_law_small", "_law_great"] ["_law_box_here"] (defScope s_law_row) := ⟨rfl, rfl, rfl, by decide +kernel, rfl, by decide +kernel, by decide +kernel⟩
theorem sc_law_line : FnScope ["_law_row_here"] ["_law_row_here"] (defScope s_law_line) := ⟨rfl, rfl, rfl, by decide +kernel, rfl, by decide +kernel, by decide +kernel⟩
theorem sc_law_same : FnScope ["_law_trials", "_law_rows", "_law_k", "_law_trial"] ["_law_trials", "_law_rows"] (defScope s_law_same) := ⟨rfl, rfl, rfl, by decide +kernel, rfl, by decide +kernel, by decide +kernel⟩
theorem sc_law : FnScope ["_law_script", "_law_box_here", "_law_k", "_law_rows", "_law_row_here", "_law_trials", "_law_text", "_law_back"] ["_law_script"] (defScope s_law) := ⟨rfl, rfl, rfl, by decide +kernel, rfl, by decide +kernel, by decide +kernel⟩
structure Txt (K : PySem.W.Frag) (mg : Str → Option Value) where
  fd_law_box : FuncData
  F_law_box : FunD K "_law_box" "_law_box" (defArgs s_law_box) (defBody s_law_box) (defScope s_law_box) [] [] (He.ga K "_law_box") fd_law_box
  fd_law_take : FuncData
  F_law_take : FunD K "_law_take" "_law_take" (defArgs s_law_take) (defBody s_law_take) (defScope s_law_take) [] [] (He.ga K "_law_take") fd_law_take
  fd_TrialU_initU : FuncData
  F_TrialU_initU : FunD K "__init__" "Trial.__init__" (defArgs s_TrialU_initU) (defBody s_TrialU_initU) (defScope s_TrialU_initU) [] [] (He.ma K (He.ga K "Trial") "__init__") fd_TrialU_initU
  fd_TrialU_eqU : FuncData
  F_TrialU_eqU : FunD K "__eq__" "Trial.__eq__" (defArgs s_TrialU_eqU) (defBody s_TrialU_eqU) (defScope s_TrialU_eqU) [] [] (He.ma K (He.ga K "Trial") "__eq__") fd_TrialU_eqU
  fd_TrialU_strU : FuncData
  F_TrialU_strU : FunD K "__str__" "Trial.__str__" (defArgs s_TrialU_strU) (defBody s_TrialU_strU) (defScope s_TrialU_strU) [] [] (He.ma K (He.ga K "Trial") "__str__") fd_TrialU_strU
  fd_law_number : FuncData
  F_law_number : FunD K "_law_number" "_law_number" (defArgs s_law_number) (defBody s_law_number) (defScope s_law_number) [] [] (He.ga K "_law_number") fd_law_number
  fd_law_says : FuncData
  F_law_says : FunD K "_law_says" "_law_says" (defArgs s_law_says) (defBody s_law_says) (defScope s_law_says) [] [] (He.ga K "_law_says") fd_law_says
  fd_read_number : FuncData
  F_read_number : FunD K "read_number" "read_number" (defArgs s_read_number) (defBody s_read_number) (defScope s_read_number) [] [] (He.ga K "read_number") fd_read_number
  fd_lines_of : FuncData
  F_lines_of : FunD K "lines_of" "lines_of" (defArgs s_lines_of) (defBody s_lines_of) (defScope s_lines_of) [] [] (He.ga K "lines_of") fd_lines_of
  fd_read_trials : FuncData
  F_read_trials : FunD K "read_trials" "read_trials" (defArgs s_read_trials) (defBody s_read_trials) (defScope s_read_trials) [] [] (He.ga K "read_trials") fd_read_trials
  fd_write_trials : FuncData
  F_write_trials : FunD K "write_trials" "write_trials" (defArgs s_write_trials) (defBody s_write_trials) (defScope s_write_trials) [] [] (He.ga K "write_trials") fd_write_trials
  fd_law_row : FuncData
  F_law_row : FunD K "_law_row" "_law_row" (defArgs s_law_row) (defBody s_law_row) (defScope s_law_row) [] [] (He.ga K "_law_row") fd_law_row
  fd_law_line : FuncData
  F_law_line : FunD K "_law_line" "_law_line" (defArgs s_law_line) (defBody s_law_line) (defScope s_law_line) [] [] (He.ga K "_law_line") fd_law_line
  fd_law_same : FuncData
  F_law_same : FunD K "_law_same" "_law_same" (defArgs s_law_same) (defBody s_law_same) (defScope s_law_same) [] [] (He.ga K "_law_same") fd_law_same
  fd_law : FuncData
  F_law : FunD K "law" "law" (defArgs s_law) (defBody s_law) (defScope s_law) [] [] (He.ga K "law") fd_law
  m_BadLine : mg "BadLine" = some (.ref (He.ga K "BadLine"))
  m_DIGITS : mg "DIGITS" = some (.str "0123456789" (Hd.tkOf (mg "DIGITS")))
  m_MOST_DIGITS : mg "MOST_DIGITS" = some (.int (40) (Hd.tkOf (mg "MOST_DIGITS")))
  m_Trial : mg "Trial" = some (.ref (He.ga K "Trial"))
  m__law_box : mg "_law_box" = some (.ref (He.ga K "_law_box"))
  m__law_line : mg "_law_line" = some (.ref (He.ga K "_law_line"))
  m__law_number : mg "_law_number" = some (.ref (He.ga K "_law_number"))
  m__law_row : mg "_law_row" = some (.ref (He.ga K "_law_row"))
  m__law_same : mg "_law_same" = some (.ref (He.ga K "_law_same"))
  m__law_says : mg "_law_says" = some (.ref (He.ga K "_law_says"))
  m__law_take : mg "_law_take" = some (.ref (He.ga K "_law_take"))
  m_law : mg "law" = some (.ref (He.ga K "law"))
  m_lines_of : mg "lines_of" = some (.ref (He.ga K "lines_of"))
  m_read_number : mg "read_number" = some (.ref (He.ga K "read_number"))
  m_read_trials : mg "read_trials" = some (.ref (He.ga K "read_trials"))
  m_write_trials : mg "write_trials" = some (.ref (He.ga K "write_trials"))
  n_bool : mg "bool" = none
  n_enumerate : mg "enumerate" = none
  n_int : mg "int" = none
  n_isinstance : mg "isinstance" = none
  n_len : mg "len" = none
  n_list : mg "list" = none
  n_range : mg "range" = none
  n_str : mg "str" = none
  n_super : mg "super" = none
  n_tuple : mg "tuple" = none
  cl_Trial : Cls K (He.ga K "Trial")
  na_Trial_height : NoAttr K (He.ga K "Trial") "height"
  na_Trial_place : NoAttr K (He.ga K "Trial") "place"
  na_Trial_reached : NoAttr K (He.ga K "Trial") "reached"
  mk_Trial : Mk K (He.ga K "Trial") (He.ma K (He.ga K "Trial") "__init__")
  er_BadLine : PySem.ErrX.ErrTxt PP K (He.ga K "BadLine") "line" "line"
  ow_Trial_eq : OpM.Own K (He.ga K "Trial") "__eq__" (He.ma K (He.ga K "Trial") "__eq__")
  ti_Trial : OpM.InsT K (He.ga K "Trial")
  ki_Trial_Trial : PySem.W.kitOne K (.ref (He.ga K "Trial")) (.ref (He.ga K "Trial")) = some true
  ow_Trial_str : OpM.Own K (He.ga K "Trial") "__str__" (He.ma K (He.ga K "Trial") "__str__")
section
variable {w : World} {K : PySem.W.Frag} {mg : Str → Option Value} {base : Heap}
theorem b_TrialU_eqU_2 (T : Txt K mg) : Vals [] ([] : List Value) ∧ Binds K T.fd_TrialU_eqU ["self", "other"] [] := ⟨.nil, FunD.bindsN T.F_TrialU_eqU fun _ _ _ _ _ _ us hl => match us, hl with | [_, _], _ => rfl⟩
theorem b_TrialU_initU_4 (T : Txt K mg) : Vals [] ([] : List Value) ∧ Binds K T.fd_TrialU_initU ["self", "place", "height", "reached"] [] := ⟨.nil, FunD.bindsN T.F_TrialU_initU fun _ _ _ _ _ _ us hl => match us, hl with | [_, _, _, _], _ => rfl⟩
theorem b_TrialU_strU_1 (T : Txt K mg) : Vals [] ([] : List Value) ∧ Binds K T.fd_TrialU_strU ["self"] [] := ⟨.nil, FunD.bindsN T.F_TrialU_strU fun _ _ _ _ _ _ us hl => match us, hl with | [_], _ => rfl⟩
theorem b_law_box_1 (T : Txt K mg) : Vals [] ([] : List Value) ∧ Binds K T.fd_law_box ["_law_script"] [] := ⟨.nil, FunD.bindsN T.F_law_box fun _ _ _ _ _ _ us hl => match us, hl with | [_], _ => rfl⟩
theorem b_law_line_1 (T : Txt K mg) : Vals [] ([] : List Value) ∧ Binds K T.fd_law_line ["_law_row_here"] [] := ⟨.nil, FunD.bindsN T.F_law_line fun _ _ _ _ _ _ us hl => match us, hl with | [_], _ => rfl⟩
theorem b_law_number_1 (T : Txt K mg) : Vals [] ([] : List Value) ∧ Binds K T.fd_law_number ["_law_x"] [] := ⟨.nil, FunD.bindsN T.F_law_number fun _ _ _ _ _ _ us hl => match us, hl with | [_], _ => rfl⟩
theorem b_law_row_1 (T : Txt K mg) : Vals [] ([] : List Value) ∧ Binds K T.fd_law_row ["_law_box_here"] [] := ⟨.nil, FunD.bindsN T.F_law_row fun _ _ _ _ _ _ us hl => match us, hl with | [_], _ => rfl⟩
theorem b_law_same_2 (T : Txt K mg) : Vals [] ([] : List Value) ∧ Binds K T.fd_law_same ["_law_trials", "_law_rows"] [] := ⟨.nil, FunD.bindsN T.F_law_same fun _ _ _ _ _ _ us hl => match us, hl with | [_, _], _ => rfl⟩
theorem b_law_says_2 (T : Txt K mg) : Vals [] ([] : List Value) ∧ Binds K T.fd_law_says ["_law_told", "_law_due"] [] := ⟨.nil, FunD.bindsN T.F_law_says fun _ _ _ _ _ _ us hl => match us, hl with | [_, _], _ => rfl⟩
theorem b_law_take_2 (T : Txt K mg) : Vals [] ([] : List Value) ∧ Binds K T.fd_law_take ["_law_box_here", "_law_size"] [] := ⟨.nil, FunD.bindsN T.F_law_take fun _ _ _ _ _ _ us hl => match us, hl with | [_, _], _ => rfl⟩
theorem b_lines_of_1 (T : Txt K mg) : Vals [] ([] : List Value) ∧ Binds K T.fd_lines_of ["text"] [] := ⟨.nil, FunD.bindsN T.F_lines_of fun _ _ _ _ _ _ us hl => match us, hl with | [_], _ => rfl⟩
theorem b_read_number_2 (T : Txt K mg) : Vals [] ([] : List Value) ∧ Binds K T.fd_read_number ["word", "line"] [] := ⟨.nil, FunD.bindsN T.F_read_number fun _ _ _ _ _ _ us hl => match us, hl with | [_, _], _ => rfl⟩
theorem b_read_trials_1 (T : Txt K mg) : Vals [] ([] : List Value) ∧ Binds K T.fd_read_trials ["text"] [] := ⟨.nil, FunD.bindsN T.F_read_trials fun _ _ _ _ _ _ us hl => match us, hl with | [_], _ => rfl⟩
theorem b_write_trials_1 (T : Txt K mg) : Vals [] ([] : List Value) ∧ Binds K T.fd_write_trials ["trials"] [] := ⟨.nil, FunD.bindsN T.F_write_trials fun _ _ _ _ _ _ us hl => match us, hl with | [_], _ => rfl⟩
theorem Txt.is_Trial_o (T : Txt K mg) : ∀ c b, is_Trial c = some b → PySem.W.kitOne K (.ref (He.ga K (cn c))) (.ref (He.ga K "Trial")) = some b ∧ Cls K (He.ga K (cn c)) ∧ OpM.InsT K (He.ga K (cn c)) := by
  intro c b e
  unfold is_Trial at e
  split at e
  · rename_i h; subst h; cases e; exact ⟨T.ki_Trial_Trial, T.cl_Trial, T.ti_Trial⟩
  cases e
theorem Txt.ib_Trial_b (T : Txt K mg) : ∀ s b, ib_Trial s = some b → PySem.W.kitOne K (.type s.nm) (.ref (He.ga K "Trial")) = some b := by
  intro s b e
  cases s <;> first | (cases e; done) 
theorem map_get {ns : List Int} {i : Nat} {y : V} (hi : (ns.map V.int)[i]? = some y) : ∃ z, ns[i]? = some z ∧ y = V.int z := by
  rw [List.getElem?_map] at hi
  cases e : ns[i]? with
  | none =>
    rw [e] at hi
    cases hi
  | some z =>
    rw [e] at hi
    exact ⟨z, rfl, (Option.some.inj hi).symm⟩
theorem take_more {α : Type} : ∀ {l : List α} {i : Nat} {x : α}, l[i]? = some x → l.take (i + 1) = l.take i ++ [x]
  | [], i, x, h => by simp at h
  | a :: l, 0, x, h => by
    have e : a = x := Option.some.inj h
    subst e
    rfl
  | a :: l, i + 1, x, h => by
    have ih := take_more (l := l) (i := i) (x := x) h
    show a :: l.take (i + 1) = a :: l.take i ++ [x]
    rw [ih]
    rfl
theorem cut63 (ns : List Int) : ∃ ms : List Int, cutV (ns.map V.int) none (some 63) = ms.map V.int ∧ ms.length ≤ 63 := by
  refine ⟨(ns.drop (HT.sIx (ns.map V.int).length 0 none)).take (HT.sIx (ns.map V.int).length (ns.map V.int).length (some 63) - HT.sIx (ns.map V.int).length 0 none), ?_, ?_⟩
  · unfold cutV
    rw [List.map_take, List.map_drop]
  · rw [List.length_take]
    have e : HT.sIx (ns.map V.int).length (ns.map V.int).length (some 63) ≤ 63 := by
      unfold HT.sIx
      simp only []
      split <;> omega
    omega
theorem ok_law_box (T : Txt K mg) : FnOk PP w K mg base (L2.CX PP w) 1 (He.ga K "_law_box") T.fd_law_box ["_law_script"] (sp_box K) := by
  refine T.F_law_box.ok sc_law_box (fun vs H Q E h => ?_) (fun cdv A outer s H vs Q E hr h => ?_)
  · obtain ⟨a, ns, rfl, _⟩ := h
    rfl
  · obtain ⟨a, ns, rfl, hS, k⟩ := h
    refine ⟨_, (pss_one (ps_ret (pe_lst (pa_cons (pe_lc (own := [("_law_cell", 1)]) rfl sc_law_box.nd (Cl.piL K (pe_slice (Cl.slL K) (pv 0) po_none (po_some pe_int))) (blkOk_by (N := ["_law_script", "_law_cell"]) (sc := defScope s_law_box) (by decide +kernel)) (fun _ _ _ _ _ => (pg_name (i := 1) sc_law_box.nd rfl (by first | exact Or.inl rfl | exact Or.inr rfl))) (fun _ _ _ _ _ => pts_nil) (fun _ _ _ _ _ => (pe_callTy (T := "int") Cl.int1 (by rfl) T.n_int (by decide +kernel) (pa_cons (pv 1) pa_nil)))) (pa_cons pe_int (pa_cons pe_int (pa_cons pe_int pa_nil))))))), ?_⟩
    refine ⟨_, rfl, 63, rfl, a, _, rfl, hS, fun p hp => ?_⟩
    obtain ⟨ms, em, hm⟩ := cut63 ns
    rw [em]
    refine ⟨p, rfl, ⟨_, SqL.of upd_same⟩, fun D hD => ?_⟩
    have hDp : D ≠ p := fun z => by
      rw [z, upd_same] at hD
      cases hD
    have hD0 : H D = none := by
      rw [upd_ne hDp] at hD
      exact hD
    have hSq : ∀ H', H' p = some (.lst (ms.map V.int)) → SqL K H' p (ms.map V.int) := fun H' z => SqL.of z
    refine lc_list (K := K) (a := p) (xs := ms.map V.int) (fun i H' => H' D = some (.lst ((ms.take i).map V.int)) ∧ H' p = some (.lst (ms.map V.int)) ∧ Same H H') ⟨upd_same, ?_, ?_⟩ (fun i H' _ z => hSq H' z.2.1) ?_ ?_
    · rw [upd_ne (Ne.symm hDp), upd_same]
    · intro x o e
      rw [upd_ne (ne_of_none e hD0), upd_ne (ne_of_none e hp)]
      exact e
    · rintro i x H' hi ⟨h1, h2, h3⟩
      obtain ⟨z, hz, rfl⟩ := map_get hi
      refine ⟨rfl, ?_⟩
      refine ⟨_, rfl, z, rfl, _, h1, ?_, ?_, ?_, ?_⟩
      · rw [List.length_map, List.length_take, sizeLine_eq]
        omega
      · rw [upd_same, take_more hz, List.map_append]
        rfl
      · rw [upd_ne (Ne.symm hDp)]
        exact h2
      · intro x o e
        rw [upd_ne (ne_of_none e hD0)]
        exact h3 x o e
    · rintro H' ⟨h1, h2, h3⟩
      rw [List.length_map, List.take_length] at h1
      refine ⟨by show 4 ≤ sizeLine; decide, fun b hb => ?_⟩
      refine k _ b D (fun x o e => ?_) (h3.free hb) hD0 ⟨ms, 0, 0, 0, upd_same, ?_, hm, by decide, by decide, by decide, by decide⟩
      · rw [upd_ne (ne_of_none (h3 x o e) hb)]
        exact h3 x o e
      · rw [upd_ne (ne_of_none h1 hb)]
        exact h1
theorem upd_id {H : Hp} {b : Addr} {o : HO} (h : H b = some o) : upd H b o = H := by
  funext a
  by_cases e : a = b
  · rw [e, upd_same, h]
  · rw [upd_ne e]
theorem at_some {cs : List Int} {i : Int} (h0 : 0 ≤ i) (h1 : i < (cs.length : Int)) : ∃ z, atI (cs.map V.int) i = some (V.int z) := by
  have hj : i.toNat < cs.length := by omega
  refine ⟨cs[i.toNat], ?_⟩
  have e := atI_nat (xs := cs.map V.int) (j := i.toNat) (v := V.int cs[i.toNat]) (by rw [List.getElem?_map, List.getElem?_eq_getElem hj]; rfl)
  rw [Int.toNat_of_nonneg h0] at e
  exact e
theorem ok_law_take (T : Txt K mg) : FnOk PP w K mg base (L2.CX PP w) 1 (He.ga K "_law_take") T.fd_law_take ["_law_box_here", "_law_size"] sp_take := by
  refine T.F_law_take.ok sc_law_take (fun vs H Q E h => ?_) (fun cdv A outer s H vs Q E hr h => ?_)
  · obtain ⟨b, c, n, rfl, _⟩ := h
    rfl
  · obtain ⟨b, c, n, rfl, hB, hn, hN, k⟩ := h
    have ne := hB.ne
    obtain ⟨cs, i, r, u, hb, hc, hl, hi, hrr, hu, hv⟩ := id hB
    refine ⟨_, (Evl.pss_cut (ps_if (PW.pt (pw_and (pt_cmpR op_lt (pe_ix (Cl.ixL K) (pv 0) pe_int (fun _ _ => rfl)) pe_int (nomark _)) (pw_and1 (pt_cmpR op_lt (pe_ix (Cl.ixL K) (pv 0) pe_int (fun _ _ => rfl)) (pe_callB (id := "len") (Cl.len K) (by rfl) T.n_len (by decide +kernel) (pa_cons (pe_ix (Cl.ixL K) (pv 0) pe_int (fun _ _ => rfl)) pa_nil)) (nomark _)))))
      (pss_cons (ps_set (i := 2) sc_law_take.nd rfl (by first | exact Or.inl rfl | exact Or.inr rfl) (pe_ix (Cl.ixL K) (pe_ix (Cl.ixL K) (pv 0) pe_int (fun _ _ => rfl)) (pe_ix (Cl.ixL K) (pv 0) pe_int (fun _ _ => rfl)) (fun _ _ => rfl)))
      (pss_cons (ps_asg (pe_op op_add (pe_ix (Cl.ixL K) (pv 0) pe_int (fun _ _ => rfl)) pe_int) (pg_sub (pv 0) pe_int set_list))
      (pss_one (ps_if (pt_cmpR op_ge (pv 2) (pe_op op_pow pe_int pe_int) (nomark _))
      (pss_one (ps_asg (pe_op op_sub (pv 2) (pe_op op_pow pe_int pe_int)) (pg_sub (pv 0) pe_int set_list)))
      (pss_one (ps_asg (pe_op op_mod (pe_callTy (T := "int") Cl.int1 (by rfl) T.n_int (by decide +kernel) (pa_cons (pe_op op_add (pe_op op_add (pe_op op_mul (pe_ix (Cl.ixL K) (pv 0) pe_int (fun _ _ => rfl)) pe_int) (pe_op op_mul (pv 2) pe_int)) pe_int) pa_nil)) pe_int) (pg_sub (pv 0) pe_int set_list)))))))
      pss_nil)
      (pss_cons (ps_if (pt_cmpR op_gt (pe_ix (Cl.ixL K) (pv 0) pe_int (fun _ _ => rfl)) pe_int (nomark _))
      (pss_cons (ps_set (i := 3) sc_law_take.nd rfl (by first | exact Or.inl rfl | exact Or.inr rfl) (pe_op op_mod (pe_callTy (T := "int") Cl.int1 (by rfl) T.n_int (by decide +kernel) (pa_cons (pe_ix (Cl.ixL K) (pv 0) pe_int (fun _ _ => rfl)) pa_nil)) (pv 1)))
      (pss_cons (ps_asg (pe_op op_fdivW (pe_ix (Cl.ixL K) (pv 0) pe_int (fun _ _ => rfl)) (pv 1)) (pg_sub (pv 0) pe_int set_list))
      (pss_one (ps_ret (pv 3)))))
      pss_nil)
      (pss_cons (ps_asg (pe_op op_mod (pe_callTy (T := "int") Cl.int1 (by rfl) T.n_int (by decide +kernel) (pa_cons (pe_op op_mul (pe_ix (Cl.ixL K) (pv 0) pe_int (fun _ _ => rfl)) pe_int) pa_nil)) pe_int) (pg_sub (pv 0) pe_int set_list))
      (pss_one (ps_ret (pe_op op_mod (pe_callTy (T := "int") Cl.int1 (by rfl) T.n_int (by decide +kernel) (pa_cons (pe_op op_fdivW (pe_ix (Cl.ixL K) (pv 0) pe_int (fun _ _ => rfl)) pe_int) pa_nil)) (pv 1))))))), ?_⟩
    refine ⟨fun σ' H' => ∃ (v : Option V) (o : HO), σ' = [some (.ref b), some (.int n), v, none] ∧ H' = upd H b o ∧ Bx H' b c, ?_, ?_⟩
    · have no : ∃ (v : Option V) (o : HO), ([some (.ref b), some (.int n), none, none] : L2.St) = [some (.ref b), some (.int n), v, none] ∧ H = upd H b o ∧ Bx H b c := ⟨none, _, rfl, (upd_id hb).symm, hB⟩
      refine ⟨_, rfl, _, _, _, _, rfl, rfl, SqL.of hb, rfl, _, _, rfl, rfl, _, rfl, ?_⟩
      refine ite2 (fun c1 => ?_) (fun c1 => ?_)
      · refine ⟨_, rfl, _, _, _, _, rfl, rfl, SqL.of hb, rfl, _, rfl, _, _, _, _, rfl, rfl, SqL.of hb, rfl, c, _, rfl, .inl (SqL.of hc), _, _, rfl, rfl, _, rfl, ?_⟩
        refine ite2 (fun c2 => ?_) (fun c2 => ?_)
        · have c2' := of_decide_eq_true c2
          rw [List.length_map] at c2'
          obtain ⟨z, hz⟩ := at_some hi c2'
          refine ⟨_, rfl, _, _, _, _, rfl, rfl, SqL.of hb, rfl, _, rfl, _, _, _, _, rfl, rfl, SqL.of hb, rfl, c, _, i, .int z, rfl, rfl, SqL.of hc, hz, ?_⟩
          refine ⟨_, rfl, _, _, _, _, rfl, rfl, SqL.of hb, rfl, _, _, rfl, rfl, _, rfl, b, _, _, 1, rfl, rfl, hb, rfl, ?_⟩
          refine ⟨_, rfl, 10, 18, rfl, rfl, ⟨by decide, by decide, by decide⟩, _, _, rfl, rfl, _, rfl, ?_⟩
          refine ite2 (fun c3 => ?_) (fun c3 => ?_)
          · have c3' := of_decide_eq_true c3
            refine ⟨_, rfl, 10, 18, rfl, rfl, ⟨by decide, by decide, by decide⟩, _, _, rfl, rfl, _, rfl, b, _, _, 2, rfl, rfl, upd_same, rfl, ?_⟩
            refine ⟨_, _, rfl, upd_upd, cs, i + 1, z - 10 ^ 18, u, by rw [upd_upd, upd_same]; rfl, by rw [upd_upd, upd_ne ne]; exact hc, hl, by omega, ?_, hu, hv⟩
            have c4 : (10 : Int) ^ (18 : Int).toNat ≤ z := c3'
            have e : (18 : Int).toNat = 18 := rfl
            rw [e] at c4
            omega
          · refine ⟨_, rfl, _, _, _, _, rfl, rfl, SqL.of upd_same, rfl, _, _, rfl, rfl, .inr ⟨by decide, by decide⟩, _, rfl, _, _, rfl, rfl, .inr ⟨by decide, by decide⟩, _, _, rfl, rfl, _, _, rfl, rfl, _, rfl, _, _, rfl, rfl, (by show (0 : Int) < 2147483647; decide), _, rfl, b, _, _, 3, rfl, rfl, upd_same, rfl, ?_⟩
            exact ⟨_, _, rfl, upd_upd, cs, i + 1, r, _, by rw [upd_upd, upd_same]; rfl, by rw [upd_upd, upd_ne ne]; exact hc, hl, by omega, hrr, Int.emod_nonneg _ (by decide), Int.emod_lt_of_pos _ (by decide)⟩
        · exact no
      · exact no
    · rintro σ' H' ⟨v, o, rfl, rfl, hB'⟩
      obtain ⟨cs, i, r, u, hb, hc, hl, hi, hrr, hu, hv⟩ := id hB'
      refine ⟨_, rfl, _, _, _, _, rfl, rfl, SqL.of hb, rfl, _, _, rfl, rfl, _, rfl, ?_⟩
      refine ite2 (fun c1 => ?_) (fun c1 => ?_)
      · refine ⟨_, rfl, _, _, _, _, rfl, rfl, SqL.of hb, rfl, _, rfl, _, rfl, _, _, rfl, rfl, hn, ?_⟩
        refine ⟨_, rfl, _, _, _, _, rfl, rfl, SqL.of hb, rfl, _, rfl, _, _, rfl, rfl, wide_div hn hN (by decide) (by decide), _, rfl, b, _, _, 2, rfl, rfl, hb, rfl, ?_⟩
        refine ⟨_, rfl, ?_⟩
        show Q (.int (r % n)) (upd (upd H b o) b _)
        rw [upd_upd]
        refine k _ _ (Int.emod_nonneg _ (by omega)) (Int.emod_lt_of_pos _ hn) ⟨cs, i, r / n, u, upd_same, ?_, hl, hi, Int.ediv_nonneg hrr (by omega), hu, hv⟩
        rw [upd_ne ne] at hc ⊢
        exact hc
      · refine ⟨_, rfl, _, _, _, _, rfl, rfl, SqL.of hb, rfl, _, _, rfl, rfl, .inr ⟨by decide, by decide⟩, _, rfl, _, _, rfl, rfl, (by show (0 : Int) < 2147483647; decide), _, rfl, b, _, _, 3, rfl, rfl, hb, rfl, ?_⟩
        refine ⟨_, rfl, _, _, _, _, rfl, rfl, SqL.of upd_same, rfl, _, _, rfl, rfl, wide_div (b := 30) (by decide) (by decide) (by decide) (by decide), _, rfl, _, rfl, _, _, rfl, rfl, hn, ?_⟩
        rw [upd_upd]
        refine k _ _ (Int.emod_nonneg _ (by omega)) (Int.emod_lt_of_pos _ hn) ⟨cs, i, r, _, upd_same, ?_, hl, hi, hrr, Int.emod_nonneg _ (by decide), Int.emod_lt_of_pos _ (by decide)⟩
        rw [upd_ne ne] at hc ⊢
        exact hc
theorem ok_TrialU_initU (T : Txt K mg) : FnOk PP w K mg base (L2.CX PP w) 1 (He.ma K (He.ga K "Trial") "__init__") T.fd_TrialU_initU ["self", "place", "height", "reached"] (spOf K ds_TrialU_initU) := by
  exact okD (m := m_TrialU_initU) T.F_TrialU_initU sc_TrialU_initU hl_TrialU_initU hm_TrialU_initU (fun cdv A outer s H E hr => ⟨_, (pss_cons (Cl.sfld K (pv 0) (pv 1))
      (pss_cons (Cl.sfld K (pv 0) (pv 2))
      (pss_one (Cl.sfld K (pv 0) (pv 3))))), (zSeq (zFldN (c := 0) (j := 0) T.cl_Trial T.na_Trial_place (by decide +kernel) (by decide +kernel) (by decide) (eVar (i := 1)))
      (zSeq (zFldN (c := 0) (j := 1) T.cl_Trial T.na_Trial_height (by decide +kernel) (by decide +kernel) (by decide) (eVar (i := 2)))
      (zFldN (c := 0) (j := 2) T.cl_Trial T.na_Trial_reached (by decide +kernel) (by decide +kernel) (by decide) (eVar (i := 3)))))⟩)
theorem ok_TrialU_eqU (T : Txt K mg) : FnOk PP w K mg base (L2.CX PP w) 1 (He.ma K (He.ga K "Trial") "__eq__") T.fd_TrialU_eqU ["self", "other"] (spOf K ds_TrialU_eqU) := by
  exact okD (m := m_TrialU_eqU) T.F_TrialU_eqU sc_TrialU_eqU hl_TrialU_eqU hm_TrialU_eqU (fun cdv A outer s H E hr => ⟨_, (pss_one (ps_ret (pe_and (pe_callB (id := "isinstance") (Cl.isi K) (by rfl) T.n_isinstance (by decide +kernel) (pa_cons (pv 1) (pa_cons (pe_glob (v := .ref (He.ga K "Trial")) (by rfl) T.m_Trial rfl) pa_nil))) (pe_and (pe_cmpR op_eq (Cl.fld K (pv 0)) (Cl.fld K (pv 1)) (nomark _)) (pe_and (pe_cmpR op_eq (Cl.fld K (pv 0)) (Cl.fld K (pv 1)) (nomark _)) (pe_one (pe_cmpR op_eq (Cl.fld K (pv 0)) (Cl.fld K (pv 1)) (nomark _)))))))), (zRet (eAndV (eIsO (c0 := 0) (own := is_Trial) (blt := ib_Trial) T.is_Trial_o T.ib_Trial_b (eVar (i := 1))) (eAndV (eOp r_eq (eFld (c := 0) (i := 0) T.cl_Trial T.na_Trial_place (by decide +kernel) (eVar (i := 0))) (eFld (c := 0) (i := 0) T.cl_Trial T.na_Trial_place (by decide +kernel) (eVar (i := 1)))) (eAndV (eOp r_eq (eFld (c := 0) (i := 1) T.cl_Trial T.na_Trial_height (by decide +kernel) (eVar (i := 0))) (eFld (c := 0) (i := 1) T.cl_Trial T.na_Trial_height (by decide +kernel) (eVar (i := 1)))) (eOp r_eq (eFld (c := 0) (i := 2) T.cl_Trial T.na_Trial_reached (by decide +kernel) (eVar (i := 0))) (eFld (c := 0) (i := 2) T.cl_Trial T.na_Trial_reached (by decide +kernel) (eVar (i := 1))))))))⟩)
theorem ok_TrialU_strU (T : Txt K mg) : FnOk PP w K mg base (L2.CX PP w) 1 (He.ma K (He.ga K "Trial") "__str__") T.fd_TrialU_strU ["self"] (spOf K ds_TrialU_strU) := by
  exact okD (m := m_TrialU_strU) T.F_TrialU_strU sc_TrialU_strU hl_TrialU_strU hm_TrialU_strU (fun cdv A outer s H E hr => ⟨_, (pss_cons (ps_set (i := 1) sc_TrialU_strU.nd rfl (by first | exact Or.inl rfl | exact Or.inr rfl) (pe_ifExp (pt_val (Cl.fld K (pv 0))) pe_str pe_str))
      (pss_one (ps_ret (pe_joined (.cons (pe_fmt (Cl.fld K (pv 0))) (.cons pe_str (.cons (pe_fmt (Cl.fld K (pv 0))) (.cons pe_str (.cons (pe_fmt (pv 1)) .nil))))))))), (zSeq (zAsg (eIf (tVal (eFld (c := 0) (i := 2) T.cl_Trial T.na_Trial_reached (by decide +kernel) (eVar (i := 0)))) eC eC) (gNm (i := 1)))
      (zRet (eJs (.cons (eFmt (eFld (c := 0) (i := 0) T.cl_Trial T.na_Trial_place (by decide +kernel) (eVar (i := 0)))) (.cons eC (.cons (eFmt (eFld (c := 0) (i := 1) T.cl_Trial T.na_Trial_height (by decide +kernel) (eVar (i := 0)))) (.cons eC (.cons (eFmt (eVar (i := 1))) .nil))))))))⟩)
theorem ok_law_number (T : Txt K mg) : FnOk PP w K mg base (L2.CX PP w) 1 (He.ga K "_law_number") T.fd_law_number ["_law_x"] (spOf K ds_law_number) := by
  exact okD (m := m_law_number) T.F_law_number sc_law_number hl_law_number hm_law_number (fun cdv A outer s H E hr => ⟨_, (pss_one (ps_ret (pe_and (pe_callB (id := "isinstance") (Cl.isi K) (by rfl) T.n_isinstance (by decide +kernel) (pa_cons (pv 0) (pa_cons (pe_bltn (v := .ty "int") (u := .type "int") (by rfl) T.n_int (by decide +kernel) rfl) pa_nil))) (pe_one (pe_not (pe_callB (id := "isinstance") (Cl.isi K) (by rfl) T.n_isinstance (by decide +kernel) (pa_cons (pv 0) (pa_cons (pe_bltn (v := .ty "bool") (u := .type "bool") (by rfl) T.n_bool (by decide +kernel) rfl) pa_nil)))))))), (zRet (eAndV (eIsi (T := .int) (eVar (i := 0))) (eNotV (eIsi (T := .bl) (eVar (i := 0))))))⟩)
theorem ok_law_says (T : Txt K mg) : FnOk PP w K mg base (L2.CX PP w) 1 (He.ga K "_law_says") T.fd_law_says ["_law_told", "_law_due"] (spOf K ds_law_says) := by
  exact okD (m := m_law_says) T.F_law_says sc_law_says hl_law_says hm_law_says (fun cdv A outer s H E hr => ⟨_, (pss_cons (ps_if (pt_val (pv 1))
      (pss_one (ps_ret (pe_cmpR op_isBl (pv 0) pe_bl (nomark _))))
      pss_nil)
      (pss_one (ps_ret (pe_cmpR op_isBl (pv 0) pe_bl (nomark _))))), (zSeq (zIf (tVal (eVar (i := 1)))
      (zRet (eOp r_isB (eVar (i := 0)) eC))
      zNext)
      (zRet (eOp r_isB (eVar (i := 0)) eC)))⟩)
theorem ok_read_number (T : Txt K mg) : FnOk PP w K mg base (L2.CX PP w) 1 (He.ga K "read_number") T.fd_read_number ["word", "line"] (spOf K ds_read_number) := by
  exact okD (m := m_read_number) T.F_read_number sc_read_number hl_read_number hm_read_number (fun cdv A outer s H E hr => ⟨_, (pss_cons (ps_set (i := 2) sc_read_number.nd rfl (by first | exact Or.inl rfl | exact Or.inr rfl) (pe_ifExp (pt_cmpR op_eq (pe_slice sl_str (pv 0) po_none (po_some pe_int)) pe_str (nomark _)) (pe_slice sl_str (pv 0) (po_some pe_int) po_none) (pv 0)))
      (pss_cons (ps_if (PW.pt (pw_or (pt_not (pt_chain op_le op_le pe_int (pe_callB call_len_str (by rfl) T.n_len (by decide +kernel) (pa_cons (pv 2) pa_nil)) (pe_glob (v := .int 40) (by rfl) T.m_MOST_DIGITS ⟨_, rfl⟩))) (pw_or1 (PW.pt (pw_and (pt_cmpR op_eq (pe_ix ix_str (pv 2) pe_int (fun _ _ => rfl)) pe_str (nomark _)) (pw_and1 (pt_cmpR op_ne (pv 0) pe_str (nomark _))))))))
      (pss_one (ps_raiseErr rfl T.er_BadLine T.m_BadLine T.n_super hr (takes_of rfl rfl rfl rfl) (pa_cons (pv 1) pa_nil)))
      pss_nil)
      (pss_cons (ps_for (passes_of rfl) rfl (pi_str (pv 2)) (pg_name (i := 3) sc_read_number.nd rfl (by first | exact Or.inl rfl | exact Or.inr rfl))
      (pss_one (ps_if (pt_cmpR op_notIn_sign (pv 3) (pe_glob (v := .str "0123456789") (by rfl) T.m_DIGITS ⟨_, rfl⟩) rfl)
      (pss_one (ps_raiseErr rfl T.er_BadLine T.m_BadLine T.n_super hr (takes_of rfl rfl rfl rfl) (pa_cons (pv 1) pa_nil)))
      pss_nil)))
      (pss_one (ps_ret (pe_callTy (T := "int") NtB.intS (by rfl) T.n_int (by decide +kernel) (pa_cons (pv 0) pa_nil))))))), (zSeq (zAsg (eIf (tTest' (eOp r_eq (eSl s_s (eVar (i := 0)) oNone (oSome eC)) eC)) (eSl s_s (eVar (i := 0)) (oSome eC) oNone) (eVar (i := 0))) (gNm (i := 2)))
      (zSeq (zIf (tOr' (tNot' (tTest' (eChain k_le r_le eC (eCB1 c_lenS (eVar (i := 2))) eC))) (tAnd' (tTest' (eOp r_eq (eOp r_ixS (eVar (i := 2)) eC) eC)) (tTest' (eOp r_ne (eVar (i := 0)) eC))))
      (zRaise (c := 9) (eVar (i := 1)))
      zNext)
      (zSeq (zFor (m := m_read_number_L1) (wStr (eVar (i := 2))) (gNm (i := 3))
      (zIf (tTest' (eOp r_ninS (eVar (i := 3)) eC))
      (zRaise (c := 9) (eVar (i := 1)))
      zNext))
      (zRet (eCB1 c_intS (eVar (i := 0)))))))⟩)
theorem ok_lines_of (T : Txt K mg) : FnOk PP w K mg base (L2.CX PP w) 1 (He.ga K "lines_of") T.fd_lines_of ["text"] (spOf K ds_lines_of) := by
  exact okD (m := m_lines_of) T.F_lines_of sc_lines_of hl_lines_of hm_lines_of (fun cdv A outer s H E hr => ⟨_, (pss_cons (ps_if (pt_cmpR op_eq (pv 0) pe_str (nomark _))
      (pss_one (ps_ret (pe_lst pa_nil)))
      pss_nil)
      (pss_one (ps_ret (pe_lc (own := [("index", 1), ("line", 2)]) rfl sc_lines_of.nd (Cl.piE K (by rfl) T.n_enumerate (pa_cons (NtB.peSplit (pv 0) pe_str) pa_nil)) (blkOk_by (N := ["text", "index", "line"]) (sc := defScope s_lines_of) (by decide +kernel)) (fun _ _ _ _ _ => (Cl.pgT K (n := 2) (pgs_cons (pg_name (i := 1) sc_lines_of.nd rfl (by first | exact Or.inl rfl | exact Or.inr rfl)) (pgs_cons (pg_name (i := 2) sc_lines_of.nd rfl (by first | exact Or.inl rfl | exact Or.inr rfl)) pgs_nil)))) (fun _ _ _ _ _ => pts_nil) (fun _ _ _ _ _ => (pe_tup (pa_cons (pe_op op_add (pv 1) pe_int) (pa_cons (NtB.peSplit (pv 2) pe_str) pa_nil)))))))), (zSeq (zIf (tTest' (eOp r_eq (eVar (i := 0)) eC))
      (zRet (eFz (eLst aNil)))
      zNext)
      (zRet (eFz (eLc0 (wEnum (eSplit (eVar (i := 0)) eC)) (gw_tup (gw_cons gm_name (gw_name (by decide)) (gm_cons gm_name gm_nil) (gw_cons gm_name (gw_name (by decide)) gm_nil gw_nil))) (gm_tup (gm_cons gm_name (gm_cons gm_name gm_nil))) (gTp (n := 2) (gsCons (gNm (i := 1)) (gsCons (gNm (i := 2)) gsNil))) tYes' (eTup (aCons (eOp r_add (eVar (i := 1)) eC) (aCons (eSplit (eVar (i := 2)) eC) aNil)))))))⟩)
theorem ok_read_trials (T : Txt K mg) : FnOk PP w K mg base (L2.CX PP w) 3 (He.ga K "read_trials") T.fd_read_trials ["text"] (spOf K ds_read_trials) := by
  have G_TrialU_initU_4 : FnR PP w K mg base (L2.CX PP w) _ _ _ := (ok_TrialU_initU T).raw (b_TrialU_initU_4 T).2 (b_TrialU_initU_4 T).1
  have G_lines_of_1 : FnR PP w K mg base (L2.CX PP w) _ _ _ := (ok_lines_of T).raw (b_lines_of_1 T).2 (b_lines_of_1 T).1
  have G_read_number_2 : FnR PP w K mg base (L2.CX PP w) _ _ _ := (ok_read_number T).raw (b_read_number_2 T).2 (b_read_number_2 T).1
  exact okD (m := m_read_trials) T.F_read_trials sc_read_trials hl_read_trials hm_read_trials (fun cdv A outer s H E hr => ⟨_, (pss_cons (ps_set (i := 1) sc_read_trials.nd rfl (by first | exact Or.inl rfl | exact Or.inr rfl) (pe_lst pa_nil))
      (pss_cons (ps_for (passes_of rfl) rfl (Cl.piL K (Cl.pe_f G_lines_of_1 (hr.mono (by decide)) (by rfl) T.m_lines_of T.F_lines_of.kp (fun σ => Cl.at_ (takes_of rfl rfl rfl rfl) σ) (pa_cons (pv 0) pa_nil))) (Cl.pgT K (n := 2) (pgs_cons (pg_name (i := 2) sc_read_trials.nd rfl (by first | exact Or.inl rfl | exact Or.inr rfl)) (pgs_cons (pg_name (i := 3) sc_read_trials.nd rfl (by first | exact Or.inl rfl | exact Or.inr rfl)) pgs_nil)))
      (pss_cons (ps_if (PW.pt (pw_or (pt_cmpR op_ne (pe_callB (id := "len") (Cl.len K) (by rfl) T.n_len (by decide +kernel) (pa_cons (pv 3) pa_nil)) pe_int (nomark _)) (pw_or (pt_cmpR op_ne (pe_ix (Cl.ixL K) (pv 3) pe_int (fun _ _ => rfl)) pe_str (nomark _)) (pw_or1 (pt_cmpR (Cl.ninS K) (pe_ix (Cl.ixL K) (pv 3) pe_int (fun _ _ => rfl)) (pe_tup (pa_cons pe_str (pa_cons pe_str pa_nil))) rfl)))))
      (pss_one (ps_raiseErr rfl T.er_BadLine T.m_BadLine T.n_super hr (takes_of rfl rfl rfl rfl) (pa_cons (pv 2) pa_nil)))
      pss_nil)
      (pss_cons (ps_set (i := 4) sc_read_trials.nd rfl (by first | exact Or.inl rfl | exact Or.inr rfl) (Cl.pe_f G_read_number_2 (hr.mono (by decide)) (by rfl) T.m_read_number T.F_read_number.kp (fun σ => Cl.at_ (takes_of rfl rfl rfl rfl) σ) (pa_cons (pe_ix (Cl.ixL K) (pv 3) pe_int (fun _ _ => rfl)) (pa_cons (pv 2) pa_nil))))
      (pss_cons (ps_set (i := 5) sc_read_trials.nd rfl (by first | exact Or.inl rfl | exact Or.inr rfl) (Cl.pe_f G_read_number_2 (hr.mono (by decide)) (by rfl) T.m_read_number T.F_read_number.kp (fun σ => Cl.at_ (takes_of rfl rfl rfl rfl) σ) (pa_cons (pe_ix (Cl.ixL K) (pv 3) pe_int (fun _ _ => rfl)) (pa_cons (pv 2) pa_nil))))
      (pss_one (ps_expr (pe_bm PySem.F.plainAttrs_list PySem.F.slot_list_append PySem.F.type_list_append mt_append (pv 1) (pa_cons (Cl.pe_mk T.mk_Trial G_TrialU_initU_4 (hr.mono (by decide)) (by rfl) T.m_Trial (fun σ => Cl.at_ (takes_of rfl rfl rfl rfl) σ) (pa_cons (pv 4) (pa_cons (pv 5) (pa_cons (pe_cmpR op_eq (pe_ix (Cl.ixL K) (pv 3) pe_int (fun _ _ => rfl)) pe_str (nomark _)) pa_nil)))) pa_nil))))))))
      (pss_one (ps_ret (pv 1))))), (zSeq (zAsg (eLst aNil) (gNm (i := 1)))
      (zSeq (zFor (m := m_read_trials_L1) (wList (eCall (bCons (eVar (i := 0)) bNil) (fun _ => .nil))) (gTp (n := 2) (gsCons (gNm (i := 2)) (gsCons (gNm (i := 3)) gsNil)))
      (zSeq (zIf (tOr' (tTest' (eOp r_ne (eCB1 c_len (eVar (i := 3))) eC)) (tOr' (tTest' (eOp r_ne (eOp r_ixL (eVar (i := 3)) eC) eC)) (tTest' (eOp (r_in (neg := true)) (eOp r_ixL (eVar (i := 3)) eC) (eTup (aCons eC (aCons eC aNil)))))))
      (zRaise (c := 9) (eVar (i := 2)))
      zNext)
      (zSeq (zAsg (eCall (bCons (eOp r_ixL (eVar (i := 3)) eC) (bCons (eVar (i := 2)) bNil)) (fun _ => .nil)) (gNm (i := 4)))
      (zSeq (zAsg (eCall (bCons (eOp r_ixL (eVar (i := 3)) eC) (bCons (eVar (i := 2)) bNil)) (fun _ => .nil)) (gNm (i := 5)))
      (zDrop (eApp (i := 1) (eFz (eMake (c := 0) (bCons (eVar (i := 4)) (bCons (eVar (i := 5)) (bCons (eOp r_eq (eOp r_ixL (eVar (i := 3)) eC) eC) bNil))) (fun _ => .nil)))))))))
      (zRet (eMv (i := 1)))))⟩)
theorem ok_write_trials (T : Txt K mg) : FnOk PP w K mg base (L2.CX PP w) 4 (He.ga K "write_trials") T.fd_write_trials ["trials"] (spOf K ds_write_trials) := by
  have G_TrialU_strU_1 : FnR PP w K mg base (L2.CX PP w) _ _ _ := (ok_TrialU_strU T).raw (b_TrialU_strU_1 T).2 (b_TrialU_strU_1 T).1
  exact okD (m := m_write_trials) T.F_write_trials sc_write_trials hl_write_trials hm_write_trials (fun cdv A outer s H E hr => ⟨_, (pss_one (ps_ret (TxB.peJoin K pe_str (pe_lc (own := [("trial", 1)]) rfl sc_write_trials.nd (EnB.pi_or (Cl.piL K (pv 0)) (Cl.piT K (pv 0))) (blkOk_by (N := ["trials", "trial"]) (sc := defScope s_write_trials) (by decide +kernel)) (fun _ _ _ _ _ => (pg_name (i := 1) sc_write_trials.nd rfl (by first | exact Or.inl rfl | exact Or.inr rfl))) (fun _ _ _ _ _ => pts_nil) (fun _ _ _ _ _ => (pe_op op_add_str pe_str (pe_callTy (OpM.strO K T.ow_Trial_str G_TrialU_strU_1 (hr.mono (by decide)) (fun σ => Cl.none_ σ)) (by rfl) T.n_str (by decide +kernel) (pa_cons (pv 1) pa_nil)))))))), (zRet (eJoin eC (eFz (eLc0 (wOr (wList (eVar (i := 0))) (wTup (eVar (i := 0)))) (gw_name (by decide)) gm_name (gNm (i := 1)) tYes' (eOp r_addS eC (eCB1 (c_txt (c := 0) (ds := ds_TrialU_strU)) (eVar (i := 1))))))))⟩)
theorem ok_law_row (T : Txt K mg) : FnOk PP w K mg base (L2.CX PP w) 2 (He.ga K "_law_row") T.fd_law_row ["_law_box_here"] (spOf K ds_law_row) := by
  have G_law_take_2 : FnR PP w K mg base (L2.CX PP w) _ _ _ := (ok_law_take T).raw (b_law_take_2 T).2 (b_law_take_2 T).1
  exact okD (m := m_law_row) T.F_law_row sc_law_row hl_law_row hm_law_row (fun cdv A outer s H E hr => ⟨_, (pss_cons (ps_set (i := 1) sc_law_row.nd rfl (by first | exact Or.inl rfl | exact Or.inr rfl) (pe_lst pa_nil))
      (pss_cons (ps_for (passes_of rfl) rfl (pi_range1 (by rfl) T.n_range (pa_cons pe_int pa_nil)) (pg_name (i := 2) sc_law_row.nd rfl (by first | exact Or.inl rfl | exact Or.inr rfl))
      (pss_cons (ps_set (i := 3) sc_law_row.nd rfl (by first | exact Or.inl rfl | exact Or.inr rfl) (pe_op op_sub (Cl.pe_f G_law_take_2 (hr.mono (by decide)) (by rfl) T.m__law_take T.F_law_take.kp (fun σ => Cl.at_ (takes_of rfl rfl rfl rfl) σ) (pa_cons (pv 0) (pa_cons pe_int pa_nil))) pe_int))
      (pss_cons (ps_set (i := 4) sc_law_row.nd rfl (by first | exact Or.inl rfl | exact Or.inr rfl) (pe_op op_mulX (pe_op op_sub pe_int (pe_op op_mul pe_int (Cl.pe_f G_law_take_2 (hr.mono (by decide)) (by rfl) T.m__law_take T.F_law_take.kp (fun σ => Cl.at_ (takes_of rfl rfl rfl rfl) σ) (pa_cons (pv 0) (pa_cons pe_int pa_nil))))) (Cl.pe_f G_law_take_2 (hr.mono (by decide)) (by rfl) T.m__law_take T.F_law_take.kp (fun σ => Cl.at_ (takes_of rfl rfl rfl rfl) σ) (pa_cons (pv 0) (pa_cons (pe_op op_pow pe_int pe_int) pa_nil)))))
      (pss_one (ps_expr (pe_bm PySem.F.plainAttrs_list PySem.F.slot_list_append PySem.F.type_list_append mt_append (pv 1) (pa_cons (pe_ix (Cl.ixL K) (pe_lst (pa_cons (pv 3) (pa_cons (pv 4) pa_nil))) (Cl.pe_f G_law_take_2 (hr.mono (by decide)) (by rfl) T.m__law_take T.F_law_take.kp (fun σ => Cl.at_ (takes_of rfl rfl rfl rfl) σ) (pa_cons (pv 0) (pa_cons pe_int pa_nil))) (fun _ _ => rfl)) pa_nil)))))))
      (pss_one (ps_ret (pe_tup (pa_cons (pe_ix (Cl.ixL K) (pv 1) pe_int (fun _ _ => rfl)) (pa_cons (pe_ix (Cl.ixL K) (pv 1) pe_int (fun _ _ => rfl)) (pa_cons (pe_cmpR op_eq (Cl.pe_f G_law_take_2 (hr.mono (by decide)) (by rfl) T.m__law_take T.F_law_take.kp (fun σ => Cl.at_ (takes_of rfl rfl rfl rfl) σ) (pa_cons (pv 0) (pa_cons pe_int pa_nil))) pe_int (nomark _)) pa_nil)))))))), (zSeq (zAsg (eLst aNil) (gNm (i := 1)))
      (zSeq (zFor (m := m_law_row_L1) (wR1 eC) (gNm (i := 2))
      (zSeq (zAsg (eOp r_sub (eTake (i := 0) eC) eC) (gNm (i := 3)))
      (zSeq (zAsg (eOp r_I (eOp r_sub eC (eOp r_I eC (eTake (i := 0) eC))) (eTake (i := 0) (ePow (a := 10) (b := 40) (n := 10000000000000000000000000000000000000000) ⟨by decide, by decide, by decide⟩ (by decide +kernel)))) (gNm (i := 4)))
      (zDrop (eApp (i := 1) (eOp r_ixL (eFz (eLst (aCons (eVar (i := 3)) (aCons (eVar (i := 4)) aNil)))) (eTake (i := 0) eC)))))))
      (zRet (eTup (aCons (eBor (eOp r_ixL (eVar (i := 1)) eC)) (aCons (eBor (eOp r_ixL (eVar (i := 1)) eC)) (aCons (eOp r_eq (eTake (i := 0) eC) eC) aNil)))))))⟩)
theorem ok_law_line (T : Txt K mg) : FnOk PP w K mg base (L2.CX PP w) 1 (He.ga K "_law_line") T.fd_law_line ["_law_row_here"] (spOf K ds_law_line) := by
  exact okD (m := m_law_line) T.F_law_line sc_law_line hl_law_line hm_law_line (fun cdv A outer s H E hr => ⟨_, (pss_one (ps_ret (pe_op op_add_str (pe_op op_add_str (pe_op op_add_str (pe_op op_add_str (pe_op op_add_str pe_str (pe_callTy call_str_int (by rfl) T.n_str (by decide +kernel) (pa_cons (pe_ix (Cl.ixT K) (pv 0) pe_int (fun _ _ => rfl)) pa_nil))) pe_str) (pe_callTy call_str_int (by rfl) T.n_str (by decide +kernel) (pa_cons (pe_ix (Cl.ixT K) (pv 0) pe_int (fun _ _ => rfl)) pa_nil))) pe_str) (pe_ix (Cl.ixL K) (pe_lst (pa_cons pe_str (pa_cons pe_str pa_nil))) (pe_callTy (T := "int") Cl.intB (by rfl) T.n_int (by decide +kernel) (pa_cons (pe_ix (Cl.ixT K) (pv 0) pe_int (fun _ _ => rfl)) pa_nil)) (fun _ _ => rfl))))), (zRet (eOp r_addS (eOp r_addS (eOp r_addS (eOp r_addS (eOp r_addS eC (eCB1 c_str (eOp r_ixT (eVar (i := 0)) eC))) eC) (eCB1 c_str (eOp r_ixT (eVar (i := 0)) eC))) eC) (eOp r_ixL (eFz (eLst (aCons eC (aCons eC aNil)))) (eCB1 c_intB (eOp r_ixT (eVar (i := 0)) eC)))))⟩)
theorem ok_law_same (T : Txt K mg) : FnOk PP w K mg base (L2.CX PP w) 2 (He.ga K "_law_same") T.fd_law_same ["_law_trials", "_law_rows"] (spOf K ds_law_same) := by
  have G_law_number_1 : FnR PP w K mg base (L2.CX PP w) _ _ _ := (ok_law_number T).raw (b_law_number_1 T).2 (b_law_number_1 T).1
  have G_law_says_2 : FnR PP w K mg base (L2.CX PP w) _ _ _ := (ok_law_says T).raw (b_law_says_2 T).2 (b_law_says_2 T).1
  exact okD (m := m_law_same) T.F_law_same sc_law_same hl_law_same hm_law_same (fun cdv A outer s H E hr => ⟨_, (pss_cons (ps_if (PW.pt (pw_or (pt_not (pt_val (pe_callB (id := "isinstance") (Cl.isi K) (by rfl) T.n_isinstance (by decide +kernel) (pa_cons (pv 0) (pa_cons (pe_bltn (v := .ty "list") (u := .type "list") (by rfl) T.n_list (by decide +kernel) rfl) pa_nil))))) (pw_or1 (pt_cmpR op_ne (pe_callB (id := "len") (Cl.len K) (by rfl) T.n_len (by decide +kernel) (pa_cons (pv 0) pa_nil)) (pe_callB (id := "len") (Cl.len K) (by rfl) T.n_len (by decide +kernel) (pa_cons (pv 1) pa_nil)) (nomark _)))))
      (pss_one (ps_ret pe_bl))
      pss_nil)
      (pss_cons (ps_for (passes_of rfl) rfl (pi_range1 (by rfl) T.n_range (pa_cons (pe_callB (id := "len") (Cl.len K) (by rfl) T.n_len (by decide +kernel) (pa_cons (pv 1) pa_nil)) pa_nil)) (pg_name (i := 2) sc_law_same.nd rfl (by first | exact Or.inl rfl | exact Or.inr rfl))
      (pss_cons (ps_set (i := 3) sc_law_same.nd rfl (by first | exact Or.inl rfl | exact Or.inr rfl) (pe_ix (Cl.ixL K) (pv 0) (pv 2) (fun _ _ => rfl)))
      (pss_cons (ps_if (PW.pt (pw_or (pt_not (pt_val (Cl.pe_f G_law_number_1 (hr.mono (by decide)) (by rfl) T.m__law_number T.F_law_number.kp (fun σ => Cl.at_ (takes_of rfl rfl rfl rfl) σ) (pa_cons (Cl.fld K (pv 3)) pa_nil)))) (pw_or1 (pt_not (pt_val (Cl.pe_f G_law_number_1 (hr.mono (by decide)) (by rfl) T.m__law_number T.F_law_number.kp (fun σ => Cl.at_ (takes_of rfl rfl rfl rfl) σ) (pa_cons (Cl.fld K (pv 3)) pa_nil)))))))
      (pss_one (ps_ret pe_bl))
      pss_nil)
      (pss_cons (ps_if (PW.pt (pw_or (pt_cmpR op_ne (Cl.fld K (pv 3)) (pe_ix (Cl.ixT K) (pe_ix (Cl.ixL K) (pv 1) (pv 2) (fun _ _ => rfl)) pe_int (fun _ _ => rfl)) (nomark _)) (pw_or1 (pt_cmpR op_ne (Cl.fld K (pv 3)) (pe_ix (Cl.ixT K) (pe_ix (Cl.ixL K) (pv 1) (pv 2) (fun _ _ => rfl)) pe_int (fun _ _ => rfl)) (nomark _)))))
      (pss_one (ps_ret pe_bl))
      pss_nil)
      (pss_one (ps_if (pt_not (pt_val (Cl.pe_f G_law_says_2 (hr.mono (by decide)) (by rfl) T.m__law_says T.F_law_says.kp (fun σ => Cl.at_ (takes_of rfl rfl rfl rfl) σ) (pa_cons (Cl.fld K (pv 3)) (pa_cons (pe_ix (Cl.ixT K) (pe_ix (Cl.ixL K) (pv 1) (pv 2) (fun _ _ => rfl)) pe_int (fun _ _ => rfl)) pa_nil)))))
      (pss_one (ps_ret pe_bl))
      pss_nil))))))
      (pss_one (ps_ret pe_bl)))), (zSeq (zIf (tOr' (tNot' (tVal (eIsi (T := .lst) (eVar (i := 0))))) (tTest' (eOp r_ne (eCB1 c_len (eVar (i := 0))) (eCB1 c_len (eVar (i := 1))))))
      (zRet eC)
      zNext)
      (zSeq (zFor (m := m_law_same_L1) (wR1 (eCB1 c_len (eVar (i := 1)))) (gNm (i := 2))
      (zSeq (zAsg (eOp r_ixL (eVar (i := 0)) (eVar (i := 2))) (gNm (i := 3)))
      (zSeq (zIf (tOr' (tNot' (tVal (eCall (bCons (eFld (c := 0) (i := 0) T.cl_Trial T.na_Trial_place (by decide +kernel) (eVar (i := 3))) bNil) (fun _ => .nil)))) (tNot' (tVal (eCall (bCons (eFld (c := 0) (i := 1) T.cl_Trial T.na_Trial_height (by decide +kernel) (eVar (i := 3))) bNil) (fun _ => .nil)))))
      (zRet eC)
      zNext)
      (zSeq (zIf (tOr' (tTest' (eOp r_ne (eFld (c := 0) (i := 0) T.cl_Trial T.na_Trial_place (by decide +kernel) (eVar (i := 3))) (eOp r_ixT (eOp r_ixL (eVar (i := 1)) (eVar (i := 2))) eC))) (tTest' (eOp r_ne (eFld (c := 0) (i := 1) T.cl_Trial T.na_Trial_height (by decide +kernel) (eVar (i := 3))) (eOp r_ixT (eOp r_ixL (eVar (i := 1)) (eVar (i := 2))) eC))))
      (zRet eC)
      zNext)
      (zIf (tNot' (tVal (eCall (bCons (eFld (c := 0) (i := 2) T.cl_Trial T.na_Trial_reached (by decide +kernel) (eVar (i := 3))) (bCons (eOp r_ixT (eOp r_ixL (eVar (i := 1)) (eVar (i := 2))) eC) bNil)) (fun _ => .nil))))
      (zRet eC)
      zNext)))))
      (zRet eC)))⟩)
theorem ok_law (T : Txt K mg) : FnOk PP w K mg base (L2.CX PP w) 5 (He.ga K "law") T.fd_law ["_law_script"] (spOf K ds_law) := by
  have G_TrialU_eqU_2 : FnR PP w K mg base (L2.CX PP w) _ _ _ := (ok_TrialU_eqU T).raw (b_TrialU_eqU_2 T).2 (b_TrialU_eqU_2 T).1
  have G_TrialU_initU_4 : FnR PP w K mg base (L2.CX PP w) _ _ _ := (ok_TrialU_initU T).raw (b_TrialU_initU_4 T).2 (b_TrialU_initU_4 T).1
  have G_law_box_1 : FnR PP w K mg base (L2.CX PP w) _ _ _ := (ok_law_box T).raw (b_law_box_1 T).2 (b_law_box_1 T).1
  have G_law_line_1 : FnR PP w K mg base (L2.CX PP w) _ _ _ := (ok_law_line T).raw (b_law_line_1 T).2 (b_law_line_1 T).1
  have G_law_row_1 : FnR PP w K mg base (L2.CX PP w) _ _ _ := (ok_law_row T).raw (b_law_row_1 T).2 (b_law_row_1 T).1
  have G_law_same_2 : FnR PP w K mg base (L2.CX PP w) _ _ _ := (ok_law_same T).raw (b_law_same_2 T).2 (b_law_same_2 T).1
  have G_law_take_2 : FnR PP w K mg base (L2.CX PP w) _ _ _ := (ok_law_take T).raw (b_law_take_2 T).2 (b_law_take_2 T).1
  have G_read_trials_1 : FnR PP w K mg base (L2.CX PP w) _ _ _ := (ok_read_trials T).raw (b_read_trials_1 T).2 (b_read_trials_1 T).1
  have G_write_trials_1 : FnR PP w K mg base (L2.CX PP w) _ _ _ := (ok_write_trials T).raw (b_write_trials_1 T).2 (b_write_trials_1 T).1
  exact okD (m := m_law) T.F_law sc_law hl_law hm_law (fun cdv A outer s H E hr => ⟨_, (pss_cons (ps_set (i := 1) sc_law.nd rfl (by first | exact Or.inl rfl | exact Or.inr rfl) (Cl.pe_f G_law_box_1 (hr.mono (by decide)) (by rfl) T.m__law_box T.F_law_box.kp (fun σ => Cl.at_ (takes_of rfl rfl rfl rfl) σ) (pa_cons (pv 0) pa_nil)))
      (pss_cons (ps_setLc (i := 3) (own := [("_law_k", 2)]) rfl sc_law.nd rfl rfl (sw_true rfl rfl rfl (by decide +kernel)) (pi_range1 (by rfl) T.n_range (pa_cons (Cl.pe_f G_law_take_2 (hr.mono (by decide)) (by rfl) T.m__law_take T.F_law_take.kp (fun σ => Cl.at_ (takes_of rfl rfl rfl rfl) σ) (pa_cons (pv 1) (pa_cons pe_int pa_nil))) pa_nil)) (blkOk_by (N := ["_law_script", "_law_box_here", "_law_k", "_law_rows", "_law_row_here", "_law_trials", "_law_text", "_law_back"]) (sc := defScope s_law) (by decide +kernel)) (fun _ _ _ _ _ => (pg_name (i := 2) sc_law.nd rfl (by first | exact Or.inl rfl | exact Or.inr rfl))) (fun _ _ _ _ _ => pts_nil) (fun _ _ _ _ _ => (Cl.pe_f G_law_row_1 (hr.mono (by decide)) (by rfl) T.m__law_row T.F_law_row.kp (E := fun _ _ _ _ => False) (fun σ => Cl.none_ σ) (pa_cons (pv 1) pa_nil))))
      (pss_cons (ps_if (PW.pt (pw_and (pt_cmpR op_gt (pe_callB (id := "len") (Cl.len K) (by rfl) T.n_len (by decide +kernel) (pa_cons (pv 3) pa_nil)) pe_int (nomark _)) (pw_and1 (pt_cmpR op_eq (Cl.pe_f G_law_take_2 (hr.mono (by decide)) (by rfl) T.m__law_take T.F_law_take.kp (fun σ => Cl.at_ (takes_of rfl rfl rfl rfl) σ) (pa_cons (pv 1) (pa_cons pe_int pa_nil))) pe_int (nomark _)))))
      (pss_one (ps_expr (pe_bm PySem.F.plainAttrs_list PySem.F.slot_list_append PySem.F.type_list_append mt_append (pv 3) (pa_cons (pe_ix (Cl.ixL K) (pv 3) (Cl.pe_f G_law_take_2 (hr.mono (by decide)) (by rfl) T.m__law_take T.F_law_take.kp (fun σ => Cl.at_ (takes_of rfl rfl rfl rfl) σ) (pa_cons (pv 1) (pa_cons (pe_callB (id := "len") (Cl.len K) (by rfl) T.n_len (by decide +kernel) (pa_cons (pv 3) pa_nil)) pa_nil))) (fun _ _ => rfl)) pa_nil))))
      pss_nil)
      (pss_cons (ps_setLc (i := 5) (own := [("_law_row_here", 4)]) rfl sc_law.nd rfl rfl (sw_true rfl rfl rfl (by decide +kernel)) (Cl.piL K (pv 3)) (blkOk_by (N := ["_law_script", "_law_box_here", "_law_k", "_law_rows", "_law_row_here", "_law_trials", "_law_text", "_law_back"]) (sc := defScope s_law) (by decide +kernel)) (fun _ _ _ _ _ => (pg_name (i := 4) sc_law.nd rfl (by first | exact Or.inl rfl | exact Or.inr rfl))) (fun _ _ _ _ _ => pts_nil) (fun _ _ _ _ _ => (Cl.pe_mk T.mk_Trial G_TrialU_initU_4 (hr.mono (by decide)) (by rfl) T.m_Trial (E := fun _ _ _ _ => False) (fun σ => Cl.none_ σ) (pa_cons (pe_ix (Cl.ixT K) (pv 4) pe_int (fun _ _ => rfl)) (pa_cons (pe_ix (Cl.ixT K) (pv 4) pe_int (fun _ _ => rfl)) (pa_cons (pe_ix (Cl.ixT K) (pv 4) pe_int (fun _ _ => rfl)) pa_nil))))))
      (pss_cons (ps_set (i := 6) sc_law.nd rfl (by first | exact Or.inl rfl | exact Or.inr rfl) (Cl.pe_f G_write_trials_1 (hr.mono (by decide)) (by rfl) T.m_write_trials T.F_write_trials.kp (fun σ => Cl.at_ (takes_of rfl rfl rfl rfl) σ) (pa_cons (pv 5) pa_nil)))
      (pss_cons (ps_if (PW.pt (pw_or (pt_not (pt_val (pe_callB (id := "isinstance") (Cl.isi K) (by rfl) T.n_isinstance (by decide +kernel) (pa_cons (pv 6) (pa_cons (pe_bltn (v := .ty "str") (u := .type "str") (by rfl) T.n_str (by decide +kernel) rfl) pa_nil))))) (pw_or1 (pt_cmpR op_ne (pv 6) (TxB.peJoin K pe_str (pe_lc (own := [("_law_row_here", 4)]) rfl sc_law.nd (Cl.piL K (pv 3)) (blkOk_by (N := ["_law_script", "_law_box_here", "_law_k", "_law_rows", "_law_row_here", "_law_trials", "_law_text", "_law_back"]) (sc := defScope s_law) (by decide +kernel)) (fun _ _ _ _ _ => (pg_name (i := 4) sc_law.nd rfl (by first | exact Or.inl rfl | exact Or.inr rfl))) (fun _ _ _ _ _ => pts_nil) (fun _ _ _ _ _ => (Cl.pe_f G_law_line_1 (hr.mono (by decide)) (by rfl) T.m__law_line T.F_law_line.kp (E := fun _ _ _ _ => False) (fun σ => Cl.none_ σ) (pa_cons (pv 4) pa_nil))))) (nomark _)))))
      (pss_one (ps_ret pe_bl))
      pss_nil)
      (pss_cons (ps_set (i := 7) sc_law.nd rfl (by first | exact Or.inl rfl | exact Or.inr rfl) (Cl.pe_f G_read_trials_1 (hr.mono (by decide)) (by rfl) T.m_read_trials T.F_read_trials.kp (fun σ => Cl.at_ (takes_of rfl rfl rfl rfl) σ) (pa_cons (pv 6) pa_nil)))
      (pss_cons (ps_if (PW.pt (pw_or (pt_not (pt_val (Cl.pe_f G_law_same_2 (hr.mono (by decide)) (by rfl) T.m__law_same T.F_law_same.kp (fun σ => Cl.at_ (takes_of rfl rfl rfl rfl) σ) (pa_cons (pv 7) (pa_cons (pv 3) pa_nil))))) (pw_or (pt_not (pt_val (Cl.pe_f G_law_same_2 (hr.mono (by decide)) (by rfl) T.m__law_same T.F_law_same.kp (fun σ => Cl.at_ (takes_of rfl rfl rfl rfl) σ) (pa_cons (pv 5) (pa_cons (pv 3) pa_nil))))) (pw_or1 (pt_cmpR (Cl.neLs K (c := 0) T.ow_Trial_eq (ok_TrialU_eqU T) (b_TrialU_eqU_2 T).2 (hr.mono (by decide))) (pv 7) (pv 5) (nomark _))))))
      (pss_one (ps_ret pe_bl))
      pss_nil)
      (pss_cons (ps_if (pt_cmpR op_ne (Cl.pe_f G_write_trials_1 (hr.mono (by decide)) (by rfl) T.m_write_trials T.F_write_trials.kp (fun σ => Cl.at_ (takes_of rfl rfl rfl rfl) σ) (pa_cons (pe_callTy (T := "tuple") (Cl.tupleOf K) (by rfl) T.n_tuple (by decide +kernel) (pa_cons (pv 7) pa_nil)) pa_nil)) (pv 6) (nomark _))
      (pss_one (ps_ret pe_bl))
      pss_nil)
      (pss_cons (ps_for (passes_of rfl) rfl (Cl.piL K (pv 3)) (pg_name (i := 4) sc_law.nd rfl (by first | exact Or.inl rfl | exact Or.inr rfl))
      (pss_one (ps_if (pt_not (pt_val (Cl.pe_f G_law_same_2 (hr.mono (by decide)) (by rfl) T.m__law_same T.F_law_same.kp (fun σ => Cl.at_ (takes_of rfl rfl rfl rfl) σ) (pa_cons (Cl.pe_f G_read_trials_1 (hr.mono (by decide)) (by rfl) T.m_read_trials T.F_read_trials.kp (fun σ => Cl.at_ (takes_of rfl rfl rfl rfl) σ) (pa_cons (Cl.pe_f G_law_line_1 (hr.mono (by decide)) (by rfl) T.m__law_line T.F_law_line.kp (fun σ => Cl.at_ (takes_of rfl rfl rfl rfl) σ) (pa_cons (pv 4) pa_nil)) pa_nil)) (pa_cons (pe_lst (pa_cons (pv 4) pa_nil)) pa_nil)))))
      (pss_one (ps_ret pe_bl))
      pss_nil)))
      (pss_one (ps_ret (pe_and (pe_cmpR (Cl.eqD K hr.units) (Cl.pe_f G_read_trials_1 (hr.mono (by decide)) (by rfl) T.m_read_trials T.F_read_trials.kp (fun σ => Cl.at_ (takes_of rfl rfl rfl rfl) σ) (pa_cons pe_str pa_nil)) (pe_lst pa_nil) (nomark _)) (pe_one (pe_cmpR op_eq (Cl.pe_f G_write_trials_1 (hr.mono (by decide)) (by rfl) T.m_write_trials T.F_write_trials.kp (fun σ => Cl.at_ (takes_of rfl rfl rfl rfl) σ) (pa_cons (pe_tup pa_nil) pa_nil)) pe_str (nomark _)))))))))))))))), (zSeq (zAsg (eBox (eVar (i := 0))) (gNm (i := 1)))
      (zSeq (zAsg (eLc0 (wR1 (eTake (i := 1) eC)) (gw_name (by decide)) gm_name (gNm (i := 2)) tYes' (eCall (bLent (i := 1) bNil) (fun _ => .nil))) (gNm (i := 3)))
      (zSeq (zIf (tAnd' (tBor (tTest' (eOp r_gt (eCB1 c_len (eVar (i := 3))) eC))) (tTest' (eOp r_eq (eTake (i := 1) eC) eC)))
      (zDrop (eApp (i := 3) (eIxO (i := 3) (eTake (i := 1) (eBor (eCB1 c_len (eVar (i := 3))))))))
      zNext)
      (zSeq (zAsg (eFz (eLc0 (wList (eVarF (i := 3))) (gw_name (by decide)) gm_name (gNm (i := 4)) tYes' (eFz (eMake (c := 0) (bCons (eOp r_ixT (eVar (i := 4)) eC) (bCons (eOp r_ixT (eVar (i := 4)) eC) (bCons (eOp r_ixT (eVar (i := 4)) eC) bNil))) (fun _ => .nil))))) (gNm (i := 5)))
      (zSeq (zAsg (eCall (bCons (eVar (i := 5)) bNil) (fun _ => .nil)) (gNm (i := 6)))
      (zSeq (zIf (tBor (tOr' (tNot' (tVal (eIsi (T := .str) (eVar (i := 6))))) (tTest' (eOp r_ne (eVar (i := 6)) (eJoin eC (eFz (eLc0 (wList (eVar (i := 3))) (gw_name (by decide)) gm_name (gNm (i := 4)) tYes' (eCall (bCons (eVar (i := 4)) bNil) (fun _ => .nil)))))))))
      (zRet eC)
      zNext)
      (zSeq (zAsg (eFz (eCall (bCons (eVar (i := 6)) bNil) (fun _ => .nil))) (gNm (i := 7)))
      (zSeq (zIf (tBor (tOr' (tNot' (tVal (eCall (bCons (eVar (i := 7)) (bCons (eVar (i := 3)) bNil)) (fun _ => .nil)))) (tOr' (tNot' (tVal (eCall (bCons (eVar (i := 5)) (bCons (eVar (i := 3)) bNil)) (fun _ => .nil)))) (tTest' (eOp (r_neL (c := 0) (ds := ds_TrialU_eqU)) (eVar (i := 7)) (eVar (i := 5)))))))
      (zRet eC)
      zNext)
      (zSeq (zIf (tTest' (eOp r_ne (eCall (bCons (eCB1 c_tuple (eVar (i := 7))) bNil) (fun _ => .nil)) (eVar (i := 6))))
      (zRet eC)
      zNext)
      (zSeq (zFor (m := m_law_L1) (wList (eVarF (i := 3))) (gNm (i := 4))
      (zIf (tNot' (tVal (eCall (bCons (eFz (eCall (bCons (eCall (bCons (eVar (i := 4)) bNil) (fun _ => .nil)) bNil) (fun _ => .nil))) (bCons (eFz (eLst (aCons (eVar (i := 4)) aNil))) bNil)) (fun _ => .nil))))
      (zRet eC)
      zNext))
      (zRet (eAndV (eOp r_eqD (eFz (eCall (bCons eC bNil) (fun _ => .nil))) (eFz (eLst aNil))) (eOp r_eq (eCall (bCons (eTup aNil) bNil) (fun _ => .nil)) eC)))))))))))))⟩)
def sp_law (K : PySem.W.Frag) : Sp := fun vs H Q _ => ∃ (a : Addr) (ns : List Int), vs = [.ref a] ∧ SqL K H a (ns.map V.int) ∧ ns.length ≤ 63 ∧ ∀ H', Q (.bl true) H'
theorem ok_law0 (T : Txt K mg) : FnOk PP w K mg base CX0 5 (He.ga K "law") T.fd_law ["_law_script"] (sp_law K) := fn_calm ((ok_law T).imp fun vs H Q E h => by
  obtain ⟨a, ns, rfl, hS, hl, k⟩ := h
  refine ⟨H, [.sh .scr], [], Le.rfl, .cons (f := []) (.sh (.scr hS)) .nil, List.nodup_nil, fun a ha => (by cases ha), ds_law.mono (fun r as' e v H' hr => ?_) (fun _ _ z => z.elim) law_true⟩
  subst e
  obtain rfl := hr.topv (u := .bl true) rfl
  exact k H') fun _ _ _ _ h => h
end
theorem facts {K : PySem.W.Frag} {h : Heap} {mg : Str → Option Value} (X : K.In h) (G : h.Ns mainGlobals mg) (c : Hd.SaysP fnL erL exL K) : Nonempty (Txt K mg) := by
  have c0 : ((faL.all fun f => f.ok K) && (Hd.errB PP K "BadLine" "line" "BadLine.__init__" && (OpM.ownB K (He.ga K "Trial") "__eq__" (He.ma K (He.ga K "Trial") "__eq__") && (OpM.insB K (He.ga K "Trial") && (decide (PySem.W.kitOne K (.ref (He.ga K "Trial")) (.ref (He.ga K "Trial")) = some true) && (OpM.ownB K (He.ga K "Trial") "__str__" (He.ma K (He.ga K "Trial") "__str__") && true)))))) = true := c.more
  obtain ⟨c1, c2⟩ := He.ba c0
  have ff : ∀ f ∈ faL, f.ok K = true := List.all_eq_true.mp c1
  obtain ⟨fd0, F0⟩ := c.def_ 0 (d := d_law_box) rfl
  obtain ⟨fd1, F1⟩ := c.def_ 1 (d := d_law_take) rfl
  obtain ⟨fd2, F2⟩ := c.def_ 2 (d := d_TrialU_initU) rfl
  obtain ⟨fd3, F3⟩ := c.def_ 3 (d := d_TrialU_eqU) rfl
  obtain ⟨fd4, F4⟩ := c.def_ 4 (d := d_TrialU_strU) rfl
  obtain ⟨fd5, F5⟩ := c.def_ 5 (d := d_law_number) rfl
  obtain ⟨fd6, F6⟩ := c.def_ 6 (d := d_law_says) rfl
  obtain ⟨fd7, F7⟩ := c.def_ 7 (d := d_read_number) rfl
  obtain ⟨fd8, F8⟩ := c.def_ 8 (d := d_lines_of) rfl
  obtain ⟨fd9, F9⟩ := c.def_ 9 (d := d_read_trials) rfl
  obtain ⟨fd10, F10⟩ := c.def_ 10 (d := d_write_trials) rfl
  obtain ⟨fd11, F11⟩ := c.def_ 11 (d := d_law_row) rfl
  obtain ⟨fd12, F12⟩ := c.def_ 12 (d := d_law_line) rfl
  obtain ⟨fd13, F13⟩ := c.def_ 13 (d := d_law_same) rfl
  obtain ⟨fd14, F14⟩ := c.def_ 14 (d := d_law) rfl
  obtain ⟨z0, c2⟩ := He.ba c2
  obtain ⟨z1, c2⟩ := He.ba c2
  obtain ⟨z2, c2⟩ := He.ba c2
  obtain ⟨z3, c2⟩ := He.ba c2
  obtain ⟨z4, c2⟩ := He.ba c2
  exact ⟨Txt.mk (fd0)
    (F0)
    (fd1)
    (F1)
    (fd2)
    (F2)
    (fd3)
    (F3)
    (fd4)
    (F4)
    (fd5)
    (F5)
    (fd6)
    (F6)
    (fd7)
    (F7)
    (fd8)
    (F8)
    (fd9)
    (F9)
    (fd10)
    (F10)
    (fd11)
    (F11)
    (fd12)
    (F12)
    (fd13)
    (F13)
    (fd14)
    (F14)
    (He.glo_ok X G (ff (.glo "BadLine") (by simp [faL])))
    (Hd.str_tk (He.str_ok X G (ff (.str "DIGITS" "0123456789") (by simp [faL]))))
    (Hd.int_tk (He.int_ok X G (ff (.int "MOST_DIGITS" (40)) (by simp [faL]))))
    (He.glo_ok X G (ff (.glo "Trial") (by simp [faL])))
    (He.glo_ok X G (ff (.glo "_law_box") (by simp [faL])))
    (He.glo_ok X G (ff (.glo "_law_line") (by simp [faL])))
    (He.glo_ok X G (ff (.glo "_law_number") (by simp [faL])))
    (He.glo_ok X G (ff (.glo "_law_row") (by simp [faL])))
    (He.glo_ok X G (ff (.glo "_law_same") (by simp [faL])))
    (He.glo_ok X G (ff (.glo "_law_says") (by simp [faL])))
    (He.glo_ok X G (ff (.glo "_law_take") (by simp [faL])))
    (He.glo_ok X G (ff (.glo "law") (by simp [faL])))
    (He.glo_ok X G (ff (.glo "lines_of") (by simp [faL])))
    (He.glo_ok X G (ff (.glo "read_number") (by simp [faL])))
    (He.glo_ok X G (ff (.glo "read_trials") (by simp [faL])))
    (He.glo_ok X G (ff (.glo "write_trials") (by simp [faL])))
    (He.free_ok X G (ff (.free "bool") (by simp [faL])))
    (He.free_ok X G (ff (.free "enumerate") (by simp [faL])))
    (He.free_ok X G (ff (.free "int") (by simp [faL])))
    (He.free_ok X G (ff (.free "isinstance") (by simp [faL])))
    (He.free_ok X G (ff (.free "len") (by simp [faL])))
    (He.free_ok X G (ff (.free "list") (by simp [faL])))
    (He.free_ok X G (ff (.free "range") (by simp [faL])))
    (He.free_ok X G (ff (.free "str") (by simp [faL])))
    (He.free_ok X G (ff (.free "super") (by simp [faL])))
    (He.free_ok X G (ff (.free "tuple") (by simp [faL])))
    (He.cls_ok (ff (.cls "Trial") (by simp [faL])))
    (He.noat_ok (ff (.noat "Trial" "height") (by simp [faL])))
    (He.noat_ok (ff (.noat "Trial" "place") (by simp [faL])))
    (He.noat_ok (ff (.noat "Trial" "reached") (by simp [faL])))
    (He.mkr_ok (ff (.mkr "Trial") (by simp [faL])))
    (Hd.err_mk (x := "line") (msg := "line not understood") (p1 := ⟨9, 17, 9, 21⟩) (p2 := ⟨9, 23, 9, 27⟩) (q1 := ⟨10, 8, 10, 13⟩) (q2 := ⟨10, 8, 10, 15⟩) (q3 := ⟨10, 8, 10, 24⟩) (q4 := ⟨10, 25, 10, 46⟩) (q5 := ⟨10, 8, 10, 47⟩) (q6 := ⟨10, 8, 10, 47⟩) (q7 := ⟨11, 8, 11, 12⟩) (q8 := ⟨11, 8, 11, 17⟩) (q9 := ⟨11, 20, 11, 24⟩) (q10 := ⟨11, 8, 11, 24⟩) z0 (c.err_ 0 rfl) rfl rfl rfl rfl (by decide +kernel) (by decide +kernel) (by decide +kernel) (by decide +kernel) (by decide +kernel) (fun _ _ _ _ _ _ _ _ _ _ _ _ _ _ => rfl))
    (OpM.ownB_ok z1)
    (OpM.insB_ok z2)
    (of_decide_eq_true z3)
    (OpM.ownB_ok z4)⟩
end Pf
open PySem PySem.W PySem.Calls PyProof.Rows
set_option maxHeartbeats 0 in
theorem PySem.Challenge.cw_rungbounds_k59_whole_trials_written_and_holds : PySem.Challenge.rw_rungbounds_k59_whole_trials_written_and.Holds := by
  w_on; o_law
  refine HandSHeadRun.head_any (r := OpenLaw.row PySem.Challenge.rw_rungbounds_k59_whole_trials_written_and) (q := view (OpenLaw.row PySem.Challenge.rw_rungbounds_k59_whole_trials_written_and).prog [21]) (H := Pf.hk) (ob := Pf.ob) (M := 6000) (loose := Pf.loose) (d := HandSHeadRun.topDef (OpenLaw.row PySem.Challenge.rw_rungbounds_k59_whole_trials_written_and).prog 21) (kwd := []) Pf.ob_eq
    (by kernel_rfl) (fun s => by kernel_rfl) Pf.run (by kernel_rfl) (by kernel_rfl) (by kernel_rfl) (by rfl) (by first | assumption | decide +kernel) (by decide +kernel) ⟨rfl, rfl, rfl, rfl, rfl, by decide +kernel⟩ ?hw ?hc
  case hw => w_witness2
  case hc =>
    refine L2.walk_ofE (l := PySem.Challenge.rw_rungbounds_k59_whole_trials_written_and) (n := 63) (k := 5) (x := "_law_script") (CX := L2.CX0) rfl (by decide) (by kernel_rfl) ⟨rfl, by decide, by decide⟩ ?F (fun _ _ _ _ z => z)
    intro w mg fa h Y G hmg0
    obtain ⟨K, KX, c⟩ := Y
    have hmg : mg ("law" : PySem.Str) = some (.ref fa) := by
      have e : (HandSHeadRun.topDef (OpenLaw.row PySem.Challenge.rw_rungbounds_k59_whole_trials_written_and).prog 21).name = ("law" : PySem.Str) := by kernel_rfl
      rw [← e]
      exact hmg0
    obtain ⟨T⟩ := Pf.facts KX G c
    have e := hmg.symm.trans T.m_law
    cases e
    have b := L2.FunD.bindsA (ps := ["_law_script"]) T.F_law fun _ _ _ _ _ _ us hl => match us, hl with | [_], _ => rfl
    exact ⟨K, T.fd_law, Pf.sp_law K, KX, fun s v => b s [v] rfl, fun H a ns hl hO hS => ⟨a, ns, rfl, hS, hl, fun _ => rfl⟩, fun base hb hn => Pf.ok_law0 (w := w) (base := base) T⟩
#print axioms PySem.Challenge.cw_rungbounds_k59_whole_trials_written_and_holds
