import PyProof.Rows.All
import Wide.All
import OpenK.AllK
import Wide.FinOn
import KE.KStateDown
import KE.KExcSuper
import KE.KExcIs
import Lean
import HandS.ForMost
import HandS.ForExc
import HandS.ExcSuper
import HandS.ExcField
import HandS.ExcIs
import HandS.Defaults
import HandS.HeadHook3
import HandS.HeadEnd
import HandS.Head2
import HandS.WideBits
import HandS.Wide
import HandS.Evl
import HandS.CallSlots
import HandS.IsInst
import HandS.Codes
import HandS.SortInts
import HandS.Flow
import HandS.More
import HandS.Star
import HandS.ClsMeth
import HandS.HeadNt
import HandS.OwnEq
import HandS.Style
import HandS.FStr
import KE.KCallOwn
import KE.GoesEnum
import HandS.Walk
import HandS.EndBits
import KE.KSuper
import KE.KSuperObj
import HandS.Conv
import PyProof.DictDisplay
import HandS.MakeKwOnly
import HandS.MakeKw
import HandS.Deep
import HandS.TryMany
import HandS.ExcValue
import HandS.SetBool
import HandS.Strs
import OpenK.KMeth
import OpenK.KOps
import KE.DataCmp
import KE.SortData
import PyProof.AttrMiss
import HandS.Zip
import HandS.TupAny
import HandS.TryOnly
import HandS.TupMul
import KE.GoesMore
import KE.GoesZip
import HandS.Text
import PyProof.StrOps2
import HandS.ExcOwn
import HandS.Flt
import HandS.DictComp
import KE.KIntText
import KE.KUnpackStar
import PyProof.RulesMatchSeq
import PyProof.Rows.MatchSeqLen
import KE.KParD
import PySem.Challenge.RW_rungbounds_k05_rack_of_names
set_option Elab.async false
set_option linter.all false
set_option maxRecDepth 100000
set_option maxHeartbeats 8000000
set_option exponentiation.threshold 10000
namespace PySem
namespace ErrX
open PySem.W PySem.Calls PyProof.Rows PySem.HandSPX
def iA (x : Str) (p1 p2 : Pos) : Arguments := { posonlyargs := [], args := [{ arg := "self", annotation := none, pos := p1 }, { arg := x, annotation := none, pos := p2 }], vararg := none, kwonlyargs := [], kw_defaults := [], kwarg := none, defaults := [] }
def iB (x f msg : Str) (q1 q2 q3 q4 q5 q6 q7 q8 q9 q10 : Pos) : List Stmt :=
  [.Expr (.Call (.Attribute (.Call (.Name "super" q1) [] [] q2) "__init__" q3) [.Constant (.str msg) 0 q4] [] q5) q6,
   .Assign [.Attribute (.Name "self" q7) f q8] (.Name x q9) q10]
def iS (x : Str) : Scope := { kind := .function, names := [(PySem.Str.ofString "self", .local), (x, .local), (PySem.Str.ofString "__class__", .free), (PySem.Str.ofString "super", .globalImplicit)], isGenerator := false, isCoroutine := false, more := [] }
structure ErrTxt (P : Program) (K : Frag) (C : Addr) (x f : Str) : Prop where
  cls : ∃ nm q N bs bm sn sub ab col dd k0 k1 k2 k3 k5, K.lookup C = some (excClassObj nm q C N bs bm true sn sub ab col dd k0 k1 k2 k3 k5 "ValueError.__new__") ∧ refsVE bm = true
  along : ∃ cd, clsIn K C = some cd ∧ alongIn K "__init__" ((cd.mro.dropWhile (· != .ref C)).drop 1) = some (some (.builtin "ValueError.__init__"))
  opq : nsIn K cStatics "thirdparty.any" = some none
  selfC : mroIn K C (.ref C) = some true
  ve : subIn K (.ref C) (.type "ValueError") = some true
  sa : findIn K (.ref C) "__setattr__" = some (some (.builtin "object.__setattr__"))
  ga : findIn K (.ref C) "__getattribute__" = some (some (.builtin "BaseException.__getattribute__"))
  gg : findIn K (.ref C) "__getattr__" = some none
  noN : findIn K (.ref C) f = some none
  kC : keepIn K (.ref C) = true
  exC : subIn K (.ref C) (.type "BaseException") = some true
  tyC : typeIn K (.ref C) = some (.type "type")
  hdC : hasDictIn K C = true
  fn : ∃ fI, findIn K (.ref C) "__init__" = some (some (.ref fI)) ∧ typeIn K (.ref fI) = some (.type "function") ∧
    ∃ (oc : Value) (od : Option Addr) (doc pm kV : Value) (an : Option Addr) (cda cc : Addr) (ct : Value) (osl : Array (Option Value)) (nm qual msg : Str) (p1 p2 q1 q2 q3 q4 q5 q6 q7 q8 q9 q10 : Pos),
      (q3.endLine == q5.line) = true ∧ K.lookup fI = some ⟨oc, od, .func (ksFn nm qual (iA x p1 p2) (iB x f msg q1 q2 q3 q4 q5 q6 q7 q8 q9 q10) (iS x) .none kV doc pm an (.ref cda) ct cc), osl⟩ ∧ codeIn K (.ref cda) qual = true ∧
      (∃ ccl cdd vs ccs file tf, K.lookup cda = some ⟨ccl, cdd, .fields vs, ccs⟩ ∧ vs[2]? = some (.str file tf) ∧ ((P.main.file : Str) == file) = true) ∧
      ∃ cl cld csl, K.lookup cc = some ⟨cl, cld, .cell (some (.ref C)), csl⟩
  top : (P.main.scope.names.lookup ("super" : Str)).isSome = false
  xs : (x == ("self" : Str)) = false
  xc : (("__class__" : Str) == x) = false
  xu : (("super" : Str) == x) = false
  xd : (x == ("__debug__" : Str)) = false
  bnd : ∀ (nm qual : Str) (Bd : List Stmt) (kV doc pm : Value) (an : Option Addr) (cdv ct : Value) (cc : Addr) (p1 p2 : Pos) (u v : Value), bindArgs (ksFn nm qual (iA x p1 p2) Bd (iS x) .none kV doc pm an cdv ct cc) ⟨[u, v], []⟩ = pure [(("self" : Str), u), (x, v)]
theorem one_size (v : Value) : [v].length ≤ sizeLine := by
  rw [sizeLine_eq]
  exact (by decide : 1 ≤ 16777216)
structure Made (h h' : Heap) (e C d : Addr) (f : Str) (v : Value) : Prop where
  keep : ∀ b o, h.get? b = some o → h'.get? b = some o
  new : h.objs.size ≤ e
  obj : ∃ oe vs, h'.get? e = some oe ∧ oe.cls = .ref C ∧ oe.dict = some d ∧ oe.data = .fields vs ∧ vs[1]? = some .none
  dbig : h.objs.size ≤ d
  dne : d ≠ e
  ns : h'.Ns1 d (fun y => if y = f then some v else none)
section
variable {prog : Program} {w : World} {A : Around} {E : Value → Shared → Prop} {h : Heap} {g : Array GenState} {d : Drawn} {t : Nat} {os : OsState}
variable {nm q : Str} {C N : Addr} {bs bm : List Value} {hdct : Bool} {sn : List Str} {sub : List Value} {ab : Bool} {col : Option Bool} {dd : Option Addr} {k0 k1 k2 k3 k5 : Option Value}
theorem call_bw {u e t0 : Addr} {rest : List Value} {Q : Value → Shared → Prop}
    (hC : h.get? C = some (excClassObj nm q C N bs bm hdct sn sub ab col dd k0 k1 k2 k3 k5 "ValueError.__new__")) (he : h.get? e = some (excO C t0)) (hu : h.get? u = some (kxs_mw "ValueError.__init__" e)) (hrest : rest.length ≤ sizeLine)
    (hq : ∀ h' t1, (∀ b o, b ≠ e → h.get? b = some o → h'.get? b = some o) → h'.get? e = some (excO C t1) → Q .none ⟨h', g, d, t, os⟩) :
    wpAny (model prog w) A (call (.ref u) rest) Q E ⟨h, g, d, t, os⟩ := by
  refine wpAny_call (codeAny_of_tree ?_)
  show wpAny _ A.in1 (callAny (.ref u) ⟨rest, []⟩) _ _ _
  simp only [callAny]
  refine wpAny_bind (wpAny_load hu ?_)
  simp only [kxs_mw, show (Value.type "method-wrapper" == Value.type "method" || Value.type "method-wrapper" == Value.type "builtin_function_or_method" || Value.type "method-wrapper" == Value.type "method-wrapper") = true by decide, if_true]
  refine W.KFB.if_so (by decide) ?_
  refine wpAny_bind (ESX.check_bound F.excBase_ValueError hC he rfl ?_)
  refine wpAny_bind (wpAny_pure (wpAny_pure ?_))
  refine ⟨Code.quiet_builtin _ (by decide +kernel), codeAny_builtin F.excBase_ValueError.initEntry ?_⟩
  rw [Around.under_plainId F.excBase_ValueError.init.plain _]
  wp_walk
  refine hq _ h.objs.size (fun b o hb ho => ?_) ?_
  · rw [Heap.get?_update_other _ _ (Ne.symm hb)]
    exact Heap.get?_push_of_some _ ho
  · rw [Heap.get?_update_self _ (Heap.get?_push_of_some _ he) rfl]
    rfl
end
section
variable {prog : Program} {w : World} {A : Around} {E : Value → Shared → Prop} {R : Result → Shared → Prop} {s : Shared} {K : Frag} {mg mb : Str → Option Value} {C : Addr} {x f : Str}
structure InitEnd (h h' : Heap) (e C dx : Addr) (f : Str) (v : Value) : Prop where
  keep : ∀ b o, b ≠ e → h.get? b = some o → h'.get? b = some o
  obj : ∃ t1, h'.get? e = some { cls := .ref C, dict := some dx, data := .fields #[.ref t1, .none, .none, .none, .bool false, .none] }
  dbig : h.objs.size ≤ dx
  dne : dx ≠ e
  ns : h'.Ns1 dx (fun y => if y = f then some v else none)
theorem clsIn_of {nm q : Str} {N : Addr} {bs bm : List Value} {sn : List Str} {sub : List Value} {ab : Bool} {col : Option Bool} {dd : Option Addr} {k0 k1 k2 k3 k5 : Option Value}
    (hC : K.lookup C = some (excClassObj nm q C N bs bm true sn sub ab col dd k0 k1 k2 k3 k5 "ValueError.__new__")) :
    clsIn K C = some { name := nm, bases := bs, mro := .ref C :: bm, ns := N, qualname := q, hasDict := true, slotNames := sn, subclasses := sub, abstract := ab, collection := col, hasDel := false } := by
  unfold clsIn; rw [hC] <;> rfl
theorem mcall_one {o : Expr} {m : Str} {apos pos : Pos} {env : Env} {ov : Value} {n : Nat} {args : List (Bool × Sem Value)} (hf : methodCallForm n args [] = true) (hl : (apos.endLine == pos.line) = true) :
    methodCall o m apos pos env ov n args [] = (do
      let (f, first) ← holding [ov] (getMethod ov m (do return (← importBound o env).getD true))
      callWith pos f first args []) := by
  have e1 : calleeOf (methodCallForm n args []) o env ov m = getMethod ov m (do return (← importBound o env).getD true) := by
    rw [hf] <;> rfl
  have e2 : methodCallPos (methodCallForm n args []) o env apos pos = pure pos := by
    unfold methodCallPos
    exact if_pos (by rw [hl, Bool.or_true])
  unfold methodCall
  rw [e1, e2]
  first
    | rfl
    | simp only [pure_bind]
theorem look_x (T : ErrTxt prog K C x f) : (iS x).names.lookup x = some .local := by
  have e := T.xs
  have e2 : (x == PySem.Str.ofString "self") = false := e
  simp [iS, List.lookup, e2]
theorem look_c (T : ErrTxt prog K C x f) : (iS x).names.lookup ("__class__" : Str) = some .free := by
  have e := T.xc
  have e0 : ((PySem.Str.ofString "__class__") == PySem.Str.ofString "self") = false := by decide +kernel
  have e2 : (PySem.Str.ofString "__class__" == x) = false := e
  show List.lookup (PySem.Str.ofString "__class__") (iS x).names = _
  simp [iS, List.lookup, e2, e0]
theorem look_u (T : ErrTxt prog K C x f) : (iS x).names.lookup ("super" : Str) = some .globalImplicit := by
  have e := T.xu
  have e0 : ((PySem.Str.ofString "super") == PySem.Str.ofString "self") = false := by decide +kernel
  have e1 : ((PySem.Str.ofString "super") == PySem.Str.ofString "__class__") = false := by decide +kernel
  have e2 : (PySem.Str.ofString "super" == x) = false := e
  show List.lookup (PySem.Str.ofString "super") (iS x).names = _
  simp [iS, List.lookup, e2, e0, e1]
theorem look_s : (iS x).names.lookup ("self" : Str) = some .local := by
  show List.lookup (PySem.Str.ofString "self") (iS x).names = _
  simp [iS, List.lookup]
theorem err_init (T : ErrTxt prog K C x f) {e t0 fI : Addr} {v : Value} (hfI : findIn K (.ref C) "__init__" = some (some (.ref fI))) (X : K.In s.heap) (G : s.heap.Ns mainGlobals mg) (Gs : mg "super" = none) (B : s.heap.Ns builtinsNs mb) (Bs : mb "super" = some (.type "super"))
    (hlim : s.heap.NoLimit) (hx : s.heap.get? e = some (excO C t0)) (hnx : K.lookup e = none) (hroom : A.depth < recursionLimit)
    (hq : ∀ h' tk dx, InitEnd s.heap h' e C dx f v → R (.ok (.ret .none)) { s with heap := h', toks := tk }) :
    codeAny (model prog w) A (.call (.ref fI) ⟨[.ref e, v], []⟩) R s := by
  obtain ⟨fI', hfI', hty, oc, od, doc, pm, kV, an, cda, cc, ct, osl, nm0, qual, msg, p1, p2, q1, q2, q3, q4, q5, q6, q7, q8, q9, q10, hln, ho, hcd, ⟨ccl, cdd, cvs, ccs, file, tf, hcode, hvs, hfile⟩, ⟨cl, cld, csl, hcell⟩⟩ := T.fn
  have ef : fI' = fI := by
    have z := hfI'.symm.trans hfI
    simpa using z
  subst ef
  obtain ⟨nm, q, N, bs, bm, sn, sub, ab, col, dd, k0, k1, k2, k3, k5, hC, hbm⟩ := T.cls
  have hcl := clsIn_of hC
  obtain ⟨cd', hcd', hal⟩ := T.along
  have hcdE := hcd'
  rw [hcl] at hcd'
  have hcd'' := (Option.some.inj hcd')
  have hlx := look_x T
  have hlc := look_c T
  have hlu := look_u T
  have hls := look_s (x := x)
  refine ks_codeAny_call_defAt (fd := ksFn nm0 qual (iA x p1 p2) (iB x f msg q1 q2 q3 q4 q5 q6 q7 q8 q9 q10) (iS x) .none kV doc pm an (.ref cda) ct cc) (binds := [("self", .ref e), (x, v)]) hroom (X _ _ ho) rfl hlim (codeRec_of X hcd) rfl
    (BindsTo.of_eq (T.bnd ..)) ?hcell ?hloc (fun h₁ hns hk₁ => ?_) rfl rfl rfl
  case hcell =>
    intro y hy
    have hy' : y ∈ [(PySem.Str.ofString "self", NameKind.local), (x, NameKind.local), (PySem.Str.ofString "__class__", NameKind.free), (PySem.Str.ofString "super", NameKind.globalImplicit)] := hy
    simp only [List.mem_cons, List.not_mem_nil, or_false] at hy'
    rcases hy' with rfl | rfl | rfl | rfl <;> (intro z; cases z)
  case hloc =>
    intro y hy
    simp only [List.mem_cons, List.not_mem_nil, or_false] at hy
    rcases hy with rfl | rfl
    · exact hls
    · exact hlx
  have X₁ : K.In h₁ := X.keeps hk₁
  have hx₁ := hk₁ _ _ hx
  have hmx : (fun y => List.lookup y ([(("self" : Str), Value.ref e), (x, v)] : List (Str × Value)).reverse) x = some v := by simp [List.lookup]
  have hms : (fun y => List.lookup y ([(("self" : Str), Value.ref e), (x, v)] : List (Str × Value)).reverse) ("self" : Str) = some (.ref e) := by
    have e1 : (("self" : Str) == x) = false := by
      rw [Bool.eq_false_iff]
      intro z
      have z2 := (beq_iff_eq.mp z)
      have z3 := T.xs
      rw [← z2] at z3
      simp at z3
    simp [List.lookup, e1]
  obtain ⟨hp, g, dr, tk, os⟩ := s
  have hlc' : (ksEnv qual (iS x) hp.objs.size fI' (.ref cda) cc).kindOf "__class__" = some .free := hlc
  have hlu' : (ksEnv qual (iS x) hp.objs.size fI' (.ref cda) cc).kindOf "super" = some .globalImplicit := hlu
  have hls' : (ksEnv qual (iS x) hp.objs.size fI' (.ref cda) cc).kindOf "self" = some .local := hls
  have hlx' : (ksEnv qual (iS x) hp.objs.size fI' (.ref cda) cc).kindOf x = some .local := hlx
  obtain ⟨oD, hD1, hD2⟩ : ∃ oD, h₁.get? C = some oD ∧ ∃ cdc, oD.data = .cls cdc := ⟨_, X₁ _ _ hC, _, rfl⟩
  obtain ⟨cdc, hD2⟩ := hD2
  have I1 : InstAt h₁ e (excO C t0) C none := ⟨hx₁, rfl, rfl, trivial⟩
  show wpAt _ _ _ (execs (iB x f msg q1 q2 q3 q4 q5 q6 q7 q8 q9 q10) (ksEnv qual (iS x) hp.objs.size fI' (.ref cda) cc)) _ _ _
  refine ks_wpAt_execs_cons (ks_wpAt_Expr_any (ks_wpAt_MethodCall (pl := (do return (← importBound (.Call (.Name "super" q1) [] [] q2) (ksEnv qual (iS x) hp.objs.size fI' (.ref cda) cc)).getD true)) ?_ ?he))
  case he =>
    rw [arm_eval_Call]
    refine congrArg _ (funext fun ov => ?_)
    refine congrArg _ (funext fun _ => ?_)
    exact mcall_one rfl hln
  refine ks_wpAt_super_base (env := ksEnv qual (iS x) hp.objs.size fI' (.ref cda) cc) hlu' hlc' (by decide +kernel) rfl (X₁ _ _ ho) rfl rfl rfl (X₁ _ _ hcode) rfl hvs hfile T.top ?_
  refine ks_loadName_global rfl hlu' (loadGlobal_builtin (env := ksEnv qual (iS x) hp.objs.size fI' (.ref cda) cc) (G.keeps hk₁) Gs (B.keeps hk₁) Bs ⟨rfl, ?_⟩)
  refine wpAny_loadName_free rfl hlc' rfl ⟨_, X₁ _ _ hcell, rfl⟩ ?_
  refine wpAny_loadName_local rfl hls' hns hms ?_
  refine ks_wpAny_isType_cls hD1 hD2 ⟨rfl, ?_⟩
  refine ks_wpAny_call_super hD1 hD2 hx₁ rfl (fun c z => by cases z) (looks_mroIn X₁ T.selfC) (fun h₂ e₂ k₂ => ?_)
  have X₂ : K.In h₂ := X₁.keeps k₂
  have hx₂ := k₂ _ _ hx₁
  have I2 : InstAt h₂ e (excO C t0) C none := ⟨hx₂, rfl, rfl, trivial⟩
  have hI2 : Looks (model prog w) h₂ (isInstance (.ref e) (.type "ValueError")) true := I2.type.andThen (looks_subIn X₂ T.ve)
  refine kxs_getMethod kxs_ValueError e₂ (looks_opaque X₂ T.opq) (l₀ := cd'.mro) (fun A Q E s k q => wpAny_bind ((looks_clsIn X₂ hcdE) A _ E s k (wpAny_pure q))) rfl X₂ hal hI2 (ks_ne X₂ I2 hcdE) (by decide +kernel) ?_
  have hu₃ : (h₂.push (kxs_mw "ValueError.__init__" e)).get? h₂.objs.size = some (kxs_mw "ValueError.__init__" e) := Heap.get?_push_at rfl rfl
  have k₃ : ∀ b o, h₂.get? b = some o → (h₂.push (kxs_mw "ValueError.__init__" e)).get? b = some o := fun b o z => Heap.get?_push_of_some _ z
  refine kxs_callWith (i := "ValueError.__init__") (x := e) rfl ?_
  refine evalArgs_plain (PyProof.Rows.spliced_more (Constant_str (PyProof.Rows.spliced_none ?_)))
  refine ⟨hu₃, ?_⟩
  show wpAny _ _ (call (.ref h₂.objs.size) [_]) _ _ _
  refine call_bw (nm := nm) (q := q) (N := N) (bs := bs) (bm := bm) (hdct := true) (sn := sn) (sub := sub) (ab := ab) (col := col) (dd := dd) (k0 := k0) (k1 := k1) (k2 := k2) (k3 := k3) (k5 := k5) (X₂.keeps k₃ _ _ hC) (k₃ _ _ hx₂) hu₃ (one_size _) (fun h₄ t1 k₄ hx₄ => ?_)
  have hk14 : ∀ b o, b ≠ e → h₁.get? b = some o → h₄.get? b = some o := fun b o hb z => k₄ b o hb (k₃ b o (k₂ b o z))
  have hLe : hp.objs.size ≠ e := Nat.ne_of_gt (Heap.lt_size hx)
  have hns₄ : h₄.Ns hp.objs.size (fun y => List.lookup y ([(("self" : Str), Value.ref e), (x, v)] : List (Str × Value)).reverse) := by
    obtain ⟨o, es, ep, ho1, r⟩ := hns
    exact ⟨o, es, ep, hk14 _ _ hLe ho1, r⟩
  have X₄ : K.In h₄ := fun a o z => hk14 a o (fun y => by rw [y, hnx] at z; cases z) (X₁ a o z)
  refine ks_wpAt_execs_cons (ks_wpAt_Assign_Attr (wpAt_of_wpAny (ESX.ldL (env := ksEnv qual (iS x) hp.objs.size fI' (.ref cda) cc) hns₄ hmx (ESX.ldL (env := ksEnv qual (iS x) hp.objs.size fI' (.ref cda) cc) hns₄ hms ?_ rfl hls' (by decide)) rfl hlx' T.xd)))
  refine set_plain X₄ (ox := excO C t1) (od := none) ⟨hx₄, rfl, rfl, trivial⟩ T.sa ?_
  refine exc_osa X₄ hx₄ hcl (show refsVE (.ref C :: bm) = true from hbm) rfl T.noN (fun h₅ tk₅ dx k₅ dn dne hx₅ hn₅ => ?_)
  refine wpAt_of_wpAny (wpAny_execs_nil (hq h₅ tk₅ dx ⟨fun b o hb z => k₅ b o hb (hk14 b o hb (hk₁ b o z)), ⟨t1, hx₅⟩, ?_, dne, hn₅⟩))
  refine Nat.le_trans ?_ dn
  obtain ⟨o, es, ep, ho1, r⟩ := hns₄
  exact Nat.le_of_lt (Heap.lt_size ho1)
theorem err_made (T : ErrTxt prog K C x f) {v : Value} (X : K.In s.heap) (G : s.heap.Ns mainGlobals mg) (Gs : mg "super" = none) (B : s.heap.Ns builtinsNs mb) (Bs : mb "super" = some (.type "super")) (hlim : s.heap.NoLimit) (hroom : A.depth + 1 < recursionLimit)
    (hq : ∀ h' tk e d, Made s.heap h' e C d f v → R (.ok (.ret (.ref e))) { s with heap := h', toks := tk }) :
    codeAny (model prog w) A (.call (.ref C) ⟨[v], []⟩) R s := by
  obtain ⟨nm, q, N, bs, bm, sn, sub, ab, col, dd, k0, k1, k2, k3, k5, hC, hbm⟩ := T.cls
  obtain ⟨fI, iC, tC, _⟩ := id T.fn
  obtain ⟨hp, g, dr, tk, os⟩ := s
  have k : ∀ b o, hp.get? b = some o → ((hp.push (kdv_tup [v])).push (excO C hp.objs.size)).get? b = some o := fun b o e => Heap.get?_push_of_some _ (Heap.get?_push_of_some _ e)
  have hget : ((hp.push (kdv_tup [v])).push (excO C hp.objs.size)).get? (hp.objs.size + 1) = some (excO C hp.objs.size) := by heap_get
  have hnx : K.lookup (hp.objs.size + 1) = none := by
    cases e : K.lookup (hp.objs.size + 1) with
    | none => rfl
    | some o =>
      have z : hp.get? (hp.objs.size + 1) = some o := X _ _ e
      exact absurd (Nat.lt_of_succ_lt (Heap.lt_size z)) (Nat.lt_irrefl _)
  refine call_own F.excBase_ValueError (fun X => refsVE_contains X bm hbm) (X _ _ hC) (looks_findIn X iC) (fun self => bind_fn X self tC) (one_size v) ?_
  refine err_init (s := ⟨(hp.push (kdv_tup [v])).push (excO C hp.objs.size), g, dr, tk, os⟩) T iC (X.keeps k) (G.keeps k) Gs (B.keeps k) Bs (hlim.keeps k) hget hnx ?_ fun h' tk' dx ⟨k', ⟨t1, hx⟩, dn, dne, hns⟩ => ?_
  · show A.depth + 1 < recursionLimit
    exact hroom
  · have old : ∀ b o, hp.get? b = some o → h'.get? b = some o := fun b o e => k' b o (Nat.ne_of_lt (Nat.lt_succ_of_lt (Heap.lt_size e))) (k b o e)
    have z : hp.objs.size + 1 + 1 ≤ dx := by
      first
        | (simpa only [Heap.size_push] using dn)
        | exact dn
        | (have q := dn; rw [Heap.size_push, Heap.size_push] at q; exact q)
    exact ⟨rfl, hq h' tk' (hp.objs.size + 1) dx ⟨old, Nat.le_succ _, ⟨_, _, hx, rfl, rfl, rfl, rfl⟩, Nat.le_trans (Nat.le_trans (Nat.le_succ _) (Nat.le_succ _)) z, dne, hns⟩⟩
end
end ErrX
end PySem
namespace L2
open PySem PySem.Spec PyProof.Rows
theorem relO_one {v : V} {v' : Value} (r : RelV v v') (x f : Str) : RelO (List.lookup f [(x, v)]) (if f = x then some v' else none) := by
  by_cases hw : f = x
  · subst hw
    rw [if_pos rfl]
    have q : List.lookup f [(f, v)] = some v := by simp [List.lookup]
    rw [q]
    exact r
  · rw [if_neg hw]
    have qw : (f == x) = false := by simpa using hw
    have q2 : List.lookup f [(x, v)] = none := by simp [List.lookup, qw]
    rw [q2]
    trivial
def tMkErr (C : Addr) (f : Str) (ta : TA) : St → Hp → XK → Prop := fun σ H Q => ta σ H fun vs H1 => ∃ v, vs = [v] ∧ ∀ d, H1 d = none → Q (.ref C) (some d) (upd H1 d (.xd [(f, v)]))
section
variable {X : Cx} {C : Addr} {x f nm : Str}
theorem pmk_err {a : Expr} {ta : TA} {p pos : Pos} {k : Nat} (T : PySem.ErrX.ErrTxt X.prog X.K C x f) (hm : X.mg nm = some (.ref C)) (hsu : X.mg "super" = none) (hr : Room k X.A) (ha : PA X [a] ta) (hg : Gl X nm := by rfl) (hdb : (nm == ("__debug__" : Str)) = false := by decide)
    (he : starEach (a :: []) X.env = (false, eval a X.env) :: starEach [] X.env := by rfl) (hpl : (backTo pos (starEach [] X.env)).any (·.1) = false := by rfl) :
    PMk X (.Call (.Name nm p) [a] [] pos) (tMkErr C f ta) := by
  intro pins s σ H Q I h
  refine wpAny_Call_Name_kw (ld_glob I hg hm ?_ hdb)
  refine PySem.W.callWith_K (h₀ := X.base) I.ok.mod.kin T.kC (thn (ha.run pos pins s σ H _ I h) fun us s1 hh => ?_) he hpl
  obtain ⟨vs, H1, I1, r1, v, ev, q1⟩ := hh
  subst ev
  refine ⟨I1.kIn, ?_⟩
  cases r1 with
  | cons rv rn =>
    rename_i v' us'
    cases rn
    show wpAny _ _ (call (.ref C) [v']) _ _ _
    have hlim := I1.nolimit
    have hG := I1.mod.glob.keeps I1.bk
    obtain ⟨mb, hb1, hb2⟩ := I1.mod.blt
    have hB := hb1.keeps I1.bk
    obtain ⟨hp, g, dr, tk, os⟩ := s1
    refine wpAny_call (PySem.ErrX.err_made T I1.kIn hG hsu hB ((hb2 "super" (by decide)).trans (by decide +kernel)) hlim (by have := hr.dp; omega) fun h' tk' e d M => ?_)
    show MkP X pins σ Q (.ref e) ⟨h', g, dr, tk', os⟩
    obtain ⟨oe, fv, hoe, hc, hd, hdat, h1⟩ := M.obj
    have hns := M.ns
    obtain ⟨G', g1, g2⟩ := restrict h' fun b => decide (b ≠ e)
    have gk : ∀ b, b ≠ e → G'.get? b = h'.get? b := fun b hb => g1 b (decide_eq_true hb)
    have ge : G'.get? e = none := g2 e (by simp)
    have old : ∀ b o, hp.get? b = some o → G'.get? b = some o := fun b o q => (gk b (Nat.ne_of_lt (Nat.lt_of_lt_of_le (Heap.lt_size q) M.new))).trans (M.keep b o q)
    have ob : ObjOk X.prog X.w (upd H1 d (.xd [(f, v)])) G' d (.xd [(f, v)]) :=
      ⟨_, hns.at (fun o q => (gk d M.dne).trans q), fun y => relO_one rv f y⟩
    have J : Inv X pins σ (upd H1 d (.xd [(f, v)])) ⟨G', g, dr, tk', os⟩ := I1.laid (t' := tk') old M.dbig ob
    refine ⟨e, oe, fv, ⟨G', g, dr, tk', os⟩, _, .ref C, some d, rfl, J, fun b o q => ?_, ge, hoe, ⟨hc, hd⟩, hdat, h1, ?_, rfl, I1.bare, raises_own T.exC T.tyC, q1 d (I1.hok.fresh M.dbig)⟩
    · by_cases hb : b = e
      · have q' : G'.get? b = some o := q
        rw [hb, ge] at q'; cases q'
      · exact (gk b hb).symm.trans q
    · rw [upd_ne (Ne.symm M.dne)]
      exact I1.hok.fresh M.new
def tRaiseErr (C : Addr) (f : Str) (W : WX) (ta : TA) : TS := fun _ σ H => tMkErr C f ta σ H fun cls d H' => W cls d σ H'
theorem ps_raiseErr {a : Expr} {ta : TA} {W : WX} {p pos pos2 : Pos} {k : Nat} (hc : X.calm = true) (T : PySem.ErrX.ErrTxt X.prog X.K C x f) (hm : X.mg nm = some (.ref C)) (hsu : X.mg "super" = none) (hr : Room k X.A) (tk : Takes X W) (ha : PA X [a] ta) (hg : Gl X nm := by rfl) (hdb : (nm == ("__debug__" : Str)) = false := by decide)
    (he : starEach (a :: []) X.env = (false, eval a X.env) :: starEach [] X.env := by rfl) (hpl : (backTo pos (starEach [] X.env)).any (·.1) = false := by rfl) :
    PS X (.Raise (some (.Call (.Name nm p) [a] [] pos)) none pos2) (tRaiseErr C f W ta) := ps_raise hc tk (pmk_err T hm hsu hr ha hg hdb he hpl)
theorem errXf {P : Program} {K : PySem.W.Frag} (T : PySem.ErrX.ErrTxt P K C x f) : XfC K C := ⟨T.ga, T.gg, T.exC, T.hdC⟩
end
end L2
namespace PySem.W
open PySem PySem.Spec PySem.Calls PyProof.Rows
section
variable {prog : Program} {w : World} {A : Around} {E : Value → Shared → Prop} {s : Shared} {K : Frag} {x D : Addr} {ox : Obj} {od : Option Obj}
end
end PySem.W
namespace L2
open PySem PySem.Spec PyProof.Rows
def rIsErr (K : PySem.W.Frag) (a : Addr) (cls : Value) (d : Option Addr) : List V → Hp → VK → Prop := fun xs H Q => ∃ (c : V) (cv : Value) (b : Bool) (D : Addr), xs = [.ref a, c] ∧ cls = .ref D ∧ ExcC K D ∧ (d = none ∨ ∃ (dd : Addr) (fs : List (Str × V)), d = some dd ∧ H dd = some (.xd fs)) ∧
  (∀ u, RelV c u → u = cv) ∧ PySem.W.kitOne K (.ref D) cv = some b ∧ Q (.bl b) H
theorem call_isErr {X : Cx} {a : Addr} {oe : Obj} {cls : Value} {d : Option Addr} {pn : List (Addr × Obj)} (hz : Zc cls d oe) (hf : ∃ vs, oe.data = .fields vs) : CallR (X.suite a ((a, oe) :: pn)) (.builtin "isinstance") (rIsErr X.K a cls d) := by
  intro pins s σ H xs us Q I r h
  obtain ⟨c, cv, b, D, rfl, rfl, C, hdd, hcv, e, q⟩ := h
  cases r with
  | cons rx rr =>
    cases rr with
    | cons rt rr =>
      cases rr
      cases rx
      have ec := hcv _ rt
      subst ec
      obtain ⟨hget, _⟩ := I.pin (a, oe) (List.mem_append.mpr (.inl List.mem_cons_self))
      obtain ⟨vs, hv⟩ := hf
      have hcl : (PySem.W.clsIn X.K D).isSome = true := by
        obtain ⟨cd, hc, _⟩ := PySem.W.any_some C.hd
        rw [hc]
        rfl
      rcases hdd with rfl | ⟨dd, fs, rfl, hd⟩
      · have J : PySem.W.InstAt s.heap a oe D none := ⟨hget, hz.1, by unfold PySem.W.notCls; rw [hv] <;> rfl, by rw [hz.2]; exact trivial⟩
        exact PySem.W.kia_one (PySem.W.kitx_exc hcl C.hg C.hk C.hs C.ha C.hn C.ht C.hm) I.kIn J e (fun z => nomatch z) fun tk => ⟨.bl b, H, I.kept (t' := tk) fun _ _ z => z, rfl, q⟩
      have hx : ObjOk X.prog X.w H s.heap dd (.xd fs) := I.hok dd _ hd
      obtain ⟨mA, hns, _⟩ := hx
      obtain ⟨od, ho, _⟩ := lookIn_ns hns
      have J : PySem.W.InstAt s.heap a oe D (some od) := ⟨hget, hz.1, by unfold PySem.W.notCls; rw [hv] <;> rfl, by rw [hz.2]; exact ho⟩
      exact PySem.W.kia_one (PySem.W.kitx_exc hcl C.hg C.hk C.hs C.ha C.hn C.ht C.hm) I.kIn J e (fun z => nomatch z) fun tk => ⟨.bl b, H, I.kept (t' := tk) fun _ _ z => z, rfl, q⟩
def excB (K : PySem.W.Frag) (D : Addr) : Bool := decide (PySem.W.findIn K (.ref D) "__getattribute__" = some (some (.builtin "BaseException.__getattribute__"))) && (decide (PySem.W.findIn K (.ref D) "__getattr__" = some none) && (decide (PySem.W.subIn K (.ref D) (.type "BaseException") = some true) &&
  (PySem.W.hasDictIn K D && (decide (PySem.W.findIn K (.ref D) "__class__" = some (some (.builtin "object.__class__"))) && (decide (PySem.W.specialIn K (.builtin "object.__class__") "__get__" = some (some (.builtin "getset_descriptor.__get__"))) && (decide (PySem.W.takesIn K (.builtin "object.__class__") = some true) && decide (PySem.W.mroIn K D (.type "object") = some true)))))))
theorem excB_ok {K : PySem.W.Frag} {D : Addr} (h : excB K D = true) : ExcC K D := by
  unfold excB at h
  simp only [Bool.and_eq_true, decide_eq_true_eq] at h
  obtain ⟨h1, h2, h3, h4, h5, h6, h7, h8⟩ := h
  exact ⟨h1, h2, h3, h4, h5, h6, h7, h8⟩
end L2
namespace Hd
open PySem PySem.Spec PyProof.Rows L2 He
abbrev FnE : Type := Option (Str × Str × Arguments × FuncBody × Scope × Addr × List Str × Addr)
def fnE (K : PySem.W.Frag) (p : Str × Option Str) : FnE := match K.lookup (fAd K p) with
  | some ⟨_, _, .func fd, _⟩ => some (fd.name, fd.qualname, fd.params, fd.body, fd.scope, fd.globals, fd.closure.map (·.1), fd.builtins)
  | _ => none
structure ErD where
  cls : Str
  qual : Str
  st : Stmt
def ErD.val (d : ErD) : FnE := some ("__init__", d.qual, defArgs d.st, .stmts (defBody d.st), defScope d.st, mainGlobals, ["__class__"], builtinsNs)
def clsB (K : PySem.W.Frag) (C : Addr) : Bool := match K.lookup C with
  | some ⟨.type "type", _, .cls cd, sl⟩ => (match cd.mro, sl.toList with
    | .ref C' :: bm, [_, _, _, _, some (.builtin n), _] => C' == C && (n == "ValueError.__new__" && (!cd.hasDel && (cd.hasDict && PySem.HandSPX.refsVE bm)))
    | _, _ => false)
  | _ => false
theorem clsB_ok {K : PySem.W.Frag} {C : Addr} (h : clsB K C = true) : ∃ nm q N bs bm sn sub ab col dd k0 k1 k2 k3 k5, K.lookup C = some (excClassObj nm q C N bs bm true sn sub ab col dd k0 k1 k2 k3 k5 "ValueError.__new__") ∧ PySem.HandSPX.refsVE bm = true := by
  unfold clsB at h
  split at h
  · rename_i dd cd sl ho
    split at h
    · rename_i C' bm k0 k1 k2 k3 n k5 hm hs
      simp only [Bool.and_eq_true, beq_iff_eq, Bool.not_eq_true'] at h
      obtain ⟨rfl, rfl, hdel, hdi, hbm⟩ := h
      obtain ⟨nm, bs, mro, ns, qn, hd, sn, sub, ab, col, del⟩ := cd
      dsimp only at hm hdel hdi
      subst hm hdel hdi
      have hsl : sl = #[k0, k1, k2, k3, some (.builtin "ValueError.__new__"), k5] := by
        obtain ⟨l⟩ := sl
        simp only at hs
        rw [hs]
      subst hsl
      exact ⟨nm, qn, ns, bs, bm, sn, sub, ab, col, dd, k0, k1, k2, k3, k5, ho, hbm⟩
    · cases h
  · cases h
def alongB (K : PySem.W.Frag) (C : Addr) : Bool := match PySem.W.clsIn K C with
  | some cd => decide (PySem.W.alongIn K "__init__" ((cd.mro.dropWhile (· != .ref C)).drop 1) = some (some (.builtin "ValueError.__init__")))
  | none => false
theorem alongB_ok {K : PySem.W.Frag} {C : Addr} (h : alongB K C = true) : ∃ cd, PySem.W.clsIn K C = some cd ∧ PySem.W.alongIn K "__init__" ((cd.mro.dropWhile (· != .ref C)).drop 1) = some (some (.builtin "ValueError.__init__")) := by
  unfold alongB at h
  split at h
  · rename_i cd hc
    exact ⟨cd, hc, of_decide_eq_true h⟩
  · cases h
def initB (P : Program) (K : PySem.W.Frag) (fI C : Addr) (qual : Str) : Bool := match K.lookup fI with
  | some ⟨_, _, .func fd, _⟩ => (match fd.defaults, fd.code, fd.closure with
    | .none, .ref cda, [(_, cc)] => PySem.W.codeIn K (.ref cda) qual && ((match K.lookup cda with
      | some ⟨_, _, .fields vs, _⟩ => (match (vs[2]? : Option Value) with
        | some (.str file _) => ((P.main.file : Str) == file)
        | _ => false)
      | _ => false) && (match K.lookup cc with
      | some ⟨_, _, .cell (some (.ref C')), _⟩ => C' == C
      | _ => false))
    | _, _, _ => false)
  | _ => false
def errB (P : Program) (K : PySem.W.Frag) (c f qual : Str) : Bool :=
  clsB K (ga K c) && (alongB K (ga K c) && (decide (PySem.W.nsIn K cStatics "thirdparty.any" = some none) && (decide (PySem.W.mroIn K (ga K c) (.ref (ga K c)) = some true) && (decide (PySem.W.subIn K (.ref (ga K c)) (.type "ValueError") = some true) &&
  (eqO (PySem.W.findIn K (.ref (ga K c)) "__setattr__") (some (some (.builtin "object.__setattr__"))) && (eqO (PySem.W.findIn K (.ref (ga K c)) "__getattribute__") (some (some (.builtin "BaseException.__getattribute__"))) &&
  (eqO (PySem.W.findIn K (.ref (ga K c)) "__getattr__") (some none) && (eqO (PySem.W.findIn K (.ref (ga K c)) f) (some none) && (PySem.W.keepIn K (.ref (ga K c)) && (decide (PySem.W.subIn K (.ref (ga K c)) (.type "BaseException") = some true) &&
  (decide (PySem.W.typeIn K (.ref (ga K c)) = some (.type "type")) && (PySem.W.hasDictIn K (ga K c) && (eqO (PySem.W.findIn K (.ref (ga K c)) "__init__") (some (some (.ref (ma K (ga K c) "__init__")))) &&
  (decide (PySem.W.typeIn K (.ref (ma K (ga K c) "__init__")) = some (.type "function")) && initB P K (ma K (ga K c) "__init__") (ga K c) qual))))))))))))))
theorem err_mk {P : Program} {K : PySem.W.Frag} {c f x qual msg : Str} {st : Stmt} {p1 p2 q1 q2 q3 q4 q5 q6 q7 q8 q9 q10 : Pos} (h : errB P K c f qual = true) (e : fnE K (c, some "__init__") = (ErD.mk c qual st).val)
    (hA : defArgs st = PySem.ErrX.iA x p1 p2) (hB : defBody st = PySem.ErrX.iB x f msg q1 q2 q3 q4 q5 q6 q7 q8 q9 q10) (hS : defScope st = PySem.ErrX.iS x) (hl : (q3.endLine == q5.line) = true)
    (top : (P.main.scope.names.lookup ("super" : Str)).isSome = false) (xs : (x == ("self" : Str)) = false) (xc : (("__class__" : Str) == x) = false) (xu : (("super" : Str) == x) = false) (xd : (x == ("__debug__" : Str)) = false)
    (bnd : ∀ (nm qual : Str) (Bd : List Stmt) (kV doc pm : Value) (an : Option Addr) (cdv ct : Value) (cc : Addr) (p1 p2 : Pos) (u v : Value), bindArgs (PySem.W.ksFn nm qual (PySem.ErrX.iA x p1 p2) Bd (PySem.ErrX.iS x) .none kV doc pm an cdv ct cc) ⟨[u, v], []⟩ = pure [(("self" : Str), u), (x, v)]) :
    PySem.ErrX.ErrTxt P K (ga K c) x f := by
  unfold errB at h
  obtain ⟨h1, h⟩ := ba h
  obtain ⟨h2, h⟩ := ba h
  obtain ⟨h3, h⟩ := ba h
  obtain ⟨h4, h⟩ := ba h
  obtain ⟨h5, h⟩ := ba h
  obtain ⟨h6, h⟩ := ba h
  obtain ⟨h7, h⟩ := ba h
  obtain ⟨h8, h⟩ := ba h
  obtain ⟨h9, h⟩ := ba h
  obtain ⟨h10, h⟩ := ba h
  obtain ⟨h11, h⟩ := ba h
  obtain ⟨h12, h⟩ := ba h
  obtain ⟨h13, h⟩ := ba h
  obtain ⟨h14, h⟩ := ba h
  obtain ⟨h15, h16⟩ := ba h
  refine ⟨clsB_ok h1, alongB_ok h2, of_decide_eq_true h3, of_decide_eq_true h4, of_decide_eq_true h5, eqO_ok h6, eqO_ok h7, eqO_ok h8, eqO_ok h9, h10, of_decide_eq_true h11, of_decide_eq_true h12, h13,
    ⟨ma K (ga K c) "__init__", eqO_ok h14, of_decide_eq_true h15, ?_⟩, top, xs, xc, xu, xd, bnd⟩
  unfold initB at h16
  have e2 : fnE K (c, some "__init__") = (match K.lookup (ma K (ga K c) "__init__") with
    | some ⟨_, _, .func fd, _⟩ => some (fd.name, fd.qualname, fd.params, fd.body, fd.scope, fd.globals, fd.closure.map (·.1), fd.builtins)
    | _ => none) := rfl
  rw [e2] at e
  cases q : K.lookup (ma K (ga K c) "__init__") with
  | none =>
    rw [q] at h16
    cases h16
  | some o =>
    obtain ⟨oc, od, dt, osl⟩ := o
    rw [q] at h16 e
    cases dt with
    | func fd =>
      obtain ⟨n1, n2, n3, n4, n5, n6, n7, n8, n9, n10, n11, n12, n13, n14, n15⟩ := fd
      have e3 : (some (n1, n2, n3, n4, n5, n6, n7.map (·.1), n15) : FnE) = (some (("__init__" : Str), qual, defArgs st, FuncBody.stmts (defBody st), defScope st, mainGlobals, [("__class__" : Str)], builtinsNs) : FnE) := e
      simp only [Option.some.injEq, Prod.mk.injEq] at e3
      obtain ⟨e1, e2, e3, e4, e5, e6, e7, e8⟩ := e3
      subst e1 e2 e3 e4 e5 e6 e8
      dsimp only at h16
      split at h16
      · rename_i cda nn cc
        obtain ⟨k1, k2⟩ := ba h16
        obtain ⟨k2, k3⟩ := ba k2
        have en : nn = ("__class__" : Str) := by simpa using e7
        subst en
        refine ⟨oc, od, n10, n11, n9, n12, cda, cc, n14, osl, "__init__", n2, msg, p1, p2, q1, q2, q3, q4, q5, q6, q7, q8, q9, q10, hl, ?_, k1, ?_, ?_⟩
        · rw [← hA, ← hB, ← hS]
        · split at k2
          · rename_i ccl cdd vs ccs hc
            split at k2
            · rename_i file tf hv
              exact ⟨ccl, cdd, vs, ccs, file, tf, hc, hv, k2⟩
            · cases k2
          · cases k2
        · split at k3
          · rename_i cl cld C' csl hc
            have ec : C' = ga K c := by simpa using k3
            subst ec
            exact ⟨cl, cld, csl, hc⟩
          · cases k3
      · cases h16
    | _ => cases h16
def asP (g : Addr → Option Obj) (n : Nat) : List Addr := List.range (n * 400)
abbrev AlP : Type := Bool × List FnW × List FnE
def obsP (fn : List He5.DefA) (er : List ErD) (ex : PySem.W.Frag → Bool) (K : PySem.W.Frag) : AlP := (ex K && fn.all fun d => d.ok K, fn.map fun d => He5.fnA K (d.at_ K), er.map fun d => fnE K (d.cls, some "__init__"))
def valP (fn : List He5.DefA) (er : List ErD) : AlP := (true, fn.map He5.DefA.val, er.map ErD.val)
def SaysP (fn : List He5.DefA) (er : List ErD) (ex : PySem.W.Frag → Bool) (K : PySem.W.Frag) : Prop := obsP fn er ex K = valP fn er
def obsPG (n : Nat) (fn : List He5.DefA) (er : List ErD) (ex : PySem.W.Frag → Bool) (g : Addr → Option Obj) : AlP := obsP fn er ex (frG g (asP g n))
def hookP (n : Nat) (fn : List He5.DefA) (er : List ErD) (ex : PySem.W.Frag → Bool) : PySem.W.Hook where
  α := AlP
  obs := fun s => obsPG n fn er ex s.heap.get?
  val := fun _ => valP fn er
  says := fun _ h => ∃ K : PySem.W.Frag, K.In h ∧ SaysP fn er ex K
  of := fun _ _ e => ⟨_, frG_in, e⟩
  keeps := fun _ _ _ ⟨K, hK, c⟩ k => ⟨K, PySem.W.Frag.In.keeps hK k, c⟩
theorem obsPG_eq {n : Nat} {fn : List He5.DefA} {er : List ErD} {ex : PySem.W.Frag → Bool} {g : Addr → Option Obj} {s : Shared} (h : ∀ a, g a = s.heap.get? a) : obsPG n fn er ex g = (hookP n fn er ex).obs s := by
  have e : g = s.heap.get? := funext h
  rw [e] <;> rfl
section
variable {fn : List He5.DefA} {er : List ErD} {ex : PySem.W.Frag → Bool} {K : PySem.W.Frag}
theorem SaysP.more (c : SaysP fn er ex K) : ex K = true := (ba (show (ex K && fn.all fun d => d.ok K) = true from congrArg (fun z : AlP => z.1) c)).1
theorem SaysP.def_ (c : SaysP fn er ex K) (i : Nat) {d : He5.DefA} (h : fn[i]? = some d := by rfl) : ∃ fd, FunD K d.name d.qual d.params d.body d.scope (d.dvs K) (d.kws K) (d.at_ K) fd := by
  have c2 := (ba (show (ex K && fn.all fun d => d.ok K) = true from congrArg (fun z : AlP => z.1) c)).2
  have e : fn.map (fun d => He5.fnA K (d.at_ K)) = fn.map He5.DefA.val := congrArg (fun z : AlP => z.2.1) c
  have e2 : (fn.map fun d => He5.fnA K (d.at_ K))[i]? = (fn.map He5.DefA.val)[i]? := by rw [e]
  rw [List.getElem?_map, List.getElem?_map, h] at e2
  exact He5.DefA.funD (Option.some.inj e2) (List.all_eq_true.mp c2 d (List.mem_of_getElem? h))
theorem SaysP.err_ (c : SaysP fn er ex K) (i : Nat) {d : ErD} (h : er[i]? = some d := by rfl) : fnE K (d.cls, some "__init__") = d.val := by
  have e : er.map (fun d => fnE K (d.cls, some "__init__")) = er.map ErD.val := congrArg (fun z : AlP => z.2.2) c
  have e2 : (er.map fun d => fnE K (d.cls, some "__init__"))[i]? = (er.map ErD.val)[i]? := by rw [e]
  rw [List.getElem?_map, List.getElem?_map, h] at e2
  exact Option.some.inj e2
end
def tkOf : Option Value → Tok
  | some (.int _ t) => t
  | some (.str _ t) => t
  | _ => 0
theorem int_tk {o : Option Value} {i : Int} (h : ∃ t, o = some (.int i t)) : o = some (.int i (tkOf o)) := by
  obtain ⟨t, e⟩ := h
  rw [e] <;> rfl
theorem str_tk {o : Option Value} {z : Str} (h : ∃ t, o = some (.str z t)) : o = some (.str z (tkOf o)) := by
  obtain ⟨t, e⟩ := h
  rw [e] <;> rfl
end Hd
namespace L2
open PySem PySem.Spec PyProof.Rows
theorem fn_calm {P : Program} {w : World} {K : PySem.W.Frag} {mg : Str → Option Value} {base : Heap} {k : Nat} {f : Addr} {fd : FuncData} {ps : List Str} {sp : Sp} (F : FnOk P w K mg base (L2.CX P w) k f fd ps sp)
    (hs : ∀ vs H Q E, sp vs H Q E → sp vs H Q (fun _ _ _ => False)) : FnOk P w K mg base CX0 k f fd ps sp :=
  ⟨F.len, fun A outer s H args us vs Q E hr he hb hv h => codeAny_mono (F.run A outer s H args us vs Q _ hr he hb hv (hs _ _ _ _ h)) (fun r s' q => by
    cases r with
    | error e =>
      obtain ⟨_, _, _, _, _, _, _, _, _, _, _, _, z⟩ := q
      exact z.elim
    | ok f => cases f <;> exact q)⟩
end L2
namespace Hd
open PySem PySem.Spec PyProof.Rows L2 He
end Hd
namespace Hd
open PySem PySem.Spec PyProof.Rows L2
end Hd
namespace Hd
open PySem PySem.W PySem.Calls PyProof.Rows
section
variable {r : OpenRow} {q : Program} {H : Hook} {ob : SharedT → H.α} {M : Nat} {loose : List PySem.Str} {w : World}
abbrev runL (r : OpenRow) (M : Nat) (w : World) : Prop := ∀ os : OsState, (HandSHeadRun.endF (HandSHeadRun.stepQ (HandSHeadRun.denQ HandSHeadRun.tabQ) r.prog w) M r.prog w os).map (fun s => HandSHeadRun.looksF r.prog (boot_heap w.params) s.abs) = some true
abbrev runS (r : OpenRow) (q : Program) (M : Nat) (loose : List PySem.Str) (w : World) : Prop := ∀ os : OsState, (HandSHeadRun.endF (HandSHeadRun.stepQ (HandSHeadRun.denQ HandSHeadRun.tabQ) r.prog w) M r.prog w os).map (fun s => HandSHeadRun.seenQ q loose (importedModules r.prog.main.body) (fun s => xlAt q [] s && recOk r.toRowW.records s) s.abs) = some (openGood q loose)
abbrev runO (r : OpenRow) (H : Hook) (ob : SharedT → H.α) (M : Nat) (w : World) : Prop := ∀ os : OsState, (HandSHeadRun.endF (HandSHeadRun.stepQ (HandSHeadRun.denQ HandSHeadRun.tabQ) r.prog w) M r.prog w os).map (fun s => ob s) = some (H.val w)
theorem run_of (a : runL r M w) (b : runS r q M loose w) (c : runO r H ob M w) : HandSHeadRun.RunEq r q H ob M loose w := fun os => by
  obtain ⟨s, hs, ha⟩ := Option.map_eq_some_iff.mp (a os)
  have hb := b os
  have hc := c os
  rw [hs] at hb hc ⊢
  have hb' := Option.some.inj hb
  have hc' := Option.some.inj hc
  exact congrArg some (congr (congrArg Prod.mk ha) (congr (congrArg Prod.mk hb') hc'))
end
end Hd
namespace SupX
open PySem PySem.Spec PyProof.Rows L2 PySem.Calls
end SupX
namespace Hd
open PySem PySem.Spec PyProof.Rows L2
end Hd
namespace AndX
open PySem PySem.Spec PyProof.Rows L2 PySem.Calls
def missMsg (n : Str) (name : Str) : Str := (s!"type object '{n.toString}' has no attribute '" : Str) ++ name ++ "'"
end AndX
namespace IdC
open PySem PySem.Spec PyProof.Rows L2
end IdC
namespace BareX
open PySem PySem.Spec PyProof.Rows L2
end BareX
namespace Cl
open PySem PySem.Spec PyProof.Rows L2
section
variable {X : Cx} {CX : CXT} {k : Nat} {f C g : Addr} {sp : Sp} {E : L2.St → XK} {x m : Str} {p pos apos : Pos} {e o fe : Expr} {es : List Expr} {ta tf : TE} {t : TA}
theorem runS {pins : List (Addr × Obj)} {σ : L2.St} {H : Hp} {s : Shared} {Q : VK} {us : List Value} {vs : List V} (F : FnR X.prog X.w X.K X.mg X.base CX k f sp) (hr : Room k X.A) (hx : PassesAt CX X σ (E σ)) (I : Inv X pins σ H s) (r : Vals vs us) (h : sp vs H Q (E σ)) :
    codeAny (model X.prog X.w) X.A (.call (.ref f) ⟨us, []⟩) (fun r s' => match r with | .ok (.ret v) => EP X pins σ Q v s' | .ok _ => False | .error e => X.xe e s') s :=
  codeAny_mono (F X.A X.stack s H us vs Q (E σ) hr I.env0 r h) fun r s' hq => by
    cases r with
    | error er => exact hx pins H s er s' I hq
    | ok fl => cases fl <;> first | exact I.after hq | exact False.elim hq
def tF (sp : Sp) (E : L2.St → XK) (t : TA) : TE := fun σ H Q => t σ H fun vs H1 => sp vs H1 Q (E σ)
theorem pe_f (F : FnR X.prog X.w X.K X.mg X.base CX k f sp) (hr : Room k X.A) (hg : Gl X x) (hm : X.mg x = some (.ref f)) (hk : PySem.W.keepIn X.K (.ref f) = true) (hx : ∀ σ, PassesAt CX X σ (E σ)) (ha : PA X (e :: es) t)
    (hdb : (x == ("__debug__" : Str)) = false := by decide) (he : starEach (e :: es) X.env = (false, eval e X.env) :: starEach es X.env := by rfl) (hpl : (backTo pos (starEach es X.env)).any (·.1) = false := by rfl) :
    PE X (.Call (.Name x p) (e :: es) [] pos) (tF sp E t) :=
  ⟨fun pins s σ H Q I h => wpAny_Call_Name_kw (ld_glob I hg hm (PySem.W.callWith_K (h₀ := X.base) I.ok.mod.kin hk (thn (ha.run pos pins s σ H _ I h) fun us s1 ⟨vs, H1, I1, r, q⟩ => ⟨I1.kIn, wpAny_call (runS F hr (hx σ) I1 r q)⟩) he hpl) hdb)⟩
def tM (C : Addr) (m : Str) (sp : Sp) (E : L2.St → XK) (ta : TE) (t : TA) : TE := fun σ H Q => ta σ H fun x H1 => ∃ a dx fs, x = .ref a ∧ H1 a = some (.ins C dx fs) ∧ fs.lookup m = none ∧ t σ H1 fun vs H2 => sp (.ref a :: vs) H2 Q (E σ)
theorem pe_m {pl : Sem Bool} (he : PE X o ta) (c : Cls X.K C) (hm : Meth X.K C m f) (F : FnR X.prog X.w X.K X.mg X.base CX k f sp) (hr : Room k X.A) (hx : ∀ σ, PassesAt CX X σ (E σ)) (ha : PA X (e :: es) t)
    (hst : starEach (e :: es) X.env = (false, eval e X.env) :: starEach es X.env := by rfl) (hpl : (backTo pos (starEach es X.env)).any (·.1) = false := by rfl)
    (ht : eval (.Call (.Attribute o m apos) (e :: es) [] pos) X.env = (do
      let ov ← eval o X.env
      standAt apos.atName
      let (f, first) ← holding [ov] (getMethod ov m pl)
      callWith pos f first (backTo pos (starEach (e :: es) X.env)) (backToKw pos (keywordEach [] X.env))) := by rfl) :
    PE X (.Call (.Attribute o m apos) (e :: es) [] pos) (tM C m sp E ta t) := by
  refine ⟨fun pins s σ H Q I h => PySem.W.methodCall_KW (pl := pl) (thn (he.run pins s σ H _ I h) fun u s1 ⟨x, H1, I1, rx, a, dx, fs, ex, ea, l, q⟩ => ?_) ht⟩
  subst ex
  obtain rfl : u = Value.ref a := rx
  exact getmeth_ok I1 ea c hm l (PySem.W.callWith_K (first := [.ref a]) (h₀ := X.base) I.ok.mod.kin hm.kp (thn (ha.run pos pins s1 σ H1 _ I1 q) fun us s2 ⟨vs, H2, I2, r, q2⟩ => ⟨I2.kIn, wpAny_call (runS (us := .ref a :: us) (vs := .ref a :: vs) F hr (hx σ) I2 (.cons rfl r) q2)⟩) hst hpl)
theorem pe_m0 {pl : Sem Bool} (he : PE X o ta) (c : Cls X.K C) (hm : Meth X.K C m f) (F : FnR X.prog X.w X.K X.mg X.base CX k f sp) (hr : Room k X.A) (hx : ∀ σ, PassesAt CX X σ (E σ))
    (ht : eval (.Call (.Attribute o m apos) [] [] pos) X.env = (do
      let ov ← eval o X.env
      standAt apos.atName
      let (f, first) ← holding [ov] (getMethod ov m pl)
      callWith pos f first (backTo pos (starEach [] X.env)) (backToKw pos (keywordEach [] X.env))) := by rfl) :
    PE X (.Call (.Attribute o m apos) [] [] pos) (tM C m sp E ta tNil) := by
  refine ⟨fun pins s σ H Q I h => PySem.W.methodCall_KW (pl := pl) (thn (he.run pins s σ H _ I h) fun u s1 ⟨x, H1, I1, rx, a, dx, fs, ex, ea, l, q⟩ => ?_) ht⟩
  subst ex
  obtain rfl : u = Value.ref a := rx
  exact getmeth_ok I1 ea c hm l (PySem.W.callWith_K0 (first := [.ref a]) I1.kIn hm.kp (wpAny_call (runS (us := [.ref a]) (vs := [.ref a]) F hr (hx σ) I1 (.cons rfl .nil) q)))
def tMk (C : Addr) (sp : Sp) (E : L2.St → XK) (t : TA) : TE := fun σ H Q => t σ H fun vs H1 => ∀ x dx, H1 x = none → H1 dx = none → dx ≠ x → sp (.ref x :: vs) (upd (upd H1 dx (.own x)) x (.ins C dx [])) (fun v H2 => v = .non ∧ Q (.ref x) H2) (E σ)
theorem runMk {pins : List (Addr × Obj)} {σ : L2.St} {H : Hp} {s : Shared} {Q : VK} {us : List Value} {vs : List V} (M : Mk X.K C f) (F : FnR X.prog X.w X.K X.mg X.base CX k f sp) (hr : Room (k + 1) X.A) (hx : PassesAt CX X σ (E σ)) (I : Inv X pins σ H s) (r : Vals vs us)
    (h : ∀ x dx, H x = none → H dx = none → dx ≠ x → sp (.ref x :: vs) (upd (upd H dx (.own x)) x (.ins C dx [])) (fun v H2 => v = .non ∧ Q (.ref x) H2) (E σ)) :
    wpAny (model X.prog X.w) X.A (call (.ref C) us) (EP X pins σ Q) X.xe s := by
  have hq := h (s.heap.objs.size + 1) s.heap.objs.size (I.hok.fresh (Nat.le_succ _)) (I.hok.fresh (Nat.le_refl _)) (Nat.ne_of_lt (Nat.lt_succ_self _))
  have I2 := Inv.made (C := C) I
  have r2 : Vals (V.ref (s.heap.objs.size + 1) :: vs) (Value.ref (s.heap.objs.size + 1) :: us) := .cons rfl r
  refine wpAny_call (make_map (f := f) I.kIn M.makes M.init (beq_iff_eq.mp M.fn) (codeAny_mono (F _ X.stack _ _ (Value.ref (s.heap.objs.size + 1) :: us) _ _ (E σ) (hr.make C us []) (I2.env0.make C us []) r2 hq) fun r s' hq' => ?_))
  cases r with
  | error er => exact hx pins _ _ er s' I2 hq'
  | ok fl =>
    cases fl with
    | ret u =>
      obtain ⟨v, H', I3, rv, ev, q3⟩ := I2.after hq'
      subst ev
      exact ⟨rv, ⟨V.ref (s.heap.objs.size + 1), H', I3, rfl, q3⟩⟩
    | _ => exact False.elim hq'
theorem pe_mk0 (M : Mk X.K C f) (F : FnR X.prog X.w X.K X.mg X.base CX k f sp) (hr : Room (k + 1) X.A) (hg : Gl X x) (hm : X.mg x = some (.ref C)) (hx : ∀ σ, PassesAt CX X σ (E σ)) (hdb : (x == ("__debug__" : Str)) = false := by decide) : PE X (.Call (.Name x p) [] [] pos) (tMk C sp E tNil) :=
  ⟨fun pins s σ H Q I h => wpAny_Call_Name_kw (ld_glob I hg hm (PySem.W.callWith_K0 I.kIn M.kp (runMk (us := []) M F hr (hx σ) I .nil h)) hdb)⟩
theorem at_ {W : WX} (tk : Takes X W) (σ : L2.St) : PassesAt (L2.CX X.prog X.w) X σ (WE W σ) := passAt tk σ
end
section
variable {P : Program} {w : World} {K : PySem.W.Frag} {mg : Str → Option Value} {base : Heap} {x qual : Str} {params : Arguments} {body : List Stmt} {scope : Scope} {dvs : List V} {kws : List (Str × V)} {f : Addr} {fd : FuncData}
end
end Cl
namespace Cl
open PySem PySem.Spec PyProof.Rows L2
section
variable {X : Cx} {e o value a : Expr} {ta tv tl : TE} {f : Str} {pos pos' : Pos} {tg : Expr}
theorem ixL (K : PySem.W.Frag) (hK : X.K = K := by rfl) : IxR X (rIxL K) := hK ▸ ix_list
theorem ixT (K : PySem.W.Frag) (hK : X.K = K := by rfl) : IxR X (rIxT K) := hK ▸ ix_tup
theorem slL (K : PySem.W.Frag) (hK : X.K = K := by rfl) : SlR X (rSlL K) := hK ▸ sl_list
def qLen (K : PySem.W.Frag) : List V → Hp → VK → Prop := fun xs H Q => ∃ p ys, xs = [.ref p] ∧ (SqL K H p ys ∨ SqT K H p ys) ∧ Q (.int ys.length) H
theorem len (K : PySem.W.Frag) (hK : X.K = K := by rfl) : CallR X (.builtin "len") (qLen K) := hK ▸ call_len_seq
def qInt : List V → Hp → VK → Prop := fun xs H Q => ∃ i, xs = [.int i] ∧ Q (.int i) H
theorem int1 : CallR X (.type "int") qInt := fun pins s σ H xs us Q I r h => call_int1 pins s σ H xs us Q I r (.inl h)
theorem isi (K : PySem.W.Frag) (hK : X.K = K := by rfl) : CallR X (.builtin "isinstance") (rIsi K) := hK ▸ call_isi
theorem sum (K : PySem.W.Frag) (hc : X.calm = true := by rfl) (hK : X.K = K := by rfl) : CallR X (.builtin "sum") (rSum K) := hK ▸ cr_sum hc
theorem inS (K : PySem.W.Frag) (hK : X.K = K := by rfl) : OpR X (compareOp .In) (rIn K false) := hK ▸ op_in_seq
theorem ninS (K : PySem.W.Frag) (hK : X.K = K := by rfl) : OpR X (compareOp .NotIn) (rIn K true) := hK ▸ op_notIn_seq
theorem eqD (K : PySem.W.Frag) (hu : X.A.units + 64 < cLine) (hK : X.K = K := by rfl) : OpR X (compareOp .Eq) (rEqD K) := hK ▸ op_eqD hu
theorem neD (K : PySem.W.Frag) (hu : X.A.units + 64 < cLine) (hK : X.K = K := by rfl) : OpR X (compareOp .NotEq) (rNeD K) := hK ▸ op_neD hu
theorem fld (K : PySem.W.Frag) (he : PE X e ta) (hb : attributeBase e f X.env (eval e X.env) = eval e X.env := by rfl) (hK : X.K = K := by rfl) : PE X (.Attribute e f pos) (tFld K ta f) := hK ▸ pe_fld he hb
theorem sfld (K : PySem.W.Frag) (ha : PE X o ta) (hv : PE X value tv) (hs : swapsWith value (some (.Attribute o f pos')) pos.line X.env = pure false := by rfl) (hK : X.K = K := by rfl) : PS X (.Assign [.Attribute o f pos'] value pos) (sFld K ta tv f) := hK ▸ ps_fld ha hv hs
theorem piL (K : PySem.W.Frag) {l : Expr} (hl : PE X l tl) (hK : X.K = K := by rfl) : PI X tg l (iList K tl) := hK ▸ pi_list hl
theorem pgT (K : PySem.W.Frag) {es : List Expr} {k : Nat} {t : TGs} {n : Nat} (h : PGs X es t) (hc : X.calm = true := by rfl) (hn : (assignEach es X.env).length = n := by rfl) (hst : (assignEach es X.env).findIdx? (·.1) = none := by rfl) (hK : X.K = K := by rfl) : PG X (.Tuple es k pos) (gTup K n t) := hK ▸ pg_tup hc h hn hst
theorem none_ {P : Program} {w : World} (σ : L2.St) : PassesAt (L2.CX P w) X σ (fun _ _ _ => False) := fun _ _ _ _ _ _ ⟨_, _, _, _, _, _, _, _, _, _, _, _, z⟩ => z.elim
end
end Cl
namespace CoR
open PySem PySem.Spec PyProof.Rows L2
def postX (M : Model) (A : Around) (E : Value → Shared → Prop) (use : Option (Value → Sem Unit)) (Q : Value → Shared → Prop) (acc : Value) (C : Addr) (fr : Option Addr) (r : Result) (s' : Shared) : Prop :=
  match r with
  | .ok f => compPost M A E use Q acc C (.ok f) s'
  | .error x => ∃ m, s'.heap.Ns C m ∧ ∀ h', Heap.SameBut C s'.heap h' → ∀ ce : Env, ce.locals = C → ce.frame = fr → wpAny M A (passOn "comprehension.variables-let-go" x ce : Sem Value) (fun _ _ => False) E { s' with heap := h' }
theorem comprehension_x {M : Model} {A : Around} {E : Value → Shared → Prop} {s : Shared} {env : Env} {e : Expr} {scope : Scope} {pos : Pos} {newAcc first : Sem Value} {g : Comprehension} {gs : List Comprehension} {cl : List (Str × Addr)} {use : Option (Value → Sem Unit)} {Q : Value → Shared → Prop}
    (hcl : clausesOf e = g :: gs) (hs : ∀ x, foldedSetIterable g.iter env x = pure x) (hclos : closureFor scope env = pure cl) (hkind : scope.kind = .function) (hnames : ∀ x ∈ scope.names, x.2 = .local → scope.names.lookup x.1 = some .local)
    (h : wpAny M A first (fun x s1 => wpAny M A (pyIter x) (fun it s2 => wpAny M A newAcc (fun acc s3 => wpAny M A (newFunctionEnv scope env.globals cl [] env.qual none .none (some env)) (fun ce s4 =>
        codeAny M A (.compStart e 0 it acc { ce with scope := relabel scope env }) (postX M A E use Q acc ce.locals ce.frame) s4) E s3) E s2) E s1) E s) :
    wpAny M A (comprehension e scope env pos newAcc false first use) Q E s := by
  unfold comprehension
  rw [hclos, hcl]
  refine wpAny_bind (wpAny_mono h (fun x s1 h1 => ?_) fun _ _ q => q)
  refine wpAny_bind (wpAny_standAt (wpAny_bind (wpAny_of_eq (hs x) ?_)))
  refine wpAny_bind (wpAny_holding (wpAny_mono h1 (fun it s2 h2 => ?_) fun _ _ q => q))
  refine wpAny_standIf (wpAny_bind (wpAny_mono h2 (fun acc s3 h3 => ?_) fun _ _ q => q))
  refine wpAny_bind (wpAny_pure (wpAny_bind (wpAny_mono h3 (fun ce s4 h4 => ?_) fun _ _ q => q)))
  dsimp only
  have loc : ∀ x ∈ (scope.names.filter fun x => (x.2 == .local || x.2 == .cell) && x.1 != (".0" : Str)), x.2 = .local → Env.kindOf { ce with scope := relabel scope env } x.1 = some .local :=
    fun x hx hl => lookup_relabel_local (hnames x (List.mem_filter.mp hx).1 hl)
  have v1 := fun x hx hl => loc x (List.mem_reverse.mp hx) hl
  refine wpAny_holding (wpAny_bind (wpAny_attempt (wpAny_holding (wpAny_run (codeAny_mono h4 fun r s' hr => ?_)))))
  cases r with
  | error x =>
    obtain ⟨m, hn, hr⟩ := hr
    exact wpAny_bind (wpAny_holding (wpAny_comp_letGo (cenv := { ce with scope := relabel scope env }) hkind _ s' m v1 hn fun h' m' _ hs' => wpAny_mono (hr h' hs' _ rfl rfl) (fun _ _ f => f.elim) fun _ _ y => y))
  | ok f =>
    cases use with
    | none =>
      obtain ⟨m, hn, hr⟩ := hr
      exact wpAny_bind (wpAny_holding (wpAny_comp_letGo (cenv := { ce with scope := relabel scope env }) hkind _ s' m v1 hn fun h' m' _ hs' => wpAny_pure (hr h' hs')))
    | some u =>
      refine wpAny_bind (wpAny_rule (wpAny_bind (wpAny_holding (wpAny_mono hr (fun _ s'' hr' => ?_) fun _ _ q => q))))
      obtain ⟨m, hn, hr'⟩ := hr'
      refine wpAny_bind (wpAny_comp_letGo (cenv := { ce with scope := relabel scope env }) hkind _ s'' m (fun x hx hl => ?_) hn fun h' m' _ hs' => wpAny_pure (hr' h' hs'))
      rcases List.mem_append.mp hx with h1 | h1
      · exact v1 x (List.mem_of_mem_drop h1) hl
      · exact v1 x (List.mem_of_mem_take h1) hl
theorem funFrames_but {base h h' : Heap} {C : Addr} (sb : Heap.SameBut C h h') : ∀ {l : List Env}, h.FunFrames base l → C ∉ frs l → h'.FunFrames base l
  | [], _, _ => trivial
  | env :: l, hl, hn => by
    obtain ⟨hk, ⟨L, o, hf, hb, ho, hd⟩, hr⟩ := hl
    have hm : ∀ b, b ∈ frs l → b ∈ frs (env :: l) := fun b hb => by
      obtain ⟨e, he, q⟩ := List.mem_filterMap.mp hb
      exact List.mem_filterMap.mpr ⟨e, List.mem_cons_of_mem _ he, q⟩
    have hL : L ≠ C := fun z => hn (z ▸ List.mem_filterMap.mpr ⟨env, List.mem_cons_self, hf⟩)
    exact ⟨hk, ⟨L, o, hf, hb, (sb.2 L hL).trans ho, hd⟩, funFrames_but sb hr fun z => hn (hm _ z)⟩
section
variable {X : Cx} {W : WX} {u : Value} {s' : Shared}
def HE (X : Cx) (W : WX) (u : Value) (s' : Shared) : Prop :=
  ∃ (a : Addr) (B : Heap) (sI : Shared) (σ : L2.St) (H : Hp) (cls : Value) (d : Option Addr), u = .ref a ∧ Inv X [] σ H sI ∧ (∀ b o, sI.heap.get? b = some o → b ∉ frs X.stack → B.get? b = some o) ∧ sI.heap.UpToSlots s'.heap ∧
    HandSPX.HeldZ B X.stack a (Zc cls d) X.env.locals s'.heap ∧ H a = none ∧ s'.os = sI.os ∧ AllBare s'.gens ∧ W cls d σ H
theorem noted (hs : X.stack = X.env :: X.outer) (hf : X.env.frame = some X.env.locals) {E1 : Value → Shared → Prop} (x : XE X W u s') :
    wpAny (model X.prog X.w) X.A (noteFrame u X.env) (fun _ s2 => HE X W u s2 ∧ s'.heap.UpToSlots s2.heap) E1 s' := by
  obtain ⟨a, B, sI, pins, σ, H, cls, d, rfl, I, nb, up, sky, na, os, ag, w⟩ := x
  have hfr : X.A.frames = some (X.env :: X.outer) := by rw [I.ok.frames, hs]
  have fin : ∀ h1, HandSPX.HeldZ B (X.env :: X.outer) a (Zc cls d) X.env.locals h1 → s'.heap.UpToSlots h1 → HE X W (.ref a) { s' with heap := h1 } ∧ s'.heap.UpToSlots h1 := fun h1 hh u1 =>
    ⟨⟨a, B, sI, σ, H, cls, d, rfl, Inv.unpinned (pins := []) (pl := pins) I, nb, up.trans u1, by rw [hs]; exact hh, na, os, ag, w⟩, u1⟩
  rw [hs] at sky
  rcases sky with ⟨hB, hn, hl, oe, vs, he, hz, hd, h1⟩ | fl | hh
  · exact HandSPX.look_newZ Zc.steady hfr hl hf he hB hn hd h1 hz fin
  · exact HandSPX.looks_onZ Zc.steady hfr hf fl fin
  · exact HandSPX.againZ hf hh.2.2.2 (fin s'.heap hh (Heap.UpToSlots.refl _))
theorem goesOn {W' : WX} {C : Addr} {m : Str → Option Value} {h' : Heap} {ce : Env} (hW : ∀ cls d σ H, W' cls d σ H → W cls d σ H ∧ H C = none) (hx : HE X W' u s') (f : FpOk X [] (fun _ => none) C) (hnf : C ∉ frs X.stack) (hn : s'.heap.Ns C m) (sb : Heap.SameBut C s'.heap h') (hfr : ce.frame = some X.env.locals)
    (tk : Takes X W) : wpAny (model X.prog X.w) X.A (passOn "comprehension.variables-let-go" u ce : Sem Value) (fun _ _ => False) X.xe { s' with heap := h' } := by
  obtain ⟨a, B, sI, σ, H, cls, d, rfl, I, nb, up, hh, na, os, ag, w⟩ := hx
  obtain ⟨w, hHC⟩ := hW _ _ _ _ w
  obtain ⟨oC, es, ep, hoC, hdC, _⟩ := hn
  obtain ⟨B', b1, b2⟩ := restrict B fun b => decide (b ≠ C)
  obtain ⟨G, g1, g2⟩ := restrict sI.heap fun b => decide (b ≠ C)
  have inB : ∀ b o, B'.get? b = some o → b ≠ C ∧ B.get? b = some o := fun b o e => by
    by_cases hb : b = C
    · rw [b2 b (by simp [hb])] at e; cases e
    · rw [b1 b (by simp [hb])] at e; exact ⟨hb, e⟩
  have inG : ∀ b o, G.get? b = some o → b ≠ C ∧ sI.heap.get? b = some o := fun b o e => by
    by_cases hb : b = C
    · rw [g2 b (by simp [hb])] at e; cases e
    · rw [g1 b (by simp [hb])] at e; exact ⟨hb, e⟩
  obtain ⟨st, an, ff, oe, vs, T, oT, ts, he, hz, hd, h1, hnT, hTe, hT, hdT, h3⟩ := hh
  have aC : a ≠ C := fun z => by rw [z, hoC] at he; cases he; rw [hdC] at hd; cases hd
  have tC : T ≠ C := fun z => by rw [z, hoC] at hT; cases hT; rw [hdC] at hdT; cases hdT
  have nB : ∀ b, B.get? b = none → B'.get? b = none := fun b e => by
    cases q : B'.get? b with
    | none => rfl
    | some o => rw [(inB b o q).2] at e; cases e
  have hh' : HandSPX.HeldZ B' X.stack a (Zc cls d) X.env.locals h' := by
    refine ⟨fun b o e => ?_, nB a an, ?_, oe, vs, T, oT, ts, (sb.2 a aC).trans he, hz, hd, h1, nB T hnT, hTe, (sb.2 T tC).trans hT, hdT, h3⟩
    · obtain ⟨q1, q2⟩ := inB b o e
      exact (sb.2 b q1).trans (st b o q2)
    · exact funFrames_none (funFrames_but sb ff hnf) fun L hL => nB L (by
        obtain ⟨e, _⟩ := Heap.FunFrames.mem ff hL
        exact e)
  have IG : Inv X [] σ H { sI with heap := G } := I.turned (t' := sI.toks) (fun b o hb e => by rw [g1 b (by simp [hb])]; exact e) hHC f.2.1 f.2.2.2.1 f.2.2.2.2.1 f.2.2.2.2.2
  have upG : G.UpToSlots h' := fun b o e hno => by
    obtain ⟨q1, q2⟩ := inG b o e
    obtain ⟨sl, q⟩ := up b o q2 hno
    exact ⟨sl, (sb.2 b q1).trans q⟩
  unfold PySem.passOn
  refine wpAny_bind (wpAny_field ((sb.2 a aC).trans he) hd h1 ?_)
  rw [if_neg (show ¬ ((Value.ref T == Value.none) = true) from by simp)]
  refine wpAny_bind ?_
  rw [hfr]
  refine HandSPX.setFlight_onZ hh' fun h2 hh2 up2 => wpAny_throw (tk _ _ ?_)
  exact ⟨a, B', { sI with heap := G }, [], σ, H, cls, d, rfl, IG, fun b o e hb => by
    obtain ⟨q1, q2⟩ := inG b o e
    rw [b1 b (by simp [q1])]
    exact nb b o q2 hb, upG.trans up2, .inr (.inr hh2), na, os, ag, w⟩
def outB (Y : Cx) (E : XK) (u : Value) (s' : Shared) : Prop := ∃ (pins : List (Addr × Obj)) (σ : L2.St) (H : Hp) (s : Shared), Inv Y pins σ H s ∧ L2.CX Y.prog Y.w Y.stack H s E u s'
abbrev blkX (X : Cx) (E : XK) (s : Shared) (H : Hp) (scope : Scope) (ce : Env) (fp : List Addr) : Cx := (X.blk s H scope ce fp).wish (outB (X.blk s H scope ce fp) E)
theorem inB {E : XK} {s : Shared} {H : Hp} {scope : Scope} {ce : Env} {fp : List Addr} (σ : L2.St) : PassesAt (L2.CX X.prog X.w) (blkX X E s H scope ce fp) σ E := fun pins H' s' _ _ I c => ⟨pins, σ, H', s', I.unwish, c⟩
theorem lc_coreX {E : XK} {pins : List (Addr × Obj)} {s : Shared} {σ : L2.St} {H : Hp} {Q : VK} {elt tg iter : Expr} {ifs : List Expr} {scope : Scope} {own : List (Str × Nat)} {pos pos' : Pos} {wi : TI} {g : TG} {tt : TT} {te : TE} {use : Option (Value → Sem Unit)} {Qf : Value → Shared → Prop}
    (hst : X.stack = X.env :: X.outer) (hfr : X.env.frame = some X.env.locals) (tk : Takes X (fun cls d _ H => E cls d H)) (hc : X.calm = true) (hN : X.N.Nodup) (I : Inv X pins σ H s) (hi : PI X tg iter wi) (ok : BlkOk X.N X.env.scope scope own)
    (hg : ∀ (s : Shared) (H : Hp) (C : Addr) (cl : List (Str × Addr)) (fp : List Addr), PG (blkX X E s H scope (compEnvC scope cl C X.env) fp) tg g) (ht : ∀ (s : Shared) (H : Hp) (C : Addr) (cl : List (Str × Addr)) (fp : List Addr), PTs (blkX X E s H scope (compEnvC scope cl C X.env) fp) ifs tt)
    (he : ∀ (s : Shared) (H : Hp) (C : Addr) (cl : List (Str × Addr)) (fp : List Addr), PE (blkX X E s H scope (compEnvC scope cl C X.env) fp) elt te) (hs : ∀ x, foldedSetIterable iter X.env x = pure x)
    (h : tLc wi g tt te (own.map (·.2)) σ H Q)
    (hRR : ∀ D C s' m H', Inv X pins σ H' s' → Q (.ref D) H' → s'.heap.Ns C m → FpOk X pins H' C → compPost (model X.prog X.w) X.A X.xe use Qf (.ref D) C (.ok .next) s') :
    wpAny (model X.prog X.w) X.A (comprehension (.ListComp elt [⟨tg, iter, ifs, 0⟩] scope pos) scope X.env pos' (newList []) false (eval iter X.env) use) Qf X.xe s := by
  have hfree : ∀ y ∈ scope.names, y.2 = .free → ∃ c, X.env.cells.lookup y.1 = some c := fun y hy e => (ok.free y hy e).elim (fun k => I.ok.has _ (.inl k)) fun k => I.ok.has _ (.inr k)
  refine comprehension_x (use := use) rfl hs (closure_ok hfree) ok.kind (fun y hy e => by rw [ok.uniq y hy, e]) (thn (hi.run pins s σ H _ I h) fun xv s1 hx => thn hx fun itv s2 h2 => ?_)
  obtain ⟨it, fp, tn, J, H2, e, I2, T, st2, f2, q⟩ := h2
  subst e
  refine wpAny_newObj_type (newEnv_comp ?_) (by show 0 ≤ sizeLine; decide)
  generalize hD : s2.heap.objs.size = D
  obtain ⟨Wn, ⟨m0, w0⟩, turn⟩ := q D (I2.hok.fresh (Nat.le_of_eq hD))
  generalize hs3 : ({ s2 with heap := s2.heap.push { cls := .type "list", data := .seq ([] : List Value).toArray } } : Shared) = s3
  have h3 : s3.heap = s2.heap.push { cls := .type "list", data := .seq ([] : List Value).toArray } := by rw [← hs3]
  have I3 : Inv X pins σ (upd H2 D (.lst [])) s3 := by
    rw [← hs3]
    exact I2.laid (t' := s2.toks) (fun b o e => Heap.get?_push_of_some _ e) (Nat.le_of_eq hD) ⟨Nat.zero_le _, [], 0, .nil, by rw [← hD]; exact Heap.get?_push_size _ rfl⟩
  have f3 : ∀ b ∈ fp, FpOk X pins (upd H2 D (.lst [])) b ∧ b < s3.heap.objs.size := fun b hb => by
    obtain ⟨o, e, _⟩ := T.obj _ _ st2 b hb
    have hlt := Heap.lt_size e
    refine ⟨⟨?_, (f2 b hb).2⟩, by rw [h3, Heap.size_push]; exact Nat.lt_succ_of_lt hlt⟩
    rw [upd_ne (by rw [← hD]; exact Nat.ne_of_lt hlt)]
    exact (f2 b hb).1
  have st3 : tn 0 s3.heap := T.keep _ _ _ st2 fun b _ o e => by rw [h3]; exact Heap.get?_push_of_some _ e
  have I4 := block_start I3 ok hN f3
  generalize hcl : cellsFrom (s3.heap.objs.size + 1) scope.names (cloFrom X.env.cells scope.names []) = cl at I4 ⊢
  have pg := hg s3 (upd H2 D (.lst [])) s3.heap.objs.size cl fp
  have pt := ht s3 (upd H2 D (.lst [])) s3.heap.objs.size cl fp
  have pe := he s3 (upd H2 D (.lst [])) s3.heap.objs.size cl fp
  show codeAny _ _ (.compStart (.ListComp elt [⟨tg, iter, ifs, 0⟩] scope pos) 0 (.ref it) (.ref D) (compEnvC scope cl s3.heap.objs.size X.env)) (postX (model X.prog X.w) X.A X.xe use Qf (.ref D) s3.heap.objs.size X.env.frame) { s3 with heap := pushCells (s3.heap.push { cls := .type "dict", data := .dict #[] }) scope.names }
  have nfp : ∀ b ∈ fp, (upd H2 D (.lst [])) b = none := fun b hb => (f3 b hb).1.1
  generalize hce : compEnvC scope cl s3.heap.objs.size X.env = ce at I4 pg pt pe ⊢
  have cL : ce.locals = s3.heap.objs.size := by subst hce; rfl
  have cF : ce.frame = X.env.frame := by subst hce; rfl
  generalize hH3 : upd H2 D (.lst []) = H3 at I3 I4 pg pt pe w0 nfp f3
  generalize hs4 : ({ s3 with heap := pushCells (s3.heap.push { cls := .type "dict", data := .dict #[] }) scope.names } : Shared) = s4 at I4 ⊢
  have st4 : tn 0 s4.heap := T.keep _ _ _ st3 fun b _ o e => by rw [← hs4]; exact pushCells_keeps _ _ _ _ (Heap.get?_push_of_some _ e)
  have stat : ∀ {σ' : L2.St} {H' : Hp} {s' : Shared}, Inv (X.blk s3 H3 scope ce fp) [] σ' H' s' → (∀ b ∈ fp, H' b = none) → ∀ b ∈ fp, FpOk (X.blk s3 H3 scope ce fp) [] H' b := fun {σ' H' s'} I' hn b hb =>
    ⟨hn b hb, (I'.ok.exf b hb).1, I'.ok.exfs b hb, .inl hb, fun x c e => (I'.ok.exf b hb).2 x c e, fun p hp => absurd (show p ∈ ([] : List (Addr × Obj)) ++ [] from hp) (by simp)⟩
  -- back in the def's context
  have back : ∀ {pB : List (Addr × Obj)} {σ' : L2.St} {H' : Hp} {s' : Shared}, Inv (X.blk s3 H3 scope ce fp) pB σ' H' s' → Inv X pins σ H' s' ∧ H' s3.heap.objs.size = none ∧ ∃ m, s'.heap.Ns s3.heap.objs.size m := fun {pB σ' H' s'} I' => by
    refine ⟨I3.call' (ch := fp) I'.os I'.base I'.hok I'.bare fun b hb => ⟨(f3 b hb).1.2.2.2.1, (f3 b hb).1.2.1, (f3 b hb).1.2.2.2.2.1, (f3 b hb).1.2.2.2.2.2⟩, ?_, ?_⟩
    · have z : H' ce.locals = none := I'.free
      rw [cL] at z; exact z
    · obtain ⟨m, hn, _⟩ := I'.loc
      have hn : s'.heap.Ns ce.locals m := hn
      rw [cL] at hn; exact ⟨m, hn⟩
  have fC : FpOk X [] (fun _ => none) s3.heap.objs.size := by
    obtain ⟨_, a2, a3, a4, a5, a6⟩ := I3.fpOk (H' := fun _ => none) (Nat.le_refl _) rfl
    exact ⟨rfl, a2, a3, a4, a5, fun p hp => a6 p (by rw [List.append_nil] at hp; exact List.mem_append_left _ hp)⟩
  have nfr : s3.heap.objs.size ∉ frs X.stack := fun z => by
    rcases List.mem_cons.mp (I3.stkSub _ z) with z | z
    · exact fC.2.1 z
    · exact fC.2.2.1 z
  -- what is let out
  have out : ∀ (u : Value) (s' : Shared), outB (X.blk s3 H3 scope ce fp) E u s' → notedBy (model X.prog X.w) X.A ce (fun e s' => postX (model X.prog X.w) X.A X.xe use Qf (.ref D) s3.heap.objs.size X.env.frame (.error e) s') u s' := by
    rintro u s' ⟨pB, σB, HB, sB, IB, c⟩
    obtain ⟨IX, hHC, m, hn⟩ := back IB
    obtain ⟨a, B, H', cls, d, rfl, fl, hok, ub, na, os, ag, hE⟩ := c
    have hn' := hn
    obtain ⟨oC, es, ep, hoC, hdC⟩ := hn'
    have hBC := ub.keep _ oC hoC hHC nfr
    have nsC : s'.heap.Ns s3.heap.objs.size m := ⟨oC, es, ep, fl.1 _ _ hBC, hdC⟩
    have x : XE X (fun cls d _ H => E cls d H ∧ H s3.heap.objs.size = none) (.ref a) s' :=
      XE.of_call (E := fun cls d H => E cls d H ∧ H s3.heap.objs.size = none) IX (fun _ _ _ h => h) ⟨a, B, H', cls, d, rfl, fl, hok, ub, na, os, ag, hE, ub.free _ _ hoC hHC⟩
    have e1 : noteFrame (.ref a) ce = noteFrame (.ref a) X.env := by subst hce; rfl
    show wpAny _ _ (noteFrame (.ref a) ce) _ _ s'
    rw [e1]
    refine wpAny_mono (noted hst hfr (E1 := fun _ _ => False) x) (fun _ s2 ⟨hx, up⟩ => ?_) fun _ _ z => z.elim
    have ns2 := up.ns nsC
    exact ⟨m, ns2, fun h' sb ce' _ hf' => goesOn (W := fun cls d _ H => E cls d H) (fun _ _ _ _ z => z) hx fC nfr ns2 sb (hf'.trans hfr) tk⟩
  have thnO : ∀ {α : Type} {t : Sem α} {Q1 Q2 : α → Shared → Prop} {s : Shared}, wpAny (model X.prog X.w) X.A t Q1 (outB (X.blk s3 H3 scope ce fp) E) s → (∀ a s, Q1 a s → Q2 a s) →
      wpAny (model X.prog X.w) X.A t Q2 (notedBy (model X.prog X.w) X.A ce (fun e s' => postX (model X.prog X.w) X.A X.xe use Qf (.ref D) s3.heap.objs.size X.env.frame (.error e) s')) s := fun h1 h2 => wpAny_mono h1 h2 out
  have loop : codeAny (model X.prog X.w) X.A (.compLoop (.ListComp elt [⟨tg, iter, ifs, 0⟩] scope pos) 0 (.ref it) (.ref D) ce) (postX (model X.prog X.w) X.A X.xe use Qf (.ref D) s3.heap.objs.size X.env.frame) s4 := by
    refine compLoop_any (fun n s' => ∃ i H', Inv (X.blk s3 H3 scope ce fp) [] (wipe σ (own.map (·.2))) H' s' ∧ tn i s'.heap ∧ (∀ b ∈ fp, H' b = none) ∧ Wn i n H') ?_ m0 ⟨0, H3, I4, st4, nfp, w0⟩
    rintro n s5 ⟨i, H5, I5, st5, n5, w5⟩
    rcases turn i n H5 w5 with ⟨stop, qq⟩ | ⟨go, Nx, hNx, step⟩
    · refine thnF (T.done (X.blk s3 H3 scope ce fp) rfl rfl rfl hc i [] s5 _ H5 (fun _ _ => False) I5 (stat I5 n5) st5 stop) fun r s6 ⟨hr, I6⟩ => ?_
      subst hr
      obtain ⟨I7, nC, m, hn⟩ := back I6
      exact hRR D s3.heap.objs.size s6 m H5 I7 qq hn (I3.fpOk (Nat.le_refl _) nC)
    · refine thnF (T.item (X.blk s3 H3 scope ce fp) rfl rfl rfl hc i [] s5 _ H5 (fun _ _ => False) I5 (stat I5 n5) st5 go) fun r s6 ⟨u, hr, h6⟩ => ?_
      subst hr
      refine thnF h6 fun _ s7 ⟨x, H7, I7, r7, y7, st7, n7⟩ => ?_
      have I7' := I7.pinned (stat I7 n7) (T.obj _ _ st7)
      refine thnO (pg.run _ s7 _ H7 x u _ (I7'.wish _) r7 (step x H7 y7)) fun _ s8 ⟨σ8, H8, I8, hw8, q8⟩ => ?_
      refine thnO (pt.run _ s8 σ8 H8 _ I8 q8) fun b s9 ⟨H9, I9, q9⟩ => ?_
      have fin : ∀ {s' : Shared} {H' : Hp}, Inv (blkX X E s3 H3 scope ce fp) ([] ++ pinsAt fp s7.heap) σ8 H' s' → Nx H' → ∃ m, m < n ∧ ∃ i H', Inv (X.blk s3 H3 scope ce fp) [] (wipe σ (own.map (·.2))) H' s' ∧ tn i s'.heap ∧ (∀ b ∈ fp, H' b = none) ∧ Wn i m H' := fun {s' H'} Iw nx => by
        have I' : Inv (X.blk s3 H3 scope ce fp) ([] ++ pinsAt fp s7.heap) σ8 H' s' := Iw.unwish
        obtain ⟨m', hm, w'⟩ := hNx H' nx
        have pin' : ∀ b ∈ fp, ∀ o, s7.heap.get? b = some o → s'.heap.get? b = some o ∧ H' b = none := fun b hb o e =>
          let z := I'.pin (b, o) (List.mem_append_right _ (List.mem_append_right _ (mem_pinsAt hb e)))
          ⟨z.1, z.2.1⟩
        have hl : (wipe σ (own.map (·.2))).length = σ8.length := by rw [← hw8, wipe_length]
        refine ⟨m', hm, i + 1, H', (I'.unpinned (pins := [])).weak hl (fun j v e => ?_), T.keep _ _ _ st7 fun b hb o e => (pin' b hb o e).1, fun b hb => ?_, w'⟩
        · rw [← hw8] at e
          exact (wipe_some e).1
        · obtain ⟨o, e, _⟩ := T.obj _ _ st7 b hb
          exact (pin' b hb o e).2
      cases b with
      | false =>
        simp only [Bool.false_eq_true, if_false] at q9 ⊢
        exact fin I9 q9
      | true =>
        simp only [if_true] at q9 ⊢
        refine thnO (pe.run _ s9 σ8 H9 _ I9 q9) fun z s10 ⟨yv, H10, I10, r10, acc, hD10, hz10, nx⟩ => ?_
        exact app_ok (X := blkX X E s3 H3 scope ce fp) I10 hD10 hz10 r10 fun s11 I11 => fin I11 nx
  exact codeAny_compStart_list loop (T.self X.A 0 _ _ _ st4 loop)
theorem pe_lc {E : XK} {elt tg iter : Expr} {ifs : List Expr} {scope : Scope} {own : List (Str × Nat)} {pos : Pos} {wi : TI} {g : TG} {tt : TT} {te : TE} (hst : X.stack = X.env :: X.outer) (hfr : X.env.frame = some X.env.locals) (tk : Takes X (fun cls d _ H => E cls d H)) (hc : X.calm = true) (hN : X.N.Nodup) (hi : PI X tg iter wi) (ok : BlkOk X.N X.env.scope scope own)
    (hg : ∀ (s : Shared) (H : Hp) (C : Addr) (cl : List (Str × Addr)) (fp : List Addr), PG (blkX X E s H scope (compEnvC scope cl C X.env) fp) tg g) (ht : ∀ (s : Shared) (H : Hp) (C : Addr) (cl : List (Str × Addr)) (fp : List Addr), PTs (blkX X E s H scope (compEnvC scope cl C X.env) fp) ifs tt)
    (he : ∀ (s : Shared) (H : Hp) (C : Addr) (cl : List (Str × Addr)) (fp : List Addr), PE (blkX X E s H scope (compEnvC scope cl C X.env) fp) elt te) (hs : ∀ x, foldedSetIterable iter X.env x = pure x := by intro _; rfl) :
    PE X (.ListComp elt [⟨tg, iter, ifs, 0⟩] scope pos) (tLc wi g tt te (own.map (·.2))) := by
  refine ⟨fun pins s σ H Q I h => ?_⟩
  rw [eval_ListComp]
  refine lc_coreX hst hfr tk hc hN I hi ok hg ht he hs h fun D C s' m H' I' q hn f => ⟨m, hn, fun h'' sb => ?_⟩
  obtain ⟨f0, f1, f2, f3, f4, f5⟩ := f
  exact ⟨.ref D, H', I'.turned (t' := s'.toks) (fun b o hb e => (sb.2 b hb).trans e) f0 f1 f3 f4 f5, rfl, q⟩
end
end CoR
namespace EnB
open PySem PySem.Spec PyProof.Rows L2
section
end
end EnB
namespace OpM
open PySem PySem.Spec PyProof.Rows L2
structure Own (K : PySem.W.Frag) (C : Addr) (m : Str) (f : Addr) : Prop where
  at_ : PySem.W.findIn K (.ref C) m = some (some (.ref f))
  fn : PySem.W.isFn K (.ref f) = true
theorem back {z : V} {v : Value} {Q : Value → Shared → Prop} {s : Shared} (r : RelV z v) (h : Q v s) : PySem.W.CmpBack Q v s := by
  cases z with
  | non => cases (show v = Value.none from r); exact h
  | bl b => cases (show v = Value.bool b from r); exact h
  | int i => obtain ⟨t, rfl⟩ := (show ∃ t, v = Value.int i t from r); exact h
  | str x => obtain ⟨t, rfl⟩ := (show ∃ t, v = Value.str x t from r); exact h
  | byt b => obtain ⟨t, rfl⟩ := (show ∃ t, v = Value.bytes b t from r); exact h
  | flt b => obtain ⟨t, rfl⟩ := (show ∃ t, v = Value.float b t from r); exact h
  | ref a => cases (show v = Value.ref a from r); exact h
  | ty n => cases (show v = Value.type n from r); exact h
section
variable {X : Cx} {CX : CXT} {k : Nat} {f C : Addr} {sp : Sp} {E : L2.St → XK} {pos : Pos} {a b : Expr} {ta tb : TE}
theorem runB {pins : List (Addr × Obj)} {σ : L2.St} {H : Hp} {s : Shared} {Q : VK} {us : List Value} {vs : List V} {A : Around} (F : FnR X.prog X.w X.K X.mg X.base CX k f sp) (hr : Room k A) (hfr : A.frames = X.A.frames) (hx : PassesAt CX X σ (E σ)) (I : Inv X pins σ H s) (r : Vals vs us) (h : sp vs H Q (E σ)) :
    wpAny (model X.prog X.w) A (call (.ref f) us) (EP X pins σ Q) X.xe s := by
  have e := I.env0
  have e0 : Env0 X.prog X.w X.K X.mg X.base A X.stack s H := ⟨by rw [hfr]; exact e.frames, e.mod, e.bs, e.bsz, e.funs, e.frf, e.hok, e.bare⟩
  refine wpAny_call (codeAny_mono (F A X.stack s H us vs Q (E σ) hr e0 r h) fun r s' hq => ?_)
  cases r with
  | error er => exact hx pins H s er s' I hq
  | ok fl => cases fl <;> first | exact I.after hq | exact False.elim hq
theorem inst {pins : List (Addr × Obj)} {σ : L2.St} {H : Hp} {s : Shared} {x dx : Addr} {fs : List (Str × V)} (I : Inv X pins σ H s) (hx : H x = some (.ins C dx fs)) : ∃ ox od, PySem.W.InstAt s.heap x ox C od := by
  obtain ⟨mA, J, _⟩ := ins_get I.hok hx
  obtain ⟨od, J, _⟩ := J.look
  exact ⟨_, _, J⟩
theorem cmp_run {pins : List (Addr × Obj)} {σ : L2.St} {H : Hp} {s : Shared} {Q : VK} {op : CmpOp} {x y : V} {u v : Value} (O : Own X.K C (cmpInfo op).2.1 f) (F : FnR X.prog X.w X.K X.mg X.base CX k f sp) (hr : Room k X.A) (hx : PassesAt CX X σ (E σ)) (I : Inv X pins σ H s) (rx : RelV x u) (ry : RelV y v)
    (h : ∃ p dx fs t, x = .ref p ∧ H p = some (.ins C dx fs) ∧ TyX X.K H y t ∧ PySem.W.notFirst X.K C t = true ∧ sp [x, y] H Q (E σ)) : wpAny (model X.prog X.w) X.A (richCompare op u v) (EP X pins σ Q) X.xe s := by
  obtain ⟨p, dx, fs, t, rfl, hp, ty, hn, q⟩ := h
  obtain rfl : u = Value.ref p := rx
  obtain ⟨ox, od, J⟩ := inst I hp
  obtain ⟨m, hF⟩ := I.fr
  obtain ⟨P, kit, hP, _⟩ := kit_of I ry ty
  refine PySem.W.cmp_K (Nat.lt_of_le_of_lt (Nat.le_add_right _ _) hr.units) hF I.ok.mod.kin J (kit.ty _ _ I.kIn hP) hn O.at_ O.fn ?_
  refine wpAny_mono (runB F hr rfl hx I (us := [.ref p, v]) (vs := [.ref p, y]) (.cons rfl (.cons ry .nil)) q) (fun w s' z => ?_) fun _ _ z => z
  obtain ⟨z, H', I', rz, q'⟩ := z
  exact back rz ⟨z, H', I', rz, q'⟩
theorem op_cmp {op : CmpOp} (O : Own X.K C (cmpInfo op).2.1 f) (F : FnR X.prog X.w X.K X.mg X.base CX k f sp) (hr : Room k X.A) (hx : ∀ σ, PassesAt CX X σ (fun _ _ _ => False)) :
    OpR X (richCompare op) (fun x y H Q => ∃ p dx fs t, x = .ref p ∧ H p = some (.ins C dx fs) ∧ TyX X.K H y t ∧ PySem.W.notFirst X.K C t = true ∧ sp [x, y] H Q (fun _ _ _ => False)) :=
  fun pins s σ H x y u v Q I rx ry h => cmp_run (E := fun _ _ _ _ => False) O F hr (hx σ) I rx ry h
end
section
variable {M : Model} {prog : Program} {w : World} {A : Around} {E : Value → Shared → Prop} {s : Shared} {K : PySem.W.Frag} {x C f : Addr} {ox : Obj} {od : Option Obj} {b tb : Value}
end
section
variable {X : Cx} {CX : CXT} {k : Nat} {f C : Addr} {sp : Sp}
end
section
variable {X : Cx} {CX : CXT} {k i : Nat} {C p g f : Addr} {mc : Value} {sp : Sp} {E : L2.St → XK} {o e : Expr} {es : List Expr} {m x : Str} {pos apos np : Pos} {ta : TE} {t : TA} {pl : Sem Bool}
end
section
variable {X : Cx} {CX : CXT} {k : Nat} {f C : Addr} {sp : Sp}
def rCmp (K : PySem.W.Frag) (C : Addr) (sp : Sp) : R2 := fun x y H Q => ∃ p dx fs t, x = .ref p ∧ H p = some (.ins C dx fs) ∧ TyX K H y t ∧ PySem.W.notFirst K C t = true ∧ sp [x, y] H Q (fun _ _ _ => False)
theorem eqO (K : PySem.W.Frag) (O : Own K C "__eq__" f) (F : FnR X.prog X.w X.K X.mg X.base CX k f sp) (hr : Room k X.A) (hx : ∀ σ, PassesAt CX X σ (fun _ _ _ => False)) (hK : X.K = K := by rfl) : OpR X (compareOp .Eq) (rCmp K C sp) := by
  subst hK
  exact op_cmp (op := .Eq) O F hr hx
structure NeC (K : PySem.W.Frag) (C : Addr) : Prop where
  at_ : PySem.W.findIn K (.ref C) "__ne__" = some (some (.builtin "object.__ne__"))
  mro : PySem.W.mroIn K C (.type "object") = some true
structure InsT (K : PySem.W.Frag) (C : Addr) : Prop where
  ha : PySem.W.findIn K (.ref C) "__class__" = some (some (.builtin "object.__class__"))
  hn : PySem.W.specialIn K (.builtin "object.__class__") "__get__" = some (some (.builtin "getset_descriptor.__get__"))
  htk : PySem.W.takesIn K (.builtin "object.__class__") = some true
  hm : PySem.W.mroIn K C (.type "object") = some true
theorem InsT.ty {K : PySem.W.Frag} {H : Hp} {a dx : Addr} {fs : List (Str × V)} (h : InsT K C) (c : Cls K C) (e : H a = some (.ins C dx fs)) : TyX K H (.ref a) (.ref C) := .base (.ins e c h.ha h.hn h.htk h.hm)
end
section
variable {K : PySem.W.Frag} {C f : Addr} {m : Str}
def ownB (K : PySem.W.Frag) (C : Addr) (m : Str) (f : Addr) : Bool := decide (PySem.W.findIn K (.ref C) m = some (some (.ref f))) && PySem.W.isFn K (.ref f)
theorem ownB_ok (h : ownB K C m f = true) : Own K C m f := ⟨of_decide_eq_true (He.ba h).1, (He.ba h).2⟩
end
end OpM
namespace OpM
open PySem PySem.Spec PyProof.Rows L2
section
variable {X : Cx} {CX : CXT} {k i : Nat} {C f : Addr} {sp : Sp} {E : L2.St → XK} {e : Expr} {es : List Expr} {x : Str} {pos np : Pos} {t : TA}
end
end OpM
namespace Pf
open PySem PySem.Spec PyProof.Rows L2
def top (i : Nat) : Stmt := PySem.Challenge.pw_rungbounds_k05_rack_of_names.main.body.getD i (.Pass ⟨0, 0, 0, 0⟩)
abbrev PP : Program := PySem.Challenge.pw_rungbounds_k05_rack_of_names
abbrev s_law_box : Stmt := top 17
abbrev s_law_take : Stmt := top 18
abbrev s_check_name : Stmt := top 13
abbrev s_Rack_put : Stmt := inClass (top 15) 3
abbrev s_RackU_initU : Stmt := inClass (top 15) 0
abbrev s_Rack_names : Stmt := inClass (top 15) 4
abbrev s_RackU_lenU : Stmt := inClass (top 15) 1
abbrev s_RackU_containsU : Stmt := inClass (top 15) 2
abbrev s_Rack_length_of : Stmt := inClass (top 15) 5
abbrev s_law_name : Stmt := top 19
abbrev s_law_bad : Stmt := top 20
abbrev s_law_due : Stmt := top 21
abbrev s_law_put : Stmt := top 22
abbrev s_law_unknown : Stmt := top 23
abbrev s_law_same : Stmt := top 24
abbrev s_law_refused : Stmt := top 25
abbrev s_law_keywords : Stmt := top 26
abbrev s_law : Stmt := top 27
def d_law_box : He5.DefA := ⟨fun K => (He.ga K "_law_box"), "_law_box", "_law_box", defArgs s_law_box, defBody s_law_box, defScope s_law_box, [], []⟩
def d_law_take : He5.DefA := ⟨fun K => (He.ga K "_law_take"), "_law_take", "_law_take", defArgs s_law_take, defBody s_law_take, defScope s_law_take, [], []⟩
def d_check_name : He5.DefA := ⟨fun K => (He.ga K "check_name"), "check_name", "check_name", defArgs s_check_name, defBody s_check_name, defScope s_check_name, [], []⟩
def d_Rack_put : He5.DefA := ⟨fun K => (He.ma K (He.ga K "Rack") "put"), "put", "Rack.put", defArgs s_Rack_put, defBody s_Rack_put, defScope s_Rack_put, [], []⟩
def d_RackU_initU : He5.DefA := ⟨fun K => (He.ma K (He.ga K "Rack") "__init__"), "__init__", "Rack.__init__", defArgs s_RackU_initU, defBody s_RackU_initU, defScope s_RackU_initU, [], []⟩
def d_Rack_names : He5.DefA := ⟨fun K => (He.ma K (He.ga K "Rack") "names"), "names", "Rack.names", defArgs s_Rack_names, defBody s_Rack_names, defScope s_Rack_names, [], []⟩
def d_RackU_lenU : He5.DefA := ⟨fun K => (He.ma K (He.ga K "Rack") "__len__"), "__len__", "Rack.__len__", defArgs s_RackU_lenU, defBody s_RackU_lenU, defScope s_RackU_lenU, [], []⟩
def d_RackU_containsU : He5.DefA := ⟨fun K => (He.ma K (He.ga K "Rack") "__contains__"), "__contains__", "Rack.__contains__", defArgs s_RackU_containsU, defBody s_RackU_containsU, defScope s_RackU_containsU, [], []⟩
def d_Rack_length_of : He5.DefA := ⟨fun K => (He.ma K (He.ga K "Rack") "length_of"), "length_of", "Rack.length_of", defArgs s_Rack_length_of, defBody s_Rack_length_of, defScope s_Rack_length_of, [], []⟩
def d_law_name : He5.DefA := ⟨fun K => (He.ga K "_law_name"), "_law_name", "_law_name", defArgs s_law_name, defBody s_law_name, defScope s_law_name, [], []⟩
def d_law_bad : He5.DefA := ⟨fun K => (He.ga K "_law_bad"), "_law_bad", "_law_bad", defArgs s_law_bad, defBody s_law_bad, defScope s_law_bad, [], []⟩
def d_law_due : He5.DefA := ⟨fun K => (He.ga K "_law_due"), "_law_due", "_law_due", defArgs s_law_due, defBody s_law_due, defScope s_law_due, [], []⟩
def d_law_put : He5.DefA := ⟨fun K => (He.ga K "_law_put"), "_law_put", "_law_put", defArgs s_law_put, defBody s_law_put, defScope s_law_put, [], []⟩
def d_law_unknown : He5.DefA := ⟨fun K => (He.ga K "_law_unknown"), "_law_unknown", "_law_unknown", defArgs s_law_unknown, defBody s_law_unknown, defScope s_law_unknown, [], []⟩
def d_law_same : He5.DefA := ⟨fun K => (He.ga K "_law_same"), "_law_same", "_law_same", defArgs s_law_same, defBody s_law_same, defScope s_law_same, [], []⟩
def d_law_refused : He5.DefA := ⟨fun K => (He.ga K "_law_refused"), "_law_refused", "_law_refused", defArgs s_law_refused, defBody s_law_refused, defScope s_law_refused, [], []⟩
def d_law_keywords : He5.DefA := ⟨fun K => (He.ga K "_law_keywords"), "_law_keywords", "_law_keywords", defArgs s_law_keywords, defBody s_law_keywords, defScope s_law_keywords, [], []⟩
def d_law : He5.DefA := ⟨fun K => (He.ga K "law"), "law", "law", defArgs s_law, defBody s_law, defScope s_law, [], []⟩
def fnL : List He5.DefA := [d_law_box, d_law_take, d_check_name, d_Rack_put, d_RackU_initU, d_Rack_names, d_RackU_lenU, d_RackU_containsU, d_Rack_length_of, d_law_name, d_law_bad, d_law_due, d_law_put, d_law_unknown, d_law_same, d_law_refused, d_law_keywords, d_law]
def erL : List Hd.ErD := [⟨"BadNumber", "BadNumber.__init__", inClass (top 3) 0⟩, ⟨"BadName", "BadName.__init__", inClass (top 4) 0⟩, ⟨"TakenName", "TakenName.__init__", inClass (top 5) 0⟩, ⟨"UnknownName", "UnknownName.__init__", inClass (top 6) 0⟩, ⟨"TooMany", "TooMany.__init__", inClass (top 7) 0⟩]
def faL : List He.Fa := [.glo "BadName", .glo "BadNumber", .str "LETTERS" "abcdefghijklmnopqrstuvwxyz", .glo "LadderError", .int "MOST_LADDERS" (8), .glo "Rack", .glo "TakenName", .glo "TooMany", .glo "UnknownName", .glo "_law_bad", .glo "_law_box", .glo "_law_due", .glo "_law_keywords", .glo "_law_name", .glo "_law_put", .glo "_law_refused", .glo "_law_same", .glo "_law_take", .glo "_law_unknown", .glo "check_name", .glo "law", .free "int", .free "isinstance", .free "len", .free "list", .free "range", .free "super", .cls "Rack", .noat "Rack" "rows", .meth "Rack" "length_of", .meth "Rack" "names", .meth "Rack" "put", .mkr "Rack", .exm "UnknownName" "UnknownName" true, .exm "UnknownName" "BadName" false, .exm "UnknownName" "TakenName" false, .exm "UnknownName" "BadNumber" false, .exm "UnknownName" "TooMany" false, .exm "BadName" "UnknownName" false, .exm "BadName" "BadName" true, .exm "BadName" "TakenName" false, .exm "BadName" "BadNumber" false, .exm "BadName" "TooMany" false, .exm "TakenName" "UnknownName" false, .exm "TakenName" "BadName" false, .exm "TakenName" "TakenName" true, .exm "TakenName" "BadNumber" false, .exm "TakenName" "TooMany" false, .exm "BadNumber" "UnknownName" false, .exm "BadNumber" "BadName" false, .exm "BadNumber" "TakenName" false, .exm "BadNumber" "BadNumber" true, .exm "BadNumber" "TooMany" false, .exm "TooMany" "UnknownName" false, .exm "TooMany" "BadName" false, .exm "TooMany" "TakenName" false, .exm "TooMany" "BadNumber" false, .exm "TooMany" "TooMany" true]
def exL (K : PySem.W.Frag) : Bool := (faL.all fun f => f.ok K) && (Hd.errB PP K "BadNumber" "value" "BadNumber.__init__" && (Hd.errB PP K "BadName" "name" "BadName.__init__" && (Hd.errB PP K "TakenName" "name" "TakenName.__init__" && (Hd.errB PP K "UnknownName" "name" "UnknownName.__init__" && (Hd.errB PP K "TooMany" "count" "TooMany.__init__" && (excB K (He.ga K "UnknownName") && (excB K (He.ga K "BadName") && (excB K (He.ga K "TakenName") && (excB K (He.ga K "BadNumber") && (excB K (He.ga K "TooMany") && (decide (PySem.W.kitOne K (.ref (He.ga K "UnknownName")) (.ref (He.ga K "LadderError")) = some true) && (OpM.ownB K (He.ga K "Rack") "__len__" (He.ma K (He.ga K "Rack") "__len__") && (OpM.ownB K (He.ga K "Rack") "__contains__" (He.ma K (He.ga K "Rack") "__contains__") && true)))))))))))))
abbrev R : PySem.W.OpenRow := PySem.W.OpenLaw.row PySem.Challenge.rw_rungbounds_k05_rack_of_names
abbrev hk : PySem.W.Hook := Hd.hookP 6 fnL erL exL
def loose : List Str := (["_wall", "LadderError", "BadNumber", "BadName", "TakenName", "UnknownName", "TooMany", "LETTERS", "OVERLAP", "MOST_LADDERS", "joined_length", "check_name", "join_choices", "Rack", "_law_box", "_law_take", "_law_name", "_law_bad", "_law_due", "_law_put"] : List Str) ++ (["_law_unknown", "_law_same", "_law_refused", "_law_keywords"] : List Str)
def ob (s : PySem.W.SharedT) : Hd.AlP := Hd.obsPG 6 fnL erL exL (HandSHeadRun.getT s)
theorem ob_eq (s : PySem.W.SharedT) : ob s = hk.obs s.abs := Hd.obsPG_eq (HandSHeadRun.getT_eq s)
theorem runA (w : World) : Hd.runL R 6000 w := by
  intro os
  kernel_rfl
theorem runB (w : World) : Hd.runS R (PySem.W.view R.prog [27]) 6000 loose w := by
  intro os
  kernel_rfl
theorem runC (w : World) : Hd.runO R hk ob 6000 w := by
  intro os
  kernel_rfl
theorem run (w : World) : HandSHeadRun.RunEq R (PySem.W.view R.prog [27]) hk ob 6000 loose w := Hd.run_of (runA w) (runB w) (runC w)
end Pf
namespace Dl
open PySem PySem.Spec PyProof.Rows L2
inductive D where
  | non | bl (b : Bool) | int (i : Int) | str (x : Str) | lst (xs : List D) | tup (xs : List D) | dic (es : List (Key × D)) | dil (es : List (Key × D)) | obj (c : Nat) (fs : List D) | cls (c : Nat) | scr | idn (a : Addr) (d : D)
def cn : Nat → Str
  | 0 => "Trial" | 1 => "Ladder" | 2 => "Rack" | 3 => "Site" | 4 => "Bounds" | 5 => "Wish" | 6 => "AllWithin" | 7 => "SomeWithin" | 8 => "Band" | 9 => "Both" | 10 => "Planner" | 11 => "Situation" | 12 => "Together" | _ => "Crew"
def cf : Nat → List Str
  | 0 => ["place", "height", "reached"] | 1 => ["length", "parts"] | 2 => ["rows"] | 3 => ["wall_rows", "link_rows", "spots", "tops", "size", "direct", "far", "middles"] | 4 => ["site", "given", "least", "greatest"]
  | 5 => ["size"] | 6 => ["size", "pairs"] | 7 => ["size", "pairs"] | 8 => ["size", "place", "cuts"] | 9 => ["size", "first", "second"] | 10 => ["site", "given", "wish", "menu", "allowed", "known", "costs"]
  | 11 => ["ladder_rows", "pinned_marks", "tried", "allowed", "deeds"] | 12 => ["crew", "before"] | _ => ["site", "now", "past", "taken_back", "running"]
inductive Sh where
  | fr | ol (s : Sh) | od (s : Sh) | oo (ss : List Sh) | ot (ss : List Sh)
inductive Sl where
  | un | sh (d : D) | ow (s : Sh) (d : D) | le (v : V) (s : Sh) (d : D) | bx | lb (v : V) | er (a dd : Addr) (c : Nat) (d : D)
def en : Nat → Str
  | 0 => "BadNumber" | 1 => "BadName" | 2 => "TakenName" | 3 => "UnknownName" | 4 => "NoPlace" | 5 => "TooMany" | 6 => "NoSite" | 7 => "NoShape" | 8 => "BadState" | 9 => "BadLine" | 10 => "DeedFailed" | 11 => "OtherSite" | 12 => "NothingToUndo" | _ => "NothingToRedo"
def ef : Nat → Str
  | 0 => "value" | 1 => "name" | 2 => "name" | 3 => "name" | 4 => "place" | 5 => "count" | 6 => "ring" | 7 => "blames" | 8 => "state" | 9 => "line" | 10 => "row" | _ => ""
def Bx (H : Hp) (b c : Addr) : Prop := ∃ (cs : List Int) (i r s : Int), H b = some (.lst [.ref c, .int i, .int r, .int s]) ∧ H c = some (.lst (cs.map V.int)) ∧ cs.length ≤ 63 ∧ 0 ≤ i ∧ 0 ≤ r ∧ 0 ≤ s ∧ s < 2147483647
mutual
inductive Rep (K : PySem.W.Frag) (F : Hp) : V → D → Prop
  | non : Rep K F .non .non
  | bl (b : Bool) : Rep K F (.bl b) (.bl b)
  | int (i : Int) : Rep K F (.int i) (.int i)
  | str (x : Str) : Rep K F (.str x) (.str x)
  | lst {a : Addr} {vs : List V} {ds : List D} : F a = some (.lst vs) → RepL K F vs ds → Rep K F (.ref a) (.lst ds)
  | tup {a : Addr} {vs : List V} {ds : List D} : SqT K F a vs → RepL K F vs ds → Rep K F (.ref a) (.tup ds)
  | dic {a : Addr} {kvs : List (Key × V)} {es : List (Key × D)} : F a = some (.dK kvs) → RepK K F kvs es → Rep K F (.ref a) (.dic es)
  | dil {a : Addr} {o : Obj} {kvs : List (Key × V)} {es : List (Key × D)} : F a = some (.frz o (.dK kvs)) → RepK K F kvs es → Rep K F (.ref a) (.dil es)
  | obj {a dx : Addr} {c : Nat} {fs : List (Str × V)} {ds : List D} : F a = some (.ins (He.ga K (cn c)) dx fs) → F dx = some (.own a) → fs.map (·.1) = (cf c).take ds.length → RepL K F (fs.map (·.2)) ds → Rep K F (.ref a) (.obj c ds)
  | cls (c : Nat) : Rep K F (.ref (He.ga K (cn c))) (.cls c)
  | scr {a : Addr} {ns : List Int} : SqL K F a (ns.map V.int) → Rep K F (.ref a) .scr
  | idn {a : Addr} {d : D} : F a ≠ none → Rep K F (.ref a) d → Rep K F (.ref a) (.idn a d)
inductive RepL (K : PySem.W.Frag) (F : Hp) : List V → List D → Prop
  | nil : RepL K F [] []
  | cons {v : V} {d : D} {vs : List V} {ds : List D} : Rep K F v d → RepL K F vs ds → RepL K F (v :: vs) (d :: ds)
inductive RepK (K : PySem.W.Frag) (F : Hp) : List (Key × V) → List (Key × D) → Prop
  | nil : RepK K F [] []
  | cons {k : Key} {v : V} {d : D} {vs : List (Key × V)} {ds : List (Key × D)} : Rep K F v d → RepK K F vs ds → RepK K F ((k, v) :: vs) ((k, d) :: ds)
end
mutual
inductive Own (K : PySem.W.Frag) (F H : Hp) : Sh → V → D → List Addr → Prop
  | fr {v : V} {d : D} : Rep K F v d → Own K F H .fr v d []
  | ol {s : Sh} {a : Addr} {vs : List V} {ds : List D} {fp : List Addr} : H a = some (.lst vs) → OwnL K F H s vs ds fp → Own K F H (.ol s) (.ref a) (.lst ds) (a :: fp)
  | od {s : Sh} {a : Addr} {kvs : List (Key × V)} {es : List (Key × D)} {fp : List Addr} : H a = some (.dK kvs) → OwnK K F H s kvs es fp → Own K F H (.od s) (.ref a) (.dic es) (a :: fp)
  | oo {ss : List Sh} {a dx : Addr} {c : Nat} {fs : List (Str × V)} {ds : List D} {fp : List Addr} : H a = some (.ins (He.ga K (cn c)) dx fs) → H dx = some (.own a) → fs.map (·.1) = (cf c).take ds.length → OwnF K F H ss (fs.map (·.2)) ds fp → Own K F H (.oo ss) (.ref a) (.obj c ds) (a :: dx :: fp)
  | ot {ss : List Sh} {a : Addr} {vs : List V} {ds : List D} {fp : List Addr} : H a = some (.tup vs) → OwnF K F H ss vs ds fp → Own K F H (.ot ss) (.ref a) (.tup ds) (a :: fp)
inductive OwnL (K : PySem.W.Frag) (F H : Hp) : Sh → List V → List D → List Addr → Prop
  | nil {s : Sh} : OwnL K F H s [] [] []
  | cons {s : Sh} {v : V} {d : D} {f fp : List Addr} {vs : List V} {ds : List D} : Own K F H s v d f → OwnL K F H s vs ds fp → OwnL K F H s (v :: vs) (d :: ds) (f ++ fp)
inductive OwnK (K : PySem.W.Frag) (F H : Hp) : Sh → List (Key × V) → List (Key × D) → List Addr → Prop
  | nil {s : Sh} : OwnK K F H s [] [] []
  | cons {s : Sh} {k : Key} {v : V} {d : D} {f fp : List Addr} {vs : List (Key × V)} {ds : List (Key × D)} : Own K F H s v d f → OwnK K F H s vs ds fp → OwnK K F H s ((k, v) :: vs) ((k, d) :: ds) (f ++ fp)
inductive OwnF (K : PySem.W.Frag) (F H : Hp) : List Sh → List V → List D → List Addr → Prop
  | nil : OwnF K F H [] [] [] []
  | cons {s : Sh} {ss : List Sh} {v : V} {d : D} {f fp : List Addr} {vs : List V} {ds : List D} : Own K F H s v d f → OwnF K F H ss vs ds fp → OwnF K F H (s :: ss) (v :: vs) (d :: ds) (f ++ fp)
end
def Le (F F' : Hp) : Prop := ∀ a o, F a = some o → F' a = some o
theorem Le.rfl {F : Hp} : Le F F := fun _ _ h => h
theorem Le.trans {F F' F'' : Hp} (h : Le F F') (h' : Le F' F'') : Le F F'' := fun a o e => h' a o (h a o e)
section
variable {K : PySem.W.Frag} {F F' H H' : Hp}
theorem rd_mono (s : Le F F') {a : Addr} {u : HO} (h : Rd F a u) : Rd F' a u := by
  rcases h with h | ⟨o, h⟩
  · exact .inl (s _ _ h)
  · exact .inr ⟨o, s _ _ h⟩
theorem sql_mono (s : Le F F') {a : Addr} {vs : List V} (h : SqL K F a vs) : SqL K F' a vs := by
  rcases h with h | h
  · exact .inl (rd_mono s h)
  · exact .inr h
theorem sqt_mono (s : Le F F') {a : Addr} {vs : List V} (h : SqT K F a vs) : SqT K F' a vs := by
  rcases h with h | h
  · exact .inl (rd_mono s h)
  · exact .inr h
mutual
theorem Rep.mono (s : Le F F') : ∀ {v : V} {d : D}, Rep K F v d → Rep K F' v d
  | _, _, .non => .non
  | _, _, .bl b => .bl b
  | _, _, .int i => .int i
  | _, _, .str x => .str x
  | _, _, .lst h r => .lst (s _ _ h) (RepL.mono s r)
  | _, _, .tup h r => .tup (sqt_mono s h) (RepL.mono s r)
  | _, _, .dic h r => .dic (s _ _ h) (RepK.mono s r)
  | _, _, .dil h r => .dil (s _ _ h) (RepK.mono s r)
  | _, _, .obj h h' n r => .obj (s _ _ h) (s _ _ h') n (RepL.mono s r)
  | _, _, .cls c => .cls c
  | _, _, .scr h => .scr (sql_mono s h)
  | _, _, .idn n r => .idn (fun z => by cases e : F _ with | none => exact n e | some o => rw [s _ _ e] at z; cases z) (Rep.mono s r)
theorem RepL.mono (s : Le F F') : ∀ {v : List V} {d : List D}, RepL K F v d → RepL K F' v d
  | _, _, .nil => .nil
  | _, _, .cons h r => .cons (Rep.mono s h) (RepL.mono s r)
theorem RepK.mono (s : Le F F') : ∀ {v : List (Key × V)} {d : List (Key × D)}, RepK K F v d → RepK K F' v d
  | _, _, .nil => .nil
  | _, _, .cons h r => .cons (Rep.mono s h) (RepK.mono s r)
end
mutual
theorem Own.mono (s : Le F F') : ∀ {z : Sh} {v : V} {d : D} {fp : List Addr}, (∀ a ∈ fp, H' a = H a) → Own K F H z v d fp → Own K F' H' z v d fp
  | _, _, _, _, _, .fr r => .fr (r.mono s)
  | _, _, _, _, e, .ol h r => .ol (by rw [e _ (by simp)]; exact h) (OwnL.mono s (fun a ha => e a (List.mem_cons_of_mem _ ha)) r)
  | _, _, _, _, e, .od h r => .od (by rw [e _ (by simp)]; exact h) (OwnK.mono s (fun a ha => e a (List.mem_cons_of_mem _ ha)) r)
  | _, _, _, _, e, .oo h h' n r => .oo (by rw [e _ (by simp)]; exact h) (by rw [e _ (by simp)]; exact h') n (OwnF.mono s (fun a ha => e a (List.mem_cons_of_mem _ (List.mem_cons_of_mem _ ha))) r)
  | _, _, _, _, e, .ot h r => .ot (by rw [e _ (by simp)]; exact h) (OwnF.mono s (fun a ha => e a (List.mem_cons_of_mem _ ha)) r)
theorem OwnL.mono (s : Le F F') : ∀ {z : Sh} {v : List V} {d : List D} {fp : List Addr}, (∀ a ∈ fp, H' a = H a) → OwnL K F H z v d fp → OwnL K F' H' z v d fp
  | _, _, _, _, _, .nil => .nil
  | _, _, _, _, e, .cons h r => .cons (Own.mono s (fun a ha => e a (List.mem_append_left _ ha)) h) (OwnL.mono s (fun a ha => e a (List.mem_append_right _ ha)) r)
theorem OwnK.mono (s : Le F F') : ∀ {z : Sh} {v : List (Key × V)} {d : List (Key × D)} {fp : List Addr}, (∀ a ∈ fp, H' a = H a) → OwnK K F H z v d fp → OwnK K F' H' z v d fp
  | _, _, _, _, _, .nil => .nil
  | _, _, _, _, e, .cons h r => .cons (Own.mono s (fun a ha => e a (List.mem_append_left _ ha)) h) (OwnK.mono s (fun a ha => e a (List.mem_append_right _ ha)) r)
theorem OwnF.mono (s : Le F F') : ∀ {z : List Sh} {v : List V} {d : List D} {fp : List Addr}, (∀ a ∈ fp, H' a = H a) → OwnF K F H z v d fp → OwnF K F' H' z v d fp
  | _, _, _, _, _, .nil => .nil
  | _, _, _, _, e, .cons h r => .cons (Own.mono s (fun a ha => e a (List.mem_append_left _ ha)) h) (OwnF.mono s (fun a ha => e a (List.mem_append_right _ ha)) r)
end
mutual
theorem Own.fz (s : Le F F') : ∀ {z : Sh} {v : V} {d : D} {fp : List Addr}, (∀ a ∈ fp, F' a = H a) → Own K F H z v d fp → Rep K F' v d
  | _, _, _, _, _, .fr r => r.mono s
  | _, _, _, _, e, .ol h r => .lst (by rw [e _ (by simp)]; exact h) (OwnL.fz s (fun a ha => e a (List.mem_cons_of_mem _ ha)) r)
  | _, _, _, _, e, .od h r => .dic (by rw [e _ (by simp)]; exact h) (OwnK.fz s (fun a ha => e a (List.mem_cons_of_mem _ ha)) r)
  | _, _, _, _, e, .oo h h' n r => .obj (by rw [e _ (by simp)]; exact h) (by rw [e _ (by simp)]; exact h') n (OwnF.fz s (fun a ha => e a (List.mem_cons_of_mem _ (List.mem_cons_of_mem _ ha))) r)
  | _, _, _, _, e, .ot h r => .tup (.inl (.inl (by rw [e _ (by simp)]; exact h))) (OwnF.fz s (fun a ha => e a (List.mem_cons_of_mem _ ha)) r)
theorem OwnL.fz (s : Le F F') : ∀ {z : Sh} {v : List V} {d : List D} {fp : List Addr}, (∀ a ∈ fp, F' a = H a) → OwnL K F H z v d fp → RepL K F' v d
  | _, _, _, _, _, .nil => .nil
  | _, _, _, _, e, .cons h r => .cons (Own.fz s (fun a ha => e a (List.mem_append_left _ ha)) h) (OwnL.fz s (fun a ha => e a (List.mem_append_right _ ha)) r)
theorem OwnK.fz (s : Le F F') : ∀ {z : Sh} {v : List (Key × V)} {d : List (Key × D)} {fp : List Addr}, (∀ a ∈ fp, F' a = H a) → OwnK K F H z v d fp → RepK K F' v d
  | _, _, _, _, _, .nil => .nil
  | _, _, _, _, e, .cons h r => .cons (Own.fz s (fun a ha => e a (List.mem_append_left _ ha)) h) (OwnK.fz s (fun a ha => e a (List.mem_append_right _ ha)) r)
theorem OwnF.fz (s : Le F F') : ∀ {z : List Sh} {v : List V} {d : List D} {fp : List Addr}, (∀ a ∈ fp, F' a = H a) → OwnF K F H z v d fp → RepL K F' v d
  | _, _, _, _, _, .nil => .nil
  | _, _, _, _, e, .cons h r => .cons (Own.fz s (fun a ha => e a (List.mem_append_left _ ha)) h) (OwnF.fz s (fun a ha => e a (List.mem_append_right _ ha)) r)
end
mutual
theorem Own.here : ∀ {z : Sh} {v : V} {d : D} {fp : List Addr}, Own K F H z v d fp → ∀ a ∈ fp, H a ≠ none
  | _, _, _, _, .fr r, a, ha => by cases ha
  | _, _, _, _, .ol h r, a, ha => by
    rcases List.mem_cons.mp ha with rfl | ha
    · rw [h]; intro z; cases z
    · exact OwnL.here r a ha
  | _, _, _, _, .od h r, a, ha => by
    rcases List.mem_cons.mp ha with rfl | ha
    · rw [h]; intro z; cases z
    · exact OwnK.here r a ha
  | _, _, _, _, .oo h h' n r, a, ha => by
    rcases List.mem_cons.mp ha with rfl | ha
    · rw [h]; intro z; cases z
    rcases List.mem_cons.mp ha with rfl | ha
    · rw [h']; intro z; cases z
    · exact OwnF.here r a ha
  | _, _, _, _, .ot h r, a, ha => by
    rcases List.mem_cons.mp ha with rfl | ha
    · rw [h]; intro z; cases z
    · exact OwnF.here r a ha
theorem OwnL.here : ∀ {z : Sh} {v : List V} {d : List D} {fp : List Addr}, OwnL K F H z v d fp → ∀ a ∈ fp, H a ≠ none
  | _, _, _, _, .nil, a, ha => by cases ha
  | _, _, _, _, .cons h r, a, ha => by
    rcases List.mem_append.mp ha with ha | ha
    · exact Own.here h a ha
    · exact OwnL.here r a ha
theorem OwnK.here : ∀ {z : Sh} {v : List (Key × V)} {d : List (Key × D)} {fp : List Addr}, OwnK K F H z v d fp → ∀ a ∈ fp, H a ≠ none
  | _, _, _, _, .nil, a, ha => by cases ha
  | _, _, _, _, .cons h r, a, ha => by
    rcases List.mem_append.mp ha with ha | ha
    · exact Own.here h a ha
    · exact OwnK.here r a ha
theorem OwnF.here : ∀ {z : List Sh} {v : List V} {d : List D} {fp : List Addr}, OwnF K F H z v d fp → ∀ a ∈ fp, H a ≠ none
  | _, _, _, _, .nil, a, ha => by cases ha
  | _, _, _, _, .cons h r, a, ha => by
    rcases List.mem_append.mp ha with ha | ha
    · exact Own.here h a ha
    · exact OwnF.here r a ha
end
end
inductive SlV (K : PySem.W.Frag) (F H : Hp) : Option V → Sl → List Addr → Prop
  | un {o : Option V} : SlV K F H o .un []
  | sh {v : V} {d : D} : Rep K F v d → SlV K F H (some v) (.sh d) []
  | ow {v : V} {s : Sh} {d : D} {fp : List Addr} : Own K F H s v d fp → SlV K F H (some v) (.ow s d) fp
  | le {v : V} {s : Sh} {d : D} {fp : List Addr} : Own K F H s v d fp → SlV K F H (some v) (.le v s d) fp
  | bx {b c : Addr} : Bx H b c → SlV K F H (some (.ref b)) .bx [b, c]
  | lb {b c : Addr} : Bx H b c → SlV K F H (some (.ref b)) (.lb (.ref b)) [b, c]
  | erB {a dd : Addr} {c : Nat} {d : D} : ef c = ("" : Str) → SlV K F H (some (.ref a)) (.er a dd c d) []
  | er {a dd : Addr} {c : Nat} {v : V} {d : D} : ef c ≠ ("" : Str) → H dd = some (.xd [(ef c, v)]) → Rep K F v d → SlV K F H (some (.ref a)) (.er a dd c d) [dd]
inductive Slots (K : PySem.W.Frag) (F H : Hp) : L2.St → List Sl → List Addr → Prop
  | nil : Slots K F H [] [] []
  | cons {o : Option V} {s : Sl} {f fp : List Addr} {σ : L2.St} {ρ : List Sl} : SlV K F H o s f → Slots K F H σ ρ fp → Slots K F H (o :: σ) (s :: ρ) (f ++ fp)
section
variable {K : PySem.W.Frag} {F F' H H' : Hp}
theorem bx_mono {b c : Addr} (e : ∀ a ∈ [b, c], H' a = H a) (h : Bx H b c) : Bx H' b c := by
  obtain ⟨cs, i, r, s, h1, h2, h3⟩ := h
  exact ⟨cs, i, r, s, by rw [e _ (by simp)]; exact h1, by rw [e _ (by simp)]; exact h2, h3⟩
theorem SlV.mono (s : Le F F') {o : Option V} {z : Sl} {fp : List Addr} (e : ∀ a ∈ fp, H' a = H a) (h : SlV K F H o z fp) : SlV K F' H' o z fp := by
  cases h with
  | un => exact .un
  | sh r => exact .sh (r.mono s)
  | ow r => exact .ow (r.mono s e)
  | bx r => exact .bx (bx_mono e r)
  | le r => exact .le (r.mono s e)
  | lb r => exact .lb (bx_mono e r)
  | erB q => exact .erB q
  | er q h r => exact .er q (by rw [e _ (by simp)]; exact h) (r.mono s)
theorem Bx.here {b c : Addr} (r : Bx H b c) : ∀ a ∈ [b, c], H a ≠ none := by
  obtain ⟨cs, i, r, s, h1, h2, h3⟩ := r
  intro a ha z
  rcases List.mem_cons.mp ha with rfl | ha
  · rw [h1] at z; cases z
  · rcases List.mem_cons.mp ha with rfl | ha
    · rw [h2] at z; cases z
    · cases ha
theorem SlV.here {o : Option V} {z : Sl} {fp : List Addr} (h : SlV K F H o z fp) : ∀ a ∈ fp, H a ≠ none := by
  cases h with
  | un => intro a ha; cases ha
  | sh r => intro a ha; cases ha
  | ow r => exact r.here
  | bx r => exact r.here
  | le r => exact r.here
  | lb r => exact r.here
  | erB q => exact fun a ha => nomatch ha
  | er q h r =>
    intro a ha z
    rw [List.mem_singleton.mp ha, h] at z
    cases z
theorem Slots.mono (s : Le F F') {σ : L2.St} {ρ : List Sl} {fp : List Addr} (e : ∀ a ∈ fp, H' a = H a) (h : Slots K F H σ ρ fp) : Slots K F' H' σ ρ fp := by
  induction h with
  | nil => exact .nil
  | cons h r ih => exact .cons (h.mono s fun a ha => e a (List.mem_append_left _ ha)) (ih fun a ha => e a (List.mem_append_right _ ha))
theorem Slots.here {σ : L2.St} {ρ : List Sl} {fp : List Addr} (h : Slots K F H σ ρ fp) : ∀ a ∈ fp, H a ≠ none := by
  induction h with
  | nil => intro a ha; cases ha
  | cons h r ih =>
    intro a ha
    rcases List.mem_append.mp ha with ha | ha
    · exact h.here a ha
    · exact ih a ha
theorem Slots.len {σ : L2.St} {ρ : List Sl} {fp : List Addr} (h : Slots K F H σ ρ fp) : σ.length = ρ.length := by
  induction h with
  | nil => rfl
  | cons h r ih => simp [ih]
theorem Slots.at {σ : L2.St} {ρ : List Sl} {fp : List Addr} (h : Slots K F H σ ρ fp) : ∀ {i : Nat} {s : Sl}, ρ[i]? = some s → ∃ (o : Option V) (l f r : List Addr), fp = l ++ (f ++ r) ∧ σ[i]? = some o ∧ SlV K F H o s f ∧
    ∀ (o' : Option V) (s' : Sl) (f' : List Addr), SlV K F H o' s' f' → Slots K F H (σ.set i o') (ρ.set i s') (l ++ (f' ++ r)) := by
  induction h with
  | nil => intro i s e; cases e
  | @cons o s0 f fp σ ρ h r ih =>
    intro i s e
    cases i with
    | zero =>
      obtain rfl : s0 = s := Option.some.inj e
      exact ⟨o, [], f, fp, rfl, rfl, h, fun o' s' f' h' => by show Slots K F H (o' :: σ) (s' :: ρ) (f' ++ fp); exact .cons h' r⟩
    | succ i =>
      obtain ⟨o1, l, f1, r1, e1, e2, h1, k⟩ := ih (i := i) (s := s) e
      refine ⟨o1, f ++ l, f1, r1, by rw [e1, List.append_assoc], e2, h1, fun o' s' f' h' => ?_⟩
      rw [List.append_assoc]
      exact .cons h (k o' s' f' h')
theorem Slots.app {σ σ' : L2.St} {ρ ρ' : List Sl} {fp fp' : List Addr} (h : Slots K F H σ ρ fp) (h' : Slots K F H σ' ρ' fp') : Slots K F H (σ ++ σ') (ρ ++ ρ') (fp ++ fp') := by
  induction h with
  | nil => exact h'
  | cons h r ih => rw [List.append_assoc]; exact .cons h ih
theorem Slots.split {σ' : L2.St} {ρ' : List Sl} : ∀ {σ : L2.St} {ρ : List Sl} {fp : List Addr}, σ.length = ρ.length → Slots K F H (σ ++ σ') (ρ ++ ρ') fp → ∃ f1 f2, fp = f1 ++ f2 ∧ Slots K F H σ ρ f1 ∧ Slots K F H σ' ρ' f2
  | [], [], fp, _, h => ⟨[], fp, rfl, .nil, h⟩
  | [], _ :: _, _, e, _ => by simp at e
  | _ :: _, [], _, e, _ => by simp at e
  | o :: σ, s :: ρ, fp, e, h => by
    cases h with
    | cons h r =>
      obtain ⟨f1, f2, rfl, h1, h2⟩ := Slots.split (by simpa using e) r
      exact ⟨_ ++ f1, f2, by rw [List.append_assoc], .cons h h1, h2⟩
end
structure Ent where
  H : Hp
  F : Hp
  fp : List Addr
structure Good (G : Ent) (F H : Hp) (fp : List Addr) : Prop where
  sub : Le F H
  f0 : Le G.F F
  fN : ∀ a, F a ≠ none → G.F a ≠ none ∨ G.H a = none ∨ a ∈ G.fp
  frm : ∀ a o, G.H a = some o → a ∉ G.fp → H a = some o
  all : ∀ a, G.H a ≠ none → H a ≠ none
  own : ∀ a ∈ fp, a ∈ G.fp ∨ G.H a = none
  nf : ∀ a ∈ fp, F a = none
  nd : fp.Nodup
def Rel (K : PySem.W.Frag) (G : Ent) (H : Hp) (σ : L2.St) (ρ : List Sl) (τ : L2.St) (δ : List Sl) : Prop :=
  ∃ F f1 f2, Good G F H (f1 ++ f2) ∧ Slots K F H τ δ f1 ∧ Slots K F H σ ρ f2
section
variable {K : PySem.W.Frag} {G : Ent} {F F' H H' : Hp} {fp fp' : List Addr}
theorem Good.less (g : Good G F H fp) (p : fp'.Sublist fp) : Good G F H fp' :=
  ⟨g.sub, g.f0, g.fN, g.frm, g.all, fun a ha => g.own a (p.subset ha), fun a ha => g.nf a (p.subset ha), g.nd.sublist p⟩
theorem Good.cnt (g : Good G F H fp) (h : ∀ a, fp'.count a ≤ fp.count a) : Good G F H fp' := by
  have hm : ∀ a ∈ fp', a ∈ fp := fun a ha => List.count_pos_iff.mp (Nat.lt_of_lt_of_le (List.count_pos_iff.mpr ha) (h a))
  exact ⟨g.sub, g.f0, g.fN, g.frm, g.all, fun a ha => g.own a (hm a ha), fun a ha => g.nf a (hm a ha), List.nodup_iff_count.mpr fun a => Nat.le_trans (h a) (List.nodup_iff_count.mp g.nd a)⟩
theorem Good.newO (g : Good G F H fp) (hin : ∀ a ∈ fp, H a ≠ none) {p : Addr} (hp : H p = none) (o : HO) : Good G F (upd H p o) (p :: fp) := by
  have hG : G.H p = none := by
    cases e : G.H p with
    | none => rfl
    | some u => exact absurd hp (g.all p (by rw [e]; intro z; cases z))
  have hF : F p = none := by
    cases e : F p with
    | none => rfl
    | some u => have := g.sub p u e; rw [hp] at this; cases this
  refine ⟨fun a u e => ?_, g.f0, g.fN, fun a u e hn => ?_, fun a e => ?_, fun a ha => ?_, fun a ha => ?_, List.nodup_cons.mpr ⟨fun z => hin p z hp, g.nd⟩⟩
  · have h1 := g.sub a u e
    rw [upd_ne (ne_of_none h1 hp)]; exact h1
  · have h1 := g.frm a u e hn
    rw [upd_ne (ne_of_none h1 hp)]; exact h1
  · by_cases h : a = p
    · rw [h, upd_same]; intro z; cases z
    · rw [upd_ne h]; exact g.all a e
  · rcases List.mem_cons.mp ha with rfl | ha
    · exact .inr hG
    · exact g.own a ha
  · rcases List.mem_cons.mp ha with rfl | ha
    · exact hF
    · exact g.nf a ha
def fzH (F H : Hp) (f : List Addr) : Hp := fun a => if a ∈ f then H a else F a
theorem fzH_in {f : List Addr} {a : Addr} (h : a ∈ f) : fzH F H f a = H a := by unfold fzH; rw [if_pos h]
theorem fzH_out {f : List Addr} {a : Addr} (h : a ∉ f) : fzH F H f a = F a := by unfold fzH; rw [if_neg h]
theorem fzH_le {f : List Addr} (h : ∀ a ∈ f, F a = none) : Le F (fzH F H f) := fun a o e => by
  rw [fzH_out]
  · exact e
  · intro z
    rw [h a z] at e
    cases e
theorem Good.fz {f : List Addr} (g : Good G F H (f ++ fp)) : Good G (fzH F H f) H fp := by
  have hf : ∀ a ∈ f, F a = none := fun a ha => g.nf a (List.mem_append_left _ ha)
  refine ⟨fun a o e => ?_, g.f0.trans (fzH_le hf), fun a e => ?_, g.frm, g.all, fun a ha => g.own a (List.mem_append_right _ ha), fun a ha => ?_, (List.nodup_append.mp g.nd).2.1⟩
  · by_cases h : a ∈ f
    · rw [fzH_in h] at e; exact e
    · rw [fzH_out h] at e; exact g.sub a o e
  · by_cases h : a ∈ f
    · exact .inr ((g.own a (List.mem_append_left _ h)).symm)
    · rw [fzH_out h] at e; exact g.fN a e
  · have : a ∉ f := fun z => (List.nodup_append.mp g.nd).2.2 a z a ha rfl
    rw [fzH_out this]
    exact g.nf a (List.mem_append_right _ ha)
theorem Good.mut (g : Good G F H fp) {a : Addr} (ha : a ∈ fp) (o : HO) : Good G F (upd H a o) fp := by
  have hF := g.nf a ha
  refine ⟨fun b u e => ?_, g.f0, g.fN, fun b u e hn => ?_, fun b e => ?_, g.own, g.nf, g.nd⟩
  · have hb : b ≠ a := fun z => by rw [z, hF] at e; cases e
    rw [upd_ne hb]; exact g.sub b u e
  · have hb : b ≠ a := fun z => by
      rcases g.own a ha with q | q
      · exact hn (z ▸ q)
      · rw [z, q] at e; cases e
    rw [upd_ne hb]; exact g.frm b u e hn
  · by_cases h : b = a
    · rw [h, upd_same]; intro z; cases z
    · rw [upd_ne h]; exact g.all b e
end
end Dl
namespace Dl
open PySem PySem.Spec PyProof.Rows L2
section
variable {K : PySem.W.Frag} {G : Ent} {H H' : Hp} {σ τ : L2.St} {ρ δ : List Sl} {v x : V} {s : Sl} {d : D}
def D.val : D → Option V
  | .non => some .non
  | .bl b => some (.bl b)
  | .int i => some (.int i)
  | .str x => some (.str x)
  | _ => none
theorem Rep.val {F : Hp} {v u : V} {d : D} (h : Rep K F v d) (e : d.val = some u) : v = u := by
  cases h <;> first | exact Option.some.inj e | cases e
theorem rep_val {F : Hp} {v : V} {d : D} (e : d.val = some v) : Rep K F v d := by
  cases d <;> first | (cases e; done) | (cases e; constructor)
theorem Rel.pop {o : Option V} (h : Rel K G H σ ρ (o :: τ) (s :: δ)) : Rel K G H σ ρ τ δ := by
  obtain ⟨F, f1, f2, g, ht, hs⟩ := h
  cases ht with
  | cons h1 h2 => exact ⟨F, _, f2, g.cnt (by intro a; simp only [List.count_append]; omega), h2, hs⟩
theorem Rel.push (h : Rel K G H σ ρ τ δ) (e : d.val = some v) : Rel K G H σ ρ (some v :: τ) (.sh d :: δ) := by
  obtain ⟨F, f1, f2, g, ht, hs⟩ := h
  exact ⟨F, _, f2, g, .cons (.sh (rep_val e)) ht, hs⟩
theorem Rel.topv {u : V} (h : Rel K G H σ ρ (some v :: τ) (.sh d :: δ)) (e : d.val = some u) : v = u := by
  obtain ⟨F, f1, f2, g, ht, hs⟩ := h
  cases ht with
  | cons h1 h2 => cases h1 with | sh r => exact r.val e
theorem Rel.swap {o o' : Option V} {s' : Sl} (h : Rel K G H σ ρ (o :: o' :: τ) (s :: s' :: δ)) : Rel K G H σ ρ (o' :: o :: τ) (s' :: s :: δ) := by
  obtain ⟨F, f1, f2, g, ht, hs⟩ := h
  cases ht with
  | cons h1 h2 =>
    cases h2 with
    | @cons _ _ fb fr _ _ h2 h3 =>
      rename_i fa
      exact ⟨F, _, f2, g.cnt (by intro a; simp only [List.count_append]; omega), .cons h2 (.cons h1 h3), hs⟩
theorem Rel.len (h : Rel K G H σ ρ τ δ) : σ.length = ρ.length ∧ τ.length = δ.length := by
  obtain ⟨F, f1, f2, g, ht, hs⟩ := h
  exact ⟨hs.len, ht.len⟩
theorem Rel.get {i : Nat} (h : Rel K G H σ ρ τ δ) (e : ρ[i]? = some (.sh d)) : ∃ v, σ[i]? = some (some v) ∧ Rel K G H σ ρ (some v :: τ) (.sh d :: δ) := by
  obtain ⟨F, f1, f2, g, ht, hs⟩ := h
  obtain ⟨o, l, f, r, e1, e2, h1, _⟩ := hs.at e
  cases h1 with
  | sh q => exact ⟨_, e2, F, _, f2, g, .cons (.sh q) ht, hs⟩
theorem Rel.set {o : Option V} {i : Nat} (h : Rel K G H σ ρ (o :: τ) (s :: δ)) (hi : i < ρ.length) : Rel K G H (σ.set i o) (ρ.set i s) τ δ := by
  obtain ⟨F, f1, f2, g, ht, hs⟩ := h
  cases ht with
  | cons h1 h2 =>
    rename_i fa fb
    obtain ⟨o1, l, f, r, e1, e2, h3, k⟩ := hs.at (i := i) (s := ρ[i]) (by rw [List.getElem?_eq_getElem hi])
    subst e1
    exact ⟨F, fb, _, g.cnt (by intro a; simp only [List.count_append]; omega), h2, k _ _ _ h1⟩
def Sl.fz : Sl → Sl
  | .ow _ d => .sh d
  | .sh d => .sh d
  | _ => .un
theorem SlV.fz {F F' : Hp} {o : Option V} {s : Sl} {fp : List Addr} (l : Le F F') (e : ∀ a ∈ fp, F' a = H a) (h : SlV K F H o s fp) : SlV K F' H' o s.fz [] := by
  cases h with
  | un => exact .un
  | sh r => exact .sh (r.mono l)
  | ow r => exact .sh (r.fz l e)
  | _ => exact .un
theorem Rel.fz {o : Option V} (h : Rel K G H σ ρ (o :: τ) (s :: δ)) : Rel K G H σ ρ (o :: τ) (s.fz :: δ) := by
  obtain ⟨F, f1, f2, g, ht, hs⟩ := h
  cases ht with
  | cons h1 h2 =>
    rename_i fa fb
    rw [List.append_assoc] at g
    have hf : ∀ a ∈ fa, F a = none := fun a ha => g.nf a (List.mem_append_left _ ha)
    exact ⟨fzH F H fa, _, f2, g.fz, .cons (h1.fz (fzH_le hf) fun a ha => fzH_in ha) (h2.mono (fzH_le hf) fun _ _ => rfl), hs.mono (fzH_le hf) fun _ _ => rfl⟩
theorem Rel.drop2 {o o' : Option V} {s' : Sl} (h : Rel K G H σ ρ (o :: o' :: τ) (s :: s' :: δ)) : Rel K G H σ ρ (o :: τ) (s :: δ) := h.swap.pop
theorem Rel.dropN {o : Option V} : ∀ {τ' : L2.St} {δ' : List Sl}, τ'.length = δ'.length → Rel K G H σ ρ (o :: (τ' ++ τ)) (s :: (δ' ++ δ)) → Rel K G H σ ρ (o :: τ) (s :: δ)
  | [], [], _, h => h
  | [], _ :: _, e, _ => by simp at e
  | _ :: _, [], e, _ => by simp at e
  | _ :: _, _ :: _, e, h => Rel.dropN (by simpa using e) h.drop2
theorem Rel.popN : ∀ {τ' : L2.St} {δ' : List Sl}, τ'.length = δ'.length → Rel K G H σ ρ (τ' ++ τ) (δ' ++ δ) → Rel K G H σ ρ τ δ
  | [], [], _, h => h
  | [], _ :: _, e, _ => by simp at e
  | _ :: _, [], e, _ => by simp at e
  | _ :: _, _ :: _, e, h => Rel.popN (by simpa using e) h.pop
theorem Rel.rot {o : Option V} {τ' : L2.St} {δ' : List Sl} (e : τ'.length = δ'.length) (h : Rel K G H σ ρ (τ' ++ o :: τ) (δ' ++ s :: δ)) : Rel K G H σ ρ (o :: (τ' ++ τ)) (s :: (δ' ++ δ)) := by
  obtain ⟨F, f1, f2, g, ht, hs⟩ := h
  obtain ⟨fa, fb, rfl, h1, h2⟩ := ht.split e
  cases h2 with
  | cons h3 h4 => exact ⟨F, _, f2, g.cnt (by intro a; simp only [List.count_append]; omega), .cons h3 (h1.app h4), hs⟩
theorem Slots.shs {F : Hp} : ∀ {vs : List V} {ds : List D} {f : List Addr}, vs.length = ds.length → Slots K F H (vs.map some ++ τ) (ds.map Sl.sh ++ δ) f → RepL K F vs ds ∧ Slots K F H τ δ f
  | [], [], _, _, h => ⟨.nil, h⟩
  | [], _ :: _, _, e, _ => by simp at e
  | _ :: _, [], _, e, _ => by simp at e
  | v :: vs, d :: ds, f, e, h => by
    cases h with
    | cons h1 h2 =>
      cases h1 with
      | sh r =>
        obtain ⟨a, b⟩ := Slots.shs (by simpa using e) h2
        exact ⟨.cons r a, b⟩
theorem upd_fz {F : Hp} {p : Addr} {o : HO} : fzH F (upd H p o) [p] = upd F p o := by
  funext a
  by_cases h : a = p
  · subst h; rw [fzH_in (by simp), upd_same, upd_same]
  · rw [fzH_out (by simpa using h), upd_ne h]
theorem le_new {F : Hp} {p : Addr} {o : HO} (h : F p = none) : Le F (upd F p o) := fun a u e => by rw [upd_ne (ne_of_none e h)]; exact e
theorem Rel.newF {ds : List D} {vs : List V} {p : Addr} {o : HO} (hp : H p = none) (e : vs.length = ds.length) (h : Rel K G H σ ρ (vs.map some ++ τ) (ds.map Sl.sh ++ δ)) (hd : ∀ F, RepL K F vs ds → F p = some o → Rep K F (.ref p) d) :
    Rel K G (upd H p o) σ ρ (some (.ref p) :: τ) (.sh d :: δ) := by
  obtain ⟨F, f1, f2, g, ht, hs⟩ := h
  obtain ⟨hr, ht⟩ := ht.shs e
  have hin : ∀ a ∈ f1 ++ f2, H a ≠ none := fun a ha => by
    rcases List.mem_append.mp ha with z | z
    · exact ht.here a z
    · exact hs.here a z
  have g1 := g.newO hin hp o
  have hF : F p = none := g1.nf p (by simp)
  have g2 : Good G (upd F p o) (upd H p o) (f1 ++ f2) := by
    have := Good.fz (f := [p]) (fp := f1 ++ f2) g1
    rwa [upd_fz] at this
  have hn : ∀ a ∈ f1 ++ f2, upd H p o a = H a := fun a ha => upd_ne fun z => hin a ha (by rw [z]; exact hp)
  have l := le_new (o := o) hF
  exact ⟨_, f1, f2, g2, .cons (.sh (hd _ (hr.mono l) upd_same)) (ht.mono l fun a ha => hn a (List.mem_append_left _ ha)), hs.mono l fun a ha => hn a (List.mem_append_right _ ha)⟩
theorem Rel.tup {ds : List D} {vs : List V} {p : Addr} (hp : H p = none) (e : vs.length = ds.length) (h : Rel K G H σ ρ (vs.map some ++ τ) (ds.map Sl.sh ++ δ)) : Rel K G (upd H p (.tup vs)) σ ρ (some (.ref p) :: τ) (.sh (.tup ds) :: δ) :=
  h.newF hp e fun F r z => .tup (SqT.of z) r
theorem RepL.own {F : Hp} : ∀ {vs : List V} {ds : List D}, RepL K F vs ds → OwnL K F H .fr vs ds []
  | _, _, .nil => .nil
  | _, _, .cons r t => .cons (f := []) (.fr r) (RepL.own t)
theorem OwnL.rep {F : Hp} : ∀ {vs : List V} {ds : List D} {fp : List Addr}, OwnL K F H .fr vs ds fp → RepL K F vs ds ∧ fp = []
  | _, _, _, .nil => ⟨.nil, rfl⟩
  | _, _, _, .cons (.fr r) t => by
    obtain ⟨a, rfl⟩ := OwnL.rep t
    exact ⟨.cons r a, rfl⟩
theorem RepK.own {F : Hp} : ∀ {vs : List (Key × V)} {ds : List (Key × D)}, RepK K F vs ds → OwnK K F H .fr vs ds []
  | _, _, .nil => .nil
  | _, _, .cons r t => .cons (f := []) (.fr r) (RepK.own t)
theorem OwnK.rep {F : Hp} : ∀ {vs : List (Key × V)} {ds : List (Key × D)} {fp : List Addr}, OwnK K F H .fr vs ds fp → RepK K F vs ds ∧ fp = []
  | _, _, _, .nil => ⟨.nil, rfl⟩
  | _, _, _, .cons (.fr r) t => by
    obtain ⟨a, rfl⟩ := OwnK.rep t
    exact ⟨.cons r a, rfl⟩
theorem Rel.newO {ds : List D} {vs : List V} {p : Addr} {o : HO} {s : Sh} (hp : H p = none) (e : vs.length = ds.length) (h : Rel K G H σ ρ (vs.map some ++ τ) (ds.map Sl.sh ++ δ)) (hd : ∀ F, RepL K F vs ds → Own K F (upd H p o) s (.ref p) d [p]) :
    Rel K G (upd H p o) σ ρ (some (.ref p) :: τ) (.ow s d :: δ) := by
  obtain ⟨F, f1, f2, g, ht, hs⟩ := h
  obtain ⟨hr, ht⟩ := ht.shs e
  have hin : ∀ a ∈ f1 ++ f2, H a ≠ none := fun a ha => by
    rcases List.mem_append.mp ha with z | z
    · exact ht.here a z
    · exact hs.here a z
  have hn : ∀ a ∈ f1 ++ f2, upd H p o a = H a := fun a ha => upd_ne fun z => hin a ha (by rw [z]; exact hp)
  exact ⟨F, p :: f1, f2, g.newO hin hp o, .cons (.ow (hd F hr)) (ht.mono Le.rfl fun a ha => hn a (List.mem_append_left _ ha)), hs.mono Le.rfl fun a ha => hn a (List.mem_append_right _ ha)⟩
theorem Rel.lst {ds : List D} {vs : List V} {p : Addr} (hp : H p = none) (e : vs.length = ds.length) (h : Rel K G H σ ρ (vs.map some ++ τ) (ds.map Sl.sh ++ δ)) : Rel K G (upd H p (.lst vs)) σ ρ (some (.ref p) :: τ) (.ow (.ol .fr) (.lst ds) :: δ) :=
  h.newO hp e fun F r => .ol upd_same r.own
end
structure Er where
  c : Nat
  d : D
abbrev Env := List Sl
structure M (α : Type) where
  wp : Env → (α → Env → Prop) → (Er → Env → Prop) → Prop
  mono : ∀ {ρ : Env} {Q Q' : α → Env → Prop} {E E' : Er → Env → Prop}, (∀ a r, Q a r → Q' a r) → (∀ e r, E e r → E' e r) → wp ρ Q E → wp ρ Q' E'
namespace M
variable {α β : Type}
def ret (a : α) : M α := ⟨fun ρ Q _ => Q a ρ, fun h _ w => h _ _ w⟩
def bind (m : M α) (k : α → M β) : M β := ⟨fun ρ Q E => m.wp ρ (fun a r => (k a).wp r Q E) E, fun h h' w => m.mono (fun _ _ z => (k _).mono h h' z) h' w⟩
def stuck : M α := ⟨fun _ _ _ => False, fun _ _ w => w⟩
def get : M Env := ⟨fun ρ Q _ => Q ρ ρ, fun h _ w => h _ _ w⟩
def set (r : Env) : M Unit := ⟨fun _ Q _ => Q () r, fun h _ w => h _ _ w⟩
def any (p : α → Prop) : M α := ⟨fun ρ Q _ => ∀ a, p a → Q a ρ, fun h _ w a z => h _ _ (w a z)⟩
def ite (b : Bool) (m k : M α) : M α := ⟨fun ρ Q E => if b = true then m.wp ρ Q E else k.wp ρ Q E, fun {ρ Q Q' E E'} h h' w => by
  cases b with
  | true => exact m.mono h h' w
  | false => exact k.mono h h' w⟩
end M
abbrev ME := M Sl
abbrev MT := M Bool
abbrev MA := M (List Sl)
def XE (E : XK) (H : Hp) (C : Addr) (f : Str) (v : V) : Prop := (f = ("" : Str) → E (.ref C) none H) ∧ (f ≠ ("" : Str) → ∀ d : Addr, H d = none → E (.ref C) (some d) (upd H d (.xd [(f, v)])))
def dOf (c : Nat) (d : Addr) : Option Addr := if ef c = ("" : Str) then none else some d
theorem dOf_b {c : Nat} {d : Addr} (h : ef c = ("" : Str)) : dOf c d = none := if_pos h
theorem dOf_f {c : Nat} {d : Addr} (h : ef c ≠ ("" : Str)) : dOf c d = some d := if_neg h
abbrev WS := L2.St → XK
abbrev exQ (K : PySem.W.Frag) (W : WS) (G : Ent) (σ τ : L2.St) (δ : List Sl) : Er → Env → Prop := fun er ρ' => ∀ v H', Rel K G H' σ ρ' (some v :: τ) (.sh er.d :: δ) → XE (W σ) H' (He.ga K (en er.c)) (ef er.c) v
def EOk (K : PySem.W.Frag) (W : WS) (t : TE) (m : ME) : Prop := ∀ (G : Ent) (H : Hp) (σ : L2.St) (ρ : Env) (τ : L2.St) (δ : List Sl) (Q : VK), Rel K G H σ ρ τ δ →
  m.wp ρ (fun s ρ' => ∀ v H', Rel K G H' σ ρ' (some v :: τ) (s :: δ) → Q v H') (exQ K W G σ τ δ) → t σ H Q
def TOk (K : PySem.W.Frag) (W : WS) (t : TT) (m : MT) : Prop := ∀ (G : Ent) (H : Hp) (σ : L2.St) (ρ : Env) (τ : L2.St) (δ : List Sl) (Q : Bool → Hp → Prop), Rel K G H σ ρ τ δ →
  m.wp ρ (fun b ρ' => ∀ H', Rel K G H' σ ρ' τ δ → Q b H') (exQ K W G σ τ δ) → t σ H Q
def AOk (K : PySem.W.Frag) (W : WS) (t : TA) (m : MA) : Prop := ∀ (G : Ent) (H : Hp) (σ : L2.St) (ρ : Env) (τ : L2.St) (δ : List Sl) (Q : List V → Hp → Prop), Rel K G H σ ρ τ δ →
  m.wp ρ (fun ss ρ' => ∀ vs H', vs.length = ss.length → Rel K G H' σ ρ' (vs.map some ++ τ) (ss ++ δ) → Q vs H') (exQ K W G σ τ δ) → t σ H Q
def R2Ok (K : PySem.W.Frag) (r : R2) (f : Sl → Sl → ME) : Prop := ∀ (G : Ent) (H : Hp) (σ : L2.St) (ρ : Env) (τ : L2.St) (δ : List Sl) (x y : V) (s1 s2 : Sl) (Q : VK) (E : Er → Env → Prop), Rel K G H σ ρ (some y :: some x :: τ) (s2 :: s1 :: δ) →
  (f s1 s2).wp ρ (fun s ρ' => ∀ v H', Rel K G H' σ ρ' (some v :: τ) (s :: δ) → Q v H') E → r x y H Q
def R1Ok (K : PySem.W.Frag) (r : V → Hp → VK → Prop) (f : Sl → ME) : Prop := ∀ (G : Ent) (H : Hp) (σ : L2.St) (ρ : Env) (τ : L2.St) (δ : List Sl) (x : V) (s1 : Sl) (Q : VK) (E : Er → Env → Prop), Rel K G H σ ρ (some x :: τ) (s1 :: δ) →
  (f s1).wp ρ (fun s ρ' => ∀ v H', Rel K G H' σ ρ' (some v :: τ) (s :: δ) → Q v H') E → r x H Q
def op2 (g : D → D → Option D) : Sl → Sl → ME
  | .sh a, .sh b => match g a b with
    | some d => M.ret (.sh d)
    | none => M.stuck
  | _, _ => M.stuck
def op1 (g : D → Option D) : Sl → ME
  | .sh a => match g a with
    | some d => M.ret (.sh d)
    | none => M.stuck
  | _ => M.stuck
def mOp (f : Sl → Sl → ME) (a b : ME) : ME := a.bind fun x => b.bind fun y => f x y
def mUn (f : Sl → ME) (a : ME) : ME := a.bind f
def mVar (i : Nat) : ME := ⟨fun ρ Q _ => match ρ[i]? with
  | some (.sh d) => Q (.sh d) ρ
  | _ => False, fun {ρ Q Q' E E'} h _ w => by
    revert w
    split
    · exact fun w => h _ _ w
    · exact id⟩
def mC (d : D) : ME := M.ret (.sh d)
def mFz (a : ME) : ME := a.bind fun s => M.ret s.fz
section
variable {K : PySem.W.Frag} {W : WS} {ta tb tc : TE} {ma mb mc : ME} {r r' : R2} {f f' : Sl → Sl → ME}
theorem eVar {i : Nat} : EOk K W (tVar i) (mVar i) := by
  intro G H σ ρ τ δ Q h w
  unfold mVar at w
  simp only at w
  split at w
  · rename_i d e
    obtain ⟨v, e1, h1⟩ := h.get e
    exact ⟨v, e1, w v H h1⟩
  · exact w.elim
theorem eC {v : V} {d : D} (e : d.val = some v := by rfl) : EOk K W (tC v) (mC d) := fun G H σ ρ τ δ Q h w => w v H (h.push e)
theorem eFz {t : TE} (h : EOk K W t ma) : EOk K W t (mFz ma) := fun G H σ ρ τ δ Q hr w => h G H σ ρ τ δ Q hr (ma.mono (fun s ρ' z v H' q => z v H' q.fz) (fun _ _ z => z) w)
theorem eOp (hr : R2Ok K r f) (ha : EOk K W ta ma) (hb : EOk K W tb mb) : EOk K W (tOp r ta tb) (mOp f ma mb) := fun G H σ ρ τ δ Q h w =>
  ha G H σ ρ τ δ _ h (ma.mono (fun s1 ρ1 w1 v1 H1 h1 => hb G H1 σ ρ1 _ _ _ h1 (mb.mono (fun s2 ρ2 w2 v2 H2 h2 => hr G H2 σ ρ2 τ δ v1 v2 s1 s2 Q _ h2 w2) (fun e ρ' z v H' q => z v H' q.drop2) w1)) (fun _ _ z => z) w)
end
end Dl
namespace Dl
open PySem PySem.Spec PyProof.Rows L2
section
variable {K : PySem.W.Frag} {F : Hp}
theorem RepL.len {F : Hp} : ∀ {vs : List V} {ds : List D}, RepL K F vs ds → vs.length = ds.length
  | _, _, .nil => rfl
  | _, _, .cons _ t => by simp [RepL.len t]
theorem RepL.get {F : Hp} : ∀ {vs : List V} {ds : List D} {i : Nat} {d : D}, RepL K F vs ds → ds[i]? = some d → ∃ v, vs[i]? = some v ∧ Rep K F v d
  | _, _, _, _, .nil, e => by cases e
  | _, _, 0, _, .cons r _, e => by cases e; exact ⟨_, rfl, r⟩
  | _, _, i + 1, _, .cons _ t, e => RepL.get (i := i) t e
theorem RepL.drop {F : Hp} : ∀ {vs : List V} {ds : List D} (n : Nat), RepL K F vs ds → RepL K F (vs.drop n) (ds.drop n)
  | _, _, 0, h => h
  | _, _, _ + 1, .nil => .nil
  | _, _, n + 1, .cons _ t => RepL.drop n t
theorem RepL.take {F : Hp} : ∀ {vs : List V} {ds : List D} (n : Nat), RepL K F vs ds → RepL K F (vs.take n) (ds.take n)
  | _, _, 0, _ => .nil
  | _, _, _ + 1, .nil => .nil
  | _, _, n + 1, .cons r t => .cons r (RepL.take n t)
theorem RepL.app {F : Hp} : ∀ {vs us : List V} {ds es : List D}, RepL K F vs ds → RepL K F us es → RepL K F (vs ++ us) (ds ++ es)
  | _, _, _, _, .nil, h => h
  | _, _, _, _, .cons r t, h => .cons r (RepL.app t h)
theorem RepL.set {F : Hp} {x : V} {d : D} (r : Rep K F x d) : ∀ {vs : List V} {ds : List D} (i : Nat), RepL K F vs ds → RepL K F (vs.set i x) (ds.set i d)
  | _, _, _, .nil => .nil
  | _, _, 0, .cons _ t => .cons r t
  | _, _, i + 1, .cons q t => .cons q (RepL.set r i t)
theorem look_at : ∀ {fs : List (Str × V)} {ns : List Str} {i : Nat} {f : Str} {v : V}, fs.map (·.1) = ns → (ns.findIdx? (· == f)) = some i → (fs.map (·.2))[i]? = some v → fs.lookup f = some v
  | [], _, i, f, v, e, h, q => by cases q
  | (k, u) :: fs, _, i, f, v, e, h, q => by
    subst e
    rw [List.map_cons, List.findIdx?_cons] at h
    rw [List.lookup_cons]
    cases hk : k == f with
    | true =>
      rw [hk] at h
      cases h
      have : f == k := by rw [beq_iff_eq] at hk ⊢; exact hk.symm
      rw [this]
      exact q
    | false =>
      rw [hk] at h
      have : (f == k) = false := by
        rw [beq_eq_false_iff_ne] at hk ⊢; exact fun z => hk z.symm
      rw [this]
      simp only [Bool.false_eq_true, if_false] at h
      cases hj : (List.map (fun x => x.1) fs).findIdx? (fun x => x == f) with
      | none => rw [hj] at h; cases h
      | some j =>
        rw [hj] at h
        cases h
        exact look_at rfl hj q
theorem look_no : ∀ {fs : List (Str × V)} {f : Str}, f ∉ fs.map (·.1) → fs.lookup f = none
  | [], _, _ => rfl
  | (k, u) :: fs, f, h => by
    rw [List.lookup_cons]
    have : (f == k) = false := by
      rw [beq_eq_false_iff_ne]; exact fun z => h (by rw [z]; simp)
    rw [this]
    exact look_no fun z => h (List.mem_cons_of_mem _ z)
end
section
variable {K : PySem.W.Frag} {G : Ent} {H H' : Hp} {σ τ : L2.St} {ρ δ : List Sl} {v x : V} {s : Sl} {d : D}
structure Fz (K : PySem.W.Frag) (G : Ent) (H : Hp) (σ : L2.St) (ρ : Env) (τ : L2.St) (δ : List Sl) (F : Hp) : Prop where
  le : Le F H
  sh : ∀ u z, Rep K F u z → Rel K G H σ ρ (some u :: τ) (.sh z :: δ)
  ow : ∀ p o s z, H p = none → Own K F (upd H p o) s (.ref p) z [p] → Rel K G (upd H p o) σ ρ (some (.ref p) :: τ) (.ow s z :: δ)
  nw : ∀ p o z, H p = none → (∀ F', Le F F' → F' p = some o → Rep K F' (.ref p) z) → Rel K G (upd H p o) σ ρ (some (.ref p) :: τ) (.sh z :: δ)
theorem Rel.fzs {F : Hp} {f1 f2 : List Addr} (g : Good G F H (f1 ++ f2)) (ht : Slots K F H τ δ f1) (hs : Slots K F H σ ρ f2) : Fz K G H σ ρ τ δ F := by
  have hin : ∀ a ∈ f1 ++ f2, H a ≠ none := fun a ha => by
    rcases List.mem_append.mp ha with z | z
    · exact ht.here a z
    · exact hs.here a z
  refine ⟨g.sub, fun u z r => ⟨F, _, f2, g, .cons (.sh r) ht, hs⟩, fun p o s z hp r => ?_, fun p o z hp r => ?_⟩
  · have hn : ∀ a ∈ f1 ++ f2, upd H p o a = H a := fun a ha => upd_ne fun z => hin a ha (by rw [z]; exact hp)
    exact ⟨F, p :: f1, f2, g.newO hin hp o, .cons (.ow r) (ht.mono Le.rfl fun a ha => hn a (List.mem_append_left _ ha)), hs.mono Le.rfl fun a ha => hn a (List.mem_append_right _ ha)⟩
  · have g1 := g.newO hin hp o
    have hF : F p = none := g1.nf p (by simp)
    have g2 : Good G (upd F p o) (upd H p o) (f1 ++ f2) := by
      have := Good.fz (f := [p]) (fp := f1 ++ f2) g1
      rwa [upd_fz] at this
    have hn : ∀ a ∈ f1 ++ f2, upd H p o a = H a := fun a ha => upd_ne fun z => hin a ha (by rw [z]; exact hp)
    have l := le_new (o := o) hF
    exact ⟨_, f1, f2, g2, .cons (.sh (r _ l upd_same)) (ht.mono l fun a ha => hn a (List.mem_append_left _ ha)), hs.mono l fun a ha => hn a (List.mem_append_right _ ha)⟩
theorem Rel.top (h : Rel K G H σ ρ (some v :: τ) (.sh d :: δ)) : ∃ F, Rep K F v d ∧ Fz K G H σ ρ τ δ F := by
  obtain ⟨F, f1, f2, g, ht, hs⟩ := h
  cases ht with
  | cons h1 h2 =>
    cases h1 with
    | sh r => exact ⟨F, r, Rel.fzs g h2 hs⟩
theorem Rel.top2 {y : V} {e : D} (h : Rel K G H σ ρ (some y :: some x :: τ) (.sh e :: .sh d :: δ)) : ∃ F, Rep K F x d ∧ Rep K F y e ∧ Fz K G H σ ρ τ δ F := by
  obtain ⟨F, f1, f2, g, ht, hs⟩ := h
  cases ht with
  | cons h1 h2 =>
    cases h1 with
    | sh r =>
      cases h2 with
      | cons h3 h4 =>
        cases h3 with
        | sh r' => exact ⟨F, r', r, Rel.fzs g h4 hs⟩
end
section
variable {K : PySem.W.Frag} {W : WS}
def dI (g : Int → Int → D) : D → D → Option D
  | .int i, .int j => some (g i j)
  | _, _ => none
theorem op2_go {g : D → D → Option D} {s1 s2 : Sl} {ρ : Env} {Q : Sl → Env → Prop} {E : Er → Env → Prop} (w : (op2 g s1 s2).wp ρ Q E) : ∃ a b d, s1 = .sh a ∧ s2 = .sh b ∧ g a b = some d ∧ Q (.sh d) ρ := by
  unfold op2 at w
  split at w
  · split at w
    · exact ⟨_, _, _, rfl, rfl, by assumption, w⟩
    · exact w.elim
  · exact w.elim
theorem op1_go {g : D → Option D} {s1 : Sl} {ρ : Env} {Q : Sl → Env → Prop} {E : Er → Env → Prop} (w : (op1 g s1).wp ρ Q E) : ∃ a d, s1 = .sh a ∧ g a = some d ∧ Q (.sh d) ρ := by
  unfold op1 at w
  split at w
  · split at w
    · exact ⟨_, _, rfl, by assumption, w⟩
    · exact w.elim
  · exact w.elim
theorem dI_go {g : Int → Int → D} {a b d : D} (e : dI g a b = some d) : ∃ i j, a = .int i ∧ b = .int j ∧ d = g i j := by
  unfold dI at e
  split at e
  · exact ⟨_, _, rfl, rfl, (Option.some.inj e).symm⟩
  · cases e
theorem r_I0 {g : Int → Int → V} {gd : Int → Int → D} (h : ∀ i j, (gd i j).val = some (g i j) := by intro _ _; rfl) : R2Ok K (rI0 g) (op2 (dI gd)) := by
  intro G H σ ρ τ δ x y s1 s2 Q E hr w
  obtain ⟨a, b, d, rfl, rfl, e, q⟩ := op2_go w
  obtain ⟨i, j, rfl, rfl, rfl⟩ := dI_go e
  obtain rfl := hr.topv (u := .int j) rfl
  obtain rfl := hr.pop.topv (u := .int i) rfl
  exact ⟨i, j, rfl, rfl, q _ _ (hr.pop.pop.push (h i j))⟩
def dAdd := dI fun i j => .int (i + j)
def dSub := dI fun i j => .int (i - j)
def dLt := dI fun i j => .bl (decide (i < j))
def dLe := dI fun i j => .bl (decide (i ≤ j))
def dGt := dI fun i j => .bl (decide (i > j))
def dGe := dI fun i j => .bl (decide (i ≥ j))
theorem r_add : R2Ok K (rI0 fun i j => .int (i + j)) (op2 dAdd) := r_I0
theorem r_sub : R2Ok K (rI0 fun i j => .int (i - j)) (op2 dSub) := r_I0
theorem r_lt : R2Ok K (rI0 fun i j => .bl (decide (i < j))) (op2 dLt) := r_I0
theorem r_le : R2Ok K (rI0 fun i j => .bl (decide (i ≤ j))) (op2 dLe) := r_I0
theorem r_gt : R2Ok K (rI0 fun i j => .bl (decide (j < i))) (op2 dGt) := r_I0
theorem r_ge : R2Ok K (rI0 fun i j => .bl (decide (j ≤ i))) (op2 dGe) := r_I0
def dEq (neg : Bool) : D → D → Option D
  | .int i, .int j => some (.bl (neg ^^ decide (i = j)))
  | .str x, .str y => some (.bl (neg ^^ decide (x = y)))
  | .bl a, .bl b => some (.bl (neg ^^ decide (a = b)))
  | .non, .non => some (.bl (neg ^^ true))
  | .non, .int _ | .int _, .non | .non, .str _ | .str _, .non | .non, .bl _ | .bl _, .non => some (.bl (neg ^^ false))
  | .int _, .str _ | .str _, .int _ | .bl _, .str _ | .str _, .bl _ => some (.bl (neg ^^ false))
  | _, _ => none
theorem dEq_go {neg : Bool} {a b d : D} (e : dEq neg a b = some d) : ∃ x y, a.val = some x ∧ b.val = some y ∧ scal x y = true ∧ d = .bl (neg ^^ decide (x = y)) := by
  unfold dEq at e
  split at e
  case h_1 i j => exact ⟨_, _, rfl, rfl, rfl, by rw [← Option.some.inj e]; simp⟩
  case h_2 i j => exact ⟨_, _, rfl, rfl, rfl, by rw [← Option.some.inj e]; simp⟩
  case h_3 i j => exact ⟨_, _, rfl, rfl, rfl, by rw [← Option.some.inj e]; simp⟩
  all_goals first
    | (cases e; done)
    | exact ⟨_, _, rfl, rfl, rfl, by rw [← Option.some.inj e]; simp⟩
theorem r_eq : R2Ok K rEq (op2 (dEq false)) := by
  intro G H σ ρ τ δ x y s1 s2 Q E hr w
  obtain ⟨a, b, d, rfl, rfl, e, q⟩ := op2_go w
  obtain ⟨u, z, h1, h2, h3, rfl⟩ := dEq_go e
  obtain rfl := hr.topv h2
  obtain rfl := hr.pop.topv h1
  exact ⟨h3, q _ _ (hr.pop.pop.push (by simp [D.val]))⟩
theorem r_ne : R2Ok K rNe (op2 (dEq true)) := by
  intro G H σ ρ τ δ x y s1 s2 Q E hr w
  obtain ⟨a, b, d, rfl, rfl, e, q⟩ := op2_go w
  obtain ⟨u, z, h1, h2, h3, rfl⟩ := dEq_go e
  obtain rfl := hr.topv h2
  obtain rfl := hr.pop.topv h1
  exact ⟨h3, q _ _ (hr.pop.pop.push (by simp [D.val]))⟩
def dIsB (neg : Bool) : D → D → Option D
  | .bl a, .bl b => some (.bl (neg ^^ decide (a = b)))
  | _, _ => none
theorem r_isB : R2Ok K rIsB (op2 (dIsB false)) := by
  intro G H σ ρ τ δ x y s1 s2 Q E hr w
  obtain ⟨a, b, d, rfl, rfl, e, q⟩ := op2_go w
  unfold dIsB at e
  split at e
  · rename_i a b
    obtain rfl := hr.topv (u := .bl b) rfl
    obtain rfl := hr.pop.topv (u := .bl a) rfl
    exact ⟨a, b, rfl, rfl, q _ _ (hr.pop.pop.push (by rw [← Option.some.inj e]; simp [D.val]))⟩
  · cases e
theorem r_isntB : R2Ok K rNotB (op2 (dIsB true)) := by
  intro G H σ ρ τ δ x y s1 s2 Q E hr w
  obtain ⟨a, b, d, rfl, rfl, e, q⟩ := op2_go w
  unfold dIsB at e
  split at e
  · rename_i a b
    obtain rfl := hr.topv (u := .bl b) rfl
    obtain rfl := hr.pop.topv (u := .bl a) rfl
    exact ⟨a, b, rfl, rfl, q _ _ (hr.pop.pop.push (by rw [← Option.some.inj e]; simp [D.val]))⟩
  · cases e
def opStr : Sl → Sl → ME := fun s1 s2 => ⟨fun ρ Q _ => match s1, s2 with
  | .sh (.str i), .sh (.str j) => i.length + j.length ≤ sizeLine ∧ Q (.sh (.str (i ++ j))) ρ
  | _, _ => False, fun {ρ Q Q' E E'} h _ w => by
    revert w
    split
    · exact fun w => ⟨w.1, h _ _ w.2⟩
    · exact id⟩
theorem r_addS : R2Ok K (fun x y H Q => ∃ i j, x = .str i ∧ y = .str j ∧ i.length + j.length ≤ sizeLine ∧ Q (.str (i ++ j)) H) opStr := by
  intro G H σ ρ τ δ x y s1 s2 Q E hr w
  unfold opStr at w
  simp only at w
  split at w
  · rename_i i j
    obtain rfl := hr.topv (u := .str j) rfl
    obtain rfl := hr.pop.topv (u := .str i) rfl
    exact ⟨i, j, rfl, rfl, w.1, w.2 _ _ (hr.pop.pop.push rfl)⟩
  · exact w.elim
def dInS (neg : Bool) : D → D → Option D
  | .str x, .str z => match x.cps.toList with
    | [c] => some (.bl (neg ^^ decide (c ∈ z.cps.toList)))
    | _ => none
  | _, _ => none
theorem dInS_go {neg : Bool} {a b d : D} (e : dInS neg a b = some d) : ∃ (c : Nat) (z : Str), a = .str ⟨#[c]⟩ ∧ b = .str z ∧ d = .bl (neg ^^ decide (c ∈ z.cps.toList)) := by
  unfold dInS at e
  split at e
  · rename_i x z
    split at e
    · rename_i c h
      refine ⟨c, z, ?_, rfl, (Option.some.inj e).symm⟩
      have : x.cps = #[c] := by
        apply Array.ext'
        rw [h]
      cases x
      simp only at this
      rw [this]
    · cases e
  · cases e
theorem r_ninS : R2Ok K (fun x y H Q => ∃ (c : Nat) (z : Str), x = .str ⟨#[c]⟩ ∧ y = .str z ∧ Q (.bl (!decide (c ∈ z.cps.toList))) H) (op2 (dInS true)) := by
  intro G H σ ρ τ δ x y s1 s2 Q E hr w
  obtain ⟨a, b, d, rfl, rfl, e, q⟩ := op2_go w
  obtain ⟨c, z, rfl, rfl, rfl⟩ := dInS_go e
  obtain rfl := hr.topv (u := .str z) rfl
  obtain rfl := hr.pop.topv (u := .str ⟨#[c]⟩) rfl
  exact ⟨c, z, rfl, rfl, q _ _ (hr.pop.pop.push (by simp [D.val]))⟩
end
end Dl
namespace Dl
open PySem PySem.Spec PyProof.Rows L2
section
variable {K : PySem.W.Frag} {W : WS} {ta tb tc : TE} {ma mb mc : ME} {r r' : R2} {f f' : Sl → Sl → ME}
def dIxL : D → D → Option D
  | .lst xs, .int i => atI xs i
  | _, _ => none
def dIxT : D → D → Option D
  | .tup xs, .int i => atI xs i
  | _, _ => none
theorem RepL.atI {F : Hp} {vs : List V} {ds : List D} {i : Int} {d : D} (h : RepL K F vs ds) (e : L2.atI ds i = some d) : ∃ v, L2.atI vs i = some v ∧ Rep K F v d := by
  unfold L2.atI at e ⊢
  rw [h.len]
  cases hj : ixN ds.length i with
  | none => rw [hj] at e; cases e
  | some j =>
    rw [hj] at e
    exact RepL.get h e
theorem r_ixL : R2Ok K (rIxL K) (op2 dIxL) := by
  intro G H σ ρ τ δ x y s1 s2 Q E hr w
  obtain ⟨a, b, d, rfl, rfl, e, q⟩ := op2_go w
  obtain ⟨F, r1, r2, z⟩ := hr.top2
  unfold dIxL at e
  split at e
  · cases r1 with
    | lst h r =>
      cases r2
      obtain ⟨v, h1, h2⟩ := r.atI e
      exact ⟨_, _, _, v, rfl, rfl, SqL.of (z.le _ _ h), h1, q _ _ (z.sh _ _ h2)⟩
  · cases e
theorem r_ixT : R2Ok K (rIxT K) (op2 dIxT) := by
  intro G H σ ρ τ δ x y s1 s2 Q E hr w
  obtain ⟨a, b, d, rfl, rfl, e, q⟩ := op2_go w
  obtain ⟨F, r1, r2, z⟩ := hr.top2
  unfold dIxT at e
  split at e
  · cases r1 with
    | tup h r =>
      cases r2
      obtain ⟨v, h1, h2⟩ := r.atI e
      exact ⟨_, _, _, v, rfl, rfl, sqt_mono z.le h, h1, q _ _ (z.sh _ _ h2)⟩
  · cases e
def opP {α : Type} (k : α → Option (Prop × Sl)) : α → ME := fun a => ⟨fun ρ Q _ => match k a with
  | some (p, s) => p ∧ Q s ρ
  | none => False, fun {ρ Q Q' E E'} h _ w => by
    revert w
    split
    · exact fun w => ⟨w.1, h _ _ w.2⟩
    · exact id⟩
theorem opP_go {α : Type} {k : α → Option (Prop × Sl)} {a : α} {ρ : Env} {Q : Sl → Env → Prop} {E : Er → Env → Prop} (w : (opP k a).wp ρ Q E) : ∃ p s, k a = some (p, s) ∧ p ∧ Q s ρ := by
  unfold opP at w
  simp only at w
  split at w
  · exact ⟨_, _, by assumption, w.1, w.2⟩
  · exact w.elim
def op2P (k : D → D → Option (Prop × Sl)) : Sl → Sl → ME := fun s1 s2 => opP (fun (p : Sl × Sl) => match p with
  | (.sh a, .sh b) => k a b
  | _ => none) (s1, s2)
theorem op2P_go {k : D → D → Option (Prop × Sl)} {s1 s2 : Sl} {ρ : Env} {Q : Sl → Env → Prop} {E : Er → Env → Prop} (w : (op2P k s1 s2).wp ρ Q E) : ∃ a b p s, s1 = .sh a ∧ s2 = .sh b ∧ k a b = some (p, s) ∧ p ∧ Q s ρ := by
  obtain ⟨p, s, e, hp, q⟩ := opP_go w
  split at e
  · rename_i a b e'
    cases e'
    exact ⟨a, b, p, s, rfl, rfl, e, hp, q⟩
  · cases e
def op1P (k : D → Option (Prop × Sl)) : Sl → ME := opP fun p => match p with
  | .sh a => k a
  | _ => none
theorem op1P_go {k : D → Option (Prop × Sl)} {s1 : Sl} {ρ : Env} {Q : Sl → Env → Prop} {E : Er → Env → Prop} (w : (op1P k s1).wp ρ Q E) : ∃ a p s, s1 = .sh a ∧ k a = some (p, s) ∧ p ∧ Q s ρ := by
  obtain ⟨p, s, e, hp, q⟩ := opP_go w
  split at e
  · exact ⟨_, p, s, rfl, e, hp, q⟩
  · cases e
def pIxS : D → D → Option (Prop × Sl)
  | .str z, .int i => match atI z.cps.toList i with
    | some c => some (z.length ≤ sizeLine, .sh (.str ⟨#[c]⟩))
    | none => none
  | _, _ => none
theorem r_ixS : R2Ok K rIxS (op2P pIxS) := by
  intro G H σ ρ τ δ x y s1 s2 Q E hr w
  obtain ⟨a, b, p, s, rfl, rfl, e, hp, q⟩ := op2P_go w
  unfold pIxS at e
  split at e
  · rename_i z i
    split at e
    · rename_i c hc
      cases e
      obtain rfl := hr.topv (u := .int i) rfl
      obtain rfl := hr.pop.topv (u := .str z) rfl
      exact ⟨z, i, c, rfl, rfl, hp, hc, q _ _ (hr.pop.pop.push rfl)⟩
    · cases e
  · cases e
def cutD (xs : List D) (lo hi : Option Int) : List D := (xs.drop (HT.sIx xs.length 0 lo)).take (HT.sIx xs.length xs.length hi - HT.sIx xs.length 0 lo)
theorem RepL.cut {F : Hp} {vs : List V} {ds : List D} (h : RepL K F vs ds) (lo hi : Option Int) : RepL K F (cutV vs lo hi) (cutD ds lo hi) := by
  unfold cutV cutD
  rw [h.len]
  exact (h.drop _).take _
abbrev MO := M (Option Int)
def OOk (K : PySem.W.Frag) (W : WS) (t : TO) (m : MO) : Prop := ∀ (G : Ent) (H : Hp) (σ : L2.St) (ρ : Env) (τ : L2.St) (δ : List Sl) (Q : Option Int → Hp → Prop), Rel K G H σ ρ τ δ →
  m.wp ρ (fun b ρ' => ∀ H', Rel K G H' σ ρ' τ δ → Q b H') (exQ K W G σ τ δ) → t σ H Q
def mPart (m : ME) : MO := m.bind fun s => match s with
  | .sh (.int i) => M.ret (some i)
  | _ => M.stuck
def mNoPart : MO := M.ret none
theorem oNone : OOk K W tNoPart mNoPart := fun G H σ ρ τ δ Q h w => w H h
theorem oSome (ha : EOk K W ta ma) : OOk K W (tPart ta) (mPart ma) := fun G H σ ρ τ δ Q h w =>
  ha G H σ ρ τ δ _ h (ma.mono (fun s1 ρ1 w1 v1 H1 h1 => by
    simp only at w1
    split at w1
    · rename_i i
      obtain rfl := h1.topv (u := .int i) rfl
      exact ⟨i, rfl, w1 H1 h1.pop⟩
    · exact w1.elim) (fun _ _ z => z) w)
def S3Ok (K : PySem.W.Frag) (r : V → Option Int → Option Int → Hp → VK → Prop) (f : Sl → Option Int → Option Int → ME) : Prop := ∀ (lo hi : Option Int), R1Ok K (fun x H Q => r x lo hi H Q) (fun s => f s lo hi)
def mSl (f : Sl → Option Int → Option Int → ME) (ma : ME) (ml mh : MO) : ME := ma.bind fun s => ml.bind fun lo => mh.bind fun hi => f s lo hi
theorem eSl {r : V → Option Int → Option Int → Hp → VK → Prop} {f : Sl → Option Int → Option Int → ME} {tl th : TO} {ml mh : MO} (hr : S3Ok K r f) (ha : EOk K W ta ma) (hl : OOk K W tl ml) (hh : OOk K W th mh) : EOk K W (tSl r ta tl th) (mSl f ma ml mh) := fun G H σ ρ τ δ Q h w =>
  ha G H σ ρ τ δ _ h (ma.mono (fun s1 ρ1 w1 v1 H1 h1 => hl G H1 σ ρ1 _ _ _ h1 (ml.mono (fun lo ρ2 w2 H2 h2 => hh G H2 σ ρ2 _ _ _ h2 (mh.mono (fun hi ρ3 w3 H3 h3 => hr lo hi G H3 σ ρ3 τ δ v1 s1 Q _ h3 w3) (fun e ρ' z v H' q => z v H' q.drop2) w2)) (fun e ρ' z v H' q => z v H' q.drop2) w1)) (fun _ _ z => z) w)
def fSlS (s : Sl) (lo hi : Option Int) : ME := op1P (fun d => match d with
  | .str z => some (z.length ≤ sizeLine, .sh (.str (cutS z lo hi)))
  | _ => none) s
theorem s_s : S3Ok K rSlS fSlS := by
  intro lo hi G H σ ρ τ δ x s1 Q E hr w
  obtain ⟨a, p, s, rfl, e, hp, q⟩ := op1P_go w
  split at e
  · rename_i z
    cases e
    obtain rfl := hr.topv (u := .str z) rfl
    exact ⟨z, rfl, hp, q _ _ (hr.pop.push rfl)⟩
  · cases e
mutual
def D.py : D → PyData
  | .non => .none
  | .bl b => .bool b
  | .int i => .int i
  | .str x => .str x
  | .lst xs => .list (D.pys xs)
  | .tup xs => .tuple (D.pys xs)
  | .dic _ => .dict []
  | .dil _ => .dict []
  | .obj _ _ => .dict []
  | .cls _ => .dict []
  | .scr => .dict []
  | .idn _ _ => .dict []
def D.pys : List D → List PyData
  | [] => []
  | d :: ds => D.py d :: D.pys ds
end
mutual
/-- no objects, no dicts within -/
inductive Plain : D → Prop
  | non : Plain .non
  | bl (b : Bool) : Plain (.bl b)
  | int (i : Int) : Plain (.int i)
  | str (x : Str) : Plain (.str x)
  | lst {xs : List D} : Plains xs → Plain (.lst xs)
  | tup {xs : List D} : Plains xs → Plain (.tup xs)
inductive Plains : List D → Prop
  | nil : Plains []
  | cons {d : D} {ds : List D} : Plain d → Plains ds → Plains (d :: ds)
end
mutual
theorem Rep.dp {F H : Hp} (l : Le F H) : ∀ {d : D} {v : V}, Plain d → Rep K F v d → Dp K H v d.py
  | .non, _, _, .non => .non
  | .bl b, _, _, .bl _ => .bl b
  | .int i, _, _, .int _ => .int i
  | .str x, _, _, .str _ => .str x
  | .lst xs, _, .lst p, .lst h r => .lst (SqL.of (l _ _ h)) (RepL.dp l p r)
  | .tup xs, _, .tup p, .tup h r => .tup (sqt_mono l h) (RepL.dp l p r)
theorem RepL.dp {F H : Hp} (l : Le F H) : ∀ {ds : List D} {vs : List V}, Plains ds → RepL K F vs ds → DpAll K H vs (D.pys ds)
  | [], _, _, .nil => .nil
  | _ :: _, _, .cons p ps, .cons r t => .cons (Rep.dp l p r) (RepL.dp l ps t)
end
def D.fit (n : Nat) (d : D) : Prop := Plain d ∧ d.py.canLay0 = true ∧ d.py.depth ≤ n
def D.eq (a b : D) : Bool := PyData.eqv a.py b.py
def pEqD (neg : Bool) : D → D → Option (Prop × Sl) := fun a b => some (a.fit 64 ∧ b.fit 64, .sh (.bl (neg ^^ D.eq a b)))
theorem D.fit.shaped {d : D} (h : d.fit 64) : SeqAt.shaped d.py = true := by
  unfold SeqAt.shaped
  rw [h.2.1, Bool.true_and]
  exact decide_eq_true h.2.2
theorem r_eqD : R2Ok K (rEqD K) (op2P (pEqD false)) := by
  intro G H σ ρ τ δ x y s1 s2 Q E hr w
  obtain ⟨a, b, p, s, rfl, rfl, e, hp, q⟩ := op2P_go w
  obtain ⟨F, r1, r2, z⟩ := hr.top2
  cases e
  exact ⟨_, _, r1.dp z.le hp.1.1, r2.dp z.le hp.2.1, hp.1.shaped, hp.2.shaped, q _ _ (hr.pop.pop.push (by simp [D.val, D.eq]))⟩
theorem r_neD : R2Ok K (rNeD K) (op2P (pEqD true)) := by
  intro G H σ ρ τ δ x y s1 s2 Q E hr w
  obtain ⟨a, b, p, s, rfl, rfl, e, hp, q⟩ := op2P_go w
  obtain ⟨F, r1, r2, z⟩ := hr.top2
  cases e
  exact ⟨_, _, r1.dp z.le hp.1.1, r2.dp z.le hp.2.1, hp.1.shaped, hp.2.shaped, q _ _ (hr.pop.pop.push (by simp [D.val, D.eq]))⟩
def D.flat : D → Bool
  | .non => true
  | .bl _ => true
  | .int _ => true
  | .str _ => true
  | _ => false
def D.seq : D → Option (List D)
  | .lst xs => some xs
  | .tup xs => some xs
  | _ => none
def pIn (neg : Bool) : D → D → Option (Prop × Sl) := fun a b => match b.seq with
  | some xs => some (a.flat = true ∧ xs.all D.flat = true, .sh (.bl (neg ^^ xs.any fun y => D.eq y a)))
  | none => none
theorem Rep.flat {F : Hp} {v : V} {d : D} (h : Rep K F v d) (f : d.flat = true) : flatV v = true := by
  cases h <;> first | rfl | cases f
theorem Rep.eqV {F : Hp} {v u : V} {d e : D} (h : Rep K F v d) (h' : Rep K F u e) (f : d.flat = true) (f' : e.flat = true) : eqV v u = D.eq d e := by
  cases h <;> first | cases f; done | (cases h' <;> first | (cases f'; done) | (simp [L2.eqV, D.eq, D.py, PyData.eqv]))
theorem RepL.flat {F : Hp} : ∀ {vs : List V} {ds : List D}, RepL K F vs ds → ds.all D.flat = true → vs.all flatV = true
  | _, _, .nil, _ => rfl
  | _, _, .cons r t, f => by
    rw [List.all_cons, Bool.and_eq_true] at f
    rw [List.all_cons, Bool.and_eq_true]
    exact ⟨r.flat f.1, RepL.flat t f.2⟩
theorem RepL.inV {F : Hp} {u : V} {e : D} (h' : Rep K F u e) (f' : e.flat = true) : ∀ {vs : List V} {ds : List D}, RepL K F vs ds → ds.all D.flat = true → L2.inV u vs = ds.any fun y => D.eq y e
  | _, _, .nil, _ => rfl
  | _, _, .cons r t, f => by
    rw [List.all_cons, Bool.and_eq_true] at f
    show (L2.eqV _ u || L2.inV u _) = _
    rw [List.any_cons, r.eqV h' f.1 f', RepL.inV h' f' t f.2]
theorem r_in {neg : Bool} : R2Ok K (rIn K neg) (op2P (pIn neg)) := by
  intro G H σ ρ τ δ x y s1 s2 Q E hr w
  obtain ⟨a, b, p, s, rfl, rfl, e, hp, q⟩ := op2P_go w
  obtain ⟨F, r1, r2, z⟩ := hr.top2
  unfold pIn at e
  split at e
  · rename_i xs hb
    cases e
    have key : ∀ (p : Addr) (vs : List V), (SqL K H p vs ∨ SqT K H p vs) → RepL K F vs xs → y = .ref p → rIn K neg x y H Q := fun p vs hs rl ey => by
      refine ⟨p, vs, ey, hs, r1.flat hp.1, rl.flat hp.2, ?_⟩
      rw [rl.inV r1 hp.1 hp.2]
      refine q _ _ (hr.pop.pop.push ?_)
      cases neg <;> simp [D.val]
    unfold D.seq at hb
    split at hb
    · cases hb
      cases r2 with
      | lst h1 rl => exact key _ _ (.inl (SqL.of (z.le _ _ h1))) rl rfl
    · cases hb
      cases r2 with
      | tup h1 rl => exact key _ _ (.inr (sqt_mono z.le h1)) rl rfl
    · cases hb
  · cases e
end
end Dl
namespace Dl
open PySem PySem.Spec PyProof.Rows L2
section
variable {K : PySem.W.Frag} {W : WS} {ta tb tc : TE} {ma mb mc : ME} {r r' : R2} {f f' : Sl → Sl → ME} {tA tB' : TT} {mA mB : MT}
theorem eUn {r : V → Hp → VK → Prop} {f : Sl → ME} (hr : R1Ok K r f) (ha : EOk K W ta ma) : EOk K W (tUn r ta) (mUn f ma) := fun G H σ ρ τ δ Q h w =>
  ha G H σ ρ τ δ _ h (ma.mono (fun s1 ρ1 w1 v1 H1 h1 => hr G H1 σ ρ1 τ δ v1 s1 Q _ h1 w1) (fun _ _ z => z) w)
def dNeg : D → Option D
  | .int i => some (.int (-i))
  | _ => none
theorem r_neg : R1Ok K (rU fun i => .int (-i)) (op1 dNeg) := by
  intro G H σ ρ τ δ x s1 Q E hr w
  obtain ⟨a, d, rfl, e, q⟩ := op1_go w
  unfold dNeg at e
  split at e
  · rename_i i
    cases e
    obtain rfl := hr.topv (u := .int i) rfl
    exact ⟨i, rfl, q _ _ (hr.pop.push rfl)⟩
  · cases e
theorem eCB1 {r : List V → Hp → VK → Prop} {f : Sl → ME} (hr : R1Ok K (fun x H Q => r [x] H Q) f) (ha : EOk K W ta ma) : EOk K W (tCB r (tCons ta tNil)) (mUn f ma) := fun G H σ ρ τ δ Q h w =>
  ha G H σ ρ τ δ _ h (ma.mono (fun s1 ρ1 w1 v1 H1 h1 => hr G H1 σ ρ1 τ δ v1 s1 Q _ h1 w1) (fun _ _ z => z) w)
def dLen (d : D) : Option D := match d.seq with
  | some xs => some (.int xs.length)
  | none => none
theorem Rep.seq {F H : Hp} {v : V} {d : D} {xs : List D} (h : Rep K F v d) (l : Le F H) (e : d.seq = some xs) : ∃ p vs, v = .ref p ∧ RepL K F vs xs ∧ ((SqL K H p vs ∧ d = .lst xs ∧ F p = some (.lst vs)) ∨ (SqT K H p vs ∧ d = .tup xs)) := by
  unfold D.seq at e
  split at e
  · cases e
    cases h with
    | lst h1 r => exact ⟨_, _, rfl, r, .inl ⟨SqL.of (l _ _ h1), rfl, h1⟩⟩
  · cases e
    cases h with
    | tup h1 r => exact ⟨_, _, rfl, r, .inr ⟨sqt_mono l h1, rfl⟩⟩
  · cases e
theorem c_len : R1Ok K (fun x H Q => Cl.qLen K [x] H Q) (op1 dLen) := by
  intro G H σ ρ τ δ x s1 Q E hr w
  obtain ⟨a, d, rfl, e, q⟩ := op1_go w
  obtain ⟨F, r1, z⟩ := hr.top
  unfold dLen at e
  split at e
  · rename_i xs hx
    cases e
    obtain ⟨p, vs, rfl, rl, k⟩ := r1.seq z.le hx
    refine ⟨p, vs, rfl, ?_, ?_⟩
    · rcases k with k | k
      · exact .inl k.1
      · exact .inr k.1
    · rw [rl.len]
      exact q _ _ (hr.pop.push rfl)
  · cases e
def p1 (p : D → Option (Prop × Sl)) := op1P p
def pLenS : D → Option (Prop × Sl)
  | .str z => some (z.length ≤ sizeLine, .sh (.int z.length))
  | _ => none
theorem c_lenS : R1Ok K (fun x H Q => (fun (xs : List V) (H : Hp) (Q : VK) => ∃ z, xs = [.str z] ∧ z.length ≤ sizeLine ∧ Q (.int z.length) H) [x] H Q) (op1P pLenS) := by
  intro G H σ ρ τ δ x s1 Q E hr w
  obtain ⟨a, p, s, rfl, e, hp, q⟩ := op1P_go w
  unfold pLenS at e
  split at e
  · rename_i z
    cases e
    obtain rfl := hr.topv (u := .str z) rfl
    exact ⟨z, rfl, hp, q _ _ (hr.pop.push rfl)⟩
  · cases e
end
end Dl
namespace Dl
open PySem PySem.Spec PyProof.Rows L2
section
variable {K : PySem.W.Frag} {W : WS} {ta tb tc : TE} {ma mb mc : ME} {r r' : R2} {f f' : Sl → Sl → ME} {tA tB' : TT} {mA mB : MT} {tl : TA} {ml : MA}
def asB : Sl → MT
  | .sh (.bl b) => M.ret b
  | _ => M.stuck
theorem asB_go {s : Sl} {ρ : Env} {Q : Bool → Env → Prop} {E : Er → Env → Prop} (w : (asB s).wp ρ Q E) : ∃ b, s = .sh (.bl b) ∧ Q b ρ := by
  unfold asB at w
  split at w
  · exact ⟨_, rfl, w⟩
  · exact w.elim
def mTest (a : ME) : MT := a.bind asB
def mBl (b : Bool) : ME := M.ret (.sh (.bl b))
def mAndV (a b : ME) : ME := a.bind fun s => (asB s).bind fun c => M.ite c b (mBl false)
def mAnd (a b : MT) : MT := a.bind fun c => M.ite c b (M.ret false)
def mOr (a b : MT) : MT := a.bind fun c => M.ite c (M.ret true) b
def mNot (a : MT) : MT := a.bind fun c => M.ret (!c)
theorem eAndV (ha : EOk K W ta ma) (hb : EOk K W tb mb) : EOk K W (tAndV ta tb) (mAndV ma mb) := fun G H σ ρ τ δ Q h w =>
  ha G H σ ρ τ δ _ h (ma.mono (fun s1 ρ1 w1 v1 H1 h1 => by
    obtain ⟨c, rfl, q⟩ := asB_go w1
    obtain rfl := h1.topv (u := .bl c) rfl
    refine ⟨c, rfl, ?_⟩
    cases c with
    | true => exact hb G H1 σ ρ1 τ δ Q h1.pop q
    | false => exact q _ _ (h1.pop.push rfl)) (fun _ _ z => z) w)
def mChain (f f' : Sl → Sl → ME) (a b c : ME) : ME := a.bind fun x => b.bind fun y => (f x y).bind fun z => (asB z).bind fun k => M.ite k (c.bind fun w => f' y w) (mBl false)
def R2Kp (K : PySem.W.Frag) (r : R2) (f : Sl → Sl → ME) : Prop := ∀ (G : Ent) (H : Hp) (σ : L2.St) (ρ : Env) (τ : L2.St) (δ : List Sl) (x y : V) (s1 s2 : Sl) (Q : VK) (E : Er → Env → Prop), Rel K G H σ ρ (some y :: some x :: τ) (s2 :: s1 :: δ) →
  (f s1 s2).wp ρ (fun s ρ' => ∀ v H', Rel K G H' σ ρ' (some v :: some y :: τ) (s :: s2 :: δ) → Q v H') E → r x y H Q
theorem k_I0 {g : Int → Int → V} {gd : Int → Int → D} (h : ∀ i j, (gd i j).val = some (g i j) := by intro _ _; rfl) : R2Kp K (rI0 g) (op2 (dI gd)) := by
  intro G H σ ρ τ δ x y s1 s2 Q E hr w
  obtain ⟨a, b, d, rfl, rfl, e, q⟩ := op2_go w
  obtain ⟨i, j, rfl, rfl, rfl⟩ := dI_go e
  obtain rfl := hr.topv (u := .int j) rfl
  obtain rfl := hr.pop.topv (u := .int i) rfl
  exact ⟨i, j, rfl, rfl, q _ _ (hr.drop2.push (h i j))⟩
theorem k_le : R2Kp K (rI0 fun i j => .bl (decide (i ≤ j))) (op2 dLe) := k_I0
theorem eChain (hr : R2Kp K r f) (hr' : R2Ok K r' f') (ha : EOk K W ta ma) (hb : EOk K W tb mb) (hc : EOk K W tc mc) : EOk K W (tChain r r' ta tb tc) (mChain f f' ma mb mc) := fun G H σ ρ τ δ Q h w =>
  ha G H σ ρ τ δ _ h (ma.mono (fun s1 ρ1 w1 v1 H1 h1 => hb G H1 σ ρ1 _ _ _ h1 (mb.mono (fun s2 ρ2 w2 v2 H2 h2 => by
    refine hr G H2 σ ρ2 τ δ v1 v2 s1 s2 _ _ h2 ((f s1 s2).mono (fun s3 ρ3 w3 v3 H3 h3 => ?_) (fun _ _ z => z) w2)
    obtain ⟨c, rfl, q⟩ := asB_go w3
    obtain rfl := h3.topv (u := .bl c) rfl
    refine ⟨c, rfl, ?_⟩
    cases c with
    | true => exact hc G H3 σ ρ3 _ _ _ h3.pop (mc.mono (fun s4 ρ4 w4 v4 H4 h4 => hr' G H4 σ ρ4 τ δ v2 v4 s2 s4 Q _ h4 w4) (fun e ρ' z v H' q => z v H' q.drop2) q)
    | false => exact q _ _ (h3.pop.pop.push rfl)) (fun e ρ' z v H' q => z v H' q.drop2) w1)) (fun _ _ z => z) w)
theorem tTest' (ha : EOk K W ta ma) : TOk K W (tTest ta) (mTest ma) := fun G H σ ρ τ δ Q h w =>
  ha G H σ ρ τ δ _ h (ma.mono (fun s1 ρ1 w1 v1 H1 h1 => by
    obtain ⟨c, rfl, q⟩ := asB_go w1
    obtain rfl := h1.topv (u := .bl c) rfl
    exact ⟨c, rfl, q _ h1.pop⟩) (fun _ _ z => z) w)
theorem tVal (ha : EOk K W ta ma) : TOk K W (tB ta) (mTest ma) := tTest' ha
theorem tAnd' (ha : TOk K W tA mA) (hb : TOk K W tB' mB) : TOk K W (tAnd tA tB') (mAnd mA mB) := fun G H σ ρ τ δ Q h w =>
  ha G H σ ρ τ δ _ h (mA.mono (fun c ρ1 w1 H1 h1 => by
    cases c with
    | true => exact hb G H1 σ ρ1 τ δ Q h1 w1
    | false => exact w1 H1 h1) (fun _ _ z => z) w)
theorem tOr' (ha : TOk K W tA mA) (hb : TOk K W tB' mB) : TOk K W (tOr tA tB') (mOr mA mB) := fun G H σ ρ τ δ Q h w =>
  ha G H σ ρ τ δ _ h (mA.mono (fun c ρ1 w1 H1 h1 => by
    cases c with
    | true => exact w1 H1 h1
    | false => exact hb G H1 σ ρ1 τ δ Q h1 w1) (fun _ _ z => z) w)
theorem tNot' (ha : TOk K W tA mA) : TOk K W (tNot tA) (mNot mA) := fun G H σ ρ τ δ Q h w =>
  ha G H σ ρ τ δ _ h (mA.mono (fun c ρ1 w1 H1 h1 => w1 H1 h1) (fun _ _ z => z) w)
def mNil : MA := M.ret []
def mCons (a : ME) (l : MA) : MA := a.bind fun s => l.bind fun ss => M.ret (s :: ss)
theorem aNil : AOk K W tNil mNil := fun G H σ ρ τ δ Q h w => w [] H rfl h
theorem aCons (ha : EOk K W ta ma) (hl : AOk K W tl ml) : AOk K W (tCons ta tl) (mCons ma ml) := fun G H σ ρ τ δ Q h w =>
  ha G H σ ρ τ δ _ h (ma.mono (fun s1 ρ1 w1 v1 H1 h1 => hl G H1 σ ρ1 _ _ _ h1 (ml.mono (fun ss ρ2 w2 vs H2 hl h2 => w2 (v1 :: vs) H2 (by simp [hl]) (Rel.rot (by simp [hl]) h2)) (fun e ρ' z v H' q => z v H' q.drop2) w1)) (fun _ _ z => z) w)
def allSh : List Sl → Option (List D)
  | [] => some []
  | .sh d :: ss => match allSh ss with
    | some ds => some (d :: ds)
    | none => none
  | _ :: _ => none
theorem allSh_go : ∀ {ss : List Sl} {ds : List D}, allSh ss = some ds → ss = ds.map Sl.sh
  | [], _, e => by cases e; rfl
  | s :: ss, ds, e => by
    cases s with
    | sh d =>
      have e' : (match allSh ss with | some ds => some (d :: ds) | none => none) = some ds := e
      cases h : allSh ss with
      | none => rw [h] at e'; cases e'
      | some ms => rw [h] at e'; cases e'; rw [List.map_cons, ← allSh_go h]
    | _ => cases e
def mkSeq (g : List D → Sl) (ss : List Sl) : ME := ⟨fun ρ Q _ => match allSh ss with
  | some ds => match Nat.ble ds.length sizeLine with
    | true => Q (g ds) ρ
    | false => False
  | none => False, fun {ρ Q Q' E E'} h _ w => by
    revert w
    split
    · split
      · exact fun w => h _ _ w
      · exact id
    · exact id⟩
theorem mkSeq_go {g : List D → Sl} {ss : List Sl} {ρ : Env} {Q : Sl → Env → Prop} {E : Er → Env → Prop} (w : (mkSeq g ss).wp ρ Q E) : ∃ ds, ss = ds.map Sl.sh ∧ ds.length ≤ sizeLine ∧ Q (g ds) ρ := by
  unfold mkSeq at w
  simp only at w
  split at w
  · rename_i ds e
    split at w
    · rename_i h
      exact ⟨ds, allSh_go e, Nat.le_of_ble_eq_true h, w⟩
    · exact w.elim
  · exact w.elim
def mTup (l : MA) : ME := l.bind (mkSeq fun ds => .sh (.tup ds))
def mLst (l : MA) : ME := l.bind (mkSeq fun ds => .ow (.ol .fr) (.lst ds))
theorem eTup (hl : AOk K W tl ml) : EOk K W (tTup tl) (mTup ml) := fun G H σ ρ τ δ Q h w =>
  hl G H σ ρ τ δ _ h (ml.mono (fun ss ρ1 w1 vs H1 hn h1 => by
    obtain ⟨ds, rfl, hz, q⟩ := mkSeq_go w1
    rw [List.length_map] at hn
    exact ⟨by rw [hn]; exact hz, fun p hp => q _ _ (h1.tup hp hn)⟩) (fun _ _ z => z) w)
theorem eLst (hl : AOk K W tl ml) : EOk K W (tLst tl) (mLst ml) := fun G H σ ρ τ δ Q h w =>
  hl G H σ ρ τ δ _ h (ml.mono (fun ss ρ1 w1 vs H1 hn h1 => by
    obtain ⟨ds, rfl, hz, q⟩ := mkSeq_go w1
    rw [List.length_map] at hn
    exact ⟨by rw [hn]; exact hz, fun p hp => q _ _ (h1.lst hp hn)⟩) (fun _ _ z => z) w)
def dFld (c i : Nat) : D → Option D
  | .obj c' fs => if c' = c then fs[i]? else none
  | _ => none
def mFld (c i : Nat) (a : ME) : ME := a.bind (op1 (dFld c i))
theorem eFld {c i : Nat} {n : Str} (cl : Cls K (He.ga K (cn c))) (na : NoAttr K (He.ga K (cn c)) n) (hi : (cf c).findIdx? (· == n) = some i) (ha : EOk K W ta ma) : EOk K W (tFld K ta n) (mFld c i ma) := fun G H σ ρ τ δ Q h w =>
  ha G H σ ρ τ δ _ h (ma.mono (fun s1 ρ1 w1 v1 H1 h1 => by
    obtain ⟨a, d, rfl, e, q⟩ := op1_go w1
    obtain ⟨F, r, z⟩ := h1.top
    unfold dFld at e
    split at e
    · rename_i c' fs
      split at e
      · rename_i hc
        subst hc
        cases r with
        | obj k1 k2 kn kr =>
          obtain ⟨v, e1, r1⟩ := kr.get e
          refine ⟨_, _, _, _, v, rfl, z.le _ _ k1, cl, na, ?_, q _ _ (z.sh _ _ r1)⟩
          refine look_at (i := i) kn ?_ e1
          have hlt : i < fs.length := by
            rcases Nat.lt_or_ge i fs.length with z | z
            · exact z
            · rw [List.getElem?_eq_none z] at e; cases e
          rw [List.findIdx?_eq_some_iff_getElem] at hi ⊢
          obtain ⟨g1, g2, g3⟩ := hi
          refine ⟨by rw [List.length_take]; omega, by rw [List.getElem_take]; exact g2, fun j hj => ?_⟩
          rw [List.getElem_take]
          exact g3 j hj
      · cases e
    · cases e) (fun _ _ z => z) w)
end
end Dl
namespace Dl
open PySem PySem.Spec PyProof.Rows L2
structure MEnds where
  nx : Env → Prop
  rt : Sl → Env → Prop
  bk : Env → Prop
  ct : Env → Prop
  ex : Er → Env → Prop
structure MEnds.Le (M M' : MEnds) : Prop where
  nx : ∀ r, M.nx r → M'.nx r
  rt : ∀ s r, M.rt s r → M'.rt s r
  bk : ∀ r, M.bk r → M'.bk r
  ct : ∀ r, M.ct r → M'.ct r
  ex : ∀ e r, M.ex e r → M'.ex e r
structure MS where
  wp : Env → MEnds → Prop
  mono : ∀ {ρ : Env} {M M' : MEnds}, M.Le M' → wp ρ M → wp ρ M'
structure Into (K : PySem.W.Frag) (W : WS) (G : Ent) (τ : L2.St) (δ : List Sl) (D : Ends) (M : MEnds) : Prop where
  nx : ∀ σ ρ H, Rel K G H σ ρ τ δ → M.nx ρ → D.nx σ H
  rt : ∀ s ρ v σ H, Rel K G H σ ρ (some v :: τ) (s :: δ) → M.rt s ρ → D.rt v H
  bk : ∀ σ ρ H, Rel K G H σ ρ τ δ → M.bk ρ → D.bk σ H
  ct : ∀ σ ρ H, Rel K G H σ ρ τ δ → M.ct ρ → D.ct σ H
  ex : ∀ σ er ρ, M.ex er ρ → exQ K W G σ τ δ er ρ
def SOk (K : PySem.W.Frag) (W : WS) (t : TS) (m : MS) : Prop := ∀ (G : Ent) (H : Hp) (σ : L2.St) (ρ : Env) (τ : L2.St) (δ : List Sl) (D : Ends) (M : MEnds), Rel K G H σ ρ τ δ → Into K W G τ δ D M → m.wp ρ M → t D σ H
def sNext : MS := ⟨fun ρ M => M.nx ρ, fun h w => h.nx _ w⟩
def sSeq (a b : MS) : MS := ⟨fun ρ M => a.wp ρ { M with nx := fun r => b.wp r M }, fun {ρ M M'} h w => a.mono (M := { M with nx := fun r => b.wp r M }) ⟨fun r (z : b.wp r M) => b.mono h z, h.rt, h.bk, h.ct, h.ex⟩ w⟩
def sDrop (m : ME) : MS := ⟨fun ρ M => m.wp ρ (fun _ r => M.nx r) M.ex, fun h w => m.mono (fun _ r z => h.nx r z) h.ex w⟩
def sRet (m : ME) : MS := ⟨fun ρ M => m.wp ρ M.rt M.ex, fun h w => m.mono h.rt h.ex w⟩
def sIf (c : MT) (a b : MS) : MS := ⟨fun ρ M => c.wp ρ (fun k r => if k = true then a.wp r M else b.wp r M) M.ex, fun h w => c.mono (fun k r z => by
  cases k with
  | true => exact a.mono h z
  | false => exact b.mono h z) h.ex w⟩
section
variable {K : PySem.W.Frag} {W : WS} {ta tb tc : TE} {ma mb mc : ME} {t u : TS} {m k : MS} {tA : TT} {mA : MT}
theorem zNext : SOk K W tNext sNext := fun G H σ ρ τ δ D M h i w => i.nx σ ρ H h w
theorem zSeq (ht : SOk K W t m) (hu : SOk K W u k) : SOk K W (tSeq t u) (sSeq m k) := fun G H σ ρ τ δ D M h i w =>
  ht G H σ ρ τ δ _ { M with nx := fun r => k.wp r M } h ⟨fun σ' ρ' H' h' w' => hu G H' σ' ρ' τ δ D M h' i w', i.rt, i.bk, i.ct, i.ex⟩ w
theorem zDrop (ha : EOk K W ta ma) : SOk K W (tDrop ta) (sDrop ma) := fun G H σ ρ τ δ D M h i w =>
  ha G H σ ρ τ δ _ h (ma.mono (fun s ρ' z v H' q => i.nx σ ρ' H' q.pop z) (fun e ρ' z => i.ex σ e ρ' z) w)
theorem zRet (ha : EOk K W ta ma) : SOk K W (tRet ta) (sRet ma) := fun G H σ ρ τ δ D M h i w =>
  ha G H σ ρ τ δ _ h (ma.mono (fun s ρ' z v H' q => i.rt s ρ' v σ H' q z) (fun e ρ' z => i.ex σ e ρ' z) w)
theorem zIf (hc : TOk K W tA mA) (ht : SOk K W t m) (hu : SOk K W u k) : SOk K W (tIfS tA t u) (sIf mA m k) := fun G H σ ρ τ δ D M h i w =>
  hc G H σ ρ τ δ _ h (mA.mono (fun b ρ' z H' q => by
    cases b with
    | true => exact ht G H' σ ρ' τ δ D M q i z
    | false => exact hu G H' σ ρ' τ δ D M q i z) (fun e ρ' z => i.ex σ e ρ' z) w)
abbrev MG := Sl → M Unit
def GOk (K : PySem.W.Frag) (g : TG) (mg : MG) : Prop := ∀ (G : Ent) (H : Hp) (σ : L2.St) (ρ : Env) (τ : L2.St) (δ : List Sl) (v : V) (s : Sl) (Q : L2.St → Hp → Prop), Rel K G H σ ρ (some v :: τ) (s :: δ) →
  (mg s).wp ρ (fun _ ρ' => ∀ σ' H', Rel K G H' σ' ρ' τ δ → Q σ' H') (fun _ _ => False) → g v σ H Q
def gSet (i : Nat) : MG := fun s => ⟨fun ρ Q _ => match ρ[i]? with
  | some _ => Q () (ρ.set i s)
  | none => False, fun {ρ Q Q' E E'} h _ w => by
    revert w
    split
    · exact fun w => h _ _ w
    · exact id⟩
theorem gNm {i : Nat} : GOk K (gName i) (gSet i) := fun G H σ ρ τ δ v s Q h w => by
  unfold gSet at w
  simp only at w
  split at w
  · rename_i e
    refine w _ _ (h.set ?_)
    rcases Nat.lt_or_ge i ρ.length with z | z
    · exact z
    · rw [List.getElem?_eq_none z] at e; cases e
  · exact w.elim
def GsOk (K : PySem.W.Frag) (g : TGs) (mg : List D → M Unit) : Prop := ∀ (G : Ent) (H : Hp) (σ : L2.St) (ρ : Env) (τ : L2.St) (δ : List Sl) (vs : List V) (ds : List D) (Q : L2.St → Hp → Prop), vs.length = ds.length → Rel K G H σ ρ (vs.map some ++ τ) (ds.map Sl.sh ++ δ) →
  (mg ds).wp ρ (fun _ ρ' => ∀ σ' H', Rel K G H' σ' ρ' τ δ → Q σ' H') (fun _ _ => False) → g vs σ H Q
def gNo : List D → M Unit
  | [] => M.ret ()
  | _ => M.stuck
def gCo (g : MG) (gs : List D → M Unit) : List D → M Unit
  | d :: ds => (g (.sh d)).bind fun _ => gs ds
  | [] => M.stuck
theorem gsNil : GsOk K gNil gNo := fun G H σ ρ τ δ vs ds Q e h w => by
  unfold gNo at w
  split at w
  · cases vs with
    | nil => exact ⟨rfl, w _ _ h⟩
    | cons a l => simp at e
  · exact w.elim
theorem gsCons {g : TG} {gs : TGs} {mg : MG} {mgs : List D → M Unit} (hg : GOk K g mg) (hgs : GsOk K gs mgs) : GsOk K (gCons g gs) (gCo mg mgs) := fun G H σ ρ τ δ vs ds Q e h w => by
  cases ds with
  | nil => exact w.elim
  | cons d ds =>
    cases vs with
    | nil => simp at e
    | cons v vs => exact ⟨v, vs, rfl, hg G H σ ρ (vs.map some ++ τ) (ds.map Sl.sh ++ δ) v (.sh d) _ h ((mg (.sh d)).mono (fun _ ρ1 w1 σ1 H1 h1 => hgs G H1 σ1 ρ1 τ δ vs ds Q (by simpa using e) h1 w1) (fun _ _ z => z) w)⟩
def gTu (n : Nat) (gs : List D → M Unit) : MG
  | .sh (.tup ds) => if ds.length = n then gs ds else M.stuck
  | _ => M.stuck
theorem RepL.slots {F H : Hp} {τ : L2.St} {δ : List Sl} {f : List Addr} (h : Slots K F H τ δ f) : ∀ {vs : List V} {ds : List D}, RepL K F vs ds → Slots K F H (vs.map some ++ τ) (ds.map Sl.sh ++ δ) f
  | _, _, .nil => h
  | _, _, .cons r t => .cons (f := []) (.sh r) (RepL.slots h t)
theorem Rel.parts {G : Ent} {H : Hp} {σ : L2.St} {ρ : Env} {τ : L2.St} {δ : List Sl} {v : V} {ds : List D} (h : Rel K G H σ ρ (some v :: τ) (.sh (.tup ds) :: δ)) : ∃ a vs, v = .ref a ∧ SqT K H a vs ∧ vs.length = ds.length ∧ Rel K G H σ ρ (vs.map some ++ τ) (ds.map Sl.sh ++ δ) := by
  obtain ⟨F, f1, f2, g, ht, hs⟩ := h
  cases ht with
  | cons h1 h2 =>
    cases h1 with
    | sh r =>
      cases r with
      | @tup a vs _ h1 r =>
        refine ⟨a, vs, rfl, sqt_mono g.sub h1, r.len, F, _, f2, g, ?_, hs⟩
        exact RepL.slots h2 r
theorem gTp {n : Nat} {gs : TGs} {mgs : List D → M Unit} (hg : GsOk K gs mgs) : GOk K (gTup K n gs) (gTu n mgs) := fun G H σ ρ τ δ v s Q h w => by
  unfold gTu at w
  split at w
  · split at w
    · rename_i ds hn
      obtain ⟨a, vs, rfl, h1, h2, h3⟩ := h.parts
      exact ⟨a, vs, rfl, h1, h2.trans hn, hg G H σ ρ τ δ vs ds Q h2 h3 w⟩
    · exact w.elim
  · exact w.elim
def sAsg (m : ME) (g : MG) : MS := ⟨fun ρ M => m.wp ρ (fun s r => (g s).wp r (fun _ r' => M.nx r') (fun _ _ => False)) M.ex, fun h w => m.mono (fun s r z => (g s).mono (fun _ r' q => h.nx r' q) (fun _ _ q => q) z) h.ex w⟩
theorem zAsg {g : TG} {mg : MG} (ha : EOk K W ta ma) (hg : GOk K g mg) : SOk K W (tAsg ta g) (sAsg ma mg) := fun G H σ ρ τ δ D M h i w =>
  ha G H σ ρ τ δ _ h (ma.mono (fun s ρ1 w1 v H1 h1 => hg G H1 σ ρ1 τ δ v s _ h1 ((mg s).mono (fun _ ρ2 w2 σ2 H2 h2 => i.nx σ2 ρ2 H2 h2 w2) (fun _ _ z => z) w1)) (fun e ρ' z => i.ex σ e ρ' z) w)
abbrev MI := M (List D)
structure Walks (K : PySem.W.Frag) (G : Ent) (J : It) (ds : List D) (τ' : L2.St) (δ' : List Sl) : Prop where
  go : ∀ H σ ρ τ δ i, Rel K G H σ ρ (τ' ++ τ) (δ' ++ δ) → i < ds.length → J.go i H
  stop : ∀ H σ ρ τ δ, Rel K G H σ ρ (τ' ++ τ) (δ' ++ δ) → J.stop ds.length H
  yld : ∀ H σ ρ τ δ i x H' d, Rel K G H σ ρ (τ' ++ τ) (δ' ++ δ) → ds[i]? = some d → J.yld i H x H' → Rel K G H' σ ρ (some x :: (τ' ++ τ)) (.sh d :: (δ' ++ δ))
def IOk (K : PySem.W.Frag) (W : WS) (wi : TI) (m : MI) : Prop := ∀ (G : Ent) (H : Hp) (σ : L2.St) (ρ : Env) (τ : L2.St) (δ : List Sl) (R : It → Hp → Prop), Rel K G H σ ρ τ δ →
  m.wp ρ (fun ds ρ' => ∀ J H' τ' δ', τ'.length = δ'.length → Rel K G H' σ ρ' (τ' ++ τ) (δ' ++ δ) → Walks K G J ds τ' δ' → R J H') (exQ K W G σ τ δ) → wi σ H R
def forM (g : MG) (b : MS) : List D → Env → MEnds → Prop
  | [], ρ, M => M.nx ρ
  | d :: ds, ρ, M => (g (.sh d)).wp ρ (fun _ r => b.wp r { M with nx := fun r => forM g b ds r M, ct := fun r => forM g b ds r M, bk := M.nx }) (fun _ _ => False)
theorem forM_mono {g : MG} {b : MS} {M M' : MEnds} (h : M.Le M') : ∀ {ds : List D} {ρ : Env}, forM g b ds ρ M → forM g b ds ρ M'
  | [], ρ, w => h.nx ρ w
  | d :: ds, ρ, w => (g (.sh d)).mono (fun _ r z => b.mono (M := { M with nx := fun r => forM g b ds r M, ct := fun r => forM g b ds r M, bk := M.nx }) ⟨fun r z => forM_mono h z, h.rt, h.nx, fun r z => forM_mono h z, h.ex⟩ z) (fun _ _ z => z) w
def sFor (i : MI) (g : MG) (b : MS) : MS := ⟨fun ρ M => i.wp ρ (fun ds r => forM g b ds r M) M.ex, fun h w => i.mono (fun ds r z => forM_mono h z) h.ex w⟩
theorem for_go {J : It} {g : TG} {mg : MG} (hg : GOk K g mg) (hb : SOk K W t m) {G : Ent} {H1 : Hp} {σ τ τ' : L2.St} {ρ1 : Env} {δ δ' : List Sl} {ds : List D} {D : Ends} {M : MEnds} (el : τ'.length = δ'.length) (h1 : Rel K G H1 σ ρ1 (τ' ++ τ) (δ' ++ δ)) (hw : Walks K G J ds τ' δ') (hi' : Into K W G τ δ D M) (w1 : forM mg m ds ρ1 M) :
    ∃ W : Nat → Nat → L2.St → Hp → Prop, (∃ m, W 0 m σ H1) ∧ ∀ i m σ H, W i m σ H →
      (J.stop i H ∧ D.nx σ H) ∨ (J.go i H ∧ ∃ N : L2.St → Hp → Prop, (∀ σ' H', N σ' H' → ∃ m', m' < m ∧ W (i + 1) m' σ' H') ∧ ∀ x H', J.yld i H x H' → g x σ H' fun σ2 H2 => t { D with nx := N, ct := N, bk := D.nx } σ2 H2) := by
  refine ⟨fun i n σ' H' => n = ds.length - i ∧ i ≤ ds.length ∧ ∃ ρ', Rel K G H' σ' ρ' (τ' ++ τ) (δ' ++ δ) ∧ forM mg m (ds.drop i) ρ' M, ⟨_, rfl, Nat.zero_le _, ρ1, h1, w1⟩, ?_⟩
  rintro i n σ' H' ⟨rfl, hle, ρ', h2, w2⟩
  by_cases hlt : i < ds.length
  · have hd : ds.drop i = ds[i] :: ds.drop (i + 1) := List.drop_eq_getElem_cons hlt
    rw [hd] at w2
    refine .inr ⟨hw.go H' σ' ρ' τ δ i h2 hlt, fun σ2 H2 => ∃ ρ2, Rel K G H2 σ2 ρ2 (τ' ++ τ) (δ' ++ δ) ∧ forM mg m (ds.drop (i + 1)) ρ2 M, fun σ2 H2 ⟨ρ2, h3, w3⟩ => ⟨_, by omega, rfl, hlt, ρ2, h3, w3⟩, fun x H2 y => ?_⟩
    have h3 := hw.yld H' σ' ρ' τ δ i x H2 ds[i] h2 (List.getElem?_eq_getElem hlt) y
    refine hg G H2 σ' ρ' _ _ x _ _ h3 ((mg _).mono (fun _ ρ3 w3 σ3 H3 h4 => ?_) (fun _ _ z => z) w2)
    refine hb G H3 σ3 ρ3 _ _ _ { M with nx := fun r => forM mg m (ds.drop (i + 1)) r M, ct := fun r => forM mg m (ds.drop (i + 1)) r M, bk := M.nx } h4 ⟨fun σ4 ρ4 H4 h5 w4 => ⟨ρ4, h5, w4⟩, fun s ρ4 v σ4 H4 h5 w4 => hi'.rt s ρ4 v σ4 H4 (Rel.dropN el h5) w4, fun σ4 ρ4 H4 h5 w4 => hi'.nx σ4 ρ4 H4 (Rel.popN el h5) w4, fun σ4 ρ4 H4 h5 w4 => ⟨ρ4, h5, w4⟩, fun σ4 er ρ4 w4 v H4 h5 => hi'.ex σ4 er ρ4 w4 v H4 (Rel.dropN el h5)⟩ w3
  · have e : i = ds.length := by omega
    subst e
    rw [List.drop_length] at w2
    exact .inl ⟨hw.stop H' σ' ρ' τ δ h2, hi'.nx σ' ρ' H' (Rel.popN el h2) w2⟩
theorem zFor {wi : TI} {mi : MI} {g : TG} {mg : MG} (hi : IOk K W wi mi) (hg : GOk K g mg) (hb : SOk K W t m) : SOk K W (tFor wi g t) (sFor mi mg m) := fun G H σ ρ τ δ D M h hi' w =>
  hi G H σ ρ τ δ _ h (mi.mono (fun ds ρ1 w1 J H1 τ' δ' el h1 hw => for_go hg hb el h1 hw hi' w1) (fun e ρ' z => hi'.ex σ e ρ' z) w)
end
end Dl
namespace Dl
open PySem PySem.Spec PyProof.Rows L2
section
variable {K : PySem.W.Frag} {W : WS} {ta tb tc : TE} {ma mb mc : ME} {t u : TS} {m k : MS} {tA : TT} {mA : MT} {tl : TA} {ml : MA}
def asSeq (p : D → Option (List D)) : Sl → MI
  | .sh d => match p d with
    | some xs => M.ret xs
    | none => M.stuck
  | _ => M.stuck
theorem asSeq_go {p : D → Option (List D)} {s : Sl} {ρ : Env} {Q : List D → Env → Prop} {E : Er → Env → Prop} (w : (asSeq p s).wp ρ Q E) : ∃ d xs, s = .sh d ∧ p d = some xs ∧ Q xs ρ := by
  unfold asSeq at w
  split at w
  · split at w
    · exact ⟨_, _, rfl, by assumption, w⟩
    · exact w.elim
  · exact w.elim
def D.asL : D → Option (List D)
  | .lst xs => some xs
  | _ => none
def iL (a : ME) : MI := a.bind (asSeq D.asL)
theorem Rel.held {G : Ent} {H : Hp} {σ : L2.St} {ρ : Env} {τ : L2.St} {δ : List Sl} {v : V} {d : D} (h : Rel K G H σ ρ (some v :: τ) (.sh d :: δ)) : ∃ F, Rep K F v d ∧ Le F H ∧ ∀ u z, Rep K F u z → Rel K G H σ ρ (some u :: some v :: τ) (.sh z :: .sh d :: δ) := by
  obtain ⟨F, f1, f2, g, ht, hs⟩ := h
  cases ht with
  | cons h1 h2 =>
    cases h1 with
    | sh r => exact ⟨F, r, g.sub, fun u z q => ⟨F, _, f2, g, .cons (.sh q) (.cons (.sh r) h2), hs⟩⟩
theorem Rel.lstAt {G : Ent} {H : Hp} {σ : L2.St} {ρ : Env} {τ : L2.St} {δ : List Sl} {a : Addr} {ds : List D} (h : Rel K G H σ ρ (some (.ref a) :: τ) (.sh (.lst ds) :: δ)) : ∃ vs, H a = some (.lst vs) ∧ vs.length = ds.length ∧ ∀ (i : Nat) (x : V) (d : D), vs[i]? = some x → ds[i]? = some d → Rel K G H σ ρ (some x :: some (.ref a) :: τ) (.sh d :: .sh (.lst ds) :: δ) := by
  obtain ⟨F, r, l, k⟩ := h.held
  cases r with
  | lst h1 r =>
    refine ⟨_, l _ _ h1, r.len, fun i x d e1 e2 => ?_⟩
    obtain ⟨v, e3, q⟩ := r.get e2
    rw [e1] at e3
    cases e3
    exact k _ _ q
theorem walks_list {a : Addr} {ds : List D} : Walks K G (Itl K a) ds [some (.ref a)] [.sh (.lst ds)] where
  go := fun H σ ρ τ δ i h hi => by
    obtain ⟨vs, h1, h2, _⟩ := h.lstAt
    exact walk_list.goes i H (by omega) (SqL.of h1)
  stop := fun H σ ρ τ δ h => by
    obtain ⟨vs, h1, h2, _⟩ := h.lstAt
    rw [← h2]
    exact walk_list.stops H (SqL.of h1)
  yld := fun H σ ρ τ δ i x H' d h hi y => by
    obtain ⟨vs, h1, h2, h3⟩ := h.lstAt
    have hlt : i < ds.length := by
      rcases Nat.lt_or_ge i ds.length with z | z
      · exact z
      · rw [List.getElem?_eq_none z] at hi; cases hi
    obtain ⟨e1, e2⟩ := (walk_list (K := K) (a := a) (xs := vs)).yields i H x H' (by omega) (SqL.of h1) y
    subst e1
    exact h3 i x d e2 hi
theorem wList (ha : EOk K W ta ma) : IOk K W (iList K ta) (iL ma) := fun G H σ ρ τ δ R h w =>
  ha G H σ ρ τ δ _ h (ma.mono (fun s ρ1 w1 v H1 h1 => by
    obtain ⟨d, xs, rfl, e, q⟩ := asSeq_go w1
    unfold D.asL at e
    split at e
    · cases e
      obtain ⟨F, r, z⟩ := h1.top
      cases r with
      | lst h2 r => exact ⟨_, rfl, ⟨_, SqL.of (z.le _ _ h2)⟩, q _ _ _ _ rfl h1 walks_list⟩
    · cases e) (fun _ _ z => z) w)
def rgD (lo : Int) (n : Nat) : List D := (List.range n).map fun i => D.int (lo + (i : Nat))
theorem walks_range {lo : Int} {n : Nat} : Walks K G (Itr lo n) (rgD lo n) [] [] where
  go := fun H σ ρ τ δ i h hi => by
    simp only [rgD, List.length_map, List.length_range] at hi
    exact hi
  stop := fun H σ ρ τ δ h => by
    simp only [rgD, List.length_map, List.length_range]
    exact Nat.le_refl _
  yld := fun H σ ρ τ δ i x H' d h hi y => by
    obtain ⟨rfl, rfl⟩ := y
    have hlt : i < n := by
      rcases Nat.lt_or_ge i n with z | z
      · exact z
      · rw [List.getElem?_eq_none (by simp only [rgD, List.length_map, List.length_range]; exact z)] at hi; cases hi
    have : d = .int (lo + (i : Nat)) := by
      simp only [rgD, List.getElem?_map, List.getElem?_range hlt, Option.map_some] at hi
      exact (Option.some.inj hi).symm
    rw [this]
    exact h.push rfl
def asI (k : Int → MI) : Sl → MI
  | .sh (.int j) => k j
  | _ => M.stuck
def need {α : Type} (p : Prop) (m : M α) : M α := ⟨fun ρ Q E => p ∧ m.wp ρ Q E, fun h h' w => ⟨w.1, m.mono h h' w.2⟩⟩
def iR1 (a : ME) : MI := a.bind (asI fun j => need (-(2 ^ 62) ≤ j ∧ j < 2 ^ 62) (M.ret (rgD 0 j.toNat)))
theorem asI_go {k : Int → MI} {s : Sl} {ρ : Env} {Q : List D → Env → Prop} {E : Er → Env → Prop} (w : (asI k s).wp ρ Q E) : ∃ j, s = .sh (.int j) ∧ (k j).wp ρ Q E := by
  unfold asI at w
  split at w
  · exact ⟨_, rfl, w⟩
  · exact w.elim
theorem wR1 (ha : EOk K W ta ma) : IOk K W (iRng1 (tCons ta tNil)) (iR1 ma) := fun G H σ ρ τ δ R h w =>
  ha G H σ ρ τ δ _ h (ma.mono (fun s ρ1 w1 v H1 h1 => by
    obtain ⟨j, rfl, w2, w3⟩ := asI_go w1
    obtain rfl := h1.topv (u := .int j) rfl
    exact ⟨j, rfl, w2.1, w2.2, w3 _ _ [] [] rfl h1.pop walks_range⟩) (fun _ _ z => z) w)
def sgD (z : Str) : List D := z.cps.toList.map fun c => D.str ⟨#[c]⟩
def D.asS : D → Option (List D)
  | .str z => some (sgD z)
  | _ => none
def iS (a : ME) : MI := a.bind (asSeq D.asS)
theorem walks_str {z : Str} : Walks K G (Its z) (sgD z) [] [] where
  go := fun H σ ρ τ δ i h hi => by
    simp only [sgD, List.length_map, Array.length_toList] at hi
    exact hi
  stop := fun H σ ρ τ δ h => by
    simp only [sgD, List.length_map, Array.length_toList]
    exact Nat.le_refl _
  yld := fun H σ ρ τ δ i x H' d h hi y => by
    obtain ⟨rfl, c, hc, rfl⟩ := y
    have : d = .str ⟨#[c]⟩ := by
      simp only [sgD, List.getElem?_map, Array.getElem?_toList, hc, Option.map_some] at hi
      exact (Option.some.inj hi).symm
    rw [this]
    exact h.push rfl
theorem wStr (ha : EOk K W ta ma) : IOk K W (iStr ta) (iS ma) := fun G H σ ρ τ δ R h w =>
  ha G H σ ρ τ δ _ h (ma.mono (fun s ρ1 w1 v H1 h1 => by
    obtain ⟨d, xs, rfl, e, q⟩ := asSeq_go w1
    unfold D.asS at e
    split at e
    · rename_i z
      cases e
      obtain rfl := h1.topv (u := .str z) rfl
      exact ⟨z, rfl, q _ _ [] [] rfl h1.pop walks_str⟩
    · cases e) (fun _ _ z => z) w)
end
end Dl
namespace Dl
open PySem PySem.Spec PyProof.Rows L2
inductive Ag where
  | s (x : Sl) | l (i : Nat)
inductive Ags (σ : L2.St) : List V → List Ag → L2.St → List Sl → Prop
  | nil : Ags σ [] [] [] []
  | s {v : V} {vs : List V} {x : Sl} {ags : List Ag} {τs : L2.St} {δs : List Sl} : Ags σ vs ags τs δs → Ags σ (v :: vs) (.s x :: ags) (some v :: τs) (x :: δs)
  | l {v : V} {vs : List V} {i : Nat} {ags : List Ag} {τs : L2.St} {δs : List Sl} : σ[i]? = some (some v) → Ags σ vs ags τs δs → Ags σ (v :: vs) (.l i :: ags) τs δs
theorem Ags.len {σ : L2.St} {vs : List V} {ags : List Ag} {τs : L2.St} {δs : List Sl} (h : Ags σ vs ags τs δs) : τs.length = δs.length := by
  induction h with
  | nil => rfl
  | s _ ih => simp [ih]
  | l _ _ ih => exact ih
abbrev MB := M (List Ag)
def BOk (K : PySem.W.Frag) (W : WS) (t : TA) (m : MB) : Prop := ∀ (G : Ent) (H : Hp) (σ : L2.St) (ρ : Env) (τ : L2.St) (δ : List Sl) (Q : List V → Hp → Prop), Rel K G H σ ρ τ δ →
  m.wp ρ (fun ags ρ' => ∀ vs H' τs δs, Ags σ vs ags τs δs → Rel K G H' σ ρ' (τs ++ τ) (δs ++ δ) → Q vs H') (exQ K W G σ τ δ) → t σ H Q
def bNo : MB := M.ret []
def bCo (a : ME) (l : MB) : MB := a.bind fun s => l.bind fun ss => M.ret (.s s :: ss)
def Sl.lends : Sl → Bool
  | .ow _ _ => true
  | .le _ _ _ => true
  | .bx => true
  | .lb _ => true
  | _ => false
def bLe (i : Nat) (l : MB) : MB := ⟨fun ρ Q E => match ρ[i]? with
  | some s => match s.lends with
    | true => l.wp ρ (fun ss r => Q (.l i :: ss) r) E
    | false => False
  | none => False, fun {ρ Q Q' E E'} h h' w => by
    revert w
    split
    · split
      · exact fun w => l.mono (fun ss r z => h _ _ z) h' w
      · exact id
    · exact id⟩
section
variable {K : PySem.W.Frag} {W : WS} {ta tb tc : TE} {ma mb mc : ME} {tl : TA} {ml : MB}
theorem bNil : BOk K W tNil bNo := fun G H σ ρ τ δ Q h w => w [] H [] [] .nil h
theorem bCons (ha : EOk K W ta ma) (hl : BOk K W tl ml) : BOk K W (tCons ta tl) (bCo ma ml) := fun G H σ ρ τ δ Q h w =>
  ha G H σ ρ τ δ _ h (ma.mono (fun s1 ρ1 w1 v1 H1 h1 => hl G H1 σ ρ1 _ _ _ h1 (ml.mono (fun ss ρ2 w2 vs H2 τs δs ha h2 => w2 (v1 :: vs) H2 _ _ (.s ha) (Rel.rot ha.len h2)) (fun e ρ' z v H' q => z v H' q.drop2) w1)) (fun _ _ z => z) w)
theorem SlV.lends {F H : Hp} {o : Option V} {s : Sl} {f : List Addr} (h : SlV K F H o s f) (e : s.lends = true) : ∃ v, o = some v := by
  cases h <;> first | exact ⟨_, rfl⟩ | cases e
theorem bLent {i : Nat} (hl : BOk K W tl ml) : BOk K W (tCons (tVar i) tl) (bLe i ml) := fun G H σ ρ τ δ Q h w => by
  unfold bLe at w
  simp only at w
  split at w
  · rename_i s e
    split at w
    · rename_i el
      have : ∃ v, σ[i]? = some (some v) := by
        obtain ⟨F, f1, f2, g, ht, hs⟩ := h
        obtain ⟨o, l, f, r, e1, e2, h1, _⟩ := hs.at e
        obtain ⟨v, rfl⟩ := h1.lends el
        exact ⟨v, e2⟩
      obtain ⟨v, e1⟩ := this
      exact ⟨v, e1, hl G H σ ρ τ δ _ h (ml.mono (fun ss ρ2 w2 vs H2 τs δs ha h2 => w2 (v :: vs) H2 _ _ (.l e1 ha) h2) (fun _ _ z => z) w)⟩
    · exact w.elim
  · exact w.elim
end
def lendP : Env → List Ag → (List Sl → Env → Prop) → Prop
  | ρ, [], k => k [] ρ
  | ρ, .s (.sh d) :: ags, k => lendP ρ ags fun as r => k (.sh d :: as) r
  | ρ, .s (.ow s d) :: ags, k => ∀ v, lendP ρ ags fun as r => k (.le v s d :: as) r
  | _, .s _ :: _, _ => False
  | ρ, .l i :: ags, k => match ρ[i]? with
    | some (.ow s d) => ∀ v, lendP (ρ.set i .un) ags fun as r => k (.le v s d :: as) r
    | some (.le v s d) => lendP (ρ.set i .un) ags fun as r => k (.le v s d :: as) r
    | some .bx => ∀ v, lendP (ρ.set i .un) ags fun as r => k (.lb v :: as) r
    | some (.lb v) => lendP (ρ.set i .un) ags fun as r => k (.lb v :: as) r
    | _ => False
theorem lendP_mono : ∀ {ags : List Ag} {ρ : Env} {k k' : List Sl → Env → Prop}, (∀ as r, k as r → k' as r) → lendP ρ ags k → lendP ρ ags k'
  | [], ρ, k, k', h, w => h _ _ w
  | .s x :: ags, ρ, k, k', h, w => by
    cases x with
    | sh d => exact lendP_mono (ags := ags) (fun as r z => h _ _ z) w
    | ow s d => exact fun v => lendP_mono (ags := ags) (fun as r z => h _ _ z) (w v)
    | _ => exact False.elim w
  | .l i :: ags, ρ, k, k', h, w => by
    unfold lendP at w ⊢
    split at w
    · exact fun v => lendP_mono (ags := ags) (fun as r z => h _ _ z) (w v)
    · exact lendP_mono (ags := ags) (fun as r z => h _ _ z) w
    · exact fun v => lendP_mono (ags := ags) (fun as r z => h _ _ z) (w v)
    · exact lendP_mono (ags := ags) (fun as r z => h _ _ z) w
    · exact w.elim
def backOne : Option Sl → Sl → Option Sl
  | some (.ow _ _), .le _ s d => some (.ow s d)
  | some (.le v _ _), .le _ s d => some (.le v s d)
  | some .bx, .lb _ => some .bx
  | some (.lb v), .lb _ => some (.lb v)
  | some (.ow _ _), .sh d => some (.sh d)
  | some (.le _ _ _), .sh d => some (.sh d)
  | _, _ => none
def backP (ρ0 : Env) : List Ag → List Sl → Env → (Env → Prop) → Prop
  | [], _, ρ, k => k ρ
  | .s _ :: ags, _ :: as, ρ, k => backP ρ0 ags as ρ k
  | .l i :: ags, a :: as, ρ, k => match backOne ρ0[i]? a with
    | some s => backP ρ0 ags as (ρ.set i s) k
    | none => False
  | _ :: _, [], _, _ => False
theorem backP_mono {ρ0 : Env} : ∀ {ags : List Ag} {as : List Sl} {ρ : Env} {k k' : Env → Prop}, (∀ r, k r → k' r) → backP ρ0 ags as ρ k → backP ρ0 ags as ρ k'
  | [], _, _, _, _, h, w => h _ w
  | .s _ :: ags, _ :: as, _, _, _, h, w => backP_mono (ags := ags) (as := as) h w
  | .l i :: ags, a :: as, ρ, k, k', h, w => by
    unfold backP at w ⊢
    split at w
    · exact backP_mono (ags := ags) h w
    · exact w.elim
  | .s _ :: _, [], _, _, _, _, w => w
  | .l _ :: _, [], _, _, _, _, w => w
def callM (ds : M Sl) (dv : List D) (ags : List Ag) : ME := ⟨fun ρ Q E => lendP ρ ags fun as ρ1 => ds.wp (as ++ dv.map Sl.sh) (fun r as' => backP ρ ags as' ρ1 fun ρ2 => Q r ρ2) (fun er as' => backP ρ ags as' ρ1 fun ρ2 => E er ρ2),
  fun h h' w => lendP_mono (fun as r z => ds.mono (fun _ _ q => backP_mono (fun _ p => h _ _ p) q) (fun _ _ q => backP_mono (fun _ p => h' _ _ p) q) z) w⟩
def spOf (K : PySem.W.Frag) (ds : M Sl) : Sp := fun vs H Q E => ∃ (F : Hp) (as : List Sl) (fp : List Addr), Le F H ∧ Slots K F H (vs.map some) as fp ∧ fp.Nodup ∧ (∀ a ∈ fp, F a = none) ∧
  ds.wp as (fun r as' => ∀ v H', Rel K ⟨H, F, fp⟩ H' (vs.map some) as' [some v] [r] → Q v H') (fun er as' => ∀ v H', Rel K ⟨H, F, fp⟩ H' (vs.map some) as' [some v] [.sh er.d] → XE E H' (He.ga K (en er.c)) (ef er.c) v)
section
variable {K : PySem.W.Frag} {W : WS} {G : Ent} {F F' H H' : Hp} {σ : L2.St} {ρ : Env}
theorem Good.call {fA fR gs : List Addr} (g : Good G F H (fA ++ fR)) (c : Good ⟨H, F, fA⟩ F' H' gs) (here : ∀ a ∈ fR, H a ≠ none) : Good G F' H' (gs ++ fR) := by
  have dis := (List.nodup_append.mp g.nd).2.2
  refine ⟨c.sub, g.f0.trans c.f0, fun a e => ?_, fun a o e hn => ?_, fun a e => c.all a (g.all a e), fun a ha => ?_, fun a ha => ?_, ?_⟩
  · rcases c.fN a e with z | z | z
    · exact g.fN a z
    · refine .inr (.inl ?_)
      cases q : G.H a with
      | none => rfl
      | some o => exact absurd z (g.all a (by rw [q]; intro z; cases z))
    · exact .inr ((g.own a (List.mem_append_left _ z)).symm)
  · refine c.frm a o (g.frm a o e hn) fun z => ?_
    rcases g.own a (List.mem_append_left _ z) with q | q
    · exact hn q
    · rw [q] at e; cases e
  · rcases List.mem_append.mp ha with z | z
    · rcases c.own a z with q | q
      · exact g.own a (List.mem_append_left _ q)
      · refine .inr ?_
        cases q2 : G.H a with
        | none => rfl
        | some o => exact absurd q (g.all a (by rw [q2]; intro z; cases z))
    · exact g.own a (List.mem_append_right _ z)
  · rcases List.mem_append.mp ha with z | z
    · exact c.nf a z
    · cases q : F' a with
      | none => rfl
      | some o =>
        exfalso
        rcases c.fN a (by rw [q]; intro z; cases z) with p | p | p
        · exact p (g.nf a (List.mem_append_right _ z))
        · exact here a z p
        · exact dis a p a z rfl
  · refine List.nodup_append.mpr ⟨c.nd, (List.nodup_append.mp g.nd).2.1, fun a ha b hb e => ?_⟩
    subst e
    rcases c.own a ha with q | q
    · exact dis a q a hb rfl
    · exact here a hb q
theorem lend_out : ∀ {ags : List Ag} {vs : List V} {τs : L2.St} {δs : List Sl} {τ : L2.St} {δ : List Sl} {ρ : Env} {fT fR : List Addr} {k : List Sl → Env → Prop}, Ags σ vs ags τs δs → Slots K F H (τs ++ τ) (δs ++ δ) fT → Slots K F H σ ρ fR → lendP ρ ags k →
    ∃ as ρ1 fA fT' fR', k as ρ1 ∧ Slots K F H (vs.map some) as fA ∧ Slots K F H τ δ fT' ∧ Slots K F H σ ρ1 fR' ∧ (∀ a, (fA ++ (fT' ++ fR')).count a = (fT ++ fR).count a)
  | [], _, _, _, τ, δ, ρ, fT, fR, k, .nil, ht, hs, w => ⟨[], ρ, [], fT, fR, w, .nil, ht, hs, fun _ => rfl⟩
  | .s x :: ags, _, _, _, τ, δ, ρ, fT, fR, k, .s (v := v) ha, ht, hs, w => by
    cases x with
    | sh d =>
      cases ht with
      | cons h1 h2 =>
        rename_i f f'
        obtain ⟨as, ρ1, fA, fT', fR', q, k1, k2, k3, k4⟩ := lend_out ha h2 hs w
        refine ⟨_, ρ1, f ++ fA, fT', fR', q, .cons h1 k1, k2, k3, fun a => ?_⟩
        have := k4 a
        simp only [List.count_append] at this ⊢
        omega
    | ow s d =>
      cases ht with
      | @cons _ _ f f' _ _ h1 h2 =>
        cases h1 with
        | ow r =>
          obtain ⟨as, ρ1, fA, fT', fR', q, k1, k2, k3, k4⟩ := lend_out ha h2 hs (w v)
          refine ⟨_, ρ1, f ++ fA, fT', fR', q, .cons (.le r) k1, k2, k3, fun a => ?_⟩
          have := k4 a
          simp only [List.count_append] at this ⊢
          omega
    | _ => exact False.elim w
  | .l i :: ags, _, _, _, τ, δ, ρ, fT, fR, k, .l (v := v) e0 ha, ht, hs, w => by
    have key : ∀ (s : Sl) (s' : Sl), ρ[i]? = some s → (∀ f, SlV K F H (some v) s f → SlV K F H (some v) s' f) → lendP (ρ.set i .un) ags (fun as r => k (s' :: as) r) → ∃ as ρ1 fA fT' fR', k as ρ1 ∧ Slots K F H (v :: _ |>.map some) as fA ∧ Slots K F H τ δ fT' ∧ Slots K F H σ ρ1 fR' ∧ (∀ a, (fA ++ (fT' ++ fR')).count a = (fT ++ fR).count a) := fun s s' e hv w => by
      obtain ⟨o, l, f, r, e1, e2, h1, kk⟩ := hs.at e
      rw [e0] at e2
      cases e2
      have h2 := kk (some v) .un [] .un
      have eσ : σ.set i (some v) = σ := by
        apply List.ext_getElem?
        intro j
        by_cases hj : j = i
        · subst hj
          rw [e0]
          refine List.getElem?_set_self ?_
          rcases Nat.lt_or_ge j σ.length with z | z
          · exact z
          · rw [List.getElem?_eq_none z] at e0; cases e0
        · rw [List.getElem?_set_ne (Ne.symm hj)]
      rw [eσ] at h2
      obtain ⟨as, ρ1, fA, fT', fR', q, k1, k2, k3, k4⟩ := lend_out ha ht h2 w
      refine ⟨_, ρ1, f ++ fA, fT', fR', q, .cons (hv f h1) k1, k2, k3, fun a => ?_⟩
      have := k4 a
      subst e1
      simp only [List.count_append, List.count_nil] at this ⊢
      omega
    unfold lendP at w
    split at w
    · rename_i s d e
      exact key _ _ e (fun f z => by cases z with | ow r => exact .le r) (w v)
    · rename_i v' s d e
      exact key _ _ e (fun f z => z) w
    · rename_i e
      exact key _ _ e (fun f z => by cases z with | bx r => exact .lb r) (w v)
    · rename_i v' e
      exact key _ _ e (fun f z => z) w
    · exact w.elim
theorem lend_back {ρ0 : Env} (h0 : ∀ (i : Nat) (s : Sl) (v : V), ρ0[i]? = some s → σ[i]? = some (some v) → (∀ v' z d, s = .le v' z d → v' = v) ∧ (∀ v', s = .lb v' → v' = v)) : ∀ {ags : List Ag} {vs ws : List V} {τs : L2.St} {δs : List Sl} {as : List Sl} {ρ : Env} {fA fR : List Addr} {k : Env → Prop}, Ags σ vs ags τs δs → Slots K F H (vs.map some ++ ws.map some) as fA → Slots K F H σ ρ fR → backP ρ0 ags as ρ k →
    ∃ ρ2 g, k ρ2 ∧ Slots K F H σ ρ2 g ∧ ∀ a, g.count a ≤ (fA ++ fR).count a
  | [], _, _, _, _, as, ρ, fA, fR, k, .nil, hA, hs, w => ⟨ρ, fR, w, hs, fun a => by simp only [List.count_append]; omega⟩
  | .s x :: ags, _, _, _, _, as, ρ, fA, fR, k, .s ha, hA, hs, w => by
    cases hA with
    | cons h1 h2 =>
      obtain ⟨ρ2, g, q, k1, k2⟩ := lend_back h0 ha h2 hs w
      refine ⟨ρ2, g, q, k1, fun a => ?_⟩
      have := k2 a
      simp only [List.count_append] at this ⊢
      omega
  | .l i :: ags, _, _, _, _, as, ρ, fA, fR, k, .l (v := v) e0 ha, hA, hs, w => by
    cases hA with
    | cons h1 h2 =>
      rename_i f f' s
      unfold backP at w
      split at w
      · rename_i s2 e
        have hv : SlV K F H (some v) s2 f := by
          unfold backOne at e
          split at e
          · cases e; cases h1 with | le r => exact .ow r
          · rename_i v0 z0 d0 v1 z d e1
            cases e
            cases h1 with
            | le r =>
              obtain rfl := (h0 i _ v e1 e0).1 _ _ _ rfl
              exact .le r
          · cases e; cases h1 with | lb r => exact .bx r
          · rename_i v0 v1 e1
            cases e
            cases h1 with
            | lb r =>
              obtain rfl := (h0 i _ _ e1 e0).2 _ rfl
              exact .lb r
          · cases e; cases h1 with | sh r => exact .sh r
          · cases e; cases h1 with | sh r => exact .sh r
          · cases e
        have hlt : i < ρ.length := by
          rw [← hs.len]
          rcases Nat.lt_or_ge i σ.length with z | z
          · exact z
          · rw [List.getElem?_eq_none z] at e0; cases e0
        obtain ⟨o, l, f1, r, e1, e2, h3, kk⟩ := hs.at (i := i) (s := ρ[i]) (by rw [List.getElem?_eq_getElem hlt])
        rw [e0] at e2
        cases e2
        have h4 := kk (some v) s2 f hv
        have eσ : σ.set i (some v) = σ := by
          apply List.ext_getElem?
          intro j
          by_cases hj : j = i
          · subst hj
            rw [e0]
            exact List.getElem?_set_self (by rw [hs.len]; exact hlt)
          · rw [List.getElem?_set_ne (Ne.symm hj)]
        rw [eσ] at h4
        obtain ⟨ρ2, g, q, k1, k2⟩ := lend_back h0 ha h2 h4 w
        refine ⟨ρ2, g, q, k1, fun a => ?_⟩
        have := k2 a
        subst e1
        simp only [List.count_append] at this ⊢
        omega
      · exact w.elim
theorem Slots.same {fR : List Addr} (hs : Slots K F H σ ρ fR) {i : Nat} {s : Sl} {v : V} (e : ρ[i]? = some s) (e' : σ[i]? = some (some v)) : (∀ v' z d, s = .le v' z d → v' = v) ∧ (∀ v', s = .lb v' → v' = v) := by
  obtain ⟨o, l, f1, r, e1, e2, h3, kk⟩ := hs.at e
  rw [e'] at e2
  cases e2
  refine ⟨fun v' z d q => ?_, fun v' q => ?_⟩
  · subst q; cases h3; rfl
  · subst q; cases h3; rfl
theorem callCore {ds : M Sl} {dv : List D} {dvs : List V} {ags : List Ag} {vs : List V} {τs τ : L2.St} {δs δ : List Sl} {Q : VK} {E : Er → Env → Prop} {X : XK} (hA : Ags σ vs ags τs δs) (h : Rel K G H σ ρ (τs ++ τ) (δs ++ δ)) (hd : ∀ F, RepL K F dvs dv)
    (hE : ∀ er ρ', E er ρ' → ∀ v H', Rel K G H' σ ρ' (some v :: τ) (.sh er.d :: δ) → XE X H' (He.ga K (en er.c)) (ef er.c) v)
    (w : (callM ds dv ags).wp ρ (fun s ρ' => ∀ v H', Rel K G H' σ ρ' (some v :: τ) (s :: δ) → Q v H') E) : spOf K ds (vs ++ dvs) H Q X := by
  obtain ⟨F, fT, fR, g, ht, hs⟩ := h
  obtain ⟨as, ρ1, fA, fT', fR', q, k1, k2, k3, k4⟩ := lend_out hA ht hs w
  have g1 : Good G F H (fA ++ (fT' ++ fR')) := g.cnt fun a => Nat.le_of_eq (k4 a)
  have here : ∀ a ∈ fT' ++ fR', H a ≠ none := fun a ha => by
    rcases List.mem_append.mp ha with z | z
    · exact k2.here a z
    · exact k3.here a z
  have k5 : Slots K F H ((vs ++ dvs).map some) (as ++ dv.map Sl.sh) fA := by
    rw [List.map_append]
    have : Slots K F H (dvs.map some) (dv.map Sl.sh) [] := by
      have := RepL.slots (K := K) (F := F) (H := H) (τ := []) (δ := []) .nil (hd F)
      rwa [List.append_nil, List.append_nil] at this
    have := k1.app this
    rwa [List.append_nil] at this
  have fin : ∀ (r : Sl) (as' : List Sl) (k : Env → Prop) (v : V) (H' : Hp), backP ρ ags as' ρ1 k → Rel K ⟨H, F, fA⟩ H' ((vs ++ dvs).map some) as' [some v] [r] → ∃ ρ2, k ρ2 ∧ Rel K G H' σ ρ2 (some v :: τ) (r :: δ) := fun r as' k v H' wb hr => by
    obtain ⟨F', g1', g2', gg, hv, hvs⟩ := hr
    have G2 := g1.call gg here
    have hn : ∀ a ∈ fT' ++ fR', H' a = H a := fun a ha => by
      cases e : H a with
      | none => exact absurd e (here a ha)
      | some o => exact gg.frm a o e fun z => (List.nodup_append.mp g1.nd).2.2 a z a ha rfl
    have k2' := k2.mono (F' := F') (H' := H') gg.f0 fun a ha => hn a (List.mem_append_left _ ha)
    have k3' := k3.mono (F' := F') (H' := H') gg.f0 fun a ha => hn a (List.mem_append_right _ ha)
    rw [List.map_append] at hvs
    obtain ⟨ρ2, gb, q2, b1, b2⟩ := lend_back (fun i s v e e' => hs.same e e') hA hvs k3' wb
    refine ⟨ρ2, q2, F', g1' ++ fT', gb, G2.cnt fun a => ?_, ?_, b1⟩
    · have := b2 a
      simp only [List.count_append] at this ⊢
      omega
    · exact hv.app k2'
  refine ⟨F, _, fA, g1.sub, k5, (List.nodup_append.mp g1.nd).1, fun a ha => g1.nf a (List.mem_append_left _ ha), ds.mono (fun r as' wb v H' hr => ?_) (fun er as' wb v H' hr => ?_) q⟩
  · obtain ⟨ρ2, z, hr'⟩ := fin r as' _ v H' wb hr
    exact z v H' hr'
  · obtain ⟨ρ2, z, hr'⟩ := fin _ as' _ v H' wb hr
    exact hE er ρ2 z v H' hr'
def mCall (ds : M Sl) (dv : List D) (l : MB) : ME := l.bind (callM ds dv)
theorem eCall {ds : M Sl} {dv : List D} {dvs : List V} {tl : TA} {ml : MB} (hl : BOk K W tl ml) (hd : ∀ F, RepL K F dvs dv) : EOk K W (Cl.tF (fun vs H Q E => spOf K ds (vs ++ dvs) H Q E) W tl) (mCall ds dv ml) := fun G H σ ρ τ δ Q h w =>
  hl G H σ ρ τ δ _ h (ml.mono (fun ags ρ1 w1 vs H1 τs δs ha h1 => callCore ha h1 hd (fun er ρ' z => z) w1) (fun _ _ z => z) w)
def mMeth (c : Nat) (ds : M Sl) (dv : List D) (o : ME) (l : MB) : ME := o.bind fun s => match s with
  | .sh (.obj c' fs) => if c' = c then l.bind fun ags => callM ds dv (.s (.sh (.obj c' fs)) :: ags) else M.stuck
  | _ => M.stuck
theorem eMeth {ds : M Sl} {dv : List D} {dvs : List V} {ta : TE} {ma : ME} {tl : TA} {ml : MB} {c : Nat} {n : Str} (hn : n ∉ cf c) (ha : EOk K W ta ma) (hl : BOk K W tl ml) (hd : ∀ F, RepL K F dvs dv) :
    EOk K W (Cl.tM (He.ga K (cn c)) n (fun vs H Q E => spOf K ds (vs ++ dvs) H Q E) W ta tl) (mMeth c ds dv ma ml) := fun G H σ ρ τ δ Q h w =>
  ha G H σ ρ τ δ _ h (ma.mono (fun s1 ρ1 w1 v1 H1 h1 => by
    simp only at w1
    split at w1
    · split at w1
      · rename_i c' fs hc
        subst hc
        obtain ⟨F, r, z⟩ := h1.top
        cases r with
        | obj k1 k2 kn kr =>
          refine ⟨_, _, _, rfl, z.le _ _ k1, look_no (by rw [kn]; exact fun z => hn (List.mem_of_mem_take z)), ?_⟩
          refine hl G H1 σ ρ1 _ _ _ h1 (ml.mono (fun ags ρ2 w2 vs H2 τs δs ha h2 => ?_) (fun e ρ' z v H' q => z v H' q.drop2) w1)
          exact callCore (.s ha) (Rel.rot ha.len h2) hd (fun er ρ' z => z) w2
      · exact w1.elim
    · exact w1.elim) (fun _ _ z => z) w)
def newM (c : Nat) (ds : M Sl) (dv : List D) (ags : List Ag) : ME := ⟨fun ρ Q E => ∀ v, lendP ρ ags fun as ρ1 => ds.wp (.le v (.oo []) (.obj c []) :: as ++ dv.map Sl.sh) (fun r as' => match r, as' with
    | .sh .non, .le _ z d :: as'' => backP ρ ags as'' ρ1 fun ρ2 => Q (.ow z d) ρ2
    | _, _ => False) (fun er as' => match as' with
    | _ :: as'' => backP ρ ags as'' ρ1 fun ρ2 => E er ρ2
    | _ => False),
  fun h h' w v => lendP_mono (fun as r z => ds.mono (fun _ _ q => by
    revert q
    split
    · exact fun q => backP_mono (fun _ p => h _ _ p) q
    · exact id) (fun _ _ q => by
    revert q
    split
    · exact fun q => backP_mono (fun _ p => h' _ _ p) q
    · exact id) z) (w v)⟩
@[irreducible] def newI (c : Nat) (ds : M Sl) (dv : List D) (ags : List Ag) : ME := newM c ds dv ags
theorem newI_eq {c : Nat} {ds : M Sl} {dv : List D} {ags : List Ag} : newI c ds dv ags = newM c ds dv ags := by unfold newI; rfl
def mMake (c : Nat) (ds : M Sl) (dv : List D) (l : MB) : ME := l.bind (newI c ds dv)
theorem eMake {ds : M Sl} {dv : List D} {dvs : List V} {tl : TA} {ml : MB} {c : Nat} (hl : BOk K W tl ml) (hd : ∀ F, RepL K F dvs dv) :
    EOk K W (Cl.tMk (He.ga K (cn c)) (fun vs H Q E => spOf K ds (vs ++ dvs) H Q E) W tl) (mMake c ds dv ml) := fun G H σ ρ τ δ Q h w =>
  hl G H σ ρ τ δ _ h (ml.mono (fun ags ρ1 w1 vs H1 τs δs hA h1 x dx hx hdx hne => by
    rw [newI_eq] at w1
    obtain ⟨F, fT, fR, g, ht, hs⟩ := h1
    obtain ⟨as, ρ2, fA, fT', fR', q, k1, k2, k3, k4⟩ := lend_out hA ht hs (w1 (.ref x))
    have g1 : Good G F H1 (fA ++ (fT' ++ fR')) := g.cnt fun a => Nat.le_of_eq (k4 a)
    have here0 : ∀ a ∈ fA ++ (fT' ++ fR'), H1 a ≠ none := fun a ha => by
      rcases List.mem_append.mp ha with z | z
      · exact k1.here a z
      rcases List.mem_append.mp z with z | z
      · exact k2.here a z
      · exact k3.here a z
    have g2 := g1.newO here0 hdx (.own x)
    have hx2 : upd H1 dx (.own x) x = none := by rw [upd_ne (Ne.symm hne)]; exact hx
    have here1 : ∀ a ∈ dx :: (fA ++ (fT' ++ fR')), upd H1 dx (.own x) a ≠ none := fun a ha => by
      rcases List.mem_cons.mp ha with rfl | ha
      · rw [upd_same]; intro z; cases z
      · rw [upd_ne fun z => here0 a ha (by rw [z]; exact hdx)]; exact here0 a ha
    have g3 := g2.newO here1 hx2 (.ins (He.ga K (cn c)) dx [])
    have hn : ∀ a ∈ fA ++ (fT' ++ fR'), upd (upd H1 dx (.own x)) x (.ins (He.ga K (cn c)) dx []) a = H1 a := fun a ha => by
      rw [upd_ne fun z => here0 a ha (by rw [z]; exact hx), upd_ne fun z => here0 a ha (by rw [z]; exact hdx)]
    generalize hH2 : upd (upd H1 dx (.own x)) x (.ins (He.ga K (cn c)) dx []) = H2 at *
    have g4 : Good G F H2 ((x :: dx :: fA) ++ (fT' ++ fR')) := g3
    have l1 := k1.mono (F' := F) (H' := H2) Le.rfl fun a ha => hn a (List.mem_append_left _ ha)
    have l2 := k2.mono (F' := F) (H' := H2) Le.rfl fun a ha => hn a (List.mem_append_right _ (List.mem_append_left _ ha))
    have l3 := k3.mono (F' := F) (H' := H2) Le.rfl fun a ha => hn a (List.mem_append_right _ (List.mem_append_right _ ha))
    have here : ∀ a ∈ fT' ++ fR', H2 a ≠ none := fun a ha => by
      rcases List.mem_append.mp ha with z | z
      · exact l2.here a z
      · exact l3.here a z
    have hox : Own K F H2 (.oo []) (.ref x) (.obj c []) [x, dx] := .oo (fs := []) (by rw [← hH2, upd_same]) (by rw [← hH2, upd_ne hne, upd_same]) rfl .nil
    have k5 : Slots K F H2 ((V.ref x :: vs ++ dvs).map some) (.le (.ref x) (.oo []) (.obj c []) :: as ++ dv.map Sl.sh) (x :: dx :: fA) := by
      have z : Slots K F H2 (dvs.map some) (dv.map Sl.sh) [] := by
        have := RepL.slots (K := K) (F := F) (H := H2) (τ := []) (δ := []) .nil (hd F)
        rwa [List.append_nil, List.append_nil] at this
      have := l1.app z
      rw [List.append_nil] at this
      rw [List.cons_append, List.cons_append, List.map_cons, List.map_append]
      exact .cons (f := [x, dx]) (.le hox) this
    have hs2 : ∀ (i : Nat) (s : Sl) (v : V), ρ1[i]? = some s → σ[i]? = some (some v) → (∀ v' z d, s = .le v' z d → v' = v) ∧ (∀ v', s = .lb v' → v' = v) := fun i s v e e' => hs.same e e'
    have fin : ∀ (s0 s0' r : Sl) (as' : List Sl) (k : Env → Prop) (u : Option V) (v : V) (H' : Hp), backP ρ1 ags as' ρ2 k → (∀ F f, SlV K F H' (some (.ref x)) s0 f → SlV K F H' u s0' f) → Rel K ⟨H2, F, x :: dx :: fA⟩ H' ((V.ref x :: vs ++ dvs).map some) (s0 :: as') [some v] [r] → ∃ ρ3, k ρ3 ∧ Rel K G H' σ ρ3 (u :: some v :: τ) (s0' :: r :: δ) := fun s0 s0' r as' k u v H' wb hs0 hr => by
      obtain ⟨F', g1', g2', gg, hv, hvs⟩ := hr
      have G2 := g4.call gg here
      have hn : ∀ a ∈ fT' ++ fR', H' a = H2 a := fun a ha => by
        cases e : H2 a with
        | none => exact absurd e (here a ha)
        | some o => exact gg.frm a o e fun z => (List.nodup_append.mp g4.nd).2.2 a z a ha rfl
      have k2' := l2.mono (F' := F') (H' := H') gg.f0 fun a ha => hn a (List.mem_append_left _ ha)
      have k3' := l3.mono (F' := F') (H' := H') gg.f0 fun a ha => hn a (List.mem_append_right _ ha)
      rw [List.cons_append, List.map_cons, List.map_append] at hvs
      cases hvs with
      | cons hx1 hvs =>
        rename_i fx fv
        obtain ⟨ρ3, gb, q2, b1, b2⟩ := lend_back hs2 hA hvs k3' wb
        refine ⟨ρ3, q2, F', fx ++ (g1' ++ fT'), gb, G2.cnt fun a => ?_, .cons (hs0 _ _ hx1) (hv.app k2'), b1⟩
        have := b2 a
        simp only [List.count_append] at this ⊢
        omega
    refine ⟨F, _, x :: dx :: fA, g4.sub, k5, (List.nodup_append.mp g4.nd).1, fun a ha => g4.nf a (List.mem_append_left _ ha), ds.mono (fun r as' wb v H' hr => ?_) (fun er as' wb v H' hr => ?_) q⟩
    · simp only at wb
      split at wb
      · rename_i v' z d as''
        obtain ⟨ρ3, z3, hr'⟩ := fin _ (.ow z d) _ as'' _ (some (.ref x)) v H' wb (fun F f z => by cases z with | le r => exact .ow r) hr
        obtain rfl := hr'.pop.topv (u := .non) rfl
        exact ⟨rfl, z3 _ _ hr'.drop2⟩
      · exact wb.elim
    · split at wb
      · rename_i s0 as''
        obtain ⟨ρ3, z3, hr'⟩ := fin s0 s0 _ as'' _ _ v H' wb (fun F f z => z) hr
        exact z3 v H' hr'.pop
      · exact wb.elim) (fun _ _ z => z) w)
end
end Dl
namespace Dl
open PySem PySem.Spec PyProof.Rows L2
def keepP : List Sl → Env → (List Sl → Prop) → Prop
  | [], _, k => k []
  | .sh d :: as, _ :: ρ, k => keepP as ρ fun l => k (.sh d :: l)
  | .le v _ _ :: as, .le v' s d :: ρ, k => v' = v ∧ keepP as ρ fun l => k (.le v s d :: l)
  | .lb v :: as, .lb v' :: ρ, k => v' = v ∧ keepP as ρ fun l => k (.lb v :: l)
  | _, _, _ => False
theorem keepP_mono : ∀ {as : List Sl} {ρ : Env} {k k' : List Sl → Prop}, (∀ l, k l → k' l) → keepP as ρ k → keepP as ρ k'
  | [], _, _, _, h, w => h _ w
  | a :: as, ρ, k, k', h, w => by
    unfold keepP at w ⊢
    split at w
    · cases ‹a :: as = []›
    · rename_i d as' s ρ' e
      cases e
      exact keepP_mono (as := as) (fun l z => h _ z) w
    · rename_i v z d as' v' z' d' ρ' e
      cases e
      exact ⟨w.1, keepP_mono (as := as) (fun l z => h _ z) w.2⟩
    · rename_i v as' v' ρ' e
      cases e
      exact ⟨w.1, keepP_mono (as := as) (fun l z => h _ z) w.2⟩
    · exact w.elim
def mends (as : List Sl) (Q : Sl → List Sl → Prop) (E : Er → List Sl → Prop) : MEnds := ⟨fun ρ => keepP as ρ (Q (.sh .non)), fun s ρ => keepP as ρ (Q s), fun _ => False, fun _ => False, fun er ρ => keepP as ρ (E er)⟩
def defM (n N : Nat) (m : MS) : M Sl := ⟨fun as Q E => match Nat.beq as.length n with
  | true => m.wp (as ++ List.replicate (N - n) .un) (mends as Q E)
  | false => False, fun {as Q Q' E E'} h h' w => by
    revert w
    split
    · exact fun w => m.mono (M := mends as Q E) (M' := mends as Q' E') ⟨fun r z => keepP_mono (fun l q => h _ _ q) z, fun s r z => keepP_mono (fun l q => h _ _ q) z, fun _ z => z, fun _ z => z, fun e r z => keepP_mono (fun l q => h' _ _ q) z⟩ w
    · exact id⟩
theorem defM_go {n N : Nat} {m : MS} {as : List Sl} {Q : Sl → List Sl → Prop} {E : Er → List Sl → Prop} (w : (defM n N m).wp as Q E) : as.length = n ∧ m.wp (as ++ List.replicate (N - n) .un) (mends as Q E) := by
  unfold defM at w
  simp only at w
  split at w
  · rename_i h
    exact ⟨Nat.eq_of_beq_eq_true h, w⟩
  · exact w.elim
section
variable {K : PySem.W.Frag} {F F' H H' : Hp}
theorem keep_back (l : Le F F') : ∀ {as : List Sl} {vs : List V} {σ : L2.St} {ρ : Env} {fp g : List Addr} {k : List Sl → Prop}, Slots K F H (vs.map some) as fp → Slots K F' H' σ ρ g → keepP as ρ k →
    ∃ as' g', k as' ∧ Slots K F' H' (vs.map some) as' g' ∧ ∀ a, g'.count a ≤ g.count a
  | [], vs, σ, ρ, fp, g, k, hA, hs, w => by
    cases vs with
    | nil => exact ⟨[], [], w, .nil, fun a => by simp⟩
    | cons v vs => cases hA
  | s :: as, vs, σ, ρ, fp, g, k, hA, hs, w => by
    cases vs with
    | nil => cases hA
    | cons v vs =>
      cases hA with
      | cons h1 h2 =>
        unfold keepP at w
        split at w
        · cases ‹s :: as = []›
        · rename_i d as' s' ρ' e
          cases e
          cases hs with
          | cons k1 k2 =>
            obtain ⟨as', g', q, b1, b2⟩ := keep_back l h2 k2 w
            cases h1 with
            | sh r =>
              refine ⟨_, g', q, .cons (f := []) (.sh (r.mono l)) b1, fun a => ?_⟩
              have := b2 a
              simp only [List.count_append] at this ⊢
              omega
        · rename_i v0 z d as' v' z' d' ρ' e
          cases e
          cases hs with
          | cons k1 k2 =>
            obtain ⟨as', g', q, b1, b2⟩ := keep_back l h2 k2 w.2
            have ev := w.1
            subst ev
            cases h1 with
            | le r =>
              cases k1 with
              | le r' =>
                refine ⟨_, _, q, .cons (.le r') b1, fun a => ?_⟩
                have := b2 a
                simp only [List.count_append] at this ⊢
                omega
        · rename_i v0 as' v' ρ' e
          cases e
          cases hs with
          | cons k1 k2 =>
            obtain ⟨as', g', q, b1, b2⟩ := keep_back l h2 k2 w.2
            have ev := w.1
            subst ev
            cases h1 with
            | lb r =>
              cases k1 with
              | lb r' =>
                refine ⟨_, _, q, .cons (.lb r') b1, fun a => ?_⟩
                have := b2 a
                simp only [List.count_append] at this ⊢
                omega
        · exact w.elim
theorem slots_none {n : Nat} : Slots K F H (List.replicate n none) (List.replicate n .un) [] := by
  induction n with
  | zero => exact .nil
  | succ n ih => exact .cons (f := []) .un ih
variable {P : Program} {w : World} {mg : Str → Option Value} {base : Heap} {x qual : Str} {params : Arguments} {body : List Stmt} {scope : Scope} {dvs : List V} {kws : List (Str × V)} {f : Addr} {fd : FuncData}
theorem spOf_len {ds : M Sl} {n : Nat} (hl : ∀ as Q E, ds.wp as Q E → as.length = n) : ∀ vs H Q E, spOf K ds vs H Q E → vs.length = n := fun vs H Q E ⟨F, as, fp, h1, h2, h3, h4, h5⟩ => by
  have := h2.len
  rw [List.length_map] at this
  rw [this]
  exact hl _ _ _ h5
theorem body_ok {ds : M Sl} {N ps : List Str} {m : MS} {t : TS} {vs : List V} {H : Hp} {Q : VK} {E : XK} (hm : ∀ as Q E, ds.wp as Q E → (defM ps.length N.length m).wp as Q E) (h : spOf K ds vs H Q E) (ht : SOk K (fun _ => E) t m) : t { nx := fun _ H' => Q .non H', rt := Q } (L2.start N vs) H := by
  obtain ⟨F, as, fp, h1, h2, h3, h4, h5⟩ := h
  obtain ⟨hn, w⟩ := defM_go (hm as _ _ h5)
  have hl : vs.length = as.length := by have := h2.len; rwa [List.length_map] at this
  have hR : Rel K ⟨H, F, fp⟩ H (L2.start N vs) (as ++ List.replicate (N.length - ps.length) .un) [] [] := by
    refine ⟨F, [], fp, ⟨h1, Le.rfl, fun a e => .inl e, fun a o e _ => e, fun a e => e, fun a ha => .inl ha, h4, h3⟩, .nil, ?_⟩
    unfold L2.start
    rw [hl, hn]
    have := h2.app (slots_none (K := K) (F := F) (H := H) (n := N.length - ps.length))
    rwa [List.append_nil] at this
  have fin : ∀ (s : Sl) (ρ : Env) (k : List Sl → Prop) (v : V) (σ : L2.St) (H' : Hp), keepP as ρ k → Rel K ⟨H, F, fp⟩ H' σ ρ [some v] [s] → ∃ as', k as' ∧ Rel K ⟨H, F, fp⟩ H' (vs.map some) as' [some v] [s] := fun s ρ k v σ H' wk hr => by
    obtain ⟨F', g1, g2, gg, ht, hs⟩ := hr
    obtain ⟨as', g', q, b1, b2⟩ := keep_back gg.f0 h2 hs wk
    refine ⟨as', q, F', g1, g', gg.cnt fun a => ?_, ht, b1⟩
    have := b2 a
    simp only [List.count_append]
    omega
  refine ht ⟨H, F, fp⟩ H _ _ [] [] _ (mends as _ _) hR ⟨fun σ ρ H' hr z => ?_, fun s ρ v σ H' hr z => ?_, fun σ ρ H' hr z => z.elim, fun σ ρ H' hr z => z.elim, fun σ er ρ z v H' hr => ?_⟩ w
  · obtain ⟨as', q, r⟩ := fin (.sh .non) ρ _ .non σ H' z (hr.push rfl)
    exact q _ _ r
  · obtain ⟨as', q, r⟩ := fin _ ρ _ v σ H' z hr
    exact q _ _ r
  · obtain ⟨as', q, r⟩ := fin _ ρ _ v σ H' z hr
    exact q _ _ r
theorem okD {ds : M Sl} {N ps : List Str} {k : Nat} {m : MS} (T : FunD K x qual params body scope dvs kws f fd) (S : FnScope N ps scope) (hl : ∀ as Q E, ds.wp as Q E → as.length = ps.length) (hm : ∀ as Q E, ds.wp as Q E → (defM ps.length N.length m).wp as Q E)
    (hbody : ∀ (cdv : Value) (A : Around) (outer : List PySem.Env) (s : Shared) (H : Hp) (E : XK), Room k (A.deeper (envOfC qual scope s.heap.objs.size f cdv)) → ∃ t, PSs (cxOf (L2.CX P w) P w K mg base N qual scope f cdv A outer s H E) body t ∧ SOk K (fun _ => E) t m) :
    FnOk P w K mg base (L2.CX P w) (k + 1) f fd ps (spOf K ds) :=
  T.ok S (spOf_len hl) fun cdv A outer s H vs Q E hr h => by
    obtain ⟨t, h1, h2⟩ := hbody cdv A outer s H E hr
    exact ⟨t, h1, body_ok hm h h2⟩
theorem defM_len {n N : Nat} {m : MS} : ∀ as Q E, (defM n N m).wp as Q E → as.length = n := fun _ _ _ w => (defM_go w).1
end
section
variable {K : PySem.W.Frag} {W : WS} {ta tb tc : TE} {ma mb mc : ME} {t u : TS} {m k : MS}
def sRaise (c : Nat) (a : ME) : MS := ⟨fun ρ M => a.wp ρ (fun s r => match s with
  | .sh d => M.ex ⟨c, d⟩ r
  | _ => False) M.ex, fun {ρ M M'} h w => a.mono (fun s r z => by
    revert z
    split
    · exact fun z => h.ex _ _ z
    · exact id) h.ex w⟩
theorem zRaise {c : Nat} {X : WX} (ha : EOk K (WE X) ta ma) (hf : ef c ≠ ("" : Str) := by decide +kernel) : SOk K (WE X) (tRaiseErr (He.ga K (en c)) (ef c) X (tCons ta tNil)) (sRaise c ma) := fun G H σ ρ τ δ D M h hi w =>
  ha G H σ ρ τ δ _ h (ma.mono (fun s ρ1 w1 v H1 h1 => by
    split at w1
    · exact ⟨v, rfl, fun d hd => (hi.ex σ _ ρ1 w1 v H1 h1).2 hf d hd⟩
    · exact w1.elim) (fun e ρ' z => hi.ex σ e ρ' z) w)
def mXf (a dd : Addr) (c c0 i : Nat) : ME := ⟨fun ρ Q _ => match ρ[i]? with
  | some (.er a' dd' c' d) => a' = a ∧ dd' = dd ∧ c' = c ∧ c' = c0 ∧ Q (.sh d) ρ
  | _ => False, fun {ρ Q Q' E E'} h _ w => by
    revert w
    split
    · exact fun w => ⟨w.1, w.2.1, w.2.2.1, w.2.2.2.1, h _ _ w.2.2.2.2⟩
    · exact id⟩
theorem eXf {a dd : Addr} {c c0 i : Nat} (hf : ef c0 ≠ ("" : Str) := by decide +kernel) : EOk K W (tXf a (.ref (He.ga K (en c))) (dOf c dd) (He.ga K (en c0)) (ef c0) (tVar i)) (mXf a dd c c0 i) := fun G H σ ρ τ δ Q h w => by
  unfold mXf at w
  simp only at w
  split at w
  · rename_i a' dd' c' d e
    obtain ⟨rfl, rfl, rfl, rfl, q⟩ := w
    obtain ⟨F, f1, f2, g, ht, hs⟩ := h
    obtain ⟨o, l, f, r, e1, e2, h1, _⟩ := hs.at e
    cases h1 with
    | erB hq => exact absurd hq hf
    | er hq hx r =>
      refine ⟨_, e2, rfl, rfl, _, _, _, dOf_f hq, hx, ?_, q _ _ ⟨F, _, f2, g, .cons (f := []) (.sh r) ht, hs⟩⟩
      rw [List.lookup_cons]
      simp
  · exact w.elim
def hEnds (i : Nat) (M : MEnds) : MEnds := ⟨fun r => M.nx (r.set i .un), M.rt, fun r => M.bk (r.set i .un), fun r => M.ct (r.set i .un), fun _ _ => False⟩
def tEnds (tbl : Nat → Option Bool) (i : Nat) (hd : Addr → Addr → Nat → MS) (M : MEnds) : MEnds := ⟨M.nx, M.rt, M.bk, M.ct, fun er r => match tbl er.c with
  | some true => match r[i]? with
    | some _ => ∀ a dd, (hd a dd er.c).wp (r.set i (.er a dd er.c er.d)) (hEnds i M)
    | none => False
  | some false => M.ex er r
  | none => False⟩
theorem hEnds_le {i : Nat} {M M' : MEnds} (h : M.Le M') : (hEnds i M).Le (hEnds i M') := ⟨fun r q => h.nx _ q, h.rt, fun r q => h.bk _ q, fun r q => h.ct _ q, fun _ _ q => q⟩
theorem tEnds_le {tbl : Nat → Option Bool} {i : Nat} {hd : Addr → Addr → Nat → MS} {M M' : MEnds} (h : M.Le M') : (tEnds tbl i hd M).Le (tEnds tbl i hd M') := ⟨h.nx, h.rt, h.bk, h.ct, fun e r z => by
  unfold tEnds at z ⊢
  simp only at z ⊢
  split at z
  · split at z
    · exact fun a dd => (hd a dd e.c).mono (hEnds_le h) (z a dd)
    · exact z.elim
  · exact h.ex _ _ z
  · exact z⟩
def sTry (tbl : Nat → Option Bool) (i : Nat) (b : MS) (hd : Addr → Addr → Nat → MS) : MS := ⟨fun ρ M => b.wp ρ (tEnds tbl i hd M), fun h w => b.mono (tEnds_le h) w⟩
theorem Rel.clr {G : Ent} {H : Hp} {σ τ : L2.St} {ρ : Env} {δ : List Sl} {i : Nat} (h : Rel K G H σ ρ τ δ) : Rel K G H (σ.set i none) (ρ.set i .un) τ δ := by
  rcases Nat.lt_or_ge i ρ.length with z | z
  · obtain ⟨F, f1, f2, g, ht, hs⟩ := h
    exact Rel.set (o := none) (s := .un) ⟨F, f1, f2, g, .cons (f := []) .un ht, hs⟩ z
  · rw [List.set_eq_of_length_le z, List.set_eq_of_length_le (by rw [h.len.1]; exact z)]
    exact h
theorem zTry {tbl : Nat → Option Bool} {c : Value} {i : Nat} {tb : WX → TS} {ts : Addr → Value → Option Addr → TS} {Wo : WX} {mb : MS} {mh : Addr → Addr → Nat → MS} (ht : ∀ n b, tbl n = some b → PySem.W.exmOne K (.ref (He.ga K (en n))) c = some b)
    (hb : ∀ X, SOk K (WE X) (tb X) mb) (hh : ∀ a dd n, SOk K (fun _ _ _ _ => False) (ts a (.ref (He.ga K (en n))) (dOf n dd)) (mh a dd n)) : SOk K (WE Wo) (fun D σ H => tb (wAs K c i ts Wo D) D σ H) (sTry tbl i mb mh) := fun G H σ ρ τ δ D M h hi w => by
  refine hb _ G H σ ρ τ δ D (tEnds tbl i mh M) h ⟨hi.nx, hi.rt, hi.bk, hi.ct, fun σ1 er ρ1 z v H1 h1 => ⟨fun hf => ?_, fun hf d hd => ?_⟩⟩ w
  · unfold tEnds at z
    simp only at z
    split at z
    · rename_i e
      have zi : i < ρ1.length ∧ ∀ a dd, (mh a dd er.c).wp (ρ1.set i (.er a dd er.c er.d)) (hEnds i M) := by
        split at z
        · rename_i e
          refine ⟨?_, z⟩
          rcases Nat.lt_or_ge i ρ1.length with q | q
          · exact q
          · rw [List.getElem?_eq_none q] at e; cases e
        · exact z.elim
      refine ⟨true, ht _ _ e, fun _ a ha => ?_, fun q => Bool.noConfusion q⟩
      have h2 : Rel K G H1 (σ1.set i (some (.ref a))) (ρ1.set i (.er a a er.c er.d)) τ δ := by
        obtain ⟨F, f1, f2, g, ht, hs⟩ := h1
        cases ht with
        | cons q1 q2 =>
          rename_i fa fb
          cases q1 with
          | sh r => exact Rel.set (τ := τ) (δ := δ) (o := some (.ref a)) (s := .er a a er.c er.d) ⟨F, fb, f2, g, .cons (f := []) (.erB hf) q2, hs⟩ zi.1
      have hz := hh a a er.c
      rw [dOf_b hf] at hz
      exact hz G _ _ _ τ δ _ (hEnds i M) h2 ⟨fun σ2 ρ2 H2 h3 w3 => hi.nx _ _ _ h3.clr w3, hi.rt, fun σ2 ρ2 H2 h3 w3 => hi.bk _ _ _ h3.clr w3, fun σ2 ρ2 H2 h3 w3 => hi.ct _ _ _ h3.clr w3, fun _ _ _ q => q.elim⟩ (zi.2 a a)
    · rename_i e
      refine ⟨false, ht _ _ e, fun q => Bool.noConfusion q, fun _ => (hi.ex σ1 er ρ1 z v H1 h1).1 hf⟩
    · exact z.elim
  unfold tEnds at z
  simp only at z
  split at z
  · rename_i e
    have zi : i < ρ1.length ∧ ∀ a dd, (mh a dd er.c).wp (ρ1.set i (.er a dd er.c er.d)) (hEnds i M) := by
      split at z
      · rename_i e
        refine ⟨?_, z⟩
        rcases Nat.lt_or_ge i ρ1.length with q | q
        · exact q
        · rw [List.getElem?_eq_none q] at e; cases e
      · exact z.elim
    refine ⟨true, ht _ _ e, fun _ a ha => ?_, fun q => Bool.noConfusion q⟩
    have h2 : Rel K G (upd H1 d (.xd [(ef er.c, v)])) (σ1.set i (some (.ref a))) (ρ1.set i (.er a d er.c er.d)) τ δ := by
      obtain ⟨F, f1, f2, g, ht, hs⟩ := h1
      cases ht with
      | cons q1 q2 =>
        rename_i fa fb
        cases q1 with
        | sh r =>
          have hin : ∀ b ∈ fb ++ f2, H1 b ≠ none := fun b hb => by
            rcases List.mem_append.mp hb with z | z
            · exact q2.here b z
            · exact hs.here b z
          have g1 := Good.newO (fp := fb ++ f2) g hin hd (.xd [(ef er.c, v)])
          have hn : ∀ b ∈ fb ++ f2, upd H1 d (.xd [(ef er.c, v)]) b = H1 b := fun b hb => upd_ne fun z => hin b hb (by rw [z]; exact hd)
          refine Rel.set (τ := τ) (δ := δ) (o := some (.ref a)) (s := .er a d er.c er.d) ⟨F, d :: fb, f2, g1, .cons (f := [d]) (.er hf upd_same r) (q2.mono Le.rfl fun b hb => hn b (List.mem_append_left _ hb)), hs.mono Le.rfl fun b hb => hn b (List.mem_append_right _ hb)⟩ zi.1
    have hz := hh a d er.c
    rw [dOf_f hf] at hz
    exact hz G _ _ _ τ δ _ (hEnds i M) h2 ⟨fun σ2 ρ2 H2 h3 w3 => hi.nx _ _ _ h3.clr w3, hi.rt, fun σ2 ρ2 H2 h3 w3 => hi.bk _ _ _ h3.clr w3, fun σ2 ρ2 H2 h3 w3 => hi.ct _ _ _ h3.clr w3, fun _ _ _ q => q.elim⟩ (zi.2 a d)
  · rename_i e
    refine ⟨false, ht _ _ e, fun q => Bool.noConfusion q, fun _ => (hi.ex σ1 er ρ1 z v H1 h1).2 hf d hd⟩
  · exact z.elim
end
end Dl
namespace Dl
open PySem PySem.Spec PyProof.Rows L2
def wipeE (ρ : Env) : List Nat → Env
  | [] => ρ
  | v :: vs => (wipeE ρ vs).set v .un
theorem wipe_at {σ : L2.St} {j : Nat} : ∀ {vs : List Nat}, (wipe σ vs)[j]? = if j ∈ vs ∧ j < σ.length then some none else σ[j]?
  | [] => by simp [wipe]
  | v :: vs => by
    unfold wipe
    by_cases h : v = j
    · subst h
      by_cases hv : v < σ.length
      · rw [List.getElem?_set_self (by rw [wipe_length]; exact hv), if_pos ⟨List.mem_cons_self, hv⟩]
      · rw [List.getElem?_eq_none (by rw [List.length_set, wipe_length]; omega), if_neg (fun z => hv z.2), List.getElem?_eq_none (by omega)]
    · rw [List.getElem?_set_ne h, wipe_at]
      have : (j ∈ v :: vs) ↔ j ∈ vs := by simp [Ne.symm h]
      simp only [this]
theorem wipe_ext {σ σ' : L2.St} {vs : List Nat} (hl : σ'.length = σ.length) (h : ∀ j, j ∉ vs → σ'[j]? = σ[j]?) : wipe σ' vs = wipe σ vs := by
  apply List.ext_getElem?
  intro j
  rw [wipe_at, wipe_at, hl]
  by_cases hj : j ∈ vs
  · by_cases hlt : j < σ.length
    · rw [if_pos ⟨hj, hlt⟩, if_pos ⟨hj, hlt⟩]
    · rw [if_neg (fun z => hlt z.2), if_neg (fun z => hlt z.2), List.getElem?_eq_none (by omega), List.getElem?_eq_none (by omega)]
  · rw [if_neg (fun z => hj z.1), if_neg (fun z => hj z.1), h j hj]
theorem wipe_wipe {σ : L2.St} {vs : List Nat} : wipe (wipe σ vs) vs = wipe σ vs := wipe_ext (wipe_length _ _) fun j hj => by rw [wipe_at, if_neg (fun z => hj z.1)]
theorem wipe_set {σ : L2.St} {vs : List Nat} {i : Nat} {o : Option V} (hi : i ∈ vs) : wipe (σ.set i o) vs = wipe σ vs := wipe_ext (List.length_set) fun j hj => List.getElem?_set_ne (fun (z : i = j) => hj (by rw [← z]; exact hi))
def GW (vs : List Nat) (g : TG) : Prop := ∀ v σ H Q, g v σ H (fun σ' H' => wipe σ' vs = wipe σ vs → Q σ' H') → g v σ H Q
theorem gw_name {vs : List Nat} {i : Nat} (hi : i ∈ vs) : GW vs (gName i) := fun v σ H Q h => h (wipe_set hi)
section
variable {K : PySem.W.Frag} {W W' : WS} {ta tb tc te : TE} {ma mb mc me : ME} {t u : TS} {m k : MS} {tA tt : TT} {mA mt : MT} {tl : TA} {ml : MA}
def GMono (g : TG) : Prop := ∀ v σ H (Q Q' : L2.St → Hp → Prop), (∀ σ' H', Q σ' H' → Q' σ' H') → g v σ H Q → g v σ H Q'
theorem gm_name {i : Nat} : GMono (gName i) := fun v σ H Q Q' h w => h _ _ w
theorem Slots.unAt {F H : Hp} {σ : L2.St} {ρ : Env} {fp : List Addr} {i : Nat} {o o' : Option V} (h : Slots K F H (σ.set i o) ρ fp) (e : ρ[i]? = some .un) : Slots K F H (σ.set i o') ρ fp := by
  obtain ⟨o1, l, f, r, e1, e2, h1, k⟩ := h.at e
  have : f = [] := by cases h1; rfl
  subst this
  have := k o' .un [] .un
  rw [List.set_set] at this
  have eρ : ρ.set i .un = ρ := by
    apply List.ext_getElem?
    intro j
    by_cases hj : j = i
    · subst hj
      rw [e]
      refine List.getElem?_set_self ?_
      rcases Nat.lt_or_ge j ρ.length with z | z
      · exact z
      · rw [List.getElem?_eq_none z] at e; cases e
    · rw [List.getElem?_set_ne (Ne.symm hj)]
  rw [eρ, ← e1] at this
  exact this
theorem wipeE_len (ρ : Env) : ∀ vs : List Nat, (wipeE ρ vs).length = ρ.length
  | [] => rfl
  | v :: vs => by unfold wipeE; rw [List.length_set, wipeE_len ρ vs]
theorem wipeE_un {ρ : Env} {j : Nat} : ∀ {vs : List Nat}, j ∈ vs → j < ρ.length → (wipeE ρ vs)[j]? = some .un
  | v :: vs, h, hl => by
    unfold wipeE
    by_cases e : v = j
    · subst e; exact List.getElem?_set_self (by rw [wipeE_len]; exact hl)
    · rw [List.getElem?_set_ne e]
      exact wipeE_un ((List.mem_cons.mp h).resolve_left (Ne.symm e)) hl
theorem Slots.unwipe {F H : Hp} {σ : L2.St} {ρ : Env} {fp : List Addr} : ∀ {vs : List Nat}, (∀ v ∈ vs, v < ρ.length → ρ[v]? = some .un) → Slots K F H (wipe σ vs) ρ fp → Slots K F H σ ρ fp
  | [], _, h => h
  | v :: vs, hu, h => by
    unfold wipe at h
    refine Slots.unwipe (vs := vs) (fun v' hv => hu v' (List.mem_cons_of_mem _ hv)) ?_
    rcases Nat.lt_or_ge v ρ.length with z | z
    · have := h.unAt (o' := (wipe σ vs)[v]?.getD none) (hu v List.mem_cons_self z)
      have e : (wipe σ vs).set v ((wipe σ vs)[v]?.getD none) = wipe σ vs := by
        have hl := h.len
        rw [List.length_set] at hl
        apply List.ext_getElem?
        intro j
        by_cases hj : j = v
        · subst hj
          rw [List.getElem?_set_self (by omega), List.getElem?_eq_getElem (by omega : j < (wipe σ vs).length)]
          rfl
        · rw [List.getElem?_set_ne (Ne.symm hj)]
      rwa [e] at this
    · rw [List.set_eq_of_length_le (by have hl := h.len; rw [List.length_set] at hl; omega)] at h
      exact h
theorem Rel.wipe {G : Ent} {H : Hp} {σ τ : L2.St} {ρ : Env} {δ : List Sl} (h : Rel K G H σ ρ τ δ) : ∀ vs : List Nat, Rel K G H (L2.wipe σ vs) (wipeE ρ vs) τ δ
  | [] => h
  | v :: vs => (Rel.wipe h vs).clr
theorem Rel.unwipe {G : Ent} {H : Hp} {σ σ2 τ : L2.St} {ρ : Env} {δ : List Sl} {vs : List Nat} (h : Rel K G H σ2 ρ τ δ) (e : L2.wipe σ2 vs = L2.wipe σ vs) : Rel K G H σ (wipeE ρ vs) τ δ := by
  have h2 := h.wipe vs
  rw [e] at h2
  obtain ⟨F, f1, f2, g, ht, hs⟩ := h2
  exact ⟨F, f1, f2, g, ht, hs.unwipe fun v hv hl => wipeE_un hv (by rwa [wipeE_len] at hl)⟩
theorem Rel.unrot {G : Ent} {H : Hp} {σ τ : L2.St} {ρ : Env} {δ : List Sl} {o : Option V} {s : Sl} {τ' : L2.St} {δ' : List Sl} (e : τ'.length = δ'.length) (h : Rel K G H σ ρ (o :: (τ' ++ τ)) (s :: (δ' ++ δ))) : Rel K G H σ ρ (τ' ++ o :: τ) (δ' ++ s :: δ) := by
  obtain ⟨F, f1, f2, g, ht, hs⟩ := h
  cases ht with
  | cons h1 h2 =>
    obtain ⟨fa, fb, rfl, h3, h4⟩ := h2.split e
    exact ⟨F, _, f2, g.cnt (by intro a; simp only [List.count_append]; omega), h3.app (.cons h1 h4), hs⟩
theorem Rel.grow {G : Ent} {H : Hp} {σ τ : L2.St} {ρ : Env} {δ : List Sl} {D0 : Addr} {y : V} {x : D} {acc : List D} (h : Rel K G H σ ρ (some y :: some (.ref D0) :: τ) (.sh x :: .ow (.ol .fr) (.lst acc) :: δ)) :
    ∃ vs, H D0 = some (.lst vs) ∧ vs.length = acc.length ∧ Rel K G (upd H D0 (.lst (vs ++ [y]))) σ ρ (some (.ref D0) :: τ) (.ow (.ol .fr) (.lst (acc ++ [x])) :: δ) := by
  obtain ⟨F, f1, f2, g, ht, hs⟩ := h
  cases ht with
  | cons h1 h2 =>
    cases h1 with
    | sh r =>
      cases h2 with
      | cons h3 h4 =>
        cases h3 with
        | ow q =>
          cases q with
          | @ol _ _ vs _ fp hD rl =>
            rename_i fb
            obtain ⟨rl', rfl⟩ := rl.rep
            have g' : Good G F H (D0 :: (fb ++ f2)) := g
            have hne : ∀ a ∈ fb ++ f2, a ≠ D0 := fun a ha z => (List.nodup_cons.mp g'.nd).1 (z ▸ ha)
            refine ⟨vs, hD, rl'.len, F, D0 :: fb, f2, g'.mut (by simp) _, .cons (f := [D0]) (.ow (.ol upd_same (rl'.app (.cons r .nil)).own)) (h4.mono Le.rfl fun a ha => upd_ne (hne a (List.mem_append_left _ ha))), hs.mono Le.rfl fun a ha => upd_ne (hne a (List.mem_append_right _ ha))⟩
def lcM (vs : List Nat) (g : MG) (c : MT) (e : ME) : List D → List D → Env → (List D → Env → Prop) → (Er → Env → Prop) → Prop
  | [], acc, ρ, Q, _ => Q acc ρ
  | d :: ds, acc, ρ, Q, E => (g (.sh d)).wp (wipeE ρ vs) (fun _ r1 => c.wp r1 (fun b r2 => if b = true then e.wp r2 (fun s r3 => match s with
      | .sh x => acc.length < sizeLine ∧ lcM vs g c e ds (acc ++ [x]) (wipeE r3 vs) Q E
      | _ => False) (fun er r => E er (wipeE r vs)) else lcM vs g c e ds acc (wipeE r2 vs) Q E) (fun er r => E er (wipeE r vs))) (fun _ _ => False)
theorem lcM_mono {vs : List Nat} {g : MG} {c : MT} {e : ME} {Q Q' : List D → Env → Prop} {E E' : Er → Env → Prop} (h : ∀ l r, Q l r → Q' l r) (h' : ∀ er r, E er r → E' er r) : ∀ {ds acc : List D} {ρ : Env}, lcM vs g c e ds acc ρ Q E → lcM vs g c e ds acc ρ Q' E'
  | [], acc, ρ, w => h _ _ w
  | d :: ds, acc, ρ, w => (g (.sh d)).mono (fun _ r1 w1 => c.mono (fun b r2 w2 => by
      cases b with
      | true =>
        refine e.mono (fun s r3 w3 => ?_) (fun er r z => h' _ _ z) w2
        revert w3
        split
        · exact fun w3 => ⟨w3.1, lcM_mono h h' w3.2⟩
        · exact id
      | false => exact lcM_mono h h' w2) (fun er r z => h' _ _ z) w1) (fun _ _ z => z) w
def mLc0 (vs : List Nat) (i : MI) (g : MG) (c : MT) (e : ME) : ME := ⟨fun ρ Q E => i.wp ρ (fun ds r => lcM vs g c e ds [] r (fun acc r => Q (.ow (.ol .fr) (.lst acc)) r) (fun _ _ => False)) E, fun h h' w => i.mono (fun ds r z => lcM_mono (fun _ _ q => h _ _ q) (fun _ _ q => q) z) h' w⟩
theorem lc_core_go {J : It} {g : TG} {mg : MG} {vs : List Nat} {E1 : Er → Env → Prop} {G : Ent} {H1 : Hp} {σ τ τ' : L2.St} {ρ1 : Env} {δ δ' : List Sl} {ds : List D} {Q : VK} (hE : ∀ er r, E1 er r → ∀ v H', Rel K G H' σ r (some v :: τ) (.sh er.d :: δ) → ∀ σ2, XE (W' σ2) H' (He.ga K (en er.c)) (ef er.c) v)
    (hw : GW vs g) (hgm : GMono g) (hg : GOk K g mg) (hc : TOk K W' tt mt) (he : EOk K W' te me) (el : τ'.length = δ'.length) (h1 : Rel K G H1 σ ρ1 (τ' ++ τ) (δ' ++ δ)) (hwk : Walks K G J ds τ' δ')
    (w1 : lcM vs mg mt me ds [] ρ1 (fun acc r => ∀ v H', Rel K G H' σ r (some v :: τ) (.ow (.ol .fr) (.lst acc) :: δ) → Q v H') E1) (A0 : Addr) (hD : H1 A0 = none) :
    ∃ W : Nat → Nat → Hp → Prop, (∃ m, W 0 m (upd H1 A0 (.lst []))) ∧ ∀ i m H, W i m H →
      (J.stop i H ∧ Q (.ref A0) H) ∨ (J.go i H ∧ ∃ Nx : Hp → Prop, (∀ H', Nx H' → ∃ m', m' < m ∧ W (i + 1) m' H') ∧ ∀ x H', J.yld i H x H' → g x (L2.wipe σ vs) H' fun σ2 H2 => L2.wipe σ2 vs = L2.wipe σ vs ∧ tt σ2 H2 fun b H3 =>
        if b = true then te σ2 H3 fun y H4 => ∃ acc, H4 A0 = some (.lst acc) ∧ acc.length < sizeLine ∧ Nx (upd H4 A0 (.lst (acc ++ [y]))) else Nx H3) := by
  have start : Rel K G (upd H1 A0 (.lst [])) σ ρ1 (τ' ++ some (.ref A0) :: τ) (δ' ++ .ow (.ol .fr) (.lst []) :: δ) := by
    have := Rel.lst (K := K) (vs := []) (ds := []) hD rfl h1
    exact Rel.unrot el this
  refine ⟨fun i n H' => n = ds.length - i ∧ i ≤ ds.length ∧ ∃ ρ' acc, Rel K G H' σ ρ' (τ' ++ some (.ref A0) :: τ) (δ' ++ .ow (.ol .fr) (.lst acc) :: δ) ∧ lcM vs mg mt me (ds.drop i) acc ρ' (fun acc r => ∀ v H', Rel K G H' σ r (some v :: τ) (.ow (.ol .fr) (.lst acc) :: δ) → Q v H') E1, ⟨_, rfl, Nat.zero_le _, ρ1, [], start, w1⟩, ?_⟩
  rintro i n H' ⟨rfl, hle, ρ', acc, h2, w2⟩
  by_cases hlt : i < ds.length
  · have hd : ds.drop i = ds[i] :: ds.drop (i + 1) := List.drop_eq_getElem_cons hlt
    rw [hd] at w2
    refine .inr ⟨hwk.go H' σ ρ' _ _ i h2 hlt, fun H2 => ∃ ρ2 acc, Rel K G H2 σ ρ2 (τ' ++ some (.ref A0) :: τ) (δ' ++ .ow (.ol .fr) (.lst acc) :: δ) ∧ lcM vs mg mt me (ds.drop (i + 1)) acc ρ2 (fun acc r => ∀ v H', Rel K G H' σ r (some v :: τ) (.ow (.ol .fr) (.lst acc) :: δ) → Q v H') E1, fun H2 ⟨ρ2, acc2, h3, w3⟩ => ⟨_, by omega, rfl, hlt, ρ2, acc2, h3, w3⟩, fun x H2 y => ?_⟩
    have h3 := hwk.yld H' σ ρ' _ _ i x H2 ds[i] h2 (List.getElem?_eq_getElem hlt) y
    refine hw _ _ _ _ (hg G H2 _ _ _ _ x _ _ (h3.wipe vs) ((mg _).mono (fun _ ρ3 w3 σ3 H3 h4 ew => ?_) (fun _ _ z => z) w2))
    rw [wipe_wipe] at ew
    have drop : ∀ {v : V} {d : D} {ρx : Env} {Hx : Hp} {σx : L2.St}, L2.wipe σx vs = L2.wipe σ vs → Rel K G Hx σx ρx (some v :: (τ' ++ some (.ref A0) :: τ)) (.sh d :: (δ' ++ .ow (.ol .fr) (.lst acc) :: δ)) → Rel K G Hx σ (wipeE ρx vs) (some v :: τ) (.sh d :: δ) := fun ew q => (Rel.dropN el q).drop2.unwipe ew
    refine ⟨ew, hc G H3 σ3 ρ3 _ _ _ h4 (mt.mono (fun b ρ4 w4 H4 h5 => ?_) (fun er ρx z v Hx q => hE _ _ z v Hx (drop ew q) _) w3)⟩
    cases b with
    | false => exact ⟨_, acc, h5.unwipe ew, w4⟩
    | true =>
      refine he G H4 σ3 ρ4 _ _ _ h5 (me.mono (fun s ρ5 w5 v H5 h6 => ?_) (fun er ρx z v Hx q => hE _ _ z v Hx (drop ew q) _) w4)
      split at w5
      · rename_i xd
        have h7 : Rel K G H5 σ3 ρ5 (some v :: some (.ref A0) :: (τ' ++ τ)) (.sh xd :: .ow (.ol .fr) (.lst acc) :: (δ' ++ δ)) := (Rel.rot (τ' := some v :: τ') (δ' := .sh xd :: δ') (by simp [el]) h6).swap
        obtain ⟨us, e1, e2, h8⟩ := h7.grow
        refine ⟨us, e1, by rw [e2]; exact w5.1, _, _, (Rel.unrot el h8).unwipe ew, w5.2⟩
      · exact w5.elim
  · have e : i = ds.length := by omega
    subst e
    rw [List.drop_length] at w2
    refine .inl ⟨hwk.stop H' σ ρ' _ _ h2, w2 _ _ ?_⟩
    exact Rel.dropN el (Rel.rot el h2)
theorem lc_go {wi : TI} {mi : MI} {g : TG} {mg : MG} {vs : List Nat} {E0 : Ent → L2.St → L2.St → List Sl → Er → Env → Prop} (hE : ∀ G σ τ δ er r, E0 G σ τ δ er r → ∀ v H', Rel K G H' σ r (some v :: τ) (.sh er.d :: δ) → ∀ σ2, XE (W' σ2) H' (He.ga K (en er.c)) (ef er.c) v)
    (hi : IOk K W wi mi) (hw : GW vs g) (hgm : GMono g) (hg : GOk K g mg) (hc : TOk K W' tt mt) (he : EOk K W' te me) (G : Ent) (H : Hp) (σ : L2.St) (ρ : Env) (τ : L2.St) (δ : List Sl) (Q : VK) (h : Rel K G H σ ρ τ δ)
    (w : mi.wp ρ (fun ds r => lcM vs mg mt me ds [] r (fun acc r => ∀ v H', Rel K G H' σ r (some v :: τ) (.ow (.ol .fr) (.lst acc) :: δ) → Q v H') (E0 G σ τ δ)) (exQ K W G σ τ δ)) : tLc wi g tt te vs σ H Q :=
  hi G H σ ρ τ δ _ h (mi.mono (fun ds ρ1 w1 J H1 τ' δ' el h1 hwk A0 hD => lc_core_go (hE G σ τ δ) hw hgm hg hc he el h1 hwk w1 A0 hD) (fun _ _ z => z) w)
theorem eLc0 {wi : TI} {mi : MI} {g : TG} {mg : MG} {vs : List Nat} (hi : IOk K W wi mi) (hw : GW vs g) (hgm : GMono g) (hg : GOk K g mg) (hc : TOk K (fun _ _ _ _ => False) tt mt) (he : EOk K (fun _ _ _ _ => False) te me) : EOk K W (tLc wi g tt te vs) (mLc0 vs mi mg mt me) := fun G H σ ρ τ δ Q h w =>
  lc_go (W' := fun _ _ _ _ => False) (E0 := fun _ _ _ _ _ _ => False) (fun _ _ _ _ _ _ z => z.elim) hi hw hgm hg hc he G H σ ρ τ δ Q h w
def mYes : MT := M.ret true
theorem tYes' : TOk K W tYes mYes := fun G H σ ρ τ δ Q h w => w H h
end
end Dl
namespace Dl
open PySem PySem.Spec PyProof.Rows L2
def Sl.own : Sl → Option (Sh × D)
  | .ow z d => some (z, d)
  | .le _ z d => some (z, d)
  | _ => none
def Sl.put : Sl → Sh → D → Sl
  | .le v _ _, z, d => .le v z d
  | _, z, d => .ow z d
section
variable {K : PySem.W.Frag} {W W' : WS} {ta tb tc te tn : TE} {ma mb mc me mn : ME} {t u : TS} {m k : MS} {tA tt : TT} {mA mt : MT} {tl : TA} {ml : MA} {G : Ent} {F H H' : Hp} {σ τ : L2.St} {ρ : Env} {δ : List Sl}
theorem SlV.owns {o : Option V} {s : Sl} {f : List Addr} {z : Sh} {d : D} (h : SlV K F H o s f) (e : s.own = some (z, d)) : ∃ v, o = some v ∧ Own K F H z v d f ∧ ∀ F' H' z' d' f', Own K F' H' z' v d' f' → SlV K F' H' o (s.put z' d') f' := by
  cases h with
  | ow r => cases e; exact ⟨_, rfl, r, fun _ _ _ _ _ q => .ow q⟩
  | le r => cases e; exact ⟨_, rfl, r, fun _ _ _ _ _ q => .le q⟩
  | _ => cases e
theorem set_same {α : Type} {l : List α} {i : Nat} {x : α} (h : l[i]? = some x) : l.set i x = l := by
  apply List.ext_getElem?
  intro j
  by_cases hj : j = i
  · subst hj
    rw [h]
    refine List.getElem?_set_self ?_
    rcases Nat.lt_or_ge j l.length with z | z
    · exact z
    · rw [List.getElem?_eq_none z] at h; cases h
  · rw [List.getElem?_set_ne (Ne.symm hj)]
theorem Rel.own {i : Nat} {s : Sl} {z : Sh} {d : D} (h : Rel K G H σ ρ τ δ) (e : ρ[i]? = some s) (eo : s.own = some (z, d)) : ∃ F f1 v f, Slots K F H τ δ f1 ∧ Le F H ∧ σ[i]? = some (some v) ∧ Own K F H z v d f ∧ (∀ u x, Rep K F u x → Rel K G H σ ρ (some u :: τ) (.sh x :: δ)) ∧
    (∀ a o z' d' f', a ∈ f → Own K F (upd H a o) z' v d' f' → (∀ b, f'.count b ≤ f.count b) → Rel K G (upd H a o) σ (ρ.set i (s.put z' d')) τ δ) := by
  obtain ⟨F, f1, f2, g, ht, hs⟩ := h
  obtain ⟨o, l, f, r, e1, e2, h1, k⟩ := hs.at e
  obtain ⟨v, rfl, q, kk⟩ := h1.owns eo
  subst e1
  refine ⟨F, f1, v, f, ht, g.sub, e2, q, fun u x r => ⟨F, f1, _, g, .cons (f := []) (.sh r) ht, hs⟩, fun a o z' d' f' ha q' hc => ?_⟩
  have hnd : ∀ b ∈ f1 ++ (l ++ r), b ≠ a := fun b hb eb => by
    subst eb
    have c1 := List.nodup_iff_count.mp g.nd b
    have c2 := List.count_pos_iff.mpr ha
    have c3 := List.count_pos_iff.mpr hb
    simp only [List.count_append] at c1 c3
    omega
  have g1 := g.mut (a := a) (List.mem_append_right _ (List.mem_append_right _ (List.mem_append_left _ ha))) o
  have h0 := (k (some v) .un [] .un).mono (F' := F) (H' := upd H a o) Le.rfl fun b hb => upd_ne (hnd b (List.mem_append_right _ (by simpa using hb)))
  rw [set_same e2] at h0
  have hlt : i < ρ.length := by
    rcases Nat.lt_or_ge i ρ.length with z | z
    · exact z
    · rw [List.getElem?_eq_none z] at e; cases e
  obtain ⟨o2, l2, f2, r2, e12, e22, h12, k2⟩ := h0.at (i := i) (s := .un) (by rw [List.getElem?_set_self hlt])
  have : f2 = [] := by cases h12; rfl
  subst this
  have h3 := k2 (some v) _ f' (kk F (upd H a o) z' d' f' q')
  rw [set_same e2, List.set_set] at h3
  refine ⟨F, f1, _, g1.cnt fun b => ?_, ht.mono Le.rfl fun b hb => upd_ne (hnd b (List.mem_append_left _ hb)), h3⟩
  have c1 := hc b
  have c2 : (l ++ ([] ++ r)).count b = (l2 ++ ([] ++ r2)).count b := by rw [e12]
  simp only [List.count_append, List.count_nil] at c1 c2 ⊢
  omega
def sp_take : Sp := fun vs H Q _ => ∃ (b c : Addr) (n : Int), vs = [.ref b, .int n] ∧ Bx H b c ∧ 0 < n ∧ n.natAbs < 2 ^ 9000 ∧ ∀ (k : Int) (o : HO), 0 ≤ k → k < n → Bx (upd H b o) b c → Q (.int k) (upd H b o)
def Sl.isBx : Sl → Bool
  | .bx => true
  | .lb _ => true
  | _ => false
def atBx {α : Type} (i : Nat) (m : M α) : M α := ⟨fun ρ Q E => match ρ[i]? with
  | some .bx => m.wp ρ Q E
  | some (.lb _) => m.wp ρ Q E
  | _ => False, fun {ρ Q Q' E E'} h h' w => by
    revert w
    split
    · exact fun w => m.mono h h' w
    · exact fun w => m.mono h h' w
    · exact id⟩
theorem atBx_go {α : Type} {i : Nat} {m : M α} {ρ : Env} {Q : α → Env → Prop} {E : Er → Env → Prop} (w : (atBx i m).wp ρ Q E) : ∃ s, ρ[i]? = some s ∧ s.isBx = true ∧ m.wp ρ Q E := by
  unfold atBx at w
  simp only at w
  split at w
  · exact ⟨_, by assumption, rfl, w⟩
  · exact ⟨_, by assumption, rfl, w⟩
  · exact w.elim
def drawM : Sl → ME := fun s => ⟨fun ρ Q _ => match s with
  | .sh (.int n) => (0 < n ∧ n.natAbs < 2 ^ 9000) ∧ ∀ k : Int, 0 ≤ k → k < n → Q (.sh (.int k)) ρ
  | _ => False, fun {ρ Q Q' E E'} h _ w => by
    revert w
    split
    · exact fun w => ⟨w.1, fun k h1 h2 => h _ _ (w.2 k h1 h2)⟩
    · exact id⟩
def mTake (i : Nat) (n : ME) : ME := atBx i (n.bind fun s => atBx i (drawM s))
theorem Rel.box {i : Nat} {s : Sl} (h : Rel K G H σ ρ τ δ) (e : ρ[i]? = some s) (eb : s.isBx = true) : ∃ b c, σ[i]? = some (some (.ref b)) ∧ Bx H b c ∧ ∀ o, Bx (upd H b o) b c → Rel K G (upd H b o) σ ρ τ δ := by
  obtain ⟨F, f1, f2, g, ht, hs⟩ := h
  obtain ⟨o, l, f, r, e1, e2, h1, k⟩ := hs.at e
  have key : ∃ b c, o = some (.ref b) ∧ f = [b, c] ∧ Bx H b c ∧ ∀ H', Bx H' b c → SlV K F H' o s f := by
    cases h1 with
    | @bx b c r => exact ⟨b, c, rfl, rfl, r, fun _ q => .bx q⟩
    | @lb b c r => exact ⟨b, c, rfl, rfl, r, fun _ q => .lb q⟩
    | _ => cases eb
  obtain ⟨b, c, rfl, rfl, hB, kk⟩ := key
  subst e1
  refine ⟨b, c, e2, hB, fun o hB' => ?_⟩
  have hnd : ∀ a ∈ f1 ++ (l ++ r), a ≠ b := fun a ha eb => by
    subst eb
    have c1 := List.nodup_iff_count.mp g.nd a
    have c3 := List.count_pos_iff.mpr ha
    simp only [List.count_append, List.count_cons, beq_self_eq_true, if_true] at c1 c3
    omega
  have g1 := g.mut (a := b) (by simp) o
  have h0 := (k (some (.ref b)) .un [] .un).mono (F' := F) (H' := upd H b o) Le.rfl fun a ha => upd_ne (hnd a (List.mem_append_right _ (by simpa using ha)))
  rw [set_same e2] at h0
  have hlt : i < ρ.length := by
    rcases Nat.lt_or_ge i ρ.length with z | z
    · exact z
    · rw [List.getElem?_eq_none z] at e; cases e
  obtain ⟨o2, l2, f2, r2, e12, e22, h12, k2⟩ := h0.at (i := i) (s := .un) (by rw [List.getElem?_set_self hlt])
  have : f2 = [] := by cases h12; rfl
  subst this
  have h3 := k2 (some (.ref b)) s [b, c] (kk _ hB')
  rw [set_same e2, List.set_set, set_same e] at h3
  refine ⟨F, f1, _, g1.cnt fun a => ?_, ht.mono Le.rfl fun a ha => upd_ne (hnd a (List.mem_append_left _ ha)), h3⟩
  have c2 : (l ++ ([] ++ r)).count a = (l2 ++ ([] ++ r2)).count a := by rw [e12]
  simp only [List.count_append, List.count_nil] at c2 ⊢
  omega
theorem eTake {i : Nat} (hn : EOk K W tn mn) : EOk K W (Cl.tF (fun vs H Q E => sp_take (vs ++ []) H Q E) W (tCons (tVar i) (tCons tn tNil))) (mTake i mn) := fun G H σ ρ τ δ Q h w => by
  obtain ⟨s0, e0, eb0, w⟩ := atBx_go w
  obtain ⟨b0, c0, e, _⟩ := h.box e0 eb0
  refine ⟨_, e, hn G H σ ρ τ δ _ h (mn.mono (fun s ρ1 w1 u H1 h1 => ?_) (fun _ _ z => z) w)⟩
  obtain ⟨s1, e1, eb1, w2⟩ := atBx_go w1
  clear w1
  unfold drawM at w2
  simp only at w2
  split at w2
  · rename_i n
    obtain ⟨b', c, e2, hB, kb⟩ := h1.pop.box e1 eb1
    rw [e] at e2
    cases e2
    obtain rfl := h1.topv (u := .int n) rfl
    exact ⟨b0, c, n, rfl, hB, w2.1.1, w2.1.2, fun k o k0 k1 hB' => w2.2 k k0 k1 _ _ ((kb o hB').push rfl)⟩
  · exact w2.elim
def sp_box (K : PySem.W.Frag) : Sp := fun vs H Q _ => ∃ (a : Addr) (ns : List Int), vs = [.ref a] ∧ SqL K H a (ns.map V.int) ∧ ∀ (H' : Hp) (b c : Addr), Same H H' → H b = none → H c = none → Bx H' b c → Q (.ref b) H'
def boxM : Sl → ME
  | .sh .scr => M.ret .bx
  | _ => M.stuck
def mBox (a : ME) : ME := a.bind boxM
theorem Bx.ne {b c : Addr} (h : Bx H b c) : c ≠ b := by
  obtain ⟨cs, i, r, s, h1, h2, _⟩ := h
  refine ne_of h2 h1 fun z => ?_
  have z2 : cs.map V.int = [.ref c, .int i, .int r, .int s] := by injection z
  cases cs with
  | nil => cases z2
  | cons a l => cases z2
theorem Good.grow {fp fn : List Addr} (g : Good G F H fp) (s : Same H H') (here : ∀ a ∈ fp, H a ≠ none) (hf : ∀ a ∈ fn, H a = none) (nd : fn.Nodup) : Good G F H' (fn ++ fp) := by
  refine ⟨fun a o e => s _ _ (g.sub a o e), g.f0, g.fN, fun a o e hn => s _ _ (g.frm a o e hn), fun a e => ?_, fun a ha => ?_, fun a ha => ?_, List.nodup_append.mpr ⟨nd, g.nd, fun a ha b hb e => here b hb (by rw [← e]; exact hf a ha)⟩⟩
  · cases q : H a with
    | none => exact absurd q (g.all a e)
    | some o => rw [s _ _ q]; intro z; cases z
  · rcases List.mem_append.mp ha with z | z
    · refine .inr ?_
      cases q : G.H a with
      | none => rfl
      | some o => exact absurd (hf a z) (g.all a (by rw [q]; intro z; cases z))
    · exact g.own a z
  · rcases List.mem_append.mp ha with z | z
    · cases q : F a with
      | none => rfl
      | some o => have := g.sub a o q; rw [hf a z] at this; cases this
    · exact g.nf a z
theorem eBox (ha : EOk K W ta ma) : EOk K W (Cl.tF (fun vs H Q E => sp_box K (vs ++ []) H Q E) W (tCons ta tNil)) (mBox ma) := fun G H σ ρ τ δ Q h w =>
  ha G H σ ρ τ δ _ h (ma.mono (fun s ρ1 w1 v H1 h1 => by
    unfold boxM at w1
    split at w1
    · obtain ⟨F, f1, f2, g, ht, hs⟩ := h1
      cases ht with
      | cons q1 q2 =>
        cases q1 with
        | sh r =>
          cases r with
          | @scr a ns hsq =>
            rename_i fb
            refine ⟨a, ns, rfl, sql_mono g.sub hsq, fun H' b c s nb nc hB => w1 _ _ ?_⟩
            have hin : ∀ a ∈ fb ++ f2, H1 a ≠ none := fun a ha => by
              rcases List.mem_append.mp ha with z | z
              · exact q2.here a z
              · exact hs.here a z
            have hn : ∀ a ∈ fb ++ f2, H' a = H1 a := fun a ha => by
              cases q : H1 a with
              | none => exact absurd q (hin a ha)
              | some o => exact s _ _ q
            have g1 := Good.grow (fp := fb ++ f2) (fn := [b, c]) g s hin (fun a ha => by
              rcases List.mem_cons.mp ha with rfl | ha
              · exact nb
              · rw [List.mem_singleton.mp ha]; exact nc) (by simp [Ne.symm hB.ne])
            exact ⟨F, b :: c :: fb, f2, g1, .cons (f := [b, c]) (.bx hB) (q2.mono Le.rfl fun a ha => hn a (List.mem_append_left _ ha)), hs.mono Le.rfl fun a ha => hn a (List.mem_append_right _ ha)⟩
    · exact w1.elim) (fun _ _ z => z) w)
def atOwn {α : Type} (i : Nat) (k : Sl → Sh → D → M α) : M α := ⟨fun ρ Q E => match ρ[i]? with
  | some (.ow z d) => (k (.ow z d) z d).wp ρ Q E
  | some (.le v z d) => (k (.le v z d) z d).wp ρ Q E
  | _ => False, fun {ρ Q Q' E E'} h h' w => by
    revert w
    split
    · exact fun w => (k _ _ _).mono h h' w
    · exact fun w => (k _ _ _).mono h h' w
    · exact id⟩
theorem atOwn_go {α : Type} {i : Nat} {k : Sl → Sh → D → M α} {ρ : Env} {Q : α → Env → Prop} {E : Er → Env → Prop} (w : (atOwn i k).wp ρ Q E) : ∃ s z d, ρ[i]? = some s ∧ s.own = some (z, d) ∧ (k s z d).wp ρ Q E := by
  unfold atOwn at w
  simp only at w
  split at w
  · exact ⟨_, _, _, by assumption, rfl, w⟩
  · exact ⟨_, _, _, by assumption, rfl, w⟩
  · exact w.elim
def ownL {α : Type} (i : Nat) (f : List D → Option (Prop × List D × α)) : M α := atOwn i fun s z d => ⟨fun ρ Q _ => match z, d with
  | .ol .fr, .lst ds => match f ds with
    | some (p, ds', a) => p ∧ Q a (ρ.set i (s.put (.ol .fr) (.lst ds')))
    | none => False
  | _, _ => False, fun {ρ Q Q' E E'} h h' w => by
    revert w
    split
    · split
      · exact fun w => ⟨w.1, h _ _ w.2⟩
      · exact id
    · exact id⟩
theorem ownL_go {α : Type} {i : Nat} {f : List D → Option (Prop × List D × α)} {ρ : Env} {Q : α → Env → Prop} {E : Er → Env → Prop} (w : (ownL i f).wp ρ Q E) : ∃ s ds p ds' a, ρ[i]? = some s ∧ s.own = some (.ol .fr, .lst ds) ∧ f ds = some (p, ds', a) ∧ p ∧ Q a (ρ.set i (s.put (.ol .fr) (.lst ds'))) := by
  obtain ⟨s, z, d, e, eo, w⟩ := atOwn_go w
  simp only at w
  split at w
  · split at w
    · exact ⟨_, _, _, _, _, e, eo, by assumption, w.1, w.2⟩
    · exact w.elim
  · exact w.elim
theorem Rel.ownL {i : Nat} {s : Sl} {ds : List D} (h : Rel K G H σ ρ τ δ) (e : ρ[i]? = some s) (eo : s.own = some (.ol .fr, .lst ds)) : ∃ F f1 l vs, Slots K F H τ δ f1 ∧ Le F H ∧ σ[i]? = some (some (.ref l)) ∧ H l = some (.lst vs) ∧ RepL K F vs ds ∧ (∀ u x, Rep K F u x → Rel K G H σ ρ (some u :: τ) (.sh x :: δ)) ∧
    (∀ vs' ds', RepL K F vs' ds' → Rel K G (upd H l (.lst vs')) σ (ρ.set i (s.put (.ol .fr) (.lst ds'))) τ δ) := by
  obtain ⟨F, f1, v, f, ht, hl, e1, q, kv, k⟩ := h.own e eo
  cases q with
  | @ol _ l vs _ fp hh rl =>
    obtain ⟨rl', rfl⟩ := rl.rep
    exact ⟨F, f1, l, vs, ht, hl, e1, hh, rl', kv, fun vs' ds' r' => k l _ _ _ [l] (by simp) (.ol upd_same r'.own) (fun _ => Nat.le_refl _)⟩
def isOwnL (i : Nat) (m : ME) : ME := atOwn i fun _ z d => match z, d with
  | .ol .fr, .lst _ => m
  | _, _ => M.stuck
theorem isOwnL_go {i : Nat} {m : ME} {ρ : Env} {Q : Sl → Env → Prop} {E : Er → Env → Prop} (w : (isOwnL i m).wp ρ Q E) : ∃ s ds, ρ[i]? = some s ∧ s.own = some (.ol .fr, .lst ds) ∧ m.wp ρ Q E := by
  obtain ⟨s, z, d, e, eo, w⟩ := atOwn_go w
  split at w
  · exact ⟨s, _, e, eo, w⟩
  · exact w.elim
def mApp (i : Nat) (e : ME) : ME := isOwnL i (e.bind fun s => match s with
  | .sh x => ownL i fun ds => some (ds.length < sizeLine, ds ++ [x], .sh .non)
  | _ => M.stuck)
theorem eApp {i : Nat} (he : EOk K W te me) : EOk K W (tBM K "list" rAppend (tVar i) (tCons te tNil)) (mApp i me) := fun G H σ ρ τ δ Q h w => by
  obtain ⟨s0, ds0, e0, eo0, w⟩ := isOwnL_go w
  obtain ⟨F, f1, l, vs, ht, hl, e1, hh, rl, kv, k⟩ := h.ownL e0 eo0
  refine ⟨_, e1, Or.inl ⟨rfl, _, SqL.of hh⟩, he G H σ ρ τ δ _ h (me.mono (fun s ρ1 w1 v H1 h1 => ?_) (fun _ _ z => z) w)⟩
  simp only at w1
  split at w1
  · rename_i x
    obtain ⟨s1, ds, p, ds', a, e2, eo, ef, hp, q⟩ := ownL_go w1
    cases ef
    obtain ⟨F2, f2, l2, vs2, ht2, hl2, e3, hh2, rl2, kv2, k2⟩ := h1.ownL e2 eo
    rw [e1] at e3
    cases e3
    cases ht2 with
    | cons q1 q2 =>
      cases q1 with
      | sh r =>
        have := (k2 _ _ (rl2.app (.cons r .nil))).pop
        exact ⟨l, vs2, v, rfl, rfl, hh2, by rw [rl2.len]; exact hp, q _ _ (this.push rfl)⟩
  · exact w1.elim
end
end Dl
namespace Dl
open PySem PySem.Spec PyProof.Rows L2
section
variable {K : PySem.W.Frag} {W W' : WS} {ta tb tc te tn tv : TE} {ma mb mc me mn mv : ME} {t u : TS} {m k : MS} {tA tt : TT} {mA mt : MT} {tl : TA} {ml : MA} {G : Ent} {F H H' : Hp} {σ τ : L2.St} {ρ : Env} {δ : List Sl}
theorem Rel.own1 {i : Nat} {s sv : Sl} {o0 : Option V} {z : Sh} {d : D} (h : Rel K G H σ ρ (o0 :: τ) (sv :: δ)) (e : ρ[i]? = some s) (eo : s.own = some (z, d)) : ∃ F f0 v f, SlV K F H o0 sv f0 ∧ Le F H ∧ σ[i]? = some (some v) ∧ Own K F H z v d f ∧ (∀ a ∈ f, a ∉ f0) ∧ f.Nodup ∧
    (∀ a o z' d' f', a ∈ f → Own K F (upd H a o) z' v d' f' → (∀ b, f'.count b ≤ f0.count b + f.count b) → Rel K G (upd H a o) σ (ρ.set i (s.put z' d')) τ δ) := by
  obtain ⟨F, f1, f2, g, ht, hs⟩ := h
  cases ht with
  | cons h0 h2 =>
    rename_i f0 fb
    obtain ⟨o, l, f, r, e1, e2, h1, k⟩ := hs.at e
    obtain ⟨v, rfl, q, kk⟩ := h1.owns eo
    subst e1
    have hdis : ∀ a ∈ f, a ∉ f0 := fun a ha ha0 => by
      have c1 := List.nodup_iff_count.mp g.nd a
      have c2 := List.count_pos_iff.mpr ha
      have c3 := List.count_pos_iff.mpr ha0
      simp only [List.count_append] at c1
      omega
    have hfn : f.Nodup := List.nodup_iff_count.mpr fun a => by
      have c1 := List.nodup_iff_count.mp g.nd a
      simp only [List.count_append] at c1
      omega
    refine ⟨F, f0, v, f, h0, g.sub, e2, q, hdis, hfn, fun a o z' d' f' ha q' hc => ?_⟩
    have hnd : ∀ b ∈ fb ++ (l ++ r), b ≠ a := fun b hb eb => by
      subst eb
      have c1 := List.nodup_iff_count.mp g.nd b
      have c2 := List.count_pos_iff.mpr ha
      have c3 := List.count_pos_iff.mpr hb
      simp only [List.count_append] at c1 c3
      omega
    have g1 := g.mut (a := a) (List.mem_append_right _ (List.mem_append_right _ (List.mem_append_left _ ha))) o
    have h0' := (k (some v) .un [] .un).mono (F' := F) (H' := upd H a o) Le.rfl fun b hb => upd_ne (hnd b (List.mem_append_right _ (by simpa using hb)))
    rw [set_same e2] at h0'
    have hlt : i < ρ.length := by
      rcases Nat.lt_or_ge i ρ.length with z | z
      · exact z
      · rw [List.getElem?_eq_none z] at e; cases e
    obtain ⟨o2, l2, f2, r2, e12, e22, h12, k2⟩ := h0'.at (i := i) (s := .un) (by rw [List.getElem?_set_self hlt])
    have : f2 = [] := by cases h12; rfl
    subst this
    have h3 := k2 (some v) _ f' (kk F (upd H a o) z' d' f' q')
    rw [set_same e2, List.set_set] at h3
    refine ⟨F, fb, _, g1.cnt fun b => ?_, h2.mono Le.rfl fun b hb => upd_ne (hnd b (List.mem_append_left _ hb)), h3⟩
    have c1 := hc b
    have c2 : (l ++ ([] ++ r)).count b = (l2 ++ ([] ++ r2)).count b := by rw [e12]
    simp only [List.count_append, List.count_nil] at c1 c2 ⊢
    omega
theorem putF_new {n : Str} {y : V} : ∀ {fs : List (Str × V)}, n ∉ fs.map (·.1) → putF n y fs = fs ++ [(n, y)]
  | [], _ => rfl
  | (k, x) :: fs, h => by
    have hk : k ≠ n := fun z => h (by rw [z]; simp)
    unfold putF
    rw [if_neg hk, putF_new fun z => h (List.mem_cons_of_mem _ z)]
    rfl
theorem OwnF.app {ss ss' : List Sh} {vs vs' : List V} {ds ds' : List D} {fp fp' : List Addr} (h : OwnF K F H ss vs ds fp) (h' : OwnF K F H ss' vs' ds' fp') : OwnF K F H (ss ++ ss') (vs ++ vs') (ds ++ ds') (fp ++ fp') := by
  match h with
  | .nil => exact h'
  | .cons q r => rw [List.append_assoc]; exact .cons q (OwnF.app r h')
theorem OwnF.len : ∀ {ss : List Sh} {vs : List V} {ds : List D} {fp : List Addr}, OwnF K F H ss vs ds fp → vs.length = ds.length ∧ ss.length = ds.length
  | _, _, _, _, .nil => ⟨rfl, rfl⟩
  | _, _, _, _, .cons _ r => by
    obtain ⟨a, b⟩ := OwnF.len r
    exact ⟨by simp [a], by simp [b]⟩
def Sl.part : Sl → Option (Sh × D)
  | .sh d => some (.fr, d)
  | .ow z d => some (z, d)
  | _ => none
theorem SlV.part {o : Option V} {s : Sl} {f : List Addr} {z : Sh} {d : D} (h : SlV K F H o s f) (e : s.part = some (z, d)) : ∃ v, o = some v ∧ Own K F H z v d f := by
  cases h with
  | sh r => cases e; exact ⟨_, rfl, .fr r⟩
  | ow r => cases e; exact ⟨_, rfl, r⟩
  | _ => cases e
def fldNew (c j i : Nat) (s : Sl) : M Unit := match s.part with
  | some (z', d') => atOwn i fun s0 z d => ⟨fun ρ Q _ => match z, d with
    | .oo ss, .obj c' ds => match Nat.beq c' c, Nat.beq ds.length j with
      | true, true => Q () (ρ.set i (s0.put (.oo (ss ++ [z'])) (.obj c' (ds ++ [d']))))
      | _, _ => False
    | _, _ => False, fun {ρ Q Q' E E'} h h' w => by
      revert w
      split
      · split
        · exact fun w => h _ _ w
        · exact id
      · exact id⟩
  | none => M.stuck
def sFldN (c j i : Nat) (v : ME) : MS := ⟨fun ρ M => v.wp ρ (fun s r => (fldNew c j i s).wp r (fun _ r' => M.nx r') (fun _ _ => False)) M.ex, fun h w => v.mono (fun s r z => (fldNew c j i s).mono (fun _ r' q => h.nx r' q) (fun _ _ q => q) z) h.ex w⟩
theorem zFldN {c j i : Nat} {n : Str} (cl : Cls K (He.ga K (cn c))) (na : NoAttr K (He.ga K (cn c)) n) (hj : (cf c)[j]? = some n) (hn : n ∉ (cf c).take j) (hs : j < 1000) (hv : EOk K W tv mv) : SOk K W (sFld K (tVar i) tv n) (sFldN c j i mv) := fun G H σ ρ τ δ D M h hi w =>
  hv G H σ ρ τ δ _ h (mv.mono (fun s ρ1 w1 y H1 h1 => by
    unfold fldNew at w1
    split at w1
    · rename_i z' d' ep
      obtain ⟨s0, z, d, e0, eo, w2⟩ := atOwn_go w1
      simp only at w2
      split at w2
      · rename_i ss c' ds
        have w3 : c' = c ∧ ds.length = j ∧ M.nx (ρ1.set i (s0.put (.oo (ss ++ [z'])) (.obj c' (ds ++ [d'])))) := by
          split at w2
          · rename_i g1 g2
            exact ⟨Nat.eq_of_beq_eq_true g1, Nat.eq_of_beq_eq_true g2, w2⟩
          · exact w2.elim
        obtain ⟨rfl, rfl, q⟩ := w3
        obtain ⟨F, f0, v, f, q0, hl, e1, qo, hdis, hfn, k⟩ := h1.own1 e0 eo
        obtain ⟨y', ey, qy⟩ := q0.part ep
        cases ey
        cases qo with
        | @oo _ a dx _ fs _ fp ha hdx hnm hof =>
          have hlen : fs.length = ds.length := by have := hof.len.1; rwa [List.length_map] at this
          have hnn : n ∉ fs.map (·.1) := by rw [hnm]; exact hn
          refine ⟨_, e1, a, _, dx, fs, rfl, ha, cl, na, by omega, hi.nx _ _ _ ?_ q⟩
          rw [putF_new hnn]
          refine k a _ _ _ (a :: dx :: (fp ++ f0)) (by simp) ?_ (fun b => by simp only [List.count_append, List.count_cons]; omega)
          have hadx : dx ≠ a := fun z => by rw [z, ha] at hdx; cases hdx
          have hfp : ∀ b ∈ fp, b ≠ a := fun b hb eb => (List.nodup_cons.mp hfn).1 (by rw [← eb]; exact List.mem_cons_of_mem _ hb)
          refine .oo (fs := fs ++ [(n, y)]) upd_same (by rw [upd_ne hadx]; exact hdx) ?_ ?_
          · rw [List.map_append, hnm, List.length_append, List.length_singleton]
            show _ ++ [n] = _
            rw [List.take_add_one, hj]
            rfl
          · rw [List.map_append]
            refine OwnF.app (hof.mono Le.rfl fun b hb => upd_ne (hfp b hb)) ?_
            have := OwnF.cons (qy.mono Le.rfl (H' := upd H1 a (.ins (He.ga K (cn c')) dx (fs ++ [(n, y)]))) fun b hb => upd_ne fun z => hdis a (by simp) (by rw [← z]; exact hb)) (.nil (K := K) (F := F))
            rw [List.append_nil] at this
            exact this
      · exact w2.elim
    · exact w1.elim) (fun e ρ' z => hi.ex σ e ρ' z) w)
mutual
/-- no address is within -/
def Sh.clean : Sh → D → Bool
  | .fr, d => d.flat
  | .ol s, .lst ds => Sh.cleanL s ds
  | .oo ss, .obj _ ds => Sh.cleanF ss ds
  | .ot ss, .tup ds => Sh.cleanF ss ds
  | _, _ => false
def Sh.cleanL : Sh → List D → Bool
  | _, [] => true
  | s, d :: ds => Sh.clean s d && Sh.cleanL s ds
def Sh.cleanF : List Sh → List D → Bool
  | [], [] => true
  | s :: ss, d :: ds => Sh.clean s d && Sh.cleanF ss ds
  | _, _ => false
end
theorem Rep.flatAny {v : V} {d : D} {F' : Hp} (h : Rep K F v d) (f : d.flat = true) : Rep K F' v d := by
  cases h with
  | non => exact .non
  | bl b => exact .bl b
  | int i => exact .int i
  | str x => exact .str x
  | _ => cases f
mutual
theorem Own.clean {F' : Hp} : ∀ {z : Sh} {v : V} {d : D} {fp : List Addr}, Own K F H z v d fp → Sh.clean z d = true → Own K F' H z v d fp
  | _, _, _, _, .fr r, e => .fr (r.flatAny (by unfold Sh.clean at e; exact e))
  | _, _, _, _, .ol h r, e => .ol h (OwnL.clean r (by unfold Sh.clean at e; exact e))
  | _, _, _, _, .od h r, e => by unfold Sh.clean at e; cases e
  | _, _, _, _, .ot h r, e => .ot h (OwnF.clean r (by unfold Sh.clean at e; exact e))
  | _, _, _, _, .oo h h' n r, e => .oo h h' n (OwnF.clean r (by unfold Sh.clean at e; exact e))
theorem OwnL.clean {F' : Hp} : ∀ {z : Sh} {v : List V} {d : List D} {fp : List Addr}, OwnL K F H z v d fp → Sh.cleanL z d = true → OwnL K F' H z v d fp
  | _, _, _, _, .nil, _ => .nil
  | _, _, _, _, .cons h r, e => by
    unfold Sh.cleanL at e
    rw [Bool.and_eq_true] at e
    exact .cons (Own.clean h e.1) (OwnL.clean r e.2)
theorem OwnF.clean {F' : Hp} : ∀ {z : List Sh} {v : List V} {d : List D} {fp : List Addr}, OwnF K F H z v d fp → Sh.cleanF z d = true → OwnF K F' H z v d fp
  | _, _, _, _, .nil, _ => .nil
  | _, _, _, _, .cons h r, e => by
    unfold Sh.cleanF at e
    rw [Bool.and_eq_true] at e
    exact .cons (Own.clean h e.1) (OwnF.clean r e.2)
end
def Sl.clean : Sl → Bool
  | .sh d => d.flat
  | .ow z d => Sh.clean z d
  | _ => false
theorem SlV.clean {F' : Hp} {o : Option V} {s : Sl} {f : List Addr} (h : SlV K F H o s f) (e : s.clean = true) : SlV K F' H o s f := by
  cases h with
  | sh r => exact .sh (r.flatAny e)
  | ow r => exact .ow (r.clean e)
  | _ => cases e
def Sl.bz : Sl → Sl
  | .ow _ d => .sh d
  | .le _ _ d => .sh d
  | .sh d => .sh d
  | _ => .un
theorem SlV.bz {F' : Hp} {o : Option V} {s : Sl} {fp : List Addr} (l : Le F F') (e : ∀ a ∈ fp, F' a = H a) (h : SlV K F H o s fp) : SlV K F' H o s.bz [] := by
  cases h with
  | sh r => exact .sh (r.mono l)
  | ow r => exact .sh (r.fz l e)
  | le r => exact .sh (r.fz l e)
  | _ => exact .un
theorem Slots.bz {F' : Hp} {fp : List Addr} (l : Le F F') (e : ∀ a ∈ fp, F' a = H a) (h : Slots K F H σ ρ fp) : Slots K F' H σ (ρ.map Sl.bz) [] := by
  induction h with
  | nil => exact .nil
  | cons h r ih => exact .cons (f := []) (h.bz l fun a ha => e a (List.mem_append_left _ ha)) (ih fun a ha => e a (List.mem_append_right _ ha))
def mBor (m : ME) : ME := ⟨fun ρ Q E => m.wp (ρ.map Sl.bz) (fun s _ => s.clean = true ∧ Q s ρ) (fun er _ => er.d.flat = true ∧ E er ρ), fun h h' w => m.mono (fun s r z => ⟨z.1, h _ _ z.2⟩) (fun er r z => ⟨z.1, h' _ _ z.2⟩) w⟩
theorem eBor {t : TE} (ht : EOk K W t ma) : EOk K W t (mBor ma) := fun G H σ ρ τ δ Q h w => by
  obtain ⟨F, f1, f2, g, hτ, hs⟩ := h
  have hf : ∀ a ∈ f1 ++ f2, F a = none := g.nf
  have l := fzH_le (H := H) hf
  have g' : Good ⟨H, fzH F H (f1 ++ f2), []⟩ (fzH F H (f1 ++ f2)) H ([] ++ []) := ⟨fun a o e => by
    by_cases z : a ∈ f1 ++ f2
    · rw [fzH_in z] at e; exact e
    · rw [fzH_out z] at e; exact g.sub a o e, Le.rfl, fun a e => .inl e, fun a o e _ => e, fun a e => e, fun a ha => (by cases ha), fun a ha => (by cases ha), List.nodup_nil⟩
  have hin : ∀ a ∈ f1 ++ f2, H a ≠ none := fun a ha => by
    rcases List.mem_append.mp ha with z | z
    · exact hτ.here a z
    · exact hs.here a z
  have hR : Rel K ⟨H, fzH F H (f1 ++ f2), []⟩ H σ (ρ.map Sl.bz) τ (δ.map Sl.bz) := ⟨_, [], [], g', hτ.bz l fun a ha => fzH_in (List.mem_append_left _ ha), hs.bz l fun a ha => fzH_in (List.mem_append_right _ ha)⟩
  have back : ∀ (s : Sl) (ρ' : Env) (v : V) (H' : Hp), s.clean = true → Rel K ⟨H, fzH F H (f1 ++ f2), []⟩ H' σ ρ' (some v :: τ) (s :: δ.map Sl.bz) → Rel K G H' σ ρ (some v :: τ) (s :: δ) := fun s ρ' v H' hc hr => by
    obtain ⟨F', g1, g2, gg, ht, _⟩ := hr
    cases ht with
    | cons q1 q2 =>
      rename_i fa fb
      have hsame : Same H H' := fun a o e => gg.frm a o e (by simp)
      have hn : ∀ a ∈ f1 ++ f2, H' a = H a := fun a ha => by
        cases q : H a with
        | none => exact absurd q (hin a ha)
        | some o => exact hsame _ _ q
      have gn := g.grow (fn := fa) hsame hin (fun a ha => by
        rcases gg.own a (List.mem_append_left _ (List.mem_append_left _ ha)) with z | z
        · cases z
        · exact z) (by
        have := gg.nd
        rw [List.append_assoc] at this
        exact (List.nodup_append.mp this).1)
      rw [← List.append_assoc] at gn
      exact ⟨F, fa ++ f1, f2, gn, .cons (q1.clean hc) (hτ.mono Le.rfl fun a ha => hn a (List.mem_append_left _ ha)), hs.mono Le.rfl fun a ha => hn a (List.mem_append_right _ ha)⟩
  exact ht _ H σ _ τ _ Q hR (ma.mono (fun s ρ' z v H' q => z.2 v H' (back s ρ' v H' z.1 q)) (fun er ρ' z v H' q => z.2 v H' (back (.sh er.d) ρ' v H' z.1 q)) w)
def tBorM (m : MT) : MT := ⟨fun ρ Q E => m.wp (ρ.map Sl.bz) (fun s _ => Q s ρ) (fun er _ => er.d.flat = true ∧ E er ρ), fun h h' w => m.mono (fun s r z => h _ _ z) (fun er r z => ⟨z.1, h' _ _ z.2⟩) w⟩
theorem tBor {t : TT} (ht : TOk K W t mA) : TOk K W t (tBorM mA) := fun G H σ ρ τ δ Q h w => by
  obtain ⟨F, f1, f2, g, hτ, hs⟩ := h
  have hf : ∀ a ∈ f1 ++ f2, F a = none := g.nf
  have l := fzH_le (H := H) hf
  have g' : Good ⟨H, fzH F H (f1 ++ f2), []⟩ (fzH F H (f1 ++ f2)) H ([] ++ []) := ⟨fun a o e => by
    by_cases z : a ∈ f1 ++ f2
    · rw [fzH_in z] at e; exact e
    · rw [fzH_out z] at e; exact g.sub a o e, Le.rfl, fun a e => .inl e, fun a o e _ => e, fun a e => e, fun a ha => (by cases ha), fun a ha => (by cases ha), List.nodup_nil⟩
  have hin : ∀ a ∈ f1 ++ f2, H a ≠ none := fun a ha => by
    rcases List.mem_append.mp ha with z | z
    · exact hτ.here a z
    · exact hs.here a z
  have hR : Rel K ⟨H, fzH F H (f1 ++ f2), []⟩ H σ (ρ.map Sl.bz) τ (δ.map Sl.bz) := ⟨_, [], [], g', hτ.bz l fun a ha => fzH_in (List.mem_append_left _ ha), hs.bz l fun a ha => fzH_in (List.mem_append_right _ ha)⟩
  have back : ∀ (s : Sl) (ρ' : Env) (v : V) (H' : Hp), s.clean = true → Rel K ⟨H, fzH F H (f1 ++ f2), []⟩ H' σ ρ' (some v :: τ) (s :: δ.map Sl.bz) → Rel K G H' σ ρ (some v :: τ) (s :: δ) := fun s ρ' v H' hc hr => by
    obtain ⟨F', g1, g2, gg, ht, _⟩ := hr
    cases ht with
    | cons q1 q2 =>
      rename_i fa fb
      have hsame : Same H H' := fun a o e => gg.frm a o e (by simp)
      have hn : ∀ a ∈ f1 ++ f2, H' a = H a := fun a ha => by
        cases q : H a with
        | none => exact absurd q (hin a ha)
        | some o => exact hsame _ _ q
      have gn := g.grow (fn := fa) hsame hin (fun a ha => by
        rcases gg.own a (List.mem_append_left _ (List.mem_append_left _ ha)) with z | z
        · cases z
        · exact z) (by
        have := gg.nd
        rw [List.append_assoc] at this
        exact (List.nodup_append.mp this).1)
      rw [← List.append_assoc] at gn
      exact ⟨F, fa ++ f1, f2, gn, .cons (q1.clean hc) (hτ.mono Le.rfl fun a ha => hn a (List.mem_append_left _ ha)), hs.mono Le.rfl fun a ha => hn a (List.mem_append_right _ ha)⟩
  exact ht _ H σ _ τ _ Q hR (mA.mono (fun s ρ' z H' q => z H' ((back (.sh .non) ρ' .non H' rfl (q.push rfl)).pop)) (fun er ρ' z v H' q => z.2 v H' (back (.sh er.d) ρ' v H' z.1 q)) w)
inductive BT where
  | non | bl | int | str | lst | tup | dic
def BT.nm : BT → String
  | .non => "NoneType" | .bl => "bool" | .int => "int" | .str => "str" | .lst => "list" | .tup => "tuple" | .dic => "dict"
def D.bty : D → Option BT
  | .non => some .non
  | .bl _ => some .bl
  | .int _ => some .int
  | .str _ => some .str
  | .lst _ => some .lst
  | .tup _ => some .tup
  | .dic _ => some .dic
  | .dil _ => some .dic
  | _ => none
theorem Rep.ty {v : V} {d : D} {s : BT} (h : Rep K F v d) (l : Le F H) (e : d.bty = some s) : TyX K H v (.type s.nm) := by
  cases h with
  | non => cases e; exact .base .non
  | bl b => cases e; exact .base (.bl b)
  | int i => cases e; exact .base (.int i)
  | str x => cases e; exact .base (.str x)
  | lst h r => cases e; exact .base (.lst (l _ _ h))
  | tup h r =>
    cases e
    rcases h with (h | ⟨o, h⟩) | ⟨o, its, n, h1, h2, _⟩
    · exact .base (.tup (l _ _ h))
    · exact .fTuple (l _ _ h)
    · exact .kTuple h1 h2
  | dic h r => cases e; exact .base (.dK (l _ _ h))
  | dil h r => cases e; exact .fDict (l _ _ h)
  | _ => cases e
def isB : BT → BT → Bool
  | .non, .non => true | .bl, .bl => true | .int, .int => true | .int, .bl => true | .str, .str => true | .lst, .lst => true | .tup, .tup => true | .dic, .dic => true
  | _, _ => false
def dIsi (T : BT) (d : D) : Option D := match d.bty with
  | some s => some (.bl (isB T s))
  | none => none
theorem kit_all (T s : BT) : kitB s.nm T.nm = some (isB T s) := by
  cases T <;> cases s <;> decide +kernel
theorem eIsi {T : BT} (ha : EOk K W ta ma) : EOk K W (tCB (rIsi K) (tCons ta (tCons (tC (.ty T.nm)) tNil))) (mUn (op1 (dIsi T)) ma) := fun G H σ ρ τ δ Q h w =>
  ha G H σ ρ τ δ _ h (ma.mono (fun s1 ρ1 w1 v1 H1 h1 => by
    obtain ⟨a, d, rfl, e, q⟩ := op1_go w1
    obtain ⟨F, r, z⟩ := h1.top
    unfold dIsi at e
    split at e
    · rename_i s es
      cases e
      exact ⟨_, _, _, _, _, rfl, .ty T.nm, r.ty z.le es, kit_ty (kit_all T s), q _ _ (h1.pop.push rfl)⟩
    · cases e) (fun _ _ z => z) w)
end
end Dl
namespace Dl
open PySem PySem.Spec PyProof.Rows L2
def calm {α : Type} (m : M α) : M α := ⟨fun ρ Q _ => m.wp ρ Q fun _ _ => False, fun h _ w => m.mono h (fun _ _ z => z) w⟩
structure Knows where
  own : Nat → Bool
  blt : BT → Bool
def Knows.is (T : Knows) : D → Bool
  | .obj c _ => T.own c
  | d => match d.bty with
    | some s => T.blt s
    | none => false
structure Knows.Ok (K : PySem.W.Frag) (C : Addr) (T : Knows) : Prop where
  own : ∀ c, T.own c = true → PySem.W.notFirst K C (.ref (He.ga K (cn c))) = true ∧ Cls K (He.ga K (cn c)) ∧ OpM.InsT K (He.ga K (cn c))
  blt : ∀ s, T.blt s = true → PySem.W.notFirst K C (.type s.nm) = true
section
variable {K : PySem.W.Frag} {W W' : WS} {ta tb tc te tn tv : TE} {ma mb mc me mn mv : ME} {G : Ent} {F H H' : Hp} {σ τ : L2.St} {ρ : Env} {δ : List Sl}
theorem Knows.Ok.ty {C : Addr} {T : Knows} (k : T.Ok K C) {v : V} {d : D} (h : Rep K F v d) (l : Le F H) (e : T.is d = true) : ∃ t, TyX K H v t ∧ PySem.W.notFirst K C t = true := by
  unfold Knows.is at e
  split at e
  · obtain ⟨k1, k2, k3⟩ := k.own _ e
    cases h with
    | obj g1 g2 g3 g4 => exact ⟨_, k3.ty k2 (l _ _ g1), k1⟩
  · split at e
    · rename_i s es
      exact ⟨_, h.ty l es, k.blt s e⟩
    · cases e
def opUn (c : Nat) (ds : M Sl) : Sl → ME
  | .sh (.obj c' fs) => if c' = c then calm (callM ds [] [.s (.sh (.obj c' fs))]) else M.stuck
  | _ => M.stuck
theorem opUn_go {c : Nat} {ds : M Sl} {s1 : Sl} {Q : Sl → Env → Prop} {E : Er → Env → Prop} (w : (opUn c ds s1).wp ρ Q E) : ∃ fs, s1 = .sh (.obj c fs) ∧ (callM ds [] [.s (.sh (.obj c fs))]).wp ρ Q (fun _ _ => False) := by
  unfold opUn at w
  split at w
  · split at w
    · rename_i h
      subst h
      exact ⟨_, rfl, w⟩
    · exact w.elim
  · exact w.elim
inductive JOk (K : PySem.W.Frag) (W : WS) : List TE → List ME → Prop
  | nil : JOk K W [] []
  | cons {t : TE} {m : ME} {ts : List TE} {ms : List ME} : EOk K W t m → JOk K W ts ms → JOk K W (t :: ts) (m :: ms)
def mIxO (i : Nat) (ix : ME) : ME := isOwnL i (ix.bind fun j => match j with
  | .sh (.int n) => ownL i fun ds => match atI ds n with
    | some d => some (True, ds, .sh d)
    | none => none
  | _ => M.stuck)
theorem eIxO {i : Nat} {ti : TE} {mi : ME} (hi : EOk K W ti mi) : EOk K W (tOp (rIxL K) (tVar i) ti) (mIxO i mi) := fun G H σ ρ τ δ Q h w => by
  obtain ⟨s0, ds0, e0, eo0, w'⟩ := isOwnL_go w
  clear w
  obtain ⟨F, f1, l, vs, ht, hl, e1, hh, rl, kv, k⟩ := h.ownL e0 eo0
  refine ⟨_, e1, hi G H σ ρ _ _ _ h (mi.mono (fun j ρ1 w1 u H1 h1 => ?_) (fun _ _ z => z) w')⟩
  simp only at w1
  split at w1
  · rename_i n
    obtain rfl := h1.topv (u := .int n) rfl
    obtain ⟨s1, ds, p, ds', a, e2, eo, ef, hp, q⟩ := ownL_go w1
    split at ef
    · rename_i d ed
      cases ef
      obtain ⟨F2, f2, l2, vs2, ht2, hl2, e3, hh2, rl2, kv2, k2⟩ := h1.pop.ownL e2 eo
      rw [e1] at e3
      cases e3
      obtain ⟨v, ev, rv⟩ := rl2.atI ed
      refine ⟨l, vs2, n, v, rfl, rfl, SqL.of hh2, ev, q _ _ ?_⟩
      have hput : s1.put (.ol .fr) (.lst ds) = s1 := by
        cases s1 with
        | ow z d => cases eo; rfl
        | le v z d => cases eo; rfl
        | _ => cases eo
      rw [hput, set_same e2]
      exact kv2 v d rv
    · cases ef
  · exact w1.elim
theorem ePow {a b n : Int} (h : CPow a b) (e : a ^ b.toNat = n) : EOk K W (tOp (rI CPow fun i j => .int (i ^ j.toNat)) (tC (.int a)) (tC (.int b))) (mC (.int n)) := fun G H σ ρ τ δ Q hr w => ⟨a, b, rfl, rfl, h, w _ _ (hr.push (by show some (V.int n) = some (V.int (a ^ b.toNat)); rw [e]))⟩
theorem Rel.cls (h : Rel K G H σ ρ τ δ) (c : Nat) : Rel K G H σ ρ (some (.ref (He.ga K (cn c))) :: τ) (.sh (.cls c) :: δ) := by
  obtain ⟨F, f1, f2, g, ht, hs⟩ := h
  exact ⟨F, _, f2, g, .cons (f := []) (.sh (.cls c)) ht, hs⟩
def mMethL (i c : Nat) (ds : M Sl) (dv : List D) (l : MB) : ME := atOwn i fun _ z d => match z, d with
  | .oo _, .obj c' _ => if c' = c then l.bind fun ags => callM ds dv (.l i :: ags) else M.stuck
  | _, _ => M.stuck
theorem eMethL {ds : M Sl} {dv : List D} {dvs : List V} {tl : TA} {ml : MB} {i c : Nat} {n : Str} (hn : n ∉ cf c) (hl : BOk K W tl ml) (hd : ∀ F, RepL K F dvs dv) :
    EOk K W (Cl.tM (He.ga K (cn c)) n (fun vs H Q E => spOf K ds (vs ++ dvs) H Q E) W (tVar i) tl) (mMethL i c ds dv ml) := fun G H σ ρ τ δ Q h w => by
  obtain ⟨s, z, d, e, eo, w'⟩ := atOwn_go w
  clear w
  split at w'
  · split at w'
    · rename_i ss c' fs hc
      subst hc
      obtain ⟨F, f1, v, f, ht, hle, e1, q, kv, k⟩ := h.own e eo
      cases q with
      | oo h1 h2 h3 h4 =>
        refine ⟨_, e1, _, _, _, rfl, h1, look_no (by rw [h3]; exact fun z => hn (List.mem_of_mem_take z)), ?_⟩
        exact hl G H σ ρ τ δ _ h (ml.mono (fun ags ρ2 w2 vs H2 τs δs ha h2 => callCore (.l e1 ha) h2 hd (fun er ρ' z => z) w2) (fun _ _ z => z) w')
    · exact w'.elim
  · exact w'.elim
end
end Dl
namespace OpM
open PySem PySem.Spec PyProof.Rows L2
end OpM
namespace Dl
open PySem PySem.Spec PyProof.Rows L2
section
variable {K : PySem.W.Frag} {W W' : WS} {ta tb tc te ti tj tv : TE} {ma mb mc me mi' mj mv : ME} {t u : TS} {m k : MS} {tA tt : TT} {mA mt : MT} {G : Ent} {F H H' : Hp} {σ τ : L2.St} {ρ : Env} {δ : List Sl}
theorem OwnF.get : ∀ {ss : List Sh} {vs : List V} {ds : List D} {fp : List Addr} {i : Nat} {s : Sh}, OwnF K F H ss vs ds fp → ss[i]? = some s → ∃ v d l f r, vs[i]? = some v ∧ ds[i]? = some d ∧ fp = l ++ (f ++ r) ∧ Own K F H s v d f ∧
    ∀ F' H' s' v' d' f', Le F F' → (∀ a ∈ l ++ r, H' a = H a) → Own K F' H' s' v' d' f' → OwnF K F' H' (ss.set i s') (vs.set i v') (ds.set i d') (l ++ (f' ++ r))
  | _, _, _, _, i, s, .nil, e => by cases e
  | _, _, _, _, 0, s, .cons (f := f) (fp := fp) q r, e => by
    cases e
    exact ⟨_, _, [], f, fp, rfl, rfl, rfl, q, fun F' H' s' v' d' f' l hh q' => by
      have := OwnF.cons q' (r.mono l (fun a ha => hh a ha))
      exact this⟩
  | _, _, _, _, i + 1, s, .cons (f := f) (fp := fp) q r, e => by
    obtain ⟨v, d, l, f1, r1, e1, e2, e3, q1, k⟩ := OwnF.get (i := i) r e
    refine ⟨v, d, f ++ l, f1, r1, e1, e2, by rw [e3, List.append_assoc], q1, fun F' H' s' v' d' f' hl hh q' => ?_⟩
    rw [List.append_assoc]
    exact .cons (q.mono hl fun a ha => hh a (by simp [ha])) (k F' H' s' v' d' f' hl (fun a ha => hh a (by
      rcases List.mem_append.mp ha with z | z
      · simp [z]
      · simp [z])) q')
theorem look_take {fs : List (Str × V)} {c j : Nat} {n : Str} {v : V} {k : Nat} (kn : fs.map (·.1) = (cf c).take k) (hi : (cf c).findIdx? (· == n) = some j) (hv : (fs.map (·.2))[j]? = some v) : fs.lookup n = some v := by
  refine look_at (i := j) kn ?_ hv
  have hlt : j < fs.length := by
    rcases Nat.lt_or_ge j fs.length with z | z
    · exact z
    · rw [List.getElem?_eq_none (by rw [List.length_map]; exact z)] at hv; cases hv
  have hk : fs.length = min k (cf c).length := by
    have := congrArg List.length kn
    rwa [List.length_map, List.length_take] at this
  rw [List.findIdx?_eq_some_iff_getElem] at hi ⊢
  obtain ⟨g1, g2, g3⟩ := hi
  refine ⟨by rw [List.length_take]; omega, by rw [List.getElem_take]; exact g2, fun j hj => ?_⟩
  rw [List.getElem_take]
  exact g3 j hj
end
end Dl
namespace Dl
open PySem PySem.Spec PyProof.Rows L2
section
variable {K : PySem.W.Frag} {W W' : WS} {ta tb tc te ti tj tv : TE} {ma mb mc me mi' mj mv : ME} {t u : TS} {m k : MS} {tA tt : TT} {mA mt : MT} {G : Ent} {F H H' : Hp} {σ τ : L2.St} {ρ : Env} {δ : List Sl}
theorem OwnL.get {s : Sh} : ∀ {vs : List V} {ds : List D} {fp : List Addr} {i : Nat} {d : D}, OwnL K F H s vs ds fp → ds[i]? = some d → ∃ v l f r, vs[i]? = some v ∧ fp = l ++ (f ++ r) ∧ Own K F H s v d f ∧
    ∀ F' H' d' f', Le F F' → (∀ a ∈ l ++ r, H' a = H a) → Own K F' H' s v d' f' → OwnL K F' H' s vs (ds.set i d') (l ++ (f' ++ r))
  | _, _, _, i, d, .nil, e => by cases e
  | _, _, _, 0, d, .cons (f := f) (fp := fp) q r, e => by
    cases e
    exact ⟨_, [], f, fp, rfl, rfl, q, fun F' H' d' f' l hh q' => by
      have := OwnL.cons q' (r.mono l (fun a ha => hh a ha))
      exact this⟩
  | _, _, _, i + 1, d, .cons (f := f) (fp := fp) q r, e => by
    obtain ⟨v, l, f1, r1, e1, e3, q1, k⟩ := OwnL.get (i := i) r e
    refine ⟨v, f ++ l, f1, r1, e1, by rw [e3, List.append_assoc], q1, fun F' H' d' f' hl hh q' => ?_⟩
    rw [List.append_assoc]
    exact .cons (q.mono hl fun a ha => hh a (by simp [ha])) (k F' H' d' f' hl (fun a ha => hh a (by
      rcases List.mem_append.mp ha with z | z
      · simp [z]
      · simp [z])) q')
theorem OwnL.length {s : Sh} : ∀ {vs : List V} {ds : List D} {fp : List Addr}, OwnL K F H s vs ds fp → vs.length = ds.length
  | _, _, _, .nil => rfl
  | _, _, _, .cons _ r => congrArg (· + 1) r.length
theorem OwnL.app {s : Sh} : ∀ {vs vs' : List V} {ds ds' : List D} {fp fp' : List Addr}, OwnL K F H s vs ds fp → OwnL K F H s vs' ds' fp' → OwnL K F H s (vs ++ vs') (ds ++ ds') (fp ++ fp')
  | _, _, _, _, _, _, .nil, h => h
  | _, _, _, _, _, _, .cons q r, h => by rw [List.append_assoc]; exact .cons q (r.app h)
theorem Rel.at {i : Nat} {d : D} (h : Rel K G H σ ρ τ δ) (e : ρ[i]? = some (.sh d)) : ∃ F v, Le F H ∧ σ[i]? = some (some v) ∧ Rep K F v d := by
  obtain ⟨F, f1, f2, g, ht, hs⟩ := h
  obtain ⟨o, l, f, r, e1, e2, h1, k⟩ := hs.at e
  cases h1 with
  | sh r => exact ⟨F, _, g.sub, e2, r⟩
theorem Le.tr {A B C : Hp} (h : Le A B) (h' : Le B C) : Le A C := fun a o e => h' a o (h a o e)
theorem Le.new {A : Hp} {p : Addr} {o : HO} (h : A p = none) : Le A (upd A p o) := fun a x e => by rw [upd_ne (fun z => by rw [z, h] at e; cases e)]; exact e
end
end Dl
namespace Dl
open PySem PySem.Spec PyProof.Rows L2
end Dl
namespace PySem
open Sem (wp)
section
variable {prog : Program} {w : World} {K : Type} [DecidableEq K] {knd : KeyKind prog w K} {A : Around} {E : Value → Shared → Prop} {s : Shared}
end
end PySem
namespace StX
open PySem PySem.Spec PyProof.Rows L2
open Sem (wp)
section
variable {X : Cx} {pos : Pos}
end
end StX
namespace Dl
open PySem PySem.Spec PyProof.Rows L2
def D.key : D → Option Key
  | .int i => some (.inl i)
  | .str x => some (.inr x)
  | _ => none
def keyD : Key → D
  | .inl i => .int i
  | .inr x => .str x
def D.pairs : D → Option (List (Key × D))
  | .dic es => some es
  | .dil es => some es
  | _ => none
def getE (es : List (Key × D)) (k : Key) : Option D := (es.find? fun p => decide (p.1 = k)).map (·.2)
def putE (es : List (Key × D)) (k : Key) (x : D) : List (Key × D) := if (es.any fun p => decide (p.1 = k)) = true then es.map (fun p => if p.1 = k then (p.1, x) else p) else es ++ [(k, x)]
section
variable {K : PySem.W.Frag} {W W' : WS} {ta tb tc te tn tk tv : TE} {ma mb mc me mn mk mv : ME} {t u : TS} {m k : MS} {tA tt : TT} {mA mt : MT} {tl : TA} {ml : MA} {G : Ent} {F H H' : Hp} {σ τ : L2.St} {ρ : Env} {δ : List Sl}
theorem Rep.key {v : V} {d : D} {k : Key} (h : Rep K F v d) (e : d.key = some k) : v = kV k := by
  cases h <;> first | (cases e; rfl) | (cases e; done)
theorem rep_key {k : Key} : Rep K F (kV k) (keyD k) := by
  cases k with
  | inl i => exact .int i
  | inr x => exact .str x
theorem RepK.keys : ∀ {kvs : List (Key × V)} {es : List (Key × D)}, RepK K F kvs es → kvs.map (·.1) = es.map (·.1)
  | _, _, .nil => rfl
  | _, _, .cons r t => by rw [List.map_cons, List.map_cons, RepK.keys t]
theorem RepK.len {kvs : List (Key × V)} {es : List (Key × D)} (h : RepK K F kvs es) : kvs.length = es.length := by
  have := congrArg List.length h.keys
  simpa using this
theorem RepK.val : ∀ {kvs : List (Key × V)} {es : List (Key × D)}, RepK K F kvs es → ∀ k, (∃ v d, valV kvs k = some v ∧ getE es k = some d ∧ Rep K F v d) ∨ (valV kvs k = none ∧ getE es k = none)
  | _, _, .nil, k => .inr ⟨rfl, rfl⟩
  | _, _, .cons (k := k0) (v := v) (d := d) r t, k => by
    by_cases e : k0 = k
    · exact .inl ⟨v, d, valV_pos (p := (k0, v)) e, by simp [getE, List.find?_cons, e], r⟩
    · rw [valV_neg (p := (k0, v)) e]
      have : ∀ es : List (Key × D), getE ((k0, d) :: es) k = getE es k := fun es => by simp [getE, List.find?_cons, e]
      rw [this]
      exact RepK.val t k
theorem RepK.any : ∀ {kvs : List (Key × V)} {es : List (Key × D)}, RepK K F kvs es → ∀ k, (kvs.any fun p => decide (p.1 = k)) = es.any fun p => decide (p.1 = k)
  | _, _, .nil, k => rfl
  | _, _, .cons r t, k => by rw [List.any_cons, List.any_cons, RepK.any t k]
theorem RepK.app : ∀ {kvs kvs' : List (Key × V)} {es es' : List (Key × D)}, RepK K F kvs es → RepK K F kvs' es' → RepK K F (kvs ++ kvs') (es ++ es')
  | _, _, _, _, .nil, h => h
  | _, _, _, _, .cons r t, h => .cons r (t.app h)
theorem RepK.repl {k : Key} {v : V} {d : D} (q : Rep K F v d) : ∀ {kvs : List (Key × V)} {es : List (Key × D)}, RepK K F kvs es → RepK K F (kvs.map fun p => if p.1 = k then (p.1, v) else p) (es.map fun p => if p.1 = k then (p.1, d) else p)
  | _, _, .nil => .nil
  | _, _, .cons (k := k0) r t => by
    rw [List.map_cons, List.map_cons]
    by_cases e : k0 = k
    · rw [if_pos e, if_pos e]; exact .cons q (t.repl q)
    · rw [if_neg e, if_neg e]; exact .cons r (t.repl q)
theorem RepK.put {k : Key} {v : V} {d : D} {kvs : List (Key × V)} {es : List (Key × D)} (h : RepK K F kvs es) (q : Rep K F v d) : RepK K F (putK kvs k v) (putE es k d) := by
  unfold putK putE
  rw [h.any k]
  split
  · exact h.repl q
  · exact h.app (.cons q .nil)
theorem Rep.dict {v : V} {d : D} {es : List (Key × D)} (h : Rep K F v d) (l : Le F H) (e : d.pairs = some es) : ∃ a kvs, v = .ref a ∧ F a ≠ none ∧ Rd H a (.dK kvs) ∧ RepK K F kvs es := by
  cases h with
  | dic h r => cases e; exact ⟨_, _, rfl, (by rw [h]; intro z; cases z), .inl (l _ _ h), r⟩
  | dil h r => cases e; exact ⟨_, _, rfl, (by rw [h]; intro z; cases z), .inr ⟨_, l _ _ h⟩, r⟩
  | _ => cases e
def dDGet : D → D → Option D := fun d k => match d.pairs, k.key with
  | some es, some k => getE es k
  | _, _ => none
theorem r_dget : R2Ok K (fun x y H Q => ∃ a v, x = .ref a ∧ DGet H a y (some v) ∧ Q v H) (op2 dDGet) := by
  intro G H σ ρ τ δ x y s1 s2 Q E hr w
  obtain ⟨a, b, d, rfl, rfl, e, q⟩ := op2_go w
  obtain ⟨F, r1, r2, z⟩ := hr.top2
  unfold dDGet at e
  split at e
  · rename_i es k he hk
    obtain ⟨p, kvs, rfl, _, rd, rk⟩ := r1.dict z.le he
    obtain rfl := r2.key hk
    rcases rk.val k with ⟨v, d', e1, e2, r⟩ | ⟨_, e2⟩
    · rw [e] at e2
      cases e2
      exact ⟨p, v, rfl, .inl ⟨kvs, k, rd, rfl, e1.symm⟩, q _ _ (z.sh _ _ r)⟩
    · rw [e] at e2; cases e2
  · cases e
theorem eDGet (ha : EOk K W ta ma) (hb : EOk K W tb mb) : EOk K W (tDGet ta tb) (mOp (op2 dDGet) ma mb) := eOp r_dget ha hb
def dDIn (neg : Bool) : D → D → Option D := fun k d => match d.pairs, k.key with
  | some es, some k => some (.bl (neg ^^ (getE es k).isSome))
  | _, _ => none
theorem r_din {neg : Bool} : R2Ok K (fun y x H Q => ∃ a o, x = .ref a ∧ DGet H a y o ∧ Q (.bl (neg ^^ o.isSome)) H) (op2 (dDIn neg)) := by
  intro G H σ ρ τ δ y x s1 s2 Q E hr w
  obtain ⟨a, b, d, rfl, rfl, e, q⟩ := op2_go w
  obtain ⟨F, r1, r2, z⟩ := hr.top2
  unfold dDIn at e
  split at e
  · rename_i es k he hk
    cases e
    obtain ⟨p, kvs, rfl, _, rd, rk⟩ := r2.dict z.le he
    obtain rfl := r1.key hk
    refine ⟨p, valV kvs k, rfl, .inl ⟨kvs, k, rd, rfl, rfl⟩, ?_⟩
    have : (valV kvs k).isSome = (getE es k).isSome := by
      rcases rk.val k with ⟨v, d', e1, e2, _⟩ | ⟨e1, e2⟩
      · rw [e1, e2]; rfl
      · rw [e1, e2]; rfl
    rw [this]
    exact q _ _ (hr.pop.pop.push rfl)
  · cases e
theorem eDIn (ha : EOk K W ta ma) (hb : EOk K W tb mb) : EOk K W (tDIn ta tb) (mOp (op2 (dDIn false)) ma mb) := fun G H σ ρ τ δ Q h w =>
  (eOp (r_din (neg := false)) ha hb G H σ ρ τ δ Q h w : tOp _ _ _ _ _ _) |> fun z => by simpa only [tOp, tDIn, Bool.false_xor] using z
theorem eDInN (ha : EOk K W ta ma) (hb : EOk K W tb mb) : EOk K W (tDNotIn ta tb) (mOp (op2 (dDIn true)) ma mb) := fun G H σ ρ τ δ Q h w =>
  (eOp (r_din (neg := true)) ha hb G H σ ρ τ δ Q h w : tOp _ _ _ _ _ _) |> fun z => by simpa only [tOp, tDNotIn, Bool.true_xor] using z
def qLenD : List V → Hp → VK → Prop := fun xs H Q => ∃ a kvs, xs = [V.ref a] ∧ Rd H a (.dK kvs) ∧ Q (.int kvs.length) H
theorem call_lenDR {X : Cx} : CallR X (.builtin "len") qLenD := by
  intro pins s σ H xs us Q I r h
  obtain ⟨a, kvs, rfl, ha, q⟩ := h
  obtain ⟨u, rfl, ru⟩ := vals1 r
  cases ru
  exact d_len I ha fun t s' I' => ⟨.int kvs.length, H, I', ⟨t, rfl⟩, q⟩
def dLenD : D → Option D := fun d => match d.pairs with
  | some es => some (.int es.length)
  | none => none
theorem c_lenD : R1Ok K (fun x H Q => qLenD [x] H Q) (op1 dLenD) := by
  intro G H σ ρ τ δ x s1 Q E hr w
  obtain ⟨a, d, rfl, e, q⟩ := op1_go w
  obtain ⟨F, r1, z⟩ := hr.top
  unfold dLenD at e
  split at e
  · rename_i es he
    cases e
    obtain ⟨p, kvs, rfl, _, rd, rk⟩ := r1.dict z.le he
    refine ⟨p, kvs, rfl, rd, ?_⟩
    rw [rk.len]
    exact q _ _ (hr.pop.push rfl)
  · cases e
def qListD : List V → Hp → VK → Prop := fun xs H Q => ∃ (a : Addr) (kvs : List (Key × V)), xs = [.ref a] ∧ Rd H a (.dK kvs) ∧ ∀ p, H p = none → Q (.ref p) (upd H p (.lst (kvs.map fun kv => kV kv.1)))
theorem call_listDR {X : Cx} (hc : X.calm = true := by rfl) : CallR X (.type "list") qListD := call_listD hc
def pListD : D → Option (Prop × Sl) := fun d => match d.pairs with
  | some es => some (True, .ow (.ol .fr) (.lst (es.map fun p => keyD p.1)))
  | none => none
theorem RepK.keyL : ∀ {kvs : List (Key × V)} {es : List (Key × D)}, RepK K F kvs es → RepL K F (kvs.map fun kv => kV kv.1) (es.map fun p => keyD p.1)
  | _, _, .nil => .nil
  | _, _, .cons r t => .cons rep_key (RepK.keyL t)
theorem c_listD : R1Ok K (fun x H Q => qListD [x] H Q) (op1P pListD) := by
  intro G H σ ρ τ δ x s1 Q E hr w
  obtain ⟨a, p, s, rfl, e, hp, q⟩ := op1P_go w
  obtain ⟨F, r1, z⟩ := hr.top
  unfold pListD at e
  split at e
  · rename_i es he
    cases e
    obtain ⟨p, kvs, rfl, _, rd, rk⟩ := r1.dict z.le he
    exact ⟨p, kvs, rfl, rd, fun l hl => q _ _ (z.ow _ _ _ _ hl (.ol upd_same rk.keyL.own))⟩
  · cases e
def mDNew : ME := M.ret (.ow (.od .fr) (.dic []))
theorem eDNew : EOk K W tDNewK mDNew := fun G H σ ρ τ δ Q h w p hp => by
  obtain ⟨F, r1, z⟩ := (h.push (d := .non) (v := .non) rfl).top
  exact w _ _ (z.ow p _ _ _ hp (.od upd_same .nil))
end
end Dl
namespace Dl
open PySem PySem.Spec PyProof.Rows L2
section
variable {K : PySem.W.Frag} {W W' : WS} {ta tb tc te tn tk tv : TE} {ma mb mc me mn mk mv : ME} {t u : TS} {m k : MS} {tA tt : TT} {mA mt : MT} {tl : TA} {ml : MA} {G : Ent} {F H H' : Hp} {σ τ : L2.St} {ρ : Env} {δ : List Sl}
theorem Rel.enter (h : Rel K G H σ ρ τ δ) : ∃ F f1 f2, Slots K F H τ δ f1 ∧ Le F H ∧ Rel K ⟨H, F, f1 ++ f2⟩ H σ ρ τ δ ∧ ∀ H' σ' ρ' τ' δ', Rel K ⟨H, F, f1 ++ f2⟩ H' σ' ρ' τ' δ' → Rel K G H' σ' ρ' τ' δ' := by
  obtain ⟨F, f1, f2, g, ht, hs⟩ := h
  refine ⟨F, f1, f2, ht, g.sub, ⟨F, f1, f2, ⟨g.sub, Le.rfl, fun a e => .inl e, fun a o e _ => e, fun a e => e, fun a ha => .inl ha, g.nf, g.nd⟩, ht, hs⟩, ?_⟩
  rintro H' σ' ρ' τ' δ' ⟨F', g1, g2, g', ht', hs'⟩
  refine ⟨F', g1, g2, ?_, ht', hs'⟩
  have := Good.call (fR := []) (by simpa using g) g' (fun a ha => by cases ha)
  simpa using this
end
end Dl
namespace Cl
open PySem PySem.Spec PyProof.Rows L2
section
variable {X : Cx} {CX : CXT} {k n : Nat} {f C : Addr} {fd : FuncData} {ps ks : List Str} {sp : Sp} {E : L2.St → XK} {x m : Str} {p pos apos : Pos} {e o : Expr} {es : List Expr} {kws : List Keyword} {ta : TE} {t tk : TA} {g : List Value → List Value → List Value} {gV : List V → List V → List V}
end
end Cl
namespace Dl
open PySem PySem.Spec PyProof.Rows L2
section
variable {K : PySem.W.Frag} {W W' : WS} {ta tb tc te tn : TE} {ma mb mc me mn : ME} {t tk tB tl : TA} {mB ml : MB} {gV : List V → List V → List V} {n l c : Nat} {ds : M Sl}
end
end Dl
namespace Cl
open PySem PySem.Spec PyProof.Rows L2
end Cl
namespace Dl
open PySem PySem.Spec PyProof.Rows L2
end Dl
namespace Dl
open PySem PySem.Spec PyProof.Rows L2
section
variable {K : PySem.W.Frag} {W W' : WS} {ta tb tc te tn tk tv : TE} {ma mb mc me mn mk mv : ME} {t u : TS} {m k : MS} {tA tt : TT} {mA mt : MT} {tl : TA} {ml : MA} {G : Ent} {F H H' : Hp} {σ τ : L2.St} {ρ : Env} {δ : List Sl}
end
end Dl
namespace Dl
open PySem PySem.Spec PyProof.Rows L2
section
variable {K : PySem.W.Frag} {G : Ent} {F H H' : Hp} {σ τ : L2.St} {ρ : Env} {δ : List Sl}
theorem Rel.ext (h : Rel K G H σ ρ τ δ) (e : Ext H H') : Rel K G H' σ ρ τ δ := by
  obtain ⟨F, f1, f2, g, ht, hs⟩ := h
  have same : ∀ a, H a ≠ none → H' a = H a := fun a ha => by
    cases q : H a with
    | none => exact absurd q ha
    | some o => exact e a o q
  refine ⟨F, f1, f2, ⟨fun a o q => e a o (g.sub a o q), g.f0, g.fN, fun a o q n => e a o (g.frm a o q n), fun a q => ?_, g.own, g.nf, g.nd⟩, ht.mono Le.rfl fun a ha => same a (ht.here a ha), hs.mono Le.rfl fun a ha => same a (hs.here a ha)⟩
  have := g.all a q
  rw [same a this]
  exact this
end
end Dl
namespace Cl
open PySem PySem.Spec PyProof.Rows L2
end Cl
namespace Dl
open PySem PySem.Spec PyProof.Rows L2
section
variable {K : PySem.W.Frag} {W W' : WS} {ta tb tc te tn tk tv : TE} {ma mb mc me mn mk mv : ME} {t u : TS} {m k : MS} {tA tt : TT} {mA mt : MT} {tl : TA} {ml : MA} {G : Ent} {F H H' : Hp} {σ τ : L2.St} {ρ : Env} {δ : List Sl}
theorem OwnF.getD : ∀ {zs : List Sh} {vs : List V} {ds : List D} {fp : List Addr} {j : Nat} {z : Sh} {d : D}, OwnF K F H zs vs ds fp → zs[j]? = some z → ds[j]? = some d → ∃ v f, vs[j]? = some v ∧ Own K F H z v d f ∧ f.Sublist fp
  | _, _, _, _, 0, z, d, .cons (f := f) (fp := fp) h r, e1, e2 => by
    cases e1
    cases e2
    exact ⟨_, f, rfl, h, List.sublist_append_left _ _⟩
  | _, _, _, _, j + 1, z, d, .cons (f := f) (fp := fp) h r, e1, e2 => by
    obtain ⟨v, g, a1, a2, a3⟩ := OwnF.getD (j := j) r e1 e2
    exact ⟨v, g, a1, a2, a3.trans (List.sublist_append_right _ _)⟩
theorem atI_of {α : Type} {xs : List α} {j : Nat} {x : α} (e : xs[j]? = some x) : L2.atI xs ((j : Nat) : Int) = some x := atI_nat e
end
end Dl
namespace NeG
open PySem PySem.SeqAt GQ
open AutoSeq1 (wpAny_loadPart')
open MeetsSeq MeetsSeq2 MeetsSeq3 SeqRoads2
section
variable {prog : Program} {w : World} {A : Around} {R : Result → Shared → Prop}
end
section
variable {prog : Program} {w : World} {A : Around} {E : Value → Shared → Prop} {s : Shared}
end
end NeG
namespace L2
open PySem PySem.Spec PyProof.Rows
section
variable {X : Cx} {n : Nat} {D : Eqv}
end
end L2
namespace Dl
open PySem PySem.Spec PyProof.Rows L2
section
variable {K : PySem.W.Frag}
end
end Dl
namespace Cl
open PySem PySem.Spec PyProof.Rows L2
end Cl
namespace Cl
open PySem PySem.Spec PyProof.Rows L2
end Cl
namespace Dl
open PySem PySem.Spec PyProof.Rows L2
section
variable {K : PySem.W.Frag}
end
end Dl
namespace Dl
open PySem PySem.Spec PyProof.Rows L2
section
variable {K : PySem.W.Frag} {W : WS} {te tf : TE} {me mf : ME}
end
end Dl
namespace TryM
open PySem PySem.Spec PyProof.Rows L2
abbrev Sui := Addr → Value → Option Addr → TS
def offE (o : Option Nat) (D : Ends) : Ends := match o with
  | none => D
  | some i => { nx := fun r H => D.nx (r.set i none) H, rt := D.rt, bk := fun r H => D.bk (r.set i none) H, ct := fun r H => D.ct (r.set i none) H }
def onS (o : Option Nat) (a : Addr) (r : L2.St) : L2.St := match o with
  | none => r
  | some i => r.set i (some (.ref a))
def wMix (K : PySem.W.Frag) (Wo : WX) (D : Ends) : List (Value × Option Nat × Sui) → WX
  | [] => Wo
  | (c, o, t) :: l => fun cls d r H => ∃ b, PySem.W.exmOne K cls c = some b ∧ (b = true → ∀ a, H a = none → t a cls d (offE o D) (onS o a r) H) ∧ (b = false → wMix K Wo D l cls d r H)
def NmOk (X : Cx) : Option Str → Option Nat → Prop
  | none, none => True
  | some n, some i => X.N.Nodup ∧ X.N[i]? = some n ∧ X.env.kindOf n = some .local
  | _, _ => False
inductive HdM (X : Cx) : List ExceptHandler → List (Value × Option Nat × Sui) → Prop
  | nil : HdM X [] []
  | cons {x : Str} {c : Value} {m : Option Str} {o : Option Nat} {t : Sui} {b : Stmt} {bs : List Stmt} {p q : Pos} {hs : List ExceptHandler} {l : List (Value × Option Nat × Sui)} (hc : Names X x c) (hm : NmOk X m o)
      (ht : ∀ (a : Addr) (u : Obj) (cls : Value) (d : Option Addr) (pn : List (Addr × Obj)), Zc cls d u → (∃ vs, u.data = .fields vs) → PSs (X.suite a ((a, u) :: pn)) (b :: bs) (t a cls d)) (r : HdM X hs l) :
      HdM X (.ExceptHandler (some (.Name x p)) m (b :: bs) q :: hs) ((c, o, t) :: l)
structure Landed (X : Cx) (pins : List (Addr × Obj)) (B : Heap) (a : Addr) (cls : Value) (d : Option Addr) (r : L2.St) (H : Hp) (sI s : Shared) (h : Heap) : Prop where
  inv : Inv X pins r H sI
  old : ∀ b o, sI.heap.get? b = some o → b ∉ frs X.stack → B.get? b = some o
  fly : HandSPX.FlyingZ B (X.env :: X.outer) a (Zc cls d) h
  slo : sI.heap.UpToSlots h
  osE : s.os = sI.os
  bar : AllBare s.gens
  new : H a = none
section
variable {X : Cx} {pins : List (Addr × Obj)} {D : Ends} {Wo : WX} {B : Heap} {a : Addr} {cls : Value} {d : Option Addr} {r : L2.St} {H : Hp} {sI s : Shared} {h : Heap}
theorem Landed.up (L : Landed X pins B a cls d r H sI s h) {h' : Heap} (f : HandSPX.FlyingZ B (X.env :: X.outer) a (Zc cls d) h') (u : h.UpToSlots h') : Landed X pins B a cls d r H sI s h' :=
  ⟨L.inv, L.old, f, L.slo.trans u, L.osE, L.bar, L.new⟩
theorem Landed.here (L : Landed X pins B a cls d r H sI s h) (hf : X.env.frame = some X.env.locals) : ∃ u vs, h.get? a = some u ∧ Zc cls d u ∧ u.data = .fields vs ∧ Inv X pins r H { s with heap := h } ∧ Inv (X.suite a ((a, u) :: (X.pn ++ pins))) [] r H { s with heap := h } := by
  have I : Inv X pins r H { s with heap := h } := L.inv.landed L.old L.fly.1 L.slo L.osE L.bar
  obtain ⟨u, vs, hu, hz, hd⟩ := L.fly.there
  have no : a ∉ frs (X.env :: X.outer) := fun m => by
    obtain ⟨_, u', e, n⟩ := L.fly.2.2.1.mem m
    cases hu.symm.trans e
    exact n _ hd
  refine ⟨u, vs, hu, hz, hd, I, I.suite hu hd L.new (fun z => no ?_) (fun m => no ?_)⟩
  · exact List.mem_filterMap.mpr ⟨_, List.mem_cons_self, z ▸ hf⟩
  · obtain ⟨v, hv, q⟩ := List.mem_filterMap.mp m
    exact List.mem_filterMap.mpr ⟨v, List.mem_cons_of_mem _ hv, q⟩
theorem Landed.pass (L : Landed X pins B a cls d r H sI s h) (hs : X.stack = X.env :: X.outer) (hf : X.env.frame = some X.env.locals) (tk : Takes X Wo) (w : Wo cls d r H) :
    wpAny (model X.prog X.w) X.A (handleBy (.ref a) X.env []) (SP X pins D) X.xe { s with heap := h } := by
  refine wpAny_handleBy_nil ?_
  obtain ⟨_, _, _, u, vs, T, _, _, hu, _, hd, ht, _⟩ := id L.fly
  have on : wpAny (model X.prog X.w) X.A (setFlight (.ref a) X.env.frame) (fun _ z => wpAny (model X.prog X.w) X.A (throw (.ref a) : Sem Flow) (SP X pins D) X.xe z) X.xe { s with heap := h } := by
    rw [hf]
    exact HandSPX.setFlight_upZ L.fly fun g hg ug => wpAny_throw (tk _ _ ⟨a, B, sI, pins, r, H, cls, d, rfl, L.inv, L.old, L.slo.trans ug, .inr (.inr (hs ▸ hg)), L.new, L.osE, L.bar, w⟩)
  unfold PySem.passOn
  refine wpAny_bind (wpAny_field hu hd ht ?_)
  rw [if_neg (by simp)]
  first
    | exact wpAny_bind (wpAny_pure (wpAny_bind on))
    | exact wpAny_bind on
theorem Landed.clauses (hs : X.stack = X.env :: X.outer) (hf : X.env.frame = some X.env.locals) (tk : Takes X Wo) {hds : List ExceptHandler} {l : List (Value × Option Nat × Sui)} (hh : HdM X hds l) :
    ∀ {h : Heap}, Landed X pins B a cls d r H sI s h → wMix X.K Wo D l cls d r H → wpAny (model X.prog X.w) X.A (handleBy (.ref a) X.env hds) (SP X pins D) X.xe { s with heap := h } := by
  induction hh with
  | nil => exact fun L w => L.pass hs hf tk w
  | @cons x c m o t b bs p q hds l hc hm ht hr ih =>
    intro h L w
    obtain ⟨y, hy, yes, no⟩ := w
    have ok := L.inv.ok
    obtain ⟨u, vs, hu, hz, hd, I, S⟩ := L.here hf
    refine wpAny_handleBy_cons (codeAny_handlers_test ?_) (by intro q; cases q)
    have ty : PySem.W.Looks (model X.prog X.w) h (typeOf (.ref a)) cls := fun A Q E z k e => wpAny_typeOf_ref (k _ _ hu) (by rw [hz.1]; exact e)
    have mt := PySem.W.exm_one (M := model X.prog X.w) I.kIn ty hy
    have nm : ∀ {Q E : Value → Shared → Prop}, Q c { s with heap := h } → wpAny (model X.prog X.w) (X.A.mark (some (.ref a))) (eval (.Name x p) X.env) Q E { s with heap := h } := fun k => by
      obtain ⟨g1, g2, g3 | ⟨g3, g4, g5⟩⟩ := hc
      · exact ld_glob (X := X.suite a ((a, u) :: (X.pn ++ pins))) S g1 g3 k g2
      · exact ld_blt (X := X.suite a ((a, u) :: (X.pn ++ pins))) S g1 g3 g4 k g5 g2
    refine nm (mt.here ?_)
    cases y with
    | false => exact ih L (no rfl)
    | true =>
      have run := yes rfl a L.new
      cases m with
      | none =>
        cases o with
        | some i => exact hm.elim
        | none =>
          refine codeAny_handlers_suite (HandSPX.lands_againZ L.fly fun h4 f4 u4 => ?_)
          obtain ⟨u', vs', hu', hz', hd', I', S'⟩ := (L.up f4 u4).here hf
          refine wpAny_mono ((ht a u' cls d (X.pn ++ pins) hz' ⟨_, hd'⟩).run [] _ _ H _ S' run) (fun f s6 e => ?_) (fun _ _ z => z.elim)
          cases f with
          | ret v => exact let ⟨v6, r6, H6, S6, rv, k⟩ := e; ⟨v6, r6, H6, S6.unsuite ok, rv, k⟩
          | next => exact let ⟨r6, H6, S6, k⟩ := e; ⟨r6, H6, S6.unsuite ok, k⟩
          | brk => exact let ⟨r6, H6, S6, k⟩ := e; ⟨r6, H6, S6.unsuite ok, k⟩
          | cont => exact let ⟨r6, H6, S6, k⟩ := e; ⟨r6, H6, S6.unsuite ok, k⟩
      | some n =>
        cases o with
        | none => exact hm.elim
        | some i =>
          obtain ⟨n1, n2, n3⟩ := hm
          refine codeAny_handlers_suite_as (HandSPX.lands_againZ L.fly fun h4 f4 u4 => ?_)
          obtain ⟨u', vs', hu', hz', hd', I', S'⟩ := (L.up f4 u4).here hf
          refine store_ok (X := X.suite a ((a, u') :: (X.pn ++ pins))) (v := .ref a) S' n1 n2 (.inl n3) rfl (fun s5 S5 => ?_) (.inr n3)
          refine wpAny_mono ((ht a u' cls d (X.pn ++ pins) hz' ⟨_, hd'⟩).run [] s5 _ H _ S5 run) (fun f s6 e => ?_) (fun _ _ z => z.elim)
          have off : ∀ {r6 : L2.St} {H6 : Hp} {Q : Shared → Prop}, Inv (X.suite a ((a, u') :: (X.pn ++ pins))) [] r6 H6 s6 → (∀ s7, Inv X pins (r6.set i none) H6 s7 → Q s7) → wpAny (model X.prog X.w) X.A (do bindName X.env n .none; unbindBehindTheSuite X.env n q) (fun _ s7 => Q s7) X.xe s6 := fun S6 k => gone_ok (S6.unsuite ok) n1 n2 n3 k
          cases f with
          | ret v => exact let ⟨v6, r6, H6, S6, rv, k⟩ := e; off S6 fun s7 J => ⟨v6, _, H6, J, rv, k⟩
          | next => exact let ⟨r6, H6, S6, k⟩ := e; off S6 fun s7 J => ⟨_, H6, J, k⟩
          | brk => exact let ⟨r6, H6, S6, k⟩ := e; off S6 fun s7 J => ⟨_, H6, J, k⟩
          | cont => exact let ⟨r6, H6, S6, k⟩ := e; off S6 fun s7 J => ⟨_, H6, J, k⟩
end
theorem ps_try {X : Cx} {body : List Stmt} {h0 : ExceptHandler} {hds : List ExceptHandler} {l : List (Value × Option Nat × Sui)} {pos : Pos} {tb : WX → TS} {Wo : WX} (hs : X.stack = X.env :: X.outer) (hf : X.env.frame = some X.env.locals) (tk : Takes X Wo)
    (hb : ∀ (W : WX) (pn : List (Addr × Obj)) (xe : Value → Shared → Prop), Takes (X.tr pn xe) W → PassesOwn (model X.prog X.w) X.A X.env xe → PSs (X.tr pn xe) body (tb W)) (hh : HdM X (h0 :: hds) l) :
    PS X (.Try body (h0 :: hds) [] [] pos) (fun D r H => tb (wMix X.K Wo D l) D r H) := ⟨fun pins s r H D I w => by
  have ok := I.ok
  refine wpAny_Try_except (wpAny_mono ((hb (wMix X.K Wo D l) (X.pn ++ pins) (fun v z => wpAny (model X.prog X.w) X.A (noteFrame v X.env) (fun _ z => wpAny (model X.prog X.w) X.A (setFlight v none) (fun _ z => wpAny (model X.prog X.w) X.A (handleBy v X.env (h0 :: hds)) (SP X pins D) X.xe z) X.xe z) X.xe z) (fun v z e => ?_) PassesOwn.looking).run [] s r H D (I.toTry _) w) (fun f z e => ?_) (fun _ _ e => e))
  · obtain ⟨a, B, sI, pins', r', H', cls, d, rfl, J, old, up, sky, na, os, ag, w'⟩ := e
    show wpAny (model X.prog X.w) X.A (noteFrame (.ref a) X.env) _ _ _
    have sky' : Sky B (X.env :: X.outer) a (Zc cls d) X.env.locals z.heap := by rw [← hs]; exact sky
    exact Sky.land Zc.steady (by rw [ok.frames, hs]) hf sky' fun h3 f3 u3 => Landed.clauses hs hf tk hh ⟨J.ofTry ok, old, f3, up.trans u3, os, ag, na⟩ w'
  · cases f with
    | ret v => exact let ⟨v6, r6, H6, S6, rv, k⟩ := e; ⟨v6, r6, H6, S6.ofTry ok, rv, k⟩
    | next => exact wpAny_execs_nil (let ⟨r6, H6, S6, k⟩ := e; ⟨r6, H6, S6.ofTry ok, k⟩)
    | brk => exact let ⟨r6, H6, S6, k⟩ := e; ⟨r6, H6, S6.ofTry ok, k⟩
    | cont => exact let ⟨r6, H6, S6, k⟩ := e; ⟨r6, H6, S6.ofTry ok, k⟩⟩
end TryM
namespace Dl
open PySem PySem.Spec PyProof.Rows L2
abbrev HdD := (Nat → Option Bool) × Option Nat × (Addr → Addr → Nat → MS)
def quiet (M : MEnds) : MEnds := ⟨M.nx, M.rt, M.bk, M.ct, fun _ _ => False⟩
def nGo (M : MEnds) (er : Er) (r : Env) : List HdD → Prop
  | [] => M.ex er r
  | (tbl, o, hd) :: l => match tbl er.c with
    | some true => match o with
      | some i => match r[i]? with
        | some _ => ∀ a dd, (hd a dd er.c).wp (r.set i (.er a dd er.c er.d)) (hEnds i M)
        | none => False
      | none => ∀ a dd, (hd a dd er.c).wp r (quiet M)
    | some false => nGo M er r l
    | none => False
def nEnds (l : List HdD) (M : MEnds) : MEnds := ⟨M.nx, M.rt, M.bk, M.ct, fun er r => nGo M er r l⟩
theorem quiet_le {M M' : MEnds} (h : M.Le M') : (quiet M).Le (quiet M') := ⟨h.nx, h.rt, h.bk, h.ct, fun _ _ q => q⟩
theorem nGo_le {M M' : MEnds} (h : M.Le M') {er : Er} {r : Env} : ∀ {l : List HdD}, nGo M er r l → nGo M' er r l
  | [], z => h.ex _ _ z
  | (tbl, o, hd) :: l, z => by
    unfold nGo at z ⊢
    split at z
    · split at z
      · split at z
        · exact fun a dd => (hd a dd er.c).mono (hEnds_le h) (z a dd)
        · exact z.elim
      · exact fun a dd => (hd a dd er.c).mono (quiet_le h) (z a dd)
    · exact nGo_le h z
    · exact z.elim
def sTryN (l : List HdD) (b : MS) : MS := ⟨fun ρ M => b.wp ρ (nEnds l M), fun {ρ M M'} h w => b.mono (M := nEnds l M) (M' := nEnds l M') ⟨h.nx, h.rt, h.bk, h.ct, fun _ _ z => nGo_le h z⟩ w⟩
section
variable {K : PySem.W.Frag}
inductive NOk (K : PySem.W.Frag) : List (Value × Option Nat × TryM.Sui) → List HdD → Prop
  | nil : NOk K [] []
  | cons {c : Value} {o : Option Nat} {ts : TryM.Sui} {tbl : Nat → Option Bool} {mh : Addr → Addr → Nat → MS} {l : List (Value × Option Nat × TryM.Sui)} {m : List HdD} (ht : ∀ n b, tbl n = some b → PySem.W.exmOne K (.ref (He.ga K (en n))) c = some b)
      (hh : ∀ a dd n, SOk K (fun _ _ _ _ => False) (ts a (.ref (He.ga K (en n))) (dOf n dd)) (mh a dd n)) (r : NOk K l m) : NOk K ((c, o, ts) :: l) ((tbl, o, mh) :: m)
theorem Rel.leak {G : Ent} {H : Hp} {σ τ : L2.St} {ρ : Env} {δ : List Sl} {v : V} {x : D} {p : Addr} {o : HO} (h : Rel K G H σ ρ (some v :: τ) (.sh x :: δ)) (hp : H p = none) : Rel K G (upd H p o) σ ρ τ δ := by
  obtain ⟨F, f1, f2, g, ht, hs⟩ := h
  cases ht with
  | cons q1 q2 =>
    rename_i fa fb
    cases q1 with
    | sh r =>
      have hin : ∀ b ∈ fb ++ f2, H b ≠ none := fun b hb => by
        rcases List.mem_append.mp hb with z | z
        · exact q2.here b z
        · exact hs.here b z
      have hn : ∀ b ∈ fb ++ f2, upd H p o b = H b := fun b hb => upd_ne fun z => hin b hb (by rw [z]; exact hp)
      exact ⟨F, fb, f2, (Good.newO (fp := fb ++ f2) g hin hp o).less (List.sublist_cons_self _ _), q2.mono Le.rfl fun b hb => hn b (List.mem_append_left _ hb), hs.mono Le.rfl fun b hb => hn b (List.mem_append_right _ hb)⟩
theorem Rel.caught {G : Ent} {H : Hp} {σ τ : L2.St} {ρ : Env} {δ : List Sl} {v : V} {x : D} {a p : Addr} {c i : Nat} (h : Rel K G H σ ρ (some v :: τ) (.sh x :: δ)) (hf : ef c ≠ ("" : Str)) (hp : H p = none) (hi : i < ρ.length) : Rel K G (upd H p (.xd [(ef c, v)])) (σ.set i (some (.ref a))) (ρ.set i (.er a p c x)) τ δ := by
  obtain ⟨F, f1, f2, g, ht, hs⟩ := h
  cases ht with
  | cons q1 q2 =>
    rename_i fa fb
    cases q1 with
    | sh r =>
      have hin : ∀ b ∈ fb ++ f2, H b ≠ none := fun b hb => by
        rcases List.mem_append.mp hb with z | z
        · exact q2.here b z
        · exact hs.here b z
      have hn : ∀ b ∈ fb ++ f2, upd H p (.xd [(ef c, v)]) b = H b := fun b hb => upd_ne fun z => hin b hb (by rw [z]; exact hp)
      exact Rel.set (τ := τ) (δ := δ) (o := some (.ref a)) (s := .er a p c x) ⟨F, p :: fb, f2, Good.newO (fp := fb ++ f2) g hin hp _, .cons (f := [p]) (.er hf upd_same r) (q2.mono Le.rfl fun b hb => hn b (List.mem_append_left _ hb)), hs.mono Le.rfl fun b hb => hn b (List.mem_append_right _ hb)⟩ hi
theorem Rel.caughtB {G : Ent} {H : Hp} {σ τ : L2.St} {ρ : Env} {δ : List Sl} {v : V} {x : D} {a : Addr} {c i : Nat} (h : Rel K G H σ ρ (some v :: τ) (.sh x :: δ)) (hf : ef c = ("" : Str)) (hi : i < ρ.length) : Rel K G H (σ.set i (some (.ref a))) (ρ.set i (.er a a c x)) τ δ := by
  obtain ⟨F, f1, f2, g, ht, hs⟩ := h
  cases ht with
  | cons q1 q2 =>
    rename_i fa fb
    cases q1 with
    | sh r => exact Rel.set (τ := τ) (δ := δ) (o := some (.ref a)) (s := .er a a c x) ⟨F, fb, f2, g, .cons (f := []) (.erB hf) q2, hs⟩ hi
theorem Rel.leakB {G : Ent} {H : Hp} {σ τ : L2.St} {ρ : Env} {δ : List Sl} {v : V} {x : D} (h : Rel K G H σ ρ (some v :: τ) (.sh x :: δ)) : Rel K G H σ ρ τ δ := by
  obtain ⟨F, f1, f2, g, ht, hs⟩ := h
  cases ht with
  | cons q1 q2 =>
    cases q1 with
    | sh r => exact ⟨F, _, f2, g, q2, hs⟩
theorem zTryN {tb : WX → TS} {Wo : WX} {mb : MS} {l : List (Value × Option Nat × TryM.Sui)} {m : List HdD} (hb : ∀ X, SOk K (WE X) (tb X) mb) (hl : NOk K l m) : SOk K (WE Wo) (fun D σ H => tb (TryM.wMix K Wo D l) D σ H) (sTryN m mb) := fun G H σ ρ τ δ D M h hi w => by
  refine hb _ G H σ ρ τ δ D (nEnds m M) h ⟨hi.nx, hi.rt, hi.bk, hi.ct, fun σ1 er ρ1 z v H1 h1 => ⟨fun hf => ?_, fun hf d hd => ?_⟩⟩ w
  · have z' : nGo M er ρ1 m := z
    clear z w
    induction hl with
    | nil => exact (hi.ex σ1 er ρ1 z' v H1 h1).1 hf
    | @cons c o ts tbl mh l m ht hh r ih =>
      unfold nGo at z'
      split at z'
      · rename_i e
        refine ⟨true, ht _ _ e, fun _ a ha => ?_, fun q => Bool.noConfusion q⟩
        have hz := hh a a er.c
        rw [dOf_b hf] at hz
        split at z'
        · rename_i i
          split at z'
          · rename_i e'
            have hlt : i < ρ1.length := by
              rcases Nat.lt_or_ge i ρ1.length with q | q
              · exact q
              · rw [List.getElem?_eq_none q] at e'; cases e'
            exact hz G _ _ _ τ δ _ (hEnds i M) (h1.caughtB hf hlt) ⟨fun σ2 ρ2 H2 h3 w3 => hi.nx _ _ _ h3.clr w3, hi.rt, fun σ2 ρ2 H2 h3 w3 => hi.bk _ _ _ h3.clr w3, fun σ2 ρ2 H2 h3 w3 => hi.ct _ _ _ h3.clr w3, fun _ _ _ q => q.elim⟩ (z' a a)
          · exact z'.elim
        · exact hz G _ _ _ τ δ _ (quiet M) h1.leakB ⟨hi.nx, hi.rt, hi.bk, hi.ct, fun _ _ _ q => q.elim⟩ (z' a a)
      · rename_i e
        exact ⟨false, ht _ _ e, fun q => Bool.noConfusion q, fun _ => ih z'⟩
      · exact z'.elim
  have z' : nGo M er ρ1 m := z
  clear z w
  induction hl with
  | nil => exact (hi.ex σ1 er ρ1 z' v H1 h1).2 hf d hd
  | @cons c o ts tbl mh l m ht hh r ih =>
    unfold nGo at z'
    split at z'
    · rename_i e
      refine ⟨true, ht _ _ e, fun _ a ha => ?_, fun q => Bool.noConfusion q⟩
      have hz := hh a d er.c
      rw [dOf_f hf] at hz
      split at z'
      · rename_i i
        split at z'
        · rename_i e'
          have hlt : i < ρ1.length := by
            rcases Nat.lt_or_ge i ρ1.length with q | q
            · exact q
            · rw [List.getElem?_eq_none q] at e'; cases e'
          exact hz G _ _ _ τ δ _ (hEnds i M) (h1.caught hf hd hlt) ⟨fun σ2 ρ2 H2 h3 w3 => hi.nx _ _ _ h3.clr w3, hi.rt, fun σ2 ρ2 H2 h3 w3 => hi.bk _ _ _ h3.clr w3, fun σ2 ρ2 H2 h3 w3 => hi.ct _ _ _ h3.clr w3, fun _ _ _ q => q.elim⟩ (z' a d)
        · exact z'.elim
      · exact hz G _ _ _ τ δ _ (quiet M) (h1.leak hd) ⟨hi.nx, hi.rt, hi.bk, hi.ct, fun _ _ _ q => q.elim⟩ (z' a d)
    · rename_i e
      exact ⟨false, ht _ _ e, fun q => Bool.noConfusion q, fun _ => ih z'⟩
    · exact z'.elim
end
end Dl
namespace Cl
open PySem PySem.Spec PyProof.Rows L2
def pm {α : Type} : List Nat → List α → List α
  | [], _ => []
  | i :: is, l => match l[i]? with
    | some x => x :: pm is l
    | none => pm is l
end Cl
namespace PySem
namespace ErrX
open PySem.W PySem.Calls PyProof.Rows PySem.HandSPX
def iBL (x f msg : Str) (q1 q2 q3 q4 q5 q6 q7 q8 q9 q10 qa qb : Pos) : List Stmt :=
  [.Expr (.Call (.Attribute (.Call (.Name "super" q1) [] [] q2) "__init__" q3) [.Constant (.str msg) 0 q4] [] q5) q6,
   .Assign [.Attribute (.Name "self" q7) f q8] (.Call (.Name "list" qa) [.Name x q9] [] qb) q10]
def iSL (x : Str) : Scope := { kind := .function, names := [(PySem.Str.ofString "self", .local), (x, .local), (PySem.Str.ofString "__class__", .free), (PySem.Str.ofString "super", .globalImplicit), (PySem.Str.ofString "list", .globalImplicit)], isGenerator := false, isCoroutine := false, more := [] }
structure ErrTxtL (P : Program) (K : Frag) (C : Addr) (x f : Str) : Prop where
  cls : ∃ nm q N bs bm sn sub ab col dd k0 k1 k2 k3 k5, K.lookup C = some (excClassObj nm q C N bs bm true sn sub ab col dd k0 k1 k2 k3 k5 "ValueError.__new__") ∧ refsVE bm = true
  along : ∃ cd, clsIn K C = some cd ∧ alongIn K "__init__" ((cd.mro.dropWhile (· != .ref C)).drop 1) = some (some (.builtin "ValueError.__init__"))
  opq : nsIn K cStatics "thirdparty.any" = some none
  selfC : mroIn K C (.ref C) = some true
  ve : subIn K (.ref C) (.type "ValueError") = some true
  sa : findIn K (.ref C) "__setattr__" = some (some (.builtin "object.__setattr__"))
  ga : findIn K (.ref C) "__getattribute__" = some (some (.builtin "BaseException.__getattribute__"))
  gg : findIn K (.ref C) "__getattr__" = some none
  noN : findIn K (.ref C) f = some none
  kC : keepIn K (.ref C) = true
  exC : subIn K (.ref C) (.type "BaseException") = some true
  tyC : typeIn K (.ref C) = some (.type "type")
  hdC : hasDictIn K C = true
  fn : ∃ fI, findIn K (.ref C) "__init__" = some (some (.ref fI)) ∧ typeIn K (.ref fI) = some (.type "function") ∧
    ∃ (oc : Value) (od : Option Addr) (doc pm kV : Value) (an : Option Addr) (cda cc : Addr) (ct : Value) (osl : Array (Option Value)) (nm qual msg : Str) (p1 p2 q1 q2 q3 q4 q5 q6 q7 q8 q9 q10 qa qb : Pos),
      (q3.endLine == q5.line) = true ∧ K.lookup fI = some ⟨oc, od, .func (ksFn nm qual (iA x p1 p2) (iBL x f msg q1 q2 q3 q4 q5 q6 q7 q8 q9 q10 qa qb) (iSL x) .none kV doc pm an (.ref cda) ct cc), osl⟩ ∧ codeIn K (.ref cda) qual = true ∧
      (∃ ccl cdd vs ccs file tf, K.lookup cda = some ⟨ccl, cdd, .fields vs, ccs⟩ ∧ vs[2]? = some (.str file tf) ∧ ((P.main.file : Str) == file) = true) ∧
      ∃ cl cld csl, K.lookup cc = some ⟨cl, cld, .cell (some (.ref C)), csl⟩
  topl : (P.main.scope.names.lookup ("list" : Str)).isSome = false
  top : (P.main.scope.names.lookup ("super" : Str)).isSome = false
  xs : (x == ("self" : Str)) = false
  xc : (("__class__" : Str) == x) = false
  xu : (("super" : Str) == x) = false
  xl : (("list" : Str) == x) = false
  xd : (x == ("__debug__" : Str)) = false
  bnd : ∀ (nm qual : Str) (Bd : List Stmt) (kV doc pm : Value) (an : Option Addr) (cdv ct : Value) (cc : Addr) (p1 p2 : Pos) (u v : Value), bindArgs (ksFn nm qual (iA x p1 p2) Bd (iSL x) .none kV doc pm an cdv ct cc) ⟨[u, v], []⟩ = pure [(("self" : Str), u), (x, v)]
structure InitEndL (h h' : Heap) (e C dx : Addr) (f : Str) (l : Addr) (items : Array Value) (cl : Nat) : Prop where
  ini : InitEnd h h' e C dx f (.ref l)
  lbig : h.objs.size ≤ l
  lne : l ≠ e
  lnd : l ≠ dx
  lobj : h'.get? l = some { cls := .type "list", dict := none, data := .seq items cl, slots := #[] }
structure MadeL (h h' : Heap) (e C d : Addr) (f : Str) (l : Addr) (items : Array Value) (cl : Nat) : Prop where
  made : Made h h' e C d f (.ref l)
  lbig : h.objs.size ≤ l
  lne : l ≠ e
  lnd : l ≠ d
  lobj : h'.get? l = some { cls := .type "list", dict := none, data := .seq items cl, slots := #[] }
section
variable {prog : Program} {w : World} {A : Around} {E : Value → Shared → Prop} {R : Result → Shared → Prop} {s : Shared} {K : Frag} {mg mb : Str → Option Value} {C : Addr} {x f : Str}
end
end ErrX
end PySem
namespace L2
open PySem PySem.Spec PyProof.Rows
section
variable {X : Cx} {C : Addr} {x f nm : Str}
end
end L2
namespace Hd
open PySem PySem.Spec PyProof.Rows L2 He
end Hd
namespace ScI
open PySem PySem.Spec PyProof.Rows L2
section
variable {X : Cx}
end
end ScI
namespace L2
open PySem PySem.Spec PyProof.Rows
end L2
namespace Dl
open PySem PySem.Spec PyProof.Rows L2
section
variable {K : PySem.W.Frag} {W : WS} {ta te : TE} {ma me : ME} {tt : TT} {mt : MT} {g : TG} {mg : MG} {vs : List Nat}
def RelQ (K : PySem.W.Frag) (G : Ent) (H : Hp) (σ : L2.St) (ρ : Env) (τ : L2.St) (δ : List Sl) (q : Addr) : Prop := ∃ F f1 f2, Good G F H (f1 ++ f2) ∧ Slots K F H τ δ f1 ∧ Slots K F H σ ρ f2 ∧ q ∉ f1 ++ f2 ∧ F q = none ∧ G.H q = none
theorem RelQ.start {G : Ent} {H : Hp} {σ τ : L2.St} {ρ : Env} {δ : List Sl} {q : Addr} {o : HO} (h : Rel K G H σ ρ τ δ) (hq : H q = none) : RelQ K G (upd H q o) σ ρ τ δ q := by
  obtain ⟨F, f1, f2, g, a, b⟩ := h
  have hin : ∀ x ∈ f1 ++ f2, H x ≠ none := fun x hx => (List.mem_append.mp hx).elim (a.here x) (b.here x)
  have nq : q ∉ f1 ++ f2 := fun z => hin q z hq
  have ne : ∀ x ∈ f1 ++ f2, upd H q o x = H x := fun x hx => upd_ne fun z => nq (z ▸ hx)
  have Fq : F q = none := by
    cases e : F q with
    | none => rfl
    | some u => have := g.sub q u e; rw [hq] at this; cases this
  have Gq : G.H q = none := by
    cases e : G.H q with
    | none => rfl
    | some u => exact absurd hq (g.all q (by rw [e]; exact fun z => by cases z))
  exact ⟨F, f1, f2, (g.newO hin hq o).less (List.sublist_cons_self _ _), a.mono Le.rfl fun x hx => ne x (List.mem_append_left _ hx), b.mono Le.rfl fun x hx => ne x (List.mem_append_right _ hx), nq, Fq, Gq⟩
theorem RelQ.put {G : Ent} {H : Hp} {σ τ : L2.St} {ρ : Env} {δ : List Sl} {q : Addr} {o : HO} (h : RelQ K G H σ ρ τ δ q) : RelQ K G (upd H q o) σ ρ τ δ q := by
  obtain ⟨F, f1, f2, g, a, b, nq, Fq, Gq⟩ := h
  have ne : ∀ x ∈ f1 ++ f2, upd H q o x = H x := fun x hx => upd_ne fun z => nq (z ▸ hx)
  refine ⟨F, f1, f2, ⟨fun x u e => ?_, g.f0, g.fN, fun x u e hn => ?_, fun x e => ?_, g.own, g.nf, g.nd⟩, a.mono Le.rfl fun x hx => ne x (List.mem_append_left _ hx), b.mono Le.rfl fun x hx => ne x (List.mem_append_right _ hx), nq, Fq, Gq⟩
  · rw [upd_ne fun z => by rw [z, Fq] at e; cases e]
    exact g.sub x u e
  · rw [upd_ne fun z => by rw [z, Gq] at e; cases e]
    exact g.frm x u e hn
  · by_cases z : x = q
    · rw [z, upd_same]; exact fun z => by cases z
    · rw [upd_ne z]; exact g.all x e
theorem RelQ.enter {G : Ent} {H : Hp} {σ τ : L2.St} {ρ : Env} {δ : List Sl} {q : Addr} {o : HO} (h : RelQ K G H σ ρ τ δ q) (hq : H q = some o) : ∃ G1 : Ent, Rel K G1 H σ ρ τ δ ∧ ∀ H' σ' ρ' τ' δ', Rel K G1 H' σ' ρ' τ' δ' → RelQ K G H' σ' ρ' τ' δ' q ∧ H' q = some o := by
  obtain ⟨F, f1, f2, g, a, b, nq, Fq, Gq⟩ := h
  refine ⟨⟨H, F, f1 ++ f2⟩, ⟨F, f1, f2, ⟨g.sub, Le.rfl, fun x e => .inl e, fun x u e _ => e, fun x e => e, fun x hx => .inl hx, g.nf, g.nd⟩, a, b⟩, ?_⟩
  rintro H' σ' ρ' τ' δ' ⟨F', e1, e2, g', a', b'⟩
  have gg := Good.call (fA := f1 ++ f2) (fR := []) (by rw [List.append_nil]; exact g) g' (fun _ z => by cases z)
  rw [List.append_nil] at gg
  refine ⟨⟨F', e1, e2, gg, a', b', fun z => ?_, ?_, Gq⟩, g'.frm q o hq nq⟩
  · rcases g'.own q z with y | y
    · exact nq y
    · have y' : H q = none := y
      rw [hq] at y'
      cases y'
  · cases e : F' q with
    | none => rfl
    | some u =>
      rcases g'.fN q (by rw [e]; exact fun z => by cases z) with y | y | y
      · exact absurd Fq y
      · have y' : H q = none := y
        rw [hq] at y'
        cases y'
      · exact absurd y nq
end
end Dl
namespace Dl
open PySem PySem.Spec PyProof.Rows L2
section
variable {K : PySem.W.Frag} {W : WS} {ta : TE} {ma : ME} {tl : TA} {ml : MB}
end
end Dl
namespace Dl
open PySem PySem.Spec PyProof.Rows L2
section
variable {K : PySem.W.Frag} {W : WS} {te : TE} {me : ME} {tA : TT} {mA : MT}
end
end Dl
namespace OpM
open PySem PySem.Spec PyProof.Rows L2
section
variable {X : Cx} {CX : CXT} {k : Nat} {f C : Addr} {sp : Sp} {E : L2.St → XK} {pos : Pos} {a b : Expr} {ta tb : TE}
def rInO (C : Addr) (sp : Sp) : R2 := fun v x H Q => ∃ p dx fs, x = .ref p ∧ H p = some (.ins C dx fs) ∧ sp [.ref p, v] H (fun r H' => ∃ b, r = .bl b ∧ Q (.bl b) H') (fun _ _ _ => False)
theorem inO (K : PySem.W.Frag) (O : Own K C "__contains__" f) (F : FnR X.prog X.w X.K X.mg X.base CX k f sp) (hr : Room k X.A) (hx : ∀ σ, PassesAt CX X σ (fun _ _ _ => False)) (hK : X.K = K := by rfl) : OpR X (compareOp .In) (rInO C sp) := by
  subst hK
  intro pins s σ H x y u v Q I rx ry h
  obtain ⟨p, dx, fs, rfl, hp, q⟩ := h
  obtain rfl : v = Value.ref p := ry
  obtain ⟨ox, od, J⟩ := inst I hp
  obtain ⟨m, hF⟩ := I.fr
  refine PySem.W.in_K hF I.ok.mod.kin J O.at_ O.fn (wpAny_mono (runB (E := fun _ _ _ _ => False) F hr rfl (hx σ) I (us := [.ref p, u]) (vs := [.ref p, x]) (.cons rfl (.cons rx .nil)) q) (fun w s' z => ?_) fun _ _ z => z)
  obtain ⟨z, H', I', rz, b, rfl, q'⟩ := z
  cases (show w = Value.bool b from rz)
  exact wpAny_truthy_bool ⟨.bl b, H', I', rfl, q'⟩
def rLenO (C : Addr) (sp : Sp) : List V → Hp → VK → Prop := fun xs H Q => ∃ p dx fs, xs = [.ref p] ∧ H p = some (.ins C dx fs) ∧ sp [.ref p] H (fun v H' => ∃ n, v = .int n ∧ 0 ≤ n ∧ n < 2 ^ 63 ∧ Q (.int n) H') (fun _ _ _ => False)
theorem lenO (K : PySem.W.Frag) (O : Own K C "__len__" f) (F : FnR X.prog X.w X.K X.mg X.base CX k f sp) (hr : Room (k + 1) X.A) (hx : ∀ σ, PassesAt CX X σ (fun _ _ _ => False)) (hK : X.K = K := by rfl) : CallR X (.builtin "len") (rLenO C sp) := by
  subst hK
  intro pins s σ H xs us Q I r h
  obtain ⟨p, dx, fs, rfl, hp, q⟩ := h
  obtain ⟨u, rfl, ru⟩ := vals1 r
  obtain rfl : u = Value.ref p := ru
  obtain ⟨ox, od, J⟩ := inst I hp
  obtain ⟨m, hF⟩ := I.fr
  refine PySem.W.len_K hF I.ok.mod.kin J O.at_ O.fn (wpAny_mono (runB (E := fun _ _ _ _ => False) F hr.in1 rfl (hx σ) I (us := [.ref p]) (vs := [.ref p]) (.cons rfl .nil) q) (fun w s' z => ?_) fun _ _ z => z)
  obtain ⟨z, H', I', rz, n, rfl, h0, h1, q'⟩ := z
  obtain ⟨t, rfl⟩ := (show ∃ t, w = Value.int n t from rz)
  exact ⟨⟨h0, h1⟩, .int n, H', I'.tok _, ⟨_, rfl⟩, q'⟩
end
end OpM
namespace Dl
open PySem PySem.Spec PyProof.Rows L2
section
variable {K : PySem.W.Frag} {W : WS} {G : Ent} {H : Hp} {σ τ : L2.St} {ρ δ : List Sl} {ta tb : TE} {ma mb : ME}
def opInO (c : Nat) (ds : M Sl) : Sl → Sl → ME := fun s1 s2 => match s1, s2 with
  | .sh d, .sh (.obj c2 fs) => if c2 = c then (calm (callM ds [] [.s (.sh (.obj c2 fs)), .s (.sh d)])).bind fun r => match r with
    | .sh (.bl b) => M.ret (.sh (.bl b))
    | _ => M.stuck
    else M.stuck
  | _, _ => M.stuck
theorem r_inO {c : Nat} {ds : M Sl} : R2Ok K (OpM.rInO (He.ga K (cn c)) (fun vs H Q E => spOf K ds (vs ++ []) H Q E)) (opInO c ds) := by
  intro G H σ ρ τ δ x y s1 s2 Q E hr w
  unfold opInO at w
  split at w
  · rename_i d c2 fs
    split at w
    · rename_i hc
      subst hc
      obtain ⟨F, r1, r2, z⟩ := hr.top2
      have core := callCore (dvs := []) (dv := []) (X := fun _ _ _ => False) (Q := fun v H' => ∃ b, v = .bl b ∧ Q (.bl b) H') (.s (.s .nil)) hr (fun _ => .nil) (fun _ _ z => z.elim) ((callM ds [] _).mono (fun s ρ' w v H' hq => by
        simp only at w
        split at w
        · rename_i b
          have hv := hq.topv (u := .bl b) rfl
          exact ⟨b, hv, w _ _ (hv ▸ hq)⟩
        · exact w.elim) (fun _ _ z => z) w)
      cases r2 with
      | obj g1 g2 g3 g4 => exact ⟨_, _, _, rfl, z.le _ _ g1, core⟩
    · exact w.elim
  · exact w.elim
def opLenO (c : Nat) (ds : M Sl) : Sl → ME := fun s => (opUn c ds s).bind fun r => match r with
  | .sh (.int n) => ⟨fun ρ Q _ => 0 ≤ n ∧ n < 2 ^ 63 ∧ Q (.sh (.int n)) ρ, fun h _ w => ⟨w.1, w.2.1, h _ _ w.2.2⟩⟩
  | _ => M.stuck
theorem c_lenO {c : Nat} {ds : M Sl} : R1Ok K (fun x H Q => OpM.rLenO (He.ga K (cn c)) (fun vs H Q E => spOf K ds (vs ++ []) H Q E) [x] H Q) (opLenO c ds) := by
  intro G H σ ρ τ δ x s1 Q E hr w
  obtain ⟨fs, rfl, w2⟩ := opUn_go w
  clear w
  obtain ⟨F, r1, z⟩ := hr.top
  have core := callCore (dvs := []) (dv := []) (X := fun _ _ _ => False) (Q := fun v H' => ∃ n, v = .int n ∧ 0 ≤ n ∧ n < 2 ^ 63 ∧ Q (.int n) H') (.s .nil) hr (fun _ => .nil) (fun _ _ z => z.elim) ((callM ds [] _).mono (fun s ρ' w v H' hq => by
    simp only at w
    split at w
    · rename_i n
      have hv := hq.topv (u := .int n) rfl
      exact ⟨n, hv, w.1, w.2.1, w.2.2 _ _ (hv ▸ hq)⟩
    · exact w.elim) (fun _ _ z => z) w2)
  cases r1 with
  | obj g1 g2 g3 g4 => exact ⟨_, _, _, rfl, z.le _ _ g1, core⟩
end
end Dl
namespace Dl
open PySem PySem.Spec PyProof.Rows L2
section
variable {K : PySem.W.Frag} {W : WS} {G : Ent} {H : Hp} {σ τ : L2.St} {ρ δ : List Sl}
end
end Dl
namespace OpM
open PySem PySem.Spec PyProof.Rows L2
variable {X : Cx} {o e : Expr} {es : List Expr} {to : TE} {t : TA} {name : Str} {apos cpos : Pos} {TT id : String} {r : V → List V → Hp → VK → Prop}
end OpM
namespace Dl
open PySem PySem.Spec PyProof.Rows L2
section
variable {K : PySem.W.Frag} {W : WS} {te : TE} {me : ME} {tt tt1 : TT} {mt mt1 : MT}
end
end Dl
namespace Dl
open PySem PySem.Spec PyProof.Rows L2
section
variable {X : Cx} {K : PySem.W.Frag}
end
end Dl
namespace Dl
open PySem PySem.Spec PyProof.Rows L2
mutual
/-- no list within -/
def D.noL : D → Bool
  | .non => true
  | .bl _ => true
  | .int _ => true
  | .str _ => true
  | .lst _ => false
  | .tup xs => D.noLs xs
  | .dic es => D.noLk es
  | .dil es => D.noLk es
  | .obj _ fs => D.noLs fs
  | .cls _ => true
  | .scr => false
  | .idn _ _ => false
def D.noLs : List D → Bool
  | [] => true
  | d :: ds => D.noL d && D.noLs ds
def D.noLk : List (Key × D) → Bool
  | [] => true
  | (_, d) :: ds => D.noL d && D.noLk ds
end
section
variable {K : PySem.W.Frag} {G : Ent} {F F3 H H' : Hp} {σ τ : L2.St} {ρ δ : List Sl} {v x : V} {s : Sl} {d : D}
def OffL (F F3 : Hp) : Prop := ∀ a o, F a = some o → F3 a = some o ∨ ∃ xs, o = .lst xs
theorem rd_off (l : OffL F F3) {a : Addr} {u : HO} (hu : ∀ xs, u ≠ .lst xs) (h : Rd F a u) : Rd F3 a u := by
  rcases h with h | ⟨o, h⟩
  · rcases l a _ h with z | ⟨xs, z⟩
    · exact .inl z
    · exact absurd z (hu xs)
  · rcases l a _ h with z | ⟨xs, z⟩
    · exact .inr ⟨o, z⟩
    · cases z
theorem sqt_off (l : OffL F F3) {a : Addr} {vs : List V} (h : SqT K F a vs) : SqT K F3 a vs := by
  rcases h with h | h
  · exact .inl (rd_off l (fun _ z => by cases z) h)
  · exact .inr h
mutual
theorem Rep.off (l : OffL F F3) : ∀ {v : V} {d : D}, Rep K F v d → D.noL d = true → Rep K F3 v d
  | _, _, .non, _ => .non
  | _, _, .bl b, _ => .bl b
  | _, _, .int i, _ => .int i
  | _, _, .str x, _ => .str x
  | _, _, .lst h r, e => by unfold D.noL at e; cases e
  | _, _, .tup h r, e => .tup (sqt_off l h) (RepL.off l r (by unfold D.noL at e; exact e))
  | _, _, .dic h r, e => .dic ((l _ _ h).resolve_right fun ⟨_, z⟩ => by cases z) (RepK.off l r (by unfold D.noL at e; exact e))
  | _, _, .dil h r, e => .dil ((l _ _ h).resolve_right fun ⟨_, z⟩ => by cases z) (RepK.off l r (by unfold D.noL at e; exact e))
  | _, _, .obj h h' n r, e => .obj ((l _ _ h).resolve_right fun ⟨_, z⟩ => by cases z) ((l _ _ h').resolve_right fun ⟨_, z⟩ => by cases z) n (RepL.off l r (by unfold D.noL at e; exact e))
  | _, _, .cls c, _ => .cls c
  | _, _, .scr h, e => by unfold D.noL at e; cases e
theorem RepL.off (l : OffL F F3) : ∀ {v : List V} {d : List D}, RepL K F v d → D.noLs d = true → RepL K F3 v d
  | _, _, .nil, _ => .nil
  | _, _, .cons h r, e => by
    unfold D.noLs at e
    rw [Bool.and_eq_true] at e
    exact .cons (Rep.off l h e.1) (RepL.off l r e.2)
theorem RepK.off (l : OffL F F3) : ∀ {v : List (Key × V)} {d : List (Key × D)}, RepK K F v d → D.noLk d = true → RepK K F3 v d
  | _, _, .nil, _ => .nil
  | _, _, .cons h r, e => by
    unfold D.noLk at e
    rw [Bool.and_eq_true] at e
    exact .cons (Rep.off l h e.1) (RepK.off l r e.2)
end
def Sh.listy : Sh → Bool
  | .fr => true
  | .ol s => Sh.listy s
  | _ => false
def Sl.listy : Sl → Bool
  | .un => true
  | .sh _ => true
  | .ow z _ => z.listy
  | .le _ z _ => z.listy
  | .bx => true
  | .lb _ => true
  | .er .. => false
mutual
theorem Own.listy : ∀ {z : Sh} {v : V} {d : D} {fp : List Addr}, Own K F H z v d fp → z.listy = true → ∀ a ∈ fp, ∃ xs, H a = some (.lst xs)
  | _, _, _, _, .fr r, _, a, ha => by cases ha
  | _, _, _, _, .ol h r, e, a, ha => by
    rcases List.mem_cons.mp ha with rfl | ha
    · exact ⟨_, h⟩
    · exact OwnL.listy r (by unfold Sh.listy at e; exact e) a ha
  | _, _, _, _, .od h r, e, a, ha => by unfold Sh.listy at e; cases e
  | _, _, _, _, .oo h h' n r, e, a, ha => by unfold Sh.listy at e; cases e
  | _, _, _, _, .ot h r, e, a, ha => by unfold Sh.listy at e; cases e
theorem OwnL.listy : ∀ {z : Sh} {v : List V} {d : List D} {fp : List Addr}, OwnL K F H z v d fp → z.listy = true → ∀ a ∈ fp, ∃ xs, H a = some (.lst xs)
  | _, _, _, _, .nil, _, a, ha => by cases ha
  | _, _, _, _, .cons h r, e, a, ha => by
    rcases List.mem_append.mp ha with ha | ha
    · exact Own.listy h e a ha
    · exact OwnL.listy r e a ha
end
theorem SlV.listy {o : Option V} {s : Sl} {fp : List Addr} (h : SlV K F H o s fp) (e : s.listy = true) : ∀ a ∈ fp, ∃ xs, H a = some (.lst xs) := by
  cases h with
  | un => intro a ha; cases ha
  | sh r => intro a ha; cases ha
  | ow r => exact r.listy e
  | le r => exact r.listy e
  | erB q => cases e
  | er q h r => cases e
  | bx r =>
    obtain ⟨cs, i, r, s, h1, h2, h3⟩ := r
    intro a ha
    rcases List.mem_cons.mp ha with rfl | ha
    · exact ⟨_, h1⟩
    · rw [List.mem_singleton.mp ha]; exact ⟨_, h2⟩
  | lb r =>
    obtain ⟨cs, i, r, s, h1, h2, h3⟩ := r
    intro a ha
    rcases List.mem_cons.mp ha with rfl | ha
    · exact ⟨_, h1⟩
    · rw [List.mem_singleton.mp ha]; exact ⟨_, h2⟩
theorem Slots.listy {fp : List Addr} (h : Slots K F H σ ρ fp) : ρ.all Sl.listy = true → ∀ a ∈ fp, ∃ xs, H a = some (.lst xs) := by
  induction h with
  | nil => intro _ a ha; cases ha
  | cons h r ih =>
    intro e a ha
    rw [List.all_cons, Bool.and_eq_true] at e
    rcases List.mem_append.mp ha with ha | ha
    · exact h.listy e.1 a ha
    · exact ih e.2 a ha
def Sl.noL : Sl → Bool
  | .sh d => d.noL
  | .ow (.ol .fr) (.lst ds) => D.noLs ds
  | _ => false
theorem SlV.noL {o : Option V} {s : Sl} {f : List Addr} (l : OffL F F3) (h : SlV K F H o s f) (e : s.noL = true) : SlV K F3 H o s f := by
  cases h with
  | sh r => exact .sh (r.off l e)
  | ow r =>
    unfold Sl.noL at e
    split at e
    · rename_i q
      cases q
    · rename_i q
      cases q
      cases r with
      | ol h r =>
        obtain ⟨r', rfl⟩ := OwnL.rep r
        exact .ow (.ol h (RepL.own (r'.off l e)))
    · cases e
  | _ => cases e
end
section
variable {K : PySem.W.Frag} {W : WS} {ta tb tc : TE} {ma mb mc : ME}
end
end Dl
namespace SupX
open PySem PySem.Spec PyProof.Rows L2 PySem.Calls
structure ScopeS (N P : List Str) (sc : Scope) : Prop where
  kind : sc.kind = .function
  co : sc.isCoroutine = false
  gen : sc.isGenerator = false
  nd : N.Nodup
  pre : N.take P.length = P
  par : ∀ x ∈ P, sc.names.lookup x = some .local
  free : ∀ y ∈ sc.names, (y.2 = .free → y.1 = ("__class__" : Str)) ∧ y.2 ≠ .cell
  cls : sc.names.lookup ("__class__" : Str) = some .free
  sup : sc.names.lookup ("super" : Str) = some .globalImplicit
section
variable {CX : CXT} {P : Program} {w : World} {K : PySem.W.Frag} {mg : Str → Option Value} {base : Heap} {N ps : List Str} {qual : Str} {scope : Scope} {f cda cc : Addr} {A : Around} {outer : List Env} {s : Shared} {H : Hp} {E : XK} {us : List Value} {vs : List V}
end
end SupX
namespace SupX
open PySem PySem.Spec PyProof.Rows L2 PySem.Calls
structure FunS (P : Program) (K : PySem.W.Frag) (x qual : Str) (params : Arguments) (body : List Stmt) (scope : Scope) (C f f2 : Addr) (fd : FuncData) : Prop where
  ex : ∃ (oc : Value) (od : Option Addr) (kV doc pm : Value) (an : Option Addr) (cda : Addr) (ct : Value) (cc : Addr) (osl : Array (Option Value)),
    fd = PySem.W.ksFn x qual params body scope .none kV doc pm an (.ref cda) ct cc ∧ K.lookup f = some ⟨oc, od, .func fd, osl⟩ ∧ PySem.W.codeIn K (.ref cda) qual = true ∧
    (∃ (ccl : Value) (cdd : Option Addr) (cvv : Array Value) (ccs : Array (Option Value)) (file : Str) (tf : Tok), K.lookup cda = some ⟨ccl, cdd, .fields cvv, ccs⟩ ∧ cvv[2]? = some (.str file tf) ∧ ((P.main.file : Str) == file) = true) ∧
    (∃ (cl : Value) (cld : Option Addr) (csl : Array (Option Value)), K.lookup cc = some ⟨cl, cld, .cell (some (.ref C)), csl⟩)
  cls : ∃ cd, PySem.W.clsIn K C = some cd
  self : PySem.W.mroIn K C (.ref C) = some true
  sup : PySem.W.ks_superIn K C C "__init__" = some (some (.ref f2))
  ty : PySem.W.typeIn K (.ref f2) = some (.type "function")
  fn2 : PySem.W.fnIn K f2 = true
  opq : PySem.W.nsIn K cStatics "thirdparty.any" = some none
  top : (P.main.scope.names.lookup ("super" : Str)).isSome = false
section
variable {CX : CXT} {P : Program} {w : World} {K : PySem.W.Frag} {mg : Str → Option Value} {base : Heap} {N ps ps' : List Str} {x qual : Str} {params : Arguments} {scope : Scope} {f f2 C : Addr} {fd : FuncData} {k : Nat} {sp sp2 : Sp} {ar : Arg}
  {pre rest : List Stmt} {e1 : Expr} {es : List Expr} {q1 q2 q3 q5 q6 : Pos}
end
end SupX
namespace SupX
open PySem PySem.Spec PyProof.Rows L2 PySem.Calls
theorem FunS.bindsN {P : Program} {K : PySem.W.Frag} {x qual : Str} {params : Arguments} {body : List Stmt} {scope : Scope} {C f f2 : Addr} {fd : FuncData} {ps : List Str} (T : FunS P K x qual params body scope C f f2 fd)
    (h : ∀ (kV doc pm : Value) (an : Option Addr) (cdv ct : Value) (cc : Addr) (us : List Value), us.length = ps.length → bindArgs (PySem.W.ksFn x qual params body scope .none kV doc pm an cdv ct cc) ⟨us, []⟩ = pure (ps.zip us)) : Binds K fd ps [] := by
  obtain ⟨oc, od, kV, doc, pm, an, cda, ct, cc, osl, rfl, _⟩ := T.ex
  exact .all (h kV doc pm an _ ct cc)
end SupX
namespace Dl
open PySem PySem.Spec PyProof.Rows L2
section
variable {K : PySem.W.Frag} {W : WS} {F H : Hp} {P : Program} {w : World} {mg : Str → Option Value} {base : Heap} {x qual : Str} {params : Arguments} {body : List Stmt} {scope : Scope} {kws : List (Str × V)} {f : Addr} {fd : FuncData}
theorem slots_sh : ∀ {vs : List V} {ds : List D}, RepL K F vs ds → Slots K F H (vs.map some) (ds.map Sl.sh) []
  | _, _, .nil => .nil
  | _, _, .cons r t => .cons (f := []) (.sh r) (slots_sh t)
theorem rel_star {p : Addr} {o : HO} {ws rest : List V} {rd : List D} {as as' δ : List Sl} {τ : L2.St} {f1 fp : List Addr} {H' : Hp} {n : Nat} (hF : F p = none) (hp : H p = none) (sub : ∀ a ∈ f1, a ∈ fp) (hw : ws.length = n) (ha : as'.length = n + 1) (rr : RepL K F rest rd) (ed : as.drop n = rd.map Sl.sh)
    (h : Rel K ⟨upd H p o, upd F p o, f1⟩ H' ((ws ++ [V.ref p]).map some) as' τ δ) : Rel K ⟨H, F, fp⟩ H' ((ws ++ rest).map some) (as'.take n ++ as.drop n) τ δ := by
  obtain ⟨F2, g1, g2, gg, ht, hs⟩ := h
  have e1 : as' = as'.take n ++ as'.drop n := (List.take_append_drop n as').symm
  rw [e1, List.map_append] at hs
  obtain ⟨ga, gb, rfl, s1, s2⟩ := Slots.split (by rw [List.length_map, List.length_take, hw]; omega) hs
  have ne : ∀ {a u}, H a = some u → a ≠ p := fun e z => by rw [z, hp] at e; cases e
  have le : Le F (upd F p o) := le_new hF
  have l2 : Le F F2 := le.trans gg.f0
  refine ⟨F2, g1, ga ++ [], ⟨gg.sub, l2, fun a e => ?_, fun a u e hn => ?_, fun a e => ?_, fun a ha => ?_, fun a ha => ?_, ?_⟩, ht, ?_⟩
  · rcases gg.fN a e with z | z | z
    · by_cases q : a = p
      · exact .inr (.inl (by rw [q]; exact hp))
      · refine .inl ?_
        have z' : upd F p o a ≠ none := z
        rwa [upd_ne q] at z'
    · refine .inr (.inl ?_)
      have z' : upd H p o a = none := z
      have q : a ≠ p := fun q => by rw [q, upd_same] at z'; cases z'
      rwa [upd_ne q] at z'
    · exact .inr (.inr (sub a z))
  · exact gg.frm a u (by show upd H p o a = _; rw [upd_ne (ne e)]; exact e) fun z => hn (sub a z)
  · refine gg.all a ?_
    show upd H p o a ≠ none
    cases q : H a with
    | none => exact absurd q e
    | some u => rw [upd_ne (ne q), q]; intro z; cases z
  · rw [List.append_nil] at ha
    rcases gg.own a (by rw [← List.append_assoc]; exact List.mem_append_left _ ha) with z | z
    · exact .inl (sub a z)
    · refine .inr ?_
      have z' : upd H p o a = none := z
      have q : a ≠ p := fun q => by rw [q, upd_same] at z'; cases z'
      rwa [upd_ne q] at z'
  · rw [List.append_nil] at ha
    exact gg.nf a (by rw [← List.append_assoc]; exact List.mem_append_left _ ha)
  · rw [List.append_nil]
    have := gg.nd
    rw [← List.append_assoc] at this
    exact (List.nodup_append.mp this).1
  · rw [List.map_append, ed]
    exact s1.app (slots_sh (rr.mono l2))
theorem keepP_len : ∀ {as : List Sl} {ρ : Env} {k : List Sl → Prop}, keepP as ρ k → keepP as ρ fun l => l.length = as.length ∧ k l
  | [], _, _, w => ⟨rfl, w⟩
  | a :: as, ρ, k, w => by
    unfold keepP at w ⊢
    split at w
    · cases ‹a :: as = []›
    · rename_i d as' s ρ' e
      cases e
      exact keepP_mono (as := as) (fun l z => ⟨by show l.length + 1 = as.length + 1; rw [z.1], z.2⟩) (keepP_len w)
    · rename_i v z d as' v' z' d' ρ' e
      cases e
      exact ⟨w.1, keepP_mono (as := as) (fun l z => ⟨by show l.length + 1 = as.length + 1; rw [z.1], z.2⟩) (keepP_len w.2)⟩
    · rename_i v as' v' ρ' e
      cases e
      exact ⟨w.1, keepP_mono (as := as) (fun l z => ⟨by show l.length + 1 = as.length + 1; rw [z.1], z.2⟩) (keepP_len w.2)⟩
    · exact w.elim
theorem defM_keep {n N : Nat} {m : MS} : ∀ as Q E, (defM n N m).wp as Q E → (defM n N m).wp as (fun r as' => as'.length = as.length ∧ Q r as') (fun er as' => as'.length = as.length ∧ E er as') := fun as Q E w => by
  obtain ⟨hn, w'⟩ := defM_go w
  have e : Nat.beq as.length n = true := by rw [hn]; exact Nat.beq_refl n
  unfold defM
  show (match Nat.beq as.length n with
    | true => m.wp (as ++ List.replicate (N - n) .un) (mends as _ _)
    | false => False)
  rw [e]
  exact m.mono (M := mends as Q E) (M' := mends as (fun r as' => as'.length = as.length ∧ Q r as') (fun er as' => as'.length = as.length ∧ E er as')) ⟨fun r z => keepP_len z, fun s r z => keepP_len z, fun _ z => z, fun _ z => z, fun e r z => keepP_len z⟩ w'
end
end Dl
namespace Hd
open PySem PySem.Spec PyProof.Rows L2
end Hd
namespace AndX
open PySem PySem.Spec PyProof.Rows L2 PySem.Calls
section
variable {α : Type} {prog : Program} {w : World} {A : Around} {E : Value → Shared → Prop} {s : Shared} {K : PySem.W.Frag}
structure Lacks (K : PySem.W.Frag) (D : Addr) (name : Str) : Prop where
  cd : ∃ cd, PySem.W.clsIn K D = some cd ∧ cd.name.cps.foldl (fun k c => k + (Str.utf8Of c).length) 0 ≤ 100 ∧ (missMsg cd.name name).length ≤ sizeLine
  ty : PySem.W.typeIn K (.ref D) = some (.type "type")
  no : PySem.W.findIn K (.ref D) name = some none
  nt : PySem.W.findIn K (.type "type") name = some none
  opq : PySem.W.nsIn K cStatics "thirdparty.any" = some none
structure OpC (K : PySem.W.Frag) (C : Addr) (nm : String) (f : Addr) : Prop where
  at_ : PySem.W.findIn K (.ref C) (dunder nm) = some (some (.ref f))
  fn : PySem.W.isFn K (.ref f) = true
  first : PySem.W.selfFirst K C = true
  lack : Lacks K C (dunderR nm)
end
section
variable {X : Cx} {CX : CXT} {k : Nat} {f : Addr} {sp : Sp} {E : L2.St → XK} {a b : Expr} {ta tb : TE} {pos : Pos} {P : Addr → Prop}
structure Kin (K : PySem.W.Frag) (P : Addr → Prop) (nm : String) (f : Addr) : Prop where
  op : ∀ C, P C → OpC K C nm f
  sub : ∀ C D, P C → P D → ∃ b, PySem.W.mroIn K D (.ref C) = some b
  ga : PySem.W.findIn K (.type "type") "__getattribute__" = some (some (.builtin "type.__getattribute__"))
  tt : PySem.W.subIn K (.type "type") (.type "type") = some true
  sz : (dunderR nm).length ≤ sizeLine
end
end AndX
namespace Dl
open PySem PySem.Spec PyProof.Rows L2
section
variable {K : PySem.W.Frag} {W : WS} {ta tb : TE} {ma mb : ME}
end
end Dl
namespace Cl
open PySem PySem.Spec PyProof.Rows L2 RZ
section
variable {X : Cx} {e : Expr} {pos : Pos}
end
end Cl
namespace Dl
open PySem PySem.Spec PyProof.Rows L2 RZ
section
variable {K : PySem.W.Frag} {W : WS} {G : Ent} {ta tb : TE} {ma mb : ME}
end
end Dl
namespace Dl
open PySem PySem.Spec PyProof.Rows L2
inductive Pt where
  | fld (c j : Nat) | tp (j : Nat) | idx (n : Nat)
def subP : List Pt → Sh → D → Option (Sh × D)
  | [], z, d => some (z, d)
  | .fld c j :: p, .oo ss, .obj c' ds => match Nat.beq c' c, ss[j]?, ds[j]? with
    | true, some z, some d => subP p z d
    | _, _, _ => none
  | .tp j :: p, .ot ss, .tup ds => match ss[j]?, ds[j]? with
    | some z, some d => subP p z d
    | _, _ => none
  | .idx n :: p, .ol s, .lst ds => match ds[n]? with
    | some d => subP p s d
    | none => none
  | _, _, _ => none
def putP : List Pt → D → D → D
  | [], _, x => x
  | .fld _ j :: p, .obj c' ds, x => match ds[j]? with
    | some d => .obj c' (ds.set j (putP p d x))
    | none => .obj c' ds
  | .tp j :: p, .tup ds, x => match ds[j]? with
    | some d => .tup (ds.set j (putP p d x))
    | none => .tup ds
  | .idx n :: p, .lst ds, x => match ds[n]? with
    | some d => .lst (ds.set n (putP p d x))
    | none => .lst ds
  | _, d, _ => d
inductive AtP (K : PySem.W.Frag) (H : Hp) : V → List Pt → V → Prop
  | nil {v : V} : AtP K H v [] v
  | fld {a dx : Addr} {c j k : Nat} {fs : List (Str × V)} {v u : V} {p : List Pt} : H a = some (.ins (He.ga K (cn c)) dx fs) → fs.map (·.1) = (cf c).take k → (fs.map (·.2))[j]? = some v → AtP K H v p u → AtP K H (.ref a) (.fld c j :: p) u
  | tp {a : Addr} {j : Nat} {vs : List V} {v u : V} {p : List Pt} : H a = some (.tup vs) → vs[j]? = some v → AtP K H v p u → AtP K H (.ref a) (.tp j :: p) u
  | idx {a : Addr} {n : Nat} {vs : List V} {v u : V} {p : List Pt} : H a = some (.lst vs) → vs[n]? = some v → AtP K H v p u → AtP K H (.ref a) (.idx n :: p) u
section
variable {K : PySem.W.Frag} {W W' : WS} {ta tb tc te tn tv to : TE} {ma mb mc me mn mv : ME} {t u : TS} {m k : MS} {tA tt : TT} {mA mt : MT} {tl : TA} {ml : MA} {G : Ent} {F H H' : Hp} {σ τ : L2.St} {ρ : Env} {δ : List Sl}
theorem AtP.mono {v u : V} {p : List Pt} (l : Le H H') (h : AtP K H v p u) : AtP K H' v p u := by
  induction h with
  | nil => exact .nil
  | fld h1 h2 h3 _ ih => exact .fld (l _ _ h1) h2 h3 ih
  | tp h1 h3 _ ih => exact .tp (l _ _ h1) h3 ih
  | idx h1 h3 _ ih => exact .idx (l _ _ h1) h3 ih
theorem Own.sub : ∀ {p : List Pt} {z : Sh} {v : V} {d : D} {f : List Addr} {z' : Sh} {d' : D}, Own K F H z v d f → subP p z d = some (z', d') → ∃ u l f' r, AtP K H v p u ∧ f = l ++ (f' ++ r) ∧ Own K F H z' u d' f' ∧
    ∀ F' H' d2 f2, Le F F' → (∀ a ∈ l ++ r, H' a = H a) → Own K F' H' z' u d2 f2 → Own K F' H' z v (putP p d d2) (l ++ (f2 ++ r))
  | [], z, v, d, f, z', d', q, e => by
    cases e
    exact ⟨v, [], f, [], .nil, by simp, q, fun F' H' d2 f2 _ _ q' => by simpa [putP] using q'⟩
  | .fld c j :: p, z, v, d, f, z', d', q, e => by
    cases q with
    | @oo ss a dx c' fs ds fp h1 h2 h3 h4 =>
      unfold subP at e
      split at e
      · rename_i z1 d1 hc hs hd
        obtain rfl := Nat.eq_of_beq_eq_true hc
        obtain ⟨v1, d1', l1, f1, r1, g1, g2, g3, g4, g5⟩ := h4.get hs
        rw [hd] at g2; cases g2
        obtain ⟨u, l', f', r', a1, a2, a3, a4⟩ := Own.sub (p := p) g4 e
        subst g3
        subst a2
        refine ⟨u, a :: dx :: (l1 ++ l'), f', r' ++ r1, .fld h1 h3 g1 a1, by simp [List.append_assoc], a3, fun F' H' d2 f2 hl hh q' => ?_⟩
        have b := g5 F' H' z1 v1 _ _ hl (fun b hb => hh b (by
          rcases List.mem_append.mp hb with z | z
          · simp [z]
          · simp [z])) (a4 F' H' d2 f2 hl (fun b hb => hh b (by
          rcases List.mem_append.mp hb with z | z
          · simp [z]
          · simp [z])) q')
        rw [set_same hs, set_same g1] at b
        have e2 : putP (.fld c' j :: p) (.obj c' ds) d2 = .obj c' (ds.set j (putP p d1 d2)) := by
          show (match ds[j]? with | some d => D.obj c' (ds.set j (putP p d d2)) | none => .obj c' ds) = _
          rw [hd]
        rw [e2]
        have := Own.oo (K := K) (F := F') (H := H') (fs := fs) (by rw [hh a (by simp)]; exact h1) (by rw [hh dx (by simp)]; exact h2) (by rw [List.length_set]; exact h3) b
        simpa [List.append_assoc] using this
      · cases e
    | _ => cases e
  | .tp j :: p, z, v, d, f, z', d', q, e => by
    cases q with
    | @ot ss a vs ds fp h1 h4 =>
      unfold subP at e
      split at e
      · rename_i z1 d1 hs hd
        obtain ⟨v1, d1', l1, f1, r1, g1, g2, g3, g4, g5⟩ := h4.get hs
        rw [hd] at g2; cases g2
        obtain ⟨u, l', f', r', a1, a2, a3, a4⟩ := Own.sub (p := p) g4 e
        subst g3
        subst a2
        refine ⟨u, a :: (l1 ++ l'), f', r' ++ r1, .tp h1 g1 a1, by simp [List.append_assoc], a3, fun F' H' d2 f2 hl hh q' => ?_⟩
        have b := g5 F' H' z1 v1 _ _ hl (fun b hb => hh b (by
          rcases List.mem_append.mp hb with z | z
          · simp [z]
          · simp [z])) (a4 F' H' d2 f2 hl (fun b hb => hh b (by
          rcases List.mem_append.mp hb with z | z
          · simp [z]
          · simp [z])) q')
        rw [set_same hs, set_same g1] at b
        have e2 : putP (.tp j :: p) (.tup ds) d2 = .tup (ds.set j (putP p d1 d2)) := by
          show (match ds[j]? with | some d => D.tup (ds.set j (putP p d d2)) | none => .tup ds) = _
          rw [hd]
        rw [e2]
        have := Own.ot (K := K) (F := F') (H := H') (by rw [hh a (by simp)]; exact h1) b
        simpa [List.append_assoc] using this
      · cases e
    | _ => cases e
  | .idx n :: p, z, v, d, f, z', d', q, e => by
    cases q with
    | @ol s a vs ds fp h1 h4 =>
      unfold subP at e
      split at e
      · rename_i d1 hd
        obtain ⟨v1, l1, f1, r1, g1, g3, g4, g5⟩ := h4.get hd
        obtain ⟨u, l', f', r', a1, a2, a3, a4⟩ := Own.sub (p := p) g4 e
        subst g3
        subst a2
        refine ⟨u, a :: (l1 ++ l'), f', r' ++ r1, .idx h1 g1 a1, by simp [List.append_assoc], a3, fun F' H' d2 f2 hl hh q' => ?_⟩
        have b := g5 F' H' _ _ hl (fun b hb => hh b (by
          rcases List.mem_append.mp hb with z | z
          · simp [z]
          · simp [z])) (a4 F' H' d2 f2 hl (fun b hb => hh b (by
          rcases List.mem_append.mp hb with z | z
          · simp [z]
          · simp [z])) q')
        have e2 : putP (.idx n :: p) (.lst ds) d2 = .lst (ds.set n (putP p d1 d2)) := by
          show (match ds[n]? with | some d => D.lst (ds.set n (putP p d d2)) | none => .lst ds) = _
          rw [hd]
        rw [e2]
        have := Own.ol (K := K) (F := F') (H := H') (by rw [hh a (by simp)]; exact h1) b
        simpa [List.append_assoc] using this
      · cases e
    | _ => cases e
def PlOk (K : PySem.W.Frag) (t : TE) (i : Nat) (p : List Pt) : Prop := ∀ σ H v u Q, σ[i]? = some (some v) → AtP K H v p u → Q u H → t σ H Q
theorem AtP.snoc {H : Hp} : ∀ {p : List Pt} {v u : V} {q : Pt}, AtP K H v (p ++ [q]) u → ∃ x, AtP K H v p x ∧ AtP K H x [q] u
  | [], v, u, q, h => ⟨v, .nil, h⟩
  | _ :: p, v, u, q, h => by
    cases h with
    | fld h1 h2 h3 h4 => obtain ⟨x, a, b⟩ := AtP.snoc h4; exact ⟨x, .fld h1 h2 h3 a, b⟩
    | tp h1 h3 h4 => obtain ⟨x, a, b⟩ := AtP.snoc h4; exact ⟨x, .tp h1 h3 a, b⟩
    | idx h1 h3 h4 => obtain ⟨x, a, b⟩ := AtP.snoc h4; exact ⟨x, .idx h1 h3 a, b⟩
theorem pl_var {i : Nat} : PlOk K (tVar i) i [] := fun σ H v u Q e h q => by cases h; exact ⟨v, e, q⟩
theorem pl_fld {i c j : Nat} {n : Str} {p : List Pt} (cl : Cls K (He.ga K (cn c))) (na : NoAttr K (He.ga K (cn c)) n) (hi : (cf c).findIdx? (· == n) = some j) (h : PlOk K to i p) : PlOk K (tFld K to n) i (p ++ [.fld c j]) := fun σ H v u Q e ha q => by
  obtain ⟨x, a1, a2⟩ := ha.snoc
  refine h σ H v x _ e a1 ?_
  cases a2 with
  | fld g1 g2 g3 g4 => cases g4; exact ⟨_, _, _, _, _, rfl, g1, cl, na, look_take g2 hi g3, q⟩
theorem Rel.ownP {i : Nat} {s sv : Sl} {o0 : Option V} {z z' : Sh} {d d' : D} {p : List Pt} (h : Rel K G H σ ρ (o0 :: τ) (sv :: δ)) (e : ρ[i]? = some s) (eo : s.own = some (z, d)) (ep : subP p z d = some (z', d')) : ∃ F f0 v u f, SlV K F H o0 sv f0 ∧ Le F H ∧ σ[i]? = some (some v) ∧ AtP K H v p u ∧ Own K F H z' u d' f ∧ (∀ a ∈ f, a ∉ f0) ∧ f.Nodup ∧
    (∀ a o d2 f2, a ∈ f → Own K F (upd H a o) z' u d2 f2 → (∀ b, f2.count b ≤ f0.count b + f.count b) → Rel K G (upd H a o) σ (ρ.set i (s.put z (putP p d d2))) τ δ) := by
  obtain ⟨F, f0, v, f, q0, hl, e1, q, hdis, hnd, k⟩ := h.own1 e eo
  obtain ⟨u, l, f', r, a1, a2, a3, a4⟩ := q.sub ep
  subst a2
  have hn2 : f'.Nodup := List.nodup_iff_count.mpr fun b => by
    have c1 := List.nodup_iff_count.mp hnd b
    simp only [List.count_append] at c1
    omega
  refine ⟨F, f0, v, u, f', q0, hl, e1, a1, a3, fun a ha => hdis a (by simp [ha]), hn2, fun a o d2 f2 ha q' hc => ?_⟩
  refine k a o z _ _ (by simp [ha]) (a4 F _ d2 f2 Le.rfl (fun b hb => upd_ne fun z => ?_) q') (fun b => ?_)
  · subst z
    have c1 := List.nodup_iff_count.mp hnd b
    have c2 := List.count_pos_iff.mpr ha
    have c3 := List.count_pos_iff.mpr hb
    simp only [List.count_append] at c1 c3
    omega
  · have := hc b
    simp only [List.count_append] at this ⊢
    omega
end
end Dl
namespace Dl
open PySem PySem.Spec PyProof.Rows L2
end Dl
namespace Ls
open PySem PySem.Spec PyProof.Rows L2
end Ls
namespace Dl
open PySem PySem.Spec PyProof.Rows L2
section
variable {K : PySem.W.Frag}
end
end Dl
namespace Dl
open PySem PySem.Spec PyProof.Rows L2
section
variable {K : PySem.W.Frag} {W W' : WS} {ta tb tc te tn tv to : TE} {ma mb mc me mn mv : ME} {t u : TS} {m k : MS} {tA tt : TT} {mA mt : MT} {tl : TA} {ml : MA} {G : Ent} {F H H' : Hp} {σ τ : L2.St} {ρ : Env} {δ : List Sl}
mutual
def Sh.same : Sh → Sh → Bool
  | .fr, .fr => true
  | .ol a, .ol b => Sh.same a b
  | .od a, .od b => Sh.same a b
  | .oo a, .oo b => Sh.sameL a b
  | .ot a, .ot b => Sh.sameL a b
  | _, _ => false
def Sh.sameL : List Sh → List Sh → Bool
  | [], [] => true
  | a :: as, b :: bs => Sh.same a b && Sh.sameL as bs
  | _, _ => false
end
mutual
theorem Sh.same_eq : ∀ {a b : Sh}, Sh.same a b = true → a = b
  | .fr, .fr, _ => rfl
  | .ol a, .ol b, h => by unfold Sh.same at h; rw [Sh.same_eq h]
  | .od a, .od b, h => by unfold Sh.same at h; rw [Sh.same_eq h]
  | .oo a, .oo b, h => by unfold Sh.same at h; rw [Sh.sameL_eq h]
  | .ot a, .ot b, h => by unfold Sh.same at h; rw [Sh.sameL_eq h]
  | .fr, .ol _, h => by cases h
  | .fr, .od _, h => by cases h
  | .fr, .oo _, h => by cases h
  | .fr, .ot _, h => by cases h
  | .ol _, .fr, h => by cases h
  | .ol _, .od _, h => by cases h
  | .ol _, .oo _, h => by cases h
  | .ol _, .ot _, h => by cases h
  | .od _, .fr, h => by cases h
  | .od _, .ol _, h => by cases h
  | .od _, .oo _, h => by cases h
  | .od _, .ot _, h => by cases h
  | .oo _, .fr, h => by cases h
  | .oo _, .ol _, h => by cases h
  | .oo _, .od _, h => by cases h
  | .oo _, .ot _, h => by cases h
  | .ot _, .fr, h => by cases h
  | .ot _, .ol _, h => by cases h
  | .ot _, .od _, h => by cases h
  | .ot _, .oo _, h => by cases h
theorem Sh.sameL_eq : ∀ {a b : List Sh}, Sh.sameL a b = true → a = b
  | [], [], _ => rfl
  | a :: as, b :: bs, h => by
    unfold Sh.sameL at h
    rw [Bool.and_eq_true] at h
    rw [Sh.same_eq h.1, Sh.sameL_eq h.2]
  | [], _ :: _, h => by cases h
  | _ :: _, [], h => by cases h
end
theorem OwnL.any {z z' : Sh} {vs : List V} {ds : List D} {fp : List Addr} (h : OwnL K F H z' vs ds fp) (e : (Sh.same z' z || ds.isEmpty) = true) : OwnL K F H z vs ds fp := by
  rcases Bool.or_eq_true _ _ ▸ e with e | e
  · rw [Sh.same_eq e] at h
    exact h
  · cases ds with
    | nil => cases h; exact .nil
    | cons _ _ => cases e
theorem Rel.unAt {j : Nat} {s : Sl} {o : Option V} (h : Rel K G H σ ρ τ δ) (e : ρ[j]? = some s) : Rel K G H σ (ρ.set j .un) τ δ := by
  obtain ⟨F, f1, f2, g, ht, hs⟩ := h
  obtain ⟨o, l, f, r, e1, e2, h1, k⟩ := hs.at e
  have h3 := k o .un [] .un
  rw [set_same e2] at h3
  subst e1
  exact ⟨F, f1, _, g.cnt (by intro a; simp only [List.count_append, List.count_nil]; omega), ht, h3⟩
end
end Dl
namespace Dl
open PySem PySem.Spec PyProof.Rows L2
section
variable {K : PySem.W.Frag} {W W' : WS} {G : Ent} {F H H' : Hp} {σ τ : L2.St} {ρ : Env} {δ : List Sl}
def mXIs (a dd : Addr) (c i : Nat) (own : Nat → Option Bool) : ME := ⟨fun ρ Q _ => match ρ[i]?, own c with
  | some (.er a' dd' c' d), some b => a' = a ∧ dd' = dd ∧ c' = c ∧ Q (.sh (.bl b)) ρ
  | _, _ => False, fun {ρ Q Q' E E'} h _ w => by
    revert w
    split
    · exact fun w => ⟨w.1, w.2.1, w.2.2.1, h _ _ w.2.2.2⟩
    · exact id⟩
theorem eXIs {a dd : Addr} {c i : Nat} {own : Nat → Option Bool} {tv : V} {cv : Value} (ho : ∀ c b, own c = some b → ExcC K (He.ga K (en c)) ∧ PySem.W.kitOne K (.ref (He.ga K (en c))) cv = some b) (hcv : ∀ u, RelV tv u → u = cv) :
    EOk K W (tCB (rIsErr K a (.ref (He.ga K (en c))) (dOf c dd)) (tCons (tVar i) (tCons (tC tv) tNil))) (mXIs a dd c i own) := fun G H σ ρ τ δ Q h w => by
  unfold mXIs at w
  simp only at w
  split at w
  · rename_i a' dd' c' d b e eb
    obtain ⟨rfl, rfl, rfl, q⟩ := w
    obtain ⟨F, f1, f2, g, ht, hs⟩ := h
    obtain ⟨o, l, f, r, e1, e2, h1, _⟩ := hs.at e
    cases h1 with
    | erB hq =>
      obtain ⟨x1, x2⟩ := ho _ _ eb
      exact ⟨_, e2, ⟨_, _, _, _, rfl, rfl, x1, .inl (dOf_b hq), hcv, x2, q _ _ ⟨F, _, f2, g, .cons (f := []) (.sh (.bl b)) ht, hs⟩⟩⟩
    | er hq hx r =>
      obtain ⟨x1, x2⟩ := ho _ _ eb
      exact ⟨_, e2, ⟨_, _, _, _, rfl, rfl, x1, .inr ⟨_, _, dOf_f hq, hx⟩, hcv, x2, q _ _ ⟨F, _, f2, g, .cons (f := []) (.sh (.bl b)) ht, hs⟩⟩⟩
  · exact w.elim
end
end Dl
namespace Dl
open PySem PySem.Spec PyProof.Rows L2
end Dl
namespace Dl
open PySem PySem.Spec PyProof.Rows L2
section
variable {K : PySem.W.Frag} {G : Ent} {F F3 H H' : Hp} {σ τ : L2.St} {ρ δ : List Sl} {v x : V} {s : Sl} {d : D}
end
end Dl
namespace Dl
open PySem PySem.Spec PyProof.Rows L2
section
variable {K : PySem.W.Frag} {W : WS} {te tf : TE} {me mf : ME}
end
end Dl
namespace IdC
open PySem PySem.Spec PyProof.Rows L2 OpM
section
variable {M : Model} {prog : Program} {w : World} {A : Around} {E : Value → Shared → Prop} {s : Shared} {K : PySem.W.Frag} {x y C : Addr} {ox oy : Obj} {od od' : Option Obj}
end
structure IdK (K : PySem.W.Frag) (C : Addr) : Prop where
  m : PySem.W.mroIn K C (.type "object") = some true
  e : PySem.W.findIn K (.ref C) "__eq__" = some (some (.builtin "object.__eq__"))
  n : PySem.W.findIn K (.ref C) "__ne__" = some (some (.builtin "object.__ne__"))
section
variable {X : Cx} {C : Addr}
end
end IdC
namespace Dl
open PySem PySem.Spec PyProof.Rows L2
section
variable {K : PySem.W.Frag} {W : WS} {t : TE} {ma : ME} {G : Ent} {F F3 H H' : Hp} {σ τ : L2.St} {ρ δ : List Sl} {v x : V} {o : Option V} {s : Sl} {d : D}
end
end Dl
namespace IdC
open PySem PySem.Spec PyProof.Rows L2 OpM
section
variable {X : Cx} {C : Addr}
end
end IdC
namespace Dl
open PySem PySem.Spec PyProof.Rows L2
section
variable {K : PySem.W.Frag} {W : WS} {ta te : TE} {ma me : ME} {G : Ent} {F H H' : Hp} {σ τ : L2.St} {ρ δ : List Sl} {v u : V} {s : Sl} {ds : List D}
end
end Dl
namespace TxB
open PySem PySem.Spec PyProof.Rows L2 RZ
section
variable {X : Cx}
end
abbrev rJoin (K : PySem.W.Frag) : V → List V → Hp → VK → Prop := fun x xs H Q => ∃ a p, ∃ ys : List Str, x = .str a ∧ xs = [.ref p] ∧ (SqL K H p (ys.map V.str) ∨ SqT K H p (ys.map V.str)) ∧ (ys.map (·.length)).sum + ys.length * a.length ≤ 16777216 ∧ Q (.str (Txt.join a ys)) H
theorem peJoin (K : PySem.W.Frag) {X : Cx} {o e : Expr} {to te : TE} {apos pos : Pos} (ho : PE X o to) (he : PE X e te) (hs : starEach [e] X.env = [(false, eval e X.env)] := by rfl) (hbase : attributeBase o "join" X.env (eval o X.env) = eval o X.env := by rfl) (hline : (apos.endLine == pos.line) = true := by rfl) (hK : X.K = K := by rfl) :
    PE X (.Call (.Attribute o "join" apos) [e] [] pos) (tM1 (rJoin K) to te) := hK ▸ pe_join ho he hs hbase hline
end TxB
namespace Dl
open PySem PySem.Spec PyProof.Rows L2
section
variable {K : PySem.W.Frag} {W : WS} {G : Ent} {ta tb : TE} {ma mb : ME}
def strsD : List D → Option (List Str)
  | [] => some []
  | .str x :: ds => (strsD ds).map (x :: ·)
  | _ :: _ => none
theorem strsD_go : ∀ {ds : List D} {ys : List Str}, strsD ds = some ys → ds = ys.map D.str
  | [], ys, h => by cases h; rfl
  | .str x :: ds, ys, h => by
    unfold strsD at h
    cases e : strsD ds with
    | none => rw [e] at h; cases h
    | some zs => rw [e] at h; cases h; rw [strsD_go e]; rfl
  | .non :: _, _, h => by cases h
  | .bl _ :: _, _, h => by cases h
  | .int _ :: _, _, h => by cases h
  | .lst _ :: _, _, h => by cases h
  | .tup _ :: _, _, h => by cases h
  | .dic _ :: _, _, h => by cases h
  | .dil _ :: _, _, h => by cases h
  | .obj _ _ :: _, _, h => by cases h
  | .cls _ :: _, _, h => by cases h
  | .scr :: _, _, h => by cases h
  | .idn _ _ :: _, _, h => by cases h
theorem strsD_map : ∀ {ys : List Str}, strsD (ys.map D.str) = some ys
  | [] => rfl
  | y :: ys => by
    show (strsD (ys.map D.str)).map (y :: ·) = _
    rw [strsD_map]
    rfl
theorem RepL.strs {F : Hp} : ∀ {vs : List V} {ys : List Str}, RepL K F vs (ys.map D.str) → vs = ys.map V.str
  | _, [], .nil => rfl
  | _, _ :: _, .cons r t => by
    cases r
    rw [RepL.strs t]
    rfl
def pJoin : D → D → Option (Prop × Sl)
  | .str a, .lst ds => match strsD ds with
    | some ys => some ((ys.map (·.length)).sum + ys.length * a.length ≤ 16777216, .sh (.str (Txt.join a ys)))
    | none => none
  | _, _ => none
def mJoin (a b : ME) : ME := a.bind fun s => match s with
  | .sh (.str x) => b.bind fun s2 => op2P pJoin (.sh (.str x)) s2
  | _ => M.stuck
theorem eJoin (ha : EOk K W ta ma) (hb : EOk K W tb mb) : EOk K W (tM1 (TxB.rJoin K) ta tb) (mJoin ma mb) := fun G H σ ρ τ δ Q h w =>
  ha G H σ ρ τ δ _ h (ma.mono (fun s ρ1 w1 v H1 h1 => by
    simp only at w1
    split at w1
    · rename_i x
      obtain rfl := h1.topv (u := .str x) rfl
      refine ⟨⟨x, rfl⟩, hb G H1 σ ρ1 _ _ _ h1 (mb.mono (fun s2 ρ2 w2 v2 H2 h2 => ?_) (fun e ρ' z v H' q => z v H' q.drop2) w1)⟩
      obtain ⟨a, b, p, s, e1, rfl, e, hp, q⟩ := op2P_go w2
      cases e1
      unfold pJoin at e
      split at e
      · rename_i a0 ds e0
        cases e0
        split at e
        · rename_i ys hy
          cases e
          obtain rfl := strsD_go hy
          obtain ⟨F, r1, r2, z⟩ := h2.top2
          cases r2 with
          | lst k2 r2 =>
            obtain rfl := r2.strs
            exact ⟨_, _, _, rfl, rfl, .inl (SqL.of (z.le _ _ k2)), hp, q _ _ (h2.pop.pop.push rfl)⟩
        · cases e
      · cases e
    · exact w1.elim) (fun _ _ z => z) w)
end
end Dl
namespace Cl
open PySem PySem.Spec PyProof.Rows L2
section
variable {X : Cx} {CX : CXT} {k n : Nat} {f C : Addr} {fd : FuncData} {ps ks : List Str} {sp : Sp} {E : L2.St → XK} {x : Str} {p pos : Pos} {e : Expr} {es : List Expr} {kws : List Keyword} {t tk : TA} {g : List Value → List Value → List Value} {gV : List V → List V → List V}
end
end Cl
namespace Dl
open PySem PySem.Spec PyProof.Rows L2
section
variable {K : PySem.W.Frag} {W W' : WS} {to tv : TE} {mv : ME} {G : Ent} {F H H' : Hp} {σ τ : L2.St} {ρ : Env} {δ : List Sl}
def putPM (i : Nat) (p : List Pt) (x : D) (key : Key) : M Unit := atOwn i fun s z d => ⟨fun ρ Q _ => match subP p z d with
  | some (.od .fr, .dic es) => es.length < sizeLine ∧ Q () (ρ.set i (s.put z (putP p d (.dic (putE es key x)))))
  | _ => False, fun {ρ Q Q' E E'} h _ w => by
    revert w
    split
    · exact fun w => ⟨w.1, h _ _ w.2⟩
    · exact id⟩
def sDPutP (i : Nat) (p : List Pt) (j : Nat) (mv : ME) : MS := ⟨fun ρ Me => mv.wp ρ (fun v r => match v, r[j]? with
    | .sh x, some (.sh kd) => match kd.key with
      | some key => (putPM i p x key).wp r (fun _ r => Me.nx r) (fun _ _ => False)
      | none => False
    | _, _ => False) Me.ex,
  fun {ρ Me Me'} h w => mv.mono (fun v r z => by
    revert z
    split
    · split
      · exact fun z => (putPM i p _ _).mono (fun _ r z => h.nx r z) (fun _ _ z => z) z
      · exact id
    · exact id) h.ex w⟩
theorem zDPutP {i j : Nat} {p : List Pt} (hp : PlOk K to i p) (hv : EOk K W tv mv) : SOk K W (sDPut to (tVar j) tv) (sDPutP i p j mv) := fun G H σ ρ τ δ D M h hi w => by
  refine hv G H σ ρ τ δ _ h (mv.mono (fun s ρ1 w1 v H1 h1 => ?_) (fun e ρ' z => hi.ex σ e ρ' z) w)
  split at w1
  · rename_i x kd ej
    split at w1
    · rename_i key ek
      obtain ⟨kv, ejv, h2⟩ := h1.get ej
      obtain ⟨F2, rk2, _⟩ := h2.top
      obtain rfl := rk2.key ek
      unfold putPM at w1
      obtain ⟨s1, z, d, e, eo, w2⟩ := atOwn_go w1
      simp only at w2
      split at w2
      · rename_i es ep
        obtain ⟨F, f0, v0, u, f, q0, hl, e1, a1, q, hdis, hnd, k⟩ := h1.ownP e eo ep
        cases q0 with
        | sh rx =>
          cases q with
          | @od _ l kvs _ fp hh rl =>
            obtain ⟨rl', rfl⟩ := rl.rep
            exact hp σ H1 v0 (.ref l) _ e1 a1 ⟨_, ejv, ⟨l, _, rfl, DPut.k hh (by rw [rl'.len]; exact w2.1), hi.nx _ _ _ (k l _ _ [l] (by simp) (.od upd_same (rl'.put rx).own) (fun b => by omega)) w2.2⟩⟩
      · exact w2.elim
    · exact w1.elim
  · exact w1.elim
end
end Dl
namespace BareX
open PySem PySem.Spec PyProof.Rows L2
structure OwnE (K : PySem.W.Frag) (C : Addr) : Prop where
  q : PySem.W.excIn K C [.type "ValueError", .type "Exception", .type "BaseException", .type "object"] "ValueError.__new__" = true
  keep : PySem.W.keepIn K (.ref C) = true
  exC : PySem.W.subIn K (.ref C) (.type "BaseException") = some true
  tyC : PySem.W.typeIn K (.ref C) = some (.type "type")
end BareX
namespace OpM
open PySem PySem.Spec PyProof.Rows L2
section
variable {X : Cx} {CX : CXT} {k : Nat} {f C : Addr} {sp : Sp} {E : L2.St → XK} {pos : Pos} {a b : Expr} {ta tb : TE}
end
end OpM
namespace Dl
open PySem PySem.Spec PyProof.Rows L2
section
variable {K : PySem.W.Frag} {W : WS} {ta tb : TE} {ma mb : ME}
end
end Dl
namespace M3
open PySem PySem.Spec PyProof.Rows L2
section
variable {X : Cx}
end
end M3
namespace Dl
open PySem PySem.Spec PyProof.Rows L2
section
variable {K : PySem.W.Frag} {W : WS} {ta tb tc : TE} {ma mb mc : ME}
end
end Dl
namespace Dl
open PySem PySem.Spec PyProof.Rows L2
section
variable {K : PySem.W.Frag} {G : Ent} {F H : Hp} {σ τ : L2.St} {ρ : Env} {δ : List Sl}
def partS : Sh → D → Sl
  | .fr, d => .sh d
  | s, d => .ow s d
theorem Own.slot {s : Sh} {v : V} {d : D} {fp : List Addr} (h : Own K F H s v d fp) : SlV K F H (some v) (partS s d) fp := by
  cases h with
  | fr r => exact .sh r
  | ol h1 h2 => exact .ow (.ol h1 h2)
  | od h1 h2 => exact .ow (.od h1 h2)
  | oo h1 h2 h3 h4 => exact .ow (.oo h1 h2 h3 h4)
  | ot h1 h2 => exact .ow (.ot h1 h2)
def partsS : List Sh → List D → List Sl
  | s :: ss, d :: ds => partS s d :: partsS ss ds
  | _, _ => []
theorem OwnF.slots {f : List Addr} (h : Slots K F H τ δ f) : ∀ {ss : List Sh} {vs : List V} {ds : List D} {fp : List Addr}, OwnF K F H ss vs ds fp → Slots K F H (vs.map some ++ τ) (partsS ss ds ++ δ) (fp ++ f)
  | _, _, _, _, .nil => h
  | _, _, _, _, .cons (f := f1) (fp := f2) r t => by
    have := Slots.cons r.slot (OwnF.slots h t)
    rw [← List.append_assoc] at this
    exact this
end
end Dl
namespace Dl
open PySem PySem.Spec PyProof.Rows L2
section
variable {K : PySem.W.Frag} {W : WS} {ta tb tc t : TE} {ma mb mc : ME} {G : Ent} {F H : Hp} {σ τ : L2.St} {ρ : Env} {δ : List Sl}
end
end Dl
namespace SzB
open PySem PySem.Spec PyProof.Rows L2 RZ
end SzB
namespace Dl
open PySem PySem.Spec PyProof.Rows L2 RZ
section
variable {K : PySem.W.Frag} {W : WS} {G : Ent} {ta tb : TE} {ma mb : ME}
end
end Dl
namespace Dl
open PySem PySem.Spec PyProof.Rows L2
def dropE (es : List (Key × D)) (k : Key) : List (Key × D) := es.filter fun p => decide (p.1 ≠ k)
theorem RepK.drop {K : PySem.W.Frag} {F : Hp} : ∀ {kvs : List (Key × V)} {es : List (Key × D)}, RepK K F kvs es → ∀ k, RepK K F (dropK kvs k) (dropE es k)
  | _, _, .nil, k => .nil
  | _, _, .cons (k := k0) r q, k => by
    have ih := RepK.drop q k
    unfold dropK dropE at ih ⊢
    by_cases e : k0 = k
    · rw [List.filter_cons_of_neg (by simp [e]), List.filter_cons_of_neg (by simp [e])]
      exact ih
    · rw [List.filter_cons_of_pos (by simp [e]), List.filter_cons_of_pos (by simp [e])]
      exact .cons r ih
section
variable {K : PySem.W.Frag} {W : WS} {G : Ent} {te tk tv : TE} {me mk mv : ME} {H : Hp} {σ τ : L2.St} {ρ δ : List Sl}
end
end Dl
namespace Dl
open PySem PySem.Spec PyProof.Rows L2
section
variable {K : PySem.W.Frag} {W : WS} {G : Ent} {F F' H H' : Hp} {σ τ : L2.St} {ρ : Env} {δ : List Sl} {ta : TE} {ma : ME} {tl : TA} {ml : MB}
end
section
variable {K : PySem.W.Frag} {F H1 : Hp} {G : Ent} {σ τs τ : L2.St} {ρ1 : Env} {δs δ : List Sl} {fT fR kp : List Addr}
end
section
variable {K : PySem.W.Frag} {W : WS} {tl : TA} {ml : MB} {G : Ent} {F' H' : Hp} {σ τ : L2.St} {δ : List Sl} {ρ' : Env}
end
end Dl
namespace Dl
open PySem PySem.Spec PyProof.Rows L2
section
variable {K : PySem.W.Frag} {W : WS} {ta tb : TE} {ma mb : ME}
end
end Dl
namespace Dl
open PySem PySem.Spec PyProof.Rows L2
end Dl
namespace StX
open PySem PySem.Spec PyProof.Rows L2
section
variable {CX : CXT} {P : Program} {w : World} {K : PySem.W.Frag} {mg : Str → Option Value} {base : Heap} {k : Nat} {f : Addr} {name qual : Str} {params : Arguments} {body : List Stmt} {scope : Scope} {dV kV doc pm cdv ct oc : Value} {an od : Option Addr}
  {osl : Array (Option Value)} {N ps : List Str} {sp : Sp}
theorem fn_kw0 {pd : Str} (lk : K.lookup f = some ⟨oc, od, .func (PySem.W.fnOf name qual params body scope dV kV doc pm an cdv ct), osl⟩) (hcd : PySem.W.codeIn K cdv qual = true) (S : FnScope N (ps ++ [pd]) scope) (hCX : CXUp CX)
    (hb : ∀ us : List Value, us.length = ps.length → bindArgs (PySem.W.fnOf name qual params body scope dV kV doc pm an cdv ct) ⟨us, []⟩ = ((alloc ({ cls := .type "dict", data := .dict #[] } : Obj) : Sem Addr) >>= fun d => pure (ps.zip us ++ [(pd, Value.ref d)])))
    (hbody : ∀ (A : Around) (outer : List Env) (s : Shared) (H : Hp) (vs : List V) (Q : VK) (E : XK), Room k (A.deeper (envOfC qual scope s.heap.objs.size f cdv)) → sp vs H Q E →
      ∃ t, PSs (cxOf CX P w K mg base N qual scope f cdv A outer s H E) body t ∧ t { nx := fun _ H' => Q .non H', rt := Q } (start N vs) H) :
    FnR P w K mg base CX (k + 1) f (fun vs H Q E => vs.length = ps.length ∧ ∀ p o, H p = Option.none → sp (vs ++ [V.ref p]) (upd H p (.frz o (.dK []))) Q E) := by
  intro A outer s H us vs Q E hr e0 r hsp
  obtain ⟨hl, hq⟩ := hsp
  have hn : H s.heap.objs.size = Option.none := e0.hok.fresh (Nat.le_refl _)
  have hl1 : us.length = ps.length := by rw [← r.length]; exact hl
  refine run_bnd lk hcd S hr e0 (G := fun xs H2 => ∃ p o, H p = Option.none ∧ xs = vs ++ [V.ref p] ∧ H2 = upd H p (.frz o (.dK []))) (fun A' Ex Q' h => ?_) fun s2 H2 xs ⟨p, o, hp, ex, eH⟩ hr' => ?_
  · rw [hb us hl1]
    refine wpAny_bind (wpAny_alloc (wpAny_pure ?_))
    have new : ObjOk P w (upd H s.heap.objs.size (.frz ({ cls := .type "dict", data := .dict #[] } : Obj) (.dK []))) (s.heap.push ({ cls := .type "dict", data := .dict #[] } : Obj)) s.heap.objs.size (.frz ({ cls := .type "dict", data := .dict #[] } : Obj) (.dK [])) := ⟨Heap.get?_push_size _ rfl, dk_empty _ (env0_big e0)⟩
    have un := un_laid (fs := frs outer) (s := s) (o := ({ cls := .type "dict", data := .dict #[] } : Obj)) (u := .frz ({ cls := .type "dict", data := .dict #[] } : Obj) (.dK [])) hn
    have z := h _ _ (vs ++ [V.ref s.heap.objs.size]) (us ++ [Value.ref s.heap.objs.size]) (env0_laid e0 new) un rfl (fun e s' => hCX outer s H _ _ E e s' un (fun b o q => Heap.get?_push_of_some _ q) rfl) (r.append (.cons rfl .nil))
      (by rw [List.length_append, List.length_append, hl] <;> rfl) ⟨_, _, hn, rfl, rfl⟩
    rw [List.zip_append hl1.symm] at z
    exact z
  · subst ex eH
    exact hbody A outer s2 _ _ Q E hr' (hq p o hp)
end
end StX
namespace Cl
open PySem PySem.Spec PyProof.Rows L2
section
variable {P : Program} {w : World} {K : PySem.W.Frag} {mg : Str → Option Value} {base : Heap} {x qual : Str} {params : Arguments} {body : List Stmt} {scope : Scope} {dvs : List V} {kws : List (Str × V)} {f : Addr} {fd : FuncData}
theorem okKw0 {CX : CXT} {N ps : List Str} {pd : Str} {k : Nat} {sp : Sp} (F : FunD K x qual params body scope [] kws f fd) (S : FnScope N (ps ++ [pd]) scope) (hCX : StX.CXUp CX)
    (hb : ∀ (kV doc pm : Value) (an : Option Addr) (cdv ct : Value) (us : List Value), us.length = ps.length → bindArgs (PySem.W.fnOf x qual params body scope .none kV doc pm an cdv ct) ⟨us, []⟩ = ((alloc ({ cls := .type "dict", data := .dict #[] } : Obj) : Sem Addr) >>= fun d => pure (ps.zip us ++ [(pd, Value.ref d)])))
    (hbody : ∀ (cdv : Value) (A : Around) (outer : List Env) (s : Shared) (H : Hp) (vs : List V) (Q : VK) (E : XK), Room k (A.deeper (envOfC qual scope s.heap.objs.size f cdv)) → sp vs H Q E →
      ∃ t, PSs (cxOf CX P w K mg base N qual scope f cdv A outer s H E) body t ∧ t { nx := fun _ H' => Q .non H', rt := Q } (start N vs) H) :
    FnR P w K mg base CX (k + 1) f (fun vs H Q E => vs.length = ps.length ∧ ∀ p o, H p = Option.none → sp (vs ++ [V.ref p]) (upd H p (.frz o (.dK []))) Q E) := by
  obtain ⟨oc, od, dV, kV, doc, pm, an, cdv, ct, osl, rfl, lk, hcd, hD, _⟩ := F.ex
  obtain rfl : dV = .none := by
    rcases hD with ⟨_, e⟩ | ⟨e, _⟩
    · exact e
    · exact absurd rfl e
  exact StX.fn_kw0 lk hcd S hCX (hb kV doc pm an cdv ct) fun A outer s H vs Q E hr hsp => hbody cdv A outer s H vs Q E hr hsp
end
end Cl
namespace Dl
open PySem PySem.Spec PyProof.Rows L2
section
variable {K : PySem.W.Frag} {W : WS} {F H : Hp} {P : Program} {w : World} {mg : Str → Option Value} {base : Heap} {x qual : Str} {params : Arguments} {body : List Stmt} {scope : Scope} {kws : List (Str × V)} {f : Addr} {fd : FuncData}
def packK (n : Nat) (ds : M Sl) : M Sl := ⟨fun as Q E => as.length = n ∧ ds.wp (as ++ [.sh (.dil [])]) (fun r as' => Q r (as'.take n)) (fun er as' => E er (as'.take n)), fun h h' w => ⟨w.1, ds.mono (fun _ _ z => h _ _ z) (fun _ _ z => h' _ _ z) w.2⟩⟩
theorem kw_sp {ds : M Sl} {n : Nat} {vs : List V} {Q : VK} {E : XK} (hk : ∀ as Q E, ds.wp as Q E → ds.wp as (fun r as' => as'.length = as.length ∧ Q r as') (fun er as' => as'.length = as.length ∧ E er as')) (h : spOf K (packK n ds) vs H Q E) :
    vs.length = n ∧ ∀ p o, H p = none → spOf K ds (vs ++ [V.ref p]) (upd H p (.frz o (.dK []))) Q E := by
  obtain ⟨F, as, fp, h1, h2, h3, h4, hn, w⟩ := h
  have la : vs.length = as.length := by have := h2.len; rwa [List.length_map] at this
  refine ⟨by omega, fun p o hp => ?_⟩
  have hF : F p = none := by
    cases q : F p with
    | none => rfl
    | some u => have := h1 p u q; rw [hp] at this; cases this
  have hne : ∀ a ∈ fp, a ≠ p := fun a ha z => h2.here a ha (by rw [z]; exact hp)
  have le : Le F (upd F p (.frz o (.dK []))) := le_new hF
  have ed : as.drop n = ([] : List D).map Sl.sh := by rw [List.drop_of_length_le (by omega)]; rfl
  refine ⟨upd F p (.frz o (.dK [])), as ++ [.sh (.dil [])], fp, fun a u e => ?_, ?_, h3, fun a ha => ?_, ?_⟩
  · by_cases q : a = p
    · subst q; rw [upd_same] at e ⊢; exact e
    · rw [upd_ne q] at e ⊢; exact h1 a u e
  · rw [List.map_append]
    have s1' := h2.mono (H' := upd H p (.frz o (.dK []))) le fun a ha => upd_ne (hne a ha)
    have one : Slots K (upd F p (.frz o (.dK []))) (upd H p (.frz o (.dK []))) [some (V.ref p)] [.sh (.dil [])] [] := .cons (f := []) (.sh (.dil (o := o) (kvs := []) upd_same .nil)) .nil
    have := s1'.app one
    rwa [List.append_nil] at this
  · rw [upd_ne (hne a ha)]; exact h4 a ha
  · have ln : (as ++ [Sl.sh (.dil [])]).length = n + 1 := by rw [List.length_append]; simp; omega
    refine ds.mono (fun r as' z v H' hr => ?_) (fun er as' z v H' hr => ?_) (hk _ _ _ w)
    · have q := rel_star (as := as) (rest := []) (fp := fp) hF hp (fun a ha => ha) (la.trans hn) (z.1.trans ln) .nil ed hr
      rw [List.append_nil, ed, List.map_nil, List.append_nil] at q
      exact z.2 v H' q
    · have q := rel_star (as := as) (rest := []) (fp := fp) hF hp (fun a ha => ha) (la.trans hn) (z.1.trans ln) .nil ed hr
      rw [List.append_nil, ed, List.map_nil, List.append_nil] at q
      exact z.2 v H' q
theorem okKwD {ds : M Sl} {N ps : List Str} {pd : Str} {k : Nat} {m : MS} (T : FunD K x qual params body scope [] kws f fd) (S : FnScope N (ps ++ [pd]) scope) (hm : ∀ as Q E, ds.wp as Q E → (defM (ps.length + 1) N.length m).wp as Q E) (hk : ∀ as Q E, ds.wp as Q E → ds.wp as (fun r as' => as'.length = as.length ∧ Q r as') (fun er as' => as'.length = as.length ∧ E er as'))
    (hb : ∀ (kV doc pm : Value) (an : Option Addr) (cdv ct : Value) (us : List Value), us.length = ps.length → bindArgs (PySem.W.fnOf x qual params body scope .none kV doc pm an cdv ct) ⟨us, []⟩ = ((alloc ({ cls := .type "dict", data := .dict #[] } : Obj) : Sem Addr) >>= fun d => pure (ps.zip us ++ [(pd, Value.ref d)])))
    (hbody : ∀ (cdv : Value) (A : Around) (outer : List PySem.Env) (s : Shared) (H : Hp) (E : XK), Room k (A.deeper (envOfC qual scope s.heap.objs.size f cdv)) → ∃ t, PSs (cxOf (L2.CX P w) P w K mg base N qual scope f cdv A outer s H E) body t ∧ SOk K (fun _ => E) t m) :
    FnR P w K mg base (L2.CX P w) (k + 1) f (spOf K (packK ps.length ds)) :=
  (Cl.okKw0 T S StX.cxUp hb fun cdv A outer s H vs Q E hr h => by
    obtain ⟨t, h1, h2⟩ := hbody cdv A outer s H E hr
    exact ⟨t, h1, body_ok (ps := ps ++ [pd]) (by rw [List.length_append]; exact hm) h h2⟩).imp fun vs H Q E h => kw_sp hk h
end
section
variable {K : PySem.W.Frag} {W : WS} {ta : TE} {ma : ME} {t : TS} {m : MS} {F : Hp}
theorem repK_at : ∀ {kvs : List (Key × V)} {es : List (Key × D)} {i : Nat} {k : Key} {v : V}, RepK K F kvs es → kvs[i]? = some (k, v) → ∃ d, es[i]? = some (k, d) ∧ Rep K F v d
  | _, _, i, _, _, .nil, e => by simp at e
  | _, _, 0, _, _, .cons r t, e => by
    cases e
    exact ⟨_, rfl, r⟩
  | _ :: _, _ :: _, i + 1, _, _, .cons r t, e => repK_at (i := i) t (by rw [List.getElem?_cons_succ] at e; exact e)
def itemD (p : Key × D) : D := .tup [keyD p.1, p.2]
def sForI (i : ME) (g : MG) (b : MS) : MS := ⟨fun ρ M => i.wp ρ (fun s r => match s with
  | .sh (.dil es) => forM g b (es.map itemD) r M
  | _ => False) M.ex, fun {ρ M M'} h w => i.mono (fun s r z => by
    revert z
    split
    · exact fun z => forM_mono h z
    · exact id) h.ex w⟩
theorem walks_items {d : Addr} {o : Obj} {kvs : List (Key × V)} {es : List (Key × D)} {H0 : Hp} {fp : List Addr} (hd : F d = some (.frz o (.dK kvs))) (rk : RepK K F kvs es) : Walks K ⟨H0, F, fp⟩ (Iti d o kvs) (es.map itemD) [some (.ref d)] [.sh (.dil es)] where
  go := fun H σ ρ τ δ i h hi => by
    obtain ⟨F2, g1, g2, g, ht, hs⟩ := h
    refine ⟨g.sub _ _ (g.f0 _ _ hd), ?_⟩
    rw [List.length_map] at hi
    rw [rk.len]
    exact hi
  stop := fun H σ ρ τ δ h => by
    obtain ⟨F2, g1, g2, g, ht, hs⟩ := h
    refine ⟨g.sub _ _ (g.f0 _ _ hd), ?_⟩
    rw [List.length_map, rk.len]
    exact Nat.le_refl _
  yld := fun H σ ρ τ δ i x H' d' h hi y => by
    obtain ⟨T, k, v, e1, rfl, hn, rfl⟩ := y
    obtain ⟨dv, e2, r⟩ := repK_at rk e1
    rw [List.getElem?_map, e2] at hi
    cases hi
    have h' := h
    obtain ⟨F2, g1, g2, g, ht, hs⟩ := h'
    refine (Rel.fzs g ht hs).nw T _ _ hn fun F' l e => .tup (SqT.of e) (.cons rep_key (.cons (r.mono (g.f0.trans l)) .nil))
theorem zForI {g : TG} {mg : MG} (ha : EOk K W ta ma) (hg : GOk K g mg) (hb : SOk K W t m) : SOk K W (tFor (iItems ta) g t) (sForI ma mg m) := fun G H σ ρ τ δ D M h hi' w => by
  refine ha G H σ ρ τ δ _ h (ma.mono (fun s ρ1 w1 v H1 h1 => ?_) (fun e ρ' z => hi'.ex σ e ρ' z) w)
  split at w1
  · rename_i es
    obtain ⟨F, f1, f2, ht, hl, h2, back⟩ := h1.enter
    cases ht with
    | cons q1 q2 =>
      cases q1 with
      | sh r =>
        cases r with
        | @dil d o kvs _ hd rk =>
          refine ⟨d, o, kvs, rfl, hl _ _ hd, ?_⟩
          exact for_go hg hb (τ' := [some (.ref d)]) (δ' := [.sh (.dil es)]) rfl h2 (walks_items hd rk) ⟨fun σ ρ H q => hi'.nx σ ρ H (back _ _ _ _ _ q), fun s ρ v σ H q => hi'.rt s ρ v σ H (back _ _ _ _ _ q), fun σ ρ H q => hi'.bk σ ρ H (back _ _ _ _ _ q), fun σ ρ H q => hi'.ct σ ρ H (back _ _ _ _ _ q), fun σ er ρ z v H q => hi'.ex σ er ρ z v H (back _ _ _ _ _ q)⟩ w1
  · exact w1.elim
end
end Dl
namespace Cl
open PySem PySem.Spec PyProof.Rows L2
section
variable {X : Cx} {CX : CXT} {k : Nat} {f : Addr} {sp : Sp} {E : L2.St → XK} {x : Str} {p pos sp_ : Pos} {e : Expr} {te : TE}
end
end Cl
namespace Dl
open PySem PySem.Spec PyProof.Rows L2
section
variable {K : PySem.W.Frag} {W : WS} {ta : TE} {ma : ME} {G : Ent} {H : Hp} {σ τ : L2.St} {ρ : Env} {δ : List Sl}
end
end Dl
namespace Dl
open PySem PySem.Spec PyProof.Rows L2
section
variable {K : PySem.W.Frag} {W : WS} {ta : TE} {ma : ME} {t : TS} {m : MS} {G : Ent} {F H H' : Hp} {σ τ : L2.St} {ρ : Env} {δ : List Sl}
def Mv (K : PySem.W.Frag) (G : Ent) (H : Hp) (σ : L2.St) (ρ : Env) (τ : L2.St) (δ : List Sl) (a : Addr) (vs : List V) (s : Sh) (ds : List D) (i : Nat) : Prop :=
  ∃ F f1 f2 f3, Good G F H ((f1 ++ f2) ++ (a :: f3)) ∧ Slots K F H τ δ f1 ∧ Slots K F H σ ρ f2 ∧ H a = some (.lst vs) ∧ OwnL K F H s (vs.drop i) (ds.drop i) f3
theorem Mv.start {v : V} {s : Sh} {ds : List D} (h : Rel K G H σ ρ (some v :: τ) (.ow (.ol s) (.lst ds) :: δ)) : ∃ a vs, v = .ref a ∧ Mv K G H σ ρ τ δ a vs s ds 0 := by
  obtain ⟨F, f1, f2, g, ht, hs⟩ := h
  cases ht with
  | cons q1 q2 =>
    cases q1 with
    | ow q =>
      cases q with
      | @ol _ a vs _ fp hh rl =>
        refine ⟨a, vs, rfl, F, _, f2, fp, g.cnt fun b => ?_, q2, hs, hh, rl⟩
        simp only [List.count_append, List.count_cons]
        omega
theorem Mv.step {a : Addr} {vs : List V} {s : Sh} {ds : List D} {i : Nat} {x : V} {d : D} (h : Mv K G H σ ρ τ δ a vs s ds i) (ex : vs[i]? = some x) (ed : ds[i]? = some d) :
    ∃ G2, Rel K G2 H σ ρ (some x :: τ) (.ow s d :: δ) ∧ (∀ H' σ' ρ', Rel K G2 H' σ' ρ' τ δ → Mv K G H' σ' ρ' τ δ a vs s ds (i + 1)) ∧ ∀ H' σ' ρ' τ' δ', Rel K G2 H' σ' ρ' τ' δ' → Rel K G H' σ' ρ' τ' δ' := by
  obtain ⟨F, f1, f2, f3, g, ht, hs, hh, ol⟩ := h
  obtain ⟨hi, e1⟩ := List.getElem?_eq_some_iff.mp ex
  obtain ⟨hj, e2⟩ := List.getElem?_eq_some_iff.mp ed
  rw [List.drop_eq_getElem_cons hi, List.drop_eq_getElem_cons hj, e1, e2] at ol
  cases ol with
  | @cons _ _ _ f fp _ _ o r =>
    have g1 : Good G F H (((f ++ f1) ++ f2) ++ (a :: fp)) := g.cnt fun b => by
      simp only [List.count_append, List.count_cons]
      omega
    have nd := List.nodup_append.mp g1.nd
    have here : ∀ b ∈ a :: fp, H b ≠ none := fun b hb => by
      rcases List.mem_cons.mp hb with rfl | hb
      · rw [hh]; intro z; cases z
      · exact r.here b hb
    have same : ∀ {F' H' gs}, Good ⟨H, F, (f ++ f1) ++ f2⟩ F' H' gs → ∀ b ∈ a :: fp, H' b = H b := fun {F' H' gs} gg b hb => by
      cases q : H b with
      | none => exact absurd q (here b hb)
      | some u => exact gg.frm b u q fun z => nd.2.2 b z b hb rfl
    refine ⟨⟨H, F, (f ++ f1) ++ f2⟩, ⟨F, f ++ f1, f2, ⟨g1.sub, Le.rfl, fun a ha => .inl ha, fun a o e _ => e, fun a ha => ha, fun a ha => .inl ha, fun a ha => g1.nf a (List.mem_append_left _ ha), nd.1⟩, .cons (.ow o) ht, hs⟩, fun H' σ' ρ' hr => ?_, fun H' σ' ρ' τ' δ' hr => ?_⟩
    · obtain ⟨F', g1', g2', gg, ht', hs'⟩ := hr
      have G2 := g1.call gg here
      refine ⟨F', g1', g2', fp, G2, ht', hs', by rw [same gg a List.mem_cons_self]; exact hh, r.mono gg.f0 fun b hb => same gg b (List.mem_cons_of_mem _ hb)⟩
    · obtain ⟨F', g1', g2', gg, ht', hs'⟩ := hr
      have G2 := g1.call gg here
      refine ⟨F', g1', g2', G2.cnt fun b => ?_, ht', hs'⟩
      simp only [List.count_append]
      omega
end
end Dl
namespace L2
open PySem PySem.Spec PyProof.Rows
section
variable {P : Program} {w : World} {A : Around} {E : Value → Shared → Prop} {s : Shared} {a : Addr}
end
end L2
namespace Dl
open PySem PySem.Spec PyProof.Rows L2
section
variable {K : PySem.W.Frag} {W : WS} {ta te : TE} {ma me : ME} {tt : TT} {mt : MT} {g : TG} {mg : MG} {vs : List Nat}
end
end Dl
namespace Cl
open PySem PySem.Spec PyProof.Rows L2
section
variable {X : Cx} {CX : CXT} {k : Nat} {f C : Addr} {fd : FuncData} {ps ks : List Str} {sp : Sp} {E : L2.St → XK} {x m : Str} {p pos apos : Pos} {o : Expr} {kws : List Keyword} {ta : TE} {tk : TA} {g : List Value → List Value → List Value} {gV : List V → List V → List V}
end
end Cl
namespace NtB
open PySem PySem.Spec PyProof.Rows L2
section
variable {X : Cx}
end
end NtB
namespace Dl
open PySem PySem.Spec PyProof.Rows L2
section
variable {K : PySem.W.Frag} {W : WS} {G : Ent} {ta tb : TE} {ma mb : ME}
end
end Dl
namespace MtB
open PySem PySem.Spec PyProof.Rows L2
section
variable {prog : Program} {w : World} {A : Around} {E : Value → Shared → Prop} {s : Shared}
end
section
variable {X : Cx} {pins : List (Addr × Obj)} {s : Shared} {σ : L2.St} {H : Hp}
abbrev TPt := V → Hp → (Option (List V) → Hp → Prop) → Prop
structure PPt (X : Cx) (p : Pattern) (ns : List Str) (t : TPt) : Prop where
  run : ∀ (pins : List (Addr × Obj)) (s : Shared) (σ : L2.St) (H : Hp) (v : V) (u : Value) (Q : Option (List V) → Hp → Prop), Inv X pins σ H s → RelV v u → t v H Q →
    wpAny (model X.prog X.w) X.A (matchPattern p X.env u) (fun r s' => ∃ o H', Inv X pins σ H' s' ∧ (match r, o with
      | none, none => True
      | some bs, some vs => bs.map (·.1) = ns ∧ Vals vs (bs.map (·.2))
      | _, _ => False) ∧ Q o H') X.xe s
structure PBs (X : Cx) (ns : List Str) (t : TGs) : Prop where
  run : ∀ (pins : List (Addr × Obj)) (s : Shared) (σ : L2.St) (H : Hp) (vs : List V) (us : List Value) (Q : L2.St → Hp → Prop), Inv X pins σ H s → Vals vs us → t vs σ H Q →
    wpAny (model X.prog X.w) X.A (assignInOrder (ns.map (bindName X.env)) us) (fun _ s' => ∃ σ' H', Inv X pins σ' H' s' ∧ Q σ' H') X.xe s
structure PCs (X : Cx) (cs : List MatchCase) (t : V → TS) : Prop where
  run : ∀ (pins : List (Addr × Obj)) (s : Shared) (σ : L2.St) (H : Hp) (D : L2.Ends) (v : V) (u : Value) (first : Bool), Inv X pins σ H s → RelV v u → t v D σ H → wpAny (model X.prog X.w) X.A (matchCases cs X.env u first) (SP X pins D) X.xe s
end
end MtB
namespace Dl
open PySem PySem.Spec PyProof.Rows L2
section
variable {K : PySem.W.Frag} {W : WS} {G : Ent} {ta : TE} {ma : ME}
end
end Dl
namespace Dl
open PySem PySem.Spec PyProof.Rows L2
section
variable {K : PySem.W.Frag} {W : WS} {G : Ent} {ta tb : TE} {ma mb : ME}
end
end Dl
namespace StX
open PySem PySem.Spec PyProof.Rows L2
theorem up_last {h : Heap} {o : Obj} {f : Obj → Obj} : (h.push o).update h.objs.size f = h.push (f o) := by
  cases h with
  | mk objs l =>
    show (⟨(objs.push o).modify objs.size f, l⟩ : Heap) = ⟨objs.push (f o), l⟩
    congr 1
    apply Array.ext
    · simp
    · intro i h1 h2
      have h3 := h2
      rw [Array.size_push] at h3
      simp only [Array.getElem_modify, Array.getElem_push]
      split <;> split <;> first | rfl | omega
section
variable {P : Program} {w : World} {A : Around} {E : Value → Shared → Prop}
theorem nsSetD {s : Shared} {h0 : Heap} {es : List DictEntry} {n : Nat} {k : Str} {v : Value} {Q : Unit → Shared → Prop} (hh : s.heap = h0.push (PySem.W.dictOf es n)) (hs : ∀ e ∈ es, e.key.isStr k = false) (hr : ∀ e ∈ es, e.refKey = false)
    (h : Q () { s with heap := h0.push (PySem.W.dictOf (es ++ [⟨PyData.keyHash w.params k, .str k s.toks, v⟩]) (n + 1)), toks := s.toks + 1 }) : wpAny (model P w) A (nsSet h0.objs.size k v) Q E s := by
  have e1 : es.any (·.key.isStr k) = false := by
    cases q : es.any (·.key.isStr k) with
    | false => rfl
    | true => obtain ⟨e, he, z⟩ := List.any_eq_true.mp q; rw [hs e he] at z; cases z
  have e2 : es.any (·.refKey) = false := by
    cases q : es.any (·.refKey) with
    | false => rfl
    | true => obtain ⟨e, he, z⟩ := List.any_eq_true.mp q; rw [hr e he] at z; cases z
  have e : Obj.putName k (PyData.keyHash w.params k) (.str k s.toks) v (PySem.W.dictOf es n) = PySem.W.dictOf (es ++ [⟨PyData.keyHash w.params k, .str k s.toks, v⟩]) (n + 1) := by
    rw [PySem.W.putName_dict, PySem.W.putL_new hs]
    show PySem.W.dictOf _ (if es.any (·.key.isStr k) then n else n + 1) = _
    rw [e1, if_neg Bool.false_ne_true]
  have D : s.heap.get? h0.objs.size = some (PySem.W.dictOf es n) := by rw [hh]; exact Heap.get?_push_size _ rfl
  have c : aRefKeyMayBeTheName k es.toArray = false := by
    rw [aRefKeyMayBeTheName_at, ← Array.any_toList, ← Array.any_toList]
    show (!es.any (·.key.isStr k) && es.any (·.refKey)) = false
    rw [e2, Bool.and_false]
  unfold nsSet
  refine wpAny_bind (wpAny_bind (wpAny_askSetting (wpAny_pure (wpAny_bind (wpAny_mkText (wpAny_bind (wpAny_loadPart D ?_)))))))
  dsimp only
  rw [c]
  refine wpAny_updatePart D ?_
  show Q () { s with heap := s.heap.update h0.objs.size (Obj.putName k (PyData.keyHash w.params k) (.str k s.toks) v), toks := s.toks + 1 }
  rw [hh, up_last, e]
  exact h
theorem fillD {Q : PUnit → Shared → Prop} {h0 : Heap} : ∀ (ex : List (Str × Value)) (s : Shared) (es : List DictEntry) (n : Nat), s.heap = h0.push (PySem.W.dictOf es n) → (∀ e ∈ es, ∀ x ∈ ex, e.key.isStr x.1 = false) → (∀ e ∈ es, e.refKey = false) → (ex.map (·.1)).Nodup →
    Q ⟨⟩ { s with heap := h0.push (PySem.W.dictOf (es ++ PySem.W.kwEs w.params s.toks ex) (n + ex.length)), toks := s.toks + ex.length } →
    wpAny (model P w) A (forIn ex PUnit.unit fun x _ => (nsSet h0.objs.size x.1 x.2 >>= fun _ => pure (ForInStep.yield PUnit.unit))) Q E s
  | [], s, es, n, hh, _, _, _, h => by
    rw [List.forIn_nil]
    refine wpAny_pure ?_
    have e : (s : Shared) = { s with heap := h0.push (PySem.W.dictOf (es ++ PySem.W.kwEs w.params s.toks []) (n + ([] : List (Str × Value)).length)), toks := s.toks + ([] : List (Str × Value)).length } := by
      show s = { s with heap := h0.push (PySem.W.dictOf (es ++ []) n), toks := s.toks }
      rw [List.append_nil, ← hh]
    rw [e]
    exact h
  | x :: r, s, es, n, hh, hs, hr, hn, h => by
    obtain ⟨hn1, hn2⟩ := List.nodup_cons.mp (show (x.1 :: r.map (·.1)).Nodup from hn)
    rw [List.forIn_cons]
    refine wpAny_bind (wpAny_bind (nsSetD hh (fun e he => hs e he x (.head _)) hr (wpAny_pure ?_)))
    show wpAny (model P w) A (forIn r PUnit.unit fun x _ => (nsSet h0.objs.size x.1 x.2 >>= fun _ => pure (ForInStep.yield PUnit.unit))) Q E { s with heap := h0.push (PySem.W.dictOf (es ++ [⟨PyData.keyHash w.params x.1, .str x.1 s.toks, x.2⟩]) (n + 1)), toks := s.toks + 1 }
    refine fillD r { s with heap := h0.push (PySem.W.dictOf (es ++ [⟨PyData.keyHash w.params x.1, .str x.1 s.toks, x.2⟩]) (n + 1)), toks := s.toks + 1 } _ _ rfl (fun e he y hy => ?_) (fun e he => ?_) hn2 ?_
    · rcases List.mem_append.mp he with he | he
      · exact hs e he y (.tail _ hy)
      · obtain rfl := List.mem_singleton.mp he
        show (x.1 == y.1) = false
        exact beq_eq_false_iff_ne.mpr fun q => hn1 (by rw [q]; exact List.mem_map_of_mem hy)
    · rcases List.mem_append.mp he with he | he
      · exact hr e he
      · obtain rfl := List.mem_singleton.mp he
        rfl
    · have t1 : s.toks + 1 + r.length = s.toks + (r.length + 1) := by omega
      have t2 : n + 1 + r.length = n + (r.length + 1) := by omega
      show Q ⟨⟩ { s with heap := h0.push (PySem.W.dictOf ((es ++ [⟨PyData.keyHash w.params x.1, .str x.1 s.toks, x.2⟩]) ++ PySem.W.kwEs w.params (s.toks + 1) r) (n + 1 + r.length)), toks := s.toks + 1 + r.length }
      rw [t1, t2, List.append_assoc]
      exact h
end
theorem kwEs_mix {P : Program} {w : World} : ∀ (ex : List (Str × Value)) (t : Tok), Pairs (mixKind P w) (PySem.W.kwEs w.params t ex) (ex.map fun x => ((.inr x.1 : Key), x.2))
  | [], _ => Pairs.nil
  | x :: r, t => Pairs.cons (kV_is (k := .inr x.1) (u := .str x.1 t) ⟨t, rfl⟩) rfl (kwEs_mix r (t + 1))
theorem inr_nodup {l : List Str} (h : l.Nodup) : (l.map (Sum.inr : Str → Key)).Nodup := by
  induction l with
  | nil => exact List.nodup_nil
  | cons a l ih =>
    obtain ⟨h1, h2⟩ := List.nodup_cons.mp h
    refine List.nodup_cons.mpr ⟨fun m => ?_, ih h2⟩
    obtain ⟨b, hb, e⟩ := List.mem_map.mp m
    cases e
    exact h1 hb
theorem dict_of {P : Program} {w : World} (h : Heap) (ex : List (Str × Value)) (t : Tok) (n : Nat) (hn : (ex.map (·.1)).Nodup) : (h.push (PySem.W.dictOf (PySem.W.kwEs w.params t ex) n)).DictOf (mixKind P w) h.objs.size (ex.map fun x => ((.inr x.1 : Key), x.2)) :=
  ⟨_, (PySem.W.kwEs w.params t ex).toArray, n, Heap.get?_push_size _ rfl, ⟨rfl, rfl, rfl⟩, rfl, fun e he => by
    obtain ⟨k, u, hk, hh⟩ := PySem.W.kwEs_key ex t e (List.mem_toArray.mp he)
    exact ⟨.inr k, by rw [hk]; exact kV_is (k := .inr k) (u := .str k u) ⟨u, rfl⟩, hh.trans rfl⟩, kwEs_mix ex t, by
    have e : (ex.map fun x => ((.inr x.1 : Key), x.2)).map (·.1) = (ex.map (·.1)).map (Sum.inr : Str → Key) := by
      rw [List.map_map, List.map_map]
      rfl
    rw [e]
    exact inr_nodup hn⟩
theorem kv_zip : ∀ {ks : List Str} {zs : List V} {ws : List Value}, Vals zs ws → KV ((ks.map (Sum.inr : Str → Key)).zip zs) ((ks.zip ws).map fun x => ((.inr x.1 : Key), x.2))
  | [], _, _, _ => .nil
  | k :: ks, _, _, .nil => .nil
  | k :: ks, _, _, .cons r t => .cons ⟨rfl, r⟩ (kv_zip t)
end StX
namespace StX
open PySem PySem.Spec PyProof.Rows L2
def FnE (P : Program) (w : World) (K : PySem.W.Frag) (mg : Str → Option Value) (base : Heap) (CX : CXT) (k : Nat) (f : Addr) (ks : List Str) (n : Nat) (sp : Sp) : Prop :=
  ∀ (A : Around) (outer : List Env) (s : Shared) (H : Hp) (us ws : List Value) (vs zs : List V) (Q : VK) (E : XK), Room k A → Env0 P w K mg base A outer s H → Vals vs us → Vals zs ws → vs.length = n → zs.length = ks.length → sp (vs ++ zs) H Q E →
    codeAny (model P w) A (.call (.ref f) ⟨us, ks.zip ws⟩) (CR CX outer P w H s Q E) s
theorem FnE.mono {P : Program} {w : World} {K : PySem.W.Frag} {mg : Str → Option Value} {base : Heap} {CX : CXT} {j k : Nat} {f : Addr} {ks : List Str} {n : Nat} {sp : Sp} (F : FnE P w K mg base CX j f ks n sp) (h : j ≤ k) : FnE P w K mg base CX k f ks n sp :=
  fun A outer s H us ws vs zs Q E hr => F A outer s H us ws vs zs Q E (hr.mono h)
theorem FnE.imp {P : Program} {w : World} {K : PySem.W.Frag} {mg : Str → Option Value} {base : Heap} {CX : CXT} {k : Nat} {f : Addr} {ks : List Str} {n : Nat} {sp sp' : Sp} (F : FnE P w K mg base CX k f ks n sp) (h : ∀ vs H Q E, sp' vs H Q E → sp vs H Q E) : FnE P w K mg base CX k f ks n sp' :=
  fun A outer s H us ws vs zs Q E hr e r rz l1 l2 q => F A outer s H us ws vs zs Q E hr e r rz l1 l2 (h _ _ _ _ q)
section
variable {CX : CXT} {P : Program} {w : World} {K : PySem.W.Frag} {mg : Str → Option Value} {base : Heap} {k : Nat} {f : Addr} {name qual : Str} {params : Arguments} {body : List Stmt} {scope : Scope} {dV kV doc pm cdv ct oc : Value} {an od : Option Addr}
  {osl : Array (Option Value)} {N ps : List Str} {sp : Sp}
theorem env0_toks {A : Around} {outer : List Env} {s : Shared} {H : Hp} {t : Tok} (e : Env0 P w K mg base A outer s H) : Env0 P w K mg base A outer { s with toks := t } H := ⟨e.frames, e.mod, e.bs, e.bsz, e.funs, e.frf, e.hok, e.bare⟩
def BindE (fd : FuncData) (ps : List Str) (pd : Str) (ks : List Str) : Prop := ∀ us ws : List Value, us.length = ps.length → ws.length = ks.length → bindArgs fd ⟨us, ks.zip ws⟩ =
  ((alloc ({ cls := .type "dict", data := .dict #[] } : Obj) : Sem Addr) >>= fun d => (forIn (ks.zip ws) PUnit.unit (fun x _ => (nsSet d x.1 x.2 >>= fun _ => pure (ForInStep.yield PUnit.unit))) >>= fun _ => pure (ps.zip us ++ [(pd, Value.ref d)])))
theorem fn_kwE {pd : Str} {ks : List Str} (lk : K.lookup f = some ⟨oc, od, .func (PySem.W.fnOf name qual params body scope dV kV doc pm an cdv ct), osl⟩) (hcd : PySem.W.codeIn K cdv qual = true) (S : FnScope N (ps ++ [pd]) scope) (hCX : CXUp CX) (hnd : ks.Nodup) (hsz : ks.length ≤ sizeLine)
    (hb : BindE (PySem.W.fnOf name qual params body scope dV kV doc pm an cdv ct) ps pd ks)
    (hbody : ∀ (A : Around) (outer : List Env) (s : Shared) (H : Hp) (vs : List V) (Q : VK) (E : XK), Room k (A.deeper (envOfC qual scope s.heap.objs.size f cdv)) → sp vs H Q E →
      ∃ t, PSs (cxOf CX P w K mg base N qual scope f cdv A outer s H E) body t ∧ t { nx := fun _ H' => Q .non H', rt := Q } (start N vs) H) :
    FnE P w K mg base CX (k + 1) f ks ps.length (fun vs H Q E => ∃ v1 zs, vs = v1 ++ zs ∧ v1.length = ps.length ∧ ∀ p o, H p = Option.none → sp (v1 ++ [V.ref p]) (upd H p (.frz o (.dK ((ks.map (Sum.inr : Str → Key)).zip zs)))) Q E) := by
  intro A outer s H us ws vs zs Q E hr e0 r rz l1 l2 hsp
  obtain ⟨v1, z1, ev, hl, hq⟩ := hsp
  obtain ⟨rfl, rfl⟩ := List.append_inj ev (l1.trans hl.symm)
  have hn : H s.heap.objs.size = Option.none := e0.hok.fresh (Nat.le_refl _)
  have hl1 : us.length = ps.length := by rw [← r.length]; exact hl
  have hl2 : ws.length = ks.length := by rw [← rz.length]; exact l2
  refine run_bnd lk hcd S hr e0 (G := fun xs H2 => ∃ p o, H p = Option.none ∧ xs = vs ++ [V.ref p] ∧ H2 = upd H p (.frz o (.dK ((ks.map (Sum.inr : Str → Key)).zip zs)))) (fun A' Ex Q' h => ?_) fun s2 H2 xs ⟨p, o, hp, ex, eH⟩ hr' => ?_
  · rw [hb us ws hl1 hl2]
    have hnd2 : ((ks.zip ws).map (·.1)).Nodup := by
      rw [List.map_fst_zip (Nat.le_of_eq hl2.symm)]
      exact hnd
    refine wpAny_bind (wpAny_alloc (wpAny_bind (fillD (h0 := s.heap) (ks.zip ws) { s with heap := s.heap.push ({ cls := .type "dict", data := .dict #[] } : Obj) } [] 0 rfl (fun _ he => nomatch he) (fun _ he => nomatch he) hnd2 (wpAny_pure ?_))))
    have hz : (((ks.map (Sum.inr : Str → Key)).zip zs)).length ≤ sizeLine := by
      rw [List.length_zip, List.length_map]
      omega
    have new : ObjOk P w (upd H s.heap.objs.size (.frz (PySem.W.dictOf (PySem.W.kwEs w.params s.toks (ks.zip ws)) (0 + (ks.zip ws).length)) (.dK ((ks.map (Sum.inr : Str → Key)).zip zs)))) (s.heap.push (PySem.W.dictOf (PySem.W.kwEs w.params s.toks (ks.zip ws)) (0 + (ks.zip ws).length))) s.heap.objs.size (.frz (PySem.W.dictOf (PySem.W.kwEs w.params s.toks (ks.zip ws)) (0 + (ks.zip ws).length)) (.dK ((ks.map (Sum.inr : Str → Key)).zip zs))) :=
      ⟨Heap.get?_push_size _ rfl, hz, beq_eq_false_iff_ne.mpr (Ne.symm (Nat.ne_of_lt (env0_big e0))), _, kv_zip rz, dict_of _ _ _ _ hnd2⟩
    have un := un_laid (fs := frs outer) (s := s) (o := PySem.W.dictOf (PySem.W.kwEs w.params s.toks (ks.zip ws)) (0 + (ks.zip ws).length)) (u := .frz (PySem.W.dictOf (PySem.W.kwEs w.params s.toks (ks.zip ws)) (0 + (ks.zip ws).length)) (.dK ((ks.map (Sum.inr : Str → Key)).zip zs))) hn
    have z := h _ _ (vs ++ [V.ref s.heap.objs.size]) (us ++ [Value.ref s.heap.objs.size]) (env0_toks (t := s.toks + (ks.zip ws).length) (env0_laid e0 new)) un rfl (fun e s' => hCX outer s H _ _ E e s' un (fun b o q => Heap.get?_push_of_some _ q) rfl) (r.append (.cons rfl .nil))
      (by rw [List.length_append, List.length_append, hl] <;> rfl) ⟨_, _, hn, rfl, rfl⟩
    rw [List.zip_append hl1.symm] at z
    exact z
  · subst ex eH
    exact hbody A outer s2 _ _ Q E hr' (hq p o hp)
end
end StX
namespace Cl
open PySem PySem.Spec PyProof.Rows L2
section
variable {P : Program} {w : World} {K : PySem.W.Frag} {mg : Str → Option Value} {base : Heap} {x qual : Str} {params : Arguments} {body : List Stmt} {scope : Scope} {dvs : List V} {kws : List (Str × V)} {f : Addr} {fd : FuncData}
theorem okKwE {CX : CXT} {N ps : List Str} {pd : Str} {ks : List Str} {k : Nat} {sp : Sp} (F : FunD K x qual params body scope [] kws f fd) (S : FnScope N (ps ++ [pd]) scope) (hCX : StX.CXUp CX) (hnd : ks.Nodup) (hsz : ks.length ≤ sizeLine)
    (hb : ∀ (kV doc pm : Value) (an : Option Addr) (cdv ct : Value), StX.BindE (PySem.W.fnOf x qual params body scope .none kV doc pm an cdv ct) ps pd ks)
    (hbody : ∀ (cdv : Value) (A : Around) (outer : List Env) (s : Shared) (H : Hp) (vs : List V) (Q : VK) (E : XK), Room k (A.deeper (envOfC qual scope s.heap.objs.size f cdv)) → sp vs H Q E →
      ∃ t, PSs (cxOf CX P w K mg base N qual scope f cdv A outer s H E) body t ∧ t { nx := fun _ H' => Q .non H', rt := Q } (start N vs) H) :
    StX.FnE P w K mg base CX (k + 1) f ks ps.length (fun vs H Q E => ∃ v1 zs, vs = v1 ++ zs ∧ v1.length = ps.length ∧ ∀ p o, H p = Option.none → sp (v1 ++ [V.ref p]) (upd H p (.frz o (.dK ((ks.map (Sum.inr : Str → Key)).zip zs)))) Q E) := by
  obtain ⟨oc, od, dV, kV, doc, pm, an, cdv, ct, osl, rfl, lk, hcd, hD, _⟩ := F.ex
  obtain rfl : dV = .none := by
    rcases hD with ⟨_, e⟩ | ⟨e, _⟩
    · exact e
    · exact absurd rfl e
  exact StX.fn_kwE lk hcd S hCX hnd hsz (hb kV doc pm an cdv ct) fun A outer s H vs Q E hr hsp => hbody cdv A outer s H vs Q E hr hsp
end
section
variable {X : Cx} {CX : CXT} {k : Nat} {f C : Addr} {ks : List Str} {sp : Sp} {E : L2.St → XK} {x : Str} {p pos : Pos} {kws : List Keyword} {tk : TA}
theorem runMkE {pins : List (Addr × Obj)} {σ : L2.St} {H : Hp} {s : Shared} {Q : VK} {ws : List Value} {zs : List V} (M : Mk X.K C f) (F : StX.FnE X.prog X.w X.K X.mg X.base CX k f ks 1 sp) (hlen : ∀ vs H Q E, sp vs H Q E → vs.length = 1 + ks.length) (hr : Room (k + 1) X.A)
    (hx : PassesAt CX X σ (E σ)) (I : Inv X pins σ H s) (rz : Vals zs ws)
    (h : ∀ x dx, H x = none → H dx = none → dx ≠ x → sp (.ref x :: zs) (upd (upd H dx (.own x)) x (.ins C dx [])) (fun v H2 => v = .non ∧ Q (.ref x) H2) (E σ)) :
    wpAny (model X.prog X.w) X.A (call (.ref C) [] (ks.zip ws)) (EP X pins σ Q) X.xe s := by
  have hq := h (s.heap.objs.size + 1) s.heap.objs.size (I.hok.fresh (Nat.le_succ _)) (I.hok.fresh (Nat.le_refl _)) (Nat.ne_of_lt (Nat.lt_succ_self _))
  have hl := hlen _ _ _ _ hq
  have I2 := Inv.made (C := C) I
  have l2 : zs.length = ks.length := by rw [List.length_cons] at hl; omega
  refine wpAny_call (make_map (f := f) I.kIn M.makes M.init (beq_iff_eq.mp M.fn) (codeAny_mono (F _ X.stack _ _ [Value.ref (s.heap.objs.size + 1)] ws [V.ref (s.heap.objs.size + 1)] zs _ (E σ) (hr.make C [] (ks.zip ws)) (I2.env0.make C [] (ks.zip ws)) (.cons rfl .nil) rz rfl l2 hq) fun r s' hq' => ?_))
  cases r with
  | error er => exact hx pins _ _ er s' I2 hq'
  | ok fl =>
    cases fl with
    | ret u =>
      obtain ⟨v, H', I3, rv, ev, q3⟩ := I2.after hq'
      subst ev
      exact ⟨rv, ⟨V.ref (s.heap.objs.size + 1), H', I3, rfl, q3⟩⟩
    | next => exact False.elim hq'
    | brk => exact False.elim hq'
    | cont => exact False.elim hq'
theorem pe_mkE (M : Mk X.K C f) (F : StX.FnE X.prog X.w X.K X.mg X.base CX k f ks 1 sp) (hlen : ∀ vs H Q E, sp vs H Q E → vs.length = 1 + ks.length) (hr : Room (k + 1) X.A) (hg : Gl X x) (hm : X.mg x = some (.ref C)) (hx : ∀ σ, PassesAt CX X σ (E σ))
    (hkw : PK X kws tk) (hall : (backToKw pos (keywordEach kws X.env)).all (·.1.isSome) = true := by rfl) (hks : (backToKw pos (keywordEach kws X.env)).filterMap (·.1) = ks := by rfl)
    (hdb : (x == ("__debug__" : Str)) = false := by decide)
    (hpl : ((backTo pos (starEach [] X.env)).any (·.1) || (backToKw pos (keywordEach kws X.env)).any (·.1.isNone)) = false := by rfl) :
    PE X (.Call (.Name x p) [] kws pos) (tMk C sp E tk) := by
  refine ⟨fun pins s σ H Q I h => ?_⟩
  refine wpAny_Call_Name_kw (ld_glob I hg hm ?_ hdb)
  refine PySem.W.callWith_KW0 (h₀ := X.base) I.ok.mod.kin M.kp hall ?_ hpl
  refine thn (hkw.run pos pins s σ H _ I h) fun ws s2 ⟨zs, H2, I2, rz, q2⟩ => ⟨I2.kIn, ?_⟩
  rw [hks]
  exact runMkE M F hlen hr (hx σ) I2 rz q2
end
end Cl
namespace Dl
open PySem PySem.Spec PyProof.Rows L2
section
variable {K : PySem.W.Frag} {W : WS} {F H : Hp} {P : Program} {w : World} {mg : Str → Option Value} {base : Heap} {x qual : Str} {params : Arguments} {body : List Stmt} {scope : Scope} {kws : List (Str × V)} {f : Addr} {fd : FuncData}
def kwD (ks : List Str) (ds : List D) : List (Key × D) := (ks.map (Sum.inr : Str → Key)).zip ds
def packE (n : Nat) (ks : List Str) (ds : M Sl) : M Sl := ⟨fun as Q E => match allSh (as.drop n) with
  | some rest => as.length = n + ks.length ∧ ds.wp (as.take n ++ [.sh (.dil (kwD ks rest))]) (fun r as' => Q r (as'.take n ++ as.drop n)) (fun er as' => E er (as'.take n ++ as.drop n))
  | none => False, fun {ρ Q Q' E E'} h h' w => by
    revert w
    split
    · exact fun w => ⟨w.1, ds.mono (fun _ _ z => h _ _ z) (fun _ _ z => h' _ _ z) w.2⟩
    · exact id⟩
theorem packE_len {n : Nat} {ks : List Str} {ds : M Sl} {as : List Sl} {Q : Sl → List Sl → Prop} {E : Er → List Sl → Prop} (h : (packE n ks ds).wp as Q E) : as.length = n + ks.length := by
  unfold packE at h
  simp only at h
  split at h
  · exact h.1
  · exact h.elim
theorem repK_zip : ∀ {ks : List Key} {vs : List V} {ds : List D}, RepL K F vs ds → RepK K F (ks.zip vs) (ks.zip ds)
  | [], _, _, _ => .nil
  | k :: ks, _, _, .nil => .nil
  | k :: ks, _, _, .cons r t => .cons r (repK_zip t)
theorem kwE_len {ds : M Sl} {n : Nat} {ks : List Str} {vs : List V} {Q : VK} {E : XK} (h : spOf K (packE n ks ds) vs H Q E) : vs.length = n + ks.length := by
  obtain ⟨F, as, fp, h1, h2, h3, h4, h5⟩ := h
  have la : vs.length = as.length := by have := h2.len; rwa [List.length_map] at this
  rw [la]
  exact packE_len h5
theorem kwE_sp {ds : M Sl} {n : Nat} {ks : List Str} {vs : List V} {Q : VK} {E : XK} (hl : ∀ as Q E, ds.wp as Q E → as.length = n + 1) (hk : ∀ as Q E, ds.wp as Q E → ds.wp as (fun r as' => as'.length = as.length ∧ Q r as') (fun er as' => as'.length = as.length ∧ E er as')) (h : spOf K (packE n ks ds) vs H Q E) :
    ∃ ws rest, vs = ws ++ rest ∧ ws.length = n ∧ ∀ p o, H p = none → spOf K ds (ws ++ [V.ref p]) (upd H p (.frz o (.dK ((ks.map (Sum.inr : Str → Key)).zip rest)))) Q E := by
  obtain ⟨F, as, fp, h1, h2, h3, h4, h5⟩ := h
  unfold packE at h5
  simp only at h5
  split at h5
  · rename_i rd er
    obtain ⟨hn, w⟩ := h5
    have ed := allSh_go er
    have la : vs.length = as.length := by have := h2.len; rwa [List.length_map] at this
    have ea : as.take n ++ as.drop n = as := List.take_append_drop n as
    have ev : vs.take n ++ vs.drop n = vs := List.take_append_drop n vs
    have h2' : Slots K F H ((vs.take n).map some ++ (vs.drop n).map some) (as.take n ++ rd.map Sl.sh) fp := by
      rw [← List.map_append, ev, ← ed, ea]; exact h2
    obtain ⟨f1, f2, rfl, s1, s2⟩ := Slots.split (by rw [List.length_map, List.length_take, List.length_take, la]) h2'
    have lr : (vs.drop n).length = rd.length := by
      have := congrArg List.length ed
      rw [List.length_map, List.length_drop] at this
      rw [List.length_drop, la]; exact this
    obtain ⟨rr, _⟩ := Slots.shs (τ := []) (δ := []) lr (by simpa using s2)
    have hw : (vs.take n).length = n := by rw [List.length_take]; omega
    refine ⟨vs.take n, vs.drop n, ev.symm, hw, fun p o hp => ?_⟩
    have hF : F p = none := by
      cases q : F p with
      | none => rfl
      | some u => have := h1 p u q; rw [hp] at this; cases this
    have hne : ∀ a ∈ f1, a ≠ p := fun a ha z => s1.here a ha (by rw [z]; exact hp)
    have le : Le F (upd F p (.frz o (.dK ((ks.map (Sum.inr : Str → Key)).zip (vs.drop n))))) := le_new hF
    refine ⟨upd F p (.frz o (.dK ((ks.map (Sum.inr : Str → Key)).zip (vs.drop n)))), as.take n ++ [.sh (.dil (kwD ks rd))], f1, fun a u e => ?_, ?_, (List.nodup_append.mp h3).1, fun a ha => ?_, ?_⟩
    · by_cases q : a = p
      · subst q; rw [upd_same] at e ⊢; exact e
      · rw [upd_ne q] at e ⊢; exact h1 a u e
    · rw [List.map_append]
      have s1' := s1.mono (H' := upd H p (.frz o (.dK ((ks.map (Sum.inr : Str → Key)).zip (vs.drop n))))) le fun a ha => upd_ne (hne a ha)
      have one : Slots K (upd F p (.frz o (.dK ((ks.map (Sum.inr : Str → Key)).zip (vs.drop n))))) (upd H p (.frz o (.dK ((ks.map (Sum.inr : Str → Key)).zip (vs.drop n))))) [some (V.ref p)] [.sh (.dil (kwD ks rd))] [] := .cons (f := []) (.sh (.dil upd_same (repK_zip (rr.mono le)))) .nil
      have := s1'.app one
      rwa [List.append_nil] at this
    · rw [upd_ne (hne a ha)]; exact h4 a (List.mem_append_left _ ha)
    · have ln : (as.take n ++ [Sl.sh (.dil (kwD ks rd))]).length = n + 1 := by rw [List.length_append, List.length_take]; simp; omega
      refine ds.mono (fun r as' z v H' hr => ?_) (fun er as' z v H' hr => ?_) (hk _ _ _ w)
      · have q := rel_star (as := as) (rest := vs.drop n) (fp := f1 ++ f2) hF hp (fun a ha => List.mem_append_left _ ha) hw (z.1.trans ln) rr ed hr
        rw [ev] at q
        exact z.2 v H' q
      · have q := rel_star (as := as) (rest := vs.drop n) (fp := f1 ++ f2) hF hp (fun a ha => List.mem_append_left _ ha) hw (z.1.trans ln) rr ed hr
        rw [ev] at q
        exact z.2 v H' q
  · exact h5.elim
theorem okKwED {ds : M Sl} {N ps : List Str} {pd : Str} {ks : List Str} {k : Nat} {m : MS} (T : FunD K x qual params body scope [] kws f fd) (S : FnScope N (ps ++ [pd]) scope) (hl : ∀ as Q E, ds.wp as Q E → as.length = ps.length + 1) (hm : ∀ as Q E, ds.wp as Q E → (defM (ps.length + 1) N.length m).wp as Q E) (hk : ∀ as Q E, ds.wp as Q E → ds.wp as (fun r as' => as'.length = as.length ∧ Q r as') (fun er as' => as'.length = as.length ∧ E er as'))
    (hnd : ks.Nodup) (hsz : ks.length ≤ sizeLine)
    (hb : ∀ (kV doc pm : Value) (an : Option Addr) (cdv ct : Value), StX.BindE (PySem.W.fnOf x qual params body scope .none kV doc pm an cdv ct) ps pd ks)
    (hbody : ∀ (cdv : Value) (A : Around) (outer : List PySem.Env) (s : Shared) (H : Hp) (E : XK), Room k (A.deeper (envOfC qual scope s.heap.objs.size f cdv)) → ∃ t, PSs (cxOf (L2.CX P w) P w K mg base N qual scope f cdv A outer s H E) body t ∧ SOk K (fun _ => E) t m) :
    StX.FnE P w K mg base (L2.CX P w) (k + 1) f ks ps.length (spOf K (packE ps.length ks ds)) :=
  (Cl.okKwE T S StX.cxUp hnd hsz hb fun cdv A outer s H vs Q E hr h => by
    obtain ⟨t, h1, h2⟩ := hbody cdv A outer s H E hr
    exact ⟨t, h1, body_ok (ps := ps ++ [pd]) (by rw [List.length_append]; exact hm) h h2⟩).imp fun vs H Q E h => kwE_sp hl hk h
theorem eMakeE {ds : M Sl} {tl : TA} {ml : MB} {c : Nat} (hl : BOk K W tl ml) : EOk K W (Cl.tMk (He.ga K (cn c)) (spOf K ds) W tl) (mMake c ds [] ml) := by
  have := eMake (K := K) (W := W) (ds := ds) (dv := []) (dvs := []) (tl := tl) (ml := ml) (c := c) hl (fun _ => .nil)
  simpa only [List.append_nil] using this
end
end Dl
namespace Pf
open PySem PySem.Spec PyProof.Rows L2 Dl
noncomputable section
def tb_p_BadName : Nat → Option Bool := fun n => if n = 1 then some true else if n = 2 then some false else if n = 0 then some false else if n = 5 then some false else none
def tb_p_TakenName : Nat → Option Bool := fun n => if n = 2 then some true else if n = 0 then some false else if n = 5 then some false else none
def tb_p_BadNumber : Nat → Option Bool := fun n => if n = 0 then some true else if n = 5 then some false else none
def tb_p_TooMany : Nat → Option Bool := fun n => if n = 5 then some true else none
def tb_r_TooMany : Nat → Option Bool := fun n => if n = 5 then some true else if n = 1 then some false else if n = 0 then some false else if n = 2 then some false else none
def tb_r_BadName : Nat → Option Bool := fun n => if n = 1 then some true else if n = 0 then some false else if n = 2 then some false else none
def tb_r_BadNumber : Nat → Option Bool := fun n => if n = 0 then some true else if n = 2 then some false else none
def tb_k_TooMany : Nat → Option Bool := fun n => if n = 5 then some true else if n = 0 then some false else if n = 1 then some false else if n = 2 then some false else none
def tb_k_BadNumber : Nat → Option Bool := fun n => if n = 0 then some true else if n = 1 then some false else if n = 2 then some false else none
def tb_un : Nat → Option Bool := fun n => if n = 3 then some true else none
def xo_LadderError : Nat → Option Bool := fun c => if c = 3 then some true else none
theorem al {α : Sort u} {P : α → Prop} (h : ∀ v, P v) : ∀ v, P v := h
theorem if2 {c : Prop} [Decidable c] {a b : Prop} (h1 : c → a) (h2 : ¬ c → b) : if c then a else b := by
  split
  · exact h1 (by assumption)
  · exact h2 (by assumption)
theorem cut {a b : MS} {ρ : Dl.Env} {M : MEnds} (P : Dl.Env → Prop) (h1 : a.wp ρ { M with nx := P }) (h2 : ∀ r, P r → b.wp r M) : (sSeq a b).wp ρ M := a.mono (M := { M with nx := P }) ⟨fun r z => h2 r z, fun _ _ z => z, fun _ z => z, fun _ z => z, fun _ _ z => z⟩ h1
theorem dt {p : Prop} [Decidable p] (h : decide p = true) : p := of_decide_eq_true h
theorem df {p : Prop} [Decidable p] (h : ¬ decide p = true) : ¬ p := fun z => h (decide_eq_true z)
theorem op2_ok {g : D → D → Option D} {a b d : D} {ρ : Dl.Env} {Q : Sl → Dl.Env → Prop} {E : Er → Dl.Env → Prop} (h : g a b = some d) (k : Q (.sh d) ρ) : (op2 g (.sh a) (.sh b)).wp ρ Q E := by
  show (match g a b with | some d => M.ret (.sh d) | none => M.stuck : ME).wp ρ Q E
  rw [h]
  exact k
theorem fit_int {n : Nat} (i : Int) : (D.int i).fit n := ⟨.int i, rfl, Nat.zero_le _⟩
theorem fit_non {n : Nat} : D.non.fit n := ⟨.non, rfl, Nat.zero_le _⟩
theorem fit_str {n : Nat} {x : Str} (h : PyData.strOk x = true) : (D.str x).fit n := ⟨.str x, h, Nat.zero_le _⟩
theorem fit_all {n : Nat} : ∀ {ds : List D}, (∀ d ∈ ds, D.fit n d) → Plains ds ∧ PyData.canLayAll0 (D.pys ds) = true ∧ PyData.depthAll (D.pys ds) ≤ n
  | [], _ => ⟨.nil, rfl, Nat.zero_le _⟩
  | d :: ds, h => by
    obtain ⟨a1, a2, a3⟩ := h d List.mem_cons_self
    obtain ⟨b1, b2, b3⟩ := fit_all (ds := ds) fun e he => h e (List.mem_cons_of_mem _ he)
    refine ⟨.cons a1 b1, ?_, Nat.max_le.mpr ⟨a3, b3⟩⟩
    show (PyData.canLay0 d.py && PyData.canLayAll0 (D.pys ds)) = true
    rw [a2, b2]
    rfl
theorem fit_lst {n : Nat} {ds : List D} (h : ∀ d ∈ ds, D.fit n d) : (D.lst ds).fit (n + 1) := let ⟨a, b, c⟩ := fit_all h; ⟨.lst a, b, Nat.succ_le_succ c⟩
theorem fit_tup {n : Nat} {ds : List D} (h : ∀ d ∈ ds, D.fit n d) : (D.tup ds).fit (n + 1) := let ⟨a, b, c⟩ := fit_all h; ⟨.tup a, b, Nat.succ_le_succ c⟩
theorem eq_refl {n : Nat} {d : D} (h : d.fit n) : D.eq d d = true := SeqAt.eqv_refl _ h.2.1
theorem lc_inv {vs : List Nat} {g : MG} {c : MT} {e : ME} {all : List D} {ρ : Dl.Env} {Q : List D → Dl.Env → Prop} {E : Er → Dl.Env → Prop} (P : Nat → List D → Dl.Env → Prop) (h0 : P 0 [] ρ)
    (hs : ∀ i d acc ρ, all[i]? = some d → P i acc ρ → (g (.sh d)).wp (wipeE ρ vs) (fun _ r1 => c.wp r1 (fun b r2 => if b = true then e.wp r2 (fun s r3 => match s with
      | .sh x => acc.length < sizeLine ∧ P (i + 1) (acc ++ [x]) (wipeE r3 vs)
      | _ => False) (fun er r => E er (wipeE r vs)) else P (i + 1) acc (wipeE r2 vs)) (fun er r => E er (wipeE r vs))) (fun _ _ => False))
    (hd : ∀ acc ρ, P all.length acc ρ → Q acc ρ) : lcM vs g c e all [] ρ Q E := by
  have main : ∀ n i acc ρ, i + n = all.length → P i acc ρ → lcM vs g c e (all.drop i) acc ρ Q E := by
    intro n
    induction n with
    | zero =>
      intro i acc ρ hi hp
      have e0 : i = all.length := by omega
      subst e0
      rw [List.drop_length]
      exact hd acc ρ hp
    | succ n ih =>
      intro i acc ρ hi hp
      have hlt : i < all.length := by omega
      rw [List.drop_eq_getElem_cons hlt]
      refine (g _).mono (fun _ r1 w1 => c.mono (fun b r2 w2 => ?_) (fun _ _ z => z) w1) (fun _ _ z => z) (hs i _ acc ρ (List.getElem?_eq_getElem hlt) hp)
      cases b with
      | true =>
        refine e.mono (fun s r3 w3 => ?_) (fun _ _ z => z) w2
        split at w3
        · exact ⟨w3.1, ih (i + 1) _ _ (by omega) w3.2⟩
        · exact w3.elim
      | false => exact ih (i + 1) _ _ (by omega) w2
  exact main all.length 0 [] ρ (by omega) h0
theorem for_inv {g : MG} {b : MS} {all : List D} {ρ : Dl.Env} {M : MEnds} (P : Nat → Dl.Env → Prop) (h0 : P 0 ρ)
    (hs : ∀ i d ρ, all[i]? = some d → P i ρ → (g (.sh d)).wp ρ (fun _ r => b.wp r { M with nx := P (i + 1), ct := P (i + 1), bk := M.nx }) (fun _ _ => False))
    (hd : ∀ ρ, P all.length ρ → M.nx ρ) : forM g b all ρ M := by
  have main : ∀ n i ρ, i + n = all.length → P i ρ → forM g b (all.drop i) ρ M := by
    intro n
    induction n with
    | zero =>
      intro i ρ hi hp
      have e0 : i = all.length := by omega
      subst e0
      rw [List.drop_length]
      exact hd ρ hp
    | succ n ih =>
      intro i ρ hi hp
      have hlt : i < all.length := by omega
      rw [List.drop_eq_getElem_cons hlt]
      refine (g _).mono (fun _ r1 w1 => b.mono (M := { M with nx := P (i + 1), ct := P (i + 1), bk := M.nx }) ⟨fun r z => ih (i + 1) r (by omega) z, fun _ _ z => z, fun _ z => z, fun r z => ih (i + 1) r (by omega) z, fun _ _ z => z⟩ w1) (fun _ _ z => z) (hs i _ ρ (List.getElem?_eq_getElem hlt) hp)
  exact main all.length 0 ρ (by omega) h0
theorem get_lt {α : Type} {l : List α} {i : Nat} {x : α} (e : l[i]? = some x) : i < l.length := (List.getElem?_eq_some_iff.mp e).1
theorem map_at {α β : Type} {f : α → β} {l : List α} {i : Nat} {y : β} (h : (l.map f)[i]? = some y) : ∃ x, l[i]? = some x ∧ y = f x := by
  rw [List.getElem?_map] at h
  cases e : l[i]? with
  | none => rw [e] at h; cases h
  | some x => rw [e] at h; cases h; exact ⟨x, rfl, rfl⟩
theorem take_snoc {α : Type} {l : List α} {i : Nat} {x : α} (e : l[i]? = some x) : l.take (i + 1) = l.take i ++ [x] := by rw [List.take_add_one, e]; rfl
theorem rgD_len (lo : Int) (n : Nat) : (rgD lo n).length = n := by unfold rgD; rw [List.length_map, List.length_range]
theorem df_in {n N : Nat} {m : MS} {as : List Sl} {Q : Sl → List Sl → Prop} {E : Er → List Sl → Prop} (ρ : Dl.Env) (hl : as.length = n) (hρ : as ++ List.replicate (N - n) .un = ρ) (h : m.wp ρ (mends as Q E)) : (defM n N m).wp as Q E := by
  subst hl
  subst hρ
  unfold defM
  show (match Nat.beq as.length as.length with
    | true => m.wp (as ++ List.replicate (N - as.length) .un) (mends as Q E)
    | false => False)
  rw [Nat.beq_refl]
  exact h
def m_check_name_L1 : MS := (sIf (mTest (mOp (op2 (dInS true)) (mVar 1) (mC (.str "abcdefghijklmnopqrstuvwxyz"))))
      (sRaise 1 (mVar 0))
      sNext)
def m_check_name_1 : MS := (sFor (iS (mVar 0)) (gSet 1) m_check_name_L1)
def m_check_name : MS := sSeq (sIf (mNot (mTest (mChain (op2 dLe) (op2 dLe) (mC (.int 1)) (mUn (op1P pLenS) (mVar 0)) (mC (.int 12)))))
      (sRaise 1 (mVar 0))
      sNext) m_check_name_1
theorem dx_check_name : ∃ R : M Sl, R = defM 1 2 m_check_name := ⟨_, rfl⟩
@[irreducible] noncomputable def ds_check_name : M Sl := Classical.choose dx_check_name
theorem dq_check_name : ds_check_name = defM 1 2 m_check_name := by unfold ds_check_name; exact Classical.choose_spec dx_check_name
theorem hm_check_name : ∀ as Q E, ds_check_name.wp as Q E → (defM 1 2 m_check_name).wp as Q E := by rw [dq_check_name]; exact fun _ _ _ w => w
theorem mh_check_name {as : List Sl} {Q : Sl → List Sl → Prop} {E : Er → List Sl → Prop} (h : (defM 1 2 m_check_name).wp as Q E) : ds_check_name.wp as Q E := by rw [dq_check_name]; exact h
theorem hl_check_name : ∀ as Q E, ds_check_name.wp as Q E → as.length = 1 := fun as Q E w => defM_len as Q E (hm_check_name as Q E w)
def m_Rack_put_4 : MS := (sDPutP 0 [.fld 2 0] 1 (mVar 2))
def m_Rack_put_3 : MS := sSeq (sIf (tBorM (mTest (mOp (op2 dGe) (mUn (op1 dLenD) (mFld 2 0 (mVar 0))) (mC (.int 8)))))
      (sRaise 5 (mBor (mOp (op2 dAdd) (mUn (op1 dLenD) (mFld 2 0 (mVar 0))) (mC (.int 1)))))
      sNext) m_Rack_put_4
def m_Rack_put_2 : MS := sSeq (sIf (mTest (mOp (op2 dLt) (mVar 2) (mC (.int 0))))
      (sRaise 0 (mVar 2))
      sNext) m_Rack_put_3
def m_Rack_put_1 : MS := sSeq (sIf (tBorM (mTest (mOp (op2 (dDIn false)) (mVar 1) (mFld 2 0 (mVar 0)))))
      (sRaise 2 (mVar 1))
      sNext) m_Rack_put_2
def m_Rack_put : MS := sSeq (sDrop (mCall ds_check_name [] (bCo (mVar 1) bNo))) m_Rack_put_1
theorem dx_Rack_put : ∃ R : M Sl, R = defM 3 3 m_Rack_put := ⟨_, rfl⟩
@[irreducible] noncomputable def ds_Rack_put : M Sl := Classical.choose dx_Rack_put
theorem dq_Rack_put : ds_Rack_put = defM 3 3 m_Rack_put := by unfold ds_Rack_put; exact Classical.choose_spec dx_Rack_put
theorem hm_Rack_put : ∀ as Q E, ds_Rack_put.wp as Q E → (defM 3 3 m_Rack_put).wp as Q E := by rw [dq_Rack_put]; exact fun _ _ _ w => w
theorem mh_Rack_put {as : List Sl} {Q : Sl → List Sl → Prop} {E : Er → List Sl → Prop} (h : (defM 3 3 m_Rack_put).wp as Q E) : ds_Rack_put.wp as Q E := by rw [dq_Rack_put]; exact h
theorem hl_Rack_put : ∀ as Q E, ds_Rack_put.wp as Q E → as.length = 3 := fun as Q E w => defM_len as Q E (hm_Rack_put as Q E w)
def m_RackU_initU_L1 : MS := (sDrop (mMethL 0 2 ds_Rack_put [] (bCo (mVar 2) (bCo (mVar 3) bNo))))
def m_RackU_initU_2 : MS := (sForI (mVar 1) (gTu 2 (gCo (gSet 2) (gCo (gSet 3) gNo))) m_RackU_initU_L1)
def m_RackU_initU_1 : MS := sSeq (sFldN 2 0 0 mDNew) m_RackU_initU_2
def m_RackU_initU : MS := sSeq (sIf (mTest (mOp (op2 dGt) (mUn (op1 dLenD) (mVar 1)) (mC (.int 8))))
      (sRaise 5 (mUn (op1 dLenD) (mVar 1)))
      sNext) m_RackU_initU_1
theorem dx_RackU_initU : ∃ R : M Sl, R = defM 2 4 m_RackU_initU := ⟨_, rfl⟩
@[irreducible] noncomputable def ds_RackU_initU : M Sl := Classical.choose dx_RackU_initU
theorem dq_RackU_initU : ds_RackU_initU = defM 2 4 m_RackU_initU := by unfold ds_RackU_initU; exact Classical.choose_spec dx_RackU_initU
theorem hm_RackU_initU : ∀ as Q E, ds_RackU_initU.wp as Q E → (defM 2 4 m_RackU_initU).wp as Q E := by rw [dq_RackU_initU]; exact fun _ _ _ w => w
theorem mh_RackU_initU {as : List Sl} {Q : Sl → List Sl → Prop} {E : Er → List Sl → Prop} (h : (defM 2 4 m_RackU_initU).wp as Q E) : ds_RackU_initU.wp as Q E := by rw [dq_RackU_initU]; exact h
theorem hl_RackU_initU : ∀ as Q E, ds_RackU_initU.wp as Q E → as.length = 2 := fun as Q E w => defM_len as Q E (hm_RackU_initU as Q E w)
theorem hk_RackU_initU : ∀ as Q E, ds_RackU_initU.wp as Q E → ds_RackU_initU.wp as (fun r as' => as'.length = as.length ∧ Q r as') (fun er as' => as'.length = as.length ∧ E er as') := by rw [dq_RackU_initU]; exact defM_keep
def m_Rack_names : MS := (sRet (mUn (op1P pListD) (mFld 2 0 (mVar 0))))
theorem dx_Rack_names : ∃ R : M Sl, R = defM 1 1 m_Rack_names := ⟨_, rfl⟩
@[irreducible] noncomputable def ds_Rack_names : M Sl := Classical.choose dx_Rack_names
theorem dq_Rack_names : ds_Rack_names = defM 1 1 m_Rack_names := by unfold ds_Rack_names; exact Classical.choose_spec dx_Rack_names
theorem hm_Rack_names : ∀ as Q E, ds_Rack_names.wp as Q E → (defM 1 1 m_Rack_names).wp as Q E := by rw [dq_Rack_names]; exact fun _ _ _ w => w
theorem mh_Rack_names {as : List Sl} {Q : Sl → List Sl → Prop} {E : Er → List Sl → Prop} (h : (defM 1 1 m_Rack_names).wp as Q E) : ds_Rack_names.wp as Q E := by rw [dq_Rack_names]; exact h
theorem hl_Rack_names : ∀ as Q E, ds_Rack_names.wp as Q E → as.length = 1 := fun as Q E w => defM_len as Q E (hm_Rack_names as Q E w)
theorem small_line {n : Nat} (h : n < 1000) : n < sizeLine := by rw [sizeLine_eq]; omega
def LET : Str := "abcdefghijklmnopqrstuvwxyz"
def inL (c : Nat) : Bool := decide (c ∈ LET.cps.toList)
def nmB (x : Str) : Bool := (decide (1 ≤ x.length) && decide (x.length ≤ 12)) && x.cps.toList.all inL
theorem name_any {x : Str} {Q : Sl → List Sl → Prop} {E : Er → List Sl → Prop} (hx : x.length < 100) (k : nmB x = true → Q (.sh .non) [.sh (.str x)]) (ke : nmB x = false → E ⟨1, .str x⟩ [.sh (.str x)]) : ds_check_name.wp [.sh (.str x)] Q E := by
  refine mh_check_name ?_
  refine ⟨by rw [sizeLine_eq]; omega, ?_⟩
  refine if2 (fun c => ?_) (fun c => ?_)
  · have c1 : (1 : Int) ≤ (x.length : Int) := dt c
    refine if2 (fun d => ?_) (fun d => ?_)
    · have d1 : ¬ (x.length : Int) ≤ 12 := by simpa using d
      refine ke ?_
      unfold nmB
      rw [decide_eq_false (p := x.length ≤ 12) (by omega), Bool.and_false, Bool.false_and]
    · have d1 : (x.length : Int) ≤ 12 := by simpa using d
      have e1 : nmB x = x.cps.toList.all inL := by
        unfold nmB
        rw [decide_eq_true (p := 1 ≤ x.length) (by omega), decide_eq_true (p := x.length ≤ 12) (by omega), Bool.true_and, Bool.true_and]
      show m_check_name_1.wp [.sh (.str x), .un] _
      refine for_inv (all := sgD x) (fun i r => (∀ c ∈ x.cps.toList.take i, inL c = true) ∧ ∃ s, r = [.sh (.str x), s]) ⟨fun c h => (by cases h), _, rfl⟩ ?_ ?_
      · rintro i d r hd ⟨ok, _, rfl⟩
        obtain ⟨q, eq, rfl⟩ := map_at hd
        show m_check_name_L1.wp [.sh (.str x), .sh (.str ⟨#[q]⟩)] _
        refine if2 (fun z => ?_) (fun z => ?_)
        · refine ke ?_
          rw [e1, List.all_eq_false]
          refine ⟨q, List.mem_of_getElem? eq, ?_⟩
          have : (true ^^ inL q) = true := z
          revert this
          cases inL q <;> simp
        · refine ⟨fun c hc => ?_, _, rfl⟩
          rw [take_snoc eq] at hc
          rcases List.mem_append.mp hc with h | h
          · exact ok c h
          · rw [List.mem_singleton.mp h]
            have : ¬ (true ^^ inL q) = true := z
            revert this
            cases inL q <;> simp
      · rintro r ⟨ok, s, rfl⟩
        refine k ?_
        rw [e1, List.all_eq_true]
        intro c hc
        refine ok c ?_
        unfold sgD
        rw [List.length_map, List.take_length]
        exact hc
  · have c1 : ¬ (1 : Int) ≤ (x.length : Int) := df c
    refine ke ?_
    unfold nmB
    rw [decide_eq_false (p := 1 ≤ x.length) (by omega), Bool.false_and, Bool.false_and]
abbrev Rk := List (Str × Int)
def rkE (R : Rk) : List (Key × D) := R.map fun p => (.inr p.1, .int p.2)
def rkD (R : Rk) : D := .obj 2 [.dic (rkE R)]
abbrev rkS : Sh := .oo [.od .fr]
def rkG (R : Rk) (x : Str) : Option Int := (R.find? fun p => decide (p.1 = x)).map (·.2)
theorem getE_rk (x : Str) : ∀ R : Rk, getE (rkE R) (.inr x) = (rkG R x).map D.int
  | [] => rfl
  | p :: R => by
    have ih := getE_rk x R
    unfold getE rkG rkE at *
    rw [List.map_cons, List.find?_cons, List.find?_cons]
    by_cases h : p.1 = x
    · subst h
      simp
    · have h2 : ¬ ((Sum.inr p.1 : Key) = .inr x) := fun z => h (Sum.inr.inj z)
      rw [decide_eq_false h, decide_eq_false h2]
      exact ih
theorem rkG_none {R : Rk} {x : Str} : rkG R x = none ↔ ∀ p ∈ R, p.1 ≠ x := by
  unfold rkG
  rw [Option.map_eq_none_iff, List.find?_eq_none]
  simp
theorem putE_rk {R : Rk} {x : Str} {l : Int} (h : rkG R x = none) : putE (rkE R) (.inr x) (.int l) = rkE (R ++ [(x, l)]) := by
  have hn := rkG_none.mp h
  unfold putE
  rw [if_neg]
  · unfold rkE
    rw [List.map_append]
    rfl
  · intro z
    obtain ⟨q, hq, z⟩ := List.any_eq_true.mp z
    obtain ⟨p, hp, rfl⟩ := List.mem_map.mp hq
    exact hn p hp (Sum.inr.inj (of_decide_eq_true z))
theorem new_rack {ρ : Dl.Env} {Q : Sl → Dl.Env → Prop} {E : Er → Dl.Env → Prop} (k : Q (.ow rkS (rkD [])) ρ) : (newI 2 (packK 1 ds_RackU_initU) [] []).wp ρ Q E := by
  rw [newI_eq]
  refine fun v => ?_
  refine ⟨rfl, ?_⟩
  refine mh_RackU_initU ?_
  refine df_in [.le v (.oo []) (.obj 2 []), .sh (.dil []), .un, .un] rfl rfl ?_
  refine cut (fun r => r = [.le v (.oo []) (.obj 2 []), .sh (.dil []), .un, .un]) rfl ?_
  rintro _ rfl
  refine cut (fun r => r = [.le v rkS (rkD []), .sh (.dil []), .un, .un]) rfl ?_
  rintro _ rfl
  exact ⟨rfl, k⟩
theorem names_rk {R : Rk} {Q : Sl → List Sl → Prop} {E : Er → List Sl → Prop} (k : Q (.ow (.ol .fr) (.lst (R.map fun p => D.str p.1))) [.sh (rkD R)]) : ds_Rack_names.wp [.sh (rkD R)] Q E := by
  have e : (rkE R).map (fun p => keyD p.1) = R.map fun p => D.str p.1 := by
    unfold rkE
    rw [List.map_map]
    rfl
  refine mh_Rack_names ?_
  refine ⟨trivial, ?_⟩
  rw [e]
  exact k
def m_RackU_lenU : MS := (sRet (mUn (op1 dLenD) (mFld 2 0 (mVar 0))))
theorem dx_RackU_lenU : ∃ R : M Sl, R = defM 1 1 m_RackU_lenU := ⟨_, rfl⟩
@[irreducible] noncomputable def ds_RackU_lenU : M Sl := Classical.choose dx_RackU_lenU
theorem dq_RackU_lenU : ds_RackU_lenU = defM 1 1 m_RackU_lenU := by unfold ds_RackU_lenU; exact Classical.choose_spec dx_RackU_lenU
theorem hm_RackU_lenU : ∀ as Q E, ds_RackU_lenU.wp as Q E → (defM 1 1 m_RackU_lenU).wp as Q E := by rw [dq_RackU_lenU]; exact fun _ _ _ w => w
theorem mh_RackU_lenU {as : List Sl} {Q : Sl → List Sl → Prop} {E : Er → List Sl → Prop} (h : (defM 1 1 m_RackU_lenU).wp as Q E) : ds_RackU_lenU.wp as Q E := by rw [dq_RackU_lenU]; exact h
theorem hl_RackU_lenU : ∀ as Q E, ds_RackU_lenU.wp as Q E → as.length = 1 := fun as Q E w => defM_len as Q E (hm_RackU_lenU as Q E w)
def m_RackU_containsU : MS := (sRet (mOp (op2 (dDIn false)) (mVar 1) (mFld 2 0 (mVar 0))))
theorem dx_RackU_containsU : ∃ R : M Sl, R = defM 2 2 m_RackU_containsU := ⟨_, rfl⟩
@[irreducible] noncomputable def ds_RackU_containsU : M Sl := Classical.choose dx_RackU_containsU
theorem dq_RackU_containsU : ds_RackU_containsU = defM 2 2 m_RackU_containsU := by unfold ds_RackU_containsU; exact Classical.choose_spec dx_RackU_containsU
theorem hm_RackU_containsU : ∀ as Q E, ds_RackU_containsU.wp as Q E → (defM 2 2 m_RackU_containsU).wp as Q E := by rw [dq_RackU_containsU]; exact fun _ _ _ w => w
theorem mh_RackU_containsU {as : List Sl} {Q : Sl → List Sl → Prop} {E : Er → List Sl → Prop} (h : (defM 2 2 m_RackU_containsU).wp as Q E) : ds_RackU_containsU.wp as Q E := by rw [dq_RackU_containsU]; exact h
theorem hl_RackU_containsU : ∀ as Q E, ds_RackU_containsU.wp as Q E → as.length = 2 := fun as Q E w => defM_len as Q E (hm_RackU_containsU as Q E w)
def m_Rack_length_of_1 : MS := (sRet (mOp (op2 dDGet) (mFld 2 0 (mVar 0)) (mVar 1)))
def m_Rack_length_of : MS := sSeq (sIf (mTest (mOp (op2 (dDIn true)) (mVar 1) (mFld 2 0 (mVar 0))))
      (sRaise 3 (mVar 1))
      sNext) m_Rack_length_of_1
theorem dx_Rack_length_of : ∃ R : M Sl, R = defM 2 2 m_Rack_length_of := ⟨_, rfl⟩
@[irreducible] noncomputable def ds_Rack_length_of : M Sl := Classical.choose dx_Rack_length_of
theorem dq_Rack_length_of : ds_Rack_length_of = defM 2 2 m_Rack_length_of := by unfold ds_Rack_length_of; exact Classical.choose_spec dx_Rack_length_of
theorem hm_Rack_length_of : ∀ as Q E, ds_Rack_length_of.wp as Q E → (defM 2 2 m_Rack_length_of).wp as Q E := by rw [dq_Rack_length_of]; exact fun _ _ _ w => w
theorem mh_Rack_length_of {as : List Sl} {Q : Sl → List Sl → Prop} {E : Er → List Sl → Prop} (h : (defM 2 2 m_Rack_length_of).wp as Q E) : ds_Rack_length_of.wp as Q E := by rw [dq_Rack_length_of]; exact h
theorem hl_Rack_length_of : ∀ as Q E, ds_Rack_length_of.wp as Q E → as.length = 2 := fun as Q E w => defM_len as Q E (hm_Rack_length_of as Q E w)
def dueR (R : Rk) (x : Str) (l : Int) : Option (Nat × D) := if nmB x = false then some (1, .str x) else if (rkG R x).isSome = true then some (2, .str x) else if l < 0 then some (0, .int l) else if 8 ≤ R.length then some (5, .int ((R.length + 1 : Nat) : Int)) else none
theorem put_any {v : V} {R : Rk} {x : Str} {l : Int} {Q : Sl → List Sl → Prop} {E : Er → List Sl → Prop} (hx : x.length < 100) (h8 : R.length < 900)
    (k : dueR R x l = none → Q (.sh .non) [.le v rkS (rkD (R ++ [(x, l)])), .sh (.str x), .sh (.int l)]) (ke : ∀ c d, dueR R x l = some (c, d) → E ⟨c, d⟩ [.le v rkS (rkD R), .sh (.str x), .sh (.int l)]) : ds_Rack_put.wp [.le v rkS (rkD R), .sh (.str x), .sh (.int l)] Q E := by
  refine mh_Rack_put ?_
  have eg : (getE (rkE R) (.inr x)).isSome = (rkG R x).isSome := by rw [getE_rk]; cases rkG R x <;> rfl
  refine name_any hx (fun hn => ?_) (fun hn => ?_)
  · unfold dueR at k ke
    rw [if_neg (by rw [hn]; decide)] at k ke
    refine if2 (fun z => ?_) (fun z => ?_)
    · have z' : (false ^^ (getE (rkE R) (.inr x)).isSome) = true := z
      rw [Bool.false_xor, eg] at z'
      rw [if_pos z'] at ke
      exact ⟨rfl, ke _ _ rfl⟩
    have z' : ¬ (false ^^ (getE (rkE R) (.inr x)).isSome) = true := z
    rw [Bool.false_xor, eg] at z'
    rw [if_neg z'] at k ke
    refine if2 (fun z => ?_) (fun z => ?_)
    · have z1 : l < 0 := dt z
      rw [if_pos z1] at ke
      exact ⟨rfl, ke _ _ rfl⟩
    have z1 : ¬ l < 0 := df z
    rw [if_neg z1] at k ke
    have el : (rkE R).length = R.length := List.length_map _
    refine if2 (fun z => ?_) (fun z => ?_)
    · have z2 : ((rkE R).length : Int) ≥ 8 := dt z
      rw [el] at z2
      rw [if_pos (by omega)] at ke
      have e5 : ((R.length + 1 : Nat) : Int) = ((rkE R).length : Int) + 1 := by rw [el]; omega
      rw [e5] at ke
      exact ⟨rfl, ⟨rfl, ke _ _ rfl⟩⟩
    have z2 : ¬ ((rkE R).length : Int) ≥ 8 := df z
    rw [el] at z2
    rw [if_neg (by omega)] at k
    refine ⟨small_line (by rw [el]; omega), ?_⟩
    have hf : rkG R x = none := by
      cases q : rkG R x with
      | none => rfl
      | some y => rw [q] at z'; exact absurd rfl z'
    rw [putE_rk hf]
    exact ⟨rfl, k rfl⟩
  · unfold dueR at ke
    rw [if_pos hn] at ke
    exact ⟨rfl, ke _ _ rfl⟩
theorem len_rk {R : Rk} {Q : Sl → List Sl → Prop} {E : Er → List Sl → Prop} (k : Q (.sh (.int ((R.length : Nat) : Int))) [.sh (rkD R)]) : ds_RackU_lenU.wp [.sh (rkD R)] Q E := by
  refine mh_RackU_lenU ?_
  have el : (rkE R).length = R.length := List.length_map _
  rw [← el] at k
  exact k
theorem in_rk {R : Rk} {x : Str} {Q : Sl → List Sl → Prop} {E : Er → List Sl → Prop} (k : Q (.sh (.bl (rkG R x).isSome)) [.sh (rkD R), .sh (.str x)]) : ds_RackU_containsU.wp [.sh (rkD R), .sh (.str x)] Q E := by
  refine mh_RackU_containsU ?_
  have eg : (false ^^ (getE (rkE R) (.inr x)).isSome) = (rkG R x).isSome := by rw [Bool.false_xor, getE_rk]; cases rkG R x <;> rfl
  rw [← eg] at k
  exact k
theorem of_rk {R : Rk} {x : Str} {Q : Sl → List Sl → Prop} {E : Er → List Sl → Prop} (k : ∀ l, rkG R x = some l → Q (.sh (.int l)) [.sh (rkD R), .sh (.str x)]) (ke : rkG R x = none → E ⟨3, .str x⟩ [.sh (rkD R), .sh (.str x)]) : ds_Rack_length_of.wp [.sh (rkD R), .sh (.str x)] Q E := by
  refine mh_Rack_length_of ?_
  refine df_in [.sh (rkD R), .sh (.str x)] rfl rfl ?_
  have eg : (getE (rkE R) (.inr x)) = (rkG R x).map D.int := getE_rk x R
  cases h : rkG R x with
  | none =>
    rw [h] at eg
    refine if2 (fun z => ?_) (fun z => ?_)
    · exact ke h
    · exfalso
      have z' : ¬ (true ^^ (getE (rkE R) (.inr x)).isSome) = true := z
      rw [eg] at z'
      exact z' rfl
  | some l =>
    rw [h] at eg
    refine cut (fun r => r = [.sh (rkD R), .sh (.str x)]) ?_ ?_
    · refine if2 (fun z => ?_) (fun z => rfl)
      exfalso
      have z' : (true ^^ (getE (rkE R) (.inr x)).isSome) = true := z
      rw [eg] at z'
      cases z'
    rintro _ rfl
    have e2 : dDGet (.dic (rkE R)) (.str x) = some (.int l) := by
      show getE (rkE R) (.inr x) = _
      rw [eg]
      rfl
    refine op2_ok e2 ?_
    exact k l h
theorem init_any {v : V} {kv : Rk} {Q : Sl → List Sl → Prop} {E : Er → List Sl → Prop} (hx : ∀ p ∈ kv, p.1.length < 100) (h9 : kv.length < 900)
    (k8 : 8 < kv.length → E ⟨5, .int ((kv.length : Nat) : Int)⟩ [.le v (.oo []) (.obj 2 []), .sh (.dil (rkE kv))])
    (k : kv.length ≤ 8 → (∀ i p, kv[i]? = some p → dueR (kv.take i) p.1 p.2 = none) → Q (.sh .non) [.le v rkS (rkD kv), .sh (.dil (rkE kv))])
    (ke : kv.length ≤ 8 → ∀ i p c d, kv[i]? = some p → (∀ j q, j < i → kv[j]? = some q → dueR (kv.take j) q.1 q.2 = none) → dueR (kv.take i) p.1 p.2 = some (c, d) → E ⟨c, d⟩ [.le v rkS (rkD (kv.take i)), .sh (.dil (rkE kv))]) :
    ds_RackU_initU.wp [.le v (.oo []) (.obj 2 []), .sh (.dil (rkE kv))] Q E := by
  refine mh_RackU_initU ?_
  refine df_in [.le v (.oo []) (.obj 2 []), .sh (.dil (rkE kv)), .un, .un] rfl rfl ?_
  have el : (rkE kv).length = kv.length := List.length_map _
  refine cut (fun r => kv.length ≤ 8 ∧ r = [.le v (.oo []) (.obj 2 []), .sh (.dil (rkE kv)), .un, .un]) ?_ ?_
  · refine if2 (fun z => ?_) (fun z => ?_)
    · have z1 : ((rkE kv).length : Int) > 8 := dt z
      rw [el] at z1
      rw [← el] at k8
      exact ⟨rfl, k8 (by rw [el]; omega)⟩
    · have z1 : ¬ ((rkE kv).length : Int) > 8 := df z
      rw [el] at z1
      exact ⟨by omega, rfl⟩
  rintro _ ⟨h8, rfl⟩
  refine cut (fun r => r = [.le v rkS (rkD []), .sh (.dil (rkE kv)), .un, .un]) rfl ?_
  rintro _ rfl
  refine for_inv (all := (rkE kv).map itemD) (fun i r => ∃ s2 s3, (∀ j q, j < i → kv[j]? = some q → dueR (kv.take j) q.1 q.2 = none) ∧ r = [.le v rkS (rkD (kv.take i)), .sh (.dil (rkE kv)), s2, s3]) ⟨_, _, fun j q h => absurd h (Nat.not_lt_zero _), rfl⟩ ?_ ?_
  · rintro i d r hd ⟨s2, s3, hj, rfl⟩
    obtain ⟨e, ee, rfl⟩ := map_at hd
    obtain ⟨p, ep, rfl⟩ := map_at ee
    have hi := get_lt ep
    show m_RackU_initU_L1.wp [.le v rkS (rkD (kv.take i)), .sh (.dil (rkE kv)), .sh (.str p.1), .sh (.int p.2)] _
    refine put_any (hx p (List.mem_of_getElem? ep)) (by rw [List.length_take]; omega) (fun hn => ?_) (fun c d hn => ?_)
    · refine ⟨_, _, fun j q hji ej => ?_, by rw [take_snoc ep]; rfl⟩
      by_cases z : j < i
      · exact hj j q z ej
      · have : j = i := by omega
        subst this
        rw [ep] at ej
        cases ej
        exact hn
    · exact ⟨rfl, ke h8 i p c d ep hj hn⟩
  · rintro r ⟨s2, s3, hj, rfl⟩
    rw [List.length_map, el] at *
    refine ⟨rfl, ?_⟩
    rw [List.take_length]
    exact k h8 fun i p ep => hj i p (get_lt ep) ep
def m_law_name_8 : MS := (sRet (mVar 4))
def m_law_name_7 : MS := sSeq (sIf (mTest (mOp (op2 (dEq false)) (mVar 7) (mC (.int 2))))
      (sRet (mC (.str "")))
      sNext) m_law_name_8
def m_law_name_6 : MS := sSeq (sIf (mTest (mOp (op2 (dEq false)) (mVar 7) (mC (.int 1))))
      (sRet (mOp opStr (mOp opStr (mSl fSlS (mVar 4) mNoPart (mPart (mVar 5))) (mVar 6)) (mSl fSlS (mVar 4) (mPart (mOp (op2 dAdd) (mVar 5) (mC (.int 1)))) mNoPart)))
      sNext) m_law_name_7
def m_law_name_5 : MS := sSeq (sAsg (mTake 0 (mC (.int 10))) (gSet 7)) m_law_name_6
def m_law_name_4 : MS := sSeq (sAsg (mOp (op2P pIxS) (mC (.str " AZ09_-.`{")) (mTake 0 (mC (.int 10)))) (gSet 6)) m_law_name_5
def m_law_name_3 : MS := sSeq (sAsg (mTake 0 (mUn (op1P pLenS) (mVar 4))) (gSet 5)) m_law_name_4
def m_law_name_2 : MS := sSeq (sAsg (mJoin (mC (.str "")) (mFz (mLc0 [3] (iR1 (mOp (op2 dAdd) (mC (.int 1)) (mTake 0 (mC (.int 13))))) (gSet 3) mYes (mOp (op2P pIxS) (mVar 2) (mTake 0 (mC (.int 26))))))) (gSet 4)) m_law_name_3
def m_law_name_1 : MS := sSeq (sAsg (mC (.str "abcdefghijklmnopqrstuvwxyz")) (gSet 2)) m_law_name_2
def m_law_name : MS := sSeq (sIf (mAnd (tBorM (mTest (mOp (op2 dGt) (mUn (op1 dLen) (mVar 1)) (mC (.int 0))))) (mTest (mOp (op2 (dEq false)) (mTake 0 (mC (.int 4))) (mC (.int 1)))))
      (sRet (mOp (op2 dIxT) (mIxO 1 (mTake 0 (mBor (mUn (op1 dLen) (mVar 1))))) (mC (.int 0))))
      sNext) m_law_name_1
theorem dx_law_name : ∃ R : M Sl, R = defM 2 8 m_law_name := ⟨_, rfl⟩
@[irreducible] noncomputable def ds_law_name : M Sl := Classical.choose dx_law_name
theorem dq_law_name : ds_law_name = defM 2 8 m_law_name := by unfold ds_law_name; exact Classical.choose_spec dx_law_name
theorem hm_law_name : ∀ as Q E, ds_law_name.wp as Q E → (defM 2 8 m_law_name).wp as Q E := by rw [dq_law_name]; exact fun _ _ _ w => w
theorem mh_law_name {as : List Sl} {Q : Sl → List Sl → Prop} {E : Er → List Sl → Prop} (h : (defM 2 8 m_law_name).wp as Q E) : ds_law_name.wp as Q E := by rw [dq_law_name]; exact h
theorem hl_law_name : ∀ as Q E, ds_law_name.wp as Q E → as.length = 2 := fun as Q E w => defM_len as Q E (hm_law_name as Q E w)
def m_law_bad_1 : MS := (sRet (mOp (op2 dGt) (mUn (op1 dLen) (mFz (mLc0 [1] (iS (mVar 0)) (gSet 1) (mTest (mOp (op2 (dInS true)) (mVar 1) (mC (.str "abcdefghijklmnopqrstuvwxyz")))) (mVar 1)))) (mC (.int 0))))
def m_law_bad : MS := sSeq (sIf (mOr (mTest (mOp (op2 (dEq false)) (mVar 0) (mC (.str "")))) (mTest (mOp (op2 dGt) (mUn (op1P pLenS) (mVar 0)) (mC (.int 12)))))
      (sRet (mC (.bl true)))
      sNext) m_law_bad_1
theorem dx_law_bad : ∃ R : M Sl, R = defM 1 2 m_law_bad := ⟨_, rfl⟩
@[irreducible] noncomputable def ds_law_bad : M Sl := Classical.choose dx_law_bad
theorem dq_law_bad : ds_law_bad = defM 1 2 m_law_bad := by unfold ds_law_bad; exact Classical.choose_spec dx_law_bad
theorem hm_law_bad : ∀ as Q E, ds_law_bad.wp as Q E → (defM 1 2 m_law_bad).wp as Q E := by rw [dq_law_bad]; exact fun _ _ _ w => w
theorem mh_law_bad {as : List Sl} {Q : Sl → List Sl → Prop} {E : Er → List Sl → Prop} (h : (defM 1 2 m_law_bad).wp as Q E) : ds_law_bad.wp as Q E := by rw [dq_law_bad]; exact h
theorem hl_law_bad : ∀ as Q E, ds_law_bad.wp as Q E → as.length = 1 := fun as Q E w => defM_len as Q E (hm_law_bad as Q E w)
def m_law_due_4 : MS := (sRet (mTup (mCons (mC (.str "put")) (mCons (mC (.non)) mNil))))
def m_law_due_3 : MS := sSeq (sIf (tBorM (mTest (mOp (op2 dGt) (mUn (op1 dLen) (mVar 0)) (mC (.int 7)))))
      (sRet (mTup (mCons (mC (.str "TooMany")) (mCons (mC (.int 9)) mNil))))
      sNext) m_law_due_4
def m_law_due_2 : MS := sSeq (sIf (mTest (mOp (op2 dLt) (mVar 2) (mC (.int 0))))
      (sRet (mTup (mCons (mC (.str "BadNumber")) (mCons (mVar 2) mNil))))
      sNext) m_law_due_3
def m_law_due_1 : MS := sSeq (sIf (tBorM (mTest (mOp (op2P (pIn false)) (mVar 1) (mFz (mLc0 [3] (iL (mVar 0)) (gSet 3) mYes (mOp (op2 dIxT) (mVar 3) (mC (.int 0))))))))
      (sRet (mTup (mCons (mC (.str "TakenName")) (mCons (mVar 1) mNil))))
      sNext) m_law_due_2
def m_law_due : MS := sSeq (sIf (mTest (mCall ds_law_bad [] (bCo (mVar 1) bNo)))
      (sRet (mTup (mCons (mC (.str "BadName")) (mCons (mVar 1) mNil))))
      sNext) m_law_due_1
theorem dx_law_due : ∃ R : M Sl, R = defM 3 4 m_law_due := ⟨_, rfl⟩
@[irreducible] noncomputable def ds_law_due : M Sl := Classical.choose dx_law_due
theorem dq_law_due : ds_law_due = defM 3 4 m_law_due := by unfold ds_law_due; exact Classical.choose_spec dx_law_due
theorem hm_law_due : ∀ as Q E, ds_law_due.wp as Q E → (defM 3 4 m_law_due).wp as Q E := by rw [dq_law_due]; exact fun _ _ _ w => w
theorem mh_law_due {as : List Sl} {Q : Sl → List Sl → Prop} {E : Er → List Sl → Prop} (h : (defM 3 4 m_law_due).wp as Q E) : ds_law_due.wp as Q E := by rw [dq_law_due]; exact h
theorem hl_law_due : ∀ as Q E, ds_law_due.wp as Q E → as.length = 3 := fun as Q E w => defM_len as Q E (hm_law_due as Q E w)
theorem rg_at {lo : Int} {n i : Nat} {d : D} (h : (rgD lo n)[i]? = some d) : i < n ∧ d = .int (lo + (i : Nat)) := by
  have hi : i < n := by
    rcases Nat.lt_or_ge i n with z | z
    · exact z
    · rw [List.getElem?_eq_none (by rw [rgD_len]; exact z)] at h; cases h
  unfold rgD at h
  rw [List.getElem?_map, List.getElem?_range hi] at h
  exact ⟨hi, (Option.some.inj h).symm⟩
abbrev sS (l : List Nat) : Str := ⟨l.toArray⟩
theorem sS_len {l : List Nat} : (sS l).length = l.length := List.size_toArray
def AB : List Nat := List.range' 97 26
theorem eAB : Str.ofString "abcdefghijklmnopqrstuvwxyz" = sS AB := by decide +kernel
theorem ab_at {i : Nat} (h : i < 26) : AB[i]? = some (97 + i) := by
  unfold AB
  rw [List.getElem?_range' (by omega)]
  simp
theorem ab_ix {x : Int} (x0 : 0 ≤ x) (x1 : x < 26) : pIxS (.str (sS AB)) (.int x) = some ((sS AB).length ≤ sizeLine, .sh (.str (sS [97 + x.toNat]))) := by
  have e : atI (sS AB).cps.toList x = some (97 + x.toNat) := by
    have := atI_of (ab_at (i := x.toNat) (by omega))
    rw [Int.toNat_of_nonneg x0] at this
    exact this
  simp only [pIxS, e]
theorem ab_len : (sS AB).length ≤ sizeLine := by rw [sizeLine_eq, sS_len]; decide
theorem so_of {x : Str} (h : ∀ c ∈ x.cps.toList, c < 0x110000) : PyData.strOk x = true := by
  show x.cps.all (· < 0x110000) = true
  rw [← Array.all_toList, List.all_eq_true]
  intro c hc
  exact decide_eq_true (h c hc)
theorem join_sS0 : ∀ {l : List Nat}, Str.join (sS []) (l.map fun c => sS [c]) = sS l
  | [] => rfl
  | [c] => rfl
  | a :: b :: l => by
    have ih := join_sS0 (l := b :: l)
    show sS [a] ++ sS [] ++ Str.join (sS []) ((b :: l).map fun c => sS [c]) = _
    rw [ih]
    have e : ((#[a] : Array Nat) ++ (#[] : Array Nat)) ++ (b :: l).toArray = (a :: b :: l).toArray := by simp
    exact congrArg Str.mk e
theorem join_sS {l : List Nat} : Txt.join (sS []) (l.map fun c => sS [c]) = sS l := (StrLaws.glued_eq_join _ _).trans join_sS0
theorem pj_sS {l : List Nat} : pJoin (.str "") (.lst (l.map fun c => D.str (sS [c]))) = some (l.length ≤ 16777216, .sh (.str (sS l))) := by
  have e : strsD (l.map fun c => D.str (sS [c])) = some (l.map fun c => sS [c]) := by
    have := strsD_map (ys := l.map fun c => sS [c])
    rwa [List.map_map] at this
  have hs : ∀ l : List Nat, ((l.map fun c => sS [c]).map (·.length)).sum = l.length := fun l => by
    induction l with
    | nil => rfl
    | cons a l ih =>
      rw [List.map_cons, List.map_cons, List.sum_cons, ih, List.length_cons]
      show 1 + _ = _
      omega
  have e0 : Str.ofString "" = sS [] := by decide +kernel
  have z0 : (sS []).length = 0 := rfl
  rw [e0]
  have e2 : pJoin (.str (sS [])) (.lst (l.map fun c => D.str (sS [c]))) = some (((l.map fun c => sS [c]).map (·.length)).sum + (l.map fun c => sS [c]).length * (sS []).length ≤ 16777216, .sh (.str (sS l))) := by
    simp only [pJoin, e, join_sS]
  rw [e2, hs, z0, Nat.mul_zero, Nat.add_zero]
def NmO (x : Str) : Prop := x.length < 50 ∧ PyData.strOk x = true
structure RkI (R : Rk) : Prop where
  few : R.length ≤ 8
  nm : ∀ p ∈ R, NmO p.1
  nd : (R.map (·.1)).Nodup
def rwsD (R : Rk) : D := .lst (R.map fun p => .tup [.str p.1, .int p.2])
abbrev nE (v u : V) (R : Rk) (s2 s3 s4 s5 s6 s7 : Sl) : Dl.Env := [.lb v, .le u (.ol .fr) (rwsD R), s2, s3, s4, s5, s6, s7]
theorem signs_at {t : Int} (t0 : 0 ≤ t) (t1 : t < 10) : ∃ c : Nat, c < 128 ∧ pIxS (.str " AZ09_-.`{") (.int t) = some ((" AZ09_-.`{" : Str).length ≤ sizeLine, .sh (.str (sS [c]))) := by
  have e : (" AZ09_-.`{" : Str) = sS [32, 65, 90, 48, 57, 95, 45, 46, 96, 123] := by decide +kernel
  rw [e]
  have : t = 0 ∨ t = 1 ∨ t = 2 ∨ t = 3 ∨ t = 4 ∨ t = 5 ∨ t = 6 ∨ t = 7 ∨ t = 8 ∨ t = 9 := by omega
  rcases this with rfl | rfl | rfl | rfl | rfl | rfl | rfl | rfl | rfl | rfl
  all_goals exact ⟨_, by decide, rfl⟩
theorem cutS_mem {x : Str} {a b : Option Int} : (∀ c ∈ (cutS x a b).cps.toList, c ∈ x.cps.toList) ∧ (cutS x a b).length ≤ x.length := by
  constructor
  · intro c hc
    exact List.mem_of_mem_drop (List.mem_of_mem_take (show c ∈ List.take _ (List.drop _ x.cps.toList) from hc))
  · show (List.take _ (List.drop _ x.cps.toList)).toArray.size ≤ x.cps.size
    rw [List.size_toArray, List.length_take, List.length_drop]
    have : x.cps.size = x.cps.toList.length := (Array.length_toList).symm
    omega
theorem name_ok {v u : V} {R : Rk} {Q : Sl → List Sl → Prop} {E : Er → List Sl → Prop} (G : RkI R) (k : ∀ x, NmO x → Q (.sh (.str x)) [.lb v, .le u (.ol .fr) (rwsD R)]) : ds_law_name.wp [.lb v, .le u (.ol .fr) (rwsD R)] Q E := by
  refine mh_law_name ?_
  refine df_in [.lb v, .le u (.ol .fr) (rwsD R), .un, .un, .un, .un, .un, .un] rfl rfl ?_
  have hf := G.few
  have el : (((R.map fun p => D.tup [.str p.1, .int p.2]).length : Nat) : Int) = ((R.length : Nat) : Int) := by rw [List.length_map]
  refine cut (fun r => r = nE v u R .un .un .un .un .un .un) ?_ ?_
  · refine if2 (fun c => ?_) (fun c => rfl)
    have c1 : (((R.map fun p => D.tup [.str p.1, .int p.2]).length : Nat) : Int) > 0 := dt c
    rw [el] at c1
    refine ⟨⟨by decide, by decide⟩, fun t t0 t1 => ?_⟩
    refine if2 (fun _ => ?_) (fun _ => rfl)
    refine ⟨rfl, ⟨by rw [el]; omega, by rw [el]; omega⟩, fun a a0 a1 => ?_⟩
    rw [el] at a1
    obtain ⟨q, rfl⟩ : ∃ q : Nat, a = ((q : Nat) : Int) := ⟨a.toNat, by omega⟩
    have hq : q < R.length := by omega
    have aq : atI (R.map fun p => D.tup [.str p.1, .int p.2]) ((q : Nat) : Int) = some (D.tup [.str R[q].1, .int R[q].2]) := L2.atI_nat (by rw [List.getElem?_map, List.getElem?_eq_getElem hq]; rfl)
    conv => whnf
    simp only [aq]
    exact ⟨trivial, rfl, rfl, k _ (G.nm _ (List.getElem_mem hq))⟩
  rintro _ rfl
  refine cut (fun r => r = nE v u R (.sh (.str (sS AB))) .un .un .un .un .un) ?_ ?_
  · rw [← eAB]
    exact rfl
  rintro _ rfl
  refine cut (fun r => ∃ l : List Nat, ((∀ c ∈ l, c < 128) ∧ (1 ≤ l.length ∧ l.length ≤ 13)) ∧ ∃ s3, r = nE v u R (.sh (.str (sS AB))) s3 (.sh (.str (sS l))) .un .un .un) ?_ ?_
  · refine ⟨⟨by decide, by decide⟩, fun n n0 n1 => ?_⟩
    refine ⟨⟨by omega, by omega⟩, ?_⟩
    refine lc_inv (fun i acc r => ∃ l : List Nat, ((∀ c ∈ l, c < 128) ∧ l.length = i) ∧ acc = l.map (fun c => D.str (sS [c])) ∧ ∃ s3, r = nE v u R (.sh (.str (sS AB))) s3 .un .un .un .un) ⟨[], ⟨fun _ h => (by cases h), rfl⟩, rfl, _, rfl⟩ ?_ ?_
    · rintro i d acc r hd ⟨l, ⟨h1, h2⟩, rfl, s3, rfl⟩
      obtain ⟨hi, rfl⟩ := rg_at hd
      refine ⟨⟨by decide, by decide⟩, fun x x0 x1 => ?_⟩
      have ep := ab_ix x0 x1
      conv => whnf
      dsimp only
      rw [ep]
      refine ⟨ab_len, small_line (by rw [List.length_map]; omega), l ++ [97 + x.toNat], ⟨fun c hc => ?_, by rw [List.length_append, h2]; rfl⟩, by rw [List.map_append]; rfl, _, rfl⟩
      rcases List.mem_append.mp hc with z | z
      · exact h1 c z
      · rw [List.mem_singleton.mp z]; omega
    · rintro acc r ⟨l, ⟨h1, h2⟩, rfl, s3, rfl⟩
      rw [rgD_len] at h2
      show match pJoin (.str "") (.lst (l.map fun c => D.str (sS [c]))) with | some (p, s) => p ∧ _ | none => False
      rw [pj_sS]
      exact ⟨by omega, l, ⟨h1, by omega⟩, s3, rfl⟩
  rintro _ ⟨l, ⟨hl, l1, l13⟩, s3, rfl⟩
  have hz : (sS l).length ≤ sizeLine := by rw [sS_len, sizeLine_eq]; omega
  refine cut (fun r => ∃ a : Nat, a < l.length ∧ r = nE v u R (.sh (.str (sS AB))) s3 (.sh (.str (sS l))) (.sh (.int ((a : Nat) : Int))) .un .un) ?_ ?_
  · refine ⟨hz, ⟨by show 0 < ((sS l).length : Int); rw [sS_len]; omega, by show ((sS l).length : Int).natAbs < _; rw [sS_len]; omega⟩, fun a a0 a1 => ?_⟩
    have a1 : a < ((sS l).length : Int) := a1
    rw [sS_len] at a1
    obtain ⟨q, rfl⟩ : ∃ q : Nat, a = ((q : Nat) : Int) := ⟨a.toNat, by omega⟩
    exact ⟨q, by omega, rfl⟩
  rintro _ ⟨a, ha, rfl⟩
  refine cut (fun r => ∃ c : Nat, c < 128 ∧ r = nE v u R (.sh (.str (sS AB))) s3 (.sh (.str (sS l))) (.sh (.int ((a : Nat) : Int))) (.sh (.str (sS [c]))) .un) ?_ ?_
  · refine ⟨⟨by decide, by decide⟩, fun t t0 t1 => ?_⟩
    obtain ⟨c, hc, ep⟩ := signs_at t0 t1
    conv => whnf
    dsimp only
    rw [ep]
    exact ⟨by decide +kernel, c, hc, rfl⟩
  rintro _ ⟨c, hc, rfl⟩
  refine cut (fun r => ∃ w : Int, r = nE v u R (.sh (.str (sS AB))) s3 (.sh (.str (sS l))) (.sh (.int ((a : Nat) : Int))) (.sh (.str (sS [c]))) (.sh (.int w))) ?_ ?_
  · refine ⟨⟨by decide, by decide⟩, fun w w0 w1 => ?_⟩
    exact ⟨w, rfl⟩
  rintro _ ⟨w, rfl⟩
  have no : NmO (sS l) := ⟨by rw [sS_len]; omega, so_of fun d hd => by have := hl d (by simpa using hd); omega⟩
  refine cut (fun r => r = nE v u R (.sh (.str (sS AB))) s3 (.sh (.str (sS l))) (.sh (.int ((a : Nat) : Int))) (.sh (.str (sS [c]))) (.sh (.int w))) ?_ ?_
  · refine if2 (fun _ => ?_) (fun _ => rfl)
    have m1 := cutS_mem (x := sS l) (a := none) (b := some ((a : Nat) : Int))
    have m2 := cutS_mem (x := sS l) (a := some (((a : Nat) : Int) + 1)) (b := none)
    refine ⟨hz, ?_⟩
    generalize cutS (sS l) none (some ((a : Nat) : Int)) = x1 at m1
    have z1 : (sS [c]).length = 1 := rfl
    have hlen := sS_len (l := l)
    have m1l := m1.2
    have m2l := m2.2
    refine ⟨by rw [z1, sizeLine_eq]; omega, hz, by simp only [Str.length_append, z1, sizeLine_eq]; omega, rfl, rfl, k _ ⟨?_, ?_⟩⟩
    · simp only [Str.length_append, z1]
      omega
    · refine so_of fun d hd => ?_
      have hd : d ∈ ((x1 ++ sS [c]) ++ cutS (sS l) (some (((a : Nat) : Int) + 1)) none).cps.toList := hd
      rw [Str.cps_append, Str.cps_append, Array.toList_append, Array.toList_append] at hd
      rcases List.mem_append.mp hd with hd | hd
      · rcases List.mem_append.mp hd with hd | hd
        · have := hl d (by simpa using m1.1 d hd); omega
        · have : d = c := by simpa using hd
          omega
      · have := hl d (by simpa using m2.1 d hd); omega
  rintro _ rfl
  refine cut (fun r => r = nE v u R (.sh (.str (sS AB))) s3 (.sh (.str (sS l))) (.sh (.int ((a : Nat) : Int))) (.sh (.str (sS [c]))) (.sh (.int w))) ?_ ?_
  · refine if2 (fun _ => ?_) (fun _ => rfl)
    exact ⟨rfl, rfl, k _ ⟨by decide +kernel, by decide +kernel⟩⟩
  rintro _ rfl
  exact ⟨rfl, rfl, k _ no⟩
theorem bad_ok {x : Str} {Q : Sl → List Sl → Prop} {E : Er → List Sl → Prop} (hx : x.length < 50) (k : Q (.sh (.bl (!nmB x))) [.sh (.str x)]) : ds_law_bad.wp [.sh (.str x)] Q E := by
  refine mh_law_bad ?_
  refine df_in [.sh (.str x), .un] rfl rfl ?_
  have hz : x.length ≤ sizeLine := by rw [sizeLine_eq]; omega
  have lc : x.length = x.cps.toList.length := by show x.cps.size = _; rw [Array.length_toList]
  refine cut (fun r => (1 ≤ x.length ∧ x.length ≤ 12) ∧ r = [.sh (.str x), .un]) ?_ ?_
  · refine if2 (fun c => ?_) (fun c => ?_)
    · have c1 : x = "" := dt (by rwa [Bool.false_xor] at c)
      have c2 : x.length = 0 := by rw [c1]; decide +kernel
      unfold nmB at k
      rw [decide_eq_false (p := 1 ≤ x.length) (by omega), Bool.false_and, Bool.false_and] at k
      exact k
    · have c1 : ¬ x = "" := df (by rwa [Bool.false_xor] at c)
      have c2 : 1 ≤ x.length := by
        rcases Nat.eq_zero_or_pos x.length with z | z
        · exfalso
          refine c1 ?_
          rw [lc] at z
          have : x.cps.toList = ("" : Str).cps.toList := by rw [List.length_eq_zero_iff.mp z]; decide +kernel
          exact Str.ext' (Array.toList_inj.mp this)
        · exact z
      refine ⟨hz, ?_⟩
      refine if2 (fun d => ?_) (fun d => ?_)
      · have d1 : ((x.length : Nat) : Int) > 12 := dt d
        unfold nmB at k
        rw [decide_eq_false (p := x.length ≤ 12) (by omega), Bool.and_false, Bool.false_and] at k
        exact k
      · have d1 : ¬ ((x.length : Nat) : Int) > 12 := df d
        exact ⟨⟨c2, by omega⟩, rfl⟩
  rintro _ ⟨⟨h1, h2⟩, rfl⟩
  have e1 : nmB x = x.cps.toList.all inL := by
    unfold nmB
    rw [decide_eq_true h1, decide_eq_true h2, Bool.true_and, Bool.true_and]
  refine lc_inv (all := sgD x) (fun i acc r => acc = ((x.cps.toList.take i).filter fun c => !inL c).map (fun c => D.str ⟨#[c]⟩) ∧ ∃ s, r = [.sh (.str x), s]) ⟨rfl, _, rfl⟩ ?_ ?_
  · rintro i d acc r hd ⟨rfl, s, rfl⟩
    obtain ⟨q, eq, rfl⟩ := map_at hd
    have eq : x.cps.toList[i]? = some q := eq
    have hl := List.length_filter_le (fun c => !inL c) (x.cps.toList.take i)
    rw [List.length_take] at hl
    refine if2 (fun z => ?_) (fun z => ?_)
    · have z1 : inL q = false := by
        have z : (true ^^ inL q) = true := z
        revert z; cases inL q <;> simp
      refine ⟨small_line (by rw [List.length_map]; omega), ?_, _, rfl⟩
      rw [take_snoc eq, List.filter_append, List.map_append, List.filter_cons, z1]
      rfl
    · have z1 : inL q = true := by
        have z : ¬ (true ^^ inL q) = true := z
        revert z; cases inL q <;> simp
      refine ⟨?_, _, rfl⟩
      rw [take_snoc eq, List.filter_append, List.map_append, List.filter_cons, z1]
      exact (List.append_nil _).symm
  · rintro acc r ⟨rfl, s, rfl⟩
    have e : x.cps.toList.take (sgD x).length = x.cps.toList := by
      unfold sgD
      rw [List.length_map, List.take_length]
    rw [e]
    have e2 : (decide (((((x.cps.toList.filter fun c => !inL c).map (fun c => D.str ⟨#[c]⟩)).length : Nat) : Int) > 0)) = !nmB x := by
      rw [List.length_map, e1]
      by_cases h : x.cps.toList.all inL = true
      · rw [h]
        refine decide_eq_false ?_
        have : (x.cps.toList.filter fun c => !inL c) = [] := List.filter_eq_nil_iff.mpr fun c hc => by
          rw [List.all_eq_true.mp h c hc]
          decide
        rw [this]
        decide
      · rw [Bool.not_eq_true] at h
        rw [h]
        refine decide_eq_true ?_
        rcases Nat.eq_zero_or_pos (x.cps.toList.filter fun c => !inL c).length with z | z
        · exfalso
          have z1 := List.length_eq_zero_iff.mp z
          have : x.cps.toList.all inL = true := List.all_eq_true.mpr fun c hc => by
            have := List.filter_eq_nil_iff.mp z1 c hc
            simpa using this
          rw [this] at h
          cases h
        · omega
    rw [← e2] at k
    exact k
def eNm : Nat → Str
  | 0 => "BadNumber"
  | 1 => "BadName"
  | 2 => "TakenName"
  | _ => "TooMany"
def dueD (R : Rk) (x : Str) (l : Int) : D := match dueR R x l with
  | some (c, d) => .tup [.str (eNm c), d]
  | none => .tup [.str "put", .non]
theorem pin_names {R : Rk} {x : Str} : ((R.map fun p => D.str p.1).any fun y => D.eq y (.str x)) = (rkG R x).isSome := by
  have e : ∀ a b : Str, D.eq (.str a) (.str b) = decide (a = b) := fun a b => by
    have e : D.eq (.str a) (.str b) = (a == b) := by unfold D.eq; show PyData.eqv (.str _) (.str _) = _; unfold PyData.eqv; rfl
    rw [e]
    by_cases h : a = b
    · subst h; simp
    · rw [decide_eq_false h]; exact beq_eq_false_iff_ne.mpr h
  unfold rkG
  induction R with
  | nil => rfl
  | cons p R ih =>
    rw [List.map_cons, List.any_cons, e, List.find?_cons, ih]
    by_cases h : p.1 = x
    · rw [decide_eq_true h]; rfl
    · rw [decide_eq_false h, Bool.false_or]
theorem due_ok {u : V} {R : Rk} {x : Str} {l : Int} {Q : Sl → List Sl → Prop} {E : Er → List Sl → Prop} (G : RkI R) (hx : NmO x) (k : Q (.sh (dueD R x l)) [.le u (.ol .fr) (rwsD R), .sh (.str x), .sh (.int l)]) : ds_law_due.wp [.le u (.ol .fr) (rwsD R), .sh (.str x), .sh (.int l)] Q E := by
  refine mh_law_due ?_
  refine df_in [.le u (.ol .fr) (rwsD R), .sh (.str x), .sh (.int l), .un] rfl rfl ?_
  have el : (((R.map fun p => D.tup [.str p.1, .int p.2]).length : Nat) : Int) = ((R.length : Nat) : Int) := by rw [List.length_map]
  have h8 := G.few
  refine cut (fun r => nmB x = true ∧ r = [.le u (.ol .fr) (rwsD R), .sh (.str x), .sh (.int l), .un]) ?_ ?_
  · refine bad_ok hx.1 ?_
    cases hb : nmB x with
    | true => exact ⟨rfl, rfl⟩
    | false =>
      unfold dueD dueR at k
      rw [if_pos hb] at k
      exact ⟨rfl, k⟩
  rintro _ ⟨hb, rfl⟩
  refine cut (fun r => (rkG R x).isSome = false ∧ r = [.le u (.ol .fr) (rwsD R), .sh (.str x), .sh (.int l), .un]) ?_ ?_
  · refine lc_inv (fun i acc r => acc = (R.take i).map (fun p => D.str p.1) ∧ ∃ s, r = [.sh (rwsD R), .sh (.str x), .sh (.int l), s]) ⟨rfl, _, rfl⟩ ?_ ?_
    · rintro i d acc r hd ⟨rfl, s, rfl⟩
      obtain ⟨p, ep, rfl⟩ := map_at hd
      refine ⟨small_line (by rw [List.length_map, List.length_take]; omega), ?_, _, rfl⟩
      rw [take_snoc ep, List.map_append]
      rfl
    · rintro acc r ⟨rfl, s, rfl⟩
      rw [List.length_map, List.take_length]
      have fl : (R.map fun p => D.str p.1).all D.flat = true := by
        rw [List.all_eq_true]
        intro d hd
        obtain ⟨p, _, rfl⟩ := List.mem_map.mp hd
        rfl
      refine ⟨⟨rfl, fl⟩, ?_⟩
      refine if2 (fun c => ?_) (fun c => ?_)
      · have c1 : ((R.map fun p => D.str p.1).any fun y => D.eq y (.str x)) = true := by rwa [Bool.false_xor] at c
        rw [pin_names] at c1
        unfold dueD dueR at k
        rw [if_neg (by rw [hb]; decide), if_pos c1] at k
        exact ⟨rfl, k⟩
      · have c1 : ¬ ((R.map fun p => D.str p.1).any fun y => D.eq y (.str x)) = true := by rwa [Bool.false_xor] at c
        rw [pin_names, Bool.not_eq_true] at c1
        exact ⟨c1, rfl⟩
  rintro _ ⟨hg, rfl⟩
  refine cut (fun r => ¬ l < 0 ∧ r = [.le u (.ol .fr) (rwsD R), .sh (.str x), .sh (.int l), .un]) ?_ ?_
  · refine if2 (fun c => ?_) (fun c => ⟨df c, rfl⟩)
    have c1 : l < 0 := dt c
    unfold dueD dueR at k
    rw [if_neg (by rw [hb]; decide), if_neg (by rw [hg]; decide), if_pos c1] at k
    exact ⟨rfl, k⟩
  rintro _ ⟨hl, rfl⟩
  refine cut (fun r => ¬ 8 ≤ R.length ∧ r = [.le u (.ol .fr) (rwsD R), .sh (.str x), .sh (.int l), .un]) ?_ ?_
  · refine if2 (fun c => ?_) (fun c => ?_)
    · have c1 : (((R.map fun p => D.tup [.str p.1, .int p.2]).length : Nat) : Int) > 7 := dt c
      rw [el] at c1
      have e8 : R.length = 8 := by omega
      unfold dueD dueR at k
      rw [if_neg (by rw [hb]; decide), if_neg (by rw [hg]; decide), if_neg hl, if_pos (by omega), e8] at k
      exact ⟨rfl, k⟩
    · have c1 : ¬ (((R.map fun p => D.tup [.str p.1, .int p.2]).length : Nat) : Int) > 7 := df c
      rw [el] at c1
      exact ⟨by omega, rfl⟩
  rintro _ ⟨h9, rfl⟩
  unfold dueD dueR at k
  rw [if_neg (by rw [hb]; decide), if_neg (by rw [hg]; decide), if_neg hl, if_neg h9] at k
  exact ⟨rfl, k⟩
def m_law_put_1 : MS := (sRet (mTup (mCons (mC (.str "put")) (mCons (mVar 3) mNil))))
def m_law_put : MS := sSeq (sTryN [(tb_p_BadName, some 4, fun a dd n => (sRet (mTup (mCons (mC (.str "BadName")) (mCons (mXf a dd n 1 4) mNil))))), (tb_p_TakenName, some 4, fun a dd n => (sRet (mTup (mCons (mC (.str "TakenName")) (mCons (mXf a dd n 2 4) mNil))))), (tb_p_BadNumber, some 4, fun a dd n => (sRet (mTup (mCons (mC (.str "BadNumber")) (mCons (mXf a dd n 0 4) mNil))))), (tb_p_TooMany, some 4, fun a dd n => (sRet (mTup (mCons (mC (.str "TooMany")) (mCons (mXf a dd n 5 4) mNil)))))] (sAsg (mMethL 0 2 ds_Rack_put [] (bCo (mVar 1) (bCo (mVar 2) bNo))) (gSet 3))) m_law_put_1
theorem dx_law_put : ∃ R : M Sl, R = defM 3 5 m_law_put := ⟨_, rfl⟩
@[irreducible] noncomputable def ds_law_put : M Sl := Classical.choose dx_law_put
theorem dq_law_put : ds_law_put = defM 3 5 m_law_put := by unfold ds_law_put; exact Classical.choose_spec dx_law_put
theorem hm_law_put : ∀ as Q E, ds_law_put.wp as Q E → (defM 3 5 m_law_put).wp as Q E := by rw [dq_law_put]; exact fun _ _ _ w => w
theorem mh_law_put {as : List Sl} {Q : Sl → List Sl → Prop} {E : Er → List Sl → Prop} (h : (defM 3 5 m_law_put).wp as Q E) : ds_law_put.wp as Q E := by rw [dq_law_put]; exact h
theorem hl_law_put : ∀ as Q E, ds_law_put.wp as Q E → as.length = 3 := fun as Q E w => defM_len as Q E (hm_law_put as Q E w)
def m_law_unknown_1 : MS := (sRet (mC (.bl false)))
def m_law_unknown : MS := sSeq (sTry tb_un 2 (sDrop (mMeth 2 ds_Rack_length_of [] (mVar 0) (bCo (mVar 1) bNo)))
      (fun a dd n => (sRet (mAndV (mXIs a dd n 2 xo_LadderError) (mOp (op2 (dEq false)) (mXf a dd n 3 2) (mVar 1)))))) m_law_unknown_1
theorem dx_law_unknown : ∃ R : M Sl, R = defM 2 3 m_law_unknown := ⟨_, rfl⟩
@[irreducible] noncomputable def ds_law_unknown : M Sl := Classical.choose dx_law_unknown
theorem dq_law_unknown : ds_law_unknown = defM 2 3 m_law_unknown := by unfold ds_law_unknown; exact Classical.choose_spec dx_law_unknown
theorem hm_law_unknown : ∀ as Q E, ds_law_unknown.wp as Q E → (defM 2 3 m_law_unknown).wp as Q E := by rw [dq_law_unknown]; exact fun _ _ _ w => w
theorem mh_law_unknown {as : List Sl} {Q : Sl → List Sl → Prop} {E : Er → List Sl → Prop} (h : (defM 2 3 m_law_unknown).wp as Q E) : ds_law_unknown.wp as Q E := by rw [dq_law_unknown]; exact h
theorem hl_law_unknown : ∀ as Q E, ds_law_unknown.wp as Q E → as.length = 2 := fun as Q E w => defM_len as Q E (hm_law_unknown as Q E w)
def m_law_same_L1 : MS := (sIf (mOr (mTest (mOp (op2 (dEq true)) (mMeth 2 ds_Rack_length_of [] (mVar 0) (bCo (mVar 5) bNo)) (mVar 6))) (mTest (mOp (op2 (dIsB true)) (mOp (opInO 2 ds_RackU_containsU) (mVar 5) (mVar 0)) (mC (.bl true)))))
      (sRet (mC (.bl false)))
      sNext)
def m_law_same_6 : MS := (sRet (mC (.bl true)))
def m_law_same_5 : MS := sSeq (sIf (mTest (mOp (op2P (pIn true)) (mVar 2) (mFz (mLc0 [4] (iL (mVar 1)) (gSet 4) mYes (mOp (op2 dIxT) (mVar 4) (mC (.int 0)))))))
      (sRet (mAndV (mOp (op2 (dIsB false)) (mOp (opInO 2 ds_RackU_containsU) (mVar 2) (mVar 0)) (mC (.bl false))) (mCall ds_law_unknown [] (bCo (mVar 0) (bCo (mVar 2) bNo)))))
      sNext) m_law_same_6
def m_law_same_4 : MS := sSeq (sFor (iL (mVar 1)) (gTu 2 (gCo (gSet 5) (gCo (gSet 6) gNo))) m_law_same_L1) m_law_same_5
def m_law_same_3 : MS := sSeq (sIf (mOr (mTest (mOp (op2P (pEqD true)) (mFz (mMeth 2 ds_Rack_names [] (mVar 0) bNo)) (mFz (mLc0 [4] (iL (mVar 1)) (gSet 4) mYes (mOp (op2 dIxT) (mVar 4) (mC (.int 0))))))) (mTest (mOp (op2 (dEq true)) (mUn (opLenO 2 ds_RackU_lenU) (mVar 0)) (mUn (op1 dLen) (mVar 1)))))
      (sRet (mC (.bl false)))
      sNext) m_law_same_4
def m_law_same_2 : MS := sSeq (sDrop (mApp 3 (mC (.str "zzz")))) m_law_same_3
def m_law_same_1 : MS := sSeq (sIf (tBorM (mOr (mNot (mTest (mUn (op1 (dIsi .lst)) (mVar 3)))) (mTest (mOp (op2P (pEqD true)) (mVar 3) (mFz (mLc0 [4] (iL (mVar 1)) (gSet 4) mYes (mOp (op2 dIxT) (mVar 4) (mC (.int 0)))))))))
      (sRet (mC (.bl false)))
      sNext) m_law_same_2
def m_law_same : MS := sSeq (sAsg (mMeth 2 ds_Rack_names [] (mVar 0) bNo) (gSet 3)) m_law_same_1
theorem dx_law_same : ∃ R : M Sl, R = defM 3 7 m_law_same := ⟨_, rfl⟩
@[irreducible] noncomputable def ds_law_same : M Sl := Classical.choose dx_law_same
theorem dq_law_same : ds_law_same = defM 3 7 m_law_same := by unfold ds_law_same; exact Classical.choose_spec dx_law_same
theorem hm_law_same : ∀ as Q E, ds_law_same.wp as Q E → (defM 3 7 m_law_same).wp as Q E := by rw [dq_law_same]; exact fun _ _ _ w => w
theorem mh_law_same {as : List Sl} {Q : Sl → List Sl → Prop} {E : Er → List Sl → Prop} (h : (defM 3 7 m_law_same).wp as Q E) : ds_law_same.wp as Q E := by rw [dq_law_same]; exact h
theorem hl_law_same : ∀ as Q E, ds_law_same.wp as Q E → as.length = 3 := fun as Q E w => defM_len as Q E (hm_law_same as Q E w)
def m_law_refused_1 : MS := (sRet (mTup (mCons (mC (.str "made")) (mCons (mC (.int 0)) mNil))))
def m_law_refused : MS := sSeq (sTryN [(tb_r_TooMany, some 1, fun a dd n => (sRet (mTup (mCons (mC (.str "TooMany")) (mCons (mXf a dd n 5 1) mNil))))), (tb_r_BadName, some 1, fun a dd n => (sRet (mTup (mCons (mC (.str "BadName")) (mCons (mXf a dd n 1 1) mNil))))), (tb_r_BadNumber, some 1, fun a dd n => (sRet (mTup (mCons (mC (.str "BadNumber")) (mCons (mXf a dd n 0 1) mNil)))))] (sIf (mTest (mOp (op2 (dEq false)) (mVar 0) (mC (.int 0))))
      (sDrop (mMake 2 (packE 1 ["oak", "Ash"] ds_RackU_initU) [] (bCo (mC (.int 1)) (bCo (mUn (op1 dNeg) (mC (.int 1))) bNo))))
      (sIf (mTest (mOp (op2 (dEq false)) (mVar 0) (mC (.int 1))))
      (sDrop (mMake 2 (packE 1 ["oak", "ash", "fir", "elm", "yew", "ivy", "alder", "rowan", "lime"] ds_RackU_initU) [] (bCo (mUn (op1 dNeg) (mC (.int 1))) (bCo (mC (.int 1)) (bCo (mC (.int 1)) (bCo (mC (.int 1)) (bCo (mC (.int 1)) (bCo (mC (.int 1)) (bCo (mC (.int 1)) (bCo (mC (.int 1)) (bCo (mC (.int 1)) bNo)))))))))))
      (sDrop (mMake 2 (packE 1 ["Oak", "ash", "fir", "elm", "yew", "ivy", "alder", "rowan", "lime", "holly"] ds_RackU_initU) [] (bCo (mC (.int 1)) (bCo (mC (.int 1)) (bCo (mC (.int 1)) (bCo (mC (.int 1)) (bCo (mC (.int 1)) (bCo (mC (.int 1)) (bCo (mC (.int 1)) (bCo (mC (.int 1)) (bCo (mC (.int 1)) (bCo (mC (.int 1)) bNo))))))))))))))) m_law_refused_1
theorem dx_law_refused : ∃ R : M Sl, R = defM 1 2 m_law_refused := ⟨_, rfl⟩
@[irreducible] noncomputable def ds_law_refused : M Sl := Classical.choose dx_law_refused
theorem dq_law_refused : ds_law_refused = defM 1 2 m_law_refused := by unfold ds_law_refused; exact Classical.choose_spec dx_law_refused
theorem hm_law_refused : ∀ as Q E, ds_law_refused.wp as Q E → (defM 1 2 m_law_refused).wp as Q E := by rw [dq_law_refused]; exact fun _ _ _ w => w
theorem mh_law_refused {as : List Sl} {Q : Sl → List Sl → Prop} {E : Er → List Sl → Prop} (h : (defM 1 2 m_law_refused).wp as Q E) : ds_law_refused.wp as Q E := by rw [dq_law_refused]; exact h
theorem hl_law_refused : ∀ as Q E, ds_law_refused.wp as Q E → as.length = 1 := fun as Q E w => defM_len as Q E (hm_law_refused as Q E w)
def m_law_keywords_1 : MS := (sRet (mTup (mCons (mC (.str "made")) (mCons (mC (.int 0)) mNil))))
def m_law_keywords : MS := sSeq (sTryN [(tb_k_TooMany, some 2, fun a dd n => (sRet (mTup (mCons (mC (.str "TooMany")) (mCons (mXf a dd n 5 2) mNil))))), (tb_k_BadNumber, some 2, fun a dd n => (sRet (mTup (mCons (mC (.str "BadNumber")) (mCons (mXf a dd n 0 2) mNil)))))] (sSeq (sDrop (mMake 2 (packE 1 ["ash", "fir", "oak", "elm", "yew", "ivy", "alder", "rowan"] ds_RackU_initU) [] (bCo (mVar 0) (bCo (mVar 0) (bCo (mC (.int 1)) (bCo (mC (.int 1)) (bCo (mC (.int 1)) (bCo (mC (.int 1)) (bCo (mC (.int 1)) (bCo (mVar 1) bNo))))))))))
      (sDrop (mMake 2 (packE 1 ["ash", "fir", "oak", "elm", "yew", "ivy", "alder", "rowan", "lime"] ds_RackU_initU) [] (bCo (mVar 0) (bCo (mVar 0) (bCo (mC (.int 1)) (bCo (mC (.int 1)) (bCo (mC (.int 1)) (bCo (mC (.int 1)) (bCo (mC (.int 1)) (bCo (mVar 1) (bCo (mC (.int 3)) bNo))))))))))))) m_law_keywords_1
theorem dx_law_keywords : ∃ R : M Sl, R = defM 2 3 m_law_keywords := ⟨_, rfl⟩
@[irreducible] noncomputable def ds_law_keywords : M Sl := Classical.choose dx_law_keywords
theorem dq_law_keywords : ds_law_keywords = defM 2 3 m_law_keywords := by unfold ds_law_keywords; exact Classical.choose_spec dx_law_keywords
theorem hm_law_keywords : ∀ as Q E, ds_law_keywords.wp as Q E → (defM 2 3 m_law_keywords).wp as Q E := by rw [dq_law_keywords]; exact fun _ _ _ w => w
theorem mh_law_keywords {as : List Sl} {Q : Sl → List Sl → Prop} {E : Er → List Sl → Prop} (h : (defM 2 3 m_law_keywords).wp as Q E) : ds_law_keywords.wp as Q E := by rw [dq_law_keywords]; exact h
theorem hl_law_keywords : ∀ as Q E, ds_law_keywords.wp as Q E → as.length = 2 := fun as Q E w => defM_len as Q E (hm_law_keywords as Q E w)
def afterR (R : Rk) (x : Str) (l : Int) : Rk := match dueR R x l with
  | some _ => R
  | none => R ++ [(x, l)]
theorem dueR_cls {R : Rk} {x : Str} {l : Int} {c : Nat} {d : D} (h : dueR R x l = some (c, d)) : c = 1 ∨ c = 2 ∨ c = 0 ∨ c = 5 := by
  unfold dueR at h
  split at h
  · cases h; exact .inl rfl
  split at h
  · cases h; exact .inr (.inl rfl)
  split at h
  · cases h; exact .inr (.inr (.inl rfl))
  split at h
  · cases h; exact .inr (.inr (.inr rfl))
  · cases h
theorem lput_ok {v : V} {R : Rk} {x : Str} {l : Int} {Q : Sl → List Sl → Prop} {E : Er → List Sl → Prop} (G : RkI R) (hx : NmO x) (k : Q (.sh (dueD R x l)) [.le v rkS (rkD (afterR R x l)), .sh (.str x), .sh (.int l)]) : ds_law_put.wp [.le v rkS (rkD R), .sh (.str x), .sh (.int l)] Q E := by
  refine mh_law_put ?_
  have hf := G.few
  have hx1 := hx.1
  refine put_any (by omega) (by omega) (fun hn => ?_) (fun c d hn => ?_)
  · unfold dueD afterR at k
    rw [hn] at k
    exact ⟨rfl, k⟩
  · unfold dueD afterR at k
    rw [hn] at k
    rcases dueR_cls hn with rfl | rfl | rfl | rfl
    · exact fun a dd => ⟨rfl, rfl, rfl, rfl, rfl, k⟩
    · exact fun a dd => ⟨rfl, rfl, rfl, rfl, rfl, k⟩
    · exact fun a dd => ⟨rfl, rfl, rfl, rfl, rfl, k⟩
    · exact fun a dd => ⟨rfl, rfl, rfl, rfl, rfl, k⟩
theorem unknown_ok {R : Rk} {x : Str} {Q : Sl → List Sl → Prop} {E : Er → List Sl → Prop} (h : rkG R x = none) (k : Q (.sh (.bl true)) [.sh (rkD R), .sh (.str x)]) : ds_law_unknown.wp [.sh (rkD R), .sh (.str x)] Q E := by
  refine mh_law_unknown ?_
  refine of_rk (fun l e => by rw [h] at e; cases e) (fun _ => ?_)
  have ek : (false ^^ decide (x = x)) = true := by rw [decide_eq_true rfl]; rfl
  rw [← ek] at k
  first
  | exact fun a dd => ⟨rfl, rfl, rfl, rfl, rfl, rfl, rfl, k⟩
  | exact fun a dd => ⟨rfl, rfl, rfl, rfl, rfl, rfl, k⟩
  | exact fun a dd => ⟨rfl, rfl, rfl, rfl, rfl, k⟩
theorem rkG_at {R : Rk} (h : (R.map (·.1)).Nodup) {i : Nat} {p : Str × Int} (e : R[i]? = some p) : rkG R p.1 = some p.2 := by
  induction R generalizing i with
  | nil => cases e
  | cons a R ih =>
    rw [List.map_cons, List.nodup_cons] at h
    unfold rkG
    rw [List.find?_cons]
    cases i with
    | zero =>
      cases e
      rw [decide_eq_true rfl]
      rfl
    | succ i =>
      have e : R[i]? = some p := e
      have ne : ¬ a.1 = p.1 := fun z => h.1 (List.mem_map.mpr ⟨p, List.mem_of_getElem? e, z.symm⟩)
      rw [decide_eq_false ne]
      exact ih h.2 e
abbrev sE (R : Rk) (x : Str) (s3 s4 s5 s6 : Sl) : Dl.Env := [.sh (rkD R), .sh (rwsD R), .sh (.str x), s3, s4, s5, s6]
theorem fit_names {R : Rk} (G : RkI R) : (D.lst (R.map fun p => D.str p.1)).fit 64 := fit_lst (n := 63) fun d hd => by
  obtain ⟨p, hp, rfl⟩ := List.mem_map.mp hd
  exact fit_str (G.nm p hp).2
theorem names_lc {R : Rk} {x : Str} {s3 s4 s5 s6 : Sl} {Q : List D → Dl.Env → Prop} {E : Er → Dl.Env → Prop} (h : R.length < 900) (k : ∀ s4, Q (R.map fun p => D.str p.1) (sE R x s3 s4 s5 s6)) :
    lcM [4] (gSet 4) mYes (mOp (op2 dIxT) (mVar 4) (mC (.int 0))) (R.map fun p => D.tup [.str p.1, .int p.2]) [] (sE R x s3 s4 s5 s6) Q E := by
  refine lc_inv (fun i acc r => acc = (R.take i).map (fun p => D.str p.1) ∧ ∃ s4, r = sE R x s3 s4 s5 s6) ⟨rfl, _, rfl⟩ ?_ ?_
  · rintro i d acc r hd ⟨rfl, s, rfl⟩
    obtain ⟨p, ep, rfl⟩ := map_at hd
    have hi := get_lt ep
    refine ⟨small_line (by rw [List.length_map, List.length_take]; omega), ?_, _, rfl⟩
    rw [take_snoc ep, List.map_append]
    rfl
  · rintro acc r ⟨rfl, s, rfl⟩
    rw [List.length_map, List.take_length]
    exact k s
theorem same_ok {R : Rk} {x : Str} {Q : Sl → List Sl → Prop} {E : Er → List Sl → Prop} (G : RkI R) (k : Q (.sh (.bl true)) [.sh (rkD R), .sh (rwsD R), .sh (.str x)]) : ds_law_same.wp [.sh (rkD R), .sh (rwsD R), .sh (.str x)] Q E := by
  refine mh_law_same ?_
  refine df_in (sE R x .un .un .un .un) rfl rfl ?_
  have hf := G.few
  have fn := fit_names G
  refine cut (fun r => r = sE R x (.ow (.ol .fr) (.lst (R.map fun p => D.str p.1))) .un .un .un) ?_ ?_
  · refine names_rk ?_
    exact rfl
  rintro _ rfl
  refine cut (fun r => r = sE R x (.ow (.ol .fr) (.lst (R.map fun p => D.str p.1))) .un .un .un) ?_ ?_
  · refine names_lc (by omega) fun s4 => ?_
    refine ⟨⟨fn, fn⟩, ?_⟩
    rw [eq_refl fn]
    exact rfl
  rintro _ rfl
  refine cut (fun r => r = sE R x (.ow (.ol .fr) (.lst ((R.map fun p => D.str p.1) ++ [.str "zzz"]))) .un .un .un) ?_ ?_
  · exact ⟨small_line (by rw [List.length_map]; omega), rfl⟩
  rintro _ rfl
  generalize (Sl.ow (.ol .fr) (.lst ((R.map fun p => D.str p.1) ++ [.str "zzz"]))) = t3
  refine cut (fun r => ∃ s4, r = sE R x t3 s4 .un .un) ?_ ?_
  · refine names_rk ?_
    refine names_lc (by omega) fun s4 => ?_
    refine ⟨⟨fn, fn⟩, ?_⟩
    rw [eq_refl fn]
    refine len_rk ?_
    refine ⟨by omega, by omega, ?_⟩
    have el : (((R.map fun p => D.tup [.str p.1, .int p.2]).length : Nat) : Int) = ((R.length : Nat) : Int) := by rw [List.length_map]
    refine if2 (fun c => ?_) (fun c => ⟨_, rfl⟩)
    exfalso
    have c1 : ¬ ((R.length : Nat) : Int) = (((R.map fun p => D.tup [.str p.1, .int p.2]).length : Nat) : Int) := df (by rw [Bool.true_xor] at c; simpa using c)
    exact c1 el.symm
  rintro _ ⟨s4, rfl⟩
  refine cut (fun r => ∃ s5 s6, r = sE R x t3 s4 s5 s6) ?_ ?_
  · refine for_inv (fun i r => ∃ s5 s6, r = sE R x t3 s4 s5 s6) ⟨_, _, rfl⟩ ?_ (fun r h => (by exact h))
    rintro i d r hd ⟨s5, s6, rfl⟩
    obtain ⟨p, ep, rfl⟩ := map_at hd
    have eg := rkG_at G.nd ep
    show m_law_same_L1.wp (sE R x t3 s4 (.sh (.str p.1)) (.sh (.int p.2))) _
    refine of_rk (fun l e => ?_) (fun e => by rw [eg] at e; cases e)
    rw [eg] at e
    cases e
    refine if2 (fun c => ?_) (fun _ => ?_)
    · exfalso
      have c1 : (true ^^ decide (p.2 = p.2)) = true := c
      rw [decide_eq_true rfl] at c1
      cases c1
    refine in_rk ?_
    rw [eg]
    exact ⟨_, _, rfl⟩
  rintro _ ⟨s5, s6, rfl⟩
  refine cut (fun r => ∃ s4, r = sE R x t3 s4 s5 s6) ?_ ?_
  · refine names_lc (by omega) fun s4 => ?_
    have fl : (R.map fun p => D.str p.1).all D.flat = true := by
      rw [List.all_eq_true]
      intro d hd
      obtain ⟨p, _, rfl⟩ := List.mem_map.mp hd
      rfl
    refine ⟨⟨rfl, fl⟩, ?_⟩
    refine if2 (fun c => ?_) (fun c => ⟨_, rfl⟩)
    have c1 : (true ^^ ((R.map fun p => D.str p.1).any fun y => D.eq y (.str x))) = true := c
    rw [pin_names] at c1
    have hn : rkG R x = none := by
      cases h : rkG R x with
      | none => rfl
      | some l => rw [h] at c1; cases c1
    refine in_rk ?_
    rw [hn]
    exact unknown_ok hn (by exact k)
  rintro _ ⟨s4, rfl⟩
  exact k
theorem dueR_of {kv : Rk} (hn : (kv.map (·.1)).Nodup) (hb : ∀ p ∈ kv, nmB p.1 = true) (h8 : kv.length ≤ 8) {i : Nat} {p : Str × Int} (e : kv[i]? = some p) : dueR (kv.take i) p.1 p.2 = if p.2 < 0 then some (0, .int p.2) else none := by
  have hi := get_lt e
  have g : rkG (kv.take i) p.1 = none := rkG_none.mpr fun q hq z => by
    obtain ⟨j, hj⟩ := List.getElem?_of_mem hq
    have hjl := get_lt hj
    rw [List.length_take] at hjl
    rw [List.getElem?_take, if_pos (by omega)] at hj
    have e1 : (kv.map (·.1))[j]? = some q.1 := by rw [List.getElem?_map, hj]; rfl
    have e2 : (kv.map (·.1))[i]? = some p.1 := by rw [List.getElem?_map, e]; rfl
    rw [z, ← e2] at e1
    have := (List.getElem?_inj (by rw [List.length_map]; omega) hn).mp e1
    omega
  unfold dueR
  rw [if_neg (by rw [hb p (List.mem_of_getElem? e)]; decide), g, if_neg (by decide), List.length_take]
  split
  · rfl
  · rw [if_neg (by omega)]
theorem init_kw {v : V} {kv : Rk} {Q : Sl → List Sl → Prop} {E : Er → List Sl → Prop} (hx : ∀ p ∈ kv, p.1.length < 100) (hn : (kv.map (·.1)).Nodup) (hb : ∀ p ∈ kv, nmB p.1 = true) (h8 : kv.length ≤ 8)
    (k : (∀ p : Str × Int, p ∈ kv → 0 ≤ p.2) → Q (.sh .non) [.le v rkS (rkD kv), .sh (.dil (rkE kv))]) (ke : ∀ (R : Rk) (i : Nat) (p : Str × Int), kv[i]? = some p → p.2 < 0 → E ⟨0, .int p.2⟩ [.le v rkS (rkD R), .sh (.dil (rkE kv))]) :
    ds_RackU_initU.wp [.le v (.oo []) (.obj 2 []), .sh (.dil (rkE kv))] Q E := by
  refine init_any hx (by omega) (fun z => absurd z (by omega)) (fun _ h => k fun p hp => ?_) (fun _ i p c d e _ hd => ?_)
  · obtain ⟨i, e⟩ := List.getElem?_of_mem hp
    have := h i p e
    rw [dueR_of hn hb h8 e] at this
    split at this
    · cases this
    · omega
  · rw [dueR_of hn hb h8 e] at hd
    split at hd
    · rename_i z
      cases hd
      exact ke _ i p e z
    · cases hd
theorem init_many {v : V} {kv : Rk} {Q : Sl → List Sl → Prop} {E : Er → List Sl → Prop} (hx : ∀ p ∈ kv, p.1.length < 100) (h9 : kv.length < 900) (h8 : 8 < kv.length)
    (k : E ⟨5, .int ((kv.length : Nat) : Int)⟩ [.le v (.oo []) (.obj 2 []), .sh (.dil (rkE kv))]) :
    ds_RackU_initU.wp [.le v (.oo []) (.obj 2 []), .sh (.dil (rkE kv))] Q E :=
  init_any hx h9 (fun _ => k) (fun z => absurd z (by omega)) (fun z => absurd z (by omega))
def kv7 (v r : Int) : Rk := [("ash", v), ("fir", v), ("oak", 1), ("elm", 1), ("yew", 1), ("ivy", 1), ("alder", 1), ("rowan", r)]
theorem kw7 {v r : Int} {ρ : Dl.Env} {Q : Sl → Dl.Env → Prop} {E : Er → Dl.Env → Prop} (hv : 0 ≤ v) (k : 0 ≤ r → ∀ s, Q s ρ) (ke : r < 0 → E ⟨0, .int r⟩ ρ) :
    (newI 2 (packE 1 ["ash", "fir", "oak", "elm", "yew", "ivy", "alder", "rowan"] ds_RackU_initU) [] [.s (.sh (.int v)), .s (.sh (.int v)), .s (.sh (.int 1)), .s (.sh (.int 1)), .s (.sh (.int 1)), .s (.sh (.int 1)), .s (.sh (.int 1)), .s (.sh (.int r))]).wp ρ Q E := by
  have hl : ∀ p ∈ kv7 v r, p.1.length < 100 := by
    intro p hp
    have : p.1 ∈ (kv7 v r).map (·.1) := List.mem_map_of_mem hp
    exact (by decide +kernel : ∀ x ∈ (kv7 0 0).map (·.1), x.length < 100) _ this
  have hb : ∀ p ∈ kv7 v r, nmB p.1 = true := by
    intro p hp
    have : p.1 ∈ (kv7 v r).map (·.1) := List.mem_map_of_mem hp
    exact (by decide +kernel : ∀ x ∈ (kv7 0 0).map (·.1), nmB x = true) _ this
  have hn : ((kv7 v r).map (·.1)).Nodup := (by decide +kernel : ((kv7 0 0).map (·.1)).Nodup)
  rw [newI_eq]
  refine fun u => ?_
  refine ⟨rfl, ?_⟩
  refine init_kw (kv := kv7 v r) hl hn hb (by show 8 ≤ 8; omega) (fun h => ?_) (fun R i p e hp => ?_)
  · exact k (h (("rowan" : Str), r) (by simp [kv7])) _
  · have hm : p.2 = r := by
      have hm := List.mem_of_getElem? e
      simp only [kv7, List.mem_cons, List.not_mem_nil, or_false] at hm
      rcases hm with e | e | e | e | e | e | e | e <;> have e2 := congrArg Prod.snd e <;> simp only at e2 <;> omega
    rw [hm] at hp ⊢
    exact ke hp
theorem kw9 {v r : Int} {ρ : Dl.Env} {Q : Sl → Dl.Env → Prop} {E : Er → Dl.Env → Prop} (ke : E ⟨5, .int 9⟩ ρ) :
    (newI 2 (packE 1 ["ash", "fir", "oak", "elm", "yew", "ivy", "alder", "rowan", "lime"] ds_RackU_initU) [] [.s (.sh (.int v)), .s (.sh (.int v)), .s (.sh (.int 1)), .s (.sh (.int 1)), .s (.sh (.int 1)), .s (.sh (.int 1)), .s (.sh (.int 1)), .s (.sh (.int r)), .s (.sh (.int 3))]).wp ρ Q E := by
  rw [newI_eq]
  refine fun u => ?_
  refine ⟨rfl, ?_⟩
  refine init_many (kv := [("ash", v), ("fir", v), ("oak", 1), ("elm", 1), ("yew", 1), ("ivy", 1), ("alder", 1), ("rowan", r), ("lime", 3)]) (fun p hp => ?_) (by show 9 < 900; omega) (by show 8 < 9; omega) ?_
  · have : p.1 ∈ (["ash", "fir", "oak", "elm", "yew", "ivy", "alder", "rowan", "lime"] : List Str) := List.mem_map_of_mem (f := Prod.fst) hp
    exact (by decide +kernel : ∀ x ∈ (["ash", "fir", "oak", "elm", "yew", "ivy", "alder", "rowan", "lime"] : List Str), x.length < 100) _ this
  · exact ke
theorem keywords_ok {v r : Int} {Q : Sl → List Sl → Prop} {E : Er → List Sl → Prop} (hv : 0 ≤ v) (k : Q (.sh (.tup (if r < 0 then [.str "BadNumber", .int r] else [.str "TooMany", .int 9]))) [.sh (.int v), .sh (.int r)]) : ds_law_keywords.wp [.sh (.int v), .sh (.int r)] Q E := by
  refine mh_law_keywords ?_
  refine df_in [.sh (.int v), .sh (.int r), .un] rfl rfl ?_
  refine kw7 hv (fun h s => ?_) (fun h => ?_)
  · refine kw9 ?_
    rw [if_neg (by omega)] at k
    exact fun a dd => ⟨rfl, rfl, rfl, rfl, k⟩
  · rw [if_pos h] at k
    exact fun a dd => ⟨rfl, rfl, rfl, rfl, k⟩
theorem kwB {ρ : Dl.Env} {Q : Sl → Dl.Env → Prop} {E : Er → Dl.Env → Prop} (ke : E ⟨5, .int 9⟩ ρ) :
    (newI 2 (packE 1 ["oak", "ash", "fir", "elm", "yew", "ivy", "alder", "rowan", "lime"] ds_RackU_initU) [] [.s (.sh (.int (-1))), .s (.sh (.int 1)), .s (.sh (.int 1)), .s (.sh (.int 1)), .s (.sh (.int 1)), .s (.sh (.int 1)), .s (.sh (.int 1)), .s (.sh (.int 1)), .s (.sh (.int 1))]).wp ρ Q E := by
  rw [newI_eq]
  refine fun u => ?_
  refine ⟨rfl, ?_⟩
  refine init_many (kv := [("oak", (-1)), ("ash", 1), ("fir", 1), ("elm", 1), ("yew", 1), ("ivy", 1), ("alder", 1), ("rowan", 1), ("lime", 1)]) (by decide +kernel) (by decide) (by decide) ?_
  exact ke
theorem kwC {ρ : Dl.Env} {Q : Sl → Dl.Env → Prop} {E : Er → Dl.Env → Prop} (ke : E ⟨5, .int 10⟩ ρ) :
    (newI 2 (packE 1 ["Oak", "ash", "fir", "elm", "yew", "ivy", "alder", "rowan", "lime", "holly"] ds_RackU_initU) [] [.s (.sh (.int 1)), .s (.sh (.int 1)), .s (.sh (.int 1)), .s (.sh (.int 1)), .s (.sh (.int 1)), .s (.sh (.int 1)), .s (.sh (.int 1)), .s (.sh (.int 1)), .s (.sh (.int 1)), .s (.sh (.int 1))]).wp ρ Q E := by
  rw [newI_eq]
  refine fun u => ?_
  refine ⟨rfl, ?_⟩
  refine init_many (kv := [("Oak", 1), ("ash", 1), ("fir", 1), ("elm", 1), ("yew", 1), ("ivy", 1), ("alder", 1), ("rowan", 1), ("lime", 1), ("holly", 1)]) (by decide +kernel) (by decide) (by decide) ?_
  exact ke
theorem kwA {ρ : Dl.Env} {Q : Sl → Dl.Env → Prop} {E : Er → Dl.Env → Prop} (ke : E ⟨1, .str "Ash"⟩ ρ) :
    (newI 2 (packE 1 ["oak", "Ash"] ds_RackU_initU) [] [.s (.sh (.int 1)), .s (.sh (.int (-1)))]).wp ρ Q E := by
  rw [newI_eq]
  refine fun u => ?_
  refine ⟨rfl, ?_⟩
  have d0 : dueR [] "oak" 1 = none := by rfl
  have d1 : dueR [("oak", 1)] "Ash" (-1) = some (1, .str "Ash") := by rfl
  refine init_any (kv := [("oak", 1), ("Ash", -1)]) (by decide +kernel) (by decide) (fun z => absurd z (by decide)) (fun _ h => ?_) (fun _ i p c d e _ hd => ?_)
  · have := d1.symm.trans (h 1 _ rfl)
    cases this
  · match i with
    | 0 =>
      cases e
      have := d0.symm.trans hd
      cases this
    | 1 =>
      cases e
      have := d1.symm.trans hd
      cases this
      exact ke
    | (n+2) => cases e
theorem refused_ok {i : Nat} {Q : Sl → List Sl → Prop} {E : Er → List Sl → Prop} (hi : i < 3) (k : Q (.sh (.tup (match i with | 0 => [.str "BadName", .str "Ash"] | 1 => [.str "TooMany", .int 9] | _ => [.str "TooMany", .int 10]))) [.sh (.int ((i : Nat) : Int))]) : ds_law_refused.wp [.sh (.int ((i : Nat) : Int))] Q E := by
  refine mh_law_refused ?_
  refine df_in [.sh (.int ((i : Nat) : Int)), .un] rfl rfl ?_
  match i, hi with
  | 0, _ =>
    refine kwA ?_
    exact fun a dd => ⟨rfl, rfl, rfl, rfl, k⟩
  | 1, _ =>
    refine kwB ?_
    exact fun a dd => ⟨rfl, rfl, rfl, rfl, k⟩
  | 2, _ =>
    refine kwC ?_
    exact fun a dd => ⟨rfl, rfl, rfl, rfl, k⟩
def m_law_L1_6 : MS := (sIf (tBorM (mNot (mTest (mCall ds_law_same [] (bCo (mVar 2) (bCo (mVar 3) (bCo (mVar 7) bNo)))))))
      (sRet (mC (.bl false)))
      sNext)
def m_law_L1_5 : MS := sSeq (sIf (mTest (mOp (op2 (dEq false)) (mOp (op2 dIxT) (mVar 9) (mC (.int 0))) (mC (.str "put"))))
      (sDrop (mApp 3 (mTup (mCons (mVar 7) (mCons (mVar 8) mNil)))))
      sNext) m_law_L1_6
def m_law_L1_4 : MS := sSeq (sIf (mTest (mOp (op2P (pEqD true)) (mCall ds_law_put [] (bLe 2 (bCo (mVar 7) (bCo (mVar 8) bNo)))) (mVar 9)))
      (sRet (mC (.bl false)))
      sNext) m_law_L1_5
def m_law_L1_3 : MS := sSeq (sAsg (mCall ds_law_due [] (bLe 3 (bCo (mVar 7) (bCo (mVar 8) bNo)))) (gSet 9)) m_law_L1_4
def m_law_L1_2 : MS := sSeq (sIf (mTest (mOp (op2 (dEq false)) (mTake 1 (mC (.int 6))) (mC (.int 1))))
      (sAsg (mOp (op2 dSub) (mUn (op1 dNeg) (mC (.int 1))) (mVar 8)) (gSet 8))
      sNext) m_law_L1_3
def m_law_L1_1 : MS := sSeq (sAsg (mTake 1 (mOp (op2 dIxL) (mFz (mLst (mCons (mC (.int 5)) (mCons (mC (.int 100000000000000000000)) mNil)))) (mTake 1 (mC (.int 2))))) (gSet 8)) m_law_L1_2
def m_law_L1 : MS := sSeq (sAsg (mCall ds_law_name [] (bLe 1 (bLe 3 bNo))) (gSet 7)) m_law_L1_1
def m_law_9 : MS := (sRet (mAndV (mOp (op2P (pEqD false)) (mCall ds_law_keywords [] (bCo (mVar 11) (bCo (mVar 11) bNo))) (mTup (mCons (mC (.str "TooMany")) (mCons (mC (.int 9)) mNil)))) (mOp (op2 (dEq false)) (mUn (opLenO 2 ds_RackU_lenU) (mFz (mMake 2 (packK 1 ds_RackU_initU) [] bNo))) (mC (.int 0)))))
def m_law_8 : MS := sSeq (sIf (mTest (mOp (op2P (pEqD true)) (mCall ds_law_keywords [] (bCo (mVar 11) (bCo (mOp (op2 dSub) (mUn (op1 dNeg) (mC (.int 1))) (mVar 11)) bNo))) (mTup (mCons (mC (.str "BadNumber")) (mCons (mOp (op2 dSub) (mUn (op1 dNeg) (mC (.int 1))) (mVar 11)) mNil)))))
      (sRet (mC (.bl false)))
      sNext) m_law_9
def m_law_7 : MS := sSeq (sAsg (mTake 1 (mC (.int 9))) (gSet 11)) m_law_8
def m_law_6 : MS := sSeq (sIf (mTest (mOp (op2P (pEqD true)) (mFz (mLc0 [10] (iR1 (mC (.int 3))) (gSet 10) mYes (mCall ds_law_refused [] (bCo (mVar 10) bNo)))) (mFz (mLst (mCons (mTup (mCons (mC (.str "BadName")) (mCons (mC (.str "Ash")) mNil))) (mCons (mTup (mCons (mC (.str "TooMany")) (mCons (mC (.int 9)) mNil))) (mCons (mTup (mCons (mC (.str "TooMany")) (mCons (mC (.int 10)) mNil))) mNil)))))))
      (sRet (mC (.bl false)))
      sNext) m_law_7
def m_law_5 : MS := sSeq (sFor (iR1 (mTake 1 (mC (.int 11)))) (gSet 6) m_law_L1) m_law_6
def m_law_4 : MS := sSeq (sIf (tBorM (mNot (mTest (mCall ds_law_same [] (bCo (mVar 2) (bCo (mVar 3) (bCo (mC (.str "oak")) bNo)))))))
      (sRet (mC (.bl false)))
      sNext) m_law_5
def m_law_3 : MS := sSeq (sIf (mTest (mOp (op2 (dEq false)) (mTake 1 (mC (.int 2))) (mC (.int 1))))
      (sSeq (sAsg (mTake 1 (mC (.int 100000000000000000000))) (gSet 4))
      (sSeq (sAsg (mTake 1 (mC (.int 100000000000000000000))) (gSet 5))
      (sSeq (sAsg (mMake 2 (packE 1 ["birch", "ash"] ds_RackU_initU) [] (bCo (mVar 4) (bCo (mVar 5) bNo))) (gSet 2))
      (sAsg (mLst (mCons (mTup (mCons (mC (.str "birch")) (mCons (mVar 4) mNil))) (mCons (mTup (mCons (mC (.str "ash")) (mCons (mVar 5) mNil))) mNil))) (gSet 3)))))
      sNext) m_law_4
def m_law_2 : MS := sSeq (sAsg (mLst mNil) (gSet 3)) m_law_3
def m_law_1 : MS := sSeq (sAsg (mMake 2 (packK 1 ds_RackU_initU) [] bNo) (gSet 2)) m_law_2
def m_law : MS := sSeq (sAsg (mBox (mVar 0)) (gSet 1)) m_law_1
theorem dx_law : ∃ R : M Sl, R = defM 1 12 m_law := ⟨_, rfl⟩
@[irreducible] noncomputable def ds_law : M Sl := Classical.choose dx_law
theorem dq_law : ds_law = defM 1 12 m_law := by unfold ds_law; exact Classical.choose_spec dx_law
theorem hm_law : ∀ as Q E, ds_law.wp as Q E → (defM 1 12 m_law).wp as Q E := by rw [dq_law]; exact fun _ _ _ w => w
theorem mh_law {as : List Sl} {Q : Sl → List Sl → Prop} {E : Er → List Sl → Prop} (h : (defM 1 12 m_law).wp as Q E) : ds_law.wp as Q E := by rw [dq_law]; exact h
theorem hl_law : ∀ as Q E, ds_law.wp as Q E → as.length = 1 := fun as Q E w => defM_len as Q E (hm_law as Q E w)
theorem RkI.put {R : Rk} (G : RkI R) {x : Str} {l : Int} (hx : NmO x) (h : dueR R x l = none) : RkI (R ++ [(x, l)]) := by
  unfold dueR at h
  split at h
  · cases h
  split at h
  · cases h
  rename_i z
  split at h
  · cases h
  split at h
  · cases h
  rename_i h9
  refine ⟨by rw [List.length_append]; show R.length + 1 ≤ 8; omega, fun p hp => ?_, ?_⟩
  · rcases List.mem_append.mp hp with hp | hp
    · exact G.nm p hp
    · rw [List.mem_singleton.mp hp]; exact hx
  · rw [List.map_append]
    refine List.nodup_append.mpr ⟨G.nd, by simp, fun a ha b hb => ?_⟩
    obtain ⟨p, hp, rfl⟩ := List.mem_map.mp ha
    have hb : b = x := by simpa using hb
    rw [hb]
    have hn : rkG R x = none := by
      cases q : rkG R x with
      | none => rfl
      | some y => rw [q] at z; exact absurd rfl z
    exact rkG_none.mp hn p hp
theorem fit_due {R : Rk} {x : Str} {l : Int} (G : RkI R) (hx : NmO x) : (dueD R x l).fit 64 := by
  have two : ∀ {y : Str} {d : D}, PyData.strOk y = true → d.fit 63 → (D.tup [.str y, d]).fit 64 := fun hy hd => fit_tup (n := 63) fun e he => by
    rcases List.mem_cons.mp he with rfl | he
    · exact fit_str hy
    · rw [List.mem_singleton.mp he]; exact hd
  have s1 : PyData.strOk (eNm 1) = true := by decide +kernel
  have s2 : PyData.strOk (eNm 2) = true := by decide +kernel
  have s0 : PyData.strOk (eNm 0) = true := by decide +kernel
  have s5 : PyData.strOk (eNm 5) = true := by decide +kernel
  have s6 : PyData.strOk "put" = true := by decide +kernel
  unfold dueD
  split
  · rename_i c d h
    unfold dueR at h
    split at h
    · cases h; exact two s1 (fit_str hx.2)
    split at h
    · cases h; exact two s2 (fit_str hx.2)
    split at h
    · cases h; exact two s0 (fit_int _)
    split at h
    · cases h; exact two s5 (fit_int _)
    · cases h
  · exact two s6 fit_non
theorem kw2 {a b : Int} {ρ : Dl.Env} {Q : Sl → Dl.Env → Prop} {E : Er → Dl.Env → Prop} (ha : 0 ≤ a) (hb : 0 ≤ b) (k : Q (.ow rkS (rkD [("birch", a), ("ash", b)])) ρ) :
    (newI 2 (packE 1 ["birch", "ash"] ds_RackU_initU) [] [.s (.sh (.int a)), .s (.sh (.int b))]).wp ρ Q E := by
  rw [newI_eq]
  refine fun u => ?_
  refine ⟨rfl, ?_⟩
  refine init_kw (kv := [("birch", a), ("ash", b)]) (fun p hp => ?_) (by show ([("birch" : Str), "ash"]).Nodup; decide +kernel) (fun p hp => ?_) (by show 2 ≤ 8; omega) (fun h => ?_) (fun R i p e hp => ?_)
  · have : p.1 ∈ (["birch", "ash"] : List Str) := List.mem_map_of_mem (f := Prod.fst) hp
    exact (by decide +kernel : ∀ x ∈ (["birch", "ash"] : List Str), x.length < 100) _ this
  · have : p.1 ∈ (["birch", "ash"] : List Str) := List.mem_map_of_mem (f := Prod.fst) hp
    exact (by decide +kernel : ∀ x ∈ (["birch", "ash"] : List Str), nmB x = true) _ this
  · exact k
  · exfalso
    have hm := List.mem_of_getElem? e
    simp only [List.mem_cons, List.not_mem_nil, or_false] at hm
    rcases hm with e | e <;> have e2 := congrArg Prod.snd e <;> simp only at e2 <;> omega
abbrev lE (s0 : Sl) (R : Rk) (s4 s5 s6 s7 s8 s9 s10 s11 : Sl) : Dl.Env := [s0, .bx, .ow rkS (rkD R), .ow (.ol .fr) (rwsD R), s4, s5, s6, s7, s8, s9, s10, s11]
theorem step_ok {s0 : Sl} {R : Rk} {s4 s5 s6 s7 s8 s9 s10 s11 : Sl} {M : MEnds} (G : RkI R) (k : ∀ R s7 s8 s9, RkI R → M.nx (lE s0 R s4 s5 s6 s7 s8 s9 s10 s11)) : m_law_L1.wp (lE s0 R s4 s5 s6 s7 s8 s9 s10 s11) M := by
  refine cut (fun r => ∃ x, NmO x ∧ r = lE s0 R s4 s5 s6 (.sh (.str x)) s8 s9 s10 s11) ?_ ?_
  · refine fun v u => ?_
    refine name_ok G fun x hx => ?_
    exact ⟨x, hx, rfl⟩
  rintro _ ⟨x, hx, rfl⟩
  refine cut (fun r => ∃ l, r = lE s0 R s4 s5 s6 (.sh (.str x)) (.sh (.int l)) s9 s10 s11) ?_ ?_
  · refine ⟨⟨by decide, by decide⟩, fun t t0 t1 => ?_⟩
    have : t = 0 ∨ t = 1 := by omega
    rcases this with rfl | rfl
    · exact ⟨⟨by decide, by decide⟩, fun l l0 l1 => ⟨_, rfl⟩⟩
    · exact ⟨⟨by decide, by decide⟩, fun l l0 l1 => ⟨_, rfl⟩⟩
  rintro _ ⟨l0, rfl⟩
  refine cut (fun r => ∃ l, r = lE s0 R s4 s5 s6 (.sh (.str x)) (.sh (.int l)) s9 s10 s11) ?_ ?_
  · refine ⟨⟨by decide, by decide⟩, fun t t0 t1 => ?_⟩
    exact if2 (fun _ => ⟨_, rfl⟩) (fun _ => ⟨_, rfl⟩)
  rintro _ ⟨l, rfl⟩
  refine cut (fun r => r = lE s0 R s4 s5 s6 (.sh (.str x)) (.sh (.int l)) (.sh (dueD R x l)) s10 s11) ?_ ?_
  · refine fun v => ?_
    refine due_ok G hx ?_
    exact rfl
  rintro _ rfl
  refine cut (fun r => r = [s0, .bx, .ow rkS (rkD (afterR R x l)), .ow (.ol .fr) (rwsD R), s4, s5, s6, .sh (.str x), .sh (.int l), .sh (dueD R x l), s10, s11]) ?_ ?_
  · refine fun v => ?_
    refine lput_ok G hx ?_
    have f := fit_due (l := l) G hx
    refine ⟨⟨f, f⟩, ?_⟩
    rw [eq_refl f]
    exact rfl
  rintro _ rfl
  have hf := G.few
  refine cut (fun r => RkI (afterR R x l) ∧ r = lE s0 (afterR R x l) s4 s5 s6 (.sh (.str x)) (.sh (.int l)) (.sh (dueD R x l)) s10 s11) ?_ ?_
  · cases h : dueR R x l with
    | none =>
      have ed : dueD R x l = .tup [.str "put", .non] := by unfold dueD; rw [h]
      have ea : afterR R x l = R ++ [(x, l)] := by unfold afterR; rw [h]
      rw [ed, ea]
      have er : rwsD (R ++ [(x, l)]) = D.lst ((R.map fun p => .tup [.str p.1, .int p.2]) ++ [.tup [.str x, .int l]]) := by unfold rwsD; rw [List.map_append]; rfl
      refine ⟨small_line (by rw [List.length_map]; omega), G.put hx h, ?_⟩
      refine Eq.trans ?_ (congrArg (fun d => ([s0, .bx, .ow rkS (rkD (R ++ [(x, l)])), .ow (.ol .fr) d, s4, s5, s6, .sh (.str x), .sh (.int l), .sh (.tup [.str "put", .non]), s10, s11] : Dl.Env)) er.symm)
      exact rfl
    | some cd =>
      obtain ⟨c, d⟩ := cd
      have ed : dueD R x l = .tup [.str (eNm c), d] := by unfold dueD; rw [h]
      have ea : afterR R x l = R := by unfold afterR; rw [h]
      rw [ed, ea]
      have hne : ∀ c, (eNm c = "put") = False := fun c => by
        refine eq_false ?_
        unfold eNm
        split <;> decide +kernel
      refine if2 (fun z => ?_) (fun _ => ⟨G, rfl⟩)
      exfalso
      have z1 : (false ^^ decide (eNm c = "put")) = true := z
      rw [Bool.false_xor, decide_eq_true_eq] at z1
      rw [hne] at z1
      exact z1
  rintro _ ⟨G', rfl⟩
  refine same_ok G' ?_
  exact k _ _ _ _ G'
theorem law_true : ds_law.wp [.sh .scr] (fun r _ => r = .sh (.bl true)) (fun _ _ => False) := by
  refine mh_law ?_
  refine df_in [.sh .scr, .un, .un, .un, .un, .un, .un, .un, .un, .un, .un, .un] rfl rfl ?_
  refine cut (fun r => r = [.sh .scr, .bx, .un, .un, .un, .un, .un, .un, .un, .un, .un, .un]) rfl ?_
  rintro _ rfl
  refine cut (fun r => r = [.sh .scr, .bx, .ow rkS (rkD []), .un, .un, .un, .un, .un, .un, .un, .un, .un]) ?_ ?_
  · exact new_rack rfl
  rintro _ rfl
  refine cut (fun r => r = lE (.sh .scr) [] .un .un .un .un .un .un .un .un) rfl ?_
  rintro _ rfl
  refine cut (fun r => ∃ R s4 s5, RkI R ∧ r = lE (.sh .scr) R s4 s5 .un .un .un .un .un .un) ?_ ?_
  · refine ⟨⟨by decide, by decide⟩, fun t t0 t1 => ?_⟩
    refine if2 (fun _ => ?_) (fun _ => ⟨[], _, _, ⟨by decide, fun _ h => (by cases h), List.nodup_nil⟩, rfl⟩)
    refine ⟨⟨by decide, by decide⟩, fun a a0 a1 => ?_⟩
    refine ⟨⟨by decide, by decide⟩, fun b b0 b1 => ?_⟩
    have N : RkI [(("birch" : Str), a), (("ash" : Str), b)] := ⟨by show 2 ≤ 8; omega, by
      intro p hp
      have : p.1 ∈ (["birch", "ash"] : List Str) := List.mem_map_of_mem (f := Prod.fst) hp
      exact ⟨(by decide +kernel : ∀ x ∈ (["birch", "ash"] : List Str), x.length < 50) _ this, (by decide +kernel : ∀ x ∈ (["birch", "ash"] : List Str), PyData.strOk x = true) _ this⟩, (by decide +kernel : (["birch", "ash"] : List Str).Nodup)⟩
    refine kw2 a0 b0 ?_
    exact ⟨[("birch", a), ("ash", b)], _, _, N, rfl⟩
  rintro _ ⟨R, s4, s5, G, rfl⟩
  refine cut (fun r => r = lE (.sh .scr) R s4 s5 .un .un .un .un .un .un) ?_ ?_
  · refine same_ok G ?_
    exact rfl
  rintro _ rfl
  refine cut (fun r => ∃ R s6 s7 s8 s9, RkI R ∧ r = lE (.sh .scr) R s4 s5 s6 s7 s8 s9 .un .un) ?_ ?_
  · refine ⟨⟨by decide, by decide⟩, fun n n0 n1 => ?_⟩
    refine ⟨⟨by omega, by omega⟩, ?_⟩
    refine for_inv (fun i r => ∃ R s6 s7 s8 s9, RkI R ∧ r = lE (.sh .scr) R s4 s5 s6 s7 s8 s9 .un .un) ⟨R, _, _, _, _, G, rfl⟩ ?_ (fun r h => (by exact h))
    rintro i d r hd ⟨R, s6, s7, s8, s9, G, rfl⟩
    obtain ⟨hi, rfl⟩ := rg_at hd
    show m_law_L1.wp (lE (.sh .scr) R s4 s5 (.sh (.int (0 + (i : Nat)))) s7 s8 s9 .un .un) _
    refine step_ok G fun R s7 s8 s9 G => ?_
    exact ⟨R, _, _, _, _, G, rfl⟩
  rintro _ ⟨R, s6, s7, s8, s9, G, rfl⟩
  refine cut (fun r => ∃ s10, r = lE (.sh .scr) R s4 s5 s6 s7 s8 s9 s10 .un) ?_ ?_
  · refine ⟨⟨by decide, by decide⟩, ?_⟩
    have hrg : ∃ al, al = rgD 0 (Int.toNat 3) := ⟨_, rfl⟩
    obtain ⟨al, hal⟩ := hrg
    rw [← hal]
    refine lc_inv (all := al) (fun i acc r => acc = ([D.tup [.str "BadName", .str "Ash"], .tup [.str "TooMany", .int 9], .tup [.str "TooMany", .int 10]]).take i ∧ ∃ s10, r = lE (.sh .scr) R s4 s5 s6 s7 s8 s9 s10 .un) ⟨rfl, _, rfl⟩ ?_ ?_
    · rintro i d acc r hd ⟨rfl, s10, rfl⟩
      rw [hal] at hd
      obtain ⟨hi, rfl⟩ := rg_at hd
      have e0 : (0 : Int) + ((i : Nat) : Int) = ((i : Nat) : Int) := Int.zero_add _
      rw [e0]
      refine refused_ok hi ?_
      refine ⟨small_line (by rw [List.length_take]; simp; omega), ?_, _, rfl⟩
      match i, hi with
      | 0, _ => rfl
      | 1, _ => rfl
      | 2, _ => rfl
    · rintro acc r ⟨rfl, s10, rfl⟩
      rw [hal]
      have f : (D.lst [D.tup [.str "BadName", .str "Ash"], .tup [.str "TooMany", .int 9], .tup [.str "TooMany", .int 10]]).fit 64 := by
        refine fit_lst (n := 63) fun d hd => ?_
        have sa : PyData.strOk "BadName" = true := by decide +kernel
        have sb : PyData.strOk "Ash" = true := by decide +kernel
        have sc : PyData.strOk "TooMany" = true := by decide +kernel
        simp only [List.mem_cons, List.not_mem_nil, or_false] at hd
        rcases hd with rfl | rfl | rfl <;> refine fit_tup (n := 62) fun e he => ?_ <;> simp only [List.mem_cons, List.not_mem_nil, or_false] at he <;> rcases he with rfl | rfl
        · exact fit_str sa
        · exact fit_str sb
        · exact fit_str sc
        · exact fit_int _
        · exact fit_str sc
        · exact fit_int _
      refine ⟨⟨f, f⟩, ?_⟩
      exact ⟨_, rfl⟩
  rintro _ ⟨s10, rfl⟩
  refine cut (fun r => ∃ v : Int, 0 ≤ v ∧ r = lE (.sh .scr) R s4 s5 s6 s7 s8 s9 s10 (.sh (.int v))) ?_ ?_
  · exact ⟨⟨by decide, by decide⟩, fun v v0 v1 => ⟨v, v0, rfl⟩⟩
  rintro _ ⟨v, v0, rfl⟩
  have two : ∀ {y : Str} {i : Int}, PyData.strOk y = true → (D.tup [.str y, .int i]).fit 64 := fun hy => fit_tup (n := 63) fun e he => by
    rcases List.mem_cons.mp he with rfl | he
    · exact fit_str hy
    · rw [List.mem_singleton.mp he]; exact fit_int _
  have fb : ∀ i : Int, (D.tup [.str "BadNumber", .int i]).fit 64 := fun i => two (by decide +kernel)
  have ft : (D.tup [.str "TooMany", .int 9]).fit 64 := two (by decide +kernel)
  refine cut (fun r => r = lE (.sh .scr) R s4 s5 s6 s7 s8 s9 s10 (.sh (.int v))) ?_ ?_
  · refine keywords_ok v0 ?_
    rw [if_pos (by omega)]
    refine ⟨⟨fb _, fb _⟩, ?_⟩
    rw [eq_refl (fb _)]
    exact rfl
  rintro _ rfl
  refine keywords_ok v0 ?_
  rw [if_neg (by omega)]
  refine ⟨⟨ft, ft⟩, ?_⟩
  rw [eq_refl ft]
  refine new_rack ?_
  refine len_rk ?_
  exact ⟨by decide, by decide, rfl⟩
end
end Pf
namespace Pf
open PySem PySem.Spec PyProof.Rows L2 Dl
theorem sc_law_box : FnScope ["_law_script", "_law_cell"] ["_law_script"] (defScope s_law_box) := ⟨rfl, rfl, rfl, by decide +kernel, rfl, by decide +kernel, by decide +kernel⟩
theorem sc_law_take : FnScope ["_law_box_here", "_law_size", "_law_cell", "_law_digit"] ["_law_box_here", "_law_size"] (defScope s_law_take) := ⟨rfl, rfl, rfl, by decide +kernel, rfl, by decide +kernel, by decide +kernel⟩
theorem sc_check_name : FnScope ["name", "letter"] ["name"] (defScope s_check_name) := ⟨rfl, rfl, rfl, by decide +kernel, rfl, by decide +kernel, by decide +kernel⟩
theorem sc_Rack_put : FnScope ["self", "name", "length"] ["self", "name", "length"] (defScope s_Rack_put) := ⟨rfl, rfl, rfl, by decide +kernel, rfl, by decide +kernel, by decide +kernel⟩
theorem sc_RackU_initU : FnScope ["self", "lengths", "name", "length"] ["self", "lengths"] (defScope s_RackU_initU) := ⟨rfl, rfl, rfl, by decide +kernel, rfl, by decide +kernel, by decide +kernel⟩
theorem sc_Rack_names : FnScope ["self"] ["self"] (defScope s_Rack_names) := ⟨rfl, rfl, rfl, by decide +kernel, rfl, by decide +kernel, by decide +kernel⟩
theorem sc_RackU_lenU : FnScope ["self"] ["self"] (defScope s_RackU_lenU) := ⟨rfl, rfl, rfl, by decide +kernel, rfl, by decide +kernel, by decide +kernel⟩
theorem sc_RackU_containsU : FnScope ["self", "name"] ["self", "name"] (defScope s_RackU_containsU) := ⟨rfl, rfl, rfl, by decide +kernel, rfl, by decide +kernel, by decide +kernel⟩
theorem sc_Rack_length_of : FnScope ["self", "name"] ["self", "name"] (defScope s_Rack_length_of) := ⟨rfl, rfl, rfl, by decide +kernel, rfl, by decide +kernel, by decide +kernel⟩
theorem sc_law_name : FnScope ["_law_box_here", "_law_rows", "_law_letters", "_law_k", "_law_word", "_law_at", "_law_sign", "_law_way"] ["_law_box_here", "_law_rows"] (defScope s_law_name) := ⟨rfl, rfl, rfl, by decide +kernel, rfl, by decide +kernel, by decide +kernel⟩
theorem sc_law_bad : FnScope ["_law_name_here", "_law_sign"] ["_law_name_here"] (defScope s_law_bad) := ⟨rfl, rfl, rfl, by decide +kernel, rfl, by decide +kernel, by decide +kernel⟩
theorem sc_law_due : FnScope ["_law_rows", "_law_name_here", "_law_length", "_law_row"] ["_law_rows", "_law_name_here", "_law_length"] (defScope s_law_due) := ⟨rfl, rfl, rfl, by decide +kernel, rfl, by decide +kernel, by decide +kernel⟩
theorem sc_law_put : FnScope ["_law_rack", "_law_name_here", "_law_length", "_law_told", "e"] ["_law_rack", "_law_name_here", "_law_length"] (defScope s_law_put) := ⟨rfl, rfl, rfl, by decide +kernel, rfl, by decide +kernel, by decide +kernel⟩
theorem sc_law_unknown : FnScope ["_law_rack", "_law_name_here", "e"] ["_law_rack", "_law_name_here"] (defScope s_law_unknown) := ⟨rfl, rfl, rfl, by decide +kernel, rfl, by decide +kernel, by decide +kernel⟩
theorem sc_law_same : FnScope ["_law_rack", "_law_rows", "_law_name_here", "_law_names", "_law_row", "_law_known", "_law_length"] ["_law_rack", "_law_rows", "_law_name_here"] (defScope s_law_same) := ⟨rfl, rfl, rfl, by decide +kernel, rfl, by decide +kernel, by decide +kernel⟩
theorem sc_law_refused : FnScope ["_law_way", "e"] ["_law_way"] (defScope s_law_refused) := ⟨rfl, rfl, rfl, by decide +kernel, rfl, by decide +kernel, by decide +kernel⟩
theorem sc_law_keywords : FnScope ["_law_value", "_law_rest", "e"] ["_law_value", "_law_rest"] (defScope s_law_keywords) := ⟨rfl, rfl, rfl, by decide +kernel, rfl, by decide +kernel, by decide +kernel⟩
theorem sc_law : FnScope ["_law_script", "_law_box_here", "_law_rack", "_law_rows", "_law_first", "_law_second", "_law_k", "_law_name_here", "_law_length", "_law_due_here", "_law_way", "_law_value"] ["_law_script"] (defScope s_law) := ⟨rfl, rfl, rfl, by decide +kernel, rfl, by decide +kernel, by decide +kernel⟩
structure Txt (K : PySem.W.Frag) (mg : Str → Option Value) where
  fd_law_box : FuncData
  F_law_box : FunD K "_law_box" "_law_box" (defArgs s_law_box) (defBody s_law_box) (defScope s_law_box) [] [] (He.ga K "_law_box") fd_law_box
  fd_law_take : FuncData
  F_law_take : FunD K "_law_take" "_law_take" (defArgs s_law_take) (defBody s_law_take) (defScope s_law_take) [] [] (He.ga K "_law_take") fd_law_take
  fd_check_name : FuncData
  F_check_name : FunD K "check_name" "check_name" (defArgs s_check_name) (defBody s_check_name) (defScope s_check_name) [] [] (He.ga K "check_name") fd_check_name
  fd_Rack_put : FuncData
  F_Rack_put : FunD K "put" "Rack.put" (defArgs s_Rack_put) (defBody s_Rack_put) (defScope s_Rack_put) [] [] (He.ma K (He.ga K "Rack") "put") fd_Rack_put
  fd_RackU_initU : FuncData
  F_RackU_initU : FunD K "__init__" "Rack.__init__" (defArgs s_RackU_initU) (defBody s_RackU_initU) (defScope s_RackU_initU) [] [] (He.ma K (He.ga K "Rack") "__init__") fd_RackU_initU
  fd_Rack_names : FuncData
  F_Rack_names : FunD K "names" "Rack.names" (defArgs s_Rack_names) (defBody s_Rack_names) (defScope s_Rack_names) [] [] (He.ma K (He.ga K "Rack") "names") fd_Rack_names
  fd_RackU_lenU : FuncData
  F_RackU_lenU : FunD K "__len__" "Rack.__len__" (defArgs s_RackU_lenU) (defBody s_RackU_lenU) (defScope s_RackU_lenU) [] [] (He.ma K (He.ga K "Rack") "__len__") fd_RackU_lenU
  fd_RackU_containsU : FuncData
  F_RackU_containsU : FunD K "__contains__" "Rack.__contains__" (defArgs s_RackU_containsU) (defBody s_RackU_containsU) (defScope s_RackU_containsU) [] [] (He.ma K (He.ga K "Rack") "__contains__") fd_RackU_containsU
  fd_Rack_length_of : FuncData
  F_Rack_length_of : FunD K "length_of" "Rack.length_of" (defArgs s_Rack_length_of) (defBody s_Rack_length_of) (defScope s_Rack_length_of) [] [] (He.ma K (He.ga K "Rack") "length_of") fd_Rack_length_of
  fd_law_name : FuncData
  F_law_name : FunD K "_law_name" "_law_name" (defArgs s_law_name) (defBody s_law_name) (defScope s_law_name) [] [] (He.ga K "_law_name") fd_law_name
  fd_law_bad : FuncData
  F_law_bad : FunD K "_law_bad" "_law_bad" (defArgs s_law_bad) (defBody s_law_bad) (defScope s_law_bad) [] [] (He.ga K "_law_bad") fd_law_bad
  fd_law_due : FuncData
  F_law_due : FunD K "_law_due" "_law_due" (defArgs s_law_due) (defBody s_law_due) (defScope s_law_due) [] [] (He.ga K "_law_due") fd_law_due
  fd_law_put : FuncData
  F_law_put : FunD K "_law_put" "_law_put" (defArgs s_law_put) (defBody s_law_put) (defScope s_law_put) [] [] (He.ga K "_law_put") fd_law_put
  fd_law_unknown : FuncData
  F_law_unknown : FunD K "_law_unknown" "_law_unknown" (defArgs s_law_unknown) (defBody s_law_unknown) (defScope s_law_unknown) [] [] (He.ga K "_law_unknown") fd_law_unknown
  fd_law_same : FuncData
  F_law_same : FunD K "_law_same" "_law_same" (defArgs s_law_same) (defBody s_law_same) (defScope s_law_same) [] [] (He.ga K "_law_same") fd_law_same
  fd_law_refused : FuncData
  F_law_refused : FunD K "_law_refused" "_law_refused" (defArgs s_law_refused) (defBody s_law_refused) (defScope s_law_refused) [] [] (He.ga K "_law_refused") fd_law_refused
  fd_law_keywords : FuncData
  F_law_keywords : FunD K "_law_keywords" "_law_keywords" (defArgs s_law_keywords) (defBody s_law_keywords) (defScope s_law_keywords) [] [] (He.ga K "_law_keywords") fd_law_keywords
  fd_law : FuncData
  F_law : FunD K "law" "law" (defArgs s_law) (defBody s_law) (defScope s_law) [] [] (He.ga K "law") fd_law
  m_BadName : mg "BadName" = some (.ref (He.ga K "BadName"))
  m_BadNumber : mg "BadNumber" = some (.ref (He.ga K "BadNumber"))
  m_LETTERS : mg "LETTERS" = some (.str "abcdefghijklmnopqrstuvwxyz" (Hd.tkOf (mg "LETTERS")))
  m_LadderError : mg "LadderError" = some (.ref (He.ga K "LadderError"))
  m_MOST_LADDERS : mg "MOST_LADDERS" = some (.int (8) (Hd.tkOf (mg "MOST_LADDERS")))
  m_Rack : mg "Rack" = some (.ref (He.ga K "Rack"))
  m_TakenName : mg "TakenName" = some (.ref (He.ga K "TakenName"))
  m_TooMany : mg "TooMany" = some (.ref (He.ga K "TooMany"))
  m_UnknownName : mg "UnknownName" = some (.ref (He.ga K "UnknownName"))
  m__law_bad : mg "_law_bad" = some (.ref (He.ga K "_law_bad"))
  m__law_box : mg "_law_box" = some (.ref (He.ga K "_law_box"))
  m__law_due : mg "_law_due" = some (.ref (He.ga K "_law_due"))
  m__law_keywords : mg "_law_keywords" = some (.ref (He.ga K "_law_keywords"))
  m__law_name : mg "_law_name" = some (.ref (He.ga K "_law_name"))
  m__law_put : mg "_law_put" = some (.ref (He.ga K "_law_put"))
  m__law_refused : mg "_law_refused" = some (.ref (He.ga K "_law_refused"))
  m__law_same : mg "_law_same" = some (.ref (He.ga K "_law_same"))
  m__law_take : mg "_law_take" = some (.ref (He.ga K "_law_take"))
  m__law_unknown : mg "_law_unknown" = some (.ref (He.ga K "_law_unknown"))
  m_check_name : mg "check_name" = some (.ref (He.ga K "check_name"))
  m_law : mg "law" = some (.ref (He.ga K "law"))
  n_int : mg "int" = none
  n_isinstance : mg "isinstance" = none
  n_len : mg "len" = none
  n_list : mg "list" = none
  n_range : mg "range" = none
  n_super : mg "super" = none
  cl_Rack : Cls K (He.ga K "Rack")
  na_Rack_rows : NoAttr K (He.ga K "Rack") "rows"
  me_Rack_length_of : Meth K (He.ga K "Rack") "length_of" (He.ma K (He.ga K "Rack") "length_of")
  me_Rack_names : Meth K (He.ga K "Rack") "names" (He.ma K (He.ga K "Rack") "names")
  me_Rack_put : Meth K (He.ga K "Rack") "put" (He.ma K (He.ga K "Rack") "put")
  mk_Rack : Mk K (He.ga K "Rack") (He.ma K (He.ga K "Rack") "__init__")
  xm_UnknownName_UnknownName : PySem.W.exmOne K (.ref (He.ga K "UnknownName")) (.ref (He.ga K "UnknownName")) = some true
  xm_UnknownName_BadName : PySem.W.exmOne K (.ref (He.ga K "UnknownName")) (.ref (He.ga K "BadName")) = some false
  xm_UnknownName_TakenName : PySem.W.exmOne K (.ref (He.ga K "UnknownName")) (.ref (He.ga K "TakenName")) = some false
  xm_UnknownName_BadNumber : PySem.W.exmOne K (.ref (He.ga K "UnknownName")) (.ref (He.ga K "BadNumber")) = some false
  xm_UnknownName_TooMany : PySem.W.exmOne K (.ref (He.ga K "UnknownName")) (.ref (He.ga K "TooMany")) = some false
  xm_BadName_UnknownName : PySem.W.exmOne K (.ref (He.ga K "BadName")) (.ref (He.ga K "UnknownName")) = some false
  xm_BadName_BadName : PySem.W.exmOne K (.ref (He.ga K "BadName")) (.ref (He.ga K "BadName")) = some true
  xm_BadName_TakenName : PySem.W.exmOne K (.ref (He.ga K "BadName")) (.ref (He.ga K "TakenName")) = some false
  xm_BadName_BadNumber : PySem.W.exmOne K (.ref (He.ga K "BadName")) (.ref (He.ga K "BadNumber")) = some false
  xm_BadName_TooMany : PySem.W.exmOne K (.ref (He.ga K "BadName")) (.ref (He.ga K "TooMany")) = some false
  xm_TakenName_UnknownName : PySem.W.exmOne K (.ref (He.ga K "TakenName")) (.ref (He.ga K "UnknownName")) = some false
  xm_TakenName_BadName : PySem.W.exmOne K (.ref (He.ga K "TakenName")) (.ref (He.ga K "BadName")) = some false
  xm_TakenName_TakenName : PySem.W.exmOne K (.ref (He.ga K "TakenName")) (.ref (He.ga K "TakenName")) = some true
  xm_TakenName_BadNumber : PySem.W.exmOne K (.ref (He.ga K "TakenName")) (.ref (He.ga K "BadNumber")) = some false
  xm_TakenName_TooMany : PySem.W.exmOne K (.ref (He.ga K "TakenName")) (.ref (He.ga K "TooMany")) = some false
  xm_BadNumber_UnknownName : PySem.W.exmOne K (.ref (He.ga K "BadNumber")) (.ref (He.ga K "UnknownName")) = some false
  xm_BadNumber_BadName : PySem.W.exmOne K (.ref (He.ga K "BadNumber")) (.ref (He.ga K "BadName")) = some false
  xm_BadNumber_TakenName : PySem.W.exmOne K (.ref (He.ga K "BadNumber")) (.ref (He.ga K "TakenName")) = some false
  xm_BadNumber_BadNumber : PySem.W.exmOne K (.ref (He.ga K "BadNumber")) (.ref (He.ga K "BadNumber")) = some true
  xm_BadNumber_TooMany : PySem.W.exmOne K (.ref (He.ga K "BadNumber")) (.ref (He.ga K "TooMany")) = some false
  xm_TooMany_UnknownName : PySem.W.exmOne K (.ref (He.ga K "TooMany")) (.ref (He.ga K "UnknownName")) = some false
  xm_TooMany_BadName : PySem.W.exmOne K (.ref (He.ga K "TooMany")) (.ref (He.ga K "BadName")) = some false
  xm_TooMany_TakenName : PySem.W.exmOne K (.ref (He.ga K "TooMany")) (.ref (He.ga K "TakenName")) = some false
  xm_TooMany_BadNumber : PySem.W.exmOne K (.ref (He.ga K "TooMany")) (.ref (He.ga K "BadNumber")) = some false
  xm_TooMany_TooMany : PySem.W.exmOne K (.ref (He.ga K "TooMany")) (.ref (He.ga K "TooMany")) = some true
  er_BadNumber : PySem.ErrX.ErrTxt PP K (He.ga K "BadNumber") "value" "value"
  er_BadName : PySem.ErrX.ErrTxt PP K (He.ga K "BadName") "name" "name"
  er_TakenName : PySem.ErrX.ErrTxt PP K (He.ga K "TakenName") "name" "name"
  er_UnknownName : PySem.ErrX.ErrTxt PP K (He.ga K "UnknownName") "name" "name"
  er_TooMany : PySem.ErrX.ErrTxt PP K (He.ga K "TooMany") "count" "count"
  xc_UnknownName : ExcC K (He.ga K "UnknownName")
  xc_BadName : ExcC K (He.ga K "BadName")
  xc_TakenName : ExcC K (He.ga K "TakenName")
  xc_BadNumber : ExcC K (He.ga K "BadNumber")
  xc_TooMany : ExcC K (He.ga K "TooMany")
  ki_UnknownName_LadderError : PySem.W.kitOne K (.ref (He.ga K "UnknownName")) (.ref (He.ga K "LadderError")) = some true
  ow_Rack_len : OpM.Own K (He.ga K "Rack") "__len__" (He.ma K (He.ga K "Rack") "__len__")
  ow_Rack_contains : OpM.Own K (He.ga K "Rack") "__contains__" (He.ma K (He.ga K "Rack") "__contains__")
section
variable {w : World} {K : PySem.W.Frag} {mg : Str → Option Value} {base : Heap}
theorem b_RackU_containsU_2 (T : Txt K mg) : Vals [] ([] : List Value) ∧ Binds K T.fd_RackU_containsU ["self", "name"] [] := ⟨.nil, FunD.bindsN T.F_RackU_containsU fun _ _ _ _ _ _ us hl => match us, hl with | [_, _], _ => rfl⟩
theorem b_RackU_lenU_1 (T : Txt K mg) : Vals [] ([] : List Value) ∧ Binds K T.fd_RackU_lenU ["self"] [] := ⟨.nil, FunD.bindsN T.F_RackU_lenU fun _ _ _ _ _ _ us hl => match us, hl with | [_], _ => rfl⟩
theorem b_Rack_length_of_2 (T : Txt K mg) : Vals [] ([] : List Value) ∧ Binds K T.fd_Rack_length_of ["self", "name"] [] := ⟨.nil, FunD.bindsN T.F_Rack_length_of fun _ _ _ _ _ _ us hl => match us, hl with | [_, _], _ => rfl⟩
theorem b_Rack_names_1 (T : Txt K mg) : Vals [] ([] : List Value) ∧ Binds K T.fd_Rack_names ["self"] [] := ⟨.nil, FunD.bindsN T.F_Rack_names fun _ _ _ _ _ _ us hl => match us, hl with | [_], _ => rfl⟩
theorem b_Rack_put_3 (T : Txt K mg) : Vals [] ([] : List Value) ∧ Binds K T.fd_Rack_put ["self", "name", "length"] [] := ⟨.nil, FunD.bindsN T.F_Rack_put fun _ _ _ _ _ _ us hl => match us, hl with | [_, _, _], _ => rfl⟩
theorem b_law_bad_1 (T : Txt K mg) : Vals [] ([] : List Value) ∧ Binds K T.fd_law_bad ["_law_name_here"] [] := ⟨.nil, FunD.bindsN T.F_law_bad fun _ _ _ _ _ _ us hl => match us, hl with | [_], _ => rfl⟩
theorem b_law_box_1 (T : Txt K mg) : Vals [] ([] : List Value) ∧ Binds K T.fd_law_box ["_law_script"] [] := ⟨.nil, FunD.bindsN T.F_law_box fun _ _ _ _ _ _ us hl => match us, hl with | [_], _ => rfl⟩
theorem b_law_due_3 (T : Txt K mg) : Vals [] ([] : List Value) ∧ Binds K T.fd_law_due ["_law_rows", "_law_name_here", "_law_length"] [] := ⟨.nil, FunD.bindsN T.F_law_due fun _ _ _ _ _ _ us hl => match us, hl with | [_, _, _], _ => rfl⟩
theorem b_law_keywords_2 (T : Txt K mg) : Vals [] ([] : List Value) ∧ Binds K T.fd_law_keywords ["_law_value", "_law_rest"] [] := ⟨.nil, FunD.bindsN T.F_law_keywords fun _ _ _ _ _ _ us hl => match us, hl with | [_, _], _ => rfl⟩
theorem b_law_name_2 (T : Txt K mg) : Vals [] ([] : List Value) ∧ Binds K T.fd_law_name ["_law_box_here", "_law_rows"] [] := ⟨.nil, FunD.bindsN T.F_law_name fun _ _ _ _ _ _ us hl => match us, hl with | [_, _], _ => rfl⟩
theorem b_law_put_3 (T : Txt K mg) : Vals [] ([] : List Value) ∧ Binds K T.fd_law_put ["_law_rack", "_law_name_here", "_law_length"] [] := ⟨.nil, FunD.bindsN T.F_law_put fun _ _ _ _ _ _ us hl => match us, hl with | [_, _, _], _ => rfl⟩
theorem b_law_refused_1 (T : Txt K mg) : Vals [] ([] : List Value) ∧ Binds K T.fd_law_refused ["_law_way"] [] := ⟨.nil, FunD.bindsN T.F_law_refused fun _ _ _ _ _ _ us hl => match us, hl with | [_], _ => rfl⟩
theorem b_law_same_3 (T : Txt K mg) : Vals [] ([] : List Value) ∧ Binds K T.fd_law_same ["_law_rack", "_law_rows", "_law_name_here"] [] := ⟨.nil, FunD.bindsN T.F_law_same fun _ _ _ _ _ _ us hl => match us, hl with | [_, _, _], _ => rfl⟩
theorem b_law_take_2 (T : Txt K mg) : Vals [] ([] : List Value) ∧ Binds K T.fd_law_take ["_law_box_here", "_law_size"] [] := ⟨.nil, FunD.bindsN T.F_law_take fun _ _ _ _ _ _ us hl => match us, hl with | [_, _], _ => rfl⟩
theorem b_law_unknown_2 (T : Txt K mg) : Vals [] ([] : List Value) ∧ Binds K T.fd_law_unknown ["_law_rack", "_law_name_here"] [] := ⟨.nil, FunD.bindsN T.F_law_unknown fun _ _ _ _ _ _ us hl => match us, hl with | [_, _], _ => rfl⟩
theorem b_check_name_1 (T : Txt K mg) : Vals [] ([] : List Value) ∧ Binds K T.fd_check_name ["name"] [] := ⟨.nil, FunD.bindsN T.F_check_name fun _ _ _ _ _ _ us hl => match us, hl with | [_], _ => rfl⟩
theorem Txt.tb_p_BadName_ok (T : Txt K mg) : ∀ n b, tb_p_BadName n = some b → PySem.W.exmOne K (.ref (He.ga K (en n))) (.ref (He.ga K "BadName")) = some b := by
  intro n b e
  unfold tb_p_BadName at e
  split at e
  · rename_i h; subst h; cases e; exact T.xm_BadName_BadName
  split at e
  · rename_i h; subst h; cases e; exact T.xm_TakenName_BadName
  split at e
  · rename_i h; subst h; cases e; exact T.xm_BadNumber_BadName
  split at e
  · rename_i h; subst h; cases e; exact T.xm_TooMany_BadName
  cases e
theorem Txt.tb_p_TakenName_ok (T : Txt K mg) : ∀ n b, tb_p_TakenName n = some b → PySem.W.exmOne K (.ref (He.ga K (en n))) (.ref (He.ga K "TakenName")) = some b := by
  intro n b e
  unfold tb_p_TakenName at e
  split at e
  · rename_i h; subst h; cases e; exact T.xm_TakenName_TakenName
  split at e
  · rename_i h; subst h; cases e; exact T.xm_BadNumber_TakenName
  split at e
  · rename_i h; subst h; cases e; exact T.xm_TooMany_TakenName
  cases e
theorem Txt.tb_p_BadNumber_ok (T : Txt K mg) : ∀ n b, tb_p_BadNumber n = some b → PySem.W.exmOne K (.ref (He.ga K (en n))) (.ref (He.ga K "BadNumber")) = some b := by
  intro n b e
  unfold tb_p_BadNumber at e
  split at e
  · rename_i h; subst h; cases e; exact T.xm_BadNumber_BadNumber
  split at e
  · rename_i h; subst h; cases e; exact T.xm_TooMany_BadNumber
  cases e
theorem Txt.tb_p_TooMany_ok (T : Txt K mg) : ∀ n b, tb_p_TooMany n = some b → PySem.W.exmOne K (.ref (He.ga K (en n))) (.ref (He.ga K "TooMany")) = some b := by
  intro n b e
  unfold tb_p_TooMany at e
  split at e
  · rename_i h; subst h; cases e; exact T.xm_TooMany_TooMany
  cases e
theorem Txt.tb_r_TooMany_ok (T : Txt K mg) : ∀ n b, tb_r_TooMany n = some b → PySem.W.exmOne K (.ref (He.ga K (en n))) (.ref (He.ga K "TooMany")) = some b := by
  intro n b e
  unfold tb_r_TooMany at e
  split at e
  · rename_i h; subst h; cases e; exact T.xm_TooMany_TooMany
  split at e
  · rename_i h; subst h; cases e; exact T.xm_BadName_TooMany
  split at e
  · rename_i h; subst h; cases e; exact T.xm_BadNumber_TooMany
  split at e
  · rename_i h; subst h; cases e; exact T.xm_TakenName_TooMany
  cases e
theorem Txt.tb_r_BadName_ok (T : Txt K mg) : ∀ n b, tb_r_BadName n = some b → PySem.W.exmOne K (.ref (He.ga K (en n))) (.ref (He.ga K "BadName")) = some b := by
  intro n b e
  unfold tb_r_BadName at e
  split at e
  · rename_i h; subst h; cases e; exact T.xm_BadName_BadName
  split at e
  · rename_i h; subst h; cases e; exact T.xm_BadNumber_BadName
  split at e
  · rename_i h; subst h; cases e; exact T.xm_TakenName_BadName
  cases e
theorem Txt.tb_r_BadNumber_ok (T : Txt K mg) : ∀ n b, tb_r_BadNumber n = some b → PySem.W.exmOne K (.ref (He.ga K (en n))) (.ref (He.ga K "BadNumber")) = some b := by
  intro n b e
  unfold tb_r_BadNumber at e
  split at e
  · rename_i h; subst h; cases e; exact T.xm_BadNumber_BadNumber
  split at e
  · rename_i h; subst h; cases e; exact T.xm_TakenName_BadNumber
  cases e
theorem Txt.tb_k_TooMany_ok (T : Txt K mg) : ∀ n b, tb_k_TooMany n = some b → PySem.W.exmOne K (.ref (He.ga K (en n))) (.ref (He.ga K "TooMany")) = some b := by
  intro n b e
  unfold tb_k_TooMany at e
  split at e
  · rename_i h; subst h; cases e; exact T.xm_TooMany_TooMany
  split at e
  · rename_i h; subst h; cases e; exact T.xm_BadNumber_TooMany
  split at e
  · rename_i h; subst h; cases e; exact T.xm_BadName_TooMany
  split at e
  · rename_i h; subst h; cases e; exact T.xm_TakenName_TooMany
  cases e
theorem Txt.tb_k_BadNumber_ok (T : Txt K mg) : ∀ n b, tb_k_BadNumber n = some b → PySem.W.exmOne K (.ref (He.ga K (en n))) (.ref (He.ga K "BadNumber")) = some b := by
  intro n b e
  unfold tb_k_BadNumber at e
  split at e
  · rename_i h; subst h; cases e; exact T.xm_BadNumber_BadNumber
  split at e
  · rename_i h; subst h; cases e; exact T.xm_BadName_BadNumber
  split at e
  · rename_i h; subst h; cases e; exact T.xm_TakenName_BadNumber
  cases e
theorem Txt.tb_un_ok (T : Txt K mg) : ∀ n b, tb_un n = some b → PySem.W.exmOne K (.ref (He.ga K (en n))) (.ref (He.ga K "UnknownName")) = some b := by
  intro n b e
  unfold tb_un at e
  split at e
  · rename_i h; subst h; cases e; exact T.xm_UnknownName_UnknownName
  cases e
theorem Txt.xo_LadderError_o (T : Txt K mg) : ∀ c b, xo_LadderError c = some b → ExcC K (He.ga K (en c)) ∧ PySem.W.kitOne K (.ref (He.ga K (en c))) (.ref (He.ga K "LadderError")) = some b := by
  intro c b e
  unfold xo_LadderError at e
  split at e
  · rename_i h; subst h; cases e; exact ⟨T.xc_UnknownName, T.ki_UnknownName_LadderError⟩
  cases e
theorem map_get {ns : List Int} {i : Nat} {y : V} (hi : (ns.map V.int)[i]? = some y) : ∃ z, ns[i]? = some z ∧ y = V.int z := by
  rw [List.getElem?_map] at hi
  cases e : ns[i]? with
  | none =>
    rw [e] at hi
    cases hi
  | some z =>
    rw [e] at hi
    exact ⟨z, rfl, (Option.some.inj hi).symm⟩
theorem take_more {α : Type} : ∀ {l : List α} {i : Nat} {x : α}, l[i]? = some x → l.take (i + 1) = l.take i ++ [x]
  | [], i, x, h => by simp at h
  | a :: l, 0, x, h => by
    have e : a = x := Option.some.inj h
    subst e
    rfl
  | a :: l, i + 1, x, h => by
    have ih := take_more (l := l) (i := i) (x := x) h
    show a :: l.take (i + 1) = a :: l.take i ++ [x]
    rw [ih]
    rfl
theorem cut63 (ns : List Int) : ∃ ms : List Int, cutV (ns.map V.int) none (some 63) = ms.map V.int ∧ ms.length ≤ 63 := by
  refine ⟨(ns.drop (HT.sIx (ns.map V.int).length 0 none)).take (HT.sIx (ns.map V.int).length (ns.map V.int).length (some 63) - HT.sIx (ns.map V.int).length 0 none), ?_, ?_⟩
  · unfold cutV
    rw [List.map_take, List.map_drop]
  · rw [List.length_take]
    have e : HT.sIx (ns.map V.int).length (ns.map V.int).length (some 63) ≤ 63 := by
      unfold HT.sIx
      simp only []
      split <;> omega
    omega
theorem ok_law_box (T : Txt K mg) : FnOk PP w K mg base (L2.CX PP w) 1 (He.ga K "_law_box") T.fd_law_box ["_law_script"] (sp_box K) := by
  refine T.F_law_box.ok sc_law_box (fun vs H Q E h => ?_) (fun cdv A outer s H vs Q E hr h => ?_)
  · obtain ⟨a, ns, rfl, _⟩ := h
    rfl
  · obtain ⟨a, ns, rfl, hS, k⟩ := h
    refine ⟨_, (pss_one (ps_ret (pe_lst (pa_cons (pe_lc (own := [("_law_cell", 1)]) rfl sc_law_box.nd (Cl.piL K (pe_slice (Cl.slL K) (pv 0) po_none (po_some pe_int))) (blkOk_by (N := ["_law_script", "_law_cell"]) (sc := defScope s_law_box) (by decide +kernel)) (fun _ _ _ _ _ => (pg_name (i := 1) sc_law_box.nd rfl (by first | exact Or.inl rfl | exact Or.inr rfl))) (fun _ _ _ _ _ => pts_nil) (fun _ _ _ _ _ => (pe_callTy (T := "int") Cl.int1 (by rfl) T.n_int (by decide +kernel) (pa_cons (pv 1) pa_nil)))) (pa_cons pe_int (pa_cons pe_int (pa_cons pe_int pa_nil))))))), ?_⟩
    refine ⟨_, rfl, 63, rfl, a, _, rfl, hS, fun p hp => ?_⟩
    obtain ⟨ms, em, hm⟩ := cut63 ns
    rw [em]
    refine ⟨p, rfl, ⟨_, SqL.of upd_same⟩, fun D hD => ?_⟩
    have hDp : D ≠ p := fun z => by
      rw [z, upd_same] at hD
      cases hD
    have hD0 : H D = none := by
      rw [upd_ne hDp] at hD
      exact hD
    have hSq : ∀ H', H' p = some (.lst (ms.map V.int)) → SqL K H' p (ms.map V.int) := fun H' z => SqL.of z
    refine lc_list (K := K) (a := p) (xs := ms.map V.int) (fun i H' => H' D = some (.lst ((ms.take i).map V.int)) ∧ H' p = some (.lst (ms.map V.int)) ∧ Same H H') ⟨upd_same, ?_, ?_⟩ (fun i H' _ z => hSq H' z.2.1) ?_ ?_
    · rw [upd_ne (Ne.symm hDp), upd_same]
    · intro x o e
      rw [upd_ne (ne_of_none e hD0), upd_ne (ne_of_none e hp)]
      exact e
    · rintro i x H' hi ⟨h1, h2, h3⟩
      obtain ⟨z, hz, rfl⟩ := map_get hi
      refine ⟨rfl, ?_⟩
      refine ⟨_, rfl, z, rfl, _, h1, ?_, ?_, ?_, ?_⟩
      · rw [List.length_map, List.length_take, sizeLine_eq]
        omega
      · rw [upd_same, take_more hz, List.map_append]
        rfl
      · rw [upd_ne (Ne.symm hDp)]
        exact h2
      · intro x o e
        rw [upd_ne (ne_of_none e hD0)]
        exact h3 x o e
    · rintro H' ⟨h1, h2, h3⟩
      rw [List.length_map, List.take_length] at h1
      refine ⟨by show 4 ≤ sizeLine; decide, fun b hb => ?_⟩
      refine k _ b D (fun x o e => ?_) (h3.free hb) hD0 ⟨ms, 0, 0, 0, upd_same, ?_, hm, by decide, by decide, by decide, by decide⟩
      · rw [upd_ne (ne_of_none (h3 x o e) hb)]
        exact h3 x o e
      · rw [upd_ne (ne_of_none h1 hb)]
        exact h1
theorem upd_id {H : Hp} {b : Addr} {o : HO} (h : H b = some o) : upd H b o = H := by
  funext a
  by_cases e : a = b
  · rw [e, upd_same, h]
  · rw [upd_ne e]
theorem at_some {cs : List Int} {i : Int} (h0 : 0 ≤ i) (h1 : i < (cs.length : Int)) : ∃ z, atI (cs.map V.int) i = some (V.int z) := by
  have hj : i.toNat < cs.length := by omega
  refine ⟨cs[i.toNat], ?_⟩
  have e := atI_nat (xs := cs.map V.int) (j := i.toNat) (v := V.int cs[i.toNat]) (by rw [List.getElem?_map, List.getElem?_eq_getElem hj]; rfl)
  rw [Int.toNat_of_nonneg h0] at e
  exact e
theorem ok_law_take (T : Txt K mg) : FnOk PP w K mg base (L2.CX PP w) 1 (He.ga K "_law_take") T.fd_law_take ["_law_box_here", "_law_size"] sp_take := by
  refine T.F_law_take.ok sc_law_take (fun vs H Q E h => ?_) (fun cdv A outer s H vs Q E hr h => ?_)
  · obtain ⟨b, c, n, rfl, _⟩ := h
    rfl
  · obtain ⟨b, c, n, rfl, hB, hn, hN, k⟩ := h
    have ne := hB.ne
    obtain ⟨cs, i, r, u, hb, hc, hl, hi, hrr, hu, hv⟩ := id hB
    refine ⟨_, (Evl.pss_cut (ps_if (PW.pt (pw_and (pt_cmpR op_lt (pe_ix (Cl.ixL K) (pv 0) pe_int (fun _ _ => rfl)) pe_int (nomark _)) (pw_and1 (pt_cmpR op_lt (pe_ix (Cl.ixL K) (pv 0) pe_int (fun _ _ => rfl)) (pe_callB (id := "len") (Cl.len K) (by rfl) T.n_len (by decide +kernel) (pa_cons (pe_ix (Cl.ixL K) (pv 0) pe_int (fun _ _ => rfl)) pa_nil)) (nomark _)))))
      (pss_cons (ps_set (i := 2) sc_law_take.nd rfl (by first | exact Or.inl rfl | exact Or.inr rfl) (pe_ix (Cl.ixL K) (pe_ix (Cl.ixL K) (pv 0) pe_int (fun _ _ => rfl)) (pe_ix (Cl.ixL K) (pv 0) pe_int (fun _ _ => rfl)) (fun _ _ => rfl)))
      (pss_cons (ps_asg (pe_op op_add (pe_ix (Cl.ixL K) (pv 0) pe_int (fun _ _ => rfl)) pe_int) (pg_sub (pv 0) pe_int set_list))
      (pss_one (ps_if (pt_cmpR op_ge (pv 2) (pe_op op_pow pe_int pe_int) (nomark _))
      (pss_one (ps_asg (pe_op op_sub (pv 2) (pe_op op_pow pe_int pe_int)) (pg_sub (pv 0) pe_int set_list)))
      (pss_one (ps_asg (pe_op op_mod (pe_callTy (T := "int") Cl.int1 (by rfl) T.n_int (by decide +kernel) (pa_cons (pe_op op_add (pe_op op_add (pe_op op_mul (pe_ix (Cl.ixL K) (pv 0) pe_int (fun _ _ => rfl)) pe_int) (pe_op op_mul (pv 2) pe_int)) pe_int) pa_nil)) pe_int) (pg_sub (pv 0) pe_int set_list)))))))
      pss_nil)
      (pss_cons (ps_if (pt_cmpR op_gt (pe_ix (Cl.ixL K) (pv 0) pe_int (fun _ _ => rfl)) pe_int (nomark _))
      (pss_cons (ps_set (i := 3) sc_law_take.nd rfl (by first | exact Or.inl rfl | exact Or.inr rfl) (pe_op op_mod (pe_callTy (T := "int") Cl.int1 (by rfl) T.n_int (by decide +kernel) (pa_cons (pe_ix (Cl.ixL K) (pv 0) pe_int (fun _ _ => rfl)) pa_nil)) (pv 1)))
      (pss_cons (ps_asg (pe_op op_fdivW (pe_ix (Cl.ixL K) (pv 0) pe_int (fun _ _ => rfl)) (pv 1)) (pg_sub (pv 0) pe_int set_list))
      (pss_one (ps_ret (pv 3)))))
      pss_nil)
      (pss_cons (ps_asg (pe_op op_mod (pe_callTy (T := "int") Cl.int1 (by rfl) T.n_int (by decide +kernel) (pa_cons (pe_op op_mul (pe_ix (Cl.ixL K) (pv 0) pe_int (fun _ _ => rfl)) pe_int) pa_nil)) pe_int) (pg_sub (pv 0) pe_int set_list))
      (pss_one (ps_ret (pe_op op_mod (pe_callTy (T := "int") Cl.int1 (by rfl) T.n_int (by decide +kernel) (pa_cons (pe_op op_fdivW (pe_ix (Cl.ixL K) (pv 0) pe_int (fun _ _ => rfl)) pe_int) pa_nil)) (pv 1))))))), ?_⟩
    refine ⟨fun σ' H' => ∃ (v : Option V) (o : HO), σ' = [some (.ref b), some (.int n), v, none] ∧ H' = upd H b o ∧ Bx H' b c, ?_, ?_⟩
    · have no : ∃ (v : Option V) (o : HO), ([some (.ref b), some (.int n), none, none] : L2.St) = [some (.ref b), some (.int n), v, none] ∧ H = upd H b o ∧ Bx H b c := ⟨none, _, rfl, (upd_id hb).symm, hB⟩
      refine ⟨_, rfl, _, _, _, _, rfl, rfl, SqL.of hb, rfl, _, _, rfl, rfl, _, rfl, ?_⟩
      refine ite2 (fun c1 => ?_) (fun c1 => ?_)
      · refine ⟨_, rfl, _, _, _, _, rfl, rfl, SqL.of hb, rfl, _, rfl, _, _, _, _, rfl, rfl, SqL.of hb, rfl, c, _, rfl, .inl (SqL.of hc), _, _, rfl, rfl, _, rfl, ?_⟩
        refine ite2 (fun c2 => ?_) (fun c2 => ?_)
        · have c2' := of_decide_eq_true c2
          rw [List.length_map] at c2'
          obtain ⟨z, hz⟩ := at_some hi c2'
          refine ⟨_, rfl, _, _, _, _, rfl, rfl, SqL.of hb, rfl, _, rfl, _, _, _, _, rfl, rfl, SqL.of hb, rfl, c, _, i, .int z, rfl, rfl, SqL.of hc, hz, ?_⟩
          refine ⟨_, rfl, _, _, _, _, rfl, rfl, SqL.of hb, rfl, _, _, rfl, rfl, _, rfl, b, _, _, 1, rfl, rfl, hb, rfl, ?_⟩
          refine ⟨_, rfl, 10, 18, rfl, rfl, ⟨by decide, by decide, by decide⟩, _, _, rfl, rfl, _, rfl, ?_⟩
          refine ite2 (fun c3 => ?_) (fun c3 => ?_)
          · have c3' := of_decide_eq_true c3
            refine ⟨_, rfl, 10, 18, rfl, rfl, ⟨by decide, by decide, by decide⟩, _, _, rfl, rfl, _, rfl, b, _, _, 2, rfl, rfl, upd_same, rfl, ?_⟩
            refine ⟨_, _, rfl, upd_upd, cs, i + 1, z - 10 ^ 18, u, by rw [upd_upd, upd_same]; rfl, by rw [upd_upd, upd_ne ne]; exact hc, hl, by omega, ?_, hu, hv⟩
            have c4 : (10 : Int) ^ (18 : Int).toNat ≤ z := c3'
            have e : (18 : Int).toNat = 18 := rfl
            rw [e] at c4
            omega
          · refine ⟨_, rfl, _, _, _, _, rfl, rfl, SqL.of upd_same, rfl, _, _, rfl, rfl, .inr ⟨by decide, by decide⟩, _, rfl, _, _, rfl, rfl, .inr ⟨by decide, by decide⟩, _, _, rfl, rfl, _, _, rfl, rfl, _, rfl, _, _, rfl, rfl, (by show (0 : Int) < 2147483647; decide), _, rfl, b, _, _, 3, rfl, rfl, upd_same, rfl, ?_⟩
            exact ⟨_, _, rfl, upd_upd, cs, i + 1, r, _, by rw [upd_upd, upd_same]; rfl, by rw [upd_upd, upd_ne ne]; exact hc, hl, by omega, hrr, Int.emod_nonneg _ (by decide), Int.emod_lt_of_pos _ (by decide)⟩
        · exact no
      · exact no
    · rintro σ' H' ⟨v, o, rfl, rfl, hB'⟩
      obtain ⟨cs, i, r, u, hb, hc, hl, hi, hrr, hu, hv⟩ := id hB'
      refine ⟨_, rfl, _, _, _, _, rfl, rfl, SqL.of hb, rfl, _, _, rfl, rfl, _, rfl, ?_⟩
      refine ite2 (fun c1 => ?_) (fun c1 => ?_)
      · refine ⟨_, rfl, _, _, _, _, rfl, rfl, SqL.of hb, rfl, _, rfl, _, rfl, _, _, rfl, rfl, hn, ?_⟩
        refine ⟨_, rfl, _, _, _, _, rfl, rfl, SqL.of hb, rfl, _, rfl, _, _, rfl, rfl, wide_div hn hN (by decide) (by decide), _, rfl, b, _, _, 2, rfl, rfl, hb, rfl, ?_⟩
        refine ⟨_, rfl, ?_⟩
        show Q (.int (r % n)) (upd (upd H b o) b _)
        rw [upd_upd]
        refine k _ _ (Int.emod_nonneg _ (by omega)) (Int.emod_lt_of_pos _ hn) ⟨cs, i, r / n, u, upd_same, ?_, hl, hi, Int.ediv_nonneg hrr (by omega), hu, hv⟩
        rw [upd_ne ne] at hc ⊢
        exact hc
      · refine ⟨_, rfl, _, _, _, _, rfl, rfl, SqL.of hb, rfl, _, _, rfl, rfl, .inr ⟨by decide, by decide⟩, _, rfl, _, _, rfl, rfl, (by show (0 : Int) < 2147483647; decide), _, rfl, b, _, _, 3, rfl, rfl, hb, rfl, ?_⟩
        refine ⟨_, rfl, _, _, _, _, rfl, rfl, SqL.of upd_same, rfl, _, _, rfl, rfl, wide_div (b := 30) (by decide) (by decide) (by decide) (by decide), _, rfl, _, rfl, _, _, rfl, rfl, hn, ?_⟩
        rw [upd_upd]
        refine k _ _ (Int.emod_nonneg _ (by omega)) (Int.emod_lt_of_pos _ hn) ⟨cs, i, r, _, upd_same, ?_, hl, hi, hrr, Int.emod_nonneg _ (by decide), Int.emod_lt_of_pos _ (by decide)⟩
        rw [upd_ne ne] at hc ⊢
        exact hc
theorem ok_check_name (T : Txt K mg) : FnOk PP w K mg base (L2.CX PP w) 1 (He.ga K "check_name") T.fd_check_name ["name"] (spOf K ds_check_name) := by
  exact okD (m := m_check_name) T.F_check_name sc_check_name hl_check_name hm_check_name (fun cdv A outer s H E hr => ⟨_, (pss_cons (ps_if (pt_not (pt_chain op_le op_le pe_int (pe_callB call_len_str (by rfl) T.n_len (by decide +kernel) (pa_cons (pv 0) pa_nil)) pe_int))
      (pss_one (ps_raiseErr rfl T.er_BadName T.m_BadName T.n_super hr (takes_of rfl rfl rfl rfl) (pa_cons (pv 0) pa_nil)))
      pss_nil)
      (pss_one (ps_for (passes_of rfl) rfl (pi_str (pv 0)) (pg_name (i := 1) sc_check_name.nd rfl (by first | exact Or.inl rfl | exact Or.inr rfl))
      (pss_one (ps_if (pt_cmpR op_notIn_sign (pv 1) (pe_glob (v := .str "abcdefghijklmnopqrstuvwxyz") (by rfl) T.m_LETTERS ⟨_, rfl⟩) rfl)
      (pss_one (ps_raiseErr rfl T.er_BadName T.m_BadName T.n_super hr (takes_of rfl rfl rfl rfl) (pa_cons (pv 0) pa_nil)))
      pss_nil))))), (zSeq (zIf (tNot' (tTest' (eChain k_le r_le eC (eCB1 c_lenS (eVar (i := 0))) eC)))
      (zRaise (c := 1) (eVar (i := 0)))
      zNext)
      (zFor (m := m_check_name_L1) (wStr (eVar (i := 0))) (gNm (i := 1))
      (zIf (tTest' (eOp r_ninS (eVar (i := 1)) eC))
      (zRaise (c := 1) (eVar (i := 0)))
      zNext)))⟩)
theorem ok_Rack_put (T : Txt K mg) : FnOk PP w K mg base (L2.CX PP w) 2 (He.ma K (He.ga K "Rack") "put") T.fd_Rack_put ["self", "name", "length"] (spOf K ds_Rack_put) := by
  have G_check_name_1 : FnR PP w K mg base (L2.CX PP w) _ _ _ := (ok_check_name T).raw (b_check_name_1 T).2 (b_check_name_1 T).1
  exact okD (m := m_Rack_put) T.F_Rack_put sc_Rack_put hl_Rack_put hm_Rack_put (fun cdv A outer s H E hr => ⟨_, (pss_cons (ps_expr (Cl.pe_f G_check_name_1 (hr.mono (by decide)) (by rfl) T.m_check_name T.F_check_name.kp (fun σ => Cl.at_ (takes_of rfl rfl rfl rfl) σ) (pa_cons (pv 1) pa_nil)))
      (pss_cons (ps_if (pt_cmp (pc_din (Nat.lt_of_le_of_lt (Nat.add_le_add_left (by decide) _) hr.units) (pv 1) (Cl.fld K (pv 0))))
      (pss_one (ps_raiseErr rfl T.er_TakenName T.m_TakenName T.n_super hr (takes_of rfl rfl rfl rfl) (pa_cons (pv 1) pa_nil)))
      pss_nil)
      (pss_cons (ps_if (pt_cmpR op_lt (pv 2) pe_int (nomark _))
      (pss_one (ps_raiseErr rfl T.er_BadNumber T.m_BadNumber T.n_super hr (takes_of rfl rfl rfl rfl) (pa_cons (pv 2) pa_nil)))
      pss_nil)
      (pss_cons (ps_if (pt_cmpR op_ge (pe_callB call_lenDR (by rfl) T.n_len (by decide +kernel) (pa_cons (Cl.fld K (pv 0)) pa_nil)) (pe_glob (v := .int 8) (by rfl) T.m_MOST_LADDERS ⟨_, rfl⟩) (nomark _))
      (pss_one (ps_raiseErr rfl T.er_TooMany T.m_TooMany T.n_super hr (takes_of rfl rfl rfl rfl) (pa_cons (pe_op op_add (pe_callB call_lenDR (by rfl) T.n_len (by decide +kernel) (pa_cons (Cl.fld K (pv 0)) pa_nil)) pe_int) pa_nil)))
      pss_nil)
      (pss_one (ps_dput (Nat.lt_of_le_of_lt (Nat.add_le_add_left (by decide) _) hr.units) (Cl.fld K (pv 0)) (pv 1) (pv 2) rfl)))))), (zSeq (zDrop (eCall (bCons (eVar (i := 1)) bNil) (fun _ => .nil)))
      (zSeq (zIf (tBor (tTest' (eDIn (eVar (i := 1)) (eFld (c := 2) (i := 0) T.cl_Rack T.na_Rack_rows (by decide +kernel) (eVar (i := 0))))))
      (zRaise (c := 2) (eVar (i := 1)))
      zNext)
      (zSeq (zIf (tTest' (eOp r_lt (eVar (i := 2)) eC))
      (zRaise (c := 0) (eVar (i := 2)))
      zNext)
      (zSeq (zIf (tBor (tTest' (eOp r_ge (eCB1 c_lenD (eFld (c := 2) (i := 0) T.cl_Rack T.na_Rack_rows (by decide +kernel) (eVar (i := 0)))) eC)))
      (zRaise (c := 5) (eBor (eOp r_add (eCB1 c_lenD (eFld (c := 2) (i := 0) T.cl_Rack T.na_Rack_rows (by decide +kernel) (eVar (i := 0)))) eC)))
      zNext)
      (zDPutP (i := 0) (j := 1) (pl_fld (c := 2) (j := 0) T.cl_Rack T.na_Rack_rows (by decide +kernel) pl_var) (eVar (i := 2)))))))⟩)
theorem oe_RackU_initU (T : Txt K mg) {ks : List Str} (hnd : ks.Nodup) (hsz : ks.length ≤ sizeLine) (hb : ∀ (kV doc pm : Value) (an : Option Addr) (cdv ct : Value), StX.BindE (PySem.W.fnOf "__init__" "Rack.__init__" (defArgs s_RackU_initU) (defBody s_RackU_initU) (defScope s_RackU_initU) .none kV doc pm an cdv ct) ["self"] "lengths" ks) : StX.FnE PP w K mg base (L2.CX PP w) 3 (He.ma K (He.ga K "Rack") "__init__") ks 1 (spOf K (packE 1 ks ds_RackU_initU)) := by
  have G_Rack_put_3 : FnR PP w K mg base (L2.CX PP w) _ _ _ := (ok_Rack_put T).raw (b_Rack_put_3 T).2 (b_Rack_put_3 T).1
  exact okKwED (m := m_RackU_initU) (ps := ["self"]) (pd := "lengths") T.F_RackU_initU sc_RackU_initU hl_RackU_initU hm_RackU_initU hk_RackU_initU hnd hsz hb (fun cdv A outer s H E hr => ⟨_, (pss_cons (ps_if (pt_cmpR op_gt (pe_callB call_lenDR (by rfl) T.n_len (by decide +kernel) (pa_cons (pv 1) pa_nil)) (pe_glob (v := .int 8) (by rfl) T.m_MOST_LADDERS ⟨_, rfl⟩) (nomark _))
      (pss_one (ps_raiseErr rfl T.er_TooMany T.m_TooMany T.n_super hr (takes_of rfl rfl rfl rfl) (pa_cons (pe_callB call_lenDR (by rfl) T.n_len (by decide +kernel) (pa_cons (pv 1) pa_nil)) pa_nil)))
      pss_nil)
      (pss_cons (Cl.sfld K (pv 0) pe_dnewK)
      (pss_one (ps_for (passes_of rfl) rfl (pi_items (pv 1)) (Cl.pgT K (n := 2) (pgs_cons (pg_name (i := 2) sc_RackU_initU.nd rfl (by first | exact Or.inl rfl | exact Or.inr rfl)) (pgs_cons (pg_name (i := 3) sc_RackU_initU.nd rfl (by first | exact Or.inl rfl | exact Or.inr rfl)) pgs_nil)))
      (pss_one (ps_expr (Cl.pe_m (pv 0) T.cl_Rack T.me_Rack_put G_Rack_put_3 (hr.mono (by decide)) (fun σ => Cl.at_ (takes_of rfl rfl rfl rfl) σ) (pa_cons (pv 2) (pa_cons (pv 3) pa_nil))))))))), (zSeq (zIf (tTest' (eOp r_gt (eCB1 c_lenD (eVar (i := 1))) eC))
      (zRaise (c := 5) (eCB1 c_lenD (eVar (i := 1))))
      zNext)
      (zSeq (zFldN (c := 2) (j := 0) T.cl_Rack T.na_Rack_rows (by decide +kernel) (by decide +kernel) (by decide) eDNew)
      (zForI (m := m_RackU_initU_L1) (eVar (i := 1)) (gTp (n := 2) (gsCons (gNm (i := 2)) (gsCons (gNm (i := 3)) gsNil)))
      (zDrop (eMethL (i := 0) (c := 2) (by decide +kernel) (bCons (eVar (i := 2)) (bCons (eVar (i := 3)) bNil)) (fun _ => .nil))))))⟩)
theorem ok_RackU_initU (T : Txt K mg) : FnR PP w K mg base (L2.CX PP w) 3 (He.ma K (He.ga K "Rack") "__init__") (spOf K (packK 1 ds_RackU_initU)) := by
  have G_Rack_put_3 : FnR PP w K mg base (L2.CX PP w) _ _ _ := (ok_Rack_put T).raw (b_Rack_put_3 T).2 (b_Rack_put_3 T).1
  exact okKwD (m := m_RackU_initU) (ps := ["self"]) (pd := "lengths") T.F_RackU_initU sc_RackU_initU hm_RackU_initU hk_RackU_initU (fun _ _ _ _ _ _ us hl => match us, hl with | [_], _ => rfl) (fun cdv A outer s H E hr => ⟨_, (pss_cons (ps_if (pt_cmpR op_gt (pe_callB call_lenDR (by rfl) T.n_len (by decide +kernel) (pa_cons (pv 1) pa_nil)) (pe_glob (v := .int 8) (by rfl) T.m_MOST_LADDERS ⟨_, rfl⟩) (nomark _))
      (pss_one (ps_raiseErr rfl T.er_TooMany T.m_TooMany T.n_super hr (takes_of rfl rfl rfl rfl) (pa_cons (pe_callB call_lenDR (by rfl) T.n_len (by decide +kernel) (pa_cons (pv 1) pa_nil)) pa_nil)))
      pss_nil)
      (pss_cons (Cl.sfld K (pv 0) pe_dnewK)
      (pss_one (ps_for (passes_of rfl) rfl (pi_items (pv 1)) (Cl.pgT K (n := 2) (pgs_cons (pg_name (i := 2) sc_RackU_initU.nd rfl (by first | exact Or.inl rfl | exact Or.inr rfl)) (pgs_cons (pg_name (i := 3) sc_RackU_initU.nd rfl (by first | exact Or.inl rfl | exact Or.inr rfl)) pgs_nil)))
      (pss_one (ps_expr (Cl.pe_m (pv 0) T.cl_Rack T.me_Rack_put G_Rack_put_3 (hr.mono (by decide)) (fun σ => Cl.at_ (takes_of rfl rfl rfl rfl) σ) (pa_cons (pv 2) (pa_cons (pv 3) pa_nil))))))))), (zSeq (zIf (tTest' (eOp r_gt (eCB1 c_lenD (eVar (i := 1))) eC))
      (zRaise (c := 5) (eCB1 c_lenD (eVar (i := 1))))
      zNext)
      (zSeq (zFldN (c := 2) (j := 0) T.cl_Rack T.na_Rack_rows (by decide +kernel) (by decide +kernel) (by decide) eDNew)
      (zForI (m := m_RackU_initU_L1) (eVar (i := 1)) (gTp (n := 2) (gsCons (gNm (i := 2)) (gsCons (gNm (i := 3)) gsNil)))
      (zDrop (eMethL (i := 0) (c := 2) (by decide +kernel) (bCons (eVar (i := 2)) (bCons (eVar (i := 3)) bNil)) (fun _ => .nil))))))⟩)
theorem ok_Rack_names (T : Txt K mg) : FnOk PP w K mg base (L2.CX PP w) 1 (He.ma K (He.ga K "Rack") "names") T.fd_Rack_names ["self"] (spOf K ds_Rack_names) := by
  exact okD (m := m_Rack_names) T.F_Rack_names sc_Rack_names hl_Rack_names hm_Rack_names (fun cdv A outer s H E hr => ⟨_, (pss_one (ps_ret (pe_callTy call_listDR (by rfl) T.n_list (by decide +kernel) (pa_cons (Cl.fld K (pv 0)) pa_nil)))), (zRet (eCB1 c_listD (eFld (c := 2) (i := 0) T.cl_Rack T.na_Rack_rows (by decide +kernel) (eVar (i := 0)))))⟩)
theorem ok_RackU_lenU (T : Txt K mg) : FnOk PP w K mg base (L2.CX PP w) 1 (He.ma K (He.ga K "Rack") "__len__") T.fd_RackU_lenU ["self"] (spOf K ds_RackU_lenU) := by
  exact okD (m := m_RackU_lenU) T.F_RackU_lenU sc_RackU_lenU hl_RackU_lenU hm_RackU_lenU (fun cdv A outer s H E hr => ⟨_, (pss_one (ps_ret (pe_callB call_lenDR (by rfl) T.n_len (by decide +kernel) (pa_cons (Cl.fld K (pv 0)) pa_nil)))), (zRet (eCB1 c_lenD (eFld (c := 2) (i := 0) T.cl_Rack T.na_Rack_rows (by decide +kernel) (eVar (i := 0)))))⟩)
theorem ok_RackU_containsU (T : Txt K mg) : FnOk PP w K mg base (L2.CX PP w) 1 (He.ma K (He.ga K "Rack") "__contains__") T.fd_RackU_containsU ["self", "name"] (spOf K ds_RackU_containsU) := by
  exact okD (m := m_RackU_containsU) T.F_RackU_containsU sc_RackU_containsU hl_RackU_containsU hm_RackU_containsU (fun cdv A outer s H E hr => ⟨_, (pss_one (ps_ret (pe_cmp (pc_din (Nat.lt_of_le_of_lt (Nat.add_le_add_left (by decide) _) hr.units) (pv 1) (Cl.fld K (pv 0)))))), (zRet (eDIn (eVar (i := 1)) (eFld (c := 2) (i := 0) T.cl_Rack T.na_Rack_rows (by decide +kernel) (eVar (i := 0)))))⟩)
theorem ok_Rack_length_of (T : Txt K mg) : FnOk PP w K mg base (L2.CX PP w) 1 (He.ma K (He.ga K "Rack") "length_of") T.fd_Rack_length_of ["self", "name"] (spOf K ds_Rack_length_of) := by
  exact okD (m := m_Rack_length_of) T.F_Rack_length_of sc_Rack_length_of hl_Rack_length_of hm_Rack_length_of (fun cdv A outer s H E hr => ⟨_, (pss_cons (ps_if (pt_cmp (pc_dnotin (Nat.lt_of_le_of_lt (Nat.add_le_add_left (by decide) _) hr.units) (pv 1) (Cl.fld K (pv 0))))
      (pss_one (ps_raiseErr rfl T.er_UnknownName T.m_UnknownName T.n_super hr (takes_of rfl rfl rfl rfl) (pa_cons (pv 1) pa_nil)))
      pss_nil)
      (pss_one (ps_ret (pe_dget (Nat.lt_of_le_of_lt (Nat.add_le_add_left (by decide) _) hr.units) (Cl.fld K (pv 0)) (pv 1) (fun _ _ => rfl))))), (zSeq (zIf (tTest' (eDInN (eVar (i := 1)) (eFld (c := 2) (i := 0) T.cl_Rack T.na_Rack_rows (by decide +kernel) (eVar (i := 0)))))
      (zRaise (c := 3) (eVar (i := 1)))
      zNext)
      (zRet (eDGet (eFld (c := 2) (i := 0) T.cl_Rack T.na_Rack_rows (by decide +kernel) (eVar (i := 0))) (eVar (i := 1)))))⟩)
theorem ok_law_name (T : Txt K mg) : FnOk PP w K mg base (L2.CX PP w) 2 (He.ga K "_law_name") T.fd_law_name ["_law_box_here", "_law_rows"] (spOf K ds_law_name) := by
  have G_law_take_2 : FnR PP w K mg base (L2.CX PP w) _ _ _ := (ok_law_take T).raw (b_law_take_2 T).2 (b_law_take_2 T).1
  exact okD (m := m_law_name) T.F_law_name sc_law_name hl_law_name hm_law_name (fun cdv A outer s H E hr => ⟨_, (pss_cons (ps_if (PW.pt (pw_and (pt_cmpR op_gt (pe_callB (id := "len") (Cl.len K) (by rfl) T.n_len (by decide +kernel) (pa_cons (pv 1) pa_nil)) pe_int (nomark _)) (pw_and1 (pt_cmpR op_eq (Cl.pe_f G_law_take_2 (hr.mono (by decide)) (by rfl) T.m__law_take T.F_law_take.kp (fun σ => Cl.at_ (takes_of rfl rfl rfl rfl) σ) (pa_cons (pv 0) (pa_cons pe_int pa_nil))) pe_int (nomark _)))))
      (pss_one (ps_ret (pe_ix (Cl.ixT K) (pe_ix (Cl.ixL K) (pv 1) (Cl.pe_f G_law_take_2 (hr.mono (by decide)) (by rfl) T.m__law_take T.F_law_take.kp (fun σ => Cl.at_ (takes_of rfl rfl rfl rfl) σ) (pa_cons (pv 0) (pa_cons (pe_callB (id := "len") (Cl.len K) (by rfl) T.n_len (by decide +kernel) (pa_cons (pv 1) pa_nil)) pa_nil))) (fun _ _ => rfl)) pe_int (fun _ _ => rfl))))
      pss_nil)
      (pss_cons (ps_set (i := 2) sc_law_name.nd rfl (by first | exact Or.inl rfl | exact Or.inr rfl) pe_str)
      (pss_cons (ps_set (i := 4) sc_law_name.nd rfl (by first | exact Or.inl rfl | exact Or.inr rfl) (TxB.peJoin K pe_str (pe_lc (own := [("_law_k", 3)]) rfl sc_law_name.nd (pi_range1 (by rfl) T.n_range (pa_cons (pe_op op_add pe_int (Cl.pe_f G_law_take_2 (hr.mono (by decide)) (by rfl) T.m__law_take T.F_law_take.kp (fun σ => Cl.at_ (takes_of rfl rfl rfl rfl) σ) (pa_cons (pv 0) (pa_cons pe_int pa_nil)))) pa_nil)) (blkOk_by (N := ["_law_box_here", "_law_rows", "_law_letters", "_law_k", "_law_word", "_law_at", "_law_sign", "_law_way"]) (sc := defScope s_law_name) (by decide +kernel)) (fun _ _ _ _ _ => (pg_name (i := 3) sc_law_name.nd rfl (by first | exact Or.inl rfl | exact Or.inr rfl))) (fun _ _ _ _ _ => pts_nil) (fun _ _ _ _ _ => (pe_ix ix_str (pv 2) (Cl.pe_f G_law_take_2 (hr.mono (by decide)) (by rfl) T.m__law_take T.F_law_take.kp (E := fun _ _ _ _ => False) (fun σ => Cl.none_ σ) (pa_cons (pv 0) (pa_cons pe_int pa_nil))) (fun _ _ => rfl))))))
      (pss_cons (ps_set (i := 5) sc_law_name.nd rfl (by first | exact Or.inl rfl | exact Or.inr rfl) (Cl.pe_f G_law_take_2 (hr.mono (by decide)) (by rfl) T.m__law_take T.F_law_take.kp (fun σ => Cl.at_ (takes_of rfl rfl rfl rfl) σ) (pa_cons (pv 0) (pa_cons (pe_callB call_len_str (by rfl) T.n_len (by decide +kernel) (pa_cons (pv 4) pa_nil)) pa_nil))))
      (pss_cons (ps_set (i := 6) sc_law_name.nd rfl (by first | exact Or.inl rfl | exact Or.inr rfl) (pe_ix ix_str pe_str (Cl.pe_f G_law_take_2 (hr.mono (by decide)) (by rfl) T.m__law_take T.F_law_take.kp (fun σ => Cl.at_ (takes_of rfl rfl rfl rfl) σ) (pa_cons (pv 0) (pa_cons pe_int pa_nil))) (fun _ _ => rfl)))
      (pss_cons (ps_set (i := 7) sc_law_name.nd rfl (by first | exact Or.inl rfl | exact Or.inr rfl) (Cl.pe_f G_law_take_2 (hr.mono (by decide)) (by rfl) T.m__law_take T.F_law_take.kp (fun σ => Cl.at_ (takes_of rfl rfl rfl rfl) σ) (pa_cons (pv 0) (pa_cons pe_int pa_nil))))
      (pss_cons (ps_if (pt_cmpR op_eq (pv 7) pe_int (nomark _))
      (pss_one (ps_ret (pe_op op_add_str (pe_op op_add_str (pe_slice sl_str (pv 4) po_none (po_some (pv 5))) (pv 6)) (pe_slice sl_str (pv 4) (po_some (pe_op op_add (pv 5) pe_int)) po_none))))
      pss_nil)
      (pss_cons (ps_if (pt_cmpR op_eq (pv 7) pe_int (nomark _))
      (pss_one (ps_ret pe_str))
      pss_nil)
      (pss_one (ps_ret (pv 4))))))))))), (zSeq (zIf (tAnd' (tBor (tTest' (eOp r_gt (eCB1 c_len (eVar (i := 1))) eC))) (tTest' (eOp r_eq (eTake (i := 0) eC) eC)))
      (zRet (eOp r_ixT (eIxO (i := 1) (eTake (i := 0) (eBor (eCB1 c_len (eVar (i := 1)))))) eC))
      zNext)
      (zSeq (zAsg eC (gNm (i := 2)))
      (zSeq (zAsg (eJoin eC (eFz (eLc0 (wR1 (eOp r_add eC (eTake (i := 0) eC))) (gw_name (by decide)) gm_name (gNm (i := 3)) tYes' (eOp r_ixS (eVar (i := 2)) (eTake (i := 0) eC))))) (gNm (i := 4)))
      (zSeq (zAsg (eTake (i := 0) (eCB1 c_lenS (eVar (i := 4)))) (gNm (i := 5)))
      (zSeq (zAsg (eOp r_ixS eC (eTake (i := 0) eC)) (gNm (i := 6)))
      (zSeq (zAsg (eTake (i := 0) eC) (gNm (i := 7)))
      (zSeq (zIf (tTest' (eOp r_eq (eVar (i := 7)) eC))
      (zRet (eOp r_addS (eOp r_addS (eSl s_s (eVar (i := 4)) oNone (oSome (eVar (i := 5)))) (eVar (i := 6))) (eSl s_s (eVar (i := 4)) (oSome (eOp r_add (eVar (i := 5)) eC)) oNone)))
      zNext)
      (zSeq (zIf (tTest' (eOp r_eq (eVar (i := 7)) eC))
      (zRet eC)
      zNext)
      (zRet (eVar (i := 4)))))))))))⟩)
theorem ok_law_bad (T : Txt K mg) : FnOk PP w K mg base (L2.CX PP w) 1 (He.ga K "_law_bad") T.fd_law_bad ["_law_name_here"] (spOf K ds_law_bad) := by
  exact okD (m := m_law_bad) T.F_law_bad sc_law_bad hl_law_bad hm_law_bad (fun cdv A outer s H E hr => ⟨_, (pss_cons (ps_if (PW.pt (pw_or (pt_cmpR op_eq (pv 0) pe_str (nomark _)) (pw_or1 (pt_cmpR op_gt (pe_callB call_len_str (by rfl) T.n_len (by decide +kernel) (pa_cons (pv 0) pa_nil)) pe_int (nomark _)))))
      (pss_one (ps_ret pe_bl))
      pss_nil)
      (pss_one (ps_ret (pe_cmpR op_gt (pe_callB (id := "len") (Cl.len K) (by rfl) T.n_len (by decide +kernel) (pa_cons (pe_lc (own := [("_law_sign", 1)]) rfl sc_law_bad.nd (pi_str (pv 0)) (blkOk_by (N := ["_law_name_here", "_law_sign"]) (sc := defScope s_law_bad) (by decide +kernel)) (fun _ _ _ _ _ => (pg_name (i := 1) sc_law_bad.nd rfl (by first | exact Or.inl rfl | exact Or.inr rfl))) (fun _ _ _ _ _ => (pts_one (pt_cmpR op_notIn_sign (pv 1) pe_str rfl))) (fun _ _ _ _ _ => (pv 1))) pa_nil)) pe_int (nomark _))))), (zSeq (zIf (tOr' (tTest' (eOp r_eq (eVar (i := 0)) eC)) (tTest' (eOp r_gt (eCB1 c_lenS (eVar (i := 0))) eC)))
      (zRet eC)
      zNext)
      (zRet (eOp r_gt (eCB1 c_len (eFz (eLc0 (wStr (eVar (i := 0))) (gw_name (by decide)) gm_name (gNm (i := 1)) (tTest' (eOp r_ninS (eVar (i := 1)) eC)) (eVar (i := 1))))) eC)))⟩)
theorem ok_law_due (T : Txt K mg) : FnOk PP w K mg base (L2.CX PP w) 2 (He.ga K "_law_due") T.fd_law_due ["_law_rows", "_law_name_here", "_law_length"] (spOf K ds_law_due) := by
  have G_law_bad_1 : FnR PP w K mg base (L2.CX PP w) _ _ _ := (ok_law_bad T).raw (b_law_bad_1 T).2 (b_law_bad_1 T).1
  exact okD (m := m_law_due) T.F_law_due sc_law_due hl_law_due hm_law_due (fun cdv A outer s H E hr => ⟨_, (pss_cons (ps_if (pt_val (Cl.pe_f G_law_bad_1 (hr.mono (by decide)) (by rfl) T.m__law_bad T.F_law_bad.kp (fun σ => Cl.at_ (takes_of rfl rfl rfl rfl) σ) (pa_cons (pv 1) pa_nil)))
      (pss_one (ps_ret (pe_tup (pa_cons pe_str (pa_cons (pv 1) pa_nil)))))
      pss_nil)
      (pss_cons (ps_if (pt_cmpR (Cl.inS K) (pv 1) (pe_lc (own := [("_law_row", 3)]) rfl sc_law_due.nd (Cl.piL K (pv 0)) (blkOk_by (N := ["_law_rows", "_law_name_here", "_law_length", "_law_row"]) (sc := defScope s_law_due) (by decide +kernel)) (fun _ _ _ _ _ => (pg_name (i := 3) sc_law_due.nd rfl (by first | exact Or.inl rfl | exact Or.inr rfl))) (fun _ _ _ _ _ => pts_nil) (fun _ _ _ _ _ => (pe_ix (Cl.ixT K) (pv 3) pe_int (fun _ _ => rfl)))) rfl)
      (pss_one (ps_ret (pe_tup (pa_cons pe_str (pa_cons (pv 1) pa_nil)))))
      pss_nil)
      (pss_cons (ps_if (pt_cmpR op_lt (pv 2) pe_int (nomark _))
      (pss_one (ps_ret (pe_tup (pa_cons pe_str (pa_cons (pv 2) pa_nil)))))
      pss_nil)
      (pss_cons (ps_if (pt_cmpR op_gt (pe_callB (id := "len") (Cl.len K) (by rfl) T.n_len (by decide +kernel) (pa_cons (pv 0) pa_nil)) pe_int (nomark _))
      (pss_one (ps_ret (pe_tup (pa_cons pe_str (pa_cons pe_int pa_nil)))))
      pss_nil)
      (pss_one (ps_ret (pe_tup (pa_cons pe_str (pa_cons pe_non pa_nil))))))))), (zSeq (zIf (tVal (eCall (bCons (eVar (i := 1)) bNil) (fun _ => .nil)))
      (zRet (eTup (aCons eC (aCons (eVar (i := 1)) aNil))))
      zNext)
      (zSeq (zIf (tBor (tTest' (eOp (r_in (neg := false)) (eVar (i := 1)) (eFz (eLc0 (wList (eVar (i := 0))) (gw_name (by decide)) gm_name (gNm (i := 3)) tYes' (eOp r_ixT (eVar (i := 3)) eC))))))
      (zRet (eTup (aCons eC (aCons (eVar (i := 1)) aNil))))
      zNext)
      (zSeq (zIf (tTest' (eOp r_lt (eVar (i := 2)) eC))
      (zRet (eTup (aCons eC (aCons (eVar (i := 2)) aNil))))
      zNext)
      (zSeq (zIf (tBor (tTest' (eOp r_gt (eCB1 c_len (eVar (i := 0))) eC)))
      (zRet (eTup (aCons eC (aCons eC aNil))))
      zNext)
      (zRet (eTup (aCons eC (aCons eC aNil))))))))⟩)
theorem ok_law_put (T : Txt K mg) : FnOk PP w K mg base (L2.CX PP w) 3 (He.ga K "_law_put") T.fd_law_put ["_law_rack", "_law_name_here", "_law_length"] (spOf K ds_law_put) := by
  have G_Rack_put_3 : FnR PP w K mg base (L2.CX PP w) _ _ _ := (ok_Rack_put T).raw (b_Rack_put_3 T).2 (b_Rack_put_3 T).1
  exact okD (m := m_law_put) T.F_law_put sc_law_put hl_law_put hm_law_put (fun cdv A outer s H E hr => ⟨_, (pss_cons (TryM.ps_try rfl rfl (takes_of rfl rfl rfl rfl)
      (fun W pn xe tk _ => (pss_one (ps_set (i := 3) sc_law_put.nd rfl (by first | exact Or.inl rfl | exact Or.inr rfl) (Cl.pe_m (pv 0) T.cl_Rack T.me_Rack_put G_Rack_put_3 (hr.mono (by decide)) (fun σ => Cl.at_ tk σ) (pa_cons (pv 1) (pa_cons (pv 2) pa_nil))))))
      (.cons (o := some 4) ⟨rfl, by decide, Or.inl T.m_BadName⟩ ⟨sc_law_put.nd, rfl, rfl⟩ (fun a oe cls d pn hz hf => (pss_one (ps_ret (pe_tup (pa_cons pe_str (pa_cons (pe_xf (errXf T.er_BadName) T.er_BadName.noN hz hf (pv 4)) pa_nil))))))
      (.cons (o := some 4) ⟨rfl, by decide, Or.inl T.m_TakenName⟩ ⟨sc_law_put.nd, rfl, rfl⟩ (fun a oe cls d pn hz hf => (pss_one (ps_ret (pe_tup (pa_cons pe_str (pa_cons (pe_xf (errXf T.er_TakenName) T.er_TakenName.noN hz hf (pv 4)) pa_nil))))))
      (.cons (o := some 4) ⟨rfl, by decide, Or.inl T.m_BadNumber⟩ ⟨sc_law_put.nd, rfl, rfl⟩ (fun a oe cls d pn hz hf => (pss_one (ps_ret (pe_tup (pa_cons pe_str (pa_cons (pe_xf (errXf T.er_BadNumber) T.er_BadNumber.noN hz hf (pv 4)) pa_nil))))))
      (.cons (o := some 4) ⟨rfl, by decide, Or.inl T.m_TooMany⟩ ⟨sc_law_put.nd, rfl, rfl⟩ (fun a oe cls d pn hz hf => (pss_one (ps_ret (pe_tup (pa_cons pe_str (pa_cons (pe_xf (errXf T.er_TooMany) T.er_TooMany.noN hz hf (pv 4)) pa_nil))))))
      .nil)))))
      (pss_one (ps_ret (pe_tup (pa_cons pe_str (pa_cons (pv 3) pa_nil)))))), (zSeq (zTryN (fun X => (zAsg (eMethL (i := 0) (c := 2) (by decide +kernel) (bCons (eVar (i := 1)) (bCons (eVar (i := 2)) bNil)) (fun _ => .nil)) (gNm (i := 3))))
      (.cons (o := some 4) T.tb_p_BadName_ok (fun a dd n => (zRet (eTup (aCons eC (aCons (eXf (c0 := 1) (i := 4)) aNil)))))
      (.cons (o := some 4) T.tb_p_TakenName_ok (fun a dd n => (zRet (eTup (aCons eC (aCons (eXf (c0 := 2) (i := 4)) aNil)))))
      (.cons (o := some 4) T.tb_p_BadNumber_ok (fun a dd n => (zRet (eTup (aCons eC (aCons (eXf (c0 := 0) (i := 4)) aNil)))))
      (.cons (o := some 4) T.tb_p_TooMany_ok (fun a dd n => (zRet (eTup (aCons eC (aCons (eXf (c0 := 5) (i := 4)) aNil)))))
      .nil)))))
      (zRet (eTup (aCons eC (aCons (eVar (i := 3)) aNil)))))⟩)
theorem ok_law_unknown (T : Txt K mg) : FnOk PP w K mg base (L2.CX PP w) 2 (He.ga K "_law_unknown") T.fd_law_unknown ["_law_rack", "_law_name_here"] (spOf K ds_law_unknown) := by
  have G_Rack_length_of_2 : FnR PP w K mg base (L2.CX PP w) _ _ _ := (ok_Rack_length_of T).raw (b_Rack_length_of_2 T).2 (b_Rack_length_of_2 T).1
  exact okD (m := m_law_unknown) T.F_law_unknown sc_law_unknown hl_law_unknown hm_law_unknown (fun cdv A outer s H E hr => ⟨_, (pss_cons (ps_try_as (i := 2) rfl rfl sc_law_unknown.nd rfl rfl ⟨rfl, by decide, Or.inl T.m_UnknownName⟩ (takes_of rfl rfl rfl rfl)
      (fun W pn xe tk _ => (pss_one (ps_expr (Cl.pe_m (pv 0) T.cl_Rack T.me_Rack_length_of G_Rack_length_of_2 (hr.mono (by decide)) (fun σ => Cl.at_ tk σ) (pa_cons (pv 1) pa_nil)))))
      (fun a oe cls d pn hz hf => (pss_one (ps_ret (pe_and (pe_callB (call_isErr hz hf) (by rfl) T.n_isinstance (by decide +kernel) (pa_cons (pv 2) (pa_cons (pe_glob (v := .ref (He.ga K "LadderError")) (by rfl) T.m_LadderError rfl) pa_nil))) (pe_one (pe_cmpR op_eq (pe_xf (errXf T.er_UnknownName) T.er_UnknownName.noN hz hf (pv 2)) (pv 1) (nomark _))))))))
      (pss_one (ps_ret pe_bl))), (zSeq (zTry (tbl := tb_un) (i := 2) T.tb_un_ok (fun X => (zDrop (eMeth (c := 2) (by decide +kernel) (eVar (i := 0)) (bCons (eVar (i := 1)) bNil) (fun _ => .nil))))
      (fun a dd n => (zRet (eAndV (eXIs (i := 2) T.xo_LadderError_o (fun u r => by cases r; rfl)) (eOp r_eq (eXf (c0 := 3) (i := 2)) (eVar (i := 1)))))))
      (zRet eC))⟩)
theorem ok_law_same (T : Txt K mg) : FnOk PP w K mg base (L2.CX PP w) 3 (He.ga K "_law_same") T.fd_law_same ["_law_rack", "_law_rows", "_law_name_here"] (spOf K ds_law_same) := by
  have G_RackU_containsU_2 : FnR PP w K mg base (L2.CX PP w) _ _ _ := (ok_RackU_containsU T).raw (b_RackU_containsU_2 T).2 (b_RackU_containsU_2 T).1
  have G_RackU_lenU_1 : FnR PP w K mg base (L2.CX PP w) _ _ _ := (ok_RackU_lenU T).raw (b_RackU_lenU_1 T).2 (b_RackU_lenU_1 T).1
  have G_Rack_length_of_2 : FnR PP w K mg base (L2.CX PP w) _ _ _ := (ok_Rack_length_of T).raw (b_Rack_length_of_2 T).2 (b_Rack_length_of_2 T).1
  have G_Rack_names_1 : FnR PP w K mg base (L2.CX PP w) _ _ _ := (ok_Rack_names T).raw (b_Rack_names_1 T).2 (b_Rack_names_1 T).1
  have G_law_unknown_2 : FnR PP w K mg base (L2.CX PP w) _ _ _ := (ok_law_unknown T).raw (b_law_unknown_2 T).2 (b_law_unknown_2 T).1
  exact okD (m := m_law_same) T.F_law_same sc_law_same hl_law_same hm_law_same (fun cdv A outer s H E hr => ⟨_, (pss_cons (ps_set (i := 3) sc_law_same.nd rfl (by first | exact Or.inl rfl | exact Or.inr rfl) (Cl.pe_m0 (pv 0) T.cl_Rack T.me_Rack_names G_Rack_names_1 (hr.mono (by decide)) (fun σ => Cl.at_ (takes_of rfl rfl rfl rfl) σ)))
      (pss_cons (ps_if (PW.pt (pw_or (pt_not (pt_val (pe_callB (id := "isinstance") (Cl.isi K) (by rfl) T.n_isinstance (by decide +kernel) (pa_cons (pv 3) (pa_cons (pe_bltn (v := .ty "list") (u := .type "list") (by rfl) T.n_list (by decide +kernel) rfl) pa_nil))))) (pw_or1 (pt_cmpR (Cl.neD K hr.units) (pv 3) (pe_lc (own := [("_law_row", 4)]) rfl sc_law_same.nd (Cl.piL K (pv 1)) (blkOk_by (N := ["_law_rack", "_law_rows", "_law_name_here", "_law_names", "_law_row", "_law_known", "_law_length"]) (sc := defScope s_law_same) (by decide +kernel)) (fun _ _ _ _ _ => (pg_name (i := 4) sc_law_same.nd rfl (by first | exact Or.inl rfl | exact Or.inr rfl))) (fun _ _ _ _ _ => pts_nil) (fun _ _ _ _ _ => (pe_ix (Cl.ixT K) (pv 4) pe_int (fun _ _ => rfl)))) (nomark _)))))
      (pss_one (ps_ret pe_bl))
      pss_nil)
      (pss_cons (ps_expr (pe_bm PySem.F.plainAttrs_list PySem.F.slot_list_append PySem.F.type_list_append mt_append (pv 3) (pa_cons pe_str pa_nil)))
      (pss_cons (ps_if (PW.pt (pw_or (pt_cmpR (Cl.neD K hr.units) (Cl.pe_m0 (pv 0) T.cl_Rack T.me_Rack_names G_Rack_names_1 (hr.mono (by decide)) (fun σ => Cl.at_ (takes_of rfl rfl rfl rfl) σ)) (pe_lc (own := [("_law_row", 4)]) rfl sc_law_same.nd (Cl.piL K (pv 1)) (blkOk_by (N := ["_law_rack", "_law_rows", "_law_name_here", "_law_names", "_law_row", "_law_known", "_law_length"]) (sc := defScope s_law_same) (by decide +kernel)) (fun _ _ _ _ _ => (pg_name (i := 4) sc_law_same.nd rfl (by first | exact Or.inl rfl | exact Or.inr rfl))) (fun _ _ _ _ _ => pts_nil) (fun _ _ _ _ _ => (pe_ix (Cl.ixT K) (pv 4) pe_int (fun _ _ => rfl)))) (nomark _)) (pw_or1 (pt_cmpR op_ne (pe_callB (OpM.lenO K T.ow_Rack_len G_RackU_lenU_1 (hr.mono (by decide)) (fun σ => Cl.none_ σ)) (by rfl) T.n_len (by decide +kernel) (pa_cons (pv 0) pa_nil)) (pe_callB (id := "len") (Cl.len K) (by rfl) T.n_len (by decide +kernel) (pa_cons (pv 1) pa_nil)) (nomark _)))))
      (pss_one (ps_ret pe_bl))
      pss_nil)
      (pss_cons (ps_for (passes_of rfl) rfl (Cl.piL K (pv 1)) (Cl.pgT K (n := 2) (pgs_cons (pg_name (i := 5) sc_law_same.nd rfl (by first | exact Or.inl rfl | exact Or.inr rfl)) (pgs_cons (pg_name (i := 6) sc_law_same.nd rfl (by first | exact Or.inl rfl | exact Or.inr rfl)) pgs_nil)))
      (pss_one (ps_if (PW.pt (pw_or (pt_cmpR op_ne (Cl.pe_m (pv 0) T.cl_Rack T.me_Rack_length_of G_Rack_length_of_2 (hr.mono (by decide)) (fun σ => Cl.at_ (takes_of rfl rfl rfl rfl) σ) (pa_cons (pv 5) pa_nil)) (pv 6) (nomark _)) (pw_or1 (pt_cmpR op_notBl (pe_cmpR (OpM.inO K T.ow_Rack_contains G_RackU_containsU_2 (hr.mono (by decide)) (fun σ => Cl.none_ σ)) (pv 5) (pv 0) rfl) pe_bl (nomark _)))))
      (pss_one (ps_ret pe_bl))
      pss_nil)))
      (pss_cons (ps_if (pt_cmpR (Cl.ninS K) (pv 2) (pe_lc (own := [("_law_row", 4)]) rfl sc_law_same.nd (Cl.piL K (pv 1)) (blkOk_by (N := ["_law_rack", "_law_rows", "_law_name_here", "_law_names", "_law_row", "_law_known", "_law_length"]) (sc := defScope s_law_same) (by decide +kernel)) (fun _ _ _ _ _ => (pg_name (i := 4) sc_law_same.nd rfl (by first | exact Or.inl rfl | exact Or.inr rfl))) (fun _ _ _ _ _ => pts_nil) (fun _ _ _ _ _ => (pe_ix (Cl.ixT K) (pv 4) pe_int (fun _ _ => rfl)))) rfl)
      (pss_one (ps_ret (pe_and (pe_cmpR op_isBl (pe_cmpR (OpM.inO K T.ow_Rack_contains G_RackU_containsU_2 (hr.mono (by decide)) (fun σ => Cl.none_ σ)) (pv 2) (pv 0) rfl) pe_bl (nomark _)) (pe_one (Cl.pe_f G_law_unknown_2 (hr.mono (by decide)) (by rfl) T.m__law_unknown T.F_law_unknown.kp (fun σ => Cl.at_ (takes_of rfl rfl rfl rfl) σ) (pa_cons (pv 0) (pa_cons (pv 2) pa_nil)))))))
      pss_nil)
      (pss_one (ps_ret pe_bl)))))))), (zSeq (zAsg (eMeth (c := 2) (by decide +kernel) (eVar (i := 0)) bNil (fun _ => .nil)) (gNm (i := 3)))
      (zSeq (zIf (tBor (tOr' (tNot' (tVal (eIsi (T := .lst) (eVar (i := 3))))) (tTest' (eOp r_neD (eVar (i := 3)) (eFz (eLc0 (wList (eVar (i := 1))) (gw_name (by decide)) gm_name (gNm (i := 4)) tYes' (eOp r_ixT (eVar (i := 4)) eC)))))))
      (zRet eC)
      zNext)
      (zSeq (zDrop (eApp (i := 3) eC))
      (zSeq (zIf (tOr' (tTest' (eOp r_neD (eFz (eMeth (c := 2) (by decide +kernel) (eVar (i := 0)) bNil (fun _ => .nil))) (eFz (eLc0 (wList (eVar (i := 1))) (gw_name (by decide)) gm_name (gNm (i := 4)) tYes' (eOp r_ixT (eVar (i := 4)) eC))))) (tTest' (eOp r_ne (eCB1 (c_lenO (c := 2) (ds := ds_RackU_lenU)) (eVar (i := 0))) (eCB1 c_len (eVar (i := 1))))))
      (zRet eC)
      zNext)
      (zSeq (zFor (m := m_law_same_L1) (wList (eVar (i := 1))) (gTp (n := 2) (gsCons (gNm (i := 5)) (gsCons (gNm (i := 6)) gsNil)))
      (zIf (tOr' (tTest' (eOp r_ne (eMeth (c := 2) (by decide +kernel) (eVar (i := 0)) (bCons (eVar (i := 5)) bNil) (fun _ => .nil)) (eVar (i := 6)))) (tTest' (eOp r_isntB (eOp (r_inO (c := 2) (ds := ds_RackU_containsU)) (eVar (i := 5)) (eVar (i := 0))) eC)))
      (zRet eC)
      zNext))
      (zSeq (zIf (tTest' (eOp (r_in (neg := true)) (eVar (i := 2)) (eFz (eLc0 (wList (eVar (i := 1))) (gw_name (by decide)) gm_name (gNm (i := 4)) tYes' (eOp r_ixT (eVar (i := 4)) eC)))))
      (zRet (eAndV (eOp r_isB (eOp (r_inO (c := 2) (ds := ds_RackU_containsU)) (eVar (i := 2)) (eVar (i := 0))) eC) (eCall (bCons (eVar (i := 0)) (bCons (eVar (i := 2)) bNil)) (fun _ => .nil))))
      zNext)
      (zRet eC)))))))⟩)
theorem ok_law_refused (T : Txt K mg) : FnOk PP w K mg base (L2.CX PP w) 5 (He.ga K "_law_refused") T.fd_law_refused ["_law_way"] (spOf K ds_law_refused) := by
  have Ge_RackU_initU_Oak_ash_fir_elm_yew_ivy_alder_rowan_lime_holly := oe_RackU_initU (w := w) (mg := mg) (base := base) T (ks := ["Oak", "ash", "fir", "elm", "yew", "ivy", "alder", "rowan", "lime", "holly"]) (by decide) (by decide) (fun _ _ _ _ _ _ us ws h1 h2 => match us, h1, ws, h2 with | [_], _, [_, _, _, _, _, _, _, _, _, _], _ => rfl)
  have Ge_RackU_initU_oak_Ash := oe_RackU_initU (w := w) (mg := mg) (base := base) T (ks := ["oak", "Ash"]) (by decide) (by decide) (fun _ _ _ _ _ _ us ws h1 h2 => match us, h1, ws, h2 with | [_], _, [_, _], _ => rfl)
  have Ge_RackU_initU_oak_ash_fir_elm_yew_ivy_alder_rowan_lime := oe_RackU_initU (w := w) (mg := mg) (base := base) T (ks := ["oak", "ash", "fir", "elm", "yew", "ivy", "alder", "rowan", "lime"]) (by decide) (by decide) (fun _ _ _ _ _ _ us ws h1 h2 => match us, h1, ws, h2 with | [_], _, [_, _, _, _, _, _, _, _, _], _ => rfl)
  exact okD (m := m_law_refused) T.F_law_refused sc_law_refused hl_law_refused hm_law_refused (fun cdv A outer s H E hr => ⟨_, (pss_cons (TryM.ps_try rfl rfl (takes_of rfl rfl rfl rfl)
      (fun W pn xe tk _ => (pss_one (ps_if (pt_cmpR op_eq (pv 0) pe_int (nomark _))
      (pss_one (ps_expr (Cl.pe_mkE T.mk_Rack Ge_RackU_initU_oak_Ash (fun _ _ _ _ h => kwE_len h) (hr.mono (by decide)) (by rfl) T.m_Rack (fun σ => Cl.at_ tk σ) (pk_cons pe_int (pk_cons (pe_un un_neg pe_int) pk_nil)))))
      (pss_one (ps_if (pt_cmpR op_eq (pv 0) pe_int (nomark _))
      (pss_one (ps_expr (Cl.pe_mkE T.mk_Rack Ge_RackU_initU_oak_ash_fir_elm_yew_ivy_alder_rowan_lime (fun _ _ _ _ h => kwE_len h) (hr.mono (by decide)) (by rfl) T.m_Rack (fun σ => Cl.at_ tk σ) (pk_cons (pe_un un_neg pe_int) (pk_cons pe_int (pk_cons pe_int (pk_cons pe_int (pk_cons pe_int (pk_cons pe_int (pk_cons pe_int (pk_cons pe_int (pk_cons pe_int pk_nil))))))))))))
      (pss_one (ps_expr (Cl.pe_mkE T.mk_Rack Ge_RackU_initU_Oak_ash_fir_elm_yew_ivy_alder_rowan_lime_holly (fun _ _ _ _ h => kwE_len h) (hr.mono (by decide)) (by rfl) T.m_Rack (fun σ => Cl.at_ tk σ) (pk_cons pe_int (pk_cons pe_int (pk_cons pe_int (pk_cons pe_int (pk_cons pe_int (pk_cons pe_int (pk_cons pe_int (pk_cons pe_int (pk_cons pe_int (pk_cons pe_int pk_nil))))))))))))))))))
      (.cons (o := some 1) ⟨rfl, by decide, Or.inl T.m_TooMany⟩ ⟨sc_law_refused.nd, rfl, rfl⟩ (fun a oe cls d pn hz hf => (pss_one (ps_ret (pe_tup (pa_cons pe_str (pa_cons (pe_xf (errXf T.er_TooMany) T.er_TooMany.noN hz hf (pv 1)) pa_nil))))))
      (.cons (o := some 1) ⟨rfl, by decide, Or.inl T.m_BadName⟩ ⟨sc_law_refused.nd, rfl, rfl⟩ (fun a oe cls d pn hz hf => (pss_one (ps_ret (pe_tup (pa_cons pe_str (pa_cons (pe_xf (errXf T.er_BadName) T.er_BadName.noN hz hf (pv 1)) pa_nil))))))
      (.cons (o := some 1) ⟨rfl, by decide, Or.inl T.m_BadNumber⟩ ⟨sc_law_refused.nd, rfl, rfl⟩ (fun a oe cls d pn hz hf => (pss_one (ps_ret (pe_tup (pa_cons pe_str (pa_cons (pe_xf (errXf T.er_BadNumber) T.er_BadNumber.noN hz hf (pv 1)) pa_nil))))))
      .nil))))
      (pss_one (ps_ret (pe_tup (pa_cons pe_str (pa_cons pe_int pa_nil)))))), (zSeq (zTryN (fun X => (zIf (tTest' (eOp r_eq (eVar (i := 0)) eC))
      (zDrop (eMakeE (c := 2) (bCons eC (bCons (eUn r_neg eC) bNil))))
      (zIf (tTest' (eOp r_eq (eVar (i := 0)) eC))
      (zDrop (eMakeE (c := 2) (bCons (eUn r_neg eC) (bCons eC (bCons eC (bCons eC (bCons eC (bCons eC (bCons eC (bCons eC (bCons eC bNil)))))))))))
      (zDrop (eMakeE (c := 2) (bCons eC (bCons eC (bCons eC (bCons eC (bCons eC (bCons eC (bCons eC (bCons eC (bCons eC (bCons eC bNil)))))))))))))))
      (.cons (o := some 1) T.tb_r_TooMany_ok (fun a dd n => (zRet (eTup (aCons eC (aCons (eXf (c0 := 5) (i := 1)) aNil)))))
      (.cons (o := some 1) T.tb_r_BadName_ok (fun a dd n => (zRet (eTup (aCons eC (aCons (eXf (c0 := 1) (i := 1)) aNil)))))
      (.cons (o := some 1) T.tb_r_BadNumber_ok (fun a dd n => (zRet (eTup (aCons eC (aCons (eXf (c0 := 0) (i := 1)) aNil)))))
      .nil))))
      (zRet (eTup (aCons eC (aCons eC aNil)))))⟩)
theorem ok_law_keywords (T : Txt K mg) : FnOk PP w K mg base (L2.CX PP w) 5 (He.ga K "_law_keywords") T.fd_law_keywords ["_law_value", "_law_rest"] (spOf K ds_law_keywords) := by
  have Ge_RackU_initU_ash_fir_oak_elm_yew_ivy_alder_rowan := oe_RackU_initU (w := w) (mg := mg) (base := base) T (ks := ["ash", "fir", "oak", "elm", "yew", "ivy", "alder", "rowan"]) (by decide) (by decide) (fun _ _ _ _ _ _ us ws h1 h2 => match us, h1, ws, h2 with | [_], _, [_, _, _, _, _, _, _, _], _ => rfl)
  have Ge_RackU_initU_ash_fir_oak_elm_yew_ivy_alder_rowan_lime := oe_RackU_initU (w := w) (mg := mg) (base := base) T (ks := ["ash", "fir", "oak", "elm", "yew", "ivy", "alder", "rowan", "lime"]) (by decide) (by decide) (fun _ _ _ _ _ _ us ws h1 h2 => match us, h1, ws, h2 with | [_], _, [_, _, _, _, _, _, _, _, _], _ => rfl)
  exact okD (m := m_law_keywords) T.F_law_keywords sc_law_keywords hl_law_keywords hm_law_keywords (fun cdv A outer s H E hr => ⟨_, (pss_cons (TryM.ps_try rfl rfl (takes_of rfl rfl rfl rfl)
      (fun W pn xe tk _ => (pss_cons (ps_expr (Cl.pe_mkE T.mk_Rack Ge_RackU_initU_ash_fir_oak_elm_yew_ivy_alder_rowan (fun _ _ _ _ h => kwE_len h) (hr.mono (by decide)) (by rfl) T.m_Rack (fun σ => Cl.at_ tk σ) (pk_cons (pv 0) (pk_cons (pv 0) (pk_cons pe_int (pk_cons pe_int (pk_cons pe_int (pk_cons pe_int (pk_cons pe_int (pk_cons (pv 1) pk_nil))))))))))
      (pss_one (ps_expr (Cl.pe_mkE T.mk_Rack Ge_RackU_initU_ash_fir_oak_elm_yew_ivy_alder_rowan_lime (fun _ _ _ _ h => kwE_len h) (hr.mono (by decide)) (by rfl) T.m_Rack (fun σ => Cl.at_ tk σ) (pk_cons (pv 0) (pk_cons (pv 0) (pk_cons pe_int (pk_cons pe_int (pk_cons pe_int (pk_cons pe_int (pk_cons pe_int (pk_cons (pv 1) (pk_cons pe_int pk_nil))))))))))))))
      (.cons (o := some 2) ⟨rfl, by decide, Or.inl T.m_TooMany⟩ ⟨sc_law_keywords.nd, rfl, rfl⟩ (fun a oe cls d pn hz hf => (pss_one (ps_ret (pe_tup (pa_cons pe_str (pa_cons (pe_xf (errXf T.er_TooMany) T.er_TooMany.noN hz hf (pv 2)) pa_nil))))))
      (.cons (o := some 2) ⟨rfl, by decide, Or.inl T.m_BadNumber⟩ ⟨sc_law_keywords.nd, rfl, rfl⟩ (fun a oe cls d pn hz hf => (pss_one (ps_ret (pe_tup (pa_cons pe_str (pa_cons (pe_xf (errXf T.er_BadNumber) T.er_BadNumber.noN hz hf (pv 2)) pa_nil))))))
      .nil)))
      (pss_one (ps_ret (pe_tup (pa_cons pe_str (pa_cons pe_int pa_nil)))))), (zSeq (zTryN (fun X => (zSeq (zDrop (eMakeE (c := 2) (bCons (eVar (i := 0)) (bCons (eVar (i := 0)) (bCons eC (bCons eC (bCons eC (bCons eC (bCons eC (bCons (eVar (i := 1)) bNil))))))))))
      (zDrop (eMakeE (c := 2) (bCons (eVar (i := 0)) (bCons (eVar (i := 0)) (bCons eC (bCons eC (bCons eC (bCons eC (bCons eC (bCons (eVar (i := 1)) (bCons eC bNil)))))))))))))
      (.cons (o := some 2) T.tb_k_TooMany_ok (fun a dd n => (zRet (eTup (aCons eC (aCons (eXf (c0 := 5) (i := 2)) aNil)))))
      (.cons (o := some 2) T.tb_k_BadNumber_ok (fun a dd n => (zRet (eTup (aCons eC (aCons (eXf (c0 := 0) (i := 2)) aNil)))))
      .nil)))
      (zRet (eTup (aCons eC (aCons eC aNil)))))⟩)
theorem ok_law (T : Txt K mg) : FnOk PP w K mg base (L2.CX PP w) 6 (He.ga K "law") T.fd_law ["_law_script"] (spOf K ds_law) := by
  have G_RackU_initU : FnR PP w K mg base (L2.CX PP w) _ _ _ := ok_RackU_initU T
  have Ge_RackU_initU_birch_ash := oe_RackU_initU (w := w) (mg := mg) (base := base) T (ks := ["birch", "ash"]) (by decide) (by decide) (fun _ _ _ _ _ _ us ws h1 h2 => match us, h1, ws, h2 with | [_], _, [_, _], _ => rfl)
  have G_RackU_lenU_1 : FnR PP w K mg base (L2.CX PP w) _ _ _ := (ok_RackU_lenU T).raw (b_RackU_lenU_1 T).2 (b_RackU_lenU_1 T).1
  have G_law_box_1 : FnR PP w K mg base (L2.CX PP w) _ _ _ := (ok_law_box T).raw (b_law_box_1 T).2 (b_law_box_1 T).1
  have G_law_due_3 : FnR PP w K mg base (L2.CX PP w) _ _ _ := (ok_law_due T).raw (b_law_due_3 T).2 (b_law_due_3 T).1
  have G_law_keywords_2 : FnR PP w K mg base (L2.CX PP w) _ _ _ := (ok_law_keywords T).raw (b_law_keywords_2 T).2 (b_law_keywords_2 T).1
  have G_law_name_2 : FnR PP w K mg base (L2.CX PP w) _ _ _ := (ok_law_name T).raw (b_law_name_2 T).2 (b_law_name_2 T).1
  have G_law_put_3 : FnR PP w K mg base (L2.CX PP w) _ _ _ := (ok_law_put T).raw (b_law_put_3 T).2 (b_law_put_3 T).1
  have G_law_refused_1 : FnR PP w K mg base (L2.CX PP w) _ _ _ := (ok_law_refused T).raw (b_law_refused_1 T).2 (b_law_refused_1 T).1
  have G_law_same_3 : FnR PP w K mg base (L2.CX PP w) _ _ _ := (ok_law_same T).raw (b_law_same_3 T).2 (b_law_same_3 T).1
  have G_law_take_2 : FnR PP w K mg base (L2.CX PP w) _ _ _ := (ok_law_take T).raw (b_law_take_2 T).2 (b_law_take_2 T).1
  exact okD (m := m_law) T.F_law sc_law hl_law hm_law (fun cdv A outer s H E hr => ⟨_, (pss_cons (ps_set (i := 1) sc_law.nd rfl (by first | exact Or.inl rfl | exact Or.inr rfl) (Cl.pe_f G_law_box_1 (hr.mono (by decide)) (by rfl) T.m__law_box T.F_law_box.kp (fun σ => Cl.at_ (takes_of rfl rfl rfl rfl) σ) (pa_cons (pv 0) pa_nil)))
      (pss_cons (ps_set (i := 2) sc_law.nd rfl (by first | exact Or.inl rfl | exact Or.inr rfl) (Cl.pe_mk0 T.mk_Rack G_RackU_initU (hr.mono (by decide)) (by rfl) T.m_Rack (fun σ => Cl.at_ (takes_of rfl rfl rfl rfl) σ)))
      (pss_cons (ps_set (i := 3) sc_law.nd rfl (by first | exact Or.inl rfl | exact Or.inr rfl) (pe_lst pa_nil))
      (pss_cons (ps_if (pt_cmpR op_eq (Cl.pe_f G_law_take_2 (hr.mono (by decide)) (by rfl) T.m__law_take T.F_law_take.kp (fun σ => Cl.at_ (takes_of rfl rfl rfl rfl) σ) (pa_cons (pv 1) (pa_cons pe_int pa_nil))) pe_int (nomark _))
      (pss_cons (ps_set (i := 4) sc_law.nd rfl (by first | exact Or.inl rfl | exact Or.inr rfl) (Cl.pe_f G_law_take_2 (hr.mono (by decide)) (by rfl) T.m__law_take T.F_law_take.kp (fun σ => Cl.at_ (takes_of rfl rfl rfl rfl) σ) (pa_cons (pv 1) (pa_cons (pe_op op_pow pe_int pe_int) pa_nil))))
      (pss_cons (ps_set (i := 5) sc_law.nd rfl (by first | exact Or.inl rfl | exact Or.inr rfl) (Cl.pe_f G_law_take_2 (hr.mono (by decide)) (by rfl) T.m__law_take T.F_law_take.kp (fun σ => Cl.at_ (takes_of rfl rfl rfl rfl) σ) (pa_cons (pv 1) (pa_cons (pe_op op_pow pe_int pe_int) pa_nil))))
      (pss_cons (ps_set (i := 2) sc_law.nd rfl (by first | exact Or.inl rfl | exact Or.inr rfl) (Cl.pe_mkE T.mk_Rack Ge_RackU_initU_birch_ash (fun _ _ _ _ h => kwE_len h) (hr.mono (by decide)) (by rfl) T.m_Rack (fun σ => Cl.at_ (takes_of rfl rfl rfl rfl) σ) (pk_cons (pv 4) (pk_cons (pv 5) pk_nil))))
      (pss_one (ps_set (i := 3) sc_law.nd rfl (by first | exact Or.inl rfl | exact Or.inr rfl) (pe_lst (pa_cons (pe_tup (pa_cons pe_str (pa_cons (pv 4) pa_nil))) (pa_cons (pe_tup (pa_cons pe_str (pa_cons (pv 5) pa_nil))) pa_nil))))))))
      pss_nil)
      (pss_cons (ps_if (pt_not (pt_val (Cl.pe_f G_law_same_3 (hr.mono (by decide)) (by rfl) T.m__law_same T.F_law_same.kp (fun σ => Cl.at_ (takes_of rfl rfl rfl rfl) σ) (pa_cons (pv 2) (pa_cons (pv 3) (pa_cons pe_str pa_nil))))))
      (pss_one (ps_ret pe_bl))
      pss_nil)
      (pss_cons (ps_for (passes_of rfl) rfl (pi_range1 (by rfl) T.n_range (pa_cons (Cl.pe_f G_law_take_2 (hr.mono (by decide)) (by rfl) T.m__law_take T.F_law_take.kp (fun σ => Cl.at_ (takes_of rfl rfl rfl rfl) σ) (pa_cons (pv 1) (pa_cons pe_int pa_nil))) pa_nil)) (pg_name (i := 6) sc_law.nd rfl (by first | exact Or.inl rfl | exact Or.inr rfl))
      (pss_cons (ps_set (i := 7) sc_law.nd rfl (by first | exact Or.inl rfl | exact Or.inr rfl) (Cl.pe_f G_law_name_2 (hr.mono (by decide)) (by rfl) T.m__law_name T.F_law_name.kp (fun σ => Cl.at_ (takes_of rfl rfl rfl rfl) σ) (pa_cons (pv 1) (pa_cons (pv 3) pa_nil))))
      (pss_cons (ps_set (i := 8) sc_law.nd rfl (by first | exact Or.inl rfl | exact Or.inr rfl) (Cl.pe_f G_law_take_2 (hr.mono (by decide)) (by rfl) T.m__law_take T.F_law_take.kp (fun σ => Cl.at_ (takes_of rfl rfl rfl rfl) σ) (pa_cons (pv 1) (pa_cons (pe_ix (Cl.ixL K) (pe_lst (pa_cons pe_int (pa_cons (pe_op op_pow pe_int pe_int) pa_nil))) (Cl.pe_f G_law_take_2 (hr.mono (by decide)) (by rfl) T.m__law_take T.F_law_take.kp (fun σ => Cl.at_ (takes_of rfl rfl rfl rfl) σ) (pa_cons (pv 1) (pa_cons pe_int pa_nil))) (fun _ _ => rfl)) pa_nil))))
      (pss_cons (ps_if (pt_cmpR op_eq (Cl.pe_f G_law_take_2 (hr.mono (by decide)) (by rfl) T.m__law_take T.F_law_take.kp (fun σ => Cl.at_ (takes_of rfl rfl rfl rfl) σ) (pa_cons (pv 1) (pa_cons pe_int pa_nil))) pe_int (nomark _))
      (pss_one (ps_set (i := 8) sc_law.nd rfl (by first | exact Or.inl rfl | exact Or.inr rfl) (pe_op op_sub (pe_un un_neg pe_int) (pv 8))))
      pss_nil)
      (pss_cons (ps_set (i := 9) sc_law.nd rfl (by first | exact Or.inl rfl | exact Or.inr rfl) (Cl.pe_f G_law_due_3 (hr.mono (by decide)) (by rfl) T.m__law_due T.F_law_due.kp (fun σ => Cl.at_ (takes_of rfl rfl rfl rfl) σ) (pa_cons (pv 3) (pa_cons (pv 7) (pa_cons (pv 8) pa_nil)))))
      (pss_cons (ps_if (pt_cmpR (Cl.neD K hr.units) (Cl.pe_f G_law_put_3 (hr.mono (by decide)) (by rfl) T.m__law_put T.F_law_put.kp (fun σ => Cl.at_ (takes_of rfl rfl rfl rfl) σ) (pa_cons (pv 2) (pa_cons (pv 7) (pa_cons (pv 8) pa_nil)))) (pv 9) (nomark _))
      (pss_one (ps_ret pe_bl))
      pss_nil)
      (pss_cons (ps_if (pt_cmpR op_eq (pe_ix (Cl.ixT K) (pv 9) pe_int (fun _ _ => rfl)) pe_str (nomark _))
      (pss_one (ps_expr (pe_bm PySem.F.plainAttrs_list PySem.F.slot_list_append PySem.F.type_list_append mt_append (pv 3) (pa_cons (pe_tup (pa_cons (pv 7) (pa_cons (pv 8) pa_nil))) pa_nil))))
      pss_nil)
      (pss_one (ps_if (pt_not (pt_val (Cl.pe_f G_law_same_3 (hr.mono (by decide)) (by rfl) T.m__law_same T.F_law_same.kp (fun σ => Cl.at_ (takes_of rfl rfl rfl rfl) σ) (pa_cons (pv 2) (pa_cons (pv 3) (pa_cons (pv 7) pa_nil))))))
      (pss_one (ps_ret pe_bl))
      pss_nil)))))))))
      (pss_cons (ps_if (pt_cmpR (Cl.neD K hr.units) (pe_lc (own := [("_law_way", 10)]) rfl sc_law.nd (pi_range1 (by rfl) T.n_range (pa_cons pe_int pa_nil)) (blkOk_by (N := ["_law_script", "_law_box_here", "_law_rack", "_law_rows", "_law_first", "_law_second", "_law_k", "_law_name_here", "_law_length", "_law_due_here", "_law_way", "_law_value"]) (sc := defScope s_law) (by decide +kernel)) (fun _ _ _ _ _ => (pg_name (i := 10) sc_law.nd rfl (by first | exact Or.inl rfl | exact Or.inr rfl))) (fun _ _ _ _ _ => pts_nil) (fun _ _ _ _ _ => (Cl.pe_f G_law_refused_1 (hr.mono (by decide)) (by rfl) T.m__law_refused T.F_law_refused.kp (E := fun _ _ _ _ => False) (fun σ => Cl.none_ σ) (pa_cons (pv 10) pa_nil)))) (pe_lst (pa_cons (pe_tup (pa_cons pe_str (pa_cons pe_str pa_nil))) (pa_cons (pe_tup (pa_cons pe_str (pa_cons pe_int pa_nil))) (pa_cons (pe_tup (pa_cons pe_str (pa_cons pe_int pa_nil))) pa_nil)))) (nomark _))
      (pss_one (ps_ret pe_bl))
      pss_nil)
      (pss_cons (ps_set (i := 11) sc_law.nd rfl (by first | exact Or.inl rfl | exact Or.inr rfl) (Cl.pe_f G_law_take_2 (hr.mono (by decide)) (by rfl) T.m__law_take T.F_law_take.kp (fun σ => Cl.at_ (takes_of rfl rfl rfl rfl) σ) (pa_cons (pv 1) (pa_cons pe_int pa_nil))))
      (pss_cons (ps_if (pt_cmpR (Cl.neD K hr.units) (Cl.pe_f G_law_keywords_2 (hr.mono (by decide)) (by rfl) T.m__law_keywords T.F_law_keywords.kp (fun σ => Cl.at_ (takes_of rfl rfl rfl rfl) σ) (pa_cons (pv 11) (pa_cons (pe_op op_sub (pe_un un_neg pe_int) (pv 11)) pa_nil))) (pe_tup (pa_cons pe_str (pa_cons (pe_op op_sub (pe_un un_neg pe_int) (pv 11)) pa_nil))) (nomark _))
      (pss_one (ps_ret pe_bl))
      pss_nil)
      (pss_one (ps_ret (pe_and (pe_cmpR (Cl.eqD K hr.units) (Cl.pe_f G_law_keywords_2 (hr.mono (by decide)) (by rfl) T.m__law_keywords T.F_law_keywords.kp (fun σ => Cl.at_ (takes_of rfl rfl rfl rfl) σ) (pa_cons (pv 11) (pa_cons (pv 11) pa_nil))) (pe_tup (pa_cons pe_str (pa_cons pe_int pa_nil))) (nomark _)) (pe_one (pe_cmpR op_eq (pe_callB (OpM.lenO K T.ow_Rack_len G_RackU_lenU_1 (hr.mono (by decide)) (fun σ => Cl.none_ σ)) (by rfl) T.n_len (by decide +kernel) (pa_cons (Cl.pe_mk0 T.mk_Rack G_RackU_initU (hr.mono (by decide)) (by rfl) T.m_Rack (fun σ => Cl.at_ (takes_of rfl rfl rfl rfl) σ)) pa_nil)) pe_int (nomark _))))))))))))))), (zSeq (zAsg (eBox (eVar (i := 0))) (gNm (i := 1)))
      (zSeq (zAsg (eMake (c := 2) bNil (fun _ => .nil)) (gNm (i := 2)))
      (zSeq (zAsg (eLst aNil) (gNm (i := 3)))
      (zSeq (zIf (tTest' (eOp r_eq (eTake (i := 1) eC) eC))
      (zSeq (zAsg (eTake (i := 1) (ePow (a := 10) (b := 20) (n := 100000000000000000000) ⟨by decide, by decide, by decide⟩ (by decide +kernel))) (gNm (i := 4)))
      (zSeq (zAsg (eTake (i := 1) (ePow (a := 10) (b := 20) (n := 100000000000000000000) ⟨by decide, by decide, by decide⟩ (by decide +kernel))) (gNm (i := 5)))
      (zSeq (zAsg (eMakeE (c := 2) (bCons (eVar (i := 4)) (bCons (eVar (i := 5)) bNil))) (gNm (i := 2)))
      (zAsg (eLst (aCons (eTup (aCons eC (aCons (eVar (i := 4)) aNil))) (aCons (eTup (aCons eC (aCons (eVar (i := 5)) aNil))) aNil))) (gNm (i := 3))))))
      zNext)
      (zSeq (zIf (tBor (tNot' (tVal (eCall (bCons (eVar (i := 2)) (bCons (eVar (i := 3)) (bCons eC bNil))) (fun _ => .nil)))))
      (zRet eC)
      zNext)
      (zSeq (zFor (m := m_law_L1) (wR1 (eTake (i := 1) eC)) (gNm (i := 6))
      (zSeq (zAsg (eCall (bLent (i := 1) (bLent (i := 3) bNil)) (fun _ => .nil)) (gNm (i := 7)))
      (zSeq (zAsg (eTake (i := 1) (eOp r_ixL (eFz (eLst (aCons eC (aCons (ePow (a := 10) (b := 20) (n := 100000000000000000000) ⟨by decide, by decide, by decide⟩ (by decide +kernel)) aNil)))) (eTake (i := 1) eC))) (gNm (i := 8)))
      (zSeq (zIf (tTest' (eOp r_eq (eTake (i := 1) eC) eC))
      (zAsg (eOp r_sub (eUn r_neg eC) (eVar (i := 8))) (gNm (i := 8)))
      zNext)
      (zSeq (zAsg (eCall (bLent (i := 3) (bCons (eVar (i := 7)) (bCons (eVar (i := 8)) bNil))) (fun _ => .nil)) (gNm (i := 9)))
      (zSeq (zIf (tTest' (eOp r_neD (eCall (bLent (i := 2) (bCons (eVar (i := 7)) (bCons (eVar (i := 8)) bNil))) (fun _ => .nil)) (eVar (i := 9))))
      (zRet eC)
      zNext)
      (zSeq (zIf (tTest' (eOp r_eq (eOp r_ixT (eVar (i := 9)) eC) eC))
      (zDrop (eApp (i := 3) (eTup (aCons (eVar (i := 7)) (aCons (eVar (i := 8)) aNil)))))
      zNext)
      (zIf (tBor (tNot' (tVal (eCall (bCons (eVar (i := 2)) (bCons (eVar (i := 3)) (bCons (eVar (i := 7)) bNil))) (fun _ => .nil)))))
      (zRet eC)
      zNext))))))))
      (zSeq (zIf (tTest' (eOp r_neD (eFz (eLc0 (wR1 eC) (gw_name (by decide)) gm_name (gNm (i := 10)) tYes' (eCall (bCons (eVar (i := 10)) bNil) (fun _ => .nil)))) (eFz (eLst (aCons (eTup (aCons eC (aCons eC aNil))) (aCons (eTup (aCons eC (aCons eC aNil))) (aCons (eTup (aCons eC (aCons eC aNil))) aNil)))))))
      (zRet eC)
      zNext)
      (zSeq (zAsg (eTake (i := 1) eC) (gNm (i := 11)))
      (zSeq (zIf (tTest' (eOp r_neD (eCall (bCons (eVar (i := 11)) (bCons (eOp r_sub (eUn r_neg eC) (eVar (i := 11))) bNil)) (fun _ => .nil)) (eTup (aCons eC (aCons (eOp r_sub (eUn r_neg eC) (eVar (i := 11))) aNil)))))
      (zRet eC)
      zNext)
      (zRet (eAndV (eOp r_eqD (eCall (bCons (eVar (i := 11)) (bCons (eVar (i := 11)) bNil)) (fun _ => .nil)) (eTup (aCons eC (aCons eC aNil)))) (eOp r_eq (eCB1 (c_lenO (c := 2) (ds := ds_RackU_lenU)) (eFz (eMake (c := 2) bNil (fun _ => .nil)))) eC))))))))))))⟩)
def sp_law (K : PySem.W.Frag) : Sp := fun vs H Q _ => ∃ (a : Addr) (ns : List Int), vs = [.ref a] ∧ SqL K H a (ns.map V.int) ∧ ns.length ≤ 63 ∧ ∀ H', Q (.bl true) H'
theorem ok_law0 (T : Txt K mg) : FnOk PP w K mg base CX0 6 (He.ga K "law") T.fd_law ["_law_script"] (sp_law K) := fn_calm ((ok_law T).imp fun vs H Q E h => by
  obtain ⟨a, ns, rfl, hS, hl, k⟩ := h
  refine ⟨H, [.sh .scr], [], Le.rfl, .cons (f := []) (.sh (.scr hS)) .nil, List.nodup_nil, fun a ha => (by cases ha), ds_law.mono (fun r as' e v H' hr => ?_) (fun _ _ z => z.elim) law_true⟩
  subst e
  obtain rfl := hr.topv (u := .bl true) rfl
  exact k H') fun _ _ _ _ h => h
end
theorem facts {K : PySem.W.Frag} {h : Heap} {mg : Str → Option Value} (X : K.In h) (G : h.Ns mainGlobals mg) (c : Hd.SaysP fnL erL exL K) : Nonempty (Txt K mg) := by
  have c0 : ((faL.all fun f => f.ok K) && (Hd.errB PP K "BadNumber" "value" "BadNumber.__init__" && (Hd.errB PP K "BadName" "name" "BadName.__init__" && (Hd.errB PP K "TakenName" "name" "TakenName.__init__" && (Hd.errB PP K "UnknownName" "name" "UnknownName.__init__" && (Hd.errB PP K "TooMany" "count" "TooMany.__init__" && (excB K (He.ga K "UnknownName") && (excB K (He.ga K "BadName") && (excB K (He.ga K "TakenName") && (excB K (He.ga K "BadNumber") && (excB K (He.ga K "TooMany") && (decide (PySem.W.kitOne K (.ref (He.ga K "UnknownName")) (.ref (He.ga K "LadderError")) = some true) && (OpM.ownB K (He.ga K "Rack") "__len__" (He.ma K (He.ga K "Rack") "__len__") && (OpM.ownB K (He.ga K "Rack") "__contains__" (He.ma K (He.ga K "Rack") "__contains__") && true)))))))))))))) = true := c.more
  obtain ⟨c1, c2⟩ := He.ba c0
  have ff : ∀ f ∈ faL, f.ok K = true := List.all_eq_true.mp c1
  obtain ⟨fd0, F0⟩ := c.def_ 0 (d := d_law_box) rfl
  obtain ⟨fd1, F1⟩ := c.def_ 1 (d := d_law_take) rfl
  obtain ⟨fd2, F2⟩ := c.def_ 2 (d := d_check_name) rfl
  obtain ⟨fd3, F3⟩ := c.def_ 3 (d := d_Rack_put) rfl
  obtain ⟨fd4, F4⟩ := c.def_ 4 (d := d_RackU_initU) rfl
  obtain ⟨fd5, F5⟩ := c.def_ 5 (d := d_Rack_names) rfl
  obtain ⟨fd6, F6⟩ := c.def_ 6 (d := d_RackU_lenU) rfl
  obtain ⟨fd7, F7⟩ := c.def_ 7 (d := d_RackU_containsU) rfl
  obtain ⟨fd8, F8⟩ := c.def_ 8 (d := d_Rack_length_of) rfl
  obtain ⟨fd9, F9⟩ := c.def_ 9 (d := d_law_name) rfl
  obtain ⟨fd10, F10⟩ := c.def_ 10 (d := d_law_bad) rfl
  obtain ⟨fd11, F11⟩ := c.def_ 11 (d := d_law_due) rfl
  obtain ⟨fd12, F12⟩ := c.def_ 12 (d := d_law_put) rfl
  obtain ⟨fd13, F13⟩ := c.def_ 13 (d := d_law_unknown) rfl
  obtain ⟨fd14, F14⟩ := c.def_ 14 (d := d_law_same) rfl
  obtain ⟨fd15, F15⟩ := c.def_ 15 (d := d_law_refused) rfl
  obtain ⟨fd16, F16⟩ := c.def_ 16 (d := d_law_keywords) rfl
  obtain ⟨fd17, F17⟩ := c.def_ 17 (d := d_law) rfl
  obtain ⟨z0, c2⟩ := He.ba c2
  obtain ⟨z1, c2⟩ := He.ba c2
  obtain ⟨z2, c2⟩ := He.ba c2
  obtain ⟨z3, c2⟩ := He.ba c2
  obtain ⟨z4, c2⟩ := He.ba c2
  obtain ⟨z5, c2⟩ := He.ba c2
  obtain ⟨z6, c2⟩ := He.ba c2
  obtain ⟨z7, c2⟩ := He.ba c2
  obtain ⟨z8, c2⟩ := He.ba c2
  obtain ⟨z9, c2⟩ := He.ba c2
  obtain ⟨z10, c2⟩ := He.ba c2
  obtain ⟨z11, c2⟩ := He.ba c2
  obtain ⟨z12, c2⟩ := He.ba c2
  exact ⟨Txt.mk (fd0)
    (F0)
    (fd1)
    (F1)
    (fd2)
    (F2)
    (fd3)
    (F3)
    (fd4)
    (F4)
    (fd5)
    (F5)
    (fd6)
    (F6)
    (fd7)
    (F7)
    (fd8)
    (F8)
    (fd9)
    (F9)
    (fd10)
    (F10)
    (fd11)
    (F11)
    (fd12)
    (F12)
    (fd13)
    (F13)
    (fd14)
    (F14)
    (fd15)
    (F15)
    (fd16)
    (F16)
    (fd17)
    (F17)
    (He.glo_ok X G (ff (.glo "BadName") (by simp [faL])))
    (He.glo_ok X G (ff (.glo "BadNumber") (by simp [faL])))
    (Hd.str_tk (He.str_ok X G (ff (.str "LETTERS" "abcdefghijklmnopqrstuvwxyz") (by simp [faL]))))
    (He.glo_ok X G (ff (.glo "LadderError") (by simp [faL])))
    (Hd.int_tk (He.int_ok X G (ff (.int "MOST_LADDERS" (8)) (by simp [faL]))))
    (He.glo_ok X G (ff (.glo "Rack") (by simp [faL])))
    (He.glo_ok X G (ff (.glo "TakenName") (by simp [faL])))
    (He.glo_ok X G (ff (.glo "TooMany") (by simp [faL])))
    (He.glo_ok X G (ff (.glo "UnknownName") (by simp [faL])))
    (He.glo_ok X G (ff (.glo "_law_bad") (by simp [faL])))
    (He.glo_ok X G (ff (.glo "_law_box") (by simp [faL])))
    (He.glo_ok X G (ff (.glo "_law_due") (by simp [faL])))
    (He.glo_ok X G (ff (.glo "_law_keywords") (by simp [faL])))
    (He.glo_ok X G (ff (.glo "_law_name") (by simp [faL])))
    (He.glo_ok X G (ff (.glo "_law_put") (by simp [faL])))
    (He.glo_ok X G (ff (.glo "_law_refused") (by simp [faL])))
    (He.glo_ok X G (ff (.glo "_law_same") (by simp [faL])))
    (He.glo_ok X G (ff (.glo "_law_take") (by simp [faL])))
    (He.glo_ok X G (ff (.glo "_law_unknown") (by simp [faL])))
    (He.glo_ok X G (ff (.glo "check_name") (by simp [faL])))
    (He.glo_ok X G (ff (.glo "law") (by simp [faL])))
    (He.free_ok X G (ff (.free "int") (by simp [faL])))
    (He.free_ok X G (ff (.free "isinstance") (by simp [faL])))
    (He.free_ok X G (ff (.free "len") (by simp [faL])))
    (He.free_ok X G (ff (.free "list") (by simp [faL])))
    (He.free_ok X G (ff (.free "range") (by simp [faL])))
    (He.free_ok X G (ff (.free "super") (by simp [faL])))
    (He.cls_ok (ff (.cls "Rack") (by simp [faL])))
    (He.noat_ok (ff (.noat "Rack" "rows") (by simp [faL])))
    (He.meth_ok (ff (.meth "Rack" "length_of") (by simp [faL])))
    (He.meth_ok (ff (.meth "Rack" "names") (by simp [faL])))
    (He.meth_ok (ff (.meth "Rack" "put") (by simp [faL])))
    (He.mkr_ok (ff (.mkr "Rack") (by simp [faL])))
    (He.exm_ok (ff (.exm "UnknownName" "UnknownName" true) (by simp [faL])))
    (He.exm_ok (ff (.exm "UnknownName" "BadName" false) (by simp [faL])))
    (He.exm_ok (ff (.exm "UnknownName" "TakenName" false) (by simp [faL])))
    (He.exm_ok (ff (.exm "UnknownName" "BadNumber" false) (by simp [faL])))
    (He.exm_ok (ff (.exm "UnknownName" "TooMany" false) (by simp [faL])))
    (He.exm_ok (ff (.exm "BadName" "UnknownName" false) (by simp [faL])))
    (He.exm_ok (ff (.exm "BadName" "BadName" true) (by simp [faL])))
    (He.exm_ok (ff (.exm "BadName" "TakenName" false) (by simp [faL])))
    (He.exm_ok (ff (.exm "BadName" "BadNumber" false) (by simp [faL])))
    (He.exm_ok (ff (.exm "BadName" "TooMany" false) (by simp [faL])))
    (He.exm_ok (ff (.exm "TakenName" "UnknownName" false) (by simp [faL])))
    (He.exm_ok (ff (.exm "TakenName" "BadName" false) (by simp [faL])))
    (He.exm_ok (ff (.exm "TakenName" "TakenName" true) (by simp [faL])))
    (He.exm_ok (ff (.exm "TakenName" "BadNumber" false) (by simp [faL])))
    (He.exm_ok (ff (.exm "TakenName" "TooMany" false) (by simp [faL])))
    (He.exm_ok (ff (.exm "BadNumber" "UnknownName" false) (by simp [faL])))
    (He.exm_ok (ff (.exm "BadNumber" "BadName" false) (by simp [faL])))
    (He.exm_ok (ff (.exm "BadNumber" "TakenName" false) (by simp [faL])))
    (He.exm_ok (ff (.exm "BadNumber" "BadNumber" true) (by simp [faL])))
    (He.exm_ok (ff (.exm "BadNumber" "TooMany" false) (by simp [faL])))
    (He.exm_ok (ff (.exm "TooMany" "UnknownName" false) (by simp [faL])))
    (He.exm_ok (ff (.exm "TooMany" "BadName" false) (by simp [faL])))
    (He.exm_ok (ff (.exm "TooMany" "TakenName" false) (by simp [faL])))
    (He.exm_ok (ff (.exm "TooMany" "BadNumber" false) (by simp [faL])))
    (He.exm_ok (ff (.exm "TooMany" "TooMany" true) (by simp [faL])))
    (Hd.err_mk (x := "value") (msg := "number out of range") (p1 := ⟨9, 17, 9, 21⟩) (p2 := ⟨9, 23, 9, 28⟩) (q1 := ⟨10, 8, 10, 13⟩) (q2 := ⟨10, 8, 10, 15⟩) (q3 := ⟨10, 8, 10, 24⟩) (q4 := ⟨10, 25, 10, 46⟩) (q5 := ⟨10, 8, 10, 47⟩) (q6 := ⟨10, 8, 10, 47⟩) (q7 := ⟨11, 8, 11, 12⟩) (q8 := ⟨11, 8, 11, 18⟩) (q9 := ⟨11, 21, 11, 26⟩) (q10 := ⟨11, 8, 11, 26⟩) z0 (c.err_ 0 rfl) rfl rfl rfl rfl (by decide +kernel) (by decide +kernel) (by decide +kernel) (by decide +kernel) (by decide +kernel) (fun _ _ _ _ _ _ _ _ _ _ _ _ _ _ => rfl))
    (Hd.err_mk (x := "name") (msg := "name not allowed") (p1 := ⟨14, 17, 14, 21⟩) (p2 := ⟨14, 23, 14, 27⟩) (q1 := ⟨15, 8, 15, 13⟩) (q2 := ⟨15, 8, 15, 15⟩) (q3 := ⟨15, 8, 15, 24⟩) (q4 := ⟨15, 25, 15, 43⟩) (q5 := ⟨15, 8, 15, 44⟩) (q6 := ⟨15, 8, 15, 44⟩) (q7 := ⟨16, 8, 16, 12⟩) (q8 := ⟨16, 8, 16, 17⟩) (q9 := ⟨16, 20, 16, 24⟩) (q10 := ⟨16, 8, 16, 24⟩) z1 (c.err_ 1 rfl) rfl rfl rfl rfl (by decide +kernel) (by decide +kernel) (by decide +kernel) (by decide +kernel) (by decide +kernel) (fun _ _ _ _ _ _ _ _ _ _ _ _ _ _ => rfl))
    (Hd.err_mk (x := "name") (msg := "name is taken") (p1 := ⟨19, 17, 19, 21⟩) (p2 := ⟨19, 23, 19, 27⟩) (q1 := ⟨20, 8, 20, 13⟩) (q2 := ⟨20, 8, 20, 15⟩) (q3 := ⟨20, 8, 20, 24⟩) (q4 := ⟨20, 25, 20, 40⟩) (q5 := ⟨20, 8, 20, 41⟩) (q6 := ⟨20, 8, 20, 41⟩) (q7 := ⟨21, 8, 21, 12⟩) (q8 := ⟨21, 8, 21, 17⟩) (q9 := ⟨21, 20, 21, 24⟩) (q10 := ⟨21, 8, 21, 24⟩) z2 (c.err_ 2 rfl) rfl rfl rfl rfl (by decide +kernel) (by decide +kernel) (by decide +kernel) (by decide +kernel) (by decide +kernel) (fun _ _ _ _ _ _ _ _ _ _ _ _ _ _ => rfl))
    (Hd.err_mk (x := "name") (msg := "unknown name") (p1 := ⟨24, 17, 24, 21⟩) (p2 := ⟨24, 23, 24, 27⟩) (q1 := ⟨25, 8, 25, 13⟩) (q2 := ⟨25, 8, 25, 15⟩) (q3 := ⟨25, 8, 25, 24⟩) (q4 := ⟨25, 25, 25, 39⟩) (q5 := ⟨25, 8, 25, 40⟩) (q6 := ⟨25, 8, 25, 40⟩) (q7 := ⟨26, 8, 26, 12⟩) (q8 := ⟨26, 8, 26, 17⟩) (q9 := ⟨26, 20, 26, 24⟩) (q10 := ⟨26, 8, 26, 24⟩) z3 (c.err_ 3 rfl) rfl rfl rfl rfl (by decide +kernel) (by decide +kernel) (by decide +kernel) (by decide +kernel) (by decide +kernel) (fun _ _ _ _ _ _ _ _ _ _ _ _ _ _ => rfl))
    (Hd.err_mk (x := "count") (msg := "too many objects") (p1 := ⟨29, 17, 29, 21⟩) (p2 := ⟨29, 23, 29, 28⟩) (q1 := ⟨30, 8, 30, 13⟩) (q2 := ⟨30, 8, 30, 15⟩) (q3 := ⟨30, 8, 30, 24⟩) (q4 := ⟨30, 25, 30, 43⟩) (q5 := ⟨30, 8, 30, 44⟩) (q6 := ⟨30, 8, 30, 44⟩) (q7 := ⟨31, 8, 31, 12⟩) (q8 := ⟨31, 8, 31, 18⟩) (q9 := ⟨31, 21, 31, 26⟩) (q10 := ⟨31, 8, 31, 26⟩) z4 (c.err_ 4 rfl) rfl rfl rfl rfl (by decide +kernel) (by decide +kernel) (by decide +kernel) (by decide +kernel) (by decide +kernel) (fun _ _ _ _ _ _ _ _ _ _ _ _ _ _ => rfl))
    (excB_ok z5)
    (excB_ok z6)
    (excB_ok z7)
    (excB_ok z8)
    (excB_ok z9)
    (of_decide_eq_true z10)
    (OpM.ownB_ok z11)
    (OpM.ownB_ok z12)⟩
end Pf
open PySem PySem.W PySem.Calls PyProof.Rows
set_option maxHeartbeats 0 in
theorem PySem.Challenge.cw_rungbounds_k05_rack_of_names_holds : PySem.Challenge.rw_rungbounds_k05_rack_of_names.Holds := by
  w_on; o_law
  refine HandSHeadRun.head_any (r := OpenLaw.row PySem.Challenge.rw_rungbounds_k05_rack_of_names) (q := view (OpenLaw.row PySem.Challenge.rw_rungbounds_k05_rack_of_names).prog [27]) (H := Pf.hk) (ob := Pf.ob) (M := 6000) (loose := Pf.loose) (d := HandSHeadRun.topDef (OpenLaw.row PySem.Challenge.rw_rungbounds_k05_rack_of_names).prog 27) (kwd := []) Pf.ob_eq
    (by kernel_rfl) (fun s => by kernel_rfl) Pf.run (by kernel_rfl) (by kernel_rfl) (by kernel_rfl) (by rfl) (by first | assumption | decide +kernel) (by decide +kernel) ⟨rfl, rfl, rfl, rfl, rfl, by decide +kernel⟩ ?hw ?hc
  case hw => w_witness2
  case hc =>
    refine L2.walk_ofE (l := PySem.Challenge.rw_rungbounds_k05_rack_of_names) (n := 63) (k := 6) (x := "_law_script") (CX := L2.CX0) rfl (by decide) (by kernel_rfl) ⟨rfl, by decide, by decide⟩ ?F (fun _ _ _ _ z => z)
    intro w mg fa h Y G hmg0
    obtain ⟨K, KX, c⟩ := Y
    have hmg : mg ("law" : PySem.Str) = some (.ref fa) := by
      have e : (HandSHeadRun.topDef (OpenLaw.row PySem.Challenge.rw_rungbounds_k05_rack_of_names).prog 27).name = ("law" : PySem.Str) := by kernel_rfl
      rw [← e]
      exact hmg0
    obtain ⟨T⟩ := Pf.facts KX G c
    have e := hmg.symm.trans T.m_law
    cases e
    have b := L2.FunD.bindsA (ps := ["_law_script"]) T.F_law fun _ _ _ _ _ _ us hl => match us, hl with | [_], _ => rfl
    exact ⟨K, T.fd_law, Pf.sp_law K, KX, fun s v => b s [v] rfl, fun H a ns hl hO hS => ⟨a, ns, rfl, hS, hl, fun _ => rfl⟩, fun base hb hn => Pf.ok_law0 (w := w) (base := base) T⟩
#print axioms PySem.Challenge.cw_rungbounds_k05_rack_of_names_holds
