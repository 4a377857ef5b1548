import PyProof.Rows.All
import Wide.All
import OpenK.AllK
import Wide.FinOn
import KE.KStateDown
import KE.KExcSuper
import KE.KExcIs
import Lean
import HandS.ForMost
import HandS.ForExc
import HandS.ExcSuper
import HandS.ExcField
import HandS.ExcIs
import HandS.Defaults
import HandS.HeadHook3
import HandS.HeadEnd
import HandS.Head2
import HandS.WideBits
import HandS.Wide
import HandS.Evl
import HandS.CallSlots
import HandS.IsInst
import HandS.Codes
import HandS.SortInts
import HandS.Flow
import PySem.Challenge.RW_rungbounds_k01_reach_of_a_ladder
set_option Elab.async false
set_option linter.all false
set_option maxRecDepth 100000
set_option maxHeartbeats 8000000
set_option exponentiation.threshold 10000
namespace PySem
namespace ErrX
open PySem.W PySem.Calls PyProof.Rows PySem.HandSPX
/-! ### the text of an error's __init__: super().__init__(msg); self.f = x -/
def iA (x : Str) (p1 p2 : Pos) : Arguments := { posonlyargs := [], args := [{ arg := "self", annotation := none, pos := p1 }, { arg := x, annotation := none, pos := p2 }], vararg := none, kwonlyargs := [], kw_defaults := [], kwarg := none, defaults := [] }
def iB (x f msg : Str) (q1 q2 q3 q4 q5 q6 q7 q8 q9 q10 : Pos) : List Stmt :=
  [.Expr (.Call (.Attribute (.Call (.Name "super" q1) [] [] q2) "__init__" q3) [.Constant (.str msg) 0 q4] [] q5) q6,
   .Assign [.Attribute (.Name "self" q7) f q8] (.Name x q9) q10]
def iS (x : Str) : Scope := { kind := .function, names := [(PySem.Str.ofString "self", .local), (x, .local), (PySem.Str.ofString "__class__", .free), (PySem.Str.ofString "super", .globalImplicit)], isGenerator := false, isCoroutine := false, more := [] }
/-- what the written part says of the error class at C and of its __init__ at fI; x the parameter, f the field -/
structure ErrTxt (P : Program) (K : Frag) (C : Addr) (x f : Str) : Prop where
  cls : ∃ nm q N bs bm sn sub ab col dd k0 k1 k2 k3 k5, K.lookup C = some (excClassObj nm q C N bs bm true sn sub ab col dd k0 k1 k2 k3 k5 "ValueError.__new__") ∧ refsVE bm = true
  along : ∃ cd, clsIn K C = some cd ∧ alongIn K "__init__" ((cd.mro.dropWhile (· != .ref C)).drop 1) = some (some (.builtin "ValueError.__init__"))
  opq : nsIn K cStatics "thirdparty.any" = some none
  selfC : mroIn K C (.ref C) = some true
  ve : subIn K (.ref C) (.type "ValueError") = some true
  sa : findIn K (.ref C) "__setattr__" = some (some (.builtin "object.__setattr__"))
  ga : findIn K (.ref C) "__getattribute__" = some (some (.builtin "BaseException.__getattribute__"))
  gg : findIn K (.ref C) "__getattr__" = some none
  noN : findIn K (.ref C) f = some none
  kC : keepIn K (.ref C) = true
  exC : subIn K (.ref C) (.type "BaseException") = some true
  tyC : typeIn K (.ref C) = some (.type "type")
  hdC : hasDictIn K C = true
  fn : ∃ fI, findIn K (.ref C) "__init__" = some (some (.ref fI)) ∧ typeIn K (.ref fI) = some (.type "function") ∧
    ∃ (oc : Value) (od : Option Addr) (doc pm kV : Value) (an : Option Addr) (cda cc : Addr) (ct : Value) (osl : Array (Option Value)) (nm qual msg : Str) (p1 p2 q1 q2 q3 q4 q5 q6 q7 q8 q9 q10 : Pos),
      (q3.endLine == q5.line) = true ∧ K.lookup fI = some ⟨oc, od, .func (ksFn nm qual (iA x p1 p2) (iB x f msg q1 q2 q3 q4 q5 q6 q7 q8 q9 q10) (iS x) .none kV doc pm an (.ref cda) ct cc), osl⟩ ∧ codeIn K (.ref cda) qual = true ∧
      (∃ ccl cdd vs ccs file tf, K.lookup cda = some ⟨ccl, cdd, .fields vs, ccs⟩ ∧ vs[2]? = some (.str file tf) ∧ ((P.main.file : Str) == file) = true) ∧
      ∃ cl cld csl, K.lookup cc = some ⟨cl, cld, .cell (some (.ref C)), csl⟩
  top : (P.main.scope.names.lookup ("super" : Str)).isSome = false
  xs : (x == ("self" : Str)) = false
  xc : (("__class__" : Str) == x) = false
  xu : (("super" : Str) == x) = false
  xd : (x == ("__debug__" : Str)) = false
  bnd : ∀ (nm qual : Str) (Bd : List Stmt) (kV doc pm : Value) (an : Option Addr) (cdv ct : Value) (cc : Addr) (p1 p2 : Pos) (u v : Value), bindArgs (ksFn nm qual (iA x p1 p2) Bd (iS x) .none kV doc pm an cdv ct cc) ⟨[u, v], []⟩ = pure [(("self" : Str), u), (x, v)]
theorem one_size (v : Value) : [v].length ≤ sizeLine := by
  rw [sizeLine_eq]
  exact (by decide : 1 ≤ 16777216)
/-- a made error -/
structure Made (h h' : Heap) (e C d : Addr) (f : Str) (v : Value) : Prop where
  keep : ∀ b o, h.get? b = some o → h'.get? b = some o
  new : h.objs.size ≤ e
  obj : ∃ oe vs, h'.get? e = some oe ∧ oe.cls = .ref C ∧ oe.dict = some d ∧ oe.data = .fields vs ∧ vs[1]? = some .none
  dbig : h.objs.size ≤ d
  dne : d ≠ e
  ns : h'.Ns1 d (fun y => if y = f then some v else none)
section
variable {prog : Program} {w : World} {A : Around} {E : Value → Shared → Prop} {h : Heap} {g : Array GenState} {d : Drawn} {t : Nat} {os : OsState}
variable {nm q : Str} {C N : Addr} {bs bm : List Value} {hdct : Bool} {sn : List Str} {sub : List Value} {ab : Bool} {col : Option Bool} {dd : Option Addr} {k0 k1 k2 k3 k5 : Option Value}
/-- the bound ValueError.__init__ called -/
theorem call_bw {u e t0 : Addr} {rest : List Value} {Q : Value → Shared → Prop}
    (hC : h.get? C = some (excClassObj nm q C N bs bm hdct sn sub ab col dd k0 k1 k2 k3 k5 "ValueError.__new__")) (he : h.get? e = some (excO C t0)) (hu : h.get? u = some (kxs_mw "ValueError.__init__" e)) (hrest : rest.length ≤ sizeLine)
    (hq : ∀ h' t1, (∀ b o, b ≠ e → h.get? b = some o → h'.get? b = some o) → h'.get? e = some (excO C t1) → Q .none ⟨h', g, d, t, os⟩) :
    wpAny (model prog w) A (call (.ref u) rest) Q E ⟨h, g, d, t, os⟩ := by
  refine wpAny_call (codeAny_of_tree ?_)
  show wpAny _ A.in1 (callAny (.ref u) ⟨rest, []⟩) _ _ _
  simp only [callAny]
  refine wpAny_bind (wpAny_load hu ?_)
  simp only [kxs_mw, show (Value.type "method-wrapper" == Value.type "method" || Value.type "method-wrapper" == Value.type "builtin_function_or_method" || Value.type "method-wrapper" == Value.type "method-wrapper") = true by decide, if_true]
  refine W.KFB.if_so (by decide) ?_
  refine wpAny_bind (ESX.check_bound F.excBase_ValueError hC he rfl ?_)
  refine wpAny_bind (wpAny_pure (wpAny_pure ?_))
  refine ⟨Code.quiet_builtin _ (by decide +kernel), codeAny_builtin F.excBase_ValueError.initEntry ?_⟩
  rw [Around.under_plainId F.excBase_ValueError.init.plain _]
  wp_walk
  refine hq _ h.objs.size (fun b o hb ho => ?_) ?_
  · rw [Heap.get?_update_other _ _ (Ne.symm hb)]
    exact Heap.get?_push_of_some _ ho
  · rw [Heap.get?_update_self _ (Heap.get?_push_of_some _ he) rfl]
    rfl
end
section
variable {prog : Program} {w : World} {A : Around} {E : Value → Shared → Prop} {R : Result → Shared → Prop} {s : Shared} {K : Frag} {mg mb : Str → Option Value} {C : Addr} {x f : Str}
/-- what __init__ leaves of a fresh exception at e -/
structure InitEnd (h h' : Heap) (e C dx : Addr) (f : Str) (v : Value) : Prop where
  keep : ∀ b o, b ≠ e → h.get? b = some o → h'.get? b = some o
  obj : ∃ t1, h'.get? e = some { cls := .ref C, dict := some dx, data := .fields #[.ref t1, .none, .none, .none, .bool false, .none] }
  dbig : h.objs.size ≤ dx
  dne : dx ≠ e
  ns : h'.Ns1 dx (fun y => if y = f then some v else none)
theorem clsIn_of {nm q : Str} {N : Addr} {bs bm : List Value} {sn : List Str} {sub : List Value} {ab : Bool} {col : Option Bool} {dd : Option Addr} {k0 k1 k2 k3 k5 : Option Value}
    (hC : K.lookup C = some (excClassObj nm q C N bs bm true sn sub ab col dd k0 k1 k2 k3 k5 "ValueError.__new__")) :
    clsIn K C = some { name := nm, bases := bs, mro := .ref C :: bm, ns := N, qualname := q, hasDict := true, slotNames := sn, subclasses := sub, abstract := ab, collection := col, hasDel := false } := by
  unfold clsIn; rw [hC] <;> rfl
theorem mcall_one {o : Expr} {m : Str} {apos pos : Pos} {env : Env} {ov : Value} {n : Nat} {args : List (Bool × Sem Value)} (hf : methodCallForm n args [] = true) (hl : (apos.endLine == pos.line) = true) :
    methodCall o m apos pos env ov n args [] = (do
      let (f, first) ← holding [ov] (getMethod ov m (do return (← importBound o env).getD true))
      callWith pos f first args []) := by
  have e1 : calleeOf (methodCallForm n args []) o env ov m = getMethod ov m (do return (← importBound o env).getD true) := by
    rw [hf] <;> rfl
  have e2 : methodCallPos (methodCallForm n args []) o env apos pos = pure pos := by
    unfold methodCallPos
    exact if_pos (by rw [hl, Bool.or_true])
  unfold methodCall
  rw [e1, e2]
  first
    | rfl
    | simp only [pure_bind]
theorem look_x (T : ErrTxt prog K C x f) : (iS x).names.lookup x = some .local := by
  have e := T.xs
  have e2 : (x == PySem.Str.ofString "self") = false := e
  simp [iS, List.lookup, e2]
theorem look_c (T : ErrTxt prog K C x f) : (iS x).names.lookup ("__class__" : Str) = some .free := by
  have e := T.xc
  have e0 : ((PySem.Str.ofString "__class__") == PySem.Str.ofString "self") = false := by decide +kernel
  have e2 : (PySem.Str.ofString "__class__" == x) = false := e
  show List.lookup (PySem.Str.ofString "__class__") (iS x).names = _
  simp [iS, List.lookup, e2, e0]
theorem look_u (T : ErrTxt prog K C x f) : (iS x).names.lookup ("super" : Str) = some .globalImplicit := by
  have e := T.xu
  have e0 : ((PySem.Str.ofString "super") == PySem.Str.ofString "self") = false := by decide +kernel
  have e1 : ((PySem.Str.ofString "super") == PySem.Str.ofString "__class__") = false := by decide +kernel
  have e2 : (PySem.Str.ofString "super" == x) = false := e
  show List.lookup (PySem.Str.ofString "super") (iS x).names = _
  simp [iS, List.lookup, e2, e0, e1]
theorem look_s : (iS x).names.lookup ("self" : Str) = some .local := by
  show List.lookup (PySem.Str.ofString "self") (iS x).names = _
  simp [iS, List.lookup]
theorem err_init (T : ErrTxt prog K C x f) {e t0 fI : Addr} {v : Value} (hfI : findIn K (.ref C) "__init__" = some (some (.ref fI))) (X : K.In s.heap) (G : s.heap.Ns mainGlobals mg) (Gs : mg "super" = none) (B : s.heap.Ns builtinsNs mb) (Bs : mb "super" = some (.type "super"))
    (hlim : s.heap.NoLimit) (hx : s.heap.get? e = some (excO C t0)) (hnx : K.lookup e = none) (hroom : A.depth < recursionLimit)
    (hq : ∀ h' tk dx, InitEnd s.heap h' e C dx f v → R (.ok (.ret .none)) { s with heap := h', toks := tk }) :
    codeAny (model prog w) A (.call (.ref fI) ⟨[.ref e, v], []⟩) R s := by
  obtain ⟨fI', hfI', hty, oc, od, doc, pm, kV, an, cda, cc, ct, osl, nm0, qual, msg, p1, p2, q1, q2, q3, q4, q5, q6, q7, q8, q9, q10, hln, ho, hcd, ⟨ccl, cdd, cvs, ccs, file, tf, hcode, hvs, hfile⟩, ⟨cl, cld, csl, hcell⟩⟩ := T.fn
  have ef : fI' = fI := by
    have z := hfI'.symm.trans hfI
    simpa using z
  subst ef
  obtain ⟨nm, q, N, bs, bm, sn, sub, ab, col, dd, k0, k1, k2, k3, k5, hC, hbm⟩ := T.cls
  have hcl := clsIn_of hC
  obtain ⟨cd', hcd', hal⟩ := T.along
  have hcdE := hcd'
  rw [hcl] at hcd'
  have hcd'' := (Option.some.inj hcd')
  have hlx := look_x T
  have hlc := look_c T
  have hlu := look_u T
  have hls := look_s (x := x)
  refine ks_codeAny_call_defAt (fd := ksFn nm0 qual (iA x p1 p2) (iB x f msg q1 q2 q3 q4 q5 q6 q7 q8 q9 q10) (iS x) .none kV doc pm an (.ref cda) ct cc) (binds := [("self", .ref e), (x, v)]) hroom (X _ _ ho) rfl hlim (codeRec_of X hcd) rfl
    (BindsTo.of_eq (T.bnd ..)) ?hcell ?hloc (fun h₁ hns hk₁ => ?_) rfl rfl rfl
  case hcell =>
    intro y hy
    have hy' : y ∈ [(PySem.Str.ofString "self", NameKind.local), (x, NameKind.local), (PySem.Str.ofString "__class__", NameKind.free), (PySem.Str.ofString "super", NameKind.globalImplicit)] := hy
    simp only [List.mem_cons, List.not_mem_nil, or_false] at hy'
    rcases hy' with rfl | rfl | rfl | rfl <;> (intro z; cases z)
  case hloc =>
    intro y hy
    simp only [List.mem_cons, List.not_mem_nil, or_false] at hy
    rcases hy with rfl | rfl
    · exact hls
    · exact hlx
  have X₁ : K.In h₁ := X.keeps hk₁
  have hx₁ := hk₁ _ _ hx
  have hmx : (fun y => List.lookup y ([(("self" : Str), Value.ref e), (x, v)] : List (Str × Value)).reverse) x = some v := by simp [List.lookup]
  have hms : (fun y => List.lookup y ([(("self" : Str), Value.ref e), (x, v)] : List (Str × Value)).reverse) ("self" : Str) = some (.ref e) := by
    have e1 : (("self" : Str) == x) = false := by
      rw [Bool.eq_false_iff]
      intro z
      have z2 := (beq_iff_eq.mp z)
      have z3 := T.xs
      rw [← z2] at z3
      simp at z3
    simp [List.lookup, e1]
  obtain ⟨hp, g, dr, tk, os⟩ := s
  have hlc' : (ksEnv qual (iS x) hp.objs.size fI' (.ref cda) cc).kindOf "__class__" = some .free := hlc
  have hlu' : (ksEnv qual (iS x) hp.objs.size fI' (.ref cda) cc).kindOf "super" = some .globalImplicit := hlu
  have hls' : (ksEnv qual (iS x) hp.objs.size fI' (.ref cda) cc).kindOf "self" = some .local := hls
  have hlx' : (ksEnv qual (iS x) hp.objs.size fI' (.ref cda) cc).kindOf x = some .local := hlx
  obtain ⟨oD, hD1, hD2⟩ : ∃ oD, h₁.get? C = some oD ∧ ∃ cdc, oD.data = .cls cdc := ⟨_, X₁ _ _ hC, _, rfl⟩
  obtain ⟨cdc, hD2⟩ := hD2
  have I1 : InstAt h₁ e (excO C t0) C none := ⟨hx₁, rfl, rfl, trivial⟩
  show wpAt _ _ _ (execs (iB x f msg q1 q2 q3 q4 q5 q6 q7 q8 q9 q10) (ksEnv qual (iS x) hp.objs.size fI' (.ref cda) cc)) _ _ _
  refine ks_wpAt_execs_cons (ks_wpAt_Expr_any (ks_wpAt_MethodCall (pl := (do return (← importBound (.Call (.Name "super" q1) [] [] q2) (ksEnv qual (iS x) hp.objs.size fI' (.ref cda) cc)).getD true)) ?_ ?he))
  case he =>
    rw [arm_eval_Call]
    refine congrArg _ (funext fun ov => ?_)
    refine congrArg _ (funext fun _ => ?_)
    exact mcall_one rfl hln
  refine ks_wpAt_super_base (env := ksEnv qual (iS x) hp.objs.size fI' (.ref cda) cc) hlu' hlc' (by decide +kernel) rfl (X₁ _ _ ho) rfl rfl rfl (X₁ _ _ hcode) rfl hvs hfile T.top ?_
  refine ks_loadName_global rfl hlu' (loadGlobal_builtin (env := ksEnv qual (iS x) hp.objs.size fI' (.ref cda) cc) (G.keeps hk₁) Gs (B.keeps hk₁) Bs ⟨rfl, ?_⟩)
  refine wpAny_loadName_free rfl hlc' rfl ⟨_, X₁ _ _ hcell, rfl⟩ ?_
  refine wpAny_loadName_local rfl hls' hns hms ?_
  refine ks_wpAny_isType_cls hD1 hD2 ⟨rfl, ?_⟩
  refine ks_wpAny_call_super hD1 hD2 hx₁ rfl (fun c z => by cases z) (looks_mroIn X₁ T.selfC) (fun h₂ e₂ k₂ => ?_)
  have X₂ : K.In h₂ := X₁.keeps k₂
  have hx₂ := k₂ _ _ hx₁
  have I2 : InstAt h₂ e (excO C t0) C none := ⟨hx₂, rfl, rfl, trivial⟩
  have hI2 : Looks (model prog w) h₂ (isInstance (.ref e) (.type "ValueError")) true := I2.type.andThen (looks_subIn X₂ T.ve)
  refine kxs_getMethod kxs_ValueError e₂ (looks_opaque X₂ T.opq) (l₀ := cd'.mro) (fun A Q E s k q => wpAny_bind ((looks_clsIn X₂ hcdE) A _ E s k (wpAny_pure q))) rfl X₂ hal hI2 (ks_ne X₂ I2 hcdE) (by decide +kernel) ?_
  have hu₃ : (h₂.push (kxs_mw "ValueError.__init__" e)).get? h₂.objs.size = some (kxs_mw "ValueError.__init__" e) := Heap.get?_push_at rfl rfl
  have k₃ : ∀ b o, h₂.get? b = some o → (h₂.push (kxs_mw "ValueError.__init__" e)).get? b = some o := fun b o z => Heap.get?_push_of_some _ z
  refine kxs_callWith (i := "ValueError.__init__") (x := e) rfl ?_
  refine evalArgs_plain (PyProof.Rows.spliced_more (Constant_str (PyProof.Rows.spliced_none ?_)))
  refine ⟨hu₃, ?_⟩
  show wpAny _ _ (call (.ref h₂.objs.size) [_]) _ _ _
  refine call_bw (nm := nm) (q := q) (N := N) (bs := bs) (bm := bm) (hdct := true) (sn := sn) (sub := sub) (ab := ab) (col := col) (dd := dd) (k0 := k0) (k1 := k1) (k2 := k2) (k3 := k3) (k5 := k5) (X₂.keeps k₃ _ _ hC) (k₃ _ _ hx₂) hu₃ (one_size _) (fun h₄ t1 k₄ hx₄ => ?_)
  have hk14 : ∀ b o, b ≠ e → h₁.get? b = some o → h₄.get? b = some o := fun b o hb z => k₄ b o hb (k₃ b o (k₂ b o z))
  have hLe : hp.objs.size ≠ e := Nat.ne_of_gt (Heap.lt_size hx)
  have hns₄ : h₄.Ns hp.objs.size (fun y => List.lookup y ([(("self" : Str), Value.ref e), (x, v)] : List (Str × Value)).reverse) := by
    obtain ⟨o, es, ep, ho1, r⟩ := hns
    exact ⟨o, es, ep, hk14 _ _ hLe ho1, r⟩
  have X₄ : K.In h₄ := fun a o z => hk14 a o (fun y => by rw [y, hnx] at z; cases z) (X₁ a o z)
  refine ks_wpAt_execs_cons (ks_wpAt_Assign_Attr (wpAt_of_wpAny (ESX.ldL (env := ksEnv qual (iS x) hp.objs.size fI' (.ref cda) cc) hns₄ hmx (ESX.ldL (env := ksEnv qual (iS x) hp.objs.size fI' (.ref cda) cc) hns₄ hms ?_ rfl hls' (by decide)) rfl hlx' T.xd)))
  refine set_plain X₄ (ox := excO C t1) (od := none) ⟨hx₄, rfl, rfl, trivial⟩ T.sa ?_
  refine exc_osa X₄ hx₄ hcl (show refsVE (.ref C :: bm) = true from hbm) rfl T.noN (fun h₅ tk₅ dx k₅ dn dne hx₅ hn₅ => ?_)
  refine wpAt_of_wpAny (wpAny_execs_nil (hq h₅ tk₅ dx ⟨fun b o hb z => k₅ b o hb (hk14 b o hb (hk₁ b o z)), ⟨t1, hx₅⟩, ?_, dne, hn₅⟩))
  refine Nat.le_trans ?_ dn
  obtain ⟨o, es, ep, ho1, r⟩ := hns₄
  exact Nat.le_of_lt (Heap.lt_size ho1)
theorem err_made (T : ErrTxt prog K C x f) {v : Value} (X : K.In s.heap) (G : s.heap.Ns mainGlobals mg) (Gs : mg "super" = none) (B : s.heap.Ns builtinsNs mb) (Bs : mb "super" = some (.type "super")) (hlim : s.heap.NoLimit) (hroom : A.depth + 1 < recursionLimit)
    (hq : ∀ h' tk e d, Made s.heap h' e C d f v → R (.ok (.ret (.ref e))) { s with heap := h', toks := tk }) :
    codeAny (model prog w) A (.call (.ref C) ⟨[v], []⟩) R s := by
  obtain ⟨nm, q, N, bs, bm, sn, sub, ab, col, dd, k0, k1, k2, k3, k5, hC, hbm⟩ := T.cls
  obtain ⟨fI, iC, tC, _⟩ := id T.fn
  obtain ⟨hp, g, dr, tk, os⟩ := s
  have k : ∀ b o, hp.get? b = some o → ((hp.push (kdv_tup [v])).push (excO C hp.objs.size)).get? b = some o := fun b o e => Heap.get?_push_of_some _ (Heap.get?_push_of_some _ e)
  have hget : ((hp.push (kdv_tup [v])).push (excO C hp.objs.size)).get? (hp.objs.size + 1) = some (excO C hp.objs.size) := by heap_get
  have hnx : K.lookup (hp.objs.size + 1) = none := by
    cases e : K.lookup (hp.objs.size + 1) with
    | none => rfl
    | some o =>
      have z : hp.get? (hp.objs.size + 1) = some o := X _ _ e
      exact absurd (Nat.lt_of_succ_lt (Heap.lt_size z)) (Nat.lt_irrefl _)
  refine call_own F.excBase_ValueError (fun X => refsVE_contains X bm hbm) (X _ _ hC) (looks_findIn X iC) (fun self => bind_fn X self tC) (one_size v) ?_
  refine err_init (s := ⟨(hp.push (kdv_tup [v])).push (excO C hp.objs.size), g, dr, tk, os⟩) T iC (X.keeps k) (G.keeps k) Gs (B.keeps k) Bs (hlim.keeps k) hget hnx ?_ fun h' tk' dx ⟨k', ⟨t1, hx⟩, dn, dne, hns⟩ => ?_
  · show A.depth + 1 < recursionLimit
    exact hroom
  · have old : ∀ b o, hp.get? b = some o → h'.get? b = some o := fun b o e => k' b o (Nat.ne_of_lt (Nat.lt_succ_of_lt (Heap.lt_size e))) (k b o e)
    have z : hp.objs.size + 1 + 1 ≤ dx := by
      first
        | (simpa only [Heap.size_push] using dn)
        | exact dn
        | (have q := dn; rw [Heap.size_push, Heap.size_push] at q; exact q)
    exact ⟨rfl, hq h' tk' (hp.objs.size + 1) dx ⟨old, Nat.le_succ _, ⟨_, _, hx, rfl, rfl, rfl, rfl⟩, Nat.le_trans (Nat.le_trans (Nat.le_succ _) (Nat.le_succ _)) z, dne, hns⟩⟩
end
end ErrX
end PySem
namespace L2
open PySem PySem.Spec PyProof.Rows
/-! ### raise Err(e), err.f, isinstance(err, C) over the layer -/
theorem relO_one {v : V} {v' : Value} (r : RelV v v') (x f : Str) : RelO (List.lookup f [(x, v)]) (if f = x then some v' else none) := by
  by_cases hw : f = x
  · subst hw
    rw [if_pos rfl]
    have q : List.lookup f [(f, v)] = some v := by simp [List.lookup]
    rw [q]
    exact r
  · rw [if_neg hw]
    have qw : (f == x) = false := by simpa using hw
    have q2 : List.lookup f [(x, v)] = none := by simp [List.lookup, qw]
    rw [q2]
    trivial
/-- Err(e): its class C, its one field f -/
def tMkErr (C : Addr) (f : Str) (ta : TA) : St → Hp → XK → Prop := fun σ H Q => ta σ H fun vs H1 => ∃ v, vs = [v] ∧ ∀ d, H1 d = none → Q (.ref C) (some d) (upd H1 d (.xd [(f, v)]))
section
variable {X : Cx} {C : Addr} {x f nm : Str}
theorem pmk_err {a : Expr} {ta : TA} {p pos : Pos} {k : Nat} (T : PySem.ErrX.ErrTxt X.prog X.K C x f) (hm : X.mg nm = some (.ref C)) (hsu : X.mg "super" = none) (hr : Room k X.A) (ha : PA X [a] ta) (hg : Gl X nm := by rfl) (hdb : (nm == ("__debug__" : Str)) = false := by decide)
    (he : starEach (a :: []) X.env = (false, eval a X.env) :: starEach [] X.env := by rfl) (hpl : (backTo pos (starEach [] X.env)).any (·.1) = false := by rfl) :
    PMk X (.Call (.Name nm p) [a] [] pos) (tMkErr C f ta) := by
  intro pins s σ H Q I h
  refine wpAny_Call_Name_kw (ld_glob I hg hm ?_ hdb)
  refine PySem.W.callWith_K (h₀ := X.base) I.ok.mod.kin T.kC (thn (ha.run pos pins s σ H _ I h) fun us s1 hh => ?_) he hpl
  obtain ⟨vs, H1, I1, r1, v, ev, q1⟩ := hh
  subst ev
  refine ⟨I1.kIn, ?_⟩
  cases r1 with
  | cons rv rn =>
    rename_i v' us'
    cases rn
    show wpAny _ _ (call (.ref C) [v']) _ _ _
    have hlim := I1.nolimit
    have hG := I1.mod.glob.keeps I1.bk
    obtain ⟨mb, hb1, hb2⟩ := I1.mod.blt
    have hB := hb1.keeps I1.bk
    obtain ⟨hp, g, dr, tk, os⟩ := s1
    refine wpAny_call (PySem.ErrX.err_made T I1.kIn hG hsu hB ((hb2 "super" (by decide)).trans (by decide +kernel)) hlim (by have := hr.dp; omega) fun h' tk' e d M => ?_)
    show MkP X pins σ Q (.ref e) ⟨h', g, dr, tk', os⟩
    obtain ⟨oe, fv, hoe, hc, hd, hdat, h1⟩ := M.obj
    have hns := M.ns
    obtain ⟨G', g1, g2⟩ := restrict h' fun b => decide (b ≠ e)
    have gk : ∀ b, b ≠ e → G'.get? b = h'.get? b := fun b hb => g1 b (decide_eq_true hb)
    have ge : G'.get? e = none := g2 e (by simp)
    have old : ∀ b o, hp.get? b = some o → G'.get? b = some o := fun b o q => (gk b (Nat.ne_of_lt (Nat.lt_of_lt_of_le (Heap.lt_size q) M.new))).trans (M.keep b o q)
    have ob : ObjOk X.prog X.w (upd H1 d (.xd [(f, v)])) G' d (.xd [(f, v)]) :=
      ⟨_, hns.at (fun o q => (gk d M.dne).trans q), fun y => relO_one rv f y⟩
    have J : Inv X pins σ (upd H1 d (.xd [(f, v)])) ⟨G', g, dr, tk', os⟩ := I1.laid (t' := tk') old M.dbig ob
    refine ⟨e, oe, fv, ⟨G', g, dr, tk', os⟩, _, .ref C, some d, rfl, J, fun b o q => ?_, ge, hoe, ⟨hc, hd⟩, hdat, h1, ?_, rfl, I1.bare, raises_own T.exC T.tyC, q1 d (I1.hok.fresh M.dbig)⟩
    · by_cases hb : b = e
      · have q' : G'.get? b = some o := q
        rw [hb, ge] at q'; cases q'
      · exact (gk b hb).symm.trans q
    · rw [upd_ne (Ne.symm M.dne)]
      exact I1.hok.fresh M.new
/-- raise Err(e) -/
def tRaiseErr (C : Addr) (f : Str) (W : WX) (ta : TA) : TS := fun _ σ H => tMkErr C f ta σ H fun cls d H' => W cls d σ H'
theorem ps_raiseErr {a : Expr} {ta : TA} {W : WX} {p pos pos2 : Pos} {k : Nat} (hc : X.calm = true) (T : PySem.ErrX.ErrTxt X.prog X.K C x f) (hm : X.mg nm = some (.ref C)) (hsu : X.mg "super" = none) (hr : Room k X.A) (tk : Takes X W) (ha : PA X [a] ta) (hg : Gl X nm := by rfl) (hdb : (nm == ("__debug__" : Str)) = false := by decide)
    (he : starEach (a :: []) X.env = (false, eval a X.env) :: starEach [] X.env := by rfl) (hpl : (backTo pos (starEach [] X.env)).any (·.1) = false := by rfl) :
    PS X (.Raise (some (.Call (.Name nm p) [a] [] pos)) none pos2) (tRaiseErr C f W ta) := ps_raise hc tk (pmk_err T hm hsu hr ha hg hdb he hpl)
theorem errXf {P : Program} {K : PySem.W.Frag} (T : PySem.ErrX.ErrTxt P K C x f) : XfC K C := ⟨T.ga, T.gg, T.exC, T.hdC⟩
end
end L2
namespace PySem.W
open PySem PySem.Spec PySem.Calls PyProof.Rows
section
variable {prog : Program} {w : World} {A : Around} {E : Value → Shared → Prop} {s : Shared} {K : Frag} {x D : Addr} {ox : Obj} {od : Option Obj}
theorem findObj_dat {C : Addr} {name : Str} {a g : Value} (hc : (clsIn K C).isSome = true) (ha : findIn K (.ref C) name = some (some a)) (hg : specialIn K a "__get__" = some (some g)) (ht : takesIn K a = some true) : findObj K C od name = some (.bind g a) := by
  obtain ⟨cd, hc⟩ := Option.isSome_iff_exists.mp hc
  unfold findObj
  rw [hc, Option.bind_some, ha, Option.bind_some]
  simp [hg, ht]
end
end PySem.W
namespace L2
open PySem PySem.Spec PyProof.Rows
/-- isinstance(e, c), e the own error that the suite holds (its class cls, its dict d) -/
def rIsErr (K : PySem.W.Frag) (a : Addr) (cls : Value) (d : Option Addr) : List V → Hp → VK → Prop := fun xs H Q => ∃ (c : V) (cv : Value) (b : Bool) (D dd : Addr) (fs : List (Str × V)), xs = [.ref a, c] ∧ cls = .ref D ∧ ExcC K D ∧ d = some dd ∧ H dd = some (.xd fs) ∧
  (∀ u, RelV c u → u = cv) ∧ PySem.W.kitOne K (.ref D) cv = some b ∧ Q (.bl b) H
theorem call_isErr {X : Cx} {a : Addr} {oe : Obj} {cls : Value} {d : Option Addr} {pn : List (Addr × Obj)} (hz : Zc cls d oe) (hf : ∃ vs, oe.data = .fields vs) : CallR (X.suite a ((a, oe) :: pn)) (.builtin "isinstance") (rIsErr X.K a cls d) := by
  intro pins s σ H xs us Q I r h
  obtain ⟨c, cv, b, D, dd, fs, rfl, rfl, C, rfl, hd, hcv, e, q⟩ := h
  cases r with
  | cons rx rr =>
    cases rr with
    | cons rt rr =>
      cases rr
      cases rx
      have ec := hcv _ rt
      subst ec
      obtain ⟨hget, _⟩ := I.pin (a, oe) (List.mem_append.mpr (.inl List.mem_cons_self))
      obtain ⟨vs, hv⟩ := hf
      have hx : ObjOk X.prog X.w H s.heap dd (.xd fs) := I.hok dd _ hd
      obtain ⟨mA, hns, _⟩ := hx
      obtain ⟨od, ho, _⟩ := lookIn_ns hns
      have J : PySem.W.InstAt s.heap a oe D (some od) := ⟨hget, hz.1, by unfold PySem.W.notCls; rw [hv] <;> rfl, by rw [hz.2]; exact ho⟩
      have hcl : (PySem.W.clsIn X.K D).isSome = true := by
        obtain ⟨cd, hc, _⟩ := PySem.W.any_some C.hd
        rw [hc]
        rfl
      exact PySem.W.kia_one (PySem.W.kitx_exc hcl C.hg C.hk C.hs C.ha C.hn C.ht C.hm) I.kIn J e (fun z => nomatch z) fun tk => ⟨.bl b, H, I.kept (t' := tk) fun _ _ z => z, rfl, q⟩
def excB (K : PySem.W.Frag) (D : Addr) : Bool := decide (PySem.W.findIn K (.ref D) "__getattribute__" = some (some (.builtin "BaseException.__getattribute__"))) && (decide (PySem.W.findIn K (.ref D) "__getattr__" = some none) && (decide (PySem.W.subIn K (.ref D) (.type "BaseException") = some true) &&
  (PySem.W.hasDictIn K D && (decide (PySem.W.findIn K (.ref D) "__class__" = some (some (.builtin "object.__class__"))) && (decide (PySem.W.specialIn K (.builtin "object.__class__") "__get__" = some (some (.builtin "getset_descriptor.__get__"))) && (decide (PySem.W.takesIn K (.builtin "object.__class__") = some true) && decide (PySem.W.mroIn K D (.type "object") = some true)))))))
theorem excB_ok {K : PySem.W.Frag} {D : Addr} (h : excB K D = true) : ExcC K D := by
  unfold excB at h
  simp only [Bool.and_eq_true, decide_eq_true_eq] at h
  obtain ⟨h1, h2, h3, h4, h5, h6, h7, h8⟩ := h
  exact ⟨h1, h2, h3, h4, h5, h6, h7, h8⟩
end L2
/-! ### the head's facts: defs, error classes, and one Bool of one's own -/
namespace Hd
open PySem PySem.Spec PyProof.Rows L2 He
abbrev FnE : Type := Option (Str × Str × Arguments × FuncBody × Scope × Addr × List Str × Addr)
def fnE (K : PySem.W.Frag) (p : Str × Option Str) : FnE := match K.lookup (fAd K p) with
  | some ⟨_, _, .func fd, _⟩ => some (fd.name, fd.qualname, fd.params, fd.body, fd.scope, fd.globals, fd.closure.map (·.1), fd.builtins)
  | _ => none
/-- a method with a closure over __class__: where it stands, its statement in the text -/
structure ErD where
  cls : Str
  qual : Str
  st : Stmt
def ErD.val (d : ErD) : FnE := some ("__init__", d.qual, defArgs d.st, .stmts (defBody d.st), defScope d.st, mainGlobals, ["__class__"], builtinsNs)
def clsB (K : PySem.W.Frag) (C : Addr) : Bool := match K.lookup C with
  | some ⟨.type "type", _, .cls cd, sl⟩ => (match cd.mro, sl.toList with
    | .ref C' :: bm, [_, _, _, _, some (.builtin n), _] => C' == C && (n == "ValueError.__new__" && (!cd.hasDel && (cd.hasDict && PySem.HandSPX.refsVE bm)))
    | _, _ => false)
  | _ => false
theorem clsB_ok {K : PySem.W.Frag} {C : Addr} (h : clsB K C = true) : ∃ nm q N bs bm sn sub ab col dd k0 k1 k2 k3 k5, K.lookup C = some (excClassObj nm q C N bs bm true sn sub ab col dd k0 k1 k2 k3 k5 "ValueError.__new__") ∧ PySem.HandSPX.refsVE bm = true := by
  unfold clsB at h
  split at h
  · rename_i dd cd sl ho
    split at h
    · rename_i C' bm k0 k1 k2 k3 n k5 hm hs
      simp only [Bool.and_eq_true, beq_iff_eq, Bool.not_eq_true'] at h
      obtain ⟨rfl, rfl, hdel, hdi, hbm⟩ := h
      obtain ⟨nm, bs, mro, ns, qn, hd, sn, sub, ab, col, del⟩ := cd
      dsimp only at hm hdel hdi
      subst hm hdel hdi
      have hsl : sl = #[k0, k1, k2, k3, some (.builtin "ValueError.__new__"), k5] := by
        obtain ⟨l⟩ := sl
        simp only at hs
        rw [hs]
      subst hsl
      exact ⟨nm, qn, ns, bs, bm, sn, sub, ab, col, dd, k0, k1, k2, k3, k5, ho, hbm⟩
    · cases h
  · cases h
def alongB (K : PySem.W.Frag) (C : Addr) : Bool := match PySem.W.clsIn K C with
  | some cd => decide (PySem.W.alongIn K "__init__" ((cd.mro.dropWhile (· != .ref C)).drop 1) = some (some (.builtin "ValueError.__init__")))
  | none => false
theorem alongB_ok {K : PySem.W.Frag} {C : Addr} (h : alongB K C = true) : ∃ cd, PySem.W.clsIn K C = some cd ∧ PySem.W.alongIn K "__init__" ((cd.mro.dropWhile (· != .ref C)).drop 1) = some (some (.builtin "ValueError.__init__")) := by
  unfold alongB at h
  split at h
  · rename_i cd hc
    exact ⟨cd, hc, of_decide_eq_true h⟩
  · cases h
def initB (P : Program) (K : PySem.W.Frag) (fI C : Addr) (qual : Str) : Bool := match K.lookup fI with
  | some ⟨_, _, .func fd, _⟩ => (match fd.defaults, fd.code, fd.closure with
    | .none, .ref cda, [(_, cc)] => PySem.W.codeIn K (.ref cda) qual && ((match K.lookup cda with
      | some ⟨_, _, .fields vs, _⟩ => (match (vs[2]? : Option Value) with
        | some (.str file _) => ((P.main.file : Str) == file)
        | _ => false)
      | _ => false) && (match K.lookup cc with
      | some ⟨_, _, .cell (some (.ref C')), _⟩ => C' == C
      | _ => false))
    | _, _, _ => false)
  | _ => false
def errB (P : Program) (K : PySem.W.Frag) (c f qual : Str) : Bool :=
  clsB K (ga K c) && (alongB K (ga K c) && (decide (PySem.W.nsIn K cStatics "thirdparty.any" = some none) && (decide (PySem.W.mroIn K (ga K c) (.ref (ga K c)) = some true) && (decide (PySem.W.subIn K (.ref (ga K c)) (.type "ValueError") = some true) &&
  (eqO (PySem.W.findIn K (.ref (ga K c)) "__setattr__") (some (some (.builtin "object.__setattr__"))) && (eqO (PySem.W.findIn K (.ref (ga K c)) "__getattribute__") (some (some (.builtin "BaseException.__getattribute__"))) &&
  (eqO (PySem.W.findIn K (.ref (ga K c)) "__getattr__") (some none) && (eqO (PySem.W.findIn K (.ref (ga K c)) f) (some none) && (PySem.W.keepIn K (.ref (ga K c)) && (decide (PySem.W.subIn K (.ref (ga K c)) (.type "BaseException") = some true) &&
  (decide (PySem.W.typeIn K (.ref (ga K c)) = some (.type "type")) && (PySem.W.hasDictIn K (ga K c) && (eqO (PySem.W.findIn K (.ref (ga K c)) "__init__") (some (some (.ref (ma K (ga K c) "__init__")))) &&
  (decide (PySem.W.typeIn K (.ref (ma K (ga K c) "__init__")) = some (.type "function")) && initB P K (ma K (ga K c) "__init__") (ga K c) qual))))))))))))))
theorem err_mk {P : Program} {K : PySem.W.Frag} {c f x qual msg : Str} {st : Stmt} {p1 p2 q1 q2 q3 q4 q5 q6 q7 q8 q9 q10 : Pos} (h : errB P K c f qual = true) (e : fnE K (c, some "__init__") = (ErD.mk c qual st).val)
    (hA : defArgs st = PySem.ErrX.iA x p1 p2) (hB : defBody st = PySem.ErrX.iB x f msg q1 q2 q3 q4 q5 q6 q7 q8 q9 q10) (hS : defScope st = PySem.ErrX.iS x) (hl : (q3.endLine == q5.line) = true)
    (top : (P.main.scope.names.lookup ("super" : Str)).isSome = false) (xs : (x == ("self" : Str)) = false) (xc : (("__class__" : Str) == x) = false) (xu : (("super" : Str) == x) = false) (xd : (x == ("__debug__" : Str)) = false)
    (bnd : ∀ (nm qual : Str) (Bd : List Stmt) (kV doc pm : Value) (an : Option Addr) (cdv ct : Value) (cc : Addr) (p1 p2 : Pos) (u v : Value), bindArgs (PySem.W.ksFn nm qual (PySem.ErrX.iA x p1 p2) Bd (PySem.ErrX.iS x) .none kV doc pm an cdv ct cc) ⟨[u, v], []⟩ = pure [(("self" : Str), u), (x, v)]) :
    PySem.ErrX.ErrTxt P K (ga K c) x f := by
  unfold errB at h
  obtain ⟨h1, h⟩ := ba h
  obtain ⟨h2, h⟩ := ba h
  obtain ⟨h3, h⟩ := ba h
  obtain ⟨h4, h⟩ := ba h
  obtain ⟨h5, h⟩ := ba h
  obtain ⟨h6, h⟩ := ba h
  obtain ⟨h7, h⟩ := ba h
  obtain ⟨h8, h⟩ := ba h
  obtain ⟨h9, h⟩ := ba h
  obtain ⟨h10, h⟩ := ba h
  obtain ⟨h11, h⟩ := ba h
  obtain ⟨h12, h⟩ := ba h
  obtain ⟨h13, h⟩ := ba h
  obtain ⟨h14, h⟩ := ba h
  obtain ⟨h15, h16⟩ := ba h
  refine ⟨clsB_ok h1, alongB_ok h2, of_decide_eq_true h3, of_decide_eq_true h4, of_decide_eq_true h5, eqO_ok h6, eqO_ok h7, eqO_ok h8, eqO_ok h9, h10, of_decide_eq_true h11, of_decide_eq_true h12, h13,
    ⟨ma K (ga K c) "__init__", eqO_ok h14, of_decide_eq_true h15, ?_⟩, top, xs, xc, xu, xd, bnd⟩
  unfold initB at h16
  have e2 : fnE K (c, some "__init__") = (match K.lookup (ma K (ga K c) "__init__") with
    | some ⟨_, _, .func fd, _⟩ => some (fd.name, fd.qualname, fd.params, fd.body, fd.scope, fd.globals, fd.closure.map (·.1), fd.builtins)
    | _ => none) := rfl
  rw [e2] at e
  cases q : K.lookup (ma K (ga K c) "__init__") with
  | none =>
    rw [q] at h16
    cases h16
  | some o =>
    obtain ⟨oc, od, dt, osl⟩ := o
    rw [q] at h16 e
    cases dt with
    | func fd =>
      obtain ⟨n1, n2, n3, n4, n5, n6, n7, n8, n9, n10, n11, n12, n13, n14, n15⟩ := fd
      have e3 : (some (n1, n2, n3, n4, n5, n6, n7.map (·.1), n15) : FnE) = (some (("__init__" : Str), qual, defArgs st, FuncBody.stmts (defBody st), defScope st, mainGlobals, [("__class__" : Str)], builtinsNs) : FnE) := e
      simp only [Option.some.injEq, Prod.mk.injEq] at e3
      obtain ⟨e1, e2, e3, e4, e5, e6, e7, e8⟩ := e3
      subst e1 e2 e3 e4 e5 e6 e8
      dsimp only at h16
      split at h16
      · rename_i cda nn cc
        obtain ⟨k1, k2⟩ := ba h16
        obtain ⟨k2, k3⟩ := ba k2
        have en : nn = ("__class__" : Str) := by simpa using e7
        subst en
        refine ⟨oc, od, n10, n11, n9, n12, cda, cc, n14, osl, "__init__", n2, msg, p1, p2, q1, q2, q3, q4, q5, q6, q7, q8, q9, q10, hl, ?_, k1, ?_, ?_⟩
        · rw [← hA, ← hB, ← hS]
        · split at k2
          · rename_i ccl cdd vs ccs hc
            split at k2
            · rename_i file tf hv
              exact ⟨ccl, cdd, vs, ccs, file, tf, hc, hv, k2⟩
            · cases k2
          · cases k2
        · split at k3
          · rename_i cl cld C' csl hc
            have ec : C' = ga K c := by simpa using k3
            subst ec
            exact ⟨cl, cld, csl, hc⟩
          · cases k3
      · cases h16
    | _ => cases h16
/-! ### the Hook -/
def asP (g : Addr → Option Obj) (n : Nat) : List Addr := cStatics :: asD g n
abbrev AlP : Type := Bool × List FnW × List FnE
def obsP (fn : List DefD) (er : List ErD) (ex : PySem.W.Frag → Bool) (K : PySem.W.Frag) : AlP := (ex K && fn.all fun d => d.ok K, fn.map fun d => fnW K d.at_, er.map fun d => fnE K (d.cls, some "__init__"))
def valP (fn : List DefD) (er : List ErD) : AlP := (true, fn.map DefD.val, er.map ErD.val)
def SaysP (fn : List DefD) (er : List ErD) (ex : PySem.W.Frag → Bool) (K : PySem.W.Frag) : Prop := obsP fn er ex K = valP fn er
def obsPG (n : Nat) (fn : List DefD) (er : List ErD) (ex : PySem.W.Frag → Bool) (g : Addr → Option Obj) : AlP := obsP fn er ex (frG g (asP g n))
def hookP (n : Nat) (fn : List DefD) (er : List ErD) (ex : PySem.W.Frag → Bool) : PySem.W.Hook where
  α := AlP
  obs := fun s => obsPG n fn er ex s.heap.get?
  val := fun _ => valP fn er
  says := fun _ h => ∃ K : PySem.W.Frag, K.In h ∧ SaysP fn er ex K
  of := fun _ _ e => ⟨_, frG_in, e⟩
  keeps := fun _ _ _ ⟨K, hK, c⟩ k => ⟨K, PySem.W.Frag.In.keeps hK k, c⟩
theorem obsPG_eq {n : Nat} {fn : List DefD} {er : List ErD} {ex : PySem.W.Frag → Bool} {g : Addr → Option Obj} {s : Shared} (h : ∀ a, g a = s.heap.get? a) : obsPG n fn er ex g = (hookP n fn er ex).obs s := by
  have e : g = s.heap.get? := funext h
  rw [e] <;> rfl
section
variable {fn : List DefD} {er : List ErD} {ex : PySem.W.Frag → Bool} {K : PySem.W.Frag}
theorem SaysP.more (c : SaysP fn er ex K) : ex K = true := (ba (show (ex K && fn.all fun d => d.ok K) = true from congrArg (fun z : AlP => z.1) c)).1
theorem SaysP.def_ (c : SaysP fn er ex K) (i : Nat) {d : DefD} (h : fn[i]? = some d := by rfl) : ∃ fd, FunD K d.name d.qual d.params d.body d.scope (d.dvs K) (d.kws K) (fAd K d.at_) fd := by
  have c2 := (ba (show (ex K && fn.all fun d => d.ok K) = true from congrArg (fun z : AlP => z.1) c)).2
  have e : fn.map (fun d => fnW K d.at_) = fn.map DefD.val := congrArg (fun z : AlP => z.2.1) c
  have e2 : (fn.map fun d => fnW K d.at_)[i]? = (fn.map DefD.val)[i]? := by rw [e]
  rw [List.getElem?_map, List.getElem?_map, h] at e2
  exact DefD.funD (Option.some.inj e2) (List.all_eq_true.mp c2 d (List.mem_of_getElem? h))
theorem SaysP.err_ (c : SaysP fn er ex K) (i : Nat) {d : ErD} (h : er[i]? = some d := by rfl) : fnE K (d.cls, some "__init__") = d.val := by
  have e : er.map (fun d => fnE K (d.cls, some "__init__")) = er.map ErD.val := congrArg (fun z : AlP => z.2.2) c
  have e2 : (er.map fun d => fnE K (d.cls, some "__init__"))[i]? = (er.map ErD.val)[i]? := by rw [e]
  rw [List.getElem?_map, List.getElem?_map, h] at e2
  exact Option.some.inj e2
end
def tkOf : Option Value → Tok
  | some (.int _ t) => t
  | some (.str _ t) => t
  | _ => 0
theorem int_tk {o : Option Value} {i : Int} (h : ∃ t, o = some (.int i t)) : o = some (.int i (tkOf o)) := by
  obtain ⟨t, e⟩ := h
  rw [e] <;> rfl
theorem str_tk {o : Option Value} {z : Str} (h : ∃ t, o = some (.str z t)) : o = some (.str z (tkOf o)) := by
  obtain ⟨t, e⟩ := h
  rw [e] <;> rfl
end Hd
namespace L2
open PySem PySem.Spec PyProof.Rows
/-- a def that is promised to let nothing out -/
theorem fn_calm {P : Program} {w : World} {K : PySem.W.Frag} {mg : Str → Option Value} {base : Heap} {k : Nat} {f : Addr} {fd : FuncData} {ps : List Str} {sp : Sp} (F : FnOk P w K mg base (L2.CX P w) k f fd ps sp)
    (hs : ∀ vs H Q E, sp vs H Q E → sp vs H Q (fun _ _ _ => False)) : FnOk P w K mg base CX0 k f fd ps sp :=
  ⟨F.len, fun A outer s H args us vs Q E hr he hb hv h => codeAny_mono (F.run A outer s H args us vs Q _ hr he hb hv (hs _ _ _ _ h)) (fun r s' q => by
    cases r with
    | error e =>
      obtain ⟨_, _, _, _, _, _, _, _, _, _, _, _, z⟩ := q
      exact z.elim
    | ok f => cases f <;> exact q)⟩
end L2
namespace Pf
open PySem PySem.Spec PyProof.Rows L2
def top (i : Nat) : Stmt := PySem.Challenge.pw_rungbounds_k01_reach_of_a_ladder.main.body.getD i (.Pass ⟨0, 0, 0, 0⟩)
abbrev PP : Program := PySem.Challenge.pw_rungbounds_k01_reach_of_a_ladder
abbrev s_law_box : Stmt := top 8
theorem sc_law_box : FnScope ["_law_script", "_law_cell"] ["_law_script"] (defScope s_law_box) := ⟨rfl, rfl, rfl, by decide +kernel, rfl, by decide +kernel, by decide +kernel⟩
abbrev s_law_take : Stmt := top 9
theorem sc_law_take : FnScope ["_law_box_here", "_law_size", "_law_cell", "_law_digit"] ["_law_box_here", "_law_size"] (defScope s_law_take) := ⟨rfl, rfl, rfl, by decide +kernel, rfl, by decide +kernel, by decide +kernel⟩
abbrev s_integer_root : Stmt := top 5
theorem sc_integer_root : FnScope ["number", "guess", "better"] ["number"] (defScope s_integer_root) := ⟨rfl, rfl, rfl, by decide +kernel, rfl, by decide +kernel, by decide +kernel⟩
abbrev s_law_number : Stmt := top 10
theorem sc_law_number : FnScope ["_law_x"] ["_law_x"] (defScope s_law_number) := ⟨rfl, rfl, rfl, by decide +kernel, rfl, by decide +kernel, by decide +kernel⟩
abbrev s_reach : Stmt := top 6
theorem sc_reach : FnScope ["length", "foot"] ["length", "foot"] (defScope s_reach) := ⟨rfl, rfl, rfl, by decide +kernel, rfl, by decide +kernel, by decide +kernel⟩
abbrev s_law_refused : Stmt := top 11
theorem sc_law_refused : FnScope ["_law_length", "_law_stand", "e"] ["_law_length", "_law_stand"] (defScope s_law_refused) := ⟨rfl, rfl, rfl, by decide +kernel, rfl, by decide +kernel, by decide +kernel⟩
abbrev s_law : Stmt := top 12
theorem sc_law : FnScope ["_law_script", "_law_box_here", "_law_sizes", "_law_length", "_law_stand", "_law_way", "_law_told", "_law_plain", "_law_short", "_law_behind"] ["_law_script"] (defScope s_law) := ⟨rfl, rfl, rfl, by decide +kernel, rfl, by decide +kernel, by decide +kernel⟩
/-- what the top has written -/
structure Txt (K : PySem.W.Frag) (mg : Str → Option Value) where
  fd_law_box : FuncData
  F_law_box : FunD K "_law_box" "_law_box" (defArgs s_law_box) (defBody s_law_box) (defScope s_law_box) [] [] (He.ga K "_law_box") fd_law_box
  fd_law_take : FuncData
  F_law_take : FunD K "_law_take" "_law_take" (defArgs s_law_take) (defBody s_law_take) (defScope s_law_take) [] [] (He.ga K "_law_take") fd_law_take
  fd_integer_root : FuncData
  F_integer_root : FunD K "integer_root" "integer_root" (defArgs s_integer_root) (defBody s_integer_root) (defScope s_integer_root) [] [] (He.ga K "integer_root") fd_integer_root
  fd_law_number : FuncData
  F_law_number : FunD K "_law_number" "_law_number" (defArgs s_law_number) (defBody s_law_number) (defScope s_law_number) [] [] (He.ga K "_law_number") fd_law_number
  fd_reach : FuncData
  F_reach : FunD K "reach" "reach" (defArgs s_reach) (defBody s_reach) (defScope s_reach) [.int 0] [] (He.ga K "reach") fd_reach
  fd_law_refused : FuncData
  F_law_refused : FunD K "_law_refused" "_law_refused" (defArgs s_law_refused) (defBody s_law_refused) (defScope s_law_refused) [] [] (He.ga K "_law_refused") fd_law_refused
  fd_law : FuncData
  F_law : FunD K "law" "law" (defArgs s_law) (defBody s_law) (defScope s_law) [] [] (He.ga K "law") fd_law
  m_BadName : mg "BadName" = some (.ref (He.ga K "BadName"))
  m_BadNumber : mg "BadNumber" = some (.ref (He.ga K "BadNumber"))
  m_LadderError : mg "LadderError" = some (.ref (He.ga K "LadderError"))
  m__law_box : mg "_law_box" = some (.ref (He.ga K "_law_box"))
  m__law_number : mg "_law_number" = some (.ref (He.ga K "_law_number"))
  m__law_refused : mg "_law_refused" = some (.ref (He.ga K "_law_refused"))
  m__law_take : mg "_law_take" = some (.ref (He.ga K "_law_take"))
  m_integer_root : mg "integer_root" = some (.ref (He.ga K "integer_root"))
  m_law : mg "law" = some (.ref (He.ga K "law"))
  m_reach : mg "reach" = some (.ref (He.ga K "reach"))
  n_ValueError : mg "ValueError" = none
  n_bool : mg "bool" = none
  n_int : mg "int" = none
  n_isinstance : mg "isinstance" = none
  n_len : mg "len" = none
  n_super : mg "super" = none
  xm_BadNumber_LadderError : PySem.W.exmOne K (.ref (He.ga K "BadNumber")) (.ref (He.ga K "LadderError")) = some true
  er_BadNumber : PySem.ErrX.ErrTxt PP K (He.ga K "BadNumber") "value" "value"
  xc_BadNumber : ExcC K (He.ga K "BadNumber")
  ki_BadNumber_BadNumber : PySem.W.kitOne K (.ref (He.ga K "BadNumber")) (.ref (He.ga K "BadNumber")) = some true
  ki_BadNumber_ValueError : PySem.W.kitOne K (.ref (He.ga K "BadNumber")) (.type "ValueError") = some true
  ki_BadNumber_BadName : PySem.W.kitOne K (.ref (He.ga K "BadNumber")) (.ref (He.ga K "BadName")) = some false
section
variable {w : World} {K : PySem.W.Frag} {mg : Str → Option Value} {base : Heap}
theorem b_law_box_1 (T : Txt K mg) : Vals [] ([] : List Value) ∧ Binds K T.fd_law_box ["_law_script"] [] := ⟨.nil, FunD.bindsN T.F_law_box fun _ _ _ _ _ _ us hl => match us, hl with | [_], _ => rfl⟩
theorem b_law_number_1 (T : Txt K mg) : Vals [] ([] : List Value) ∧ Binds K T.fd_law_number ["_law_x"] [] := ⟨.nil, FunD.bindsN T.F_law_number fun _ _ _ _ _ _ us hl => match us, hl with | [_], _ => rfl⟩
theorem b_law_refused_2 (T : Txt K mg) : Vals [] ([] : List Value) ∧ Binds K T.fd_law_refused ["_law_length", "_law_stand"] [] := ⟨.nil, FunD.bindsN T.F_law_refused fun _ _ _ _ _ _ us hl => match us, hl with | [_, _], _ => rfl⟩
theorem b_law_take_2 (T : Txt K mg) : Vals [] ([] : List Value) ∧ Binds K T.fd_law_take ["_law_box_here", "_law_size"] [] := ⟨.nil, FunD.bindsN T.F_law_take fun _ _ _ _ _ _ us hl => match us, hl with | [_, _], _ => rfl⟩
theorem b_integer_root_1 (T : Txt K mg) : Vals [] ([] : List Value) ∧ Binds K T.fd_integer_root ["number"] [] := ⟨.nil, FunD.bindsN T.F_integer_root fun _ _ _ _ _ _ us hl => match us, hl with | [_], _ => rfl⟩
theorem b_reach_1 (T : Txt K mg) : ∃ ds, Vals [.int 0] ds ∧ Binds K T.fd_reach ["length", "foot"] ds := FunD.binds1 T.F_reach 1 0 (by simp) rfl fun _ _ _ _ _ _ _ us its hl hi => match us, hl, its, hi with | [_], _, [_], _ => ⟨_, rfl, rfl⟩
theorem b_reach_2 (T : Txt K mg) : ∃ ds, Vals [] ds ∧ Binds K T.fd_reach ["length", "foot"] ds := FunD.binds1 T.F_reach 2 1 (by simp) rfl fun _ _ _ _ _ _ _ us its hl hi => match us, hl, its, hi with | [_, _], _, [_], _ => ⟨_, rfl, rfl⟩
/-! ### the law's box of numbers -/
/-- a box at b, its cells at c -/
def Bx (H : Hp) (b c : Addr) : Prop := ∃ (cs : List Int) (i r s : Int), H b = some (.lst [.ref c, .int i, .int r, .int s]) ∧ H c = some (.lst (cs.map V.int)) ∧ cs.length ≤ 63 ∧ 0 ≤ i ∧ 0 ≤ r ∧ 0 ≤ s ∧ s < 2147483647
theorem Bx.ne {H : Hp} {b c : Addr} (h : Bx H b c) : c ≠ b := by
  obtain ⟨cs, i, r, s, h1, h2, _⟩ := h
  refine ne_of h2 h1 fun z => ?_
  have z2 : cs.map V.int = [.ref c, .int i, .int r, .int s] := by injection z
  cases cs with
  | nil => cases z2
  | cons a l => cases z2
theorem map_get {ns : List Int} {i : Nat} {y : V} (hi : (ns.map V.int)[i]? = some y) : ∃ z, ns[i]? = some z ∧ y = V.int z := by
  rw [List.getElem?_map] at hi
  cases e : ns[i]? with
  | none =>
    rw [e] at hi
    cases hi
  | some z =>
    rw [e] at hi
    exact ⟨z, rfl, (Option.some.inj hi).symm⟩
theorem take_more {α : Type} : ∀ {l : List α} {i : Nat} {x : α}, l[i]? = some x → l.take (i + 1) = l.take i ++ [x]
  | [], i, x, h => by simp at h
  | a :: l, 0, x, h => by
    have e : a = x := Option.some.inj h
    subst e
    rfl
  | a :: l, i + 1, x, h => by
    have ih := take_more (l := l) (i := i) (x := x) h
    show a :: l.take (i + 1) = a :: l.take i ++ [x]
    rw [ih]
    rfl
theorem cut63 (ns : List Int) : ∃ ms : List Int, cutV (ns.map V.int) none (some 63) = ms.map V.int ∧ ms.length ≤ 63 := by
  refine ⟨(ns.drop (HT.sIx (ns.map V.int).length 0 none)).take (HT.sIx (ns.map V.int).length (ns.map V.int).length (some 63) - HT.sIx (ns.map V.int).length 0 none), ?_, ?_⟩
  · unfold cutV
    rw [List.map_take, List.map_drop]
  · rw [List.length_take]
    have e : HT.sIx (ns.map V.int).length (ns.map V.int).length (some 63) ≤ 63 := by
      unfold HT.sIx
      simp only []
      split <;> omega
    omega
def sp_law_box (K : PySem.W.Frag) : Sp := fun vs H Q _ => ∃ (a : Addr) (ns : List Int), vs = [.ref a] ∧ SqL K H a (ns.map V.int) ∧ ∀ (H' : Hp) (b c : Addr), Same H H' → H b = none → H c = none → Bx H' b c → Q (.ref b) H'
theorem ok_law_box (T : Txt K mg) : FnOk PP w K mg base (L2.CX PP w) 1 (He.ga K "_law_box") T.fd_law_box ["_law_script"] (sp_law_box K) := by
  refine T.F_law_box.ok sc_law_box (fun vs H Q E h => ?_) (fun cdv A outer s H vs Q E hr h => ?_)
  · obtain ⟨a, ns, rfl, _⟩ := h
    rfl
  · obtain ⟨a, ns, rfl, hS, k⟩ := h
    refine ⟨_, (pss_one (ps_ret (pe_lst (pa_cons (pe_lc (own := [("_law_cell", 1)]) rfl sc_law_box.nd (pi_list (pe_slice sl_list (pv 0) po_none (po_some pe_int))) (blkOk_by (N := ["_law_script", "_law_cell"]) (sc := defScope s_law_box) (by decide +kernel)) (fun _ _ _ _ _ => (pg_name (i := 1) sc_law_box.nd rfl (by first | exact Or.inl rfl | exact Or.inr rfl))) (fun _ _ _ _ _ => pts_nil) (fun _ _ _ _ _ => (pe_callTy call_int1 (by rfl) T.n_int (by decide +kernel) (pa_cons (pv 1) pa_nil)))) (pa_cons pe_int (pa_cons pe_int (pa_cons pe_int pa_nil))))))), ?_⟩
    refine ⟨_, rfl, 63, rfl, a, _, rfl, hS, fun p hp => ?_⟩
    obtain ⟨ms, em, hm⟩ := cut63 ns
    rw [em]
    refine ⟨p, rfl, ⟨_, SqL.of upd_same⟩, fun D hD => ?_⟩
    have hDp : D ≠ p := fun z => by
      rw [z, upd_same] at hD
      cases hD
    have hD0 : H D = none := by
      rw [upd_ne hDp] at hD
      exact hD
    have hSq : ∀ H', H' p = some (.lst (ms.map V.int)) → SqL K H' p (ms.map V.int) := fun H' z => SqL.of z
    refine lc_list (K := K) (a := p) (xs := ms.map V.int) (fun i H' => H' D = some (.lst ((ms.take i).map V.int)) ∧ H' p = some (.lst (ms.map V.int)) ∧ Same H H') ⟨upd_same, ?_, ?_⟩ (fun i H' _ z => hSq H' z.2.1) ?_ ?_
    · rw [upd_ne (Ne.symm hDp), upd_same]
    · intro x o e
      rw [upd_ne (ne_of_none e hD0), upd_ne (ne_of_none e hp)]
      exact e
    · rintro i x H' hi ⟨h1, h2, h3⟩
      obtain ⟨z, hz, rfl⟩ := map_get hi
      refine ⟨rfl, ?_⟩
      refine ⟨_, rfl, .inl ⟨z, rfl, _, h1, ?_, ?_, ?_, ?_⟩⟩
      · rw [List.length_map, List.length_take, sizeLine_eq]
        omega
      · rw [upd_same, take_more hz, List.map_append]
        rfl
      · rw [upd_ne (Ne.symm hDp)]
        exact h2
      · intro x o e
        rw [upd_ne (ne_of_none e hD0)]
        exact h3 x o e
    · rintro H' ⟨h1, h2, h3⟩
      rw [List.length_map, List.take_length] at h1
      refine ⟨by show 4 ≤ sizeLine; decide, fun b hb => ?_⟩
      refine k _ b D (fun x o e => ?_) (h3.free hb) hD0 ⟨ms, 0, 0, 0, upd_same, ?_, hm, by decide, by decide, by decide, by decide⟩
      · rw [upd_ne (ne_of_none (h3 x o e) hb)]
        exact h3 x o e
      · rw [upd_ne (ne_of_none h1 hb)]
        exact h1
theorem upd_id {H : Hp} {b : Addr} {o : HO} (h : H b = some o) : upd H b o = H := by
  funext a
  by_cases e : a = b
  · rw [e, upd_same, h]
  · rw [upd_ne e]
theorem at_some {cs : List Int} {i : Int} (h0 : 0 ≤ i) (h1 : i < (cs.length : Int)) : ∃ z, atI (cs.map V.int) i = some (V.int z) := by
  have hj : i.toNat < cs.length := by omega
  refine ⟨cs[i.toNat], ?_⟩
  have e := atI_nat (xs := cs.map V.int) (j := i.toNat) (v := V.int cs[i.toNat]) (by rw [List.getElem?_map, List.getElem?_eq_getElem hj]; rfl)
  rw [Int.toNat_of_nonneg h0] at e
  exact e
def sp_law_take : Sp := fun vs H Q _ => ∃ (b c : Addr) (n : Int), vs = [.ref b, .int n] ∧ Bx H b c ∧ 0 < n ∧ n.natAbs < 2 ^ 9000 ∧ ∀ (k : Int) (o : HO), 0 ≤ k → k < n → Bx (upd H b o) b c → Q (.int k) (upd H b o)
theorem ok_law_take (T : Txt K mg) : FnOk PP w K mg base (L2.CX PP w) 1 (He.ga K "_law_take") T.fd_law_take ["_law_box_here", "_law_size"] sp_law_take := by
  refine T.F_law_take.ok sc_law_take (fun vs H Q E h => ?_) (fun cdv A outer s H vs Q E hr h => ?_)
  · obtain ⟨b, c, n, rfl, _⟩ := h
    rfl
  · obtain ⟨b, c, n, rfl, hB, hn, hN, k⟩ := h
    have ne := hB.ne
    obtain ⟨cs, i, r, u, hb, hc, hl, hi, hrr, hu, hv⟩ := id hB
    refine ⟨_, (Evl.pss_cut (ps_if (PW.pt (pw_and (pt_cmpR op_lt (pe_ix ix_list (pv 0) pe_int (fun _ _ => rfl)) pe_int (nomark _)) (pw_and1 (pt_cmpR op_lt (pe_ix ix_list (pv 0) pe_int (fun _ _ => rfl)) (pe_callB call_len_seq (by rfl) T.n_len (by decide +kernel) (pa_cons (pe_ix ix_list (pv 0) pe_int (fun _ _ => rfl)) pa_nil)) (nomark _)))))
      (pss_cons (ps_set (i := 2) sc_law_take.nd rfl (by first | exact Or.inl rfl | exact Or.inr rfl) (pe_ix ix_list (pe_ix ix_list (pv 0) pe_int (fun _ _ => rfl)) (pe_ix ix_list (pv 0) pe_int (fun _ _ => rfl)) (fun _ _ => rfl)))
      (pss_cons (ps_asg (pe_op op_add (pe_ix ix_list (pv 0) pe_int (fun _ _ => rfl)) pe_int) (pg_sub (pv 0) pe_int set_list))
      (pss_one (ps_if (pt_cmpR op_ge (pv 2) (pe_op op_pow pe_int pe_int) (nomark _))
      (pss_one (ps_asg (pe_op op_sub (pv 2) (pe_op op_pow pe_int pe_int)) (pg_sub (pv 0) pe_int set_list)))
      (pss_one (ps_asg (pe_op op_mod (pe_callTy call_int1 (by rfl) T.n_int (by decide +kernel) (pa_cons (pe_op op_add (pe_op op_add (pe_op op_mul (pe_ix ix_list (pv 0) pe_int (fun _ _ => rfl)) pe_int) (pe_op op_mul (pv 2) pe_int)) pe_int) pa_nil)) pe_int) (pg_sub (pv 0) pe_int set_list)))))))
      pss_nil)
      (pss_cons (ps_if (pt_cmpR op_gt (pe_ix ix_list (pv 0) pe_int (fun _ _ => rfl)) pe_int (nomark _))
      (pss_cons (ps_set (i := 3) sc_law_take.nd rfl (by first | exact Or.inl rfl | exact Or.inr rfl) (pe_op op_mod (pe_callTy call_int1 (by rfl) T.n_int (by decide +kernel) (pa_cons (pe_ix ix_list (pv 0) pe_int (fun _ _ => rfl)) pa_nil)) (pv 1)))
      (pss_cons (ps_asg (pe_op op_fdivW (pe_ix ix_list (pv 0) pe_int (fun _ _ => rfl)) (pv 1)) (pg_sub (pv 0) pe_int set_list))
      (pss_one (ps_ret (pv 3)))))
      pss_nil)
      (pss_cons (ps_asg (pe_op op_mod (pe_callTy call_int1 (by rfl) T.n_int (by decide +kernel) (pa_cons (pe_op op_mul (pe_ix ix_list (pv 0) pe_int (fun _ _ => rfl)) pe_int) pa_nil)) pe_int) (pg_sub (pv 0) pe_int set_list))
      (pss_one (ps_ret (pe_op op_mod (pe_callTy call_int1 (by rfl) T.n_int (by decide +kernel) (pa_cons (pe_op op_fdivW (pe_ix ix_list (pv 0) pe_int (fun _ _ => rfl)) pe_int) pa_nil)) (pv 1))))))), ?_⟩
    refine ⟨fun σ' H' => ∃ (v : Option V) (o : HO), σ' = [some (.ref b), some (.int n), v, none] ∧ H' = upd H b o ∧ Bx H' b c, ?_, ?_⟩
    · have no : ∃ (v : Option V) (o : HO), ([some (.ref b), some (.int n), none, none] : L2.St) = [some (.ref b), some (.int n), v, none] ∧ H = upd H b o ∧ Bx H b c := ⟨none, _, rfl, (upd_id hb).symm, hB⟩
      refine ⟨_, rfl, _, _, _, _, rfl, rfl, SqL.of hb, rfl, _, _, rfl, rfl, _, rfl, ?_⟩
      refine ite2 (fun c1 => ?_) (fun c1 => ?_)
      · refine ⟨_, rfl, _, _, _, _, rfl, rfl, SqL.of hb, rfl, _, rfl, _, _, _, _, rfl, rfl, SqL.of hb, rfl, c, _, rfl, .inl (SqL.of hc), _, _, rfl, rfl, _, rfl, ?_⟩
        refine ite2 (fun c2 => ?_) (fun c2 => ?_)
        · have c2' := of_decide_eq_true c2
          rw [List.length_map] at c2'
          obtain ⟨z, hz⟩ := at_some hi c2'
          refine ⟨_, rfl, _, _, _, _, rfl, rfl, SqL.of hb, rfl, _, rfl, _, _, _, _, rfl, rfl, SqL.of hb, rfl, c, _, i, .int z, rfl, rfl, SqL.of hc, hz, ?_⟩
          refine ⟨_, rfl, _, _, _, _, rfl, rfl, SqL.of hb, rfl, _, _, rfl, rfl, _, rfl, b, _, _, 1, rfl, rfl, hb, rfl, ?_⟩
          refine ⟨_, rfl, 10, 18, rfl, rfl, ⟨by decide, by decide, by decide⟩, _, _, rfl, rfl, _, rfl, ?_⟩
          refine ite2 (fun c3 => ?_) (fun c3 => ?_)
          · have c3' := of_decide_eq_true c3
            refine ⟨_, rfl, 10, 18, rfl, rfl, ⟨by decide, by decide, by decide⟩, _, _, rfl, rfl, _, rfl, b, _, _, 2, rfl, rfl, upd_same, rfl, ?_⟩
            refine ⟨_, _, rfl, upd_upd, cs, i + 1, z - 10 ^ 18, u, by rw [upd_upd, upd_same]; rfl, by rw [upd_upd, upd_ne ne]; exact hc, hl, by omega, ?_, hu, hv⟩
            have c4 : (10 : Int) ^ (18 : Int).toNat ≤ z := c3'
            have e : (18 : Int).toNat = 18 := rfl
            rw [e] at c4
            omega
          · refine ⟨_, rfl, _, _, _, _, rfl, rfl, SqL.of upd_same, rfl, _, _, rfl, rfl, .inr ⟨by decide, by decide⟩, _, rfl, _, _, rfl, rfl, .inr ⟨by decide, by decide⟩, _, _, rfl, rfl, _, _, rfl, rfl, .inl ⟨_, rfl, _, _, rfl, rfl, (by show (0 : Int) < 2147483647; decide), _, rfl, b, _, _, 3, rfl, rfl, upd_same, rfl, ?_⟩⟩
            exact ⟨_, _, rfl, upd_upd, cs, i + 1, r, _, by rw [upd_upd, upd_same]; rfl, by rw [upd_upd, upd_ne ne]; exact hc, hl, by omega, hrr, Int.emod_nonneg _ (by decide), Int.emod_lt_of_pos _ (by decide)⟩
        · exact no
      · exact no
    · rintro σ' H' ⟨v, o, rfl, rfl, hB'⟩
      obtain ⟨cs, i, r, u, hb, hc, hl, hi, hrr, hu, hv⟩ := id hB'
      refine ⟨_, rfl, _, _, _, _, rfl, rfl, SqL.of hb, rfl, _, _, rfl, rfl, _, rfl, ?_⟩
      refine ite2 (fun c1 => ?_) (fun c1 => ?_)
      · refine ⟨_, rfl, _, _, _, _, rfl, rfl, SqL.of hb, rfl, .inl ⟨_, rfl, _, rfl, _, _, rfl, rfl, hn, ?_⟩⟩
        refine ⟨_, rfl, _, _, _, _, rfl, rfl, SqL.of hb, rfl, _, rfl, _, _, rfl, rfl, wide_div hn hN (by decide) (by decide), _, rfl, b, _, _, 2, rfl, rfl, hb, rfl, ?_⟩
        refine ⟨_, rfl, ?_⟩
        show Q (.int (r % n)) (upd (upd H b o) b _)
        rw [upd_upd]
        refine k _ _ (Int.emod_nonneg _ (by omega)) (Int.emod_lt_of_pos _ hn) ⟨cs, i, r / n, u, upd_same, ?_, hl, hi, Int.ediv_nonneg hrr (by omega), hu, hv⟩
        rw [upd_ne ne] at hc ⊢
        exact hc
      · refine ⟨_, rfl, _, _, _, _, rfl, rfl, SqL.of hb, rfl, _, _, rfl, rfl, .inr ⟨by decide, by decide⟩, .inl ⟨_, rfl, _, _, rfl, rfl, (by show (0 : Int) < 2147483647; decide), _, rfl, b, _, _, 3, rfl, rfl, hb, rfl, ?_⟩⟩
        refine ⟨_, rfl, _, _, _, _, rfl, rfl, SqL.of upd_same, rfl, _, _, rfl, rfl, wide_div (b := 30) (by decide) (by decide) (by decide) (by decide), .inl ⟨_, rfl, _, rfl, _, _, rfl, rfl, hn, ?_⟩⟩
        rw [upd_upd]
        refine k _ _ (Int.emod_nonneg _ (by omega)) (Int.emod_lt_of_pos _ hn) ⟨cs, i, r, _, upd_same, ?_, hl, hi, hrr, Int.emod_nonneg _ (by decide), Int.emod_lt_of_pos _ (by decide)⟩
        rw [upd_ne ne] at hc ⊢
        exact hc
theorem Bx.new {H : Hp} {b c p : Addr} {o : HO} (h : Bx H b c) (hp : H p = none) : Bx (upd H p o) b c := by
  obtain ⟨cs, i, r, s, h1, h2, h3⟩ := h
  exact ⟨cs, i, r, s, by rw [upd_ne (ne_of_none h1 hp)]; exact h1, by rw [upd_ne (ne_of_none h2 hp)]; exact h2, h3⟩
theorem Bx.ref {H : Hp} {b c : Addr} (h : Bx H b c) : ∃ o, H b = some o := by
  obtain ⟨cs, i, r, s, h1, _⟩ := h
  exact ⟨_, h1⟩
theorem Bx.same {H H' : Hp} {b c : Addr} (h : Bx H b c) (s : Same H H') : Bx H' b c := by
  obtain ⟨cs, i, r, u, h1, h2, h3⟩ := h
  exact ⟨cs, i, r, u, s _ _ h1, s _ _ h2, h3⟩
/-- a draw, where the box's own list alone has changed since G -/
theorem take_go {G : Hp} {b c : Addr} {o : HO} {n : Int} {Q : VK} {E : XK} (B : Bx (upd G b o) b c) (h0 : 0 < n) (hN : n.natAbs < 2 ^ 9000)
    (k : ∀ (k : Int) (o' : HO), 0 ≤ k → k < n → Bx (upd G b o') b c → Q (.int k) (upd G b o')) : sp_law_take [.ref b, .int n] (upd G b o) Q E :=
  ⟨b, c, n, rfl, B, h0, hN, fun z o' z0 z1 B' => by
    rw [upd_upd] at B' ⊢
    exact k z o' z0 z1 B'⟩
theorem take_in {G : Hp} {b c : Addr} {n : Int} {Q : VK} {E : XK} (B : Bx G b c) (h0 : 0 < n) (hN : n.natAbs < 2 ^ 9000)
    (k : ∀ (k : Int) (o' : HO), 0 ≤ k → k < n → Bx (upd G b o') b c → Q (.int k) (upd G b o')) : sp_law_take [.ref b, .int n] G Q E :=
  ⟨b, c, n, rfl, B, h0, hN, k⟩

/-! ### integer_root -/
theorem newton {n g q b : Int} (hg : 0 < g) (hq : n < g * (q + 1)) (hb : g + q < 2 * (b + 1)) (hb0 : 0 ≤ b) (hq0 : 0 ≤ q) : n < (b + 1) * (b + 1) := by
  have h1 : g + (q + 1) ≤ 2 * (b + 1) := by omega
  have h2 : (g + (q + 1)) * (g + (q + 1)) ≤ (2 * (b + 1)) * (2 * (b + 1)) := Int.mul_le_mul h1 h1 (by omega) (by omega)
  have h3 : 0 ≤ (g - (q + 1)) * (g - (q + 1)) := by
    rcases Int.le_total 0 (g - (q + 1)) with z | z
    · exact Int.mul_nonneg z z
    · exact Int.mul_nonneg_of_nonpos_of_nonpos z z
  have e1 : (g + (q + 1)) * (g + (q + 1)) = (g - (q + 1)) * (g - (q + 1)) + 4 * (g * (q + 1)) := by
    simp only [Int.add_mul, Int.mul_add, Int.sub_mul, Int.mul_sub, Int.mul_comm (q + 1) g, Int.mul_one, Int.one_mul, Int.mul_comm q g]
    omega
  have e2 : (2 * (b + 1)) * (2 * (b + 1)) = 4 * ((b + 1) * (b + 1)) := by
    rw [Int.mul_assoc, Int.mul_comm (b + 1) (2 * (b + 1)), Int.mul_assoc, ← Int.mul_assoc 2 2]
    rfl
  rw [e1, e2] at h2
  omega
def sp_integer_root : Sp := fun vs H Q _ => ∃ n : Int, vs = [.int n] ∧ 0 ≤ n ∧ n < 2 ^ 1000 ∧ ∀ r : Int, 0 ≤ r → r * r ≤ n → n < (r + 1) * (r + 1) → Q (.int r) H
theorem ok_integer_root (T : Txt K mg) : FnOk PP w K mg base (L2.CX PP w) 1 (He.ga K "integer_root") T.fd_integer_root ["number"] sp_integer_root := by
  refine T.F_integer_root.ok sc_integer_root (fun vs H Q E h => ?_) (fun cdv A outer s H vs Q E hr h => ?_)
  · obtain ⟨n, rfl, _⟩ := h
    rfl
  · obtain ⟨n, rfl, h0, hN, k⟩ := h
    refine ⟨_, (pss_cons (ps_if (pt_cmpR op_lt (pv 0) pe_int (nomark _))
      (pss_one (ps_ret (pv 0)))
      pss_nil)
      (pss_cons (ps_set (i := 1) sc_integer_root.nd rfl (by first | exact Or.inl rfl | exact Or.inr rfl) (pe_op op_shlW pe_int (pe_op op_fdivW (pe_op op_add (pe_bits (pv 0)) pe_int) pe_int)))
      (pss_one (ps_while (passes_of rfl) (pt_val pe_bl)
      (pss_cons (ps_set (i := 2) sc_integer_root.nd rfl (by first | exact Or.inl rfl | exact Or.inr rfl) (pe_op op_fdivW (pe_op op_add (pv 1) (pe_op op_fdivW (pv 0) (pv 1))) pe_int))
      (pss_cons (ps_if (pt_cmpR op_ge (pv 2) (pv 1) (nomark _))
      (pss_one (ps_ret (pv 1)))
      pss_nil)
      (pss_one (ps_set (i := 1) sc_integer_root.nd rfl (by first | exact Or.inl rfl | exact Or.inr rfl) (pv 2))))))))), ?_⟩
    refine ⟨_, rfl, _, _, rfl, rfl, _, rfl, ?_⟩
    refine ite2 (fun c => ?_) (fun c => ?_)
    · have c' := of_decide_eq_true c
      refine ⟨_, rfl, k n h0 ?_ ?_⟩
      · rcases (show n = 0 ∨ n = 1 by omega) with rfl | rfl <;> decide
      · rcases (show n = 0 ∨ n = 1 by omega) with rfl | rfl <;> decide
    · have c' : ¬ n < 2 := of_decide_eq_false (Bool.eq_false_iff.mpr c)
      obtain ⟨L, hL⟩ : ∃ L : Nat, Builtin.Int.intBits n = L := ⟨_, rfl⟩
      have hLb : L ≤ 1000 ∧ n < 2 ^ L := by
        have e : Builtin.Int.intBits n = n.natAbs.log2 + 1 := by
          unfold Builtin.Int.intBits
          rw [if_neg]
          simp
          omega
        have hn : n.natAbs < 2 ^ 1000 := by omega
        have l1 : n.natAbs.log2 < 1000 := PySem.Flt.log2_lt_of (by decide) hn
        have l2 : n.natAbs < 2 ^ (n.natAbs.log2 + 1) := Nat.lt_log2_self
        refine ⟨by omega, ?_⟩
        rw [← hL, e]
        have l3 : ((n.natAbs : Nat) : Int) < ((2 ^ (n.natAbs.log2 + 1) : Nat) : Int) := Int.ofNat_lt.mpr l2
        rw [Int.natAbs_of_nonneg h0] at l3
        rw [Int.natCast_pow] at l3
        exact l3
      obtain ⟨J, hJ⟩ : ∃ J : Nat, (L + 1) / 2 = J := ⟨_, rfl⟩
      have eJ : (((Builtin.Int.intBits n : Nat) : Int) + 1) / 2 = (J : Int) := by rw [hL]; omega
      refine ⟨_, rfl, n, rfl, _, _, rfl, rfl, _, _, rfl, rfl, wide_div (b := 2) (by decide) (by decide) (by decide) (by decide), _, _, rfl, rfl, ?_, ?_⟩
      · show CShl 1 ((((Builtin.Int.intBits n : Nat) : Int) + 1) / 2)
        rw [eJ]
        exact shl_ok (n := 1) (by decide) (by omega)
      · show tWhile _ _ _ [some (.int n), some (.int (1 * 2 ^ ((((Builtin.Int.intBits n : Nat) : Int) + 1) / 2).toNat)), none] H
        rw [eJ, Int.toNat_natCast, Int.one_mul]
        have g0 : (0 : Int) < 2 ^ J := Int.pow_pos (by decide)
        have gs : n < (2 ^ J + 1) * (2 ^ J + 1) := by
          have a1 : (2 : Int) ^ J * 2 ^ J = 2 ^ (J + J) := by rw [← Int.pow_add]
          have a2 : (2 : Int) ^ L ≤ 2 ^ (J + J) := by
            have z : (2 : Nat) ^ L ≤ 2 ^ (J + J) := Nat.pow_le_pow_right (by decide) (by omega)
            have z2 : ((2 ^ L : Nat) : Int) ≤ ((2 ^ (J + J) : Nat) : Int) := Int.ofNat_le.mpr z
            rw [Int.natCast_pow, Int.natCast_pow] at z2
            exact z2
          have a3 : ((2 : Int) ^ J + 1) * (2 ^ J + 1) = 2 ^ J * 2 ^ J + 2 * 2 ^ J + 1 := by
            rw [Int.add_mul, Int.mul_add]
            omega
          have a4 := hLb.2
          omega
        have gb : (2 : Int) ^ J ≤ 2 ^ 501 := by
          have z : (2 : Nat) ^ J ≤ 2 ^ 501 := Nat.pow_le_pow_right (by decide) (by omega)
          have z2 : ((2 ^ J : Nat) : Int) ≤ ((2 ^ 501 : Nat) : Int) := Int.ofNat_le.mpr z
          rw [Int.natCast_pow, Int.natCast_pow] at z2
          exact z2
        refine while_by (fun σ' H' => H' = H ∧ ∃ (g : Int) (v : Option V), σ' = [some (.int n), some (.int g), v] ∧ 0 < g ∧ g ≤ 2 ^ 501 ∧ n < (g + 1) * (g + 1)) (fun σ' _ => match σ' with | [_, some (.int g), _] => g.toNat | _ => 0) ⟨rfl, _, none, rfl, g0, gb, gs⟩ ?_ (fun σ H Q Q' hq z => ?_)
        · rintro σ' H' ⟨rfl, g, v, rfl, hg, hgb, hgs⟩
          refine ⟨_, rfl, ?_⟩
          have hq := Int.mul_ediv_add_emod n g
          have hq1 := Int.emod_nonneg n (show g ≠ 0 by omega)
          have hq2 := Int.emod_lt_of_pos n hg
          have hq3 : 0 ≤ n / g := Int.ediv_nonneg h0 (by omega)
          have hgn : g.natAbs < 2 ^ 502 := by omega
          refine ⟨_, rfl, _, rfl, _, rfl, _, _, rfl, rfl, wide_div hg hgn (by decide) (by decide), _, _, rfl, rfl, _, _, rfl, rfl, wide_div (b := 2) (by decide) (by decide) (by decide) (by decide), ?_⟩
          refine ⟨_, rfl, _, rfl, _, _, rfl, rfl, _, rfl, ?_⟩
          refine ite2 (fun c1 => ?_) (fun c1 => ?_)
          · have c2 : g ≤ (g + n / g) / 2 := of_decide_eq_true c1
            refine ⟨_, rfl, k g (by omega) ?_ hgs⟩
            have c3 : g ≤ n / g := by omega
            have c4 : g * g ≤ g * (n / g) := Int.mul_le_mul_of_nonneg_left c3 (by omega)
            omega
          · have c2 : ¬ g ≤ (g + n / g) / 2 := of_decide_eq_false (Bool.eq_false_iff.mpr c1)
            have c5 : n < ((g + n / g) / 2 + 1) * ((g + n / g) / 2 + 1) := newton hg (by rw [Int.mul_add]; omega) (by omega) (by omega) hq3
            have c6 : 0 < (g + n / g) / 2 := by
              rcases Int.lt_or_le 0 ((g + n / g) / 2) with z | z
              · exact z
              · have z2 : (g + n / g) / 2 = 0 := by omega
                rw [z2] at c5
                omega
            refine ⟨_, rfl, ⟨rfl, (g + n / g) / 2, some (.int ((g + n / g) / 2)), rfl, c6, by omega, c5⟩, ?_⟩
            show ((g + n / g) / 2).toNat < g.toNat
            omega
        · obtain ⟨c, e, z⟩ := z
          exact ⟨c, e, hq _ _ z⟩
/-- the error that is promised -/
def XErr (E : XK) (H : Hp) (C : Addr) (f : Str) (v : V) : Prop := ∀ d : Addr, H d = none → E (.ref C) (some d) (upd H d (.xd [(f, v)]))
/-- the root of what is left: a number r with r * r ≤ n < (r + 1) * (r + 1) -/
structure Rt (n r : Int) : Prop where
  nn : 0 ≤ r
  lo : r * r ≤ n
  hi : n < (r + 1) * (r + 1)
theorem sq_lt {l : Int} {b : Nat} (h : l.natAbs < 2 ^ b) : l * l < 2 ^ (b + b) ∧ 0 ≤ l * l := by
  have e : ((l.natAbs * l.natAbs : Nat) : Int) = l * l := Int.natAbs_mul_self
  have h1 : l.natAbs * l.natAbs < 2 ^ b * 2 ^ b := Nat.mul_lt_mul'' h h
  rw [← Nat.pow_add] at h1
  have h2 : ((l.natAbs * l.natAbs : Nat) : Int) < ((2 ^ (b + b) : Nat) : Int) := Int.ofNat_lt.mpr h1
  rw [Int.natCast_pow, e] at h2
  exact ⟨h2, by rw [← e]; exact Int.natCast_nonneg _⟩
theorem rt_sq {l r : Int} (h0 : 0 ≤ l) (h : Rt (l * l - 0 * 0) r) : r = l := by
  have e : l * l - 0 * 0 = l * l := by omega
  obtain ⟨h1, h2, h3⟩ := h
  rw [e] at h2 h3
  rcases Int.lt_trichotomy r l with z | z | z
  · have z2 : (r + 1) * (r + 1) ≤ l * l := Int.mul_le_mul (by omega) (by omega) (by omega) (by omega)
    omega
  · exact z
  · have z2 : l * l < r * r := Int.mul_lt_mul' (by omega) z (by omega) (by omega)
    omega

/-! ### _law_number of an int -/
def sp_law_number : Sp := fun vs H Q _ => ∃ n : Int, vs = [.int n] ∧ Q (.bl true) H
theorem ok_law_number (T : Txt K mg) : FnOk PP w K mg base (L2.CX PP w) 1 (He.ga K "_law_number") T.fd_law_number ["_law_x"] sp_law_number := by
  refine T.F_law_number.ok sc_law_number (fun vs H Q E h => ?_) (fun cdv A outer s H vs Q E hr h => ?_)
  · obtain ⟨n, rfl, _⟩ := h
    rfl
  · obtain ⟨n, rfl, k⟩ := h
    refine ⟨_, (pss_one (ps_ret (pe_and (pe_callB call_isi (by rfl) T.n_isinstance (by decide +kernel) (pa_cons (pv 0) (pa_cons (pe_bltn (v := .ty "int") (u := .type "int") (by rfl) T.n_int (by decide +kernel) rfl) pa_nil))) (pe_one (pe_not (pe_callB call_isi (by rfl) T.n_isinstance (by decide +kernel) (pa_cons (pv 0) (pa_cons (pe_bltn (v := .ty "bool") (u := .type "bool") (by rfl) T.n_bool (by decide +kernel) rfl) pa_nil)))))))), ?_⟩
    refine ⟨_, rfl, _, _, _, _, true, rfl, .ty "int", .base (.int n), kit_ty (by decide +kernel), true, rfl, ?_⟩
    exact ⟨_, rfl, _, _, _, _, false, rfl, .ty "bool", .base (.int n), kit_ty (by decide +kernel), false, rfl, k⟩

/-! ### reach -/
def sp_reach (C : Addr) : Sp := fun vs H Q E => ∃ l f : Int, vs = [.int l, .int f] ∧ l.natAbs < 2 ^ 300 ∧ f.natAbs < 2 ^ 300 ∧ (l < 0 → XErr E H C "value" (.int l)) ∧ (0 ≤ l → f < 0 → XErr E H C "value" (.int f)) ∧
  (0 ≤ l → f > l → Q (.int (-1)) H) ∧ (0 ≤ f → f ≤ l → ∀ r, Rt (l * l - f * f) r → Q (.int r) H)
theorem ok_reach (T : Txt K mg) : FnOk PP w K mg base (L2.CX PP w) 2 (He.ga K "reach") T.fd_reach ["length", "foot"] (sp_reach (He.ga K "BadNumber")) := by
  have G_integer_root : FnOk PP w K mg base (L2.CX PP w) _ _ _ _ _ := ok_integer_root T
  have b_integer_root_1 := b_integer_root_1 T
  refine T.F_reach.ok sc_reach (fun vs H Q E h => ?_) (fun cdv A outer s H vs Q E hr h => ?_)
  · obtain ⟨l, h, rfl, _⟩ := h
    rfl
  · obtain ⟨l, h, rfl, hl, hh, k1, k2, k3, k4⟩ := h
    refine ⟨_, (pss_cons (ps_if (pt_cmpR op_lt (pv 0) pe_int (nomark _))
      (pss_one (ps_raiseErr rfl T.er_BadNumber T.m_BadNumber T.n_super hr (takes_of rfl rfl rfl rfl) (pa_cons (pv 0) pa_nil)))
      pss_nil)
      (pss_cons (ps_if (pt_cmpR op_lt (pv 1) pe_int (nomark _))
      (pss_one (ps_raiseErr rfl T.er_BadNumber T.m_BadNumber T.n_super hr (takes_of rfl rfl rfl rfl) (pa_cons (pv 1) pa_nil)))
      pss_nil)
      (pss_cons (ps_if (pt_cmpR op_gt (pv 1) (pv 0) (nomark _))
      (pss_one (ps_ret (pe_un un_neg pe_int)))
      pss_nil)
      (pss_one (ps_ret (pe_call G_integer_root (hr.mono (by decide)) (by rfl) T.m_integer_root T.F_integer_root.kp b_integer_root_1.2 b_integer_root_1.1 (passes_call (takes_of rfl rfl rfl rfl) (fun _ _ _ _ h => h)) (pa_cons (pe_op op_sub (pe_op op_mulX (pv 0) (pv 0)) (pe_op op_mulX (pv 1) (pv 1))) pa_nil))))))), ?_⟩
    refine ⟨_, rfl, _, _, rfl, rfl, _, rfl, ?_⟩
    refine ite2 (fun c => ?_) (fun c => ?_)
    · exact ⟨_, rfl, _, rfl, fun d hd => k1 (of_decide_eq_true c) d hd⟩
    have c1 : ¬ l < 0 := of_decide_eq_false (Bool.eq_false_iff.mpr c)
    refine ⟨_, rfl, _, _, rfl, rfl, _, rfl, ?_⟩
    refine ite2 (fun c => ?_) (fun c => ?_)
    · exact ⟨_, rfl, _, rfl, fun d hd => k2 (by omega) (of_decide_eq_true c) d hd⟩
    have c3 : ¬ h < 0 := of_decide_eq_false (Bool.eq_false_iff.mpr c)
    refine ⟨_, rfl, _, rfl, _, _, rfl, rfl, _, rfl, ?_⟩
    refine ite2 (fun c => ?_) (fun c => ?_)
    · exact ⟨_, rfl, k3 (by omega) (of_decide_eq_true c)⟩
    have c2 : ¬ l < h := of_decide_eq_false (Bool.eq_false_iff.mpr c)
    have e1 := sq_lt hl
    have e2 := sq_lt hh
    refine ⟨_, rfl, _, rfl, _, _, rfl, rfl, mulx_ok hl hl (by decide), _, rfl, _, rfl, _, _, rfl, rfl, mulx_ok hh hh (by decide), _, _, rfl, rfl, _, rfl, ?_, ?_, fun r r0 r1 r2 => k4 (by omega) (by omega) r ⟨r0, r1, r2⟩⟩
    · have z : h * h ≤ l * l := Int.mul_le_mul (by omega) (by omega) (by omega) (by omega)
      omega
    · have z : (2 : Int) ^ (300 + 300) < 2 ^ 1000 := by decide
      omega

/-! ### new lists -/
/-- a new list is handed back -/
def NewL (H : Hp) (Q : VK) (xs : List V) : Prop := ∀ (p : Addr) (H' : Hp), Same H H' → H p = none → H' p = some (.lst xs) → Q (.ref p) H'
theorem NewL.go {H H1 : Hp} {Q : VK} {xs : List V} (k : NewL H Q xs) (s : Same H H1) {p : Addr} (hp : H1 p = none) : Q (.ref p) (upd H1 p (.lst xs)) :=
  k p _ (fun b o e => by rw [upd_ne (ne_of_none (s b o e) hp)]; exact s b o e) (s.free hp) upd_same

/-! ### _law_refused, law -/
def sp_law_refused : Sp := fun vs H Q _ => ∃ l h : Int, vs = [.int l, .int h] ∧ l.natAbs < 2 ^ 300 ∧ h.natAbs < 2 ^ 300 ∧ (l < 0 → NewL H Q [.int l]) ∧ (0 ≤ l → h < 0 → NewL H Q [.int h]) ∧ (0 ≤ l → 0 ≤ h → NewL H Q [])
theorem ok_law_refused (T : Txt K mg) : FnOk PP w K mg base (L2.CX PP w) 3 (He.ga K "_law_refused") T.fd_law_refused ["_law_length", "_law_stand"] sp_law_refused := by
  have G_reach : FnOk PP w K mg base (L2.CX PP w) _ _ _ _ _ := ok_reach T
  obtain ⟨_, b_reach_2⟩ := b_reach_2 T
  refine T.F_law_refused.ok sc_law_refused (fun vs H Q E h => ?_) (fun cdv A outer s H vs Q E hr h => ?_)
  · obtain ⟨l, h, rfl, _⟩ := h
    rfl
  · obtain ⟨l, h, rfl, hl, hh, k1, k2, k3⟩ := h
    refine ⟨_, (pss_cons (ps_try_as (i := 2) rfl rfl sc_law_refused.nd rfl rfl ⟨rfl, by decide, Or.inl T.m_LadderError⟩ (takes_of rfl rfl rfl rfl)
      (fun W pn xe tk _ => (pss_one (ps_expr (pe_callSD G_reach (hr.mono (by decide)) (by rfl) T.m_reach T.F_reach.kp b_reach_2.2 b_reach_2.1 (fun σ => passAt tk σ) (pa_cons (pv 0) (pa_cons (pv 1) pa_nil))))))
      (fun a oe cls d pn hz hf => (pss_one (ps_if (PW.pt (pw_and (pt_val (pe_callB (call_isErr hz hf) (by rfl) T.n_isinstance (by decide +kernel) (pa_cons (pv 2) (pa_cons (pe_glob (v := .ref (He.ga K "BadNumber")) (by rfl) T.m_BadNumber rfl) pa_nil)))) (pw_and (pt_val (pe_callB (call_isErr hz hf) (by rfl) T.n_isinstance (by decide +kernel) (pa_cons (pv 2) (pa_cons (pe_bltn (v := .ty "ValueError") (u := .type "ValueError") (by rfl) T.n_ValueError (by decide +kernel) rfl) pa_nil)))) (pw_and1 (pt_not (pt_val (pe_callB (call_isErr hz hf) (by rfl) T.n_isinstance (by decide +kernel) (pa_cons (pv 2) (pa_cons (pe_glob (v := .ref (He.ga K "BadName")) (by rfl) T.m_BadName rfl) pa_nil)))))))))
      (pss_one (ps_ret (pe_lst (pa_cons (pe_xf (errXf T.er_BadNumber) T.er_BadNumber.noN hz hf (pv 2)) pa_nil))))
      pss_nil))))
      (pss_one (ps_ret (pe_lst pa_nil)))), ?_⟩
    have out : 0 ≤ l → 0 ≤ h → ([] : List V).length ≤ sizeLine ∧ ∀ p, H p = none → Q (.ref p) (upd H p (.lst [])) := fun z y => ⟨by show 0 ≤ sizeLine; decide, fun p hp => (k3 z y).go (.refl H) hp⟩
    refine ⟨_, rfl, _, rfl, l, h, rfl, hl, hh, fun c d hd => ?_, fun c c' d hd => ?_, fun c c' => out c (by omega), fun c c' r _ => out (by omega) c⟩
    all_goals
      refine ⟨true, T.xm_BadNumber_LadderError, fun _ a0 _ => ?_, fun q => Bool.noConfusion q⟩
      refine ⟨_, rfl, _, _, true, _, d, _, rfl, rfl, T.xc_BadNumber, rfl, upd_same, fun _ z => z, T.ki_BadNumber_BadNumber, _, rfl, ?_⟩
      refine ⟨_, rfl, _, _, true, _, d, _, rfl, rfl, T.xc_BadNumber, rfl, upd_same, fun _ z => z, T.ki_BadNumber_ValueError, _, rfl, ?_⟩
      refine ⟨_, rfl, _, _, false, _, d, _, rfl, rfl, T.xc_BadNumber, rfl, upd_same, fun _ z => z, T.ki_BadNumber_BadName, _, rfl, ?_⟩
      refine ⟨_, rfl, rfl, rfl, d, _, _, rfl, upd_same, rfl, by show 1 ≤ sizeLine; decide, fun p hp => ?_⟩
    · exact (k1 c).go (fun b o e => by rw [upd_ne (ne_of_none e hd)]; exact e) hp
    · exact (k2 c c').go (fun b o e => by rw [upd_ne (ne_of_none e hd)]; exact e) hp
def sp_law (K : PySem.W.Frag) : Sp := fun vs H Q _ => ∃ (a : Addr) (ns : List Int), vs = [.ref a] ∧ SqL K H a (ns.map V.int) ∧ ns.length ≤ 63 ∧ ∀ H', Q (.bl true) H'
/-- what stands at the list of sizes -/
def szs : List V := [.int 10, .int (10 ^ (6 : Int).toNat), .int (10 ^ (39 : Int).toNat)]
theorem szs_at {k : Int} (h0 : 0 ≤ k) (h1 : k < 3) : ∃ n : Int, atI szs k = some (.int n) ∧ 0 < n ∧ n ≤ 10 ^ 39 := by
  rcases (show k = 0 ∨ k = 1 ∨ k = 2 by omega) with rfl | rfl | rfl
  · exact ⟨10, rfl, by decide, by decide⟩
  · exact ⟨10 ^ (6 : Int).toNat, rfl, by decide, by decide⟩
  · exact ⟨10 ^ (39 : Int).toNat, rfl, by decide, by decide⟩
theorem rt_le {L h r : Int} (L0 : 0 ≤ L) (q : Rt (L * L - h * h) r) : r ≤ L := by
  have q1 : r * r ≤ L * L := by
    have := q.lo
    have q2 : 0 ≤ h * h := by
      rcases Int.le_total 0 h with z | z
      · exact Int.mul_nonneg z z
      · exact Int.mul_nonneg_of_nonpos_of_nonpos z z
    omega
  rcases (show r ≤ L ∨ L < r by omega) with y | y
  · exact y
  · have := Int.mul_lt_mul' (show L ≤ r by omega) y L0 (show 0 < r by omega)
    omega
theorem ok_law (T : Txt K mg) : FnOk PP w K mg base (L2.CX PP w) 4 (He.ga K "law") T.fd_law ["_law_script"] (sp_law K) := by
  have G_law_box : FnOk PP w K mg base (L2.CX PP w) _ _ _ _ _ := ok_law_box T
  have G_law_number : FnOk PP w K mg base (L2.CX PP w) _ _ _ _ _ := ok_law_number T
  have G_law_refused : FnOk PP w K mg base (L2.CX PP w) _ _ _ _ _ := ok_law_refused T
  have G_law_take : FnOk PP w K mg base (L2.CX PP w) _ _ _ _ _ := ok_law_take T
  have G_reach : FnOk PP w K mg base (L2.CX PP w) _ _ _ _ _ := ok_reach T
  have b_law_box_1 := b_law_box_1 T
  have b_law_number_1 := b_law_number_1 T
  have b_law_refused_2 := b_law_refused_2 T
  have b_law_take_2 := b_law_take_2 T
  obtain ⟨_, b_reach_1⟩ := b_reach_1 T
  obtain ⟨_, b_reach_2⟩ := b_reach_2 T
  refine T.F_law.ok sc_law (fun vs H Q E h => ?_) (fun cdv A outer s H vs Q E hr h => ?_)
  · obtain ⟨a, ns, rfl, _⟩ := h
    rfl
  · obtain ⟨a, ns, rfl, hS, hl, k⟩ := h
    refine ⟨_, (pss_cons (ps_set (i := 1) sc_law.nd rfl (by first | exact Or.inl rfl | exact Or.inr rfl) (pe_call G_law_box (hr.mono (by decide)) (by rfl) T.m__law_box T.F_law_box.kp b_law_box_1.2 b_law_box_1.1 (passes_call (takes_of rfl rfl rfl rfl) (fun _ _ _ _ h => h)) (pa_cons (pv 0) pa_nil)))
      (pss_cons (ps_set (i := 2) sc_law.nd rfl (by first | exact Or.inl rfl | exact Or.inr rfl) (pe_lst (pa_cons pe_int (pa_cons (pe_op op_pow pe_int pe_int) (pa_cons (pe_op op_pow pe_int pe_int) pa_nil)))))
      (pss_cons (ps_set (i := 3) sc_law.nd rfl (by first | exact Or.inl rfl | exact Or.inr rfl) (pe_call G_law_take (hr.mono (by decide)) (by rfl) T.m__law_take T.F_law_take.kp b_law_take_2.2 b_law_take_2.1 (passes_call (takes_of rfl rfl rfl rfl) (fun _ _ _ _ h => h)) (pa_cons (pv 1) (pa_cons (pe_ix ix_list (pv 2) (pe_call G_law_take (hr.mono (by decide)) (by rfl) T.m__law_take T.F_law_take.kp b_law_take_2.2 b_law_take_2.1 (passes_call (takes_of rfl rfl rfl rfl) (fun _ _ _ _ h => h)) (pa_cons (pv 1) (pa_cons pe_int pa_nil))) (fun _ _ => rfl)) pa_nil))))
      (pss_cons (ps_set (i := 4) sc_law.nd rfl (by first | exact Or.inl rfl | exact Or.inr rfl) (pe_call G_law_take (hr.mono (by decide)) (by rfl) T.m__law_take T.F_law_take.kp b_law_take_2.2 b_law_take_2.1 (passes_call (takes_of rfl rfl rfl rfl) (fun _ _ _ _ h => h)) (pa_cons (pv 1) (pa_cons (pe_ix ix_list (pv 2) (pe_call G_law_take (hr.mono (by decide)) (by rfl) T.m__law_take T.F_law_take.kp b_law_take_2.2 b_law_take_2.1 (passes_call (takes_of rfl rfl rfl rfl) (fun _ _ _ _ h => h)) (pa_cons (pv 1) (pa_cons pe_int pa_nil))) (fun _ _ => rfl)) pa_nil))))
      (pss_cons (ps_set (i := 5) sc_law.nd rfl (by first | exact Or.inl rfl | exact Or.inr rfl) (pe_call G_law_take (hr.mono (by decide)) (by rfl) T.m__law_take T.F_law_take.kp b_law_take_2.2 b_law_take_2.1 (passes_call (takes_of rfl rfl rfl rfl) (fun _ _ _ _ h => h)) (pa_cons (pv 1) (pa_cons pe_int pa_nil))))
      (Evl.pss_cut (ps_if (pt_cmpR op_eq (pv 5) pe_int (nomark _))
      (pss_one (ps_set (i := 4) sc_law.nd rfl (by first | exact Or.inl rfl | exact Or.inr rfl) (pv 3)))
      pss_nil)
      (Evl.pss_cut (ps_if (pt_cmpR op_eq (pv 5) pe_int (nomark _))
      (pss_one (ps_set (i := 4) sc_law.nd rfl (by first | exact Or.inl rfl | exact Or.inr rfl) (pe_op op_add (pv 3) pe_int)))
      pss_nil)
      (Evl.pss_cut (ps_if (pt_cmpR op_eq (pv 5) pe_int (nomark _))
      (pss_cons (ps_set (i := 4) sc_law.nd rfl (by first | exact Or.inl rfl | exact Or.inr rfl) (pe_op op_mul pe_int (pv 3)))
      (pss_one (ps_set (i := 3) sc_law.nd rfl (by first | exact Or.inl rfl | exact Or.inr rfl) (pe_op op_mul pe_int (pv 3)))))
      pss_nil)
      (Evl.pss_cut (ps_set (i := 6) sc_law.nd rfl (by first | exact Or.inl rfl | exact Or.inr rfl) (pe_call G_reach (hr.mono (by decide)) (by rfl) T.m_reach T.F_reach.kp b_reach_2.2 b_reach_2.1 (passes_call (takes_of rfl rfl rfl rfl) (fun _ _ _ _ h => h)) (pa_cons (pv 3) (pa_cons (pv 4) pa_nil))))
      (pss_cons (ps_if (pt_not (pt_val (pe_call G_law_number (hr.mono (by decide)) (by rfl) T.m__law_number T.F_law_number.kp b_law_number_1.2 b_law_number_1.1 (passes_call (takes_of rfl rfl rfl rfl) (fun _ _ _ _ h => h)) (pa_cons (pv 6) pa_nil))))
      (pss_one (ps_ret pe_bl))
      pss_nil)
      (Evl.pss_cut (ps_if (pt_cmpR op_gt (pv 4) (pv 3) (nomark _))
      (pss_one (ps_if (pt_cmpR op_ne (pv 6) (pe_un un_neg pe_int) (nomark _))
      (pss_one (ps_ret pe_bl))
      pss_nil))
      (pss_one (ps_if (PW.pt (pw_or (pt_cmpR op_lt (pv 6) pe_int (nomark _)) (pw_or1 (pt_cmpR op_gt (pe_op op_add (pe_op op_mulX (pv 6) (pv 6)) (pe_op op_mulX (pv 4) (pv 4))) (pe_op op_mulX (pv 3) (pv 3)) (nomark _)))))
      (pss_one (ps_ret pe_bl))
      (pss_one (ps_if (pt_cmpR op_le (pe_op op_add (pe_op op_mulX (pe_op op_add (pv 6) pe_int) (pe_op op_add (pv 6) pe_int)) (pe_op op_mulX (pv 4) (pv 4))) (pe_op op_mulX (pv 3) (pv 3)) (nomark _))
      (pss_one (ps_ret pe_bl))
      pss_nil)))))
      (pss_cons (ps_set (i := 7) sc_law.nd rfl (by first | exact Or.inl rfl | exact Or.inr rfl) (pe_call G_reach (hr.mono (by decide)) (by rfl) T.m_reach T.F_reach.kp b_reach_1.2 b_reach_1.1 (passes_call (takes_of rfl rfl rfl rfl) (fun _ _ _ _ h => h)) (pa_cons (pv 3) pa_nil)))
      (pss_cons (ps_if (PW.pt (pw_or (pt_not (pt_val (pe_call G_law_number (hr.mono (by decide)) (by rfl) T.m__law_number T.F_law_number.kp b_law_number_1.2 b_law_number_1.1 (passes_call (takes_of rfl rfl rfl rfl) (fun _ _ _ _ h => h)) (pa_cons (pv 7) pa_nil)))) (pw_or1 (pt_cmpR op_ne (pv 7) (pv 3) (nomark _)))))
      (pss_one (ps_ret pe_bl))
      pss_nil)
      (pss_cons (ps_set (i := 8) sc_law.nd rfl (by first | exact Or.inl rfl | exact Or.inr rfl) (pe_op op_sub (pe_un un_neg pe_int) (pe_call G_law_take (hr.mono (by decide)) (by rfl) T.m__law_take T.F_law_take.kp b_law_take_2.2 b_law_take_2.1 (passes_call (takes_of rfl rfl rfl rfl) (fun _ _ _ _ h => h)) (pa_cons (pv 1) (pa_cons (pe_op op_pow pe_int pe_int) pa_nil)))))
      (pss_cons (ps_set (i := 9) sc_law.nd rfl (by first | exact Or.inl rfl | exact Or.inr rfl) (pe_op op_sub (pe_un un_neg pe_int) (pe_call G_law_take (hr.mono (by decide)) (by rfl) T.m__law_take T.F_law_take.kp b_law_take_2.2 b_law_take_2.1 (passes_call (takes_of rfl rfl rfl rfl) (fun _ _ _ _ h => h)) (pa_cons (pv 1) (pa_cons (pe_op op_pow pe_int pe_int) pa_nil)))))
      (pss_cons (ps_if (PW.pt (pw_or (pt_cmpR (op_neD hr.units) (pe_call G_law_refused (hr.mono (by decide)) (by rfl) T.m__law_refused T.F_law_refused.kp b_law_refused_2.2 b_law_refused_2.1 (passes_call (takes_of rfl rfl rfl rfl) (fun _ _ _ _ h => h)) (pa_cons (pv 8) (pa_cons (pv 4) pa_nil))) (pe_lst (pa_cons (pv 8) pa_nil)) (nomark _)) (pw_or1 (pt_cmpR (op_neD hr.units) (pe_call G_law_refused (hr.mono (by decide)) (by rfl) T.m__law_refused T.F_law_refused.kp b_law_refused_2.2 b_law_refused_2.1 (passes_call (takes_of rfl rfl rfl rfl) (fun _ _ _ _ h => h)) (pa_cons (pv 3) (pa_cons (pv 9) pa_nil))) (pe_lst (pa_cons (pv 9) pa_nil)) (nomark _)))))
      (pss_one (ps_ret pe_bl))
      pss_nil)
      (pss_one (ps_ret (pe_and (pe_cmpR (op_eqD hr.units) (pe_call G_law_refused (hr.mono (by decide)) (by rfl) T.m__law_refused T.F_law_refused.kp b_law_refused_2.2 b_law_refused_2.1 (passes_call (takes_of rfl rfl rfl rfl) (fun _ _ _ _ h => h)) (pa_cons (pv 8) (pa_cons (pv 9) pa_nil))) (pe_lst (pa_cons (pv 8) pa_nil)) (nomark _)) (pe_one (pe_cmpR (op_eqD hr.units) (pe_call G_law_refused (hr.mono (by decide)) (by rfl) T.m__law_refused T.F_law_refused.kp b_law_refused_2.2 b_law_refused_2.1 (passes_call (takes_of rfl rfl rfl rfl) (fun _ _ _ _ h => h)) (pa_cons (pv 3) (pa_cons (pv 4) pa_nil))) (pe_lst pa_nil) (nomark _)))))))))))))))))))))), ?_⟩
    refine ⟨_, rfl, a, ns, rfl, hS, fun H1 b c s1 nb nc B1 => ?_⟩
    refine ⟨10, 6, rfl, rfl, ⟨by decide, by decide, by decide⟩, 10, 39, rfl, rfl, ⟨by decide, by decide, by decide⟩, by show 3 ≤ sizeLine; decide, fun p hp => ?_⟩
    have B2 : Bx (upd H1 p (.lst szs)) b c := B1.new hp
    obtain ⟨ob, hb⟩ := B1.ref
    have npb : p ≠ b := fun z => by rw [z, hb] at hp; cases hp
    obtain ⟨H2, hH2⟩ : ∃ H2, upd H1 p (HO.lst szs) = H2 := ⟨_, rfl⟩
    have hz : ∀ o, SqL K (upd H2 b o) p szs := fun o => SqL.of (by rw [upd_ne npb, ← hH2, upd_same])
    show tSeq _ _ _ [some (.ref a), some (.ref b), some (.ref p), none, none, none, none, none, none, none] (upd H1 p (HO.lst szs))
    rw [hH2] at B2 ⊢
    refine ⟨_, rfl, _, rfl, _, rfl, b, c, 3, rfl, B2, by decide, by decide, fun k1 o1 h1 h1' B3 => ?_⟩
    obtain ⟨n1, e1, n10, n11⟩ := szs_at h1 h1'
    refine ⟨p, _, _, _, rfl, rfl, hz _, e1, b, c, n1, rfl, B3, n10, by omega, fun L o2 L0 L1 B4 => ?_⟩
    rw [upd_upd] at B4 ⊢
    refine ⟨_, rfl, _, rfl, _, rfl, b, c, 3, rfl, B4, by decide, by decide, fun k2 o3 h2 h2' B5 => ?_⟩
    rw [upd_upd] at B5 ⊢
    obtain ⟨n2, e2, n20, n21⟩ := szs_at h2 h2'
    refine ⟨p, _, _, _, rfl, rfl, hz _, e2, b, c, n2, rfl, B5, n20, by omega, fun h o4 h0 hh B6 => ?_⟩
    rw [upd_upd] at B6 ⊢
    refine ⟨_, rfl, b, c, 5, rfl, B6, by decide, by decide, fun way o5 w0 w1 B7 => ?_⟩
    rw [upd_upd] at B7 ⊢
    let Mid : Int → Int → L2.St → Hp → Prop := fun x y σ' H' => ∃ L h : Int, σ' = [some (.ref a), some (.ref b), some (.ref p), some (.int L), some (.int h), some (.int way), none, none, none, none] ∧ H' = upd H2 b o5 ∧ 0 ≤ L ∧ L ≤ x ∧ 0 ≤ h ∧ h ≤ y
    refine ⟨Mid (10 ^ 39) (10 ^ 39), ?_, ?_⟩
    · refine ⟨_, rfl, rfl, _, rfl, ?_⟩
      refine ite2 (fun c => ?_) (fun c => ?_)
      · exact ⟨_, rfl, L, L, rfl, rfl, by omega, by omega, by omega, by omega⟩
      · exact ⟨L, h, rfl, rfl, by omega, by omega, by omega, by omega⟩
    clear h0 hh L0 L1
    clear h L
    rintro _ _ ⟨L, h, rfl, rfl, L0, L1, h0, h1⟩
    refine ⟨Mid (10 ^ 39) (10 ^ 40), ?_, ?_⟩
    · refine ⟨_, rfl, rfl, _, rfl, ?_⟩
      refine ite2 (fun c => ?_) (fun c => ?_)
      · exact ⟨_, rfl, _, _, rfl, rfl, L, L + 1, rfl, rfl, by omega, by omega, by omega, by omega⟩
      · exact ⟨L, h, rfl, rfl, by omega, by omega, by omega, by omega⟩
    clear L0 L1 h0 h1
    clear h L
    rintro _ _ ⟨L, h, rfl, rfl, L0, L1, h0, h1⟩
    refine ⟨Mid (10 ^ 40) (10 ^ 40), ?_, ?_⟩
    · refine ⟨_, rfl, rfl, _, rfl, ?_⟩
      refine ite2 (fun c => ?_) (fun c => ?_)
      · exact ⟨_, rfl, _, _, rfl, rfl, .inl ⟨by decide, by decide⟩, _, rfl, _, _, rfl, rfl, .inl ⟨by decide, by decide⟩, 5 * L, 3 * L, rfl, rfl, by omega, by omega, by omega, by omega⟩
      · exact ⟨L, h, rfl, rfl, by omega, by omega, by omega, by omega⟩
    clear L0 L1 h0 h1
    clear h L
    rintro _ _ ⟨L, h, rfl, rfl, L0, L1, h0, h1⟩
    have hL : L.natAbs < 2 ^ 300 := by omega
    have hh : h.natAbs < 2 ^ 300 := by omega
    clear B2 B3 B4 B5 B6 Mid
    refine ⟨fun σ' H' => ∃ r : Int, σ' = [some (.ref a), some (.ref b), some (.ref p), some (.int L), some (.int h), some (.int way), some (.int r), none, none, none] ∧ H' = upd H2 b o5 ∧ (h > L → r = -1) ∧ (h ≤ L → Rt (L * L - h * h) r), ?_, ?_⟩
    · refine ⟨_, rfl, _, rfl, L, h, rfl, hL, hh, fun c => by omega, fun _ c => by omega, fun _ c => ?_, fun c c' r hr => ?_⟩
      · exact ⟨-1, rfl, rfl, fun _ => rfl, fun _ => by omega⟩
      · exact ⟨r, rfl, rfl, fun _ => by omega, fun _ => hr⟩
    rintro _ _ ⟨r, rfl, rfl, r1, r3⟩
    refine ⟨_, rfl, r, rfl, true, rfl, ?_⟩
    have hrr : r.natAbs < 2 ^ 300 := by
      rcases (show h > L ∨ h ≤ L by omega) with z | z
      · rw [r1 z]; decide
      · have := rt_le L0 (r3 z)
        have := (r3 z).nn
        omega
    refine ⟨fun σ' H' => σ' = [some (.ref a), some (.ref b), some (.ref p), some (.int L), some (.int h), some (.int way), some (.int r), none, none, none] ∧ H' = upd H2 b o5, ?_, ?_⟩
    · refine ⟨_, rfl, _, rfl, _, _, rfl, rfl, _, rfl, ?_⟩
      refine ite2 (fun c => ?_) (fun c => ?_)
      · have e : r = -1 := r1 (of_decide_eq_true c)
        refine ⟨_, rfl, _, rfl, rfl, _, rfl, ?_⟩
        refine iteNS (by rw [e]) ⟨rfl, rfl⟩
      · have c' : ¬ L < h := of_decide_eq_false (Bool.eq_false_iff.mpr c)
        have q := r3 (by omega)
        have q1 := mulx_ok (a := 300) (b := 300) hrr hrr (by decide)
        have q2 := mulx_ok (a := 300) (b := 300) hh hh (by decide)
        have q3 := mulx_ok (a := 300) (b := 300) hL hL (by decide)
        have q4 : (r + 1).natAbs < 2 ^ 301 := by omega
        have q5 := mulx_ok (a := 301) (b := 301) q4 q4 (by decide)
        have m1 : ¬ r < 0 := by have := q.nn; omega
        have m2 : ¬ L * L < r * r + h * h := by have := q.lo; omega
        have m3 : ¬ (r + 1) * (r + 1) + h * h ≤ L * L := by have := q.hi; omega
        refine ⟨_, rfl, _, _, rfl, rfl, _, rfl, ?_⟩
        rw [decide_eq_false m1]
        refine iteF ⟨_, rfl, _, rfl, _, _, rfl, rfl, q1, _, rfl, _, rfl, _, _, rfl, rfl, q2, _, _, rfl, rfl, _, rfl, _, rfl, _, _, rfl, rfl, q3, _, _, rfl, rfl, _, rfl, ?_⟩
        rw [decide_eq_false m2]
        refine iteF ⟨_, rfl, _, _, rfl, rfl, _, rfl, _, _, rfl, rfl, _, _, rfl, rfl, q5, _, rfl, _, rfl, _, _, rfl, rfl, q2, _, _, rfl, rfl, _, rfl, _, rfl, _, _, rfl, rfl, q3, _, _, rfl, rfl, _, rfl, ?_⟩
        rw [decide_eq_false m3]
        exact iteF ⟨rfl, rfl⟩
    rintro _ _ ⟨rfl, rfl⟩
    -- reach(length)
    refine ⟨_, rfl, L, 0, rfl, hL, by decide, fun c => by omega, fun _ c => by omega, fun _ c => by omega, fun _ _ r0 hr0 => ?_⟩
    obtain rfl := rt_sq L0 hr0
    refine ⟨_, rfl, _, rfl, true, rfl, ?_⟩
    refine ⟨_, rfl, _, rfl, rfl, _, rfl, ?_⟩
    refine iteNS rfl ?_
    refine ⟨_, rfl, _, rfl, 10, 6, rfl, rfl, ⟨by decide, by decide, by decide⟩, b, c, _, rfl, B7, by decide, by decide, fun y o6 y0 y1 B8 => ?_⟩
    rw [upd_upd] at B8 ⊢
    refine ⟨_, _, rfl, rfl, ?_⟩
    refine ⟨_, rfl, _, rfl, 10, 6, rfl, rfl, ⟨by decide, by decide, by decide⟩, b, c, _, rfl, B8, by decide, by decide, fun x o7 x0 x1 B9 => ?_⟩
    rw [upd_upd] at B9 ⊢
    refine ⟨_, _, rfl, rfl, ?_⟩
    have e6 : (10 : Int) ^ (6 : Int).toNat = 1000000 := rfl
    have y1' : y < 10 ^ (6 : Int).toNat := y1
    have x1' : x < 10 ^ (6 : Int).toNat := x1
    rw [e6] at y1' x1'
    refine ⟨_, rfl, _, rfl, -1 - y, h, rfl, by omega, hh, fun _ q1 H3 s3 hq1 h3 => ?_, fun z => by omega, fun z => by omega⟩
    refine ⟨_, rfl, by show 1 ≤ sizeLine; decide, fun q2 hq2 => ?_⟩
    refine ⟨.list [.int (-1 - y)], .list [.int (-1 - y)], .lst (SqL.of (by rw [upd_ne (ne_of_none h3 hq2)]; exact h3)) (.cons (.int _) .nil), .lst (SqL.of upd_same) (.cons (.int _) .nil), rfl, rfl, false, ?_, ?_⟩
    · rw [SeqAt.eqv_refl _ rfl]
      rfl
    refine ⟨_, rfl, _, rfl, r0, -1 - x, rfl, hL, by omega, fun z => by omega, fun _ _ q1 H4 s4 hq1 h4 => ?_, fun z => by omega⟩
    refine ⟨_, rfl, by show 1 ≤ sizeLine; decide, fun q2 hq2 => ?_⟩
    refine ⟨.list [.int (-1 - x)], .list [.int (-1 - x)], .lst (SqL.of (by rw [upd_ne (ne_of_none h4 hq2)]; exact h4)) (.cons (.int _) .nil), .lst (SqL.of upd_same) (.cons (.int _) .nil), rfl, rfl, false, ?_, ?_⟩
    · rw [SeqAt.eqv_refl _ rfl]
      rfl
    refine ⟨_, rfl, _, rfl, -1 - y, -1 - x, rfl, by omega, by omega, fun _ q1 H5 s5 hq1 h5 => ?_, fun z => by omega, fun z => by omega⟩
    refine ⟨_, rfl, by show 1 ≤ sizeLine; decide, fun q2 hq2 => ?_⟩
    refine ⟨.list [.int (-1 - y)], .list [.int (-1 - y)], .lst (SqL.of (by rw [upd_ne (ne_of_none h5 hq2)]; exact h5)) (.cons (.int _) .nil), .lst (SqL.of upd_same) (.cons (.int _) .nil), rfl, rfl, true, ?_, ?_⟩
    · rw [SeqAt.eqv_refl _ rfl]
    refine ⟨_, rfl, _, rfl, r0, h, rfl, hL, hh, fun z => by omega, fun _ z => by omega, fun _ _ q3 H6 s6 hq3 h6 => ?_⟩
    refine ⟨by show 0 ≤ sizeLine; decide, fun q4 hq4 => ?_⟩
    refine ⟨.list [], .list [], .lst (SqL.of (by rw [upd_ne (ne_of_none h6 hq4)]; exact h6)) .nil, .lst (SqL.of upd_same) .nil, rfl, rfl, ?_⟩
    exact k _
theorem ok_law0 (T : Txt K mg) : FnOk PP w K mg base CX0 4 (He.ga K "law") T.fd_law ["_law_script"] (sp_law K) := fn_calm (ok_law T) fun _ _ _ _ h => h

end
def d_law_box : He.DefD := ⟨("_law_box", none), "_law_box", "_law_box", defArgs s_law_box, defBody s_law_box, defScope s_law_box, [], []⟩
def d_law_take : He.DefD := ⟨("_law_take", none), "_law_take", "_law_take", defArgs s_law_take, defBody s_law_take, defScope s_law_take, [], []⟩
def d_integer_root : He.DefD := ⟨("integer_root", none), "integer_root", "integer_root", defArgs s_integer_root, defBody s_integer_root, defScope s_integer_root, [], []⟩
def d_law_number : He.DefD := ⟨("_law_number", none), "_law_number", "_law_number", defArgs s_law_number, defBody s_law_number, defScope s_law_number, [], []⟩
def d_reach : He.DefD := ⟨("reach", none), "reach", "reach", defArgs s_reach, defBody s_reach, defScope s_reach, [.int 0], []⟩
def d_law_refused : He.DefD := ⟨("_law_refused", none), "_law_refused", "_law_refused", defArgs s_law_refused, defBody s_law_refused, defScope s_law_refused, [], []⟩
def d_law : He.DefD := ⟨("law", none), "law", "law", defArgs s_law, defBody s_law, defScope s_law, [], []⟩
def fnL : List He.DefD := [d_law_box, d_law_take, d_integer_root, d_law_number, d_reach, d_law_refused, d_law]
def erL : List Hd.ErD := [⟨"BadNumber", "BadNumber.__init__", inClass (top 2) 0⟩]
def faL : List He.Fa := [.glo "BadName", .glo "BadNumber", .glo "LadderError", .glo "_law_box", .glo "_law_number", .glo "_law_refused", .glo "_law_take", .glo "integer_root", .glo "law", .glo "reach", .free "ValueError", .free "bool", .free "int", .free "isinstance", .free "len", .free "super", .exm "BadNumber" "LadderError" true]
def exL (K : PySem.W.Frag) : Bool := (faL.all fun f => f.ok K) && (Hd.errB PP K "BadNumber" "value" "BadNumber.__init__" && (excB K (He.ga K "BadNumber") && (decide (PySem.W.kitOne K (.ref (He.ga K "BadNumber")) (.ref (He.ga K "BadNumber")) = some true) && (decide (PySem.W.kitOne K (.ref (He.ga K "BadNumber")) (.type "ValueError") = some true) && (decide (PySem.W.kitOne K (.ref (He.ga K "BadNumber")) (.ref (He.ga K "BadName")) = some false) && true)))))
abbrev R : PySem.W.OpenRow := PySem.W.OpenLaw.row PySem.Challenge.rw_rungbounds_k01_reach_of_a_ladder
abbrev hk : PySem.W.Hook := Hd.hookP 6 fnL erL exL
def loose : List Str := (["LadderError", "BadNumber", "BadName", "integer_root", "reach", "_law_box", "_law_take", "_law_number", "_law_refused"] : List Str)
def ob (s : PySem.W.SharedT) : Hd.AlP := Hd.obsPG 6 fnL erL exL (HandSHeadRun.getT s)
theorem ob_eq (s : PySem.W.SharedT) : ob s = hk.obs s.abs := Hd.obsPG_eq (HandSHeadRun.getT_eq s)
theorem run (w : World) : HandSHeadRun.RunEq R (PySem.W.view R.prog [12]) hk ob 6000 loose w := by
  intro os
  kernel_rfl
theorem facts {K : PySem.W.Frag} {h : Heap} {mg : Str → Option Value} (X : K.In h) (G : h.Ns mainGlobals mg) (c : Hd.SaysP fnL erL exL K) : Nonempty (Txt K mg) := by
  have c0 : ((faL.all fun f => f.ok K) && (Hd.errB PP K "BadNumber" "value" "BadNumber.__init__" && (excB K (He.ga K "BadNumber") && (decide (PySem.W.kitOne K (.ref (He.ga K "BadNumber")) (.ref (He.ga K "BadNumber")) = some true) && (decide (PySem.W.kitOne K (.ref (He.ga K "BadNumber")) (.type "ValueError") = some true) && (decide (PySem.W.kitOne K (.ref (He.ga K "BadNumber")) (.ref (He.ga K "BadName")) = some false) && true)))))) = true := c.more
  obtain ⟨c1, c2⟩ := He.ba c0
  have ff : ∀ f ∈ faL, f.ok K = true := List.all_eq_true.mp c1
  obtain ⟨fd0, F0⟩ := c.def_ 0 (d := d_law_box) rfl
  obtain ⟨fd1, F1⟩ := c.def_ 1 (d := d_law_take) rfl
  obtain ⟨fd2, F2⟩ := c.def_ 2 (d := d_integer_root) rfl
  obtain ⟨fd3, F3⟩ := c.def_ 3 (d := d_law_number) rfl
  obtain ⟨fd4, F4⟩ := c.def_ 4 (d := d_reach) rfl
  obtain ⟨fd5, F5⟩ := c.def_ 5 (d := d_law_refused) rfl
  obtain ⟨fd6, F6⟩ := c.def_ 6 (d := d_law) rfl
  obtain ⟨z0, c2⟩ := He.ba c2
  obtain ⟨z1, c2⟩ := He.ba c2
  obtain ⟨z2, c2⟩ := He.ba c2
  obtain ⟨z3, c2⟩ := He.ba c2
  obtain ⟨z4, c2⟩ := He.ba c2
  exact ⟨Txt.mk (fd0)
    (F0)
    (fd1)
    (F1)
    (fd2)
    (F2)
    (fd3)
    (F3)
    (fd4)
    (F4)
    (fd5)
    (F5)
    (fd6)
    (F6)
    (He.glo_ok X G (ff (.glo "BadName") (by simp [faL])))
    (He.glo_ok X G (ff (.glo "BadNumber") (by simp [faL])))
    (He.glo_ok X G (ff (.glo "LadderError") (by simp [faL])))
    (He.glo_ok X G (ff (.glo "_law_box") (by simp [faL])))
    (He.glo_ok X G (ff (.glo "_law_number") (by simp [faL])))
    (He.glo_ok X G (ff (.glo "_law_refused") (by simp [faL])))
    (He.glo_ok X G (ff (.glo "_law_take") (by simp [faL])))
    (He.glo_ok X G (ff (.glo "integer_root") (by simp [faL])))
    (He.glo_ok X G (ff (.glo "law") (by simp [faL])))
    (He.glo_ok X G (ff (.glo "reach") (by simp [faL])))
    (He.free_ok X G (ff (.free "ValueError") (by simp [faL])))
    (He.free_ok X G (ff (.free "bool") (by simp [faL])))
    (He.free_ok X G (ff (.free "int") (by simp [faL])))
    (He.free_ok X G (ff (.free "isinstance") (by simp [faL])))
    (He.free_ok X G (ff (.free "len") (by simp [faL])))
    (He.free_ok X G (ff (.free "super") (by simp [faL])))
    (He.exm_ok (ff (.exm "BadNumber" "LadderError" true) (by simp [faL])))
    (Hd.err_mk (x := "value") (msg := "number out of range") (p1 := ⟨6, 17, 6, 21⟩) (p2 := ⟨6, 23, 6, 28⟩) (q1 := ⟨7, 8, 7, 13⟩) (q2 := ⟨7, 8, 7, 15⟩) (q3 := ⟨7, 8, 7, 24⟩) (q4 := ⟨7, 25, 7, 46⟩) (q5 := ⟨7, 8, 7, 47⟩) (q6 := ⟨7, 8, 7, 47⟩) (q7 := ⟨8, 8, 8, 12⟩) (q8 := ⟨8, 8, 8, 18⟩) (q9 := ⟨8, 21, 8, 26⟩) (q10 := ⟨8, 8, 8, 26⟩) z0 (c.err_ 0 rfl) rfl rfl rfl rfl (by decide +kernel) (by decide +kernel) (by decide +kernel) (by decide +kernel) (by decide +kernel) (fun _ _ _ _ _ _ _ _ _ _ _ _ _ _ => rfl))
    (excB_ok z1)
    (of_decide_eq_true z2)
    (of_decide_eq_true z3)
    (of_decide_eq_true z4)⟩
end Pf
open PySem PySem.W PySem.Calls PyProof.Rows
set_option maxHeartbeats 0 in
theorem PySem.Challenge.cw_rungbounds_k01_reach_of_a_ladder_holds : PySem.Challenge.rw_rungbounds_k01_reach_of_a_ladder.Holds := by
  w_on; o_law
  refine HandSHeadRun.head_any (r := OpenLaw.row PySem.Challenge.rw_rungbounds_k01_reach_of_a_ladder) (q := view (OpenLaw.row PySem.Challenge.rw_rungbounds_k01_reach_of_a_ladder).prog [12]) (H := Pf.hk) (ob := Pf.ob) (M := 6000) (loose := Pf.loose) (d := HandSHeadRun.topDef (OpenLaw.row PySem.Challenge.rw_rungbounds_k01_reach_of_a_ladder).prog 12) (kwd := []) Pf.ob_eq
    (by kernel_rfl) (fun s => by kernel_rfl) Pf.run (by kernel_rfl) (by kernel_rfl) (by kernel_rfl) (by rfl) (by first | assumption | decide +kernel) (by decide +kernel) ⟨rfl, rfl, rfl, rfl, rfl, by decide +kernel⟩ ?hw ?hc
  case hw => w_witness2
  case hc =>
    refine L2.walk_ofE (l := PySem.Challenge.rw_rungbounds_k01_reach_of_a_ladder) (n := 63) (k := 4) (x := "_law_script") (CX := L2.CX0) rfl (by decide) (by kernel_rfl) ⟨rfl, by decide, by decide⟩ ?F (fun _ _ _ _ z => z)
    intro w mg fa h Y G hmg0
    obtain ⟨K, KX, c⟩ := Y
    have hmg : mg ("law" : PySem.Str) = some (.ref fa) := by
      have e : (HandSHeadRun.topDef (OpenLaw.row PySem.Challenge.rw_rungbounds_k01_reach_of_a_ladder).prog 12).name = ("law" : PySem.Str) := by kernel_rfl
      rw [← e]
      exact hmg0
    obtain ⟨T⟩ := Pf.facts KX G c
    have e := hmg.symm.trans T.m_law
    cases e
    have b := L2.FunD.bindsA (ps := ["_law_script"]) T.F_law fun _ _ _ _ _ _ us hl => match us, hl with | [_], _ => rfl
    exact ⟨K, T.fd_law, Pf.sp_law K, KX, fun s v => b s [v] rfl, fun H a ns hl hO hS => ⟨a, ns, rfl, hS, hl, fun _ => rfl⟩, fun base hb hn => Pf.ok_law0 (w := w) (base := base) T⟩
#print axioms PySem.Challenge.cw_rungbounds_k01_reach_of_a_ladder_holds
