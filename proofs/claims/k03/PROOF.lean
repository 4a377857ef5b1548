import PyProof.Rows.All
import Wide.All
import OpenK.AllK
import Wide.FinOn
import KE.KStateDown
import KE.KExcSuper
import KE.KExcIs
import Lean
import HandS.ForMost
import HandS.ForExc
import HandS.ExcSuper
import HandS.ExcField
import HandS.ExcIs
import HandS.Defaults
import HandS.HeadHook3
import HandS.HeadEnd
import HandS.Head2
import HandS.WideBits
import HandS.Wide
import HandS.Evl
import HandS.CallSlots
import HandS.IsInst
import HandS.Codes
import HandS.SortInts
import HandS.Flow
import HandS.More
import HandS.Star
import HandS.ClsMeth
import PySem.Challenge.RW_rungbounds_k03_length_of_a_join
set_option Elab.async false
set_option linter.all false
set_option maxRecDepth 100000
set_option maxHeartbeats 8000000
set_option exponentiation.threshold 10000
namespace PySem
namespace ErrX
open PySem.W PySem.Calls PyProof.Rows PySem.HandSPX
/-! ### the text of an error's __init__: super().__init__(msg); self.f = x -/
def iA (x : Str) (p1 p2 : Pos) : Arguments := { posonlyargs := [], args := [{ arg := "self", annotation := none, pos := p1 }, { arg := x, annotation := none, pos := p2 }], vararg := none, kwonlyargs := [], kw_defaults := [], kwarg := none, defaults := [] }
def iB (x f msg : Str) (q1 q2 q3 q4 q5 q6 q7 q8 q9 q10 : Pos) : List Stmt :=
  [.Expr (.Call (.Attribute (.Call (.Name "super" q1) [] [] q2) "__init__" q3) [.Constant (.str msg) 0 q4] [] q5) q6,
   .Assign [.Attribute (.Name "self" q7) f q8] (.Name x q9) q10]
def iS (x : Str) : Scope := { kind := .function, names := [(PySem.Str.ofString "self", .local), (x, .local), (PySem.Str.ofString "__class__", .free), (PySem.Str.ofString "super", .globalImplicit)], isGenerator := false, isCoroutine := false, more := [] }
/-- what the written part says of the error class at C and of its __init__ at fI; x the parameter, f the field -/
structure ErrTxt (P : Program) (K : Frag) (C : Addr) (x f : Str) : Prop where
  cls : ∃ nm q N bs bm sn sub ab col dd k0 k1 k2 k3 k5, K.lookup C = some (excClassObj nm q C N bs bm true sn sub ab col dd k0 k1 k2 k3 k5 "ValueError.__new__") ∧ refsVE bm = true
  along : ∃ cd, clsIn K C = some cd ∧ alongIn K "__init__" ((cd.mro.dropWhile (· != .ref C)).drop 1) = some (some (.builtin "ValueError.__init__"))
  opq : nsIn K cStatics "thirdparty.any" = some none
  selfC : mroIn K C (.ref C) = some true
  ve : subIn K (.ref C) (.type "ValueError") = some true
  sa : findIn K (.ref C) "__setattr__" = some (some (.builtin "object.__setattr__"))
  ga : findIn K (.ref C) "__getattribute__" = some (some (.builtin "BaseException.__getattribute__"))
  gg : findIn K (.ref C) "__getattr__" = some none
  noN : findIn K (.ref C) f = some none
  kC : keepIn K (.ref C) = true
  exC : subIn K (.ref C) (.type "BaseException") = some true
  tyC : typeIn K (.ref C) = some (.type "type")
  hdC : hasDictIn K C = true
  fn : ∃ fI, findIn K (.ref C) "__init__" = some (some (.ref fI)) ∧ typeIn K (.ref fI) = some (.type "function") ∧
    ∃ (oc : Value) (od : Option Addr) (doc pm kV : Value) (an : Option Addr) (cda cc : Addr) (ct : Value) (osl : Array (Option Value)) (nm qual msg : Str) (p1 p2 q1 q2 q3 q4 q5 q6 q7 q8 q9 q10 : Pos),
      (q3.endLine == q5.line) = true ∧ K.lookup fI = some ⟨oc, od, .func (ksFn nm qual (iA x p1 p2) (iB x f msg q1 q2 q3 q4 q5 q6 q7 q8 q9 q10) (iS x) .none kV doc pm an (.ref cda) ct cc), osl⟩ ∧ codeIn K (.ref cda) qual = true ∧
      (∃ ccl cdd vs ccs file tf, K.lookup cda = some ⟨ccl, cdd, .fields vs, ccs⟩ ∧ vs[2]? = some (.str file tf) ∧ ((P.main.file : Str) == file) = true) ∧
      ∃ cl cld csl, K.lookup cc = some ⟨cl, cld, .cell (some (.ref C)), csl⟩
  top : (P.main.scope.names.lookup ("super" : Str)).isSome = false
  xs : (x == ("self" : Str)) = false
  xc : (("__class__" : Str) == x) = false
  xu : (("super" : Str) == x) = false
  xd : (x == ("__debug__" : Str)) = false
  bnd : ∀ (nm qual : Str) (Bd : List Stmt) (kV doc pm : Value) (an : Option Addr) (cdv ct : Value) (cc : Addr) (p1 p2 : Pos) (u v : Value), bindArgs (ksFn nm qual (iA x p1 p2) Bd (iS x) .none kV doc pm an cdv ct cc) ⟨[u, v], []⟩ = pure [(("self" : Str), u), (x, v)]
theorem one_size (v : Value) : [v].length ≤ sizeLine := by
  rw [sizeLine_eq]
  exact (by decide : 1 ≤ 16777216)
/-- a made error -/
structure Made (h h' : Heap) (e C d : Addr) (f : Str) (v : Value) : Prop where
  keep : ∀ b o, h.get? b = some o → h'.get? b = some o
  new : h.objs.size ≤ e
  obj : ∃ oe vs, h'.get? e = some oe ∧ oe.cls = .ref C ∧ oe.dict = some d ∧ oe.data = .fields vs ∧ vs[1]? = some .none
  dbig : h.objs.size ≤ d
  dne : d ≠ e
  ns : h'.Ns1 d (fun y => if y = f then some v else none)
section
variable {prog : Program} {w : World} {A : Around} {E : Value → Shared → Prop} {h : Heap} {g : Array GenState} {d : Drawn} {t : Nat} {os : OsState}
variable {nm q : Str} {C N : Addr} {bs bm : List Value} {hdct : Bool} {sn : List Str} {sub : List Value} {ab : Bool} {col : Option Bool} {dd : Option Addr} {k0 k1 k2 k3 k5 : Option Value}
/-- the bound ValueError.__init__ called -/
theorem call_bw {u e t0 : Addr} {rest : List Value} {Q : Value → Shared → Prop}
    (hC : h.get? C = some (excClassObj nm q C N bs bm hdct sn sub ab col dd k0 k1 k2 k3 k5 "ValueError.__new__")) (he : h.get? e = some (excO C t0)) (hu : h.get? u = some (kxs_mw "ValueError.__init__" e)) (hrest : rest.length ≤ sizeLine)
    (hq : ∀ h' t1, (∀ b o, b ≠ e → h.get? b = some o → h'.get? b = some o) → h'.get? e = some (excO C t1) → Q .none ⟨h', g, d, t, os⟩) :
    wpAny (model prog w) A (call (.ref u) rest) Q E ⟨h, g, d, t, os⟩ := by
  refine wpAny_call (codeAny_of_tree ?_)
  show wpAny _ A.in1 (callAny (.ref u) ⟨rest, []⟩) _ _ _
  simp only [callAny]
  refine wpAny_bind (wpAny_load hu ?_)
  simp only [kxs_mw, show (Value.type "method-wrapper" == Value.type "method" || Value.type "method-wrapper" == Value.type "builtin_function_or_method" || Value.type "method-wrapper" == Value.type "method-wrapper") = true by decide, if_true]
  refine W.KFB.if_so (by decide) ?_
  refine wpAny_bind (ESX.check_bound F.excBase_ValueError hC he rfl ?_)
  refine wpAny_bind (wpAny_pure (wpAny_pure ?_))
  refine ⟨Code.quiet_builtin _ (by decide +kernel), codeAny_builtin F.excBase_ValueError.initEntry ?_⟩
  rw [Around.under_plainId F.excBase_ValueError.init.plain _]
  wp_walk
  refine hq _ h.objs.size (fun b o hb ho => ?_) ?_
  · rw [Heap.get?_update_other _ _ (Ne.symm hb)]
    exact Heap.get?_push_of_some _ ho
  · rw [Heap.get?_update_self _ (Heap.get?_push_of_some _ he) rfl]
    rfl
end
section
variable {prog : Program} {w : World} {A : Around} {E : Value → Shared → Prop} {R : Result → Shared → Prop} {s : Shared} {K : Frag} {mg mb : Str → Option Value} {C : Addr} {x f : Str}
/-- what __init__ leaves of a fresh exception at e -/
structure InitEnd (h h' : Heap) (e C dx : Addr) (f : Str) (v : Value) : Prop where
  keep : ∀ b o, b ≠ e → h.get? b = some o → h'.get? b = some o
  obj : ∃ t1, h'.get? e = some { cls := .ref C, dict := some dx, data := .fields #[.ref t1, .none, .none, .none, .bool false, .none] }
  dbig : h.objs.size ≤ dx
  dne : dx ≠ e
  ns : h'.Ns1 dx (fun y => if y = f then some v else none)
theorem clsIn_of {nm q : Str} {N : Addr} {bs bm : List Value} {sn : List Str} {sub : List Value} {ab : Bool} {col : Option Bool} {dd : Option Addr} {k0 k1 k2 k3 k5 : Option Value}
    (hC : K.lookup C = some (excClassObj nm q C N bs bm true sn sub ab col dd k0 k1 k2 k3 k5 "ValueError.__new__")) :
    clsIn K C = some { name := nm, bases := bs, mro := .ref C :: bm, ns := N, qualname := q, hasDict := true, slotNames := sn, subclasses := sub, abstract := ab, collection := col, hasDel := false } := by
  unfold clsIn; rw [hC] <;> rfl
theorem mcall_one {o : Expr} {m : Str} {apos pos : Pos} {env : Env} {ov : Value} {n : Nat} {args : List (Bool × Sem Value)} (hf : methodCallForm n args [] = true) (hl : (apos.endLine == pos.line) = true) :
    methodCall o m apos pos env ov n args [] = (do
      let (f, first) ← holding [ov] (getMethod ov m (do return (← importBound o env).getD true))
      callWith pos f first args []) := by
  have e1 : calleeOf (methodCallForm n args []) o env ov m = getMethod ov m (do return (← importBound o env).getD true) := by
    rw [hf] <;> rfl
  have e2 : methodCallPos (methodCallForm n args []) o env apos pos = pure pos := by
    unfold methodCallPos
    exact if_pos (by rw [hl, Bool.or_true])
  unfold methodCall
  rw [e1, e2]
  first
    | rfl
    | simp only [pure_bind]
theorem look_x (T : ErrTxt prog K C x f) : (iS x).names.lookup x = some .local := by
  have e := T.xs
  have e2 : (x == PySem.Str.ofString "self") = false := e
  simp [iS, List.lookup, e2]
theorem look_c (T : ErrTxt prog K C x f) : (iS x).names.lookup ("__class__" : Str) = some .free := by
  have e := T.xc
  have e0 : ((PySem.Str.ofString "__class__") == PySem.Str.ofString "self") = false := by decide +kernel
  have e2 : (PySem.Str.ofString "__class__" == x) = false := e
  show List.lookup (PySem.Str.ofString "__class__") (iS x).names = _
  simp [iS, List.lookup, e2, e0]
theorem look_u (T : ErrTxt prog K C x f) : (iS x).names.lookup ("super" : Str) = some .globalImplicit := by
  have e := T.xu
  have e0 : ((PySem.Str.ofString "super") == PySem.Str.ofString "self") = false := by decide +kernel
  have e1 : ((PySem.Str.ofString "super") == PySem.Str.ofString "__class__") = false := by decide +kernel
  have e2 : (PySem.Str.ofString "super" == x) = false := e
  show List.lookup (PySem.Str.ofString "super") (iS x).names = _
  simp [iS, List.lookup, e2, e0, e1]
theorem look_s : (iS x).names.lookup ("self" : Str) = some .local := by
  show List.lookup (PySem.Str.ofString "self") (iS x).names = _
  simp [iS, List.lookup]
theorem err_init (T : ErrTxt prog K C x f) {e t0 fI : Addr} {v : Value} (hfI : findIn K (.ref C) "__init__" = some (some (.ref fI))) (X : K.In s.heap) (G : s.heap.Ns mainGlobals mg) (Gs : mg "super" = none) (B : s.heap.Ns builtinsNs mb) (Bs : mb "super" = some (.type "super"))
    (hlim : s.heap.NoLimit) (hx : s.heap.get? e = some (excO C t0)) (hnx : K.lookup e = none) (hroom : A.depth < recursionLimit)
    (hq : ∀ h' tk dx, InitEnd s.heap h' e C dx f v → R (.ok (.ret .none)) { s with heap := h', toks := tk }) :
    codeAny (model prog w) A (.call (.ref fI) ⟨[.ref e, v], []⟩) R s := by
  obtain ⟨fI', hfI', hty, oc, od, doc, pm, kV, an, cda, cc, ct, osl, nm0, qual, msg, p1, p2, q1, q2, q3, q4, q5, q6, q7, q8, q9, q10, hln, ho, hcd, ⟨ccl, cdd, cvs, ccs, file, tf, hcode, hvs, hfile⟩, ⟨cl, cld, csl, hcell⟩⟩ := T.fn
  have ef : fI' = fI := by
    have z := hfI'.symm.trans hfI
    simpa using z
  subst ef
  obtain ⟨nm, q, N, bs, bm, sn, sub, ab, col, dd, k0, k1, k2, k3, k5, hC, hbm⟩ := T.cls
  have hcl := clsIn_of hC
  obtain ⟨cd', hcd', hal⟩ := T.along
  have hcdE := hcd'
  rw [hcl] at hcd'
  have hcd'' := (Option.some.inj hcd')
  have hlx := look_x T
  have hlc := look_c T
  have hlu := look_u T
  have hls := look_s (x := x)
  refine ks_codeAny_call_defAt (fd := ksFn nm0 qual (iA x p1 p2) (iB x f msg q1 q2 q3 q4 q5 q6 q7 q8 q9 q10) (iS x) .none kV doc pm an (.ref cda) ct cc) (binds := [("self", .ref e), (x, v)]) hroom (X _ _ ho) rfl hlim (codeRec_of X hcd) rfl
    (BindsTo.of_eq (T.bnd ..)) ?hcell ?hloc (fun h₁ hns hk₁ => ?_) rfl rfl rfl
  case hcell =>
    intro y hy
    have hy' : y ∈ [(PySem.Str.ofString "self", NameKind.local), (x, NameKind.local), (PySem.Str.ofString "__class__", NameKind.free), (PySem.Str.ofString "super", NameKind.globalImplicit)] := hy
    simp only [List.mem_cons, List.not_mem_nil, or_false] at hy'
    rcases hy' with rfl | rfl | rfl | rfl <;> (intro z; cases z)
  case hloc =>
    intro y hy
    simp only [List.mem_cons, List.not_mem_nil, or_false] at hy
    rcases hy with rfl | rfl
    · exact hls
    · exact hlx
  have X₁ : K.In h₁ := X.keeps hk₁
  have hx₁ := hk₁ _ _ hx
  have hmx : (fun y => List.lookup y ([(("self" : Str), Value.ref e), (x, v)] : List (Str × Value)).reverse) x = some v := by simp [List.lookup]
  have hms : (fun y => List.lookup y ([(("self" : Str), Value.ref e), (x, v)] : List (Str × Value)).reverse) ("self" : Str) = some (.ref e) := by
    have e1 : (("self" : Str) == x) = false := by
      rw [Bool.eq_false_iff]
      intro z
      have z2 := (beq_iff_eq.mp z)
      have z3 := T.xs
      rw [← z2] at z3
      simp at z3
    simp [List.lookup, e1]
  obtain ⟨hp, g, dr, tk, os⟩ := s
  have hlc' : (ksEnv qual (iS x) hp.objs.size fI' (.ref cda) cc).kindOf "__class__" = some .free := hlc
  have hlu' : (ksEnv qual (iS x) hp.objs.size fI' (.ref cda) cc).kindOf "super" = some .globalImplicit := hlu
  have hls' : (ksEnv qual (iS x) hp.objs.size fI' (.ref cda) cc).kindOf "self" = some .local := hls
  have hlx' : (ksEnv qual (iS x) hp.objs.size fI' (.ref cda) cc).kindOf x = some .local := hlx
  obtain ⟨oD, hD1, hD2⟩ : ∃ oD, h₁.get? C = some oD ∧ ∃ cdc, oD.data = .cls cdc := ⟨_, X₁ _ _ hC, _, rfl⟩
  obtain ⟨cdc, hD2⟩ := hD2
  have I1 : InstAt h₁ e (excO C t0) C none := ⟨hx₁, rfl, rfl, trivial⟩
  show wpAt _ _ _ (execs (iB x f msg q1 q2 q3 q4 q5 q6 q7 q8 q9 q10) (ksEnv qual (iS x) hp.objs.size fI' (.ref cda) cc)) _ _ _
  refine ks_wpAt_execs_cons (ks_wpAt_Expr_any (ks_wpAt_MethodCall (pl := (do return (← importBound (.Call (.Name "super" q1) [] [] q2) (ksEnv qual (iS x) hp.objs.size fI' (.ref cda) cc)).getD true)) ?_ ?he))
  case he =>
    rw [arm_eval_Call]
    refine congrArg _ (funext fun ov => ?_)
    refine congrArg _ (funext fun _ => ?_)
    exact mcall_one rfl hln
  refine ks_wpAt_super_base (env := ksEnv qual (iS x) hp.objs.size fI' (.ref cda) cc) hlu' hlc' (by decide +kernel) rfl (X₁ _ _ ho) rfl rfl rfl (X₁ _ _ hcode) rfl hvs hfile T.top ?_
  refine ks_loadName_global rfl hlu' (loadGlobal_builtin (env := ksEnv qual (iS x) hp.objs.size fI' (.ref cda) cc) (G.keeps hk₁) Gs (B.keeps hk₁) Bs ⟨rfl, ?_⟩)
  refine wpAny_loadName_free rfl hlc' rfl ⟨_, X₁ _ _ hcell, rfl⟩ ?_
  refine wpAny_loadName_local rfl hls' hns hms ?_
  refine ks_wpAny_isType_cls hD1 hD2 ⟨rfl, ?_⟩
  refine ks_wpAny_call_super hD1 hD2 hx₁ rfl (fun c z => by cases z) (looks_mroIn X₁ T.selfC) (fun h₂ e₂ k₂ => ?_)
  have X₂ : K.In h₂ := X₁.keeps k₂
  have hx₂ := k₂ _ _ hx₁
  have I2 : InstAt h₂ e (excO C t0) C none := ⟨hx₂, rfl, rfl, trivial⟩
  have hI2 : Looks (model prog w) h₂ (isInstance (.ref e) (.type "ValueError")) true := I2.type.andThen (looks_subIn X₂ T.ve)
  refine kxs_getMethod kxs_ValueError e₂ (looks_opaque X₂ T.opq) (l₀ := cd'.mro) (fun A Q E s k q => wpAny_bind ((looks_clsIn X₂ hcdE) A _ E s k (wpAny_pure q))) rfl X₂ hal hI2 (ks_ne X₂ I2 hcdE) (by decide +kernel) ?_
  have hu₃ : (h₂.push (kxs_mw "ValueError.__init__" e)).get? h₂.objs.size = some (kxs_mw "ValueError.__init__" e) := Heap.get?_push_at rfl rfl
  have k₃ : ∀ b o, h₂.get? b = some o → (h₂.push (kxs_mw "ValueError.__init__" e)).get? b = some o := fun b o z => Heap.get?_push_of_some _ z
  refine kxs_callWith (i := "ValueError.__init__") (x := e) rfl ?_
  refine evalArgs_plain (PyProof.Rows.spliced_more (Constant_str (PyProof.Rows.spliced_none ?_)))
  refine ⟨hu₃, ?_⟩
  show wpAny _ _ (call (.ref h₂.objs.size) [_]) _ _ _
  refine call_bw (nm := nm) (q := q) (N := N) (bs := bs) (bm := bm) (hdct := true) (sn := sn) (sub := sub) (ab := ab) (col := col) (dd := dd) (k0 := k0) (k1 := k1) (k2 := k2) (k3 := k3) (k5 := k5) (X₂.keeps k₃ _ _ hC) (k₃ _ _ hx₂) hu₃ (one_size _) (fun h₄ t1 k₄ hx₄ => ?_)
  have hk14 : ∀ b o, b ≠ e → h₁.get? b = some o → h₄.get? b = some o := fun b o hb z => k₄ b o hb (k₃ b o (k₂ b o z))
  have hLe : hp.objs.size ≠ e := Nat.ne_of_gt (Heap.lt_size hx)
  have hns₄ : h₄.Ns hp.objs.size (fun y => List.lookup y ([(("self" : Str), Value.ref e), (x, v)] : List (Str × Value)).reverse) := by
    obtain ⟨o, es, ep, ho1, r⟩ := hns
    exact ⟨o, es, ep, hk14 _ _ hLe ho1, r⟩
  have X₄ : K.In h₄ := fun a o z => hk14 a o (fun y => by rw [y, hnx] at z; cases z) (X₁ a o z)
  refine ks_wpAt_execs_cons (ks_wpAt_Assign_Attr (wpAt_of_wpAny (ESX.ldL (env := ksEnv qual (iS x) hp.objs.size fI' (.ref cda) cc) hns₄ hmx (ESX.ldL (env := ksEnv qual (iS x) hp.objs.size fI' (.ref cda) cc) hns₄ hms ?_ rfl hls' (by decide)) rfl hlx' T.xd)))
  refine set_plain X₄ (ox := excO C t1) (od := none) ⟨hx₄, rfl, rfl, trivial⟩ T.sa ?_
  refine exc_osa X₄ hx₄ hcl (show refsVE (.ref C :: bm) = true from hbm) rfl T.noN (fun h₅ tk₅ dx k₅ dn dne hx₅ hn₅ => ?_)
  refine wpAt_of_wpAny (wpAny_execs_nil (hq h₅ tk₅ dx ⟨fun b o hb z => k₅ b o hb (hk14 b o hb (hk₁ b o z)), ⟨t1, hx₅⟩, ?_, dne, hn₅⟩))
  refine Nat.le_trans ?_ dn
  obtain ⟨o, es, ep, ho1, r⟩ := hns₄
  exact Nat.le_of_lt (Heap.lt_size ho1)
theorem err_made (T : ErrTxt prog K C x f) {v : Value} (X : K.In s.heap) (G : s.heap.Ns mainGlobals mg) (Gs : mg "super" = none) (B : s.heap.Ns builtinsNs mb) (Bs : mb "super" = some (.type "super")) (hlim : s.heap.NoLimit) (hroom : A.depth + 1 < recursionLimit)
    (hq : ∀ h' tk e d, Made s.heap h' e C d f v → R (.ok (.ret (.ref e))) { s with heap := h', toks := tk }) :
    codeAny (model prog w) A (.call (.ref C) ⟨[v], []⟩) R s := by
  obtain ⟨nm, q, N, bs, bm, sn, sub, ab, col, dd, k0, k1, k2, k3, k5, hC, hbm⟩ := T.cls
  obtain ⟨fI, iC, tC, _⟩ := id T.fn
  obtain ⟨hp, g, dr, tk, os⟩ := s
  have k : ∀ b o, hp.get? b = some o → ((hp.push (kdv_tup [v])).push (excO C hp.objs.size)).get? b = some o := fun b o e => Heap.get?_push_of_some _ (Heap.get?_push_of_some _ e)
  have hget : ((hp.push (kdv_tup [v])).push (excO C hp.objs.size)).get? (hp.objs.size + 1) = some (excO C hp.objs.size) := by heap_get
  have hnx : K.lookup (hp.objs.size + 1) = none := by
    cases e : K.lookup (hp.objs.size + 1) with
    | none => rfl
    | some o =>
      have z : hp.get? (hp.objs.size + 1) = some o := X _ _ e
      exact absurd (Nat.lt_of_succ_lt (Heap.lt_size z)) (Nat.lt_irrefl _)
  refine call_own F.excBase_ValueError (fun X => refsVE_contains X bm hbm) (X _ _ hC) (looks_findIn X iC) (fun self => bind_fn X self tC) (one_size v) ?_
  refine err_init (s := ⟨(hp.push (kdv_tup [v])).push (excO C hp.objs.size), g, dr, tk, os⟩) T iC (X.keeps k) (G.keeps k) Gs (B.keeps k) Bs (hlim.keeps k) hget hnx ?_ fun h' tk' dx ⟨k', ⟨t1, hx⟩, dn, dne, hns⟩ => ?_
  · show A.depth + 1 < recursionLimit
    exact hroom
  · have old : ∀ b o, hp.get? b = some o → h'.get? b = some o := fun b o e => k' b o (Nat.ne_of_lt (Nat.lt_succ_of_lt (Heap.lt_size e))) (k b o e)
    have z : hp.objs.size + 1 + 1 ≤ dx := by
      first
        | (simpa only [Heap.size_push] using dn)
        | exact dn
        | (have q := dn; rw [Heap.size_push, Heap.size_push] at q; exact q)
    exact ⟨rfl, hq h' tk' (hp.objs.size + 1) dx ⟨old, Nat.le_succ _, ⟨_, _, hx, rfl, rfl, rfl, rfl⟩, Nat.le_trans (Nat.le_trans (Nat.le_succ _) (Nat.le_succ _)) z, dne, hns⟩⟩
end
end ErrX
end PySem
namespace L2
open PySem PySem.Spec PyProof.Rows
/-! ### raise Err(e), err.f, isinstance(err, C) over the layer -/
theorem relO_one {v : V} {v' : Value} (r : RelV v v') (x f : Str) : RelO (List.lookup f [(x, v)]) (if f = x then some v' else none) := by
  by_cases hw : f = x
  · subst hw
    rw [if_pos rfl]
    have q : List.lookup f [(f, v)] = some v := by simp [List.lookup]
    rw [q]
    exact r
  · rw [if_neg hw]
    have qw : (f == x) = false := by simpa using hw
    have q2 : List.lookup f [(x, v)] = none := by simp [List.lookup, qw]
    rw [q2]
    trivial
/-- Err(e): its class C, its one field f -/
def tMkErr (C : Addr) (f : Str) (ta : TA) : St → Hp → XK → Prop := fun σ H Q => ta σ H fun vs H1 => ∃ v, vs = [v] ∧ ∀ d, H1 d = none → Q (.ref C) (some d) (upd H1 d (.xd [(f, v)]))
section
variable {X : Cx} {C : Addr} {x f nm : Str}
theorem pmk_err {a : Expr} {ta : TA} {p pos : Pos} {k : Nat} (T : PySem.ErrX.ErrTxt X.prog X.K C x f) (hm : X.mg nm = some (.ref C)) (hsu : X.mg "super" = none) (hr : Room k X.A) (ha : PA X [a] ta) (hg : Gl X nm := by rfl) (hdb : (nm == ("__debug__" : Str)) = false := by decide)
    (he : starEach (a :: []) X.env = (false, eval a X.env) :: starEach [] X.env := by rfl) (hpl : (backTo pos (starEach [] X.env)).any (·.1) = false := by rfl) :
    PMk X (.Call (.Name nm p) [a] [] pos) (tMkErr C f ta) := by
  intro pins s σ H Q I h
  refine wpAny_Call_Name_kw (ld_glob I hg hm ?_ hdb)
  refine PySem.W.callWith_K (h₀ := X.base) I.ok.mod.kin T.kC (thn (ha.run pos pins s σ H _ I h) fun us s1 hh => ?_) he hpl
  obtain ⟨vs, H1, I1, r1, v, ev, q1⟩ := hh
  subst ev
  refine ⟨I1.kIn, ?_⟩
  cases r1 with
  | cons rv rn =>
    rename_i v' us'
    cases rn
    show wpAny _ _ (call (.ref C) [v']) _ _ _
    have hlim := I1.nolimit
    have hG := I1.mod.glob.keeps I1.bk
    obtain ⟨mb, hb1, hb2⟩ := I1.mod.blt
    have hB := hb1.keeps I1.bk
    obtain ⟨hp, g, dr, tk, os⟩ := s1
    refine wpAny_call (PySem.ErrX.err_made T I1.kIn hG hsu hB ((hb2 "super" (by decide)).trans (by decide +kernel)) hlim (by have := hr.dp; omega) fun h' tk' e d M => ?_)
    show MkP X pins σ Q (.ref e) ⟨h', g, dr, tk', os⟩
    obtain ⟨oe, fv, hoe, hc, hd, hdat, h1⟩ := M.obj
    have hns := M.ns
    obtain ⟨G', g1, g2⟩ := restrict h' fun b => decide (b ≠ e)
    have gk : ∀ b, b ≠ e → G'.get? b = h'.get? b := fun b hb => g1 b (decide_eq_true hb)
    have ge : G'.get? e = none := g2 e (by simp)
    have old : ∀ b o, hp.get? b = some o → G'.get? b = some o := fun b o q => (gk b (Nat.ne_of_lt (Nat.lt_of_lt_of_le (Heap.lt_size q) M.new))).trans (M.keep b o q)
    have ob : ObjOk X.prog X.w (upd H1 d (.xd [(f, v)])) G' d (.xd [(f, v)]) :=
      ⟨_, hns.at (fun o q => (gk d M.dne).trans q), fun y => relO_one rv f y⟩
    have J : Inv X pins σ (upd H1 d (.xd [(f, v)])) ⟨G', g, dr, tk', os⟩ := I1.laid (t' := tk') old M.dbig ob
    refine ⟨e, oe, fv, ⟨G', g, dr, tk', os⟩, _, .ref C, some d, rfl, J, fun b o q => ?_, ge, hoe, ⟨hc, hd⟩, hdat, h1, ?_, rfl, I1.bare, raises_own T.exC T.tyC, q1 d (I1.hok.fresh M.dbig)⟩
    · by_cases hb : b = e
      · have q' : G'.get? b = some o := q
        rw [hb, ge] at q'; cases q'
      · exact (gk b hb).symm.trans q
    · rw [upd_ne (Ne.symm M.dne)]
      exact I1.hok.fresh M.new
/-- raise Err(e) -/
def tRaiseErr (C : Addr) (f : Str) (W : WX) (ta : TA) : TS := fun _ σ H => tMkErr C f ta σ H fun cls d H' => W cls d σ H'
theorem ps_raiseErr {a : Expr} {ta : TA} {W : WX} {p pos pos2 : Pos} {k : Nat} (hc : X.calm = true) (T : PySem.ErrX.ErrTxt X.prog X.K C x f) (hm : X.mg nm = some (.ref C)) (hsu : X.mg "super" = none) (hr : Room k X.A) (tk : Takes X W) (ha : PA X [a] ta) (hg : Gl X nm := by rfl) (hdb : (nm == ("__debug__" : Str)) = false := by decide)
    (he : starEach (a :: []) X.env = (false, eval a X.env) :: starEach [] X.env := by rfl) (hpl : (backTo pos (starEach [] X.env)).any (·.1) = false := by rfl) :
    PS X (.Raise (some (.Call (.Name nm p) [a] [] pos)) none pos2) (tRaiseErr C f W ta) := ps_raise hc tk (pmk_err T hm hsu hr ha hg hdb he hpl)
theorem errXf {P : Program} {K : PySem.W.Frag} (T : PySem.ErrX.ErrTxt P K C x f) : XfC K C := ⟨T.ga, T.gg, T.exC, T.hdC⟩
end
end L2
namespace PySem.W
open PySem PySem.Spec PySem.Calls PyProof.Rows
section
variable {prog : Program} {w : World} {A : Around} {E : Value → Shared → Prop} {s : Shared} {K : Frag} {x D : Addr} {ox : Obj} {od : Option Obj}
theorem findObj_dat {C : Addr} {name : Str} {a g : Value} (hc : (clsIn K C).isSome = true) (ha : findIn K (.ref C) name = some (some a)) (hg : specialIn K a "__get__" = some (some g)) (ht : takesIn K a = some true) : findObj K C od name = some (.bind g a) := by
  obtain ⟨cd, hc⟩ := Option.isSome_iff_exists.mp hc
  unfold findObj
  rw [hc, Option.bind_some, ha, Option.bind_some]
  simp [hg, ht]
end
end PySem.W
namespace L2
open PySem PySem.Spec PyProof.Rows
/-- isinstance(e, c), e the own error that the suite holds (its class cls, its dict d) -/
def rIsErr (K : PySem.W.Frag) (a : Addr) (cls : Value) (d : Option Addr) : List V → Hp → VK → Prop := fun xs H Q => ∃ (c : V) (cv : Value) (b : Bool) (D dd : Addr) (fs : List (Str × V)), xs = [.ref a, c] ∧ cls = .ref D ∧ ExcC K D ∧ d = some dd ∧ H dd = some (.xd fs) ∧
  (∀ u, RelV c u → u = cv) ∧ PySem.W.kitOne K (.ref D) cv = some b ∧ Q (.bl b) H
theorem call_isErr {X : Cx} {a : Addr} {oe : Obj} {cls : Value} {d : Option Addr} {pn : List (Addr × Obj)} (hz : Zc cls d oe) (hf : ∃ vs, oe.data = .fields vs) : CallR (X.suite a ((a, oe) :: pn)) (.builtin "isinstance") (rIsErr X.K a cls d) := by
  intro pins s σ H xs us Q I r h
  obtain ⟨c, cv, b, D, dd, fs, rfl, rfl, C, rfl, hd, hcv, e, q⟩ := h
  cases r with
  | cons rx rr =>
    cases rr with
    | cons rt rr =>
      cases rr
      cases rx
      have ec := hcv _ rt
      subst ec
      obtain ⟨hget, _⟩ := I.pin (a, oe) (List.mem_append.mpr (.inl List.mem_cons_self))
      obtain ⟨vs, hv⟩ := hf
      have hx : ObjOk X.prog X.w H s.heap dd (.xd fs) := I.hok dd _ hd
      obtain ⟨mA, hns, _⟩ := hx
      obtain ⟨od, ho, _⟩ := lookIn_ns hns
      have J : PySem.W.InstAt s.heap a oe D (some od) := ⟨hget, hz.1, by unfold PySem.W.notCls; rw [hv] <;> rfl, by rw [hz.2]; exact ho⟩
      have hcl : (PySem.W.clsIn X.K D).isSome = true := by
        obtain ⟨cd, hc, _⟩ := PySem.W.any_some C.hd
        rw [hc]
        rfl
      exact PySem.W.kia_one (PySem.W.kitx_exc hcl C.hg C.hk C.hs C.ha C.hn C.ht C.hm) I.kIn J e (fun z => nomatch z) fun tk => ⟨.bl b, H, I.kept (t' := tk) fun _ _ z => z, rfl, q⟩
def excB (K : PySem.W.Frag) (D : Addr) : Bool := decide (PySem.W.findIn K (.ref D) "__getattribute__" = some (some (.builtin "BaseException.__getattribute__"))) && (decide (PySem.W.findIn K (.ref D) "__getattr__" = some none) && (decide (PySem.W.subIn K (.ref D) (.type "BaseException") = some true) &&
  (PySem.W.hasDictIn K D && (decide (PySem.W.findIn K (.ref D) "__class__" = some (some (.builtin "object.__class__"))) && (decide (PySem.W.specialIn K (.builtin "object.__class__") "__get__" = some (some (.builtin "getset_descriptor.__get__"))) && (decide (PySem.W.takesIn K (.builtin "object.__class__") = some true) && decide (PySem.W.mroIn K D (.type "object") = some true)))))))
theorem excB_ok {K : PySem.W.Frag} {D : Addr} (h : excB K D = true) : ExcC K D := by
  unfold excB at h
  simp only [Bool.and_eq_true, decide_eq_true_eq] at h
  obtain ⟨h1, h2, h3, h4, h5, h6, h7, h8⟩ := h
  exact ⟨h1, h2, h3, h4, h5, h6, h7, h8⟩
end L2
/-! ### the head's facts: defs, error classes, and one Bool of one's own -/
namespace Hd
open PySem PySem.Spec PyProof.Rows L2 He
abbrev FnE : Type := Option (Str × Str × Arguments × FuncBody × Scope × Addr × List Str × Addr)
def fnE (K : PySem.W.Frag) (p : Str × Option Str) : FnE := match K.lookup (fAd K p) with
  | some ⟨_, _, .func fd, _⟩ => some (fd.name, fd.qualname, fd.params, fd.body, fd.scope, fd.globals, fd.closure.map (·.1), fd.builtins)
  | _ => none
/-- a method with a closure over __class__: where it stands, its statement in the text -/
structure ErD where
  cls : Str
  qual : Str
  st : Stmt
def ErD.val (d : ErD) : FnE := some ("__init__", d.qual, defArgs d.st, .stmts (defBody d.st), defScope d.st, mainGlobals, ["__class__"], builtinsNs)
def clsB (K : PySem.W.Frag) (C : Addr) : Bool := match K.lookup C with
  | some ⟨.type "type", _, .cls cd, sl⟩ => (match cd.mro, sl.toList with
    | .ref C' :: bm, [_, _, _, _, some (.builtin n), _] => C' == C && (n == "ValueError.__new__" && (!cd.hasDel && (cd.hasDict && PySem.HandSPX.refsVE bm)))
    | _, _ => false)
  | _ => false
theorem clsB_ok {K : PySem.W.Frag} {C : Addr} (h : clsB K C = true) : ∃ nm q N bs bm sn sub ab col dd k0 k1 k2 k3 k5, K.lookup C = some (excClassObj nm q C N bs bm true sn sub ab col dd k0 k1 k2 k3 k5 "ValueError.__new__") ∧ PySem.HandSPX.refsVE bm = true := by
  unfold clsB at h
  split at h
  · rename_i dd cd sl ho
    split at h
    · rename_i C' bm k0 k1 k2 k3 n k5 hm hs
      simp only [Bool.and_eq_true, beq_iff_eq, Bool.not_eq_true'] at h
      obtain ⟨rfl, rfl, hdel, hdi, hbm⟩ := h
      obtain ⟨nm, bs, mro, ns, qn, hd, sn, sub, ab, col, del⟩ := cd
      dsimp only at hm hdel hdi
      subst hm hdel hdi
      have hsl : sl = #[k0, k1, k2, k3, some (.builtin "ValueError.__new__"), k5] := by
        obtain ⟨l⟩ := sl
        simp only at hs
        rw [hs]
      subst hsl
      exact ⟨nm, qn, ns, bs, bm, sn, sub, ab, col, dd, k0, k1, k2, k3, k5, ho, hbm⟩
    · cases h
  · cases h
def alongB (K : PySem.W.Frag) (C : Addr) : Bool := match PySem.W.clsIn K C with
  | some cd => decide (PySem.W.alongIn K "__init__" ((cd.mro.dropWhile (· != .ref C)).drop 1) = some (some (.builtin "ValueError.__init__")))
  | none => false
theorem alongB_ok {K : PySem.W.Frag} {C : Addr} (h : alongB K C = true) : ∃ cd, PySem.W.clsIn K C = some cd ∧ PySem.W.alongIn K "__init__" ((cd.mro.dropWhile (· != .ref C)).drop 1) = some (some (.builtin "ValueError.__init__")) := by
  unfold alongB at h
  split at h
  · rename_i cd hc
    exact ⟨cd, hc, of_decide_eq_true h⟩
  · cases h
def initB (P : Program) (K : PySem.W.Frag) (fI C : Addr) (qual : Str) : Bool := match K.lookup fI with
  | some ⟨_, _, .func fd, _⟩ => (match fd.defaults, fd.code, fd.closure with
    | .none, .ref cda, [(_, cc)] => PySem.W.codeIn K (.ref cda) qual && ((match K.lookup cda with
      | some ⟨_, _, .fields vs, _⟩ => (match (vs[2]? : Option Value) with
        | some (.str file _) => ((P.main.file : Str) == file)
        | _ => false)
      | _ => false) && (match K.lookup cc with
      | some ⟨_, _, .cell (some (.ref C')), _⟩ => C' == C
      | _ => false))
    | _, _, _ => false)
  | _ => false
def errB (P : Program) (K : PySem.W.Frag) (c f qual : Str) : Bool :=
  clsB K (ga K c) && (alongB K (ga K c) && (decide (PySem.W.nsIn K cStatics "thirdparty.any" = some none) && (decide (PySem.W.mroIn K (ga K c) (.ref (ga K c)) = some true) && (decide (PySem.W.subIn K (.ref (ga K c)) (.type "ValueError") = some true) &&
  (eqO (PySem.W.findIn K (.ref (ga K c)) "__setattr__") (some (some (.builtin "object.__setattr__"))) && (eqO (PySem.W.findIn K (.ref (ga K c)) "__getattribute__") (some (some (.builtin "BaseException.__getattribute__"))) &&
  (eqO (PySem.W.findIn K (.ref (ga K c)) "__getattr__") (some none) && (eqO (PySem.W.findIn K (.ref (ga K c)) f) (some none) && (PySem.W.keepIn K (.ref (ga K c)) && (decide (PySem.W.subIn K (.ref (ga K c)) (.type "BaseException") = some true) &&
  (decide (PySem.W.typeIn K (.ref (ga K c)) = some (.type "type")) && (PySem.W.hasDictIn K (ga K c) && (eqO (PySem.W.findIn K (.ref (ga K c)) "__init__") (some (some (.ref (ma K (ga K c) "__init__")))) &&
  (decide (PySem.W.typeIn K (.ref (ma K (ga K c) "__init__")) = some (.type "function")) && initB P K (ma K (ga K c) "__init__") (ga K c) qual))))))))))))))
theorem err_mk {P : Program} {K : PySem.W.Frag} {c f x qual msg : Str} {st : Stmt} {p1 p2 q1 q2 q3 q4 q5 q6 q7 q8 q9 q10 : Pos} (h : errB P K c f qual = true) (e : fnE K (c, some "__init__") = (ErD.mk c qual st).val)
    (hA : defArgs st = PySem.ErrX.iA x p1 p2) (hB : defBody st = PySem.ErrX.iB x f msg q1 q2 q3 q4 q5 q6 q7 q8 q9 q10) (hS : defScope st = PySem.ErrX.iS x) (hl : (q3.endLine == q5.line) = true)
    (top : (P.main.scope.names.lookup ("super" : Str)).isSome = false) (xs : (x == ("self" : Str)) = false) (xc : (("__class__" : Str) == x) = false) (xu : (("super" : Str) == x) = false) (xd : (x == ("__debug__" : Str)) = false)
    (bnd : ∀ (nm qual : Str) (Bd : List Stmt) (kV doc pm : Value) (an : Option Addr) (cdv ct : Value) (cc : Addr) (p1 p2 : Pos) (u v : Value), bindArgs (PySem.W.ksFn nm qual (PySem.ErrX.iA x p1 p2) Bd (PySem.ErrX.iS x) .none kV doc pm an cdv ct cc) ⟨[u, v], []⟩ = pure [(("self" : Str), u), (x, v)]) :
    PySem.ErrX.ErrTxt P K (ga K c) x f := by
  unfold errB at h
  obtain ⟨h1, h⟩ := ba h
  obtain ⟨h2, h⟩ := ba h
  obtain ⟨h3, h⟩ := ba h
  obtain ⟨h4, h⟩ := ba h
  obtain ⟨h5, h⟩ := ba h
  obtain ⟨h6, h⟩ := ba h
  obtain ⟨h7, h⟩ := ba h
  obtain ⟨h8, h⟩ := ba h
  obtain ⟨h9, h⟩ := ba h
  obtain ⟨h10, h⟩ := ba h
  obtain ⟨h11, h⟩ := ba h
  obtain ⟨h12, h⟩ := ba h
  obtain ⟨h13, h⟩ := ba h
  obtain ⟨h14, h⟩ := ba h
  obtain ⟨h15, h16⟩ := ba h
  refine ⟨clsB_ok h1, alongB_ok h2, of_decide_eq_true h3, of_decide_eq_true h4, of_decide_eq_true h5, eqO_ok h6, eqO_ok h7, eqO_ok h8, eqO_ok h9, h10, of_decide_eq_true h11, of_decide_eq_true h12, h13,
    ⟨ma K (ga K c) "__init__", eqO_ok h14, of_decide_eq_true h15, ?_⟩, top, xs, xc, xu, xd, bnd⟩
  unfold initB at h16
  have e2 : fnE K (c, some "__init__") = (match K.lookup (ma K (ga K c) "__init__") with
    | some ⟨_, _, .func fd, _⟩ => some (fd.name, fd.qualname, fd.params, fd.body, fd.scope, fd.globals, fd.closure.map (·.1), fd.builtins)
    | _ => none) := rfl
  rw [e2] at e
  cases q : K.lookup (ma K (ga K c) "__init__") with
  | none =>
    rw [q] at h16
    cases h16
  | some o =>
    obtain ⟨oc, od, dt, osl⟩ := o
    rw [q] at h16 e
    cases dt with
    | func fd =>
      obtain ⟨n1, n2, n3, n4, n5, n6, n7, n8, n9, n10, n11, n12, n13, n14, n15⟩ := fd
      have e3 : (some (n1, n2, n3, n4, n5, n6, n7.map (·.1), n15) : FnE) = (some (("__init__" : Str), qual, defArgs st, FuncBody.stmts (defBody st), defScope st, mainGlobals, [("__class__" : Str)], builtinsNs) : FnE) := e
      simp only [Option.some.injEq, Prod.mk.injEq] at e3
      obtain ⟨e1, e2, e3, e4, e5, e6, e7, e8⟩ := e3
      subst e1 e2 e3 e4 e5 e6 e8
      dsimp only at h16
      split at h16
      · rename_i cda nn cc
        obtain ⟨k1, k2⟩ := ba h16
        obtain ⟨k2, k3⟩ := ba k2
        have en : nn = ("__class__" : Str) := by simpa using e7
        subst en
        refine ⟨oc, od, n10, n11, n9, n12, cda, cc, n14, osl, "__init__", n2, msg, p1, p2, q1, q2, q3, q4, q5, q6, q7, q8, q9, q10, hl, ?_, k1, ?_, ?_⟩
        · rw [← hA, ← hB, ← hS]
        · split at k2
          · rename_i ccl cdd vs ccs hc
            split at k2
            · rename_i file tf hv
              exact ⟨ccl, cdd, vs, ccs, file, tf, hc, hv, k2⟩
            · cases k2
          · cases k2
        · split at k3
          · rename_i cl cld C' csl hc
            have ec : C' = ga K c := by simpa using k3
            subst ec
            exact ⟨cl, cld, csl, hc⟩
          · cases k3
      · cases h16
    | _ => cases h16
/-! ### the Hook -/
def asP (g : Addr → Option Obj) (n : Nat) : List Addr := cStatics :: asD g n
abbrev AlP : Type := Bool × List FnW × List FnE
def obsP (fn : List DefD) (er : List ErD) (ex : PySem.W.Frag → Bool) (K : PySem.W.Frag) : AlP := (ex K && fn.all fun d => d.ok K, fn.map fun d => fnW K d.at_, er.map fun d => fnE K (d.cls, some "__init__"))
def valP (fn : List DefD) (er : List ErD) : AlP := (true, fn.map DefD.val, er.map ErD.val)
def SaysP (fn : List DefD) (er : List ErD) (ex : PySem.W.Frag → Bool) (K : PySem.W.Frag) : Prop := obsP fn er ex K = valP fn er
def obsPG (n : Nat) (fn : List DefD) (er : List ErD) (ex : PySem.W.Frag → Bool) (g : Addr → Option Obj) : AlP := obsP fn er ex (frG g (asP g n))
def hookP (n : Nat) (fn : List DefD) (er : List ErD) (ex : PySem.W.Frag → Bool) : PySem.W.Hook where
  α := AlP
  obs := fun s => obsPG n fn er ex s.heap.get?
  val := fun _ => valP fn er
  says := fun _ h => ∃ K : PySem.W.Frag, K.In h ∧ SaysP fn er ex K
  of := fun _ _ e => ⟨_, frG_in, e⟩
  keeps := fun _ _ _ ⟨K, hK, c⟩ k => ⟨K, PySem.W.Frag.In.keeps hK k, c⟩
theorem obsPG_eq {n : Nat} {fn : List DefD} {er : List ErD} {ex : PySem.W.Frag → Bool} {g : Addr → Option Obj} {s : Shared} (h : ∀ a, g a = s.heap.get? a) : obsPG n fn er ex g = (hookP n fn er ex).obs s := by
  have e : g = s.heap.get? := funext h
  rw [e] <;> rfl
section
variable {fn : List DefD} {er : List ErD} {ex : PySem.W.Frag → Bool} {K : PySem.W.Frag}
theorem SaysP.more (c : SaysP fn er ex K) : ex K = true := (ba (show (ex K && fn.all fun d => d.ok K) = true from congrArg (fun z : AlP => z.1) c)).1
theorem SaysP.def_ (c : SaysP fn er ex K) (i : Nat) {d : DefD} (h : fn[i]? = some d := by rfl) : ∃ fd, FunD K d.name d.qual d.params d.body d.scope (d.dvs K) (d.kws K) (fAd K d.at_) fd := by
  have c2 := (ba (show (ex K && fn.all fun d => d.ok K) = true from congrArg (fun z : AlP => z.1) c)).2
  have e : fn.map (fun d => fnW K d.at_) = fn.map DefD.val := congrArg (fun z : AlP => z.2.1) c
  have e2 : (fn.map fun d => fnW K d.at_)[i]? = (fn.map DefD.val)[i]? := by rw [e]
  rw [List.getElem?_map, List.getElem?_map, h] at e2
  exact DefD.funD (Option.some.inj e2) (List.all_eq_true.mp c2 d (List.mem_of_getElem? h))
theorem SaysP.err_ (c : SaysP fn er ex K) (i : Nat) {d : ErD} (h : er[i]? = some d := by rfl) : fnE K (d.cls, some "__init__") = d.val := by
  have e : er.map (fun d => fnE K (d.cls, some "__init__")) = er.map ErD.val := congrArg (fun z : AlP => z.2.2) c
  have e2 : (er.map fun d => fnE K (d.cls, some "__init__"))[i]? = (er.map ErD.val)[i]? := by rw [e]
  rw [List.getElem?_map, List.getElem?_map, h] at e2
  exact Option.some.inj e2
end
def tkOf : Option Value → Tok
  | some (.int _ t) => t
  | some (.str _ t) => t
  | _ => 0
theorem int_tk {o : Option Value} {i : Int} (h : ∃ t, o = some (.int i t)) : o = some (.int i (tkOf o)) := by
  obtain ⟨t, e⟩ := h
  rw [e] <;> rfl
theorem str_tk {o : Option Value} {z : Str} (h : ∃ t, o = some (.str z t)) : o = some (.str z (tkOf o)) := by
  obtain ⟨t, e⟩ := h
  rw [e] <;> rfl
end Hd
namespace L2
open PySem PySem.Spec PyProof.Rows
/-- a def that is promised to let nothing out -/
theorem fn_calm {P : Program} {w : World} {K : PySem.W.Frag} {mg : Str → Option Value} {base : Heap} {k : Nat} {f : Addr} {fd : FuncData} {ps : List Str} {sp : Sp} (F : FnOk P w K mg base (L2.CX P w) k f fd ps sp)
    (hs : ∀ vs H Q E, sp vs H Q E → sp vs H Q (fun _ _ _ => False)) : FnOk P w K mg base CX0 k f fd ps sp :=
  ⟨F.len, fun A outer s H args us vs Q E hr he hb hv h => codeAny_mono (F.run A outer s H args us vs Q _ hr he hb hv (hs _ _ _ _ h)) (fun r s' q => by
    cases r with
    | error e =>
      obtain ⟨_, _, _, _, _, _, _, _, _, _, _, _, z⟩ := q
      exact z.elim
    | ok f => cases f <;> exact q)⟩
end L2
namespace Hd
open PySem PySem.Spec PyProof.Rows L2 He
/-- a constant of a class, read off the class -/
def cvalB (K : PySem.W.Frag) (C : Addr) (f : Str) (v : V) : Bool := match PySem.W.findCls K (.ref C) (.type "type") f with
  | some (.val u) => relB v u
  | _ => false
theorem cvalB_ok {K : PySem.W.Frag} {C : Addr} {f : Str} {v : V} (h : cvalB K C f v = true) : ∃ u, ClX.CVal K C (.type "type") f v u := by
  unfold cvalB at h
  split at h
  · rename_i u e
    exact ⟨u, e, relB_ok h⟩
  · cases h
end Hd
/-! ### calls of defs by positional promises; what is raised is wished for at the caller's slots -/
namespace Cl
open PySem PySem.Spec PyProof.Rows L2
section
variable {X : Cx} {CX : CXT} {k : Nat} {f C g : Addr} {sp : Sp} {E : L2.St → XK} {x m : Str} {p pos apos : Pos} {e o fe : Expr} {es : List Expr} {ta tf : TE} {t : TA}
theorem runS {pins : List (Addr × Obj)} {σ : L2.St} {H : Hp} {s : Shared} {Q : VK} {us : List Value} {vs : List V} (F : FnR X.prog X.w X.K X.mg X.base CX k f sp) (hr : Room k X.A) (hx : PassesAt CX X σ (E σ)) (I : Inv X pins σ H s) (r : Vals vs us) (h : sp vs H Q (E σ)) :
    codeAny (model X.prog X.w) X.A (.call (.ref f) ⟨us, []⟩) (fun r s' => match r with | .ok (.ret v) => EP X pins σ Q v s' | .ok _ => False | .error e => X.xe e s') s :=
  codeAny_mono (F X.A X.stack s H us vs Q (E σ) hr I.env0 r h) fun r s' hq => by
    cases r with
    | error er => exact hx pins H s er s' I hq
    | ok fl => cases fl <;> first | exact I.after hq | exact False.elim hq
/-- f(e, ..) -/
def tF (sp : Sp) (E : L2.St → XK) (t : TA) : TE := fun σ H Q => t σ H fun vs H1 => sp vs H1 Q (E σ)
theorem pe_f (F : FnR X.prog X.w X.K X.mg X.base CX k f sp) (hr : Room k X.A) (hg : Gl X x) (hm : X.mg x = some (.ref f)) (hk : PySem.W.keepIn X.K (.ref f) = true) (hx : ∀ σ, PassesAt CX X σ (E σ)) (ha : PA X (e :: es) t)
    (hdb : (x == ("__debug__" : Str)) = false := by decide) (he : starEach (e :: es) X.env = (false, eval e X.env) :: starEach es X.env := by rfl) (hpl : (backTo pos (starEach es X.env)).any (·.1) = false := by rfl) :
    PE X (.Call (.Name x p) (e :: es) [] pos) (tF sp E t) :=
  ⟨fun pins s σ H Q I h => wpAny_Call_Name_kw (ld_glob I hg hm (PySem.W.callWith_K (h₀ := X.base) I.ok.mod.kin hk (thn (ha.run pos pins s σ H _ I h) fun us s1 ⟨vs, H1, I1, r, q⟩ => ⟨I1.kIn, wpAny_call (runS F hr (hx σ) I1 r q)⟩) he hpl) hdb)⟩
theorem pe_f0 (F : FnR X.prog X.w X.K X.mg X.base CX k f sp) (hr : Room k X.A) (hg : Gl X x) (hm : X.mg x = some (.ref f)) (hk : PySem.W.keepIn X.K (.ref f) = true) (hx : ∀ σ, PassesAt CX X σ (E σ)) (hdb : (x == ("__debug__" : Str)) = false := by decide) :
    PE X (.Call (.Name x p) [] [] pos) (tF sp E tNil) :=
  ⟨fun pins s σ H Q I h => wpAny_Call_Name_kw (ld_glob I hg hm (PySem.W.callWith_K0 I.kIn hk (wpAny_call (runS (us := []) F hr (hx σ) I .nil h))) hdb)⟩
/-- o.m(e, ..) -/
def tM (C : Addr) (m : Str) (sp : Sp) (E : L2.St → XK) (ta : TE) (t : TA) : TE := fun σ H Q => ta σ H fun x H1 => ∃ a dx fs, x = .ref a ∧ H1 a = some (.ins C dx fs) ∧ fs.lookup m = none ∧ t σ H1 fun vs H2 => sp (.ref a :: vs) H2 Q (E σ)
theorem pe_m {pl : Sem Bool} (he : PE X o ta) (c : Cls X.K C) (hm : Meth X.K C m f) (F : FnR X.prog X.w X.K X.mg X.base CX k f sp) (hr : Room k X.A) (hx : ∀ σ, PassesAt CX X σ (E σ)) (ha : PA X (e :: es) t)
    (hst : starEach (e :: es) X.env = (false, eval e X.env) :: starEach es X.env := by rfl) (hpl : (backTo pos (starEach es X.env)).any (·.1) = false := by rfl)
    (ht : eval (.Call (.Attribute o m apos) (e :: es) [] pos) X.env = (do
      let ov ← eval o X.env
      standAt apos.atName
      let (f, first) ← holding [ov] (getMethod ov m pl)
      callWith pos f first (backTo pos (starEach (e :: es) X.env)) (backToKw pos (keywordEach [] X.env))) := by rfl) :
    PE X (.Call (.Attribute o m apos) (e :: es) [] pos) (tM C m sp E ta t) := by
  refine ⟨fun pins s σ H Q I h => PySem.W.methodCall_KW (pl := pl) (thn (he.run pins s σ H _ I h) fun u s1 ⟨x, H1, I1, rx, a, dx, fs, ex, ea, l, q⟩ => ?_) ht⟩
  subst ex
  obtain rfl : u = Value.ref a := rx
  exact getmeth_ok I1 ea c hm l (PySem.W.callWith_K (first := [.ref a]) (h₀ := X.base) I.ok.mod.kin hm.kp (thn (ha.run pos pins s1 σ H1 _ I1 q) fun us s2 ⟨vs, H2, I2, r, q2⟩ => ⟨I2.kIn, wpAny_call (runS (us := .ref a :: us) (vs := .ref a :: vs) F hr (hx σ) I2 (.cons rfl r) q2)⟩) hst hpl)
theorem pe_m0 {pl : Sem Bool} (he : PE X o ta) (c : Cls X.K C) (hm : Meth X.K C m f) (F : FnR X.prog X.w X.K X.mg X.base CX k f sp) (hr : Room k X.A) (hx : ∀ σ, PassesAt CX X σ (E σ))
    (ht : eval (.Call (.Attribute o m apos) [] [] pos) X.env = (do
      let ov ← eval o X.env
      standAt apos.atName
      let (f, first) ← holding [ov] (getMethod ov m pl)
      callWith pos f first (backTo pos (starEach [] X.env)) (backToKw pos (keywordEach [] X.env))) := by rfl) :
    PE X (.Call (.Attribute o m apos) [] [] pos) (tM C m sp E ta tNil) := by
  refine ⟨fun pins s σ H Q I h => PySem.W.methodCall_KW (pl := pl) (thn (he.run pins s σ H _ I h) fun u s1 ⟨x, H1, I1, rx, a, dx, fs, ex, ea, l, q⟩ => ?_) ht⟩
  subst ex
  obtain rfl : u = Value.ref a := rx
  exact getmeth_ok I1 ea c hm l (PySem.W.callWith_K0 (first := [.ref a]) I1.kIn hm.kp (wpAny_call (runS (us := [.ref a]) (vs := [.ref a]) F hr (hx σ) I1 (.cons rfl .nil) q)))
/-- C(e, ..) -/
def tMk (C : Addr) (sp : Sp) (E : L2.St → XK) (t : TA) : TE := fun σ H Q => t σ H fun vs H1 => ∀ x dx, H1 x = none → H1 dx = none → dx ≠ x → sp (.ref x :: vs) (upd (upd H1 dx (.own x)) x (.ins C dx [])) (fun v H2 => v = .non ∧ Q (.ref x) H2) (E σ)
theorem runMk {pins : List (Addr × Obj)} {σ : L2.St} {H : Hp} {s : Shared} {Q : VK} {us : List Value} {vs : List V} (M : Mk X.K C f) (F : FnR X.prog X.w X.K X.mg X.base CX k f sp) (hr : Room (k + 1) X.A) (hx : PassesAt CX X σ (E σ)) (I : Inv X pins σ H s) (r : Vals vs us)
    (h : ∀ x dx, H x = none → H dx = none → dx ≠ x → sp (.ref x :: vs) (upd (upd H dx (.own x)) x (.ins C dx [])) (fun v H2 => v = .non ∧ Q (.ref x) H2) (E σ)) :
    wpAny (model X.prog X.w) X.A (call (.ref C) us) (EP X pins σ Q) X.xe s := by
  have hq := h (s.heap.objs.size + 1) s.heap.objs.size (I.hok.fresh (Nat.le_succ _)) (I.hok.fresh (Nat.le_refl _)) (Nat.ne_of_lt (Nat.lt_succ_self _))
  have I2 := Inv.made (C := C) I
  have r2 : Vals (V.ref (s.heap.objs.size + 1) :: vs) (Value.ref (s.heap.objs.size + 1) :: us) := .cons rfl r
  refine wpAny_call (make_map (f := f) I.kIn M.makes M.init (beq_iff_eq.mp M.fn) (codeAny_mono (F _ X.stack _ _ (Value.ref (s.heap.objs.size + 1) :: us) _ _ (E σ) (hr.make C us []) (I2.env0.make C us []) r2 hq) fun r s' hq' => ?_))
  cases r with
  | error er => exact hx pins _ _ er s' I2 hq'
  | ok fl =>
    cases fl with
    | ret u =>
      obtain ⟨v, H', I3, rv, ev, q3⟩ := I2.after hq'
      subst ev
      exact ⟨rv, ⟨V.ref (s.heap.objs.size + 1), H', I3, rfl, q3⟩⟩
    | _ => exact False.elim hq'
theorem pe_mk (M : Mk X.K C f) (F : FnR X.prog X.w X.K X.mg X.base CX k f sp) (hr : Room (k + 1) X.A) (hg : Gl X x) (hm : X.mg x = some (.ref C)) (hx : ∀ σ, PassesAt CX X σ (E σ)) (ha : PA X (e :: es) t) (hdb : (x == ("__debug__" : Str)) = false := by decide)
    (he : starEach (e :: es) X.env = (false, eval e X.env) :: starEach es X.env := by rfl) (hpl : (backTo pos (starEach es X.env)).any (·.1) = false := by rfl) : PE X (.Call (.Name x p) (e :: es) [] pos) (tMk C sp E t) :=
  ⟨fun pins s σ H Q I h => wpAny_Call_Name_kw (ld_glob I hg hm (PySem.W.callWith_K (h₀ := X.base) I.ok.mod.kin M.kp (thn (ha.run pos pins s σ H _ I h) fun us s1 ⟨vs, H1, I1, r, q⟩ => ⟨I1.kIn, runMk M F hr (hx σ) I1 r q⟩) he hpl) hdb)⟩
theorem pe_mk0 (M : Mk X.K C f) (F : FnR X.prog X.w X.K X.mg X.base CX k f sp) (hr : Room (k + 1) X.A) (hg : Gl X x) (hm : X.mg x = some (.ref C)) (hx : ∀ σ, PassesAt CX X σ (E σ)) (hdb : (x == ("__debug__" : Str)) = false := by decide) : PE X (.Call (.Name x p) [] [] pos) (tMk C sp E tNil) :=
  ⟨fun pins s σ H Q I h => wpAny_Call_Name_kw (ld_glob I hg hm (PySem.W.callWith_K0 I.kIn M.kp (runMk (us := []) M F hr (hx σ) I .nil h)) hdb)⟩
/-- what is raised goes on to the def's own wish -/
theorem at_ {W : WX} (tk : Takes X W) (σ : L2.St) : PassesAt (L2.CX X.prog X.w) X σ (WE W σ) := passAt tk σ
end
/-! ### a def with a star parameter -/
section
variable {P : Program} {w : World} {K : PySem.W.Frag} {mg : Str → Option Value} {base : Heap} {x qual : Str} {params : Arguments} {body : List Stmt} {scope : Scope} {dvs : List V} {kws : List (Str × V)} {f : Addr} {fd : FuncData}
theorem okStar {CX : CXT} {N ps : List Str} {pv : Str} {k : Nat} {sp : Sp} (F : FunD K x qual params body scope [] kws f fd) (S : FnScope N (ps ++ [pv]) scope) (hCX : StX.CXUp CX)
    (hb : ∀ (kV doc pm : Value) (an : Option Addr) (cdv ct : Value) (us rest : List Value), us.length = ps.length → bindArgs (PySem.W.fnOf x qual params body scope .none kV doc pm an cdv ct) ⟨us ++ rest, []⟩ = (newTuple rest >>= fun t => pure (ps.zip us ++ [(pv, t)])))
    (hbody : ∀ (cdv : Value) (A : Around) (outer : List Env) (s : Shared) (H : Hp) (vs : List V) (Q : VK) (E : XK), Room k (A.deeper (envOfC qual scope s.heap.objs.size f cdv)) → sp vs H Q E →
      ∃ t, PSs (cxOf CX P w K mg base N qual scope f cdv A outer s H E) body t ∧ t { nx := fun _ H' => Q .non H', rt := Q } (start N vs) H) :
    FnR P w K mg base CX (k + 1) f (fun vs H Q E => ∃ ws rest, vs = ws ++ rest ∧ ws.length = ps.length ∧ rest.length ≤ sizeLine ∧ ∀ p, H p = none → sp (ws ++ [V.ref p]) (upd H p (.tup rest)) Q E) := by
  obtain ⟨oc, od, dV, kV, doc, pm, an, cdv, ct, osl, rfl, lk, hcd, hD, _⟩ := F.ex
  obtain rfl : dV = .none := by
    rcases hD with ⟨_, e⟩ | ⟨e, _⟩
    · exact e
    · exact absurd rfl e
  exact StX.fn_star lk hcd S hCX (hb kV doc pm an cdv ct) fun A outer s H vs Q E hr hsp => hbody cdv A outer s H vs Q E hr hsp
end
end Cl
/-! ### the layer's rules with the written part K named (so that a comprehension's block may use them) -/
namespace Cl
open PySem PySem.Spec PyProof.Rows L2
section
variable {X : Cx} {e o value a : Expr} {ta tv tl : TE} {f : Str} {pos pos' : Pos} {tg : Expr}
theorem ixL (K : PySem.W.Frag) (hK : X.K = K := by rfl) : IxR X (rIxL K) := hK ▸ ix_list
theorem ixT (K : PySem.W.Frag) (hK : X.K = K := by rfl) : IxR X (rIxT K) := hK ▸ ix_tup
theorem slL (K : PySem.W.Frag) (hK : X.K = K := by rfl) : SlR X (rSlL K) := hK ▸ sl_list
def qLen (K : PySem.W.Frag) : List V → Hp → VK → Prop := fun xs H Q => ∃ p ys, xs = [.ref p] ∧ (SqL K H p ys ∨ SqT K H p ys) ∧ Q (.int ys.length) H
theorem len (K : PySem.W.Frag) (hK : X.K = K := by rfl) : CallR X (.builtin "len") (qLen K) := hK ▸ call_len_seq
def qList (K : PySem.W.Frag) : List V → Hp → VK → Prop := fun xs H Q => ∃ p ys, xs = [.ref p] ∧ (SqL K H p ys ∨ SqT K H p ys) ∧ ∀ l, H l = none → Q (.ref l) (upd H l (.lst ys))
theorem listOf (K : PySem.W.Frag) (hK : X.K = K := by rfl) : CallR X (.type "list") (qList K) := hK ▸ call_list_of
def qTuple (K : PySem.W.Frag) : List V → Hp → VK → Prop := fun xs H Q => ∃ p ys, xs = [.ref p] ∧ ((SqL K H p ys ∧ ∀ l, H l = none → Q (.ref l) (upd H l (.tup ys))) ∨ (SqT K H p ys ∧ Q (.ref p) H))
theorem tupleOf (K : PySem.W.Frag) (hK : X.K = K := by rfl) : CallR X (.type "tuple") (qTuple K) := hK ▸ call_tuple_of
def qInt : List V → Hp → VK → Prop := fun xs H Q => ∃ i, xs = [.int i] ∧ Q (.int i) H
theorem int1 : CallR X (.type "int") qInt := fun pins s σ H xs us Q I r h => call_int1 pins s σ H xs us Q I r (.inl h)
theorem isi (K : PySem.W.Frag) (hK : X.K = K := by rfl) : CallR X (.builtin "isinstance") (rIsi K) := hK ▸ call_isi
theorem sum (K : PySem.W.Frag) (hc : X.calm = true := by rfl) (hK : X.K = K := by rfl) : CallR X (.builtin "sum") (rSum K) := hK ▸ cr_sum hc
theorem max1 (K : PySem.W.Frag) (hc : X.calm = true := by rfl) (hK : X.K = K := by rfl) : CallR X (.builtin "max") (rMax K) := hK ▸ cr_max hc
theorem min1 (K : PySem.W.Frag) (hc : X.calm = true := by rfl) (hK : X.K = K := by rfl) : CallR X (.builtin "min") (rMin K) := hK ▸ cr_min hc
theorem all1 (K : PySem.W.Frag) (hc : X.calm = true := by rfl) (hK : X.K = K := by rfl) : CallR X (.builtin "all") (rAll K) := hK ▸ cr_all hc
theorem any1 (K : PySem.W.Frag) (hc : X.calm = true := by rfl) (hK : X.K = K := by rfl) : CallR X (.builtin "any") (rAny K) := hK ▸ cr_any hc
theorem sorted1 (K : PySem.W.Frag) (hK : X.K = K := by rfl) : CallR X (.builtin "sorted") (rSortedI K) := hK ▸ cr_sortedI
theorem inS (K : PySem.W.Frag) (hK : X.K = K := by rfl) : OpR X (compareOp .In) (rIn K false) := hK ▸ op_in_seq
theorem ninS (K : PySem.W.Frag) (hK : X.K = K := by rfl) : OpR X (compareOp .NotIn) (rIn K true) := hK ▸ op_notIn_seq
theorem eqD (K : PySem.W.Frag) (hu : X.A.units + 64 < cLine) (hK : X.K = K := by rfl) : OpR X (compareOp .Eq) (rEqD K) := hK ▸ op_eqD hu
theorem neD (K : PySem.W.Frag) (hu : X.A.units + 64 < cLine) (hK : X.K = K := by rfl) : OpR X (compareOp .NotEq) (rNeD K) := hK ▸ op_neD hu
theorem fld (K : PySem.W.Frag) (he : PE X e ta) (hb : attributeBase e f X.env (eval e X.env) = eval e X.env := by rfl) (hK : X.K = K := by rfl) : PE X (.Attribute e f pos) (tFld K ta f) := hK ▸ pe_fld he hb
theorem sfld (K : PySem.W.Frag) (ha : PE X o ta) (hv : PE X value tv) (hs : swapsWith value (some (.Attribute o f pos')) pos.line X.env = pure false := by rfl) (hK : X.K = K := by rfl) : PS X (.Assign [.Attribute o f pos'] value pos) (sFld K ta tv f) := hK ▸ ps_fld ha hv hs
theorem piL (K : PySem.W.Frag) {l : Expr} (hl : PE X l tl) (hK : X.K = K := by rfl) : PI X tg l (iList K tl) := hK ▸ pi_list hl
theorem piT (K : PySem.W.Frag) {l : Expr} (hl : PE X l tl) (hK : X.K = K := by rfl) : PI X tg l (iTup K tl) := hK ▸ pi_tup hl
def tTruth (K : PySem.W.Frag) (ta : TE) : TT := fun σ H Q => ta σ H fun x H' => ∃ k, TruV K x H' k ∧ Q k H'
theorem truth (K : PySem.W.Frag) (ha : PE X a ta) (he : ∀ whole, isTrue a X.env whole = (do let v ← whole; standAt a.pos; holding [v] (truthy v)) := by intro _; rfl) (hK : X.K = K := by rfl) : PT X a (tTruth K ta) := hK ▸ pt_truth ha he
theorem pgT (K : PySem.W.Frag) {es : List Expr} {k : Nat} {t : TGs} {n : Nat} (h : PGs X es t) (hc : X.calm = true := by rfl) (hn : (assignEach es X.env).length = n := by rfl) (hst : (assignEach es X.env).findIdx? (·.1) = none := by rfl) (hK : X.K = K := by rfl) : PG X (.Tuple es k pos) (gTup K n t) := hK ▸ pg_tup hc h hn hst
theorem piE (K : PySem.W.Frag) {ta : TA} {p tpos : Pos} {elts : List Expr} {kk : Nat} (hg : Gl X "enumerate") (hm : X.mg "enumerate" = none) (ha : PA X [e] ta) (hs : starEach [e] X.env = [(false, eval e X.env)] := by rfl) (hK : X.K = K := by rfl) :
    PI X (.Tuple elts kk tpos) (.Call (.Name "enumerate" p) [e] [] pos) (iEnum K ta) := hK ▸ pi_enum hg hm ha hs
theorem piZ (K : PySem.W.Frag) {e2 : Expr} {ta : TA} {p tpos : Pos} {elts : List Expr} {kk : Nat} (hg : Gl X "zip") (hm : X.mg "zip" = none) (ha : PA X [e, e2] ta)
    (hs : starEach [e, e2] X.env = (false, eval e X.env) :: starEach [e2] X.env := by rfl) (hpl : (backTo pos (starEach [e2] X.env)).any (·.1) = false := by rfl) (hK : X.K = K := by rfl) :
    PI X (.Tuple elts kk tpos) (.Call (.Name "zip" p) [e, e2] [] pos) (iZip K ta) := hK ▸ pi_zip hg hm ha hs hpl
theorem cval (K : PySem.W.Frag) (he : PE X e ta) (hb : attributeBase e f X.env (eval e X.env) = eval e X.env := by rfl) (hK : X.K = K := by rfl) : PE X (.Attribute e f pos) (ClX.tCVal K ta f) := hK ▸ ClX.pe_cval he hb
/-- nothing is let out -/
theorem none_ {P : Program} {w : World} (σ : L2.St) : PassesAt (L2.CX P w) X σ (fun _ _ _ => False) := fun _ _ _ _ _ _ ⟨_, _, _, _, _, _, _, _, _, _, _, _, z⟩ => z.elim
end
end Cl
namespace Pf
open PySem PySem.Spec PyProof.Rows L2
def top (i : Nat) : Stmt := PySem.Challenge.pw_rungbounds_k03_length_of_a_join.main.body.getD i (.Pass ⟨0, 0, 0, 0⟩)
abbrev PP : Program := PySem.Challenge.pw_rungbounds_k03_length_of_a_join
abbrev s_law_box : Stmt := top 10
theorem sc_law_box : FnScope ["_law_script", "_law_cell"] ["_law_script"] (defScope s_law_box) := ⟨rfl, rfl, rfl, by decide +kernel, rfl, by decide +kernel, by decide +kernel⟩
abbrev s_law_take : Stmt := top 11
theorem sc_law_take : FnScope ["_law_box_here", "_law_size", "_law_cell", "_law_digit"] ["_law_box_here", "_law_size"] (defScope s_law_take) := ⟨rfl, rfl, rfl, by decide +kernel, rfl, by decide +kernel, by decide +kernel⟩
abbrev s_integer_root : Stmt := top 5
theorem sc_integer_root : FnScope ["number", "guess", "better"] ["number"] (defScope s_integer_root) := ⟨rfl, rfl, rfl, by decide +kernel, rfl, by decide +kernel, by decide +kernel⟩
abbrev s_law_number : Stmt := top 12
theorem sc_law_number : FnScope ["_law_x"] ["_law_x"] (defScope s_law_number) := ⟨rfl, rfl, rfl, by decide +kernel, rfl, by decide +kernel, by decide +kernel⟩
abbrev s_joined_length : Stmt := top 7
theorem sc_joined_length : FnScope ["lengths", "total", "length"] ["lengths"] (defScope s_joined_length) := ⟨rfl, rfl, rfl, by decide +kernel, rfl, by decide +kernel, by decide +kernel⟩
abbrev s_law_call : Stmt := top 13
theorem sc_law_call : FnScope ["_law_row"] ["_law_row"] (defScope s_law_call) := ⟨rfl, rfl, rfl, by decide +kernel, rfl, by decide +kernel, by decide +kernel⟩
abbrev s_law_outcome : Stmt := top 14
theorem sc_law_outcome : FnScope ["_law_row", "e"] ["_law_row"] (defScope s_law_outcome) := ⟨rfl, rfl, rfl, by decide +kernel, rfl, by decide +kernel, by decide +kernel⟩
abbrev s_law : Stmt := top 15
theorem sc_law : FnScope ["_law_script", "_law_box_here", "_law_row", "_law_k", "_law_length", "_law_great", "_law_bad", "_law_due", "_law_told"] ["_law_script"] (defScope s_law) := ⟨rfl, rfl, rfl, by decide +kernel, rfl, by decide +kernel, by decide +kernel⟩
/-- what the top has written -/
structure Txt (K : PySem.W.Frag) (mg : Str → Option Value) where
  fd_law_box : FuncData
  F_law_box : FunD K "_law_box" "_law_box" (defArgs s_law_box) (defBody s_law_box) (defScope s_law_box) [] [] (He.ga K "_law_box") fd_law_box
  fd_law_take : FuncData
  F_law_take : FunD K "_law_take" "_law_take" (defArgs s_law_take) (defBody s_law_take) (defScope s_law_take) [] [] (He.ga K "_law_take") fd_law_take
  fd_integer_root : FuncData
  F_integer_root : FunD K "integer_root" "integer_root" (defArgs s_integer_root) (defBody s_integer_root) (defScope s_integer_root) [] [] (He.ga K "integer_root") fd_integer_root
  fd_law_number : FuncData
  F_law_number : FunD K "_law_number" "_law_number" (defArgs s_law_number) (defBody s_law_number) (defScope s_law_number) [] [] (He.ga K "_law_number") fd_law_number
  fd_joined_length : FuncData
  F_joined_length : FunD K "joined_length" "joined_length" (defArgs s_joined_length) (defBody s_joined_length) (defScope s_joined_length) [] [] (He.ga K "joined_length") fd_joined_length
  fd_law_call : FuncData
  F_law_call : FunD K "_law_call" "_law_call" (defArgs s_law_call) (defBody s_law_call) (defScope s_law_call) [] [] (He.ga K "_law_call") fd_law_call
  fd_law_outcome : FuncData
  F_law_outcome : FunD K "_law_outcome" "_law_outcome" (defArgs s_law_outcome) (defBody s_law_outcome) (defScope s_law_outcome) [] [] (He.ga K "_law_outcome") fd_law_outcome
  fd_law : FuncData
  F_law : FunD K "law" "law" (defArgs s_law) (defBody s_law) (defScope s_law) [] [] (He.ga K "law") fd_law
  m_BadNumber : mg "BadNumber" = some (.ref (He.ga K "BadNumber"))
  m_Ladder : mg "Ladder" = some (.ref (He.ga K "Ladder"))
  m_OVERLAP_ladders : mg "OVERLAP_ladders" = some (.int (1) (Hd.tkOf (mg "OVERLAP_ladders")))
  m__law_box : mg "_law_box" = some (.ref (He.ga K "_law_box"))
  m__law_call : mg "_law_call" = some (.ref (He.ga K "_law_call"))
  m__law_number : mg "_law_number" = some (.ref (He.ga K "_law_number"))
  m__law_outcome : mg "_law_outcome" = some (.ref (He.ga K "_law_outcome"))
  m__law_take : mg "_law_take" = some (.ref (He.ga K "_law_take"))
  m_joined_length : mg "joined_length" = some (.ref (He.ga K "joined_length"))
  m_law : mg "law" = some (.ref (He.ga K "law"))
  n_bool : mg "bool" = none
  n_int : mg "int" = none
  n_isinstance : mg "isinstance" = none
  n_len : mg "len" = none
  n_range : mg "range" = none
  n_sum : mg "sum" = none
  n_super : mg "super" = none
  xm_BadNumber_BadNumber : PySem.W.exmOne K (.ref (He.ga K "BadNumber")) (.ref (He.ga K "BadNumber")) = some true
  er_BadNumber : PySem.ErrX.ErrTxt PP K (He.ga K "BadNumber") "value" "value"
  cr_Ladder : ClX.CRead K (He.ga K "Ladder") (.type "type")
  cv_Ladder_OVERLAP : ∃ u, ClX.CVal K (He.ga K "Ladder") (.type "type") "OVERLAP" (.int 1) u
section
variable {w : World} {K : PySem.W.Frag} {mg : Str → Option Value} {base : Heap}
theorem b_law_box_1 (T : Txt K mg) : Vals [] ([] : List Value) ∧ Binds K T.fd_law_box ["_law_script"] [] := ⟨.nil, FunD.bindsN T.F_law_box fun _ _ _ _ _ _ us hl => match us, hl with | [_], _ => rfl⟩
theorem b_law_call_1 (T : Txt K mg) : Vals [] ([] : List Value) ∧ Binds K T.fd_law_call ["_law_row"] [] := ⟨.nil, FunD.bindsN T.F_law_call fun _ _ _ _ _ _ us hl => match us, hl with | [_], _ => rfl⟩
theorem b_law_number_1 (T : Txt K mg) : Vals [] ([] : List Value) ∧ Binds K T.fd_law_number ["_law_x"] [] := ⟨.nil, FunD.bindsN T.F_law_number fun _ _ _ _ _ _ us hl => match us, hl with | [_], _ => rfl⟩
theorem b_law_outcome_1 (T : Txt K mg) : Vals [] ([] : List Value) ∧ Binds K T.fd_law_outcome ["_law_row"] [] := ⟨.nil, FunD.bindsN T.F_law_outcome fun _ _ _ _ _ _ us hl => match us, hl with | [_], _ => rfl⟩
theorem b_law_take_2 (T : Txt K mg) : Vals [] ([] : List Value) ∧ Binds K T.fd_law_take ["_law_box_here", "_law_size"] [] := ⟨.nil, FunD.bindsN T.F_law_take fun _ _ _ _ _ _ us hl => match us, hl with | [_, _], _ => rfl⟩
/-! ### the law's box of numbers -/
/-- a box at b, its cells at c -/
def Bx (H : Hp) (b c : Addr) : Prop := ∃ (cs : List Int) (i r s : Int), H b = some (.lst [.ref c, .int i, .int r, .int s]) ∧ H c = some (.lst (cs.map V.int)) ∧ cs.length ≤ 63 ∧ 0 ≤ i ∧ 0 ≤ r ∧ 0 ≤ s ∧ s < 2147483647
theorem Bx.ne {H : Hp} {b c : Addr} (h : Bx H b c) : c ≠ b := by
  obtain ⟨cs, i, r, s, h1, h2, _⟩ := h
  refine ne_of h2 h1 fun z => ?_
  have z2 : cs.map V.int = [.ref c, .int i, .int r, .int s] := by injection z
  cases cs with
  | nil => cases z2
  | cons a l => cases z2
theorem map_get {ns : List Int} {i : Nat} {y : V} (hi : (ns.map V.int)[i]? = some y) : ∃ z, ns[i]? = some z ∧ y = V.int z := by
  rw [List.getElem?_map] at hi
  cases e : ns[i]? with
  | none =>
    rw [e] at hi
    cases hi
  | some z =>
    rw [e] at hi
    exact ⟨z, rfl, (Option.some.inj hi).symm⟩
theorem take_more {α : Type} : ∀ {l : List α} {i : Nat} {x : α}, l[i]? = some x → l.take (i + 1) = l.take i ++ [x]
  | [], i, x, h => by simp at h
  | a :: l, 0, x, h => by
    have e : a = x := Option.some.inj h
    subst e
    rfl
  | a :: l, i + 1, x, h => by
    have ih := take_more (l := l) (i := i) (x := x) h
    show a :: l.take (i + 1) = a :: l.take i ++ [x]
    rw [ih]
    rfl
theorem cut63 (ns : List Int) : ∃ ms : List Int, cutV (ns.map V.int) none (some 63) = ms.map V.int ∧ ms.length ≤ 63 := by
  refine ⟨(ns.drop (HT.sIx (ns.map V.int).length 0 none)).take (HT.sIx (ns.map V.int).length (ns.map V.int).length (some 63) - HT.sIx (ns.map V.int).length 0 none), ?_, ?_⟩
  · unfold cutV
    rw [List.map_take, List.map_drop]
  · rw [List.length_take]
    have e : HT.sIx (ns.map V.int).length (ns.map V.int).length (some 63) ≤ 63 := by
      unfold HT.sIx
      simp only []
      split <;> omega
    omega
def sp_law_box (K : PySem.W.Frag) : Sp := fun vs H Q _ => ∃ (a : Addr) (ns : List Int), vs = [.ref a] ∧ SqL K H a (ns.map V.int) ∧ ∀ (H' : Hp) (b c : Addr), Same H H' → H b = none → H c = none → Bx H' b c → Q (.ref b) H'
theorem ok_law_box (T : Txt K mg) : FnOk PP w K mg base (L2.CX PP w) 1 (He.ga K "_law_box") T.fd_law_box ["_law_script"] (sp_law_box K) := by
  refine T.F_law_box.ok sc_law_box (fun vs H Q E h => ?_) (fun cdv A outer s H vs Q E hr h => ?_)
  · obtain ⟨a, ns, rfl, _⟩ := h
    rfl
  · obtain ⟨a, ns, rfl, hS, k⟩ := h
    refine ⟨_, (pss_one (ps_ret (pe_lst (pa_cons (pe_lc (own := [("_law_cell", 1)]) rfl sc_law_box.nd (Cl.piL K (pe_slice (Cl.slL K) (pv 0) po_none (po_some pe_int))) (blkOk_by (N := ["_law_script", "_law_cell"]) (sc := defScope s_law_box) (by decide +kernel)) (fun _ _ _ _ _ => (pg_name (i := 1) sc_law_box.nd rfl (by first | exact Or.inl rfl | exact Or.inr rfl))) (fun _ _ _ _ _ => pts_nil) (fun _ _ _ _ _ => (pe_callTy (T := "int") Cl.int1 (by rfl) T.n_int (by decide +kernel) (pa_cons (pv 1) pa_nil)))) (pa_cons pe_int (pa_cons pe_int (pa_cons pe_int pa_nil))))))), ?_⟩
    refine ⟨_, rfl, 63, rfl, a, _, rfl, hS, fun p hp => ?_⟩
    obtain ⟨ms, em, hm⟩ := cut63 ns
    rw [em]
    refine ⟨p, rfl, ⟨_, SqL.of upd_same⟩, fun D hD => ?_⟩
    have hDp : D ≠ p := fun z => by
      rw [z, upd_same] at hD
      cases hD
    have hD0 : H D = none := by
      rw [upd_ne hDp] at hD
      exact hD
    have hSq : ∀ H', H' p = some (.lst (ms.map V.int)) → SqL K H' p (ms.map V.int) := fun H' z => SqL.of z
    refine lc_list (K := K) (a := p) (xs := ms.map V.int) (fun i H' => H' D = some (.lst ((ms.take i).map V.int)) ∧ H' p = some (.lst (ms.map V.int)) ∧ Same H H') ⟨upd_same, ?_, ?_⟩ (fun i H' _ z => hSq H' z.2.1) ?_ ?_
    · rw [upd_ne (Ne.symm hDp), upd_same]
    · intro x o e
      rw [upd_ne (ne_of_none e hD0), upd_ne (ne_of_none e hp)]
      exact e
    · rintro i x H' hi ⟨h1, h2, h3⟩
      obtain ⟨z, hz, rfl⟩ := map_get hi
      refine ⟨rfl, ?_⟩
      refine ⟨_, rfl, z, rfl, _, h1, ?_, ?_, ?_, ?_⟩
      · rw [List.length_map, List.length_take, sizeLine_eq]
        omega
      · rw [upd_same, take_more hz, List.map_append]
        rfl
      · rw [upd_ne (Ne.symm hDp)]
        exact h2
      · intro x o e
        rw [upd_ne (ne_of_none e hD0)]
        exact h3 x o e
    · rintro H' ⟨h1, h2, h3⟩
      rw [List.length_map, List.take_length] at h1
      refine ⟨by show 4 ≤ sizeLine; decide, fun b hb => ?_⟩
      refine k _ b D (fun x o e => ?_) (h3.free hb) hD0 ⟨ms, 0, 0, 0, upd_same, ?_, hm, by decide, by decide, by decide, by decide⟩
      · rw [upd_ne (ne_of_none (h3 x o e) hb)]
        exact h3 x o e
      · rw [upd_ne (ne_of_none h1 hb)]
        exact h1
theorem upd_id {H : Hp} {b : Addr} {o : HO} (h : H b = some o) : upd H b o = H := by
  funext a
  by_cases e : a = b
  · rw [e, upd_same, h]
  · rw [upd_ne e]
theorem at_some {cs : List Int} {i : Int} (h0 : 0 ≤ i) (h1 : i < (cs.length : Int)) : ∃ z, atI (cs.map V.int) i = some (V.int z) := by
  have hj : i.toNat < cs.length := by omega
  refine ⟨cs[i.toNat], ?_⟩
  have e := atI_nat (xs := cs.map V.int) (j := i.toNat) (v := V.int cs[i.toNat]) (by rw [List.getElem?_map, List.getElem?_eq_getElem hj]; rfl)
  rw [Int.toNat_of_nonneg h0] at e
  exact e
def sp_law_take : Sp := fun vs H Q _ => ∃ (b c : Addr) (n : Int), vs = [.ref b, .int n] ∧ Bx H b c ∧ 0 < n ∧ n.natAbs < 2 ^ 9000 ∧ ∀ (k : Int) (o : HO), 0 ≤ k → k < n → Bx (upd H b o) b c → Q (.int k) (upd H b o)
theorem ok_law_take (T : Txt K mg) : FnOk PP w K mg base (L2.CX PP w) 1 (He.ga K "_law_take") T.fd_law_take ["_law_box_here", "_law_size"] sp_law_take := by
  refine T.F_law_take.ok sc_law_take (fun vs H Q E h => ?_) (fun cdv A outer s H vs Q E hr h => ?_)
  · obtain ⟨b, c, n, rfl, _⟩ := h
    rfl
  · obtain ⟨b, c, n, rfl, hB, hn, hN, k⟩ := h
    have ne := hB.ne
    obtain ⟨cs, i, r, u, hb, hc, hl, hi, hrr, hu, hv⟩ := id hB
    refine ⟨_, (Evl.pss_cut (ps_if (PW.pt (pw_and (pt_cmpR op_lt (pe_ix (Cl.ixL K) (pv 0) pe_int (fun _ _ => rfl)) pe_int (nomark _)) (pw_and1 (pt_cmpR op_lt (pe_ix (Cl.ixL K) (pv 0) pe_int (fun _ _ => rfl)) (pe_callB (id := "len") (Cl.len K) (by rfl) T.n_len (by decide +kernel) (pa_cons (pe_ix (Cl.ixL K) (pv 0) pe_int (fun _ _ => rfl)) pa_nil)) (nomark _)))))
      (pss_cons (ps_set (i := 2) sc_law_take.nd rfl (by first | exact Or.inl rfl | exact Or.inr rfl) (pe_ix (Cl.ixL K) (pe_ix (Cl.ixL K) (pv 0) pe_int (fun _ _ => rfl)) (pe_ix (Cl.ixL K) (pv 0) pe_int (fun _ _ => rfl)) (fun _ _ => rfl)))
      (pss_cons (ps_asg (pe_op op_add (pe_ix (Cl.ixL K) (pv 0) pe_int (fun _ _ => rfl)) pe_int) (pg_sub (pv 0) pe_int set_list))
      (pss_one (ps_if (pt_cmpR op_ge (pv 2) (pe_op op_pow pe_int pe_int) (nomark _))
      (pss_one (ps_asg (pe_op op_sub (pv 2) (pe_op op_pow pe_int pe_int)) (pg_sub (pv 0) pe_int set_list)))
      (pss_one (ps_asg (pe_op op_mod (pe_callTy (T := "int") Cl.int1 (by rfl) T.n_int (by decide +kernel) (pa_cons (pe_op op_add (pe_op op_add (pe_op op_mul (pe_ix (Cl.ixL K) (pv 0) pe_int (fun _ _ => rfl)) pe_int) (pe_op op_mul (pv 2) pe_int)) pe_int) pa_nil)) pe_int) (pg_sub (pv 0) pe_int set_list)))))))
      pss_nil)
      (pss_cons (ps_if (pt_cmpR op_gt (pe_ix (Cl.ixL K) (pv 0) pe_int (fun _ _ => rfl)) pe_int (nomark _))
      (pss_cons (ps_set (i := 3) sc_law_take.nd rfl (by first | exact Or.inl rfl | exact Or.inr rfl) (pe_op op_mod (pe_callTy (T := "int") Cl.int1 (by rfl) T.n_int (by decide +kernel) (pa_cons (pe_ix (Cl.ixL K) (pv 0) pe_int (fun _ _ => rfl)) pa_nil)) (pv 1)))
      (pss_cons (ps_asg (pe_op op_fdivW (pe_ix (Cl.ixL K) (pv 0) pe_int (fun _ _ => rfl)) (pv 1)) (pg_sub (pv 0) pe_int set_list))
      (pss_one (ps_ret (pv 3)))))
      pss_nil)
      (pss_cons (ps_asg (pe_op op_mod (pe_callTy (T := "int") Cl.int1 (by rfl) T.n_int (by decide +kernel) (pa_cons (pe_op op_mul (pe_ix (Cl.ixL K) (pv 0) pe_int (fun _ _ => rfl)) pe_int) pa_nil)) pe_int) (pg_sub (pv 0) pe_int set_list))
      (pss_one (ps_ret (pe_op op_mod (pe_callTy (T := "int") Cl.int1 (by rfl) T.n_int (by decide +kernel) (pa_cons (pe_op op_fdivW (pe_ix (Cl.ixL K) (pv 0) pe_int (fun _ _ => rfl)) pe_int) pa_nil)) (pv 1))))))), ?_⟩
    refine ⟨fun σ' H' => ∃ (v : Option V) (o : HO), σ' = [some (.ref b), some (.int n), v, none] ∧ H' = upd H b o ∧ Bx H' b c, ?_, ?_⟩
    · have no : ∃ (v : Option V) (o : HO), ([some (.ref b), some (.int n), none, none] : L2.St) = [some (.ref b), some (.int n), v, none] ∧ H = upd H b o ∧ Bx H b c := ⟨none, _, rfl, (upd_id hb).symm, hB⟩
      refine ⟨_, rfl, _, _, _, _, rfl, rfl, SqL.of hb, rfl, _, _, rfl, rfl, _, rfl, ?_⟩
      refine ite2 (fun c1 => ?_) (fun c1 => ?_)
      · refine ⟨_, rfl, _, _, _, _, rfl, rfl, SqL.of hb, rfl, _, rfl, _, _, _, _, rfl, rfl, SqL.of hb, rfl, c, _, rfl, .inl (SqL.of hc), _, _, rfl, rfl, _, rfl, ?_⟩
        refine ite2 (fun c2 => ?_) (fun c2 => ?_)
        · have c2' := of_decide_eq_true c2
          rw [List.length_map] at c2'
          obtain ⟨z, hz⟩ := at_some hi c2'
          refine ⟨_, rfl, _, _, _, _, rfl, rfl, SqL.of hb, rfl, _, rfl, _, _, _, _, rfl, rfl, SqL.of hb, rfl, c, _, i, .int z, rfl, rfl, SqL.of hc, hz, ?_⟩
          refine ⟨_, rfl, _, _, _, _, rfl, rfl, SqL.of hb, rfl, _, _, rfl, rfl, _, rfl, b, _, _, 1, rfl, rfl, hb, rfl, ?_⟩
          refine ⟨_, rfl, 10, 18, rfl, rfl, ⟨by decide, by decide, by decide⟩, _, _, rfl, rfl, _, rfl, ?_⟩
          refine ite2 (fun c3 => ?_) (fun c3 => ?_)
          · have c3' := of_decide_eq_true c3
            refine ⟨_, rfl, 10, 18, rfl, rfl, ⟨by decide, by decide, by decide⟩, _, _, rfl, rfl, _, rfl, b, _, _, 2, rfl, rfl, upd_same, rfl, ?_⟩
            refine ⟨_, _, rfl, upd_upd, cs, i + 1, z - 10 ^ 18, u, by rw [upd_upd, upd_same]; rfl, by rw [upd_upd, upd_ne ne]; exact hc, hl, by omega, ?_, hu, hv⟩
            have c4 : (10 : Int) ^ (18 : Int).toNat ≤ z := c3'
            have e : (18 : Int).toNat = 18 := rfl
            rw [e] at c4
            omega
          · refine ⟨_, rfl, _, _, _, _, rfl, rfl, SqL.of upd_same, rfl, _, _, rfl, rfl, .inr ⟨by decide, by decide⟩, _, rfl, _, _, rfl, rfl, .inr ⟨by decide, by decide⟩, _, _, rfl, rfl, _, _, rfl, rfl, _, rfl, _, _, rfl, rfl, (by show (0 : Int) < 2147483647; decide), _, rfl, b, _, _, 3, rfl, rfl, upd_same, rfl, ?_⟩
            exact ⟨_, _, rfl, upd_upd, cs, i + 1, r, _, by rw [upd_upd, upd_same]; rfl, by rw [upd_upd, upd_ne ne]; exact hc, hl, by omega, hrr, Int.emod_nonneg _ (by decide), Int.emod_lt_of_pos _ (by decide)⟩
        · exact no
      · exact no
    · rintro σ' H' ⟨v, o, rfl, rfl, hB'⟩
      obtain ⟨cs, i, r, u, hb, hc, hl, hi, hrr, hu, hv⟩ := id hB'
      refine ⟨_, rfl, _, _, _, _, rfl, rfl, SqL.of hb, rfl, _, _, rfl, rfl, _, rfl, ?_⟩
      refine ite2 (fun c1 => ?_) (fun c1 => ?_)
      · refine ⟨_, rfl, _, _, _, _, rfl, rfl, SqL.of hb, rfl, _, rfl, _, rfl, _, _, rfl, rfl, hn, ?_⟩
        refine ⟨_, rfl, _, _, _, _, rfl, rfl, SqL.of hb, rfl, _, rfl, _, _, rfl, rfl, wide_div hn hN (by decide) (by decide), _, rfl, b, _, _, 2, rfl, rfl, hb, rfl, ?_⟩
        refine ⟨_, rfl, ?_⟩
        show Q (.int (r % n)) (upd (upd H b o) b _)
        rw [upd_upd]
        refine k _ _ (Int.emod_nonneg _ (by omega)) (Int.emod_lt_of_pos _ hn) ⟨cs, i, r / n, u, upd_same, ?_, hl, hi, Int.ediv_nonneg hrr (by omega), hu, hv⟩
        rw [upd_ne ne] at hc ⊢
        exact hc
      · refine ⟨_, rfl, _, _, _, _, rfl, rfl, SqL.of hb, rfl, _, _, rfl, rfl, .inr ⟨by decide, by decide⟩, _, rfl, _, _, rfl, rfl, (by show (0 : Int) < 2147483647; decide), _, rfl, b, _, _, 3, rfl, rfl, hb, rfl, ?_⟩
        refine ⟨_, rfl, _, _, _, _, rfl, rfl, SqL.of upd_same, rfl, _, _, rfl, rfl, wide_div (b := 30) (by decide) (by decide) (by decide) (by decide), _, rfl, _, rfl, _, _, rfl, rfl, hn, ?_⟩
        rw [upd_upd]
        refine k _ _ (Int.emod_nonneg _ (by omega)) (Int.emod_lt_of_pos _ hn) ⟨cs, i, r, _, upd_same, ?_, hl, hi, hrr, Int.emod_nonneg _ (by decide), Int.emod_lt_of_pos _ (by decide)⟩
        rw [upd_ne ne] at hc ⊢
        exact hc
theorem Bx.new {H : Hp} {b c p : Addr} {o : HO} (h : Bx H b c) (hp : H p = none) : Bx (upd H p o) b c := by
  obtain ⟨cs, i, r, s, h1, h2, h3⟩ := h
  exact ⟨cs, i, r, s, by rw [upd_ne (ne_of_none h1 hp)]; exact h1, by rw [upd_ne (ne_of_none h2 hp)]; exact h2, h3⟩
theorem Bx.ref {H : Hp} {b c : Addr} (h : Bx H b c) : ∃ o, H b = some o := by
  obtain ⟨cs, i, r, s, h1, _⟩ := h
  exact ⟨_, h1⟩
theorem Bx.same {H H' : Hp} {b c : Addr} (h : Bx H b c) (s : Same H H') : Bx H' b c := by
  obtain ⟨cs, i, r, u, h1, h2, h3⟩ := h
  exact ⟨cs, i, r, u, s _ _ h1, s _ _ h2, h3⟩
/-- a draw, where the box's own list alone has changed since G -/
theorem take_go {G : Hp} {b c : Addr} {o : HO} {n : Int} {Q : VK} {E : XK} (B : Bx (upd G b o) b c) (h0 : 0 < n) (hN : n.natAbs < 2 ^ 9000)
    (k : ∀ (k : Int) (o' : HO), 0 ≤ k → k < n → Bx (upd G b o') b c → Q (.int k) (upd G b o')) : sp_law_take [.ref b, .int n] (upd G b o) Q E :=
  ⟨b, c, n, rfl, B, h0, hN, fun z o' z0 z1 B' => by
    rw [upd_upd] at B' ⊢
    exact k z o' z0 z1 B'⟩
theorem take_in {G : Hp} {b c : Addr} {n : Int} {Q : VK} {E : XK} (B : Bx G b c) (h0 : 0 < n) (hN : n.natAbs < 2 ^ 9000)
    (k : ∀ (k : Int) (o' : HO), 0 ≤ k → k < n → Bx (upd G b o') b c → Q (.int k) (upd G b o')) : sp_law_take [.ref b, .int n] G Q E :=
  ⟨b, c, n, rfl, B, h0, hN, k⟩
/-- the box, and beside it a list of the law's own at r -/
structure BL (H : Hp) (b c r : Addr) (xs : List V) : Prop where
  bx : Bx H b c
  at_ : H r = some (.lst xs)
  rb : r ≠ b
  rc : r ≠ c
theorem BL.take {H : Hp} {b c r : Addr} {xs : List V} {o : HO} (h : BL H b c r xs) (B : Bx (upd H b o) b c) : BL (upd H b o) b c r xs := ⟨B, by rw [upd_ne h.rb]; exact h.at_, h.rb, h.rc⟩
theorem BL.new {H : Hp} {b c r p : Addr} {xs : List V} {o : HO} (h : BL H b c r xs) (hp : H p = none) : BL (upd H p o) b c r xs := ⟨h.bx.new hp, by rw [upd_ne (ne_of_none h.at_ hp)]; exact h.at_, h.rb, h.rc⟩
theorem BL.set {H : Hp} {b c r : Addr} {xs ys : List V} (h : BL H b c r xs) : BL (upd H r (.lst ys)) b c r ys := by
  obtain ⟨cs, i, r', s, h1, h2, h3⟩ := h.bx
  exact ⟨⟨cs, i, r', s, by rw [upd_ne (Ne.symm h.rb)]; exact h1, by rw [upd_ne (Ne.symm h.rc)]; exact h2, h3⟩, upd_same, h.rb, h.rc⟩
theorem BL.same {H H' : Hp} {b c r : Addr} {xs : List V} (h : BL H b c r xs) (s : Same H H') : BL H' b c r xs := ⟨h.bx.same s, s _ _ h.at_, h.rb, h.rc⟩
theorem BL.mk_new {H : Hp} {b c r : Addr} {xs : List V} (h : Bx H b c) (hr : H r = none) : BL (upd H r (.lst xs)) b c r xs := by
  obtain ⟨cs, i, r', s, h1, h2, h3⟩ := id h
  exact ⟨h.new hr, upd_same, Ne.symm (ne_of_none h1 hr), Ne.symm (ne_of_none h2 hr)⟩

/-! ### integer_root -/
theorem newton {n g q b : Int} (hg : 0 < g) (hq : n < g * (q + 1)) (hb : g + q < 2 * (b + 1)) (hb0 : 0 ≤ b) (hq0 : 0 ≤ q) : n < (b + 1) * (b + 1) := by
  have h1 : g + (q + 1) ≤ 2 * (b + 1) := by omega
  have h2 : (g + (q + 1)) * (g + (q + 1)) ≤ (2 * (b + 1)) * (2 * (b + 1)) := Int.mul_le_mul h1 h1 (by omega) (by omega)
  have h3 : 0 ≤ (g - (q + 1)) * (g - (q + 1)) := by
    rcases Int.le_total 0 (g - (q + 1)) with z | z
    · exact Int.mul_nonneg z z
    · exact Int.mul_nonneg_of_nonpos_of_nonpos z z
  have e1 : (g + (q + 1)) * (g + (q + 1)) = (g - (q + 1)) * (g - (q + 1)) + 4 * (g * (q + 1)) := by
    simp only [Int.add_mul, Int.mul_add, Int.sub_mul, Int.mul_sub, Int.mul_comm (q + 1) g, Int.mul_one, Int.one_mul, Int.mul_comm q g]
    omega
  have e2 : (2 * (b + 1)) * (2 * (b + 1)) = 4 * ((b + 1) * (b + 1)) := by
    rw [Int.mul_assoc, Int.mul_comm (b + 1) (2 * (b + 1)), Int.mul_assoc, ← Int.mul_assoc 2 2]
    rfl
  rw [e1, e2] at h2
  omega
def sp_integer_root : Sp := fun vs H Q _ => ∃ n : Int, vs = [.int n] ∧ 0 ≤ n ∧ n < 2 ^ 1000 ∧ ∀ r : Int, 0 ≤ r → r * r ≤ n → n < (r + 1) * (r + 1) → Q (.int r) H
theorem ok_integer_root (T : Txt K mg) : FnOk PP w K mg base (L2.CX PP w) 1 (He.ga K "integer_root") T.fd_integer_root ["number"] sp_integer_root := by
  refine T.F_integer_root.ok sc_integer_root (fun vs H Q E h => ?_) (fun cdv A outer s H vs Q E hr h => ?_)
  · obtain ⟨n, rfl, _⟩ := h
    rfl
  · obtain ⟨n, rfl, h0, hN, k⟩ := h
    refine ⟨_, (pss_cons (ps_if (pt_cmpR op_lt (pv 0) pe_int (nomark _))
      (pss_one (ps_ret (pv 0)))
      pss_nil)
      (pss_cons (ps_set (i := 1) sc_integer_root.nd rfl (by first | exact Or.inl rfl | exact Or.inr rfl) (pe_op op_shlW pe_int (pe_op op_fdivW (pe_op op_add (pe_bits (pv 0)) pe_int) pe_int)))
      (pss_one (ps_while (passes_of rfl) (pt_val pe_bl)
      (pss_cons (ps_set (i := 2) sc_integer_root.nd rfl (by first | exact Or.inl rfl | exact Or.inr rfl) (pe_op op_fdivW (pe_op op_add (pv 1) (pe_op op_fdivW (pv 0) (pv 1))) pe_int))
      (pss_cons (ps_if (pt_cmpR op_ge (pv 2) (pv 1) (nomark _))
      (pss_one (ps_ret (pv 1)))
      pss_nil)
      (pss_one (ps_set (i := 1) sc_integer_root.nd rfl (by first | exact Or.inl rfl | exact Or.inr rfl) (pv 2))))))))), ?_⟩
    refine ⟨_, rfl, _, _, rfl, rfl, _, rfl, ?_⟩
    refine ite2 (fun c => ?_) (fun c => ?_)
    · have c' := of_decide_eq_true c
      refine ⟨_, rfl, k n h0 ?_ ?_⟩
      · rcases (show n = 0 ∨ n = 1 by omega) with rfl | rfl <;> decide
      · rcases (show n = 0 ∨ n = 1 by omega) with rfl | rfl <;> decide
    · have c' : ¬ n < 2 := of_decide_eq_false (Bool.eq_false_iff.mpr c)
      obtain ⟨L, hL⟩ : ∃ L : Nat, Builtin.Int.intBits n = L := ⟨_, rfl⟩
      have hLb : L ≤ 1000 ∧ n < 2 ^ L := by
        have e : Builtin.Int.intBits n = n.natAbs.log2 + 1 := by
          unfold Builtin.Int.intBits
          rw [if_neg]
          simp
          omega
        have hn : n.natAbs < 2 ^ 1000 := by omega
        have l1 : n.natAbs.log2 < 1000 := PySem.Flt.log2_lt_of (by decide) hn
        have l2 : n.natAbs < 2 ^ (n.natAbs.log2 + 1) := Nat.lt_log2_self
        refine ⟨by omega, ?_⟩
        rw [← hL, e]
        have l3 : ((n.natAbs : Nat) : Int) < ((2 ^ (n.natAbs.log2 + 1) : Nat) : Int) := Int.ofNat_lt.mpr l2
        rw [Int.natAbs_of_nonneg h0] at l3
        rw [Int.natCast_pow] at l3
        exact l3
      obtain ⟨J, hJ⟩ : ∃ J : Nat, (L + 1) / 2 = J := ⟨_, rfl⟩
      have eJ : (((Builtin.Int.intBits n : Nat) : Int) + 1) / 2 = (J : Int) := by rw [hL]; omega
      refine ⟨_, rfl, n, rfl, _, _, rfl, rfl, _, _, rfl, rfl, wide_div (b := 2) (by decide) (by decide) (by decide) (by decide), _, _, rfl, rfl, ?_, ?_⟩
      · show CShl 1 ((((Builtin.Int.intBits n : Nat) : Int) + 1) / 2)
        rw [eJ]
        exact shl_ok (n := 1) (by decide) (by omega)
      · show tWhile _ _ _ [some (.int n), some (.int (1 * 2 ^ ((((Builtin.Int.intBits n : Nat) : Int) + 1) / 2).toNat)), none] H
        rw [eJ, Int.toNat_natCast, Int.one_mul]
        have g0 : (0 : Int) < 2 ^ J := Int.pow_pos (by decide)
        have gs : n < (2 ^ J + 1) * (2 ^ J + 1) := by
          have a1 : (2 : Int) ^ J * 2 ^ J = 2 ^ (J + J) := by rw [← Int.pow_add]
          have a2 : (2 : Int) ^ L ≤ 2 ^ (J + J) := by
            have z : (2 : Nat) ^ L ≤ 2 ^ (J + J) := Nat.pow_le_pow_right (by decide) (by omega)
            have z2 : ((2 ^ L : Nat) : Int) ≤ ((2 ^ (J + J) : Nat) : Int) := Int.ofNat_le.mpr z
            rw [Int.natCast_pow, Int.natCast_pow] at z2
            exact z2
          have a3 : ((2 : Int) ^ J + 1) * (2 ^ J + 1) = 2 ^ J * 2 ^ J + 2 * 2 ^ J + 1 := by
            rw [Int.add_mul, Int.mul_add]
            omega
          have a4 := hLb.2
          omega
        have gb : (2 : Int) ^ J ≤ 2 ^ 501 := by
          have z : (2 : Nat) ^ J ≤ 2 ^ 501 := Nat.pow_le_pow_right (by decide) (by omega)
          have z2 : ((2 ^ J : Nat) : Int) ≤ ((2 ^ 501 : Nat) : Int) := Int.ofNat_le.mpr z
          rw [Int.natCast_pow, Int.natCast_pow] at z2
          exact z2
        refine while_by (fun σ' H' => H' = H ∧ ∃ (g : Int) (v : Option V), σ' = [some (.int n), some (.int g), v] ∧ 0 < g ∧ g ≤ 2 ^ 501 ∧ n < (g + 1) * (g + 1)) (fun σ' _ => match σ' with | [_, some (.int g), _] => g.toNat | _ => 0) ⟨rfl, _, none, rfl, g0, gb, gs⟩ ?_ (fun σ H Q Q' hq z => ?_)
        · rintro σ' H' ⟨rfl, g, v, rfl, hg, hgb, hgs⟩
          refine ⟨_, rfl, ?_⟩
          have hq := Int.mul_ediv_add_emod n g
          have hq1 := Int.emod_nonneg n (show g ≠ 0 by omega)
          have hq2 := Int.emod_lt_of_pos n hg
          have hq3 : 0 ≤ n / g := Int.ediv_nonneg h0 (by omega)
          have hgn : g.natAbs < 2 ^ 502 := by omega
          refine ⟨_, rfl, _, rfl, _, rfl, _, _, rfl, rfl, wide_div hg hgn (by decide) (by decide), _, _, rfl, rfl, _, _, rfl, rfl, wide_div (b := 2) (by decide) (by decide) (by decide) (by decide), ?_⟩
          refine ⟨_, rfl, _, rfl, _, _, rfl, rfl, _, rfl, ?_⟩
          refine ite2 (fun c1 => ?_) (fun c1 => ?_)
          · have c2 : g ≤ (g + n / g) / 2 := of_decide_eq_true c1
            refine ⟨_, rfl, k g (by omega) ?_ hgs⟩
            have c3 : g ≤ n / g := by omega
            have c4 : g * g ≤ g * (n / g) := Int.mul_le_mul_of_nonneg_left c3 (by omega)
            omega
          · have c2 : ¬ g ≤ (g + n / g) / 2 := of_decide_eq_false (Bool.eq_false_iff.mpr c1)
            have c5 : n < ((g + n / g) / 2 + 1) * ((g + n / g) / 2 + 1) := newton hg (by rw [Int.mul_add]; omega) (by omega) (by omega) hq3
            have c6 : 0 < (g + n / g) / 2 := by
              rcases Int.lt_or_le 0 ((g + n / g) / 2) with z | z
              · exact z
              · have z2 : (g + n / g) / 2 = 0 := by omega
                rw [z2] at c5
                omega
            refine ⟨_, rfl, ⟨rfl, (g + n / g) / 2, some (.int ((g + n / g) / 2)), rfl, c6, by omega, c5⟩, ?_⟩
            show ((g + n / g) / 2).toNat < g.toNat
            omega
        · obtain ⟨c, e, z⟩ := z
          exact ⟨c, e, hq _ _ z⟩
/-- the error that is promised -/
def XErr (E : XK) (H : Hp) (C : Addr) (f : Str) (v : V) : Prop := ∀ d : Addr, H d = none → E (.ref C) (some d) (upd H d (.xd [(f, v)]))
/-- the root of what is left: a number r with r * r ≤ n < (r + 1) * (r + 1) -/
structure Rt (n r : Int) : Prop where
  nn : 0 ≤ r
  lo : r * r ≤ n
  hi : n < (r + 1) * (r + 1)
theorem sq_lt {l : Int} {b : Nat} (h : l.natAbs < 2 ^ b) : l * l < 2 ^ (b + b) ∧ 0 ≤ l * l := by
  have e : ((l.natAbs * l.natAbs : Nat) : Int) = l * l := Int.natAbs_mul_self
  have h1 : l.natAbs * l.natAbs < 2 ^ b * 2 ^ b := Nat.mul_lt_mul'' h h
  rw [← Nat.pow_add] at h1
  have h2 : ((l.natAbs * l.natAbs : Nat) : Int) < ((2 ^ (b + b) : Nat) : Int) := Int.ofNat_lt.mpr h1
  rw [Int.natCast_pow, e] at h2
  exact ⟨h2, by rw [← e]; exact Int.natCast_nonneg _⟩
theorem rt_sq {l r : Int} (h0 : 0 ≤ l) (h : Rt (l * l - 0 * 0) r) : r = l := by
  have e : l * l - 0 * 0 = l * l := by omega
  obtain ⟨h1, h2, h3⟩ := h
  rw [e] at h2 h3
  rcases Int.lt_trichotomy r l with z | z | z
  · have z2 : (r + 1) * (r + 1) ≤ l * l := Int.mul_le_mul (by omega) (by omega) (by omega) (by omega)
    omega
  · exact z
  · have z2 : l * l < r * r := Int.mul_lt_mul' (by omega) z (by omega) (by omega)
    omega

/-! ### _law_number of an int -/
def sp_law_number : Sp := fun vs H Q _ => ∃ n : Int, vs = [.int n] ∧ Q (.bl true) H
theorem ok_law_number (T : Txt K mg) : FnOk PP w K mg base (L2.CX PP w) 1 (He.ga K "_law_number") T.fd_law_number ["_law_x"] sp_law_number := by
  refine T.F_law_number.ok sc_law_number (fun vs H Q E h => ?_) (fun cdv A outer s H vs Q E hr h => ?_)
  · obtain ⟨n, rfl, _⟩ := h
    rfl
  · obtain ⟨n, rfl, k⟩ := h
    refine ⟨_, (pss_one (ps_ret (pe_and (pe_callB (id := "isinstance") (Cl.isi K) (by rfl) T.n_isinstance (by decide +kernel) (pa_cons (pv 0) (pa_cons (pe_bltn (v := .ty "int") (u := .type "int") (by rfl) T.n_int (by decide +kernel) rfl) pa_nil))) (pe_one (pe_not (pe_callB (id := "isinstance") (Cl.isi K) (by rfl) T.n_isinstance (by decide +kernel) (pa_cons (pv 0) (pa_cons (pe_bltn (v := .ty "bool") (u := .type "bool") (by rfl) T.n_bool (by decide +kernel) rfl) pa_nil)))))))), ?_⟩
    refine ⟨_, rfl, _, _, _, _, true, rfl, .ty "int", .base (.int n), kit_ty (by decide +kernel), true, rfl, ?_⟩
    exact ⟨_, rfl, _, _, _, _, false, rfl, .ty "bool", .base (.int n), kit_ty (by decide +kernel), false, rfl, k⟩

/-! ### new lists -/
/-- a new list is handed back -/
def NewL (H : Hp) (Q : VK) (xs : List V) : Prop := ∀ (p : Addr) (H' : Hp), Same H H' → H p = none → H' p = some (.lst xs) → Q (.ref p) H'
theorem NewL.go {H H1 : Hp} {Q : VK} {xs : List V} (k : NewL H Q xs) (s : Same H H1) {p : Addr} (hp : H1 p = none) : Q (.ref p) (upd H1 p (.lst xs)) :=
  k p _ (fun b o e => by rw [upd_ne (ne_of_none (s b o e) hp)]; exact s b o e) (s.free hp) upd_same

/-! ### joined_length -/
/-- is this length refused in a join of n -/
def badL (n : Nat) (l : Int) : Bool := decide (l < 0) || (decide (1 < n) && decide (l ≤ 1))
def firstBad (ls : List Int) : Option Int := ls.find? (badL ls.length)
def joinLen (ls : List Int) : Int := ls.sum - (if 1 < ls.length then (ls.length : Int) - 1 else 0)
theorem find_take {α : Type} {q : α → Bool} : ∀ {l : List α} {i : Nat} {x : α}, (l.take i).find? q = none → l[i]? = some x → q x = true → l.find? q = some x
  | [], i, x, _, h, _ => by simp at h
  | a :: l, 0, x, _, h, hx => by
    have e : a = x := Option.some.inj h
    subst e
    rw [List.find?_cons, hx]
  | a :: l, i + 1, x, h1, h, hx => by
    rw [List.take_succ_cons, List.find?_cons] at h1
    cases ha : q a with
    | true => rw [ha] at h1; cases h1
    | false =>
      rw [ha] at h1
      rw [List.find?_cons, ha]
      exact find_take h1 h hx
theorem find_more {α : Type} {q : α → Bool} {l : List α} {i : Nat} {x : α} (h1 : (l.take i).find? q = none) (h : l[i]? = some x) (hx : q x = false) : (l.take (i + 1)).find? q = none := by
  rw [take_more h, List.find?_append, h1]
  simp [hx]
def spi_joined_length (K : PySem.W.Frag) (C : Addr) : Sp := fun vs H Q E => ∃ (p : Addr) (ls : List Int), vs = [.ref p] ∧ SqT K H p (ls.map V.int) ∧ ls.length ≤ 1000 ∧ (∀ v, firstBad ls = some v → XErr E H C "value" (.int v)) ∧ (firstBad ls = none → Q (.int (joinLen ls)) H)
def sp_joined_length (C : Addr) : Sp := fun vs H Q E => ∃ ls : List Int, vs = ls.map V.int ∧ ls.length ≤ 1000 ∧ (∀ v, firstBad ls = some v → ∀ H', Same H H' → XErr E H' C "value" (.int v)) ∧ (firstBad ls = none → ∀ H', Same H H' → Q (.int (joinLen ls)) H')
theorem ok_joined_length (T : Txt K mg) : FnR PP w K mg base (L2.CX PP w) 1 (He.ga K "joined_length") (sp_joined_length (He.ga K "BadNumber")) := by
  refine FnR.imp (Cl.okStar (k := 0) (ps := []) (pv := "lengths") (sp := spi_joined_length K (He.ga K "BadNumber")) T.F_joined_length sc_joined_length StX.cxUp (fun kV doc pm an cdv ct us rest hl => ?_) (fun cdv A outer s H vs Q E hr h => ?_)) (fun vs H Q E h => ?_)
  · cases us with
    | nil => cases rest <;> rfl
    | cons a l => cases hl
  · obtain ⟨p, ls, rfl, hS, hl, k1, k2⟩ := h
    refine ⟨_, (pss_cons (ps_set (i := 1) sc_joined_length.nd rfl (by first | exact Or.inl rfl | exact Or.inr rfl) pe_int)
      (pss_cons (ps_for (passes_of rfl) rfl (Cl.piT K (pv 0)) (pg_name (i := 2) sc_joined_length.nd rfl (by first | exact Or.inl rfl | exact Or.inr rfl))
      (pss_cons (ps_if (PW.pt (pw_or (pt_cmpR op_lt (pv 2) pe_int (nomark _)) (pw_or1 (PW.pt (pw_and (pt_cmpR op_gt (pe_callB (id := "len") (Cl.len K) (by rfl) T.n_len (by decide +kernel) (pa_cons (pv 0) pa_nil)) pe_int (nomark _)) (pw_and1 (pt_cmpR op_le (pv 2) (pe_glob (v := .int 1) (by rfl) T.m_OVERLAP_ladders ⟨_, rfl⟩) (nomark _))))))))
      (pss_one (ps_raiseErr rfl T.er_BadNumber T.m_BadNumber T.n_super hr (takes_of rfl rfl rfl rfl) (pa_cons (pv 2) pa_nil)))
      pss_nil)
      (pss_one (ps_aug (i := 1) sc_joined_length.nd rfl (by first | exact Or.inl rfl | exact Or.inr rfl) (pv 2) ip_add))))
      (pss_cons (ps_if (pt_cmpR op_gt (pe_callB (id := "len") (Cl.len K) (by rfl) T.n_len (by decide +kernel) (pa_cons (pv 0) pa_nil)) pe_int (nomark _))
      (pss_one (ps_aug (i := 1) sc_joined_length.nd rfl (by first | exact Or.inl rfl | exact Or.inr rfl) (pe_op op_mulX (pe_glob (v := .int 1) (by rfl) T.m_OVERLAP_ladders ⟨_, rfl⟩) (pe_op op_sub (pe_callB (id := "len") (Cl.len K) (by rfl) T.n_len (by decide +kernel) (pa_cons (pv 0) pa_nil)) pe_int)) ip_sub))
      pss_nil)
      (pss_one (ps_ret (pv 1)))))), ?_⟩
    have hlen : (ls.map V.int).length = ls.length := List.length_map ..
    refine ⟨_, rfl, p, rfl, ⟨_, hS⟩, for_tup (K := K) (a := p) (xs := ls.map V.int) (fun i σ' H' => H' = H ∧ (ls.take i).find? (badL ls.length) = none ∧ ∃ v : Option V, σ' = [some (.ref p), some (.int (ls.take i).sum), v]) ⟨rfl, rfl, none, rfl⟩ (fun i σ' H' _ z => by rw [z.1]; exact hS) ?_ ?_⟩
    · rintro i x σ' H' hi ⟨rfl, hf, v, rfl⟩
      obtain ⟨z, hz, rfl⟩ := map_get hi
      have hsum : (ls.take (i + 1)).sum = (ls.take i).sum + z := by rw [take_more hz]; simp
      have yes : badL ls.length z = true → XErr E H' (He.ga K "BadNumber") "value" (.int z) := fun hb => k1 z (find_take hf hz hb)
      have no : badL ls.length z = false → H' = H' ∧ (ls.take (i + 1)).find? (badL ls.length) = none ∧ ∃ v : Option V, ([some (.ref p), some (.int ((ls.take i).sum + z)), some (.int z)] : L2.St) = [some (.ref p), some (.int (ls.take (i + 1)).sum), v] := fun hb => ⟨rfl, find_more hf hz hb, some (.int z), by rw [hsum]⟩
      unfold badL at yes no
      repeat (first | (refine ⟨_, rfl, ?_⟩) | (refine ⟨_, _, rfl, rfl, ?_⟩) | (refine ⟨rfl, _, rfl, ?_⟩))
      refine ite2 (fun c => ?_) (fun c => ?_)
      · exact ⟨_, rfl, _, rfl, fun d hd => yes (by rw [c, Bool.true_or]) d hd⟩
      refine ⟨_, rfl, p, _, rfl, .inr hS, ?_⟩
      repeat (first | (refine ⟨_, rfl, ?_⟩) | (refine ⟨_, _, rfl, rfl, ?_⟩) | (refine ⟨rfl, _, rfl, ?_⟩))
      rw [hlen]
      have c1 : decide (z < 0) = false := Bool.eq_false_iff.mpr c
      refine ite2 (fun c => ?_) (fun c => ?_)
      · have c2 : decide (1 < ls.length) = true := decide_eq_true (by have := of_decide_eq_true c; omega)
        repeat (first | (refine ⟨_, rfl, ?_⟩) | (refine ⟨_, _, rfl, rfl, ?_⟩) | (refine ⟨rfl, _, rfl, ?_⟩))
        refine ite2 (fun c => ?_) (fun c => ?_)
        · exact ⟨_, rfl, _, rfl, fun d hd => yes (by rw [c1, c2, c]; rfl) d hd⟩
        · exact ⟨_, rfl, _, rfl, _, _, rfl, rfl, no (by rw [c1, c2, Bool.eq_false_iff.mpr c]; rfl)⟩
      · have c2 : decide (1 < ls.length) = false := decide_eq_false (by have := of_decide_eq_false (Bool.eq_false_iff.mpr c); omega)
        exact ⟨_, rfl, _, rfl, _, _, rfl, rfl, no (by rw [c1, c2]; rfl)⟩
    · rintro σ' H' ⟨rfl, hf, v, rfl⟩
      rw [hlen, List.take_length] at hf
      rw [hlen, List.take_length]
      have fin := k2 hf
      unfold joinLen at fin
      refine ⟨_, rfl, p, _, rfl, .inr hS, ?_⟩
      repeat (first | (refine ⟨_, rfl, ?_⟩) | (refine ⟨_, _, rfl, rfl, ?_⟩) | (refine ⟨rfl, _, rfl, ?_⟩))
      rw [hlen]
      refine ite2 (fun c => ?_) (fun c => ?_)
      · have c2 : 1 < ls.length := by have := of_decide_eq_true c; omega
        rw [if_pos c2] at fin
        refine ⟨_, rfl, _, rfl, p, _, rfl, .inr hS, ?_⟩
        rw [hlen]
        refine ⟨_, _, rfl, rfl, _, _, rfl, rfl, mulx_ok (a := 1) (b := 30) (by decide) (by omega) (by decide), _, _, rfl, rfl, _, rfl, ?_⟩
        show Q (.int (ls.sum - 1 * ((ls.length : Int) - 1))) H'
        rw [Int.one_mul]
        exact fin
      · have c2 : ¬ 1 < ls.length := by have := of_decide_eq_false (Bool.eq_false_iff.mpr c); omega
        rw [if_neg c2, Int.sub_zero] at fin
        exact ⟨_, rfl, fin⟩
  · obtain ⟨ls, rfl, hl, k1, k2⟩ := h
    refine ⟨[], ls.map V.int, rfl, rfl, by rw [List.length_map, sizeLine_eq]; omega, fun p hp => ?_⟩
    have sm : Same H (upd H p (.tup (ls.map V.int))) := fun b o e => by rw [upd_ne (ne_of_none e hp)]; exact e
    exact ⟨p, ls, rfl, SqT.of upd_same, hl, fun v hv => k1 v hv _ sm, fun hn => k2 hn _ sm⟩

/-! ### _law_call, _law_outcome, law -/
def sp_law_call (K : PySem.W.Frag) (C : Addr) : Sp := fun vs H Q E => ∃ (a : Addr) (ls : List Int), vs = [.ref a] ∧ SqL K H a (ls.map V.int) ∧ ls.length ≤ 6 ∧ (∀ v, firstBad ls = some v → ∀ H', Same H H' → XErr E H' C "value" (.int v)) ∧ (firstBad ls = none → ∀ H', Same H H' → Q (.int (joinLen ls)) H')
theorem ok_law_call (T : Txt K mg) : FnOk PP w K mg base (L2.CX PP w) 2 (He.ga K "_law_call") T.fd_law_call ["_law_row"] (sp_law_call K (He.ga K "BadNumber")) := by
  have G_joined_length : FnR PP w K mg base (L2.CX PP w) _ _ _ := ok_joined_length T
  refine T.F_law_call.ok sc_law_call (fun vs H Q E h => ?_) (fun cdv A outer s H vs Q E hr h => ?_)
  · obtain ⟨a, ls, rfl, _⟩ := h
    rfl
  · obtain ⟨a, ls, rfl, hS, hl, k1, k2⟩ := h
    refine ⟨_, (pss_cons (ps_if (pt_cmpR op_eq (pe_callB (id := "len") (Cl.len K) (by rfl) T.n_len (by decide +kernel) (pa_cons (pv 0) pa_nil)) pe_int (nomark _))
      (pss_one (ps_ret (Cl.pe_f0 G_joined_length (hr.mono (by decide)) (by rfl) T.m_joined_length T.F_joined_length.kp (fun σ => Cl.at_ (takes_of rfl rfl rfl rfl) σ))))
      pss_nil)
      (pss_cons (ps_if (pt_cmpR op_eq (pe_callB (id := "len") (Cl.len K) (by rfl) T.n_len (by decide +kernel) (pa_cons (pv 0) pa_nil)) pe_int (nomark _))
      (pss_one (ps_ret (Cl.pe_f G_joined_length (hr.mono (by decide)) (by rfl) T.m_joined_length T.F_joined_length.kp (fun σ => Cl.at_ (takes_of rfl rfl rfl rfl) σ) (pa_cons (pe_ix (Cl.ixL K) (pv 0) pe_int (fun _ _ => rfl)) pa_nil))))
      pss_nil)
      (pss_cons (ps_if (pt_cmpR op_eq (pe_callB (id := "len") (Cl.len K) (by rfl) T.n_len (by decide +kernel) (pa_cons (pv 0) pa_nil)) pe_int (nomark _))
      (pss_one (ps_ret (Cl.pe_f G_joined_length (hr.mono (by decide)) (by rfl) T.m_joined_length T.F_joined_length.kp (fun σ => Cl.at_ (takes_of rfl rfl rfl rfl) σ) (pa_cons (pe_ix (Cl.ixL K) (pv 0) pe_int (fun _ _ => rfl)) (pa_cons (pe_ix (Cl.ixL K) (pv 0) pe_int (fun _ _ => rfl)) pa_nil)))))
      pss_nil)
      (pss_cons (ps_if (pt_cmpR op_eq (pe_callB (id := "len") (Cl.len K) (by rfl) T.n_len (by decide +kernel) (pa_cons (pv 0) pa_nil)) pe_int (nomark _))
      (pss_one (ps_ret (Cl.pe_f G_joined_length (hr.mono (by decide)) (by rfl) T.m_joined_length T.F_joined_length.kp (fun σ => Cl.at_ (takes_of rfl rfl rfl rfl) σ) (pa_cons (pe_ix (Cl.ixL K) (pv 0) pe_int (fun _ _ => rfl)) (pa_cons (pe_ix (Cl.ixL K) (pv 0) pe_int (fun _ _ => rfl)) (pa_cons (pe_ix (Cl.ixL K) (pv 0) pe_int (fun _ _ => rfl)) pa_nil))))))
      pss_nil)
      (pss_cons (ps_if (pt_cmpR op_eq (pe_callB (id := "len") (Cl.len K) (by rfl) T.n_len (by decide +kernel) (pa_cons (pv 0) pa_nil)) pe_int (nomark _))
      (pss_one (ps_ret (Cl.pe_f G_joined_length (hr.mono (by decide)) (by rfl) T.m_joined_length T.F_joined_length.kp (fun σ => Cl.at_ (takes_of rfl rfl rfl rfl) σ) (pa_cons (pe_ix (Cl.ixL K) (pv 0) pe_int (fun _ _ => rfl)) (pa_cons (pe_ix (Cl.ixL K) (pv 0) pe_int (fun _ _ => rfl)) (pa_cons (pe_ix (Cl.ixL K) (pv 0) pe_int (fun _ _ => rfl)) (pa_cons (pe_ix (Cl.ixL K) (pv 0) pe_int (fun _ _ => rfl)) pa_nil)))))))
      pss_nil)
      (pss_cons (ps_if (pt_cmpR op_eq (pe_callB (id := "len") (Cl.len K) (by rfl) T.n_len (by decide +kernel) (pa_cons (pv 0) pa_nil)) pe_int (nomark _))
      (pss_one (ps_ret (Cl.pe_f G_joined_length (hr.mono (by decide)) (by rfl) T.m_joined_length T.F_joined_length.kp (fun σ => Cl.at_ (takes_of rfl rfl rfl rfl) σ) (pa_cons (pe_ix (Cl.ixL K) (pv 0) pe_int (fun _ _ => rfl)) (pa_cons (pe_ix (Cl.ixL K) (pv 0) pe_int (fun _ _ => rfl)) (pa_cons (pe_ix (Cl.ixL K) (pv 0) pe_int (fun _ _ => rfl)) (pa_cons (pe_ix (Cl.ixL K) (pv 0) pe_int (fun _ _ => rfl)) (pa_cons (pe_ix (Cl.ixL K) (pv 0) pe_int (fun _ _ => rfl)) pa_nil))))))))
      pss_nil)
      (pss_one (ps_ret (Cl.pe_f G_joined_length (hr.mono (by decide)) (by rfl) T.m_joined_length T.F_joined_length.kp (fun σ => Cl.at_ (takes_of rfl rfl rfl rfl) σ) (pa_cons (pe_ix (Cl.ixL K) (pv 0) pe_int (fun _ _ => rfl)) (pa_cons (pe_ix (Cl.ixL K) (pv 0) pe_int (fun _ _ => rfl)) (pa_cons (pe_ix (Cl.ixL K) (pv 0) pe_int (fun _ _ => rfl)) (pa_cons (pe_ix (Cl.ixL K) (pv 0) pe_int (fun _ _ => rfl)) (pa_cons (pe_ix (Cl.ixL K) (pv 0) pe_int (fun _ _ => rfl)) (pa_cons (pe_ix (Cl.ixL K) (pv 0) pe_int (fun _ _ => rfl)) pa_nil))))))))))))))), ?_⟩
    rcases ls with _ | ⟨l1, _ | ⟨l2, _ | ⟨l3, _ | ⟨l4, _ | ⟨l5, _ | ⟨l6, _ | ⟨l7, ls⟩⟩⟩⟩⟩⟩⟩
    all_goals first
      | (exfalso; simp only [List.length_cons] at hl; omega)
      | (repeat (first | (refine ⟨_, rfl, a, _, rfl, .inl hS, ?_⟩) | (refine ⟨_, rfl, a, _, _, _, rfl, rfl, hS, rfl, ?_⟩) | (refine ⟨rfl, _, rfl, ?_⟩)))
    all_goals exact ⟨_, rfl, by simp only [List.length_cons, List.length_nil]; omega, k1, k2⟩
/-- a new tuple is handed back -/
def NewT (H : Hp) (Q : VK) (xs : List V) : Prop := ∀ (p : Addr) (H' : Hp), Same H H' → H p = none → H' p = some (.tup xs) → Q (.ref p) H'
theorem NewT.go {H H1 : Hp} {Q : VK} {xs : List V} (k : NewT H Q xs) (s : Same H H1) {p : Addr} (hp : H1 p = none) : Q (.ref p) (upd H1 p (.tup xs)) :=
  k p _ (fun b o e => by rw [upd_ne (ne_of_none (s b o e) hp)]; exact s b o e) (s.free hp) upd_same
def sp_law_outcome (K : PySem.W.Frag) : Sp := fun vs H Q _ => ∃ (a : Addr) (ls : List Int), vs = [.ref a] ∧ SqL K H a (ls.map V.int) ∧ ls.length ≤ 6 ∧ (∀ v, firstBad ls = some v → NewT H Q [.str "refused", .int v]) ∧ (firstBad ls = none → NewT H Q [.str "length", .int (joinLen ls)])
theorem ok_law_outcome (T : Txt K mg) : FnOk PP w K mg base (L2.CX PP w) 3 (He.ga K "_law_outcome") T.fd_law_outcome ["_law_row"] (sp_law_outcome K) := by
  have G_law_call_1 : FnR PP w K mg base (L2.CX PP w) _ _ _ := (ok_law_call T).raw (b_law_call_1 T).2 (b_law_call_1 T).1
  refine T.F_law_outcome.ok sc_law_outcome (fun vs H Q E h => ?_) (fun cdv A outer s H vs Q E hr h => ?_)
  · obtain ⟨a, ls, rfl, _⟩ := h
    rfl
  · obtain ⟨a, ls, rfl, hS, hl, k1, k2⟩ := h
    refine ⟨_, (pss_one (ps_try_as (i := 1) rfl rfl sc_law_outcome.nd rfl rfl ⟨rfl, by decide, Or.inl T.m_BadNumber⟩ (takes_of rfl rfl rfl rfl)
      (fun W pn xe tk _ => (pss_one (ps_ret (pe_tup (pa_cons pe_str (pa_cons (Cl.pe_f G_law_call_1 (hr.mono (by decide)) (by rfl) T.m__law_call T.F_law_call.kp (fun σ => Cl.at_ tk σ) (pa_cons (pv 0) pa_nil)) pa_nil))))))
      (fun a oe cls d pn hz hf => (pss_one (ps_ret (pe_tup (pa_cons pe_str (pa_cons (pe_xf (errXf T.er_BadNumber) T.er_BadNumber.noN hz hf (pv 1)) pa_nil)))))))), ?_⟩
    refine ⟨_, rfl, a, ls, rfl, hS, hl, fun v hv H' s' d hd => ?_, fun hn H' s' => ?_⟩
    · refine ⟨true, T.xm_BadNumber_BadNumber, fun _ a0 _ => ?_, fun q => Bool.noConfusion q⟩
      refine ⟨_, rfl, rfl, rfl, d, _, _, rfl, upd_same, rfl, by show 2 ≤ sizeLine; decide, fun p hp => ?_⟩
      exact (k1 v hv).go (fun b o e => by rw [upd_ne (ne_of_none (s' b o e) hd)]; exact s' b o e) hp
    · exact ⟨by show 2 ≤ sizeLine; decide, fun p hp => (k2 hn).go s' hp⟩
theorem find_filter {α : Type} {q : α → Bool} : ∀ (l : List α), l.find? q = (l.filter q).head?
  | [] => rfl
  | a :: l => by
    rw [List.find?_cons, List.filter_cons]
    cases h : q a with
    | true => rfl
    | false => simpa using find_filter l
/-- what is due -/
def dueOf (ls : List Int) : Str × Int := match firstBad ls with
  | some v => ("refused", v)
  | none => ("length", joinLen ls)
theorem joinLen_pos {ls : List Int} (h : 0 < ls.length) : joinLen ls = ls.sum - (ls.length : Int) + 1 := by
  unfold joinLen
  split <;> omega
def sp_law (K : PySem.W.Frag) : Sp := fun vs H Q _ => ∃ (a : Addr) (ns : List Int), vs = [.ref a] ∧ SqL K H a (ns.map V.int) ∧ ns.length ≤ 63 ∧ ∀ H', Q (.bl true) H'
theorem ok_law (T : Txt K mg) : FnOk PP w K mg base (L2.CX PP w) 4 (He.ga K "law") T.fd_law ["_law_script"] (sp_law K) := by
  have G_law_box_1 : FnR PP w K mg base (L2.CX PP w) _ _ _ := (ok_law_box T).raw (b_law_box_1 T).2 (b_law_box_1 T).1
  have G_law_number_1 : FnR PP w K mg base (L2.CX PP w) _ _ _ := (ok_law_number T).raw (b_law_number_1 T).2 (b_law_number_1 T).1
  have G_law_outcome_1 : FnR PP w K mg base (L2.CX PP w) _ _ _ := (ok_law_outcome T).raw (b_law_outcome_1 T).2 (b_law_outcome_1 T).1
  have G_law_take_2 : FnR PP w K mg base (L2.CX PP w) _ _ _ := (ok_law_take T).raw (b_law_take_2 T).2 (b_law_take_2 T).1
  obtain ⟨uO, hO⟩ := T.cv_Ladder_OVERLAP
  refine T.F_law.ok sc_law (fun vs H Q E h => ?_) (fun cdv A outer s H vs Q E hr h => ?_)
  · obtain ⟨a, ns, rfl, _⟩ := h
    rfl
  · obtain ⟨a, ns, rfl, hS, hl, k⟩ := h
    refine ⟨_, (pss_cons (ps_set (i := 1) sc_law.nd rfl (by first | exact Or.inl rfl | exact Or.inr rfl) (Cl.pe_f G_law_box_1 (hr.mono (by decide)) (by rfl) T.m__law_box T.F_law_box.kp (fun σ => Cl.at_ (takes_of rfl rfl rfl rfl) σ) (pa_cons (pv 0) pa_nil)))
      (pss_cons (ps_if (PW.pt (pw_or (pt_not (pt_val (Cl.pe_f G_law_number_1 (hr.mono (by decide)) (by rfl) T.m__law_number T.F_law_number.kp (fun σ => Cl.at_ (takes_of rfl rfl rfl rfl) σ) (pa_cons (Cl.cval K (pe_glob (v := .ref (He.ga K "Ladder")) (by rfl) T.m_Ladder rfl)) pa_nil)))) (pw_or1 (pt_cmpR op_ne (Cl.cval K (pe_glob (v := .ref (He.ga K "Ladder")) (by rfl) T.m_Ladder rfl)) pe_int (nomark _)))))
      (pss_one (ps_ret pe_bl))
      pss_nil)
      (pss_cons (ps_set (i := 2) sc_law.nd rfl (by first | exact Or.inl rfl | exact Or.inr rfl) (pe_lst pa_nil))
      (Evl.pss_cut (ps_for (passes_of rfl) rfl (pi_range1 (by rfl) T.n_range (pa_cons (Cl.pe_f G_law_take_2 (hr.mono (by decide)) (by rfl) T.m__law_take T.F_law_take.kp (fun σ => Cl.at_ (takes_of rfl rfl rfl rfl) σ) (pa_cons (pv 1) (pa_cons pe_int pa_nil))) pa_nil)) (pg_name (i := 3) sc_law.nd rfl (by first | exact Or.inl rfl | exact Or.inr rfl))
      (pss_cons (ps_set (i := 4) sc_law.nd rfl (by first | exact Or.inl rfl | exact Or.inr rfl) (Cl.pe_f G_law_take_2 (hr.mono (by decide)) (by rfl) T.m__law_take T.F_law_take.kp (fun σ => Cl.at_ (takes_of rfl rfl rfl rfl) σ) (pa_cons (pv 1) (pa_cons pe_int pa_nil))))
      (pss_cons (ps_set (i := 5) sc_law.nd rfl (by first | exact Or.inl rfl | exact Or.inr rfl) (Cl.pe_f G_law_take_2 (hr.mono (by decide)) (by rfl) T.m__law_take T.F_law_take.kp (fun σ => Cl.at_ (takes_of rfl rfl rfl rfl) σ) (pa_cons (pv 1) (pa_cons (pe_op op_pow pe_int pe_int) pa_nil))))
      (pss_one (ps_expr (pe_bm PySem.F.plainAttrs_list PySem.F.slot_list_append PySem.F.type_list_append mt_append (pv 2) (pa_cons (pe_ix (Cl.ixL K) (pe_lst (pa_cons (pv 4) (pa_cons (pv 5) pa_nil))) (Cl.pe_f G_law_take_2 (hr.mono (by decide)) (by rfl) T.m__law_take T.F_law_take.kp (fun σ => Cl.at_ (takes_of rfl rfl rfl rfl) σ) (pa_cons (pv 1) (pa_cons pe_int pa_nil))) (fun _ _ => rfl)) pa_nil)))))))
      (Evl.pss_cut (ps_if (PW.pt (pw_and (pt_cmpR op_gt (pe_callB (id := "len") (Cl.len K) (by rfl) T.n_len (by decide +kernel) (pa_cons (pv 2) pa_nil)) pe_int (nomark _)) (pw_and1 (pt_cmpR op_eq (Cl.pe_f G_law_take_2 (hr.mono (by decide)) (by rfl) T.m__law_take T.F_law_take.kp (fun σ => Cl.at_ (takes_of rfl rfl rfl rfl) σ) (pa_cons (pv 1) (pa_cons pe_int pa_nil))) pe_int (nomark _)))))
      (pss_one (ps_asg (pe_op op_sub (pe_un un_neg pe_int) (Cl.pe_f G_law_take_2 (hr.mono (by decide)) (by rfl) T.m__law_take T.F_law_take.kp (fun σ => Cl.at_ (takes_of rfl rfl rfl rfl) σ) (pa_cons (pv 1) (pa_cons pe_int pa_nil)))) (pg_sub (pv 2) (Cl.pe_f G_law_take_2 (hr.mono (by decide)) (by rfl) T.m__law_take T.F_law_take.kp (fun σ => Cl.at_ (takes_of rfl rfl rfl rfl) σ) (pa_cons (pv 1) (pa_cons (pe_callB (id := "len") (Cl.len K) (by rfl) T.n_len (by decide +kernel) (pa_cons (pv 2) pa_nil)) pa_nil))) set_list)))
      pss_nil)
      (Evl.pss_cut (ps_setLc (i := 6) (own := [("_law_length", 4)]) rfl sc_law.nd rfl rfl (sw_true rfl rfl rfl (by decide +kernel)) (Cl.piL K (pv 2)) (blkOk_by (N := ["_law_script", "_law_box_here", "_law_row", "_law_k", "_law_length", "_law_great", "_law_bad", "_law_due", "_law_told"]) (sc := defScope s_law) (by decide +kernel)) (fun _ _ _ _ _ => (pg_name (i := 4) sc_law.nd rfl (by first | exact Or.inl rfl | exact Or.inr rfl))) (fun _ _ _ _ _ => (pts_one (PW.pt (pw_or (pt_cmpR op_lt (pv 4) pe_int (nomark _)) (pw_or1 (PW.pt (pw_and (pt_cmpR op_gt (pe_callB (id := "len") (Cl.len K) (by rfl) T.n_len (by decide +kernel) (pa_cons (pv 2) pa_nil)) pe_int (nomark _)) (pw_and1 (pt_cmpR op_le (pv 4) pe_int (nomark _)))))))))) (fun _ _ _ _ _ => (pv 4)))
      (pss_cons (ps_set (i := 7) sc_law.nd rfl (by first | exact Or.inl rfl | exact Or.inr rfl) (pe_tup (pa_cons pe_str (pa_cons pe_int pa_nil))))
      (Evl.pss_cut (ps_if (pt_cmpR op_gt (pe_callB (id := "len") (Cl.len K) (by rfl) T.n_len (by decide +kernel) (pa_cons (pv 2) pa_nil)) pe_int (nomark _))
      (pss_one (ps_set (i := 7) sc_law.nd rfl (by first | exact Or.inl rfl | exact Or.inr rfl) (pe_tup (pa_cons pe_str (pa_cons (pe_op op_add (pe_op op_sub (pe_callB (id := "sum") (Cl.sum K) (by rfl) T.n_sum (by decide +kernel) (pa_cons (pv 2) pa_nil)) (pe_callB (id := "len") (Cl.len K) (by rfl) T.n_len (by decide +kernel) (pa_cons (pv 2) pa_nil))) pe_int) pa_nil)))))
      pss_nil)
      (Evl.pss_cut (ps_if (pt_cmpR op_gt (pe_callB (id := "len") (Cl.len K) (by rfl) T.n_len (by decide +kernel) (pa_cons (pv 6) pa_nil)) pe_int (nomark _))
      (pss_one (ps_set (i := 7) sc_law.nd rfl (by first | exact Or.inl rfl | exact Or.inr rfl) (pe_tup (pa_cons pe_str (pa_cons (pe_ix (Cl.ixL K) (pv 6) pe_int (fun _ _ => rfl)) pa_nil)))))
      pss_nil)
      (pss_cons (ps_set (i := 8) sc_law.nd rfl (by first | exact Or.inl rfl | exact Or.inr rfl) (Cl.pe_f G_law_outcome_1 (hr.mono (by decide)) (by rfl) T.m__law_outcome T.F_law_outcome.kp (fun σ => Cl.at_ (takes_of rfl rfl rfl rfl) σ) (pa_cons (pv 2) pa_nil)))
      (pss_one (ps_ret (pe_and (Cl.pe_f G_law_number_1 (hr.mono (by decide)) (by rfl) T.m__law_number T.F_law_number.kp (fun σ => Cl.at_ (takes_of rfl rfl rfl rfl) σ) (pa_cons (pe_ix (Cl.ixT K) (pv 8) pe_int (fun _ _ => rfl)) pa_nil)) (pe_one (pe_cmpR (Cl.eqD K hr.units) (pv 8) (pv 7) (nomark _)))))))))))))))), ?_⟩
    refine ⟨_, rfl, a, ns, rfl, hS, fun H1 b c s1 nb nc B1 => ?_⟩
    refine ⟨_, _, _, _, rfl, T.cr_Ladder, hO, 1, rfl, true, rfl, ?_⟩
    refine ⟨_, _, _, _, rfl, T.cr_Ladder, hO, rfl, false, rfl, ?_⟩
    refine ⟨by show 0 ≤ sizeLine; decide, fun r hr0 => ?_⟩
    have L0 : BL (upd H1 r (.lst [])) b c r [] := BL.mk_new B1 hr0
    let Pv : Nat → L2.St → Hp → Prop := fun i σ' H' => ∃ (ls : List Int) (v3 v4 v5 : Option V), σ' = [some (.ref a), some (.ref b), some (.ref r), v3, v4, v5, none, none, none] ∧ BL H' b c r (ls.map V.int) ∧ ls.length = i
    refine ⟨fun σ' H' => ∃ i, i ≤ 6 ∧ Pv i σ' H', ?_, ?_⟩
    · refine ⟨_, rfl, b, c, 7, rfl, L0.bx, by decide, by decide, fun n o1 n0 n1 B2 => ?_⟩
      refine ⟨n, rfl, by omega, by omega, for_range (lo := 0) (n := n.toNat) Pv ⟨[], none, none, none, rfl, L0.take B2, rfl⟩ ?_ (fun σ' H' z => ⟨n.toNat, by omega, z⟩)⟩
      rintro i σ' H' hi ⟨ls, v3, v4, v5, rfl, L, hls⟩
      refine ⟨_, rfl, b, c, 4, rfl, L.bx, by decide, by decide, fun x o2 x0 x1 B3 => ?_⟩
      refine ⟨_, rfl, 10, 20, rfl, rfl, ⟨by decide, by decide, by decide⟩, b, c, _, rfl, B3, by decide, by decide, fun y o3 y0 y1 B4 => ?_⟩
      rw [upd_upd] at B4 ⊢
      have L4 := L.take B4
      refine ⟨_, rfl, .inl ⟨rfl, _, SqL.of L4.at_⟩, _, rfl, _, rfl, by show 2 ≤ sizeLine; decide, fun p hp => ?_⟩
      have L5 := L4.new (p := p) (o := .lst [.int x, .int y]) hp
      refine ⟨_, rfl, b, c, 2, rfl, L5.bx, by decide, by decide, fun z o4 z0 z1 B6 => ?_⟩
      have L6 := L5.take B6
      obtain ⟨bo, hbo⟩ := L4.bx.ref
      have hpz : SqL K (upd (upd (upd H' b o3) p (.lst [.int x, .int y])) b o4) p [.int x, .int y] := SqL.of (by rw [upd_ne (Ne.symm (ne_of_none hbo hp)), upd_same])
      have fin : ∀ q : Int, atI [V.int x, .int y] z = some (.int q) → Pv (i + 1) [some (.ref a), some (.ref b), some (.ref r), some (.int (0 + (i : Int))), some (.int x), some (.int y), none, none, none] (upd (upd (upd (upd H' b o3) p (.lst [.int x, .int y])) b o4) r (.lst (ls.map V.int ++ [.int q]))) := fun q hq =>
        ⟨ls ++ [q], _, _, _, rfl, by rw [List.map_append]; exact L6.set, by rw [List.length_append, hls]; rfl⟩
      have hsz : (ls.map V.int).length < sizeLine := by rw [List.length_map, sizeLine_eq]; omega
      rcases (show z = 0 ∨ z = 1 by omega) with rfl | rfl
      · exact ⟨p, _, _, _, rfl, rfl, hpz, rfl, r, _, _, rfl, rfl, L6.at_, hsz, fin x rfl⟩
      · exact ⟨p, _, _, _, rfl, rfl, hpz, rfl, r, _, _, rfl, rfl, L6.at_, hsz, fin y rfl⟩
    rintro σ' H' ⟨i, hi, ls, v3, v4, v5, rfl, L, hls⟩
    let P2 : L2.St → Hp → Prop := fun σ' H' => ∃ (ls : List Int) (v3 v4 v5 : Option V), σ' = [some (.ref a), some (.ref b), some (.ref r), v3, v4, v5, none, none, none] ∧ BL H' b c r (ls.map V.int) ∧ ls.length ≤ 6
    refine ⟨P2, ?_, ?_⟩
    · refine ⟨_, rfl, r, _, rfl, .inl (SqL.of L.at_), _, _, rfl, rfl, _, rfl, ?_⟩
      refine ite2 (fun c1 => ?_) (fun c1 => ?_)
      · have hpos : 0 < ls.length := by have := of_decide_eq_true c1; rw [List.length_map] at this; omega
        refine ⟨_, rfl, b, c, 3, rfl, L.bx, by decide, by decide, fun x o1 x0 x1 B2 => ?_⟩
        have L2' := L.take B2
        refine ⟨rfl, _, rfl, ?_⟩
        refine ite2 (fun c2 => ?_) (fun c2 => ?_)
        · refine ⟨_, rfl, _, rfl, b, c, 3, rfl, L2'.bx, by decide, by decide, fun y o2 y0 y1 B3 => ?_⟩
          rw [upd_upd] at B3 ⊢
          have L3 := L.take B3
          refine ⟨_, _, rfl, rfl, _, rfl, _, rfl, _, rfl, r, _, rfl, .inl (SqL.of L3.at_), b, c, _, rfl, L3.bx, ?_, ?_, fun z o3 z0 z1 B4 => ?_⟩
          · rw [List.length_map]; omega
          · rw [List.length_map]; omega
          rw [upd_upd] at B4 ⊢
          rw [List.length_map] at z1
          have L4 := L.take B4
          refine ⟨r, _, z, z.toNat, rfl, rfl, L4.at_, ?_, ?_⟩
          · rw [List.length_map]
            have e := Evl.ixN_nat (n := ls.length) (j := z.toNat) (by omega)
            rw [Int.toNat_of_nonneg z0] at e
            exact e
          · exact ⟨ls.set z.toNat (-1 - y), _, _, _, rfl, by rw [List.map_set]; exact L4.set, by rw [List.length_set]; omega⟩
        · exact ⟨ls, _, _, _, rfl, L2', by omega⟩
      · exact ⟨ls, _, _, _, rfl, L, by omega⟩
    clear L hls hi
    clear ls v3 v4 v5 i H'
    rintro _ H' ⟨ls, v3, v4, v5, rfl, L, hls⟩
    have hlen : (ls.map V.int).length = ls.length := List.length_map ..
    refine ⟨fun σ' H' => ∃ (D : Addr) (v3 v4 v5 : Option V), σ' = [some (.ref a), some (.ref b), some (.ref r), v3, v4, v5, some (.ref D), none, none] ∧ H' r = some (.lst (ls.map V.int)) ∧ H' D = some (.lst ((ls.filter (badL ls.length)).map V.int)), ?_, ?_⟩
    · refine ⟨_, rfl, r, rfl, ⟨_, SqL.of L.at_⟩, fun D hD => ?_⟩
      have hDr : r ≠ D := ne_of_none L.at_ hD
      refine lc_list (K := K) (a := r) (xs := ls.map V.int) (fun i H2 => H2 r = some (.lst (ls.map V.int)) ∧ H2 D = some (.lst (((ls.take i).filter (badL ls.length)).map V.int))) ⟨by rw [upd_ne hDr]; exact L.at_, upd_same⟩ (fun i H2 _ z => SqL.of z.1) ?_ ?_
      · rintro i x H2 hi ⟨h1, h2⟩
        obtain ⟨z, hz, rfl⟩ := map_get hi
        have yes : badL ls.length z = true → ∃ acc, H2 D = some (.lst acc) ∧ acc.length < sizeLine ∧ (upd H2 D (.lst (acc ++ [.int z]))) r = some (.lst (ls.map V.int)) ∧ (upd H2 D (.lst (acc ++ [.int z]))) D = some (.lst (((ls.take (i + 1)).filter (badL ls.length)).map V.int)) := fun hb => by
          refine ⟨_, h2, ?_, by rw [upd_ne hDr]; exact h1, ?_⟩
          · rw [List.length_map, sizeLine_eq]
            have := List.length_filter_le (badL ls.length) (ls.take i)
            rw [List.length_take] at this
            omega
          · rw [upd_same, take_more hz, List.filter_append, List.map_append]
            simp [hb]
        have no : badL ls.length z = false → H2 r = some (.lst (ls.map V.int)) ∧ H2 D = some (.lst (((ls.take (i + 1)).filter (badL ls.length)).map V.int)) := fun hb => by
          refine ⟨h1, ?_⟩
          rw [take_more hz, List.filter_append]
          simpa [hb] using h2
        unfold badL at yes no
        refine ⟨rfl, ?_⟩
        refine ⟨_, rfl, _, _, rfl, rfl, _, rfl, ?_⟩
        refine ite2 (fun c1 => ?_) (fun c1 => ?_)
        · exact ⟨_, rfl, yes (by rw [c1, Bool.true_or])⟩
        have c1' : decide (z < 0) = false := Bool.eq_false_iff.mpr c1
        refine ⟨_, rfl, r, _, rfl, .inl (SqL.of h1), _, _, rfl, rfl, _, rfl, ?_⟩
        rw [hlen]
        refine ite2 (fun c2 => ?_) (fun c2 => ?_)
        · have c2' : decide (1 < ls.length) = true := decide_eq_true (by have := of_decide_eq_true c2; omega)
          refine ⟨_, rfl, _, _, rfl, rfl, _, rfl, ?_⟩
          refine ite2 (fun c3 => ?_) (fun c3 => ?_)
          · exact ⟨_, rfl, yes (by rw [c1', c2', c3]; rfl)⟩
          · exact no (by rw [c1', c2', Bool.eq_false_iff.mpr c3]; rfl)
        · have c2' : decide (1 < ls.length) = false := decide_eq_false (by have := of_decide_eq_false (Bool.eq_false_iff.mpr c2); omega)
          exact no (by rw [c1', c2']; rfl)
      · rintro H2 ⟨h1, h2⟩
        rw [hlen, List.take_length] at h2
        exact ⟨D, _, _, _, rfl, h1, h2⟩
    clear L v3 v4 v5
    clear H'
    rintro _ H' ⟨D, v3, v4, v5, rfl, hr1, hD1⟩
    refine ⟨by show 2 ≤ sizeLine; decide, fun t0 ht0 => ?_⟩
    let P3 : Int → L2.St → Hp → Prop := fun n σ' H' => ∃ (t1 : Addr), σ' = [some (.ref a), some (.ref b), some (.ref r), v3, v4, v5, some (.ref D), some (.ref t1), none] ∧ H' r = some (.lst (ls.map V.int)) ∧ H' D = some (.lst ((ls.filter (badL ls.length)).map V.int)) ∧ H' t1 = some (.tup [.str "length", .int n])
    refine ⟨P3 (joinLen ls), ?_, ?_⟩
    · refine ⟨_, rfl, r, _, rfl, .inl (SqL.of (by rw [upd_ne (ne_of_none hr1 ht0)]; exact hr1)), _, _, rfl, rfl, _, rfl, ?_⟩
      rw [hlen]
      refine ite2 (fun c1 => ?_) (fun c1 => ?_)
      · have c1' : 0 < ls.length := by have := of_decide_eq_true c1; omega
        have hr2 : (upd H' t0 (.tup [.str "length", .int 0])) r = some (.lst (ls.map V.int)) := by rw [upd_ne (ne_of_none hr1 ht0)]; exact hr1
        have hD2 : (upd H' t0 (.tup [.str "length", .int 0])) D = some (.lst ((ls.filter (badL ls.length)).map V.int)) := by rw [upd_ne (ne_of_none hD1 ht0)]; exact hD1
        refine ⟨_, rfl, r, ls, rfl, SqL.of hr2, _, rfl, r, _, rfl, .inl (SqL.of hr2), _, _, rfl, rfl, _, _, rfl, rfl, by show 2 ≤ sizeLine; decide, fun t1 ht1 => ?_⟩
        refine ⟨t1, rfl, by rw [upd_ne (ne_of_none hr2 ht1)]; exact hr2, by rw [upd_ne (ne_of_none hD2 ht1)]; exact hD2, ?_⟩
        rw [upd_same, hlen, joinLen_pos c1']
      · have c1' : ¬ 0 < ls.length := by have := of_decide_eq_false (Bool.eq_false_iff.mpr c1); omega
        have e : ls = [] := List.length_eq_zero_iff.mp (by omega)
        subst e
        exact ⟨t0, rfl, by rw [upd_ne (ne_of_none hr1 ht0)]; exact hr1, by rw [upd_ne (ne_of_none hD1 ht0)]; exact hD1, upd_same⟩
    clear ht0 hr1 hD1
    clear t0 H'
    rintro _ H' ⟨t1, rfl, hr1, hD1, ht1⟩
    have hfb := find_filter (q := badL ls.length) ls
    refine ⟨fun σ' H' => ∃ (t1 : Addr), σ' = [some (.ref a), some (.ref b), some (.ref r), v3, v4, v5, some (.ref D), some (.ref t1), none] ∧ H' r = some (.lst (ls.map V.int)) ∧ H' t1 = some (.tup [.str (dueOf ls).1, .int (dueOf ls).2]), ?_, ?_⟩
    · refine ⟨_, rfl, D, _, rfl, .inl (SqL.of hD1), _, _, rfl, rfl, _, rfl, ?_⟩
      rw [List.length_map]
      cases hf : ls.filter (badL ls.length) with
      | nil =>
        have e : firstBad ls = none := by unfold firstBad; rw [hfb, hf]; rfl
        refine ⟨t1, rfl, hr1, ?_⟩
        unfold dueOf
        rw [e]
        exact ht1
      | cons v vs =>
        have e : firstBad ls = some v := by unfold firstBad; rw [hfb, hf]; rfl
        rw [hf] at hD1
        refine ite2 (fun c1 => ?_) (fun c1 => ?_)
        · refine ⟨_, rfl, D, _, _, _, rfl, rfl, SqL.of hD1, atI_nat (j := 0) rfl, by show 2 ≤ sizeLine; decide, fun t2 ht2 => ?_⟩
          refine ⟨t2, rfl, by rw [upd_ne (ne_of_none hr1 ht2)]; exact hr1, ?_⟩
          rw [upd_same]
          unfold dueOf
          rw [e]
        · exact absurd (decide_eq_true (show (0 : Int) < ((v :: vs).length : Int) by rw [List.length_cons]; omega)) c1
    clear ht1 hr1 hD1
    clear t1 H'
    rintro _ H' ⟨t1, rfl, hr1, ht1⟩
    have shp : SeqAt.shaped (.tuple [.str (dueOf ls).1, .int (dueOf ls).2]) = true := by
      have h1 : ∀ x : Str, PyData.strOk x = true → ∀ n : Int, SeqAt.shaped (.tuple [.str x, .int n]) = true := fun x hx n => by simp [SeqAt.shaped, PyData.canLay0, PyData.canLayAll0, PyData.depth, PyData.depthAll, hx]
      unfold dueOf
      split
      · exact h1 "refused" (by decide +kernel) _
      · exact h1 "length" (by decide +kernel) _
    have fin : ∀ (p : Addr) (H2 : Hp), Same H' H2 → H2 p = some (.tup [.str (dueOf ls).1, .int (dueOf ls).2]) → tRet (tAndV (Cl.tF sp_law_number (fun _ => E) (tCons (tOp (rIxT K) (tVar 8) (tC (.int 1))) tNil)) (tOp (rEqD K) (tVar 8) (tVar 7))) { nx := fun _ H' => Q .non H', rt := Q } [some (.ref a), some (.ref b), some (.ref r), v3, v4, v5, some (.ref D), some (.ref t1), some (.ref p)] H2 := fun p H2 s2 hp => by
      refine ⟨_, rfl, p, _, _, _, rfl, rfl, SqT.of hp, rfl, _, rfl, true, rfl, ?_⟩
      refine ⟨_, rfl, _, rfl, .tuple [.str (dueOf ls).1, .int (dueOf ls).2], .tuple [.str (dueOf ls).1, .int (dueOf ls).2], .tup (SqT.of hp) (.cons (.str _) (.cons (.int _) .nil)), .tup (SqT.of (s2 _ _ ht1)) (.cons (.str _) (.cons (.int _) .nil)), shp, shp, ?_⟩
      rw [SeqAt.eqv_refl _ (SeqAt.canLay_of_shaped shp)]
      exact k _
    refine ⟨_, rfl, r, ls, rfl, SqL.of hr1, hls, fun v hv p H2 s2 hp hp2 => ?_, fun hn p H2 s2 hp hp2 => ?_⟩
    · refine fin p H2 s2 ?_
      unfold dueOf
      rw [hv]
      exact hp2
    · refine fin p H2 s2 ?_
      unfold dueOf
      rw [hn]
      exact hp2
theorem ok_law0 (T : Txt K mg) : FnOk PP w K mg base CX0 4 (He.ga K "law") T.fd_law ["_law_script"] (sp_law K) := fn_calm (ok_law T) fun _ _ _ _ h => h

end
def d_law_box : He.DefD := ⟨("_law_box", none), "_law_box", "_law_box", defArgs s_law_box, defBody s_law_box, defScope s_law_box, [], []⟩
def d_law_take : He.DefD := ⟨("_law_take", none), "_law_take", "_law_take", defArgs s_law_take, defBody s_law_take, defScope s_law_take, [], []⟩
def d_integer_root : He.DefD := ⟨("integer_root", none), "integer_root", "integer_root", defArgs s_integer_root, defBody s_integer_root, defScope s_integer_root, [], []⟩
def d_law_number : He.DefD := ⟨("_law_number", none), "_law_number", "_law_number", defArgs s_law_number, defBody s_law_number, defScope s_law_number, [], []⟩
def d_joined_length : He.DefD := ⟨("joined_length", none), "joined_length", "joined_length", defArgs s_joined_length, defBody s_joined_length, defScope s_joined_length, [], []⟩
def d_law_call : He.DefD := ⟨("_law_call", none), "_law_call", "_law_call", defArgs s_law_call, defBody s_law_call, defScope s_law_call, [], []⟩
def d_law_outcome : He.DefD := ⟨("_law_outcome", none), "_law_outcome", "_law_outcome", defArgs s_law_outcome, defBody s_law_outcome, defScope s_law_outcome, [], []⟩
def d_law : He.DefD := ⟨("law", none), "law", "law", defArgs s_law, defBody s_law, defScope s_law, [], []⟩
def fnL : List He.DefD := [d_law_box, d_law_take, d_integer_root, d_law_number, d_joined_length, d_law_call, d_law_outcome, d_law]
def erL : List Hd.ErD := [⟨"BadNumber", "BadNumber.__init__", inClass (top 2) 0⟩]
def faL : List He.Fa := [.glo "BadNumber", .glo "Ladder", .int "OVERLAP_ladders" (1), .glo "_law_box", .glo "_law_call", .glo "_law_number", .glo "_law_outcome", .glo "_law_take", .glo "joined_length", .glo "law", .free "bool", .free "int", .free "isinstance", .free "len", .free "range", .free "sum", .free "super", .exm "BadNumber" "BadNumber" true]
def exL (K : PySem.W.Frag) : Bool := (faL.all fun f => f.ok K) && (Hd.errB PP K "BadNumber" "value" "BadNumber.__init__" && ((PySem.W.readsIn K (He.ga K "Ladder") (.type "type") && decide (PySem.W.specialIn K (.ref (He.ga K "Ladder")) "__getattribute__" = some (some (.builtin "type.__getattribute__")))) && (Hd.cvalB K (He.ga K "Ladder") "OVERLAP" (.int 1) && true)))
abbrev R : PySem.W.OpenRow := PySem.W.OpenLaw.row PySem.Challenge.rw_rungbounds_k03_length_of_a_join
abbrev hk : PySem.W.Hook := Hd.hookP 6 fnL erL exL
def loose : List Str := (["LadderError", "BadNumber", "OVERLAP_ladders", "integer_root", "reach", "joined_length", "Ladder", "_law_box", "_law_take", "_law_number", "_law_call", "_law_outcome"] : List Str)
def ob (s : PySem.W.SharedT) : Hd.AlP := Hd.obsPG 6 fnL erL exL (HandSHeadRun.getT s)
theorem ob_eq (s : PySem.W.SharedT) : ob s = hk.obs s.abs := Hd.obsPG_eq (HandSHeadRun.getT_eq s)
theorem run (w : World) : HandSHeadRun.RunEq R (PySem.W.view R.prog [15]) hk ob 6000 loose w := by
  intro os
  kernel_rfl
theorem facts {K : PySem.W.Frag} {h : Heap} {mg : Str → Option Value} (X : K.In h) (G : h.Ns mainGlobals mg) (c : Hd.SaysP fnL erL exL K) : Nonempty (Txt K mg) := by
  have c0 : ((faL.all fun f => f.ok K) && (Hd.errB PP K "BadNumber" "value" "BadNumber.__init__" && ((PySem.W.readsIn K (He.ga K "Ladder") (.type "type") && decide (PySem.W.specialIn K (.ref (He.ga K "Ladder")) "__getattribute__" = some (some (.builtin "type.__getattribute__")))) && (Hd.cvalB K (He.ga K "Ladder") "OVERLAP" (.int 1) && true)))) = true := c.more
  obtain ⟨c1, c2⟩ := He.ba c0
  have ff : ∀ f ∈ faL, f.ok K = true := List.all_eq_true.mp c1
  obtain ⟨fd0, F0⟩ := c.def_ 0 (d := d_law_box) rfl
  obtain ⟨fd1, F1⟩ := c.def_ 1 (d := d_law_take) rfl
  obtain ⟨fd2, F2⟩ := c.def_ 2 (d := d_integer_root) rfl
  obtain ⟨fd3, F3⟩ := c.def_ 3 (d := d_law_number) rfl
  obtain ⟨fd4, F4⟩ := c.def_ 4 (d := d_joined_length) rfl
  obtain ⟨fd5, F5⟩ := c.def_ 5 (d := d_law_call) rfl
  obtain ⟨fd6, F6⟩ := c.def_ 6 (d := d_law_outcome) rfl
  obtain ⟨fd7, F7⟩ := c.def_ 7 (d := d_law) rfl
  obtain ⟨z0, c2⟩ := He.ba c2
  obtain ⟨z1, c2⟩ := He.ba c2
  obtain ⟨z2, c2⟩ := He.ba c2
  exact ⟨Txt.mk (fd0)
    (F0)
    (fd1)
    (F1)
    (fd2)
    (F2)
    (fd3)
    (F3)
    (fd4)
    (F4)
    (fd5)
    (F5)
    (fd6)
    (F6)
    (fd7)
    (F7)
    (He.glo_ok X G (ff (.glo "BadNumber") (by simp [faL])))
    (He.glo_ok X G (ff (.glo "Ladder") (by simp [faL])))
    (Hd.int_tk (He.int_ok X G (ff (.int "OVERLAP_ladders" (1)) (by simp [faL]))))
    (He.glo_ok X G (ff (.glo "_law_box") (by simp [faL])))
    (He.glo_ok X G (ff (.glo "_law_call") (by simp [faL])))
    (He.glo_ok X G (ff (.glo "_law_number") (by simp [faL])))
    (He.glo_ok X G (ff (.glo "_law_outcome") (by simp [faL])))
    (He.glo_ok X G (ff (.glo "_law_take") (by simp [faL])))
    (He.glo_ok X G (ff (.glo "joined_length") (by simp [faL])))
    (He.glo_ok X G (ff (.glo "law") (by simp [faL])))
    (He.free_ok X G (ff (.free "bool") (by simp [faL])))
    (He.free_ok X G (ff (.free "int") (by simp [faL])))
    (He.free_ok X G (ff (.free "isinstance") (by simp [faL])))
    (He.free_ok X G (ff (.free "len") (by simp [faL])))
    (He.free_ok X G (ff (.free "range") (by simp [faL])))
    (He.free_ok X G (ff (.free "sum") (by simp [faL])))
    (He.free_ok X G (ff (.free "super") (by simp [faL])))
    (He.exm_ok (ff (.exm "BadNumber" "BadNumber" true) (by simp [faL])))
    (Hd.err_mk (x := "value") (msg := "number out of range") (p1 := ⟨6, 17, 6, 21⟩) (p2 := ⟨6, 23, 6, 28⟩) (q1 := ⟨7, 8, 7, 13⟩) (q2 := ⟨7, 8, 7, 15⟩) (q3 := ⟨7, 8, 7, 24⟩) (q4 := ⟨7, 25, 7, 46⟩) (q5 := ⟨7, 8, 7, 47⟩) (q6 := ⟨7, 8, 7, 47⟩) (q7 := ⟨8, 8, 8, 12⟩) (q8 := ⟨8, 8, 8, 18⟩) (q9 := ⟨8, 21, 8, 26⟩) (q10 := ⟨8, 8, 8, 26⟩) z0 (c.err_ 0 rfl) rfl rfl rfl rfl (by decide +kernel) (by decide +kernel) (by decide +kernel) (by decide +kernel) (by decide +kernel) (fun _ _ _ _ _ _ _ _ _ _ _ _ _ _ => rfl))
    (⟨(He.ba z1).1, of_decide_eq_true (He.ba z1).2⟩)
    (Hd.cvalB_ok z2)⟩
end Pf
open PySem PySem.W PySem.Calls PyProof.Rows
set_option maxHeartbeats 0 in
theorem PySem.Challenge.cw_rungbounds_k03_length_of_a_join_holds : PySem.Challenge.rw_rungbounds_k03_length_of_a_join.Holds := by
  w_on; o_law
  refine HandSHeadRun.head_any (r := OpenLaw.row PySem.Challenge.rw_rungbounds_k03_length_of_a_join) (q := view (OpenLaw.row PySem.Challenge.rw_rungbounds_k03_length_of_a_join).prog [15]) (H := Pf.hk) (ob := Pf.ob) (M := 6000) (loose := Pf.loose) (d := HandSHeadRun.topDef (OpenLaw.row PySem.Challenge.rw_rungbounds_k03_length_of_a_join).prog 15) (kwd := []) Pf.ob_eq
    (by kernel_rfl) (fun s => by kernel_rfl) Pf.run (by kernel_rfl) (by kernel_rfl) (by kernel_rfl) (by rfl) (by first | assumption | decide +kernel) (by decide +kernel) ⟨rfl, rfl, rfl, rfl, rfl, by decide +kernel⟩ ?hw ?hc
  case hw => w_witness2
  case hc =>
    refine L2.walk_ofE (l := PySem.Challenge.rw_rungbounds_k03_length_of_a_join) (n := 63) (k := 4) (x := "_law_script") (CX := L2.CX0) rfl (by decide) (by kernel_rfl) ⟨rfl, by decide, by decide⟩ ?F (fun _ _ _ _ z => z)
    intro w mg fa h Y G hmg0
    obtain ⟨K, KX, c⟩ := Y
    have hmg : mg ("law" : PySem.Str) = some (.ref fa) := by
      have e : (HandSHeadRun.topDef (OpenLaw.row PySem.Challenge.rw_rungbounds_k03_length_of_a_join).prog 15).name = ("law" : PySem.Str) := by kernel_rfl
      rw [← e]
      exact hmg0
    obtain ⟨T⟩ := Pf.facts KX G c
    have e := hmg.symm.trans T.m_law
    cases e
    have b := L2.FunD.bindsA (ps := ["_law_script"]) T.F_law fun _ _ _ _ _ _ us hl => match us, hl with | [_], _ => rfl
    exact ⟨K, T.fd_law, Pf.sp_law K, KX, fun s v => b s [v] rfl, fun H a ns hl hO hS => ⟨a, ns, rfl, hS, hl, fun _ => rfl⟩, fun base hb hn => Pf.ok_law0 (w := w) (base := base) T⟩
#print axioms PySem.Challenge.cw_rungbounds_k03_length_of_a_join_holds
