import PyProof.Rows.All
import Wide.All
import OpenK.AllK
import Wide.FinOn
import KE.KExcSuper
import HandS.Base
import HandS.Call
import HandS.Exc
import HandS.ExcInit
import HandS.ExcSuper
import KE.KExcIs
import HandS.ExcValue
import HandS.ExcField
import KE.KOpsOwn
import HandS.ForMost
import HandS.SlotsOwn
import HandS.IsInst
import HandS.Evl
import HandS.Walk
import HandS.SortInts
import HandS.Strs
import HandS.TryMany
import HandS.ExcOwn
import HandS.Words
import HandS.FStr
import PySem.Challenge.RW_whoseday_k00_errors_made_from_their_fiel
import HandS.ForExc
import HandS.ExcIs
set_option Elab.async false
set_option linter.all false
set_option maxRecDepth 100000
set_option maxHeartbeats 4000000
/-! An own exception (over own classes over ValueError) whose __init__ says super().__init__('..') and stores one field. -/
namespace PySem
namespace SupX
open PySem.W PySem.Calls PyProof.Rows PySem.HandSPX
/-- the parameters, the body, the names of such an __init__ -/
def iA (fld : Str) (p1 p2 : Pos) : Arguments := { posonlyargs := [], args := [{ arg := "self", annotation := none, pos := p1 }, { arg := fld, annotation := none, pos := p2 }], vararg := none, kwonlyargs := [], kw_defaults := [], kwarg := none, defaults := [] }
def iE (msg : Str) (q0 q1 q2 q3 q4 q5 : Pos) : Stmt := .Expr (.Call (.Attribute (.Call (.Name "super" q0) [] [] q1) "__init__" q2) [.Constant (.str msg) 0 q3] [] q4) q5
def iF (fld : Str) (q6 q7 q8 q9 : Pos) : Stmt := .Assign [.Attribute (.Name "self" q6) fld q7] (.Name fld q8) q9
def iS (fld : Str) : Scope := { kind := .function, names := [(PySem.Str.ofString "self", .local), (fld, .local), (PySem.Str.ofString "__class__", .free), (PySem.Str.ofString "super", .globalImplicit)], isGenerator := false, isCoroutine := false, more := [] }
/-- the statement st is such a def -/
def IsI (fld : Str) (ar : Arguments) (bd : List Stmt) (sc : Scope) : Prop := ∃ (msg : Str) (p1 p2 q0 q1 q2 q3 q4 q5 q6 q7 q8 q9 : Pos), ar = iA fld p1 p2 ∧ bd = [iE msg q0 q1 q2 q3 q4 q5, iF fld q6 q7 q8 q9] ∧ sc = iS fld ∧ (q2.endLine == q4.line) = true ∧
  ∀ (qual : Str) (doc pm ct : Value) (an : Option Addr) (cda cc : Addr) (x v : Value), bindArgs (ksFn "__init__" qual ar bd sc .none .none doc pm an (.ref cda) ct cc) ⟨[x, v], []⟩ = pure [(("self" : Str), x), (fld, v)]
/-- what the written part says of the class at C, and of its __init__, at fI -/
structure SupTxt (K : Frag) (mg : Str → Option Value) (P : Program) (fld : Str) (C fI : Addr) : Prop where
  cls : ∃ nm q N bs bm sn sub ab col dd k0 k1 k2 k3 k5, K.lookup C = some (excClassObj nm q C N bs bm true sn sub ab col dd k0 k1 k2 k3 k5 "ValueError.__new__") ∧ refsVE bm = true
  sa : findIn K (.ref C) "__setattr__" = some (some (.builtin "object.__setattr__"))
  noN : findIn K (.ref C) fld = some none
  iC : findIn K (.ref C) "__init__" = some (some (.ref fI))
  tC : typeIn K (.ref fI) = some (.type "function")
  kC : keepIn K (.ref C) = true
  exC : subIn K (.ref C) (.type "BaseException") = some true
  veC : subIn K (.ref C) (.type "ValueError") = some true
  tyC : typeIn K (.ref C) = some (.type "type")
  sup : ks_superIn K C C "__init__" = some (some (.builtin "ValueError.__init__"))
  opq : nsIn K cStatics "thirdparty.any" = some none
  own : mroIn K C (.ref C) = some true
  nos : mg "super" = none
  top : (P.main.scope.names.lookup ("super" : Str)).isSome = false
  fn : ∃ (oc : Value) (od : Option Addr) (qual : Str) (ar : Arguments) (bd : List Stmt) (sc : Scope) (doc pm : Value) (an : Option Addr) (cda cc : Addr) (ct : Value) (osl : Array (Option Value)) (ccl : Value) (cdd : Option Addr) (vs : Array Value) (ccs : Array (Option Value)) (file : Str) (tf : Tok) (cl : Value) (cld : Option Addr) (csl : Array (Option Value)),
    K.lookup fI = some ⟨oc, od, .func (ksFn "__init__" qual ar bd sc .none .none doc pm an (.ref cda) ct cc), osl⟩ ∧ codeIn K (.ref cda) qual = true ∧ IsI fld ar bd sc ∧
    K.lookup cda = some ⟨ccl, cdd, .fields vs, ccs⟩ ∧ vs[2]? = some (.str file tf) ∧ ((P.main.file : Str) == file) = true ∧ K.lookup cc = some ⟨cl, cld, .cell (some (.ref C)), csl⟩
  nsf : (fld == ("self" : Str)) = false
  ndb : (fld == ("__debug__" : Str)) = false
  nsp : (("super" : Str) == fld) = false
  ncl : (("__class__" : Str) == fld) = false
theorem one_size (v : Value) : [v].length ≤ sizeLine := by
  rw [sizeLine_eq]
  exact (by decide : 1 ≤ 16777216)
theorem two_size (v u : Value) : [v, u].length ≤ sizeLine := by
  rw [sizeLine_eq]
  exact (by decide : 2 ≤ 16777216)
/-- what __init__ leaves of a fresh exception at x -/
structure InitEnd (h h' : Heap) (x C dx t1 : Addr) (fld : Str) (v : Value) : Prop where
  keep : ∀ b o, b ≠ x → h.get? b = some o → h'.get? b = some o
  obj : h'.get? x = some { cls := .ref C, dict := some dx, data := .fields #[.ref t1, .none, .none, .none, .bool false, .none] }
  dbig : h.objs.size ≤ dx
  dne : dx ≠ x
  ns : h'.Ns1 dx (fun y => if y = fld then some v else none)
/-- a made exception -/
structure OwnMade (h h' : Heap) (e C d : Addr) (fld : Str) (v : Value) : Prop where
  keep : ∀ b o, h.get? b = some o → h'.get? b = some o
  new : h.objs.size ≤ e
  obj : ∃ t1 : Addr, h'.get? e = some { cls := .ref C, dict := some d, data := .fields #[.ref t1, .none, .none, .none, .bool false, .none] }
  dbig : h.objs.size ≤ d
  dne : d ≠ e
  ns : h'.Ns1 d (fun y => if y = fld then some v else none)
section
variable {prog : Program} {w : World} {A : Around} {E : Value → Shared → Prop} {R : Result → Shared → Prop} {s : Shared} {K : Frag} {mg mb : Str → Option Value} {C fI : Addr} {fld : Str}
/-- the built-in __init__ bound to the exception, called -/
theorem call_mw {hp : Heap} {g : Array GenState} {d : Drawn} {t : Nat} {os : OsState} {u x t0 : Addr} {nm q : Str} {N : Addr} {bs bm : List Value} {hdct : Bool} {sn : List Str} {sub : List Value} {ab : Bool} {col : Option Bool} {dd : Option Addr} {k0 k1 k2 k3 k5 : Option Value} {rest : List Value} {Q : Value → Shared → Prop}
    (hC : hp.get? C = some (excClassObj nm q C N bs bm hdct sn sub ab col dd k0 k1 k2 k3 k5 "ValueError.__new__")) (he : hp.get? x = some (excO C t0)) (hu : hp.get? u = some (kxs_mw "ValueError.__init__" x)) (hz : rest.length ≤ sizeLine)
    (hq : ∀ h' t1, (∀ b o, b ≠ x → hp.get? b = some o → h'.get? b = some o) → h'.get? x = some (excO C t1) → Q .none ⟨h', g, d, t, os⟩) :
    wpAny (model prog w) A (call (.ref u) rest) Q E ⟨hp, g, d, t, os⟩ := by
  refine wpAny_call (codeAny_of_tree ?_)
  show wpAny _ A.in1 (callAny (.ref u) ⟨rest, []⟩) _ _ _
  simp only [callAny]
  refine wpAny_bind (wpAny_load hu ?_)
  simp only [kxs_mw, show (Value.type "method-wrapper" == Value.type "method" || Value.type "method-wrapper" == Value.type "builtin_function_or_method" || Value.type "method-wrapper" == Value.type "method-wrapper") = true by decide, if_true]
  refine KFB.if_so (by decide) ?_
  refine wpAny_bind (check_bound_init F.excBase_ValueError.toExcCallFacts hC he rfl ?_)
  refine wpAny_bind (wpAny_pure (wpAny_pure ?_))
  refine ⟨plainId_quiet F.excBase_ValueError.init.plain _, codeAny_builtin F.excBase_ValueError.initEntry ?_⟩
  exact exc_init_tree (cls := .ref C) (t0 := t0) (dv := none) (c2 := .none) (c3 := .none) (b4 := .bool false) he hz fun h' k e' _ => hq h' _ k e'
theorem he_of {msg : Str} {q0 q1 q2 q3 q4 : Pos} (hln : (q2.endLine == q4.line) = true) (env : Env) : ∃ pl : Sem Bool, eval (.Call (.Attribute (.Call (.Name "super" q0) [] [] q1) "__init__" q2) [.Constant (.str msg) 0 q3] [] q4) env = (do
      let ov ← attributeBase (.Call (.Name "super" q0) [] [] q1) "__init__" env (eval (.Call (.Name "super" q0) [] [] q1) env)
      standAt q2.atName
      let (f, first) ← holding [ov] (getMethod ov "__init__" pl)
      callWith q4 f first (backTo q4 (starEach [.Constant (.str msg) 0 q3] env)) []) := by
  refine ⟨(do return (← importBound (.Call (.Name "super" q0) [] [] q1) env).getD true), ?_⟩
  rw [arm_eval_Call]
  have hpos : methodCallPos true (.Call (.Name "super" q0) [] [] q1) env q2 q4 = pure q4 := by unfold methodCallPos; simp [hln]
  have hform : methodCallForm ([Expr.Constant (.str msg) 0 q3].length + ([] : List Keyword).length) (backTo q4 (starEach [.Constant (.str msg) 0 q3] env)) (backToKw q4 (keywordEach [] env)) = true := rfl
  unfold methodCall
  rw [hform, hpos]
  simp only [pure_bind]
  rfl
theorem sup_init (T : SupTxt K mg prog fld C fI) {x t0 : Addr} {v : Value} (X : K.In s.heap) (hlim : s.heap.NoLimit) (hG : s.heap.Ns mainGlobals mg) (hB : s.heap.Ns builtinsNs mb) (hb : mb "super" = some (.type "super")) (hx : s.heap.get? x = some (excO C t0)) (hnx : K.lookup x = none) (hroom : A.depth < recursionLimit)
    (hq : ∀ h' tk dx t1, InitEnd s.heap h' x C dx t1 fld v → R (.ok (.ret .none)) { s with heap := h', toks := tk }) :
    codeAny (model prog w) A (.call (.ref fI) ⟨[.ref x, v], []⟩) R s := by
  obtain ⟨oc, od, qual, ar, bd, sc, doc, pm, an, cda, cc, ct, osl, ccl, cdd, vs, ccs, file, tf, cl, cld, csl, ho, hcd, hI, hcode, hvs, hfile, hcell⟩ := T.fn
  obtain ⟨msg, p1, p2, q0, q1, q2, q3, q4, q5, q6, q7, q8, q9, rfl, rfl, rfl, hln, hbnd⟩ := hI
  obtain ⟨nm, q, N, bs, bm, sn, sub, ab, col, dd, k0, k1, k2, k3, k5, hC, hbm⟩ := T.cls
  have nsf := T.nsf
  have ndb := T.ndb
  have nsf' : ¬ fld = ("self" : Str) := fun z => by rw [z] at nsf; exact absurd nsf (by decide)
  have nsf'' : (("self" : Str) == fld) = false := by rw [beq_eq_false_iff_ne]; exact fun z => nsf' z.symm
  have lself : (iS fld).names.lookup ("self" : Str) = some .local := by simp [iS, List.lookup]
  have lfld : (iS fld).names.lookup fld = some .local := by
    show List.lookup fld [(("self" : Str), NameKind.local), (fld, .local), _, _] = _
    simp [List.lookup, nsf]
  have lsup : (iS fld).names.lookup ("super" : Str) = some .globalImplicit := by
    show List.lookup ("super" : Str) [(("self" : Str), NameKind.local), (fld, .local), (("__class__" : Str), .free), (("super" : Str), .globalImplicit)] = _
    simp only [List.lookup, T.nsp]
    decide
  have lcls : (iS fld).names.lookup ("__class__" : Str) = some .free := by
    show List.lookup ("__class__" : Str) [(("self" : Str), NameKind.local), (fld, .local), (("__class__" : Str), .free), (("super" : Str), .globalImplicit)] = _
    simp only [List.lookup, T.ncl]
    decide
  have hcl : clsIn K C = some { name := nm, bases := bs, mro := .ref C :: bm, ns := N, qualname := q, hasDict := true, slotNames := sn, subclasses := sub, abstract := ab, collection := col, hasDel := false } := by unfold clsIn; rw [hC] <;> rfl
  refine ks_codeAny_call_defAt (fd := ksFn "__init__" qual (iA fld p1 p2) [iE msg q0 q1 q2 q3 q4 q5, iF fld q6 q7 q8 q9] (iS fld) .none .none doc pm an (.ref cda) ct cc) (body := [iE msg q0 q1 q2 q3 q4 q5, iF fld q6 q7 q8 q9]) (binds := [("self", .ref x), (fld, v)]) hroom (X _ _ ho) rfl hlim (codeRec_of X hcd) rfl
    (BindsTo.of_eq ?bb) ?hc ?hl (fun h₁ hns hk₁ => ?_) rfl rfl rfl
  case bb => exact hbnd _ _ _ _ _ _ _ _ _
  case hc =>
    intro y hy
    have hy : y ∈ [(("self" : Str), NameKind.local), (fld, .local), ("__class__", .free), ("super", .globalImplicit)] := hy
    simp only [List.mem_cons, List.not_mem_nil, or_false] at hy
    rcases hy with rfl | rfl | rfl | rfl <;> exact fun z => nomatch z
  case hl =>
    intro y hy
    simp only [List.mem_cons, List.not_mem_nil, or_false] at hy
    rcases hy with rfl | rfl
    · exact lself
    · exact lfld
  have X₁ : K.In h₁ := X.keeps hk₁
  have hx₁ := hk₁ _ _ hx
  have xL : x ≠ s.heap.objs.size := Nat.ne_of_lt (Heap.lt_size hx)
  have eself : ([("self", Value.ref x), (fld, v)] : List (Str × Value)).reverse.lookup ("self" : Str) = some (.ref x) := by
    show List.lookup ("self" : Str) [(fld, v), (("self" : Str), Value.ref x)] = _
    simp [List.lookup, nsf'']
  have efld : ([("self", Value.ref x), (fld, v)] : List (Str × Value)).reverse.lookup fld = some v := by
    show List.lookup fld [(fld, v), (("self" : Str), Value.ref x)] = _
    simp [List.lookup]
  show _root_.PySem.wpAt (model prog w) _ (.func _ (ksEnv qual (iS fld) s.heap.objs.size fI (.ref cda) cc)) (execs _ (ksEnv qual (iS fld) s.heap.objs.size fI (.ref cda) cc)) _ _ _
  obtain ⟨pl, hpl⟩ := he_of (msg := msg) (q0 := q0) (q1 := q1) (q3 := q3) hln (ksEnv qual (iS fld) s.heap.objs.size fI (.ref cda) cc)
  refine ks_wpAt_execs_cons (ks_wpAt_Expr_any (ks_wpAt_MethodCall ?_ hpl))
  have I₁ : InstAt h₁ x (excO C t0) C none := ⟨hx₁, rfl, rfl, trivial⟩
  refine ks_wpAt_super_base (env := ksEnv qual (iS fld) s.heap.objs.size fI (.ref cda) cc) (ar := { arg := "self", annotation := none, pos := p1 }) lsup lcls (by decide) rfl (X₁ _ _ ho) rfl rfl rfl (X₁ _ _ hcode) rfl hvs hfile T.top ?_
  refine ks_loadName_global rfl lsup (loadGlobal_builtin (env := ksEnv qual (iS fld) s.heap.objs.size fI (.ref cda) cc) (mg := mg) (mb := mb) (hG.keeps hk₁) T.nos (hB.keeps hk₁) hb ⟨rfl, ?_⟩)
  refine wpAny_loadName_free rfl lcls rfl ⟨_, X₁ _ _ hcell, rfl⟩ ?_
  refine wpAny_loadName_local rfl lself hns eself ?_
  refine ks_wpAny_isType_cls (X₁ _ _ hC) rfl ⟨rfl, ?_⟩
  refine ks_wpAny_call_super (X₁ _ _ hC) rfl hx₁ rfl (fun c z => nomatch z) (looks_mroIn X₁ T.own) (fun h₂ e₂ k₂ => ?_)
  have X₂ : K.In h₂ := X₁.keeps k₂
  have hx₂ := k₂ _ _ hx₁
  have hsup := T.sup
  unfold ks_superIn at hsup
  rw [hcl] at hsup
  have I₂ : InstAt h₂ x (excO C t0) C none := ⟨hx₂, rfl, rfl, trivial⟩
  refine kxs_getMethod kxs_ValueError e₂ (looks_opaque X₂ T.opq) (l₀ := .ref C :: bm) (fun A Q E s k q => wpAny_bind ((looks_clsIn X₂ hcl) A _ E s k (wpAny_pure q))) rfl X₂ hsup (I₂.type.andThen (looks_subIn X₂ T.veC)) (ks_ne X₂ I₂ hcl) (by decide) ?_
  have k₃ : ∀ b o, h₂.get? b = some o → (h₂.push (kxs_mw "ValueError.__init__" x)).get? b = some o := fun b o e => Heap.get?_push_of_some _ e
  refine kxs_callWith (i := "ValueError.__init__") (x := x) rfl ?_
  refine evalArgs_plain (spliced_cons (Constant_str (k := 0) (pos := q3) (spliced_nil ⟨Heap.get?_push_size _ rfl, ?_⟩)))
  have X₃ := X₂.keeps k₃
  refine call_mw (X₃ _ _ hC) (k₃ _ _ hx₂) (Heap.get?_push_size _ rfl) (one_size _) fun h₄ t1 k₄ hx₄ => ?_
  have kk : ∀ b o, b ≠ x → h₁.get? b = some o → h₄.get? b = some o := fun b o hb e => k₄ b o hb (k₃ _ _ (k₂ _ _ e))
  have hns₄ : h₄.Ns s.heap.objs.size (fun y => ([("self", Value.ref x), (fld, v)] : List (Str × Value)).reverse.lookup y) := by
    obtain ⟨oL, es, ep, hL, r⟩ := hns
    exact ⟨oL, es, ep, kk _ _ (Ne.symm xL) hL, r⟩
  have X₄ : K.In h₄ := fun a o e => kk a o (fun z => by rw [z, hnx] at e; cases e) (X₁ a o e)
  refine ks_wpAt_execs_cons (wpAt_of_wpAny (plainObj_wpAny_Assign_Attribute ?_ ?_))
  · refine PySem.ESX.ldL hns₄ efld (PySem.ESX.ldL hns₄ eself ?_ rfl lself) rfl lfld ndb
    refine set_plain X₄ (ox := excO C t1) (od := none) ⟨hx₄, rfl, rfl, trivial⟩ T.sa ?_
    refine exc_osa X₄ hx₄ hcl (show refsVE (.ref C :: bm) = true from hbm) rfl T.noN (fun h₅ tk₅ dx k₅ dn dne hx₅ hn₅ => ?_)
    have z : s.heap.objs.size < h₁.objs.size := hns.lt
    have z4 : s.heap.objs.size < h₄.objs.size := hns₄.lt
    exact wpAt_of_wpAny (wpAny_execs_nil (hq h₅ tk₅ dx t1 ⟨fun b o hb e => k₅ b o hb (kk b o hb (hk₁ b o e)), hx₅, Nat.le_of_lt (Nat.lt_of_lt_of_le z4 dn), dne, hn₅⟩))
  · rfl
/-- C(v) -/
theorem sup_made (T : SupTxt K mg prog fld C fI) {v : Value} (X : K.In s.heap) (hlim : s.heap.NoLimit) (hG : s.heap.Ns mainGlobals mg) (hB : s.heap.Ns builtinsNs mb) (hb : mb "super" = some (.type "super")) (hroom : A.depth + 1 < recursionLimit)
    (hq : ∀ h' tk e d, OwnMade s.heap h' e C d fld v → R (.ok (.ret (.ref e))) { s with heap := h', toks := tk }) :
    codeAny (model prog w) A (.call (.ref C) ⟨[v], []⟩) R s := by
  obtain ⟨nm, q, N, bs, bm, sn, sub, ab, col, dd, k0, k1, k2, k3, k5, hC, hbm⟩ := T.cls
  obtain ⟨hp, g, dr, tk, os⟩ := s
  have k : ∀ b o, hp.get? b = some o → ((hp.push (kdv_tup [v])).push (excO C hp.objs.size)).get? b = some o := fun b o e => Heap.get?_push_of_some _ (Heap.get?_push_of_some _ e)
  have hget : ((hp.push (kdv_tup [v])).push (excO C hp.objs.size)).get? (hp.objs.size + 1) = some (excO C hp.objs.size) := by heap_get
  have hnx : K.lookup (hp.objs.size + 1) = none := by
    cases e : K.lookup (hp.objs.size + 1) with
    | none => rfl
    | some o =>
      have z : hp.get? (hp.objs.size + 1) = some o := X _ _ e
      exact absurd (Nat.lt_of_succ_lt (Heap.lt_size z)) (Nat.lt_irrefl _)
  refine call_own F.excBase_ValueError (fun X => refsVE_contains X bm hbm) (X _ _ hC) (looks_findIn X T.iC) (fun self => bind_fn X self T.tC) (one_size v) ?_
  refine sup_init (mb := mb) (s := ⟨(hp.push (kdv_tup [v])).push (excO C hp.objs.size), g, dr, tk, os⟩) T (X.keeps k) (hlim.keeps k) (hG.keeps k) (hB.keeps k) hb hget hnx ?_ fun h' tk' dx t1 ⟨k', hx, dn, dne, hns⟩ => ?_
  · show A.depth + 1 < recursionLimit
    exact hroom
  · have old : ∀ b o, hp.get? b = some o → h'.get? b = some o := fun b o e => k' b o (Nat.ne_of_lt (Nat.lt_succ_of_lt (Heap.lt_size e))) (k b o e)
    have z : hp.objs.size + 1 + 1 ≤ dx := by
      first
        | (simpa only [Heap.size_push] using dn)
        | exact dn
        | (have q := dn; rw [Heap.size_push, Heap.size_push] at q; exact q)
    exact ⟨rfl, hq h' tk' (hp.objs.size + 1) dx ⟨old, Nat.le_succ _, ⟨t1, hx⟩, Nat.le_trans (Nat.le_trans (Nat.le_succ _) (Nat.le_succ _)) z, dne, hns⟩⟩
end
end SupX
end PySem

set_option Elab.async false
set_option linter.all false
set_option maxRecDepth 100000
set_option maxHeartbeats 4000000
namespace L2
open PySem PySem.Spec PyProof.Rows
theorem relO_one {v : V} {v' : Value} (r : RelV v v') (fld f : Str) : RelO (List.lookup f [(fld, v)]) (if f = fld then some v' else none) := by
  by_cases hw : f = fld
  · subst hw
    rw [if_pos rfl]
    have q : List.lookup f [(f, v)] = some v := by simp [List.lookup]
    rw [q]
    exact r
  · rw [if_neg hw]
    have qw : (f == fld) = false := by simpa using hw
    have q2 : List.lookup f [(fld, v)] = none := by simp [List.lookup, qw]
    rw [q2]
    trivial
section
variable {X : Cx} {C fI : Addr} {fld : Str}
/-- C(e) -/
def tMkSup (C : Addr) (fld : Str) (ta : TA) : St → Hp → XK → Prop := fun σ H Q => ta σ H fun vs H1 => ∃ v, vs = [v] ∧ ∀ d, H1 d = none → Q (.ref C) (some d) (upd H1 d (.xd [(fld, v)]))
theorem pmk_sup {x : Str} {a : Expr} {ta : TA} {p pos : Pos} {k : Nat} (T : PySem.SupX.SupTxt X.K X.mg X.prog fld C fI) (gC : X.mg x = some (.ref C)) (hr : Room k X.A) (ha : PA X [a] ta) (hg : Gl X x := by rfl) (hdb : (x == ("__debug__" : Str)) = false := by decide)
    (he : starEach (a :: []) X.env = (false, eval a X.env) :: starEach [] X.env := by rfl) (hpl : (backTo pos (starEach [] X.env)).any (·.1) = false := by rfl) :
    PMk X (.Call (.Name x p) [a] [] pos) (tMkSup C fld ta) := by
  intro pins s σ H Q I h
  refine wpAny_Call_Name_kw (ld_glob I hg gC ?_ hdb)
  refine PySem.W.callWith_K (h₀ := X.base) I.ok.mod.kin T.kC (thn (ha.run pos pins s σ H _ I h) fun us s1 hh => ?_) he hpl
  obtain ⟨vs, H1, I1, r1, v, ev, q1⟩ := hh
  subst ev
  refine ⟨I1.kIn, ?_⟩
  cases r1 with
  | cons rv rn =>
    rename_i v' us'
    cases rn
    show wpAny _ _ (call (.ref C) [v']) _ _ _
    have hlim := I1.nolimit
    obtain ⟨mb, hB, hb⟩ := I1.mod.blt
    have hsb : mb "super" = some (.type "super") := (hb "super" (by decide)).trans PyProof.Rows.Boot.«super»
    obtain ⟨hp, g, dr, tk, os⟩ := s1
    refine wpAny_call (PySem.SupX.sup_made (mb := mb) T I1.kIn hlim (I1.mod.glob.keeps I1.bk) (hB.keeps I1.bk) hsb (by have := hr.dp; omega) fun h' tk' e d M => ?_)
    show MkP X pins σ Q (.ref e) ⟨h', g, dr, tk', os⟩
    obtain ⟨t1, hoe⟩ := M.obj
    have hns := M.ns
    obtain ⟨G', g1, g2⟩ := restrict h' fun b => decide (b ≠ e)
    have gk : ∀ b, b ≠ e → G'.get? b = h'.get? b := fun b hb => g1 b (decide_eq_true hb)
    have ge : G'.get? e = none := g2 e (by simp)
    have old : ∀ b o, hp.get? b = some o → G'.get? b = some o := fun b o q => (gk b (Nat.ne_of_lt (Nat.lt_of_lt_of_le (Heap.lt_size q) M.new))).trans (M.keep b o q)
    have ob : ObjOk X.prog X.w (upd H1 d (.xd [(fld, v)])) G' d (.xd [(fld, v)]) :=
      ⟨_, hns.at (fun o q => (gk d M.dne).trans q), fun f => relO_one rv fld f⟩
    have J : Inv X pins σ (upd H1 d (.xd [(fld, v)])) ⟨G', g, dr, tk', os⟩ := I1.laid (t' := tk') old M.dbig ob
    refine ⟨e, _, _, ⟨G', g, dr, tk', os⟩, _, .ref C, some d, rfl, J, fun b o q => ?_, ge, hoe, ⟨rfl, rfl⟩, rfl, rfl, ?_, rfl, I1.bare, raises_own T.exC T.tyC, q1 d (I1.hok.fresh M.dbig)⟩
    · by_cases hb : b = e
      · have q' : G'.get? b = some o := q
        rw [hb, ge] at q'; cases q'
      · exact (gk b hb).symm.trans q
    · rw [upd_ne (Ne.symm M.dne)]
      exact I1.hok.fresh M.new
/-- raise C(e) -/
def tRaiseSup (C : Addr) (fld : Str) (W : WX) (ta : TA) : TS := fun _ σ H => tMkSup C fld ta σ H fun cls d H' => W cls d σ H'
theorem ps_raiseSup {x : Str} {a : Expr} {ta : TA} {W : WX} {p pos pos2 : Pos} {k : Nat} (hc : X.calm = true) (T : PySem.SupX.SupTxt X.K X.mg X.prog fld C fI) (gC : X.mg x = some (.ref C)) (hr : Room k X.A) (tk : Takes X W) (ha : PA X [a] ta) (hg : Gl X x := by rfl) (hdb : (x == ("__debug__" : Str)) = false := by decide)
    (he : starEach (a :: []) X.env = (false, eval a X.env) :: starEach [] X.env := by rfl) (hpl : (backTo pos (starEach [] X.env)).any (·.1) = false := by rfl) :
    PS X (.Raise (some (.Call (.Name x p) [a] [] pos)) none pos2) (tRaiseSup C fld W ta) := ps_raise hc tk (pmk_sup T gC hr ha hg hdb he hpl)
/-- C(e) as a value -/
def tValSup (C : Addr) (fld : Str) (ta : TA) : TE := fun σ H Q => ta σ H fun vs H1 => ∃ v, vs = [v] ∧ ∀ e d, H1 e = none → H1 d = none → d ≠ e → Q (.ref e) (upd (upd H1 d (exd d [(fld, v)])) e (exo e C (some d)))
theorem pe_valSup {x : Str} {a : Expr} {ta : TA} {p pos : Pos} {k : Nat} (T : PySem.SupX.SupTxt X.K X.mg X.prog fld C fI) (gC : X.mg x = some (.ref C)) (hr : Room k X.A) (ha : PA X [a] ta) (hg : Gl X x := by rfl) (hdb : (x == ("__debug__" : Str)) = false := by decide)
    (he : starEach (a :: []) X.env = (false, eval a X.env) :: starEach [] X.env := by rfl) (hpl : (backTo pos (starEach [] X.env)).any (·.1) = false := by rfl) :
    PE X (.Call (.Name x p) [a] [] pos) (tValSup C fld ta) := by
  refine ⟨fun pins s σ H Q I h => ?_⟩
  refine wpAny_Call_Name_kw (ld_glob I hg gC ?_ hdb)
  refine PySem.W.callWith_K (h₀ := X.base) I.ok.mod.kin T.kC (thn (ha.run pos pins s σ H _ I h) fun us s1 hh => ?_) he hpl
  obtain ⟨vs, H1, I1, r1, v, ev, q1⟩ := hh
  subst ev
  refine ⟨I1.kIn, ?_⟩
  cases r1 with
  | cons rv rn =>
    rename_i v' us'
    cases rn
    show wpAny _ _ (call (.ref C) [v']) _ _ _
    have hlim := I1.nolimit
    obtain ⟨mb, hB, hb⟩ := I1.mod.blt
    have hsb : mb "super" = some (.type "super") := (hb "super" (by decide)).trans PyProof.Rows.Boot.«super»
    obtain ⟨hp, g, dr, tk, os⟩ := s1
    refine wpAny_call (PySem.SupX.sup_made (mb := mb) T I1.kIn hlim (I1.mod.glob.keeps I1.bk) (hB.keeps I1.bk) hsb (by have := hr.dp; omega) fun h' tk' e d M => ?_)
    obtain ⟨t1, hoe⟩ := M.obj
    have hns := M.ns
    obtain ⟨G', g1, g2⟩ := restrict h' fun b => decide (b ≠ e)
    have gk : ∀ b, b ≠ e → G'.get? b = h'.get? b := fun b hb => g1 b (decide_eq_true hb)
    have ge : G'.get? e = none := g2 e (by simp)
    have gh : ∀ b o, G'.get? b = some o → h'.get? b = some o := fun b o q => by
      by_cases hb : b = e
      · rw [hb, ge] at q; cases q
      · rw [← gk b hb]; exact q
    have old : ∀ b o, hp.get? b = some o → G'.get? b = some o := fun b o q => (gk b (Nat.ne_of_lt (Nat.lt_of_lt_of_le (Heap.lt_size q) M.new))).trans (M.keep b o q)
    have ob : ObjOk X.prog X.w (upd H1 d (exd d [(fld, v)])) G' d (exd d [(fld, v)]) := exd_ok (hns.at (fun o q => (gk d M.dne).trans q)) (fun f => relO_one rv fld f)
    have J : Inv X pins σ (upd H1 d (exd d [(fld, v)])) ⟨G', g, dr, tk', os⟩ := I1.laid (t' := tk') old M.dbig ob
    have ne : H1 e = none := I1.hok.fresh M.new
    have J2 : Inv X pins σ (upd (upd H1 d (exd d [(fld, v)])) e (exo e C (some d))) ⟨h', g, dr, tk', os⟩ :=
      J.laidN (t' := tk') (h' := h') gh ge (by rw [upd_ne (Ne.symm M.dne)]; exact ne) (exo_ok hoe)
    exact ⟨.ref e, _, J2, rfl, q1 e d ne (I1.hok.fresh M.dbig) M.dne⟩
/-- e.f, e a tracked exception -/
def tXof (K : PySem.W.Frag) (f : Str) (te : TE) : TE := fun σ H Q => te σ H fun x H1 => ∃ (a C d : Addr) (fs : List (Str × V)) (v : V), x = .ref a ∧ XfC K C ∧ PySem.W.findIn K (.ref C) f = some none ∧ H1 a = some (exo a C (some d)) ∧ H1 d = some (exd d fs) ∧ fs.lookup f = some v ∧ Q v H1
theorem pe_xof {e : Expr} {te : TE} {pos : Pos} {n : Str} (he : PE X e te) (hb : attributeBase e n X.env (eval e X.env) = eval e X.env := by rfl) : PE X (.Attribute e n pos) (tXof X.K n te) := by
  refine ⟨fun pins s σ H Q I h => ?_⟩
  refine attr_of hb (thn (he.run pins s σ H _ I h) fun u s1 hh => ?_)
  obtain ⟨x, H1, I1, rx, a, C, d, fs, v, ex, T, hno, ea, ed, l, q⟩ := hh
  subst ex
  obtain rfl : u = Value.ref a := rx
  obtain ⟨t1, ho⟩ := exo_at I1.hok ea
  obtain ⟨mA, hns, hr⟩ := exd_at I1.hok ed
  obtain ⟨od, ho2, hl⟩ := lookIn_ns hns
  obtain ⟨u, hu, ru⟩ := RelO.some_of (v := v) (o := mA n) (by rw [← l]; exact hr n)
  have J : PySem.W.InstAt s1.heap a _ C (some od) := ⟨ho, rfl, rfl, ho2⟩
  exact HandSPX.exc_get I1.kIn J T.ga T.gg T.exC (PySem.W.findObj_own T.hdC hno rfl (by rw [hl, hu])) (handed_of ru) ⟨v, H1, I1.tok _, ru, q⟩
/-- isinstance(e, c), e a tracked exception -/
structure ExiC (K : PySem.W.Frag) (C : Addr) : Prop where
  hcl : (PySem.W.clsIn K C).isSome = true
  ga : PySem.W.findIn K (.ref C) "__getattribute__" = some (some (.builtin "BaseException.__getattribute__"))
  gg : PySem.W.findIn K (.ref C) "__getattr__" = some none
  exC : PySem.W.subIn K (.ref C) (.type "BaseException") = some true
  ha : PySem.W.findIn K (.ref C) "__class__" = some (some (.builtin "object.__class__"))
  hn : PySem.W.specialIn K (.builtin "object.__class__") "__get__" = some (some (.builtin "getset_descriptor.__get__"))
  ht : PySem.W.takesIn K (.builtin "object.__class__") = some true
  hm : PySem.W.mroIn K C (.type "object") = some true
def rIsX (K : PySem.W.Frag) : List V → Hp → VK → Prop := fun xs H Q => ∃ (a C d : Addr) (fs : List (Str × V)) (c : V) (u : Value) (b : Bool), xs = [.ref a, c] ∧ ExiC K C ∧ H a = some (exo a C (some d)) ∧ H d = some (exd d fs) ∧ (∀ w, RelV c w → w = u) ∧ PySem.W.kitOne K (.ref C) u = some b ∧ Q (.bl b) H
theorem call_isX : CallR X (.builtin "isinstance") (rIsX X.K) := by
  intro pins s σ H xs us Q I r h
  obtain ⟨a, C, d, fs, c, u, b, rfl, T, ea, ed, k, e, q⟩ := h
  obtain ⟨u1, u2, rfl, r1, r2⟩ := vals2 r
  have e2 := k _ r2
  subst e2
  cases (show u1 = Value.ref a from r1)
  obtain ⟨t1, ho⟩ := exo_at I.hok ea
  obtain ⟨mA, hns, hr⟩ := exd_at I.hok ed
  obtain ⟨od, ho2, hl⟩ := lookIn_ns hns
  have J : PySem.W.InstAt s.heap a _ C (some od) := ⟨ho, rfl, rfl, ho2⟩
  exact PySem.W.kia_one (PySem.W.kitx_exc T.hcl T.ga T.gg T.exC T.ha T.hn T.ht T.hm) I.kIn J e (fun z => nomatch z) fun tk => ⟨.bl b, H, I.tok tk, rfl, q⟩
end
end L2

set_option Elab.async false
set_option linter.all false
set_option maxRecDepth 100000
set_option maxHeartbeats 4000000
/-! Operators that an own class defines: +, - with an int, + with one of its class, in, ==, != ; an attribute as a target. -/
namespace L2
open PySem PySem.Spec PyProof.Rows
section
variable {X : Cx} {CX : CXT} {k : Nat} {f C : Addr} {fd : FuncData} {ps : List Str} {sp : Sp} {E : XK}
theorem cmpback_ {pins : List (Addr × Obj)} {σ : St} {Q : VK} {u : Value} {s' : Shared} (z : EP X pins σ Q u s') : PySem.W.CmpBack (EP X pins σ Q) u s' := by
  obtain ⟨v, H', I', r, q⟩ := z
  cases v with
  | non => cases (show u = Value.none from r); exact ⟨.non, H', I', rfl, q⟩
  | bl b => cases (show u = Value.bool b from r); exact ⟨.bl b, H', I', rfl, q⟩
  | int i => obtain ⟨t, e⟩ := (show ∃ t, u = Value.int i t from r); cases e; exact ⟨.int i, H', I', ⟨t, rfl⟩, q⟩
  | str x => obtain ⟨t, e⟩ := (show ∃ t, u = Value.str x t from r); cases e; exact ⟨.str x, H', I', ⟨t, rfl⟩, q⟩
  | byt b => obtain ⟨t, e⟩ := (show ∃ t, u = Value.bytes b t from r); cases e; exact ⟨.byt b, H', I', ⟨t, rfl⟩, q⟩
  | flt b => obtain ⟨t, e⟩ := (show ∃ t, u = Value.float b t from r); cases e; exact ⟨.flt b, H', I', ⟨t, rfl⟩, q⟩
  | ref a => cases (show u = Value.ref a from r); exact ⟨.ref a, H', I', rfl, q⟩
  | ty n => cases (show u = Value.type n from r); exact ⟨.ty n, H', I', rfl, q⟩
theorem inst_of {pins : List (Addr × Obj)} {σ : St} {H : Hp} {s : Shared} {a dx : Addr} {fs : List (Str × V)} (I : Inv X pins σ H s) (ea : H a = some (.ins C dx fs)) : ∃ ox od, PySem.W.InstAt s.heap a ox C (some od) := by
  obtain ⟨mA, O, _⟩ := ins_get I.hok ea
  obtain ⟨od, J, _⟩ := O.look
  exact ⟨_, od, J⟩
/-- x op n: x an instance of the class at C, n an int -/
def rBinI (C : Addr) (sp : Sp) (E : XK) : R2 := fun x y H Q => ∃ a dx fs i, x = .ref a ∧ y = .int i ∧ H a = some (.ins C dx fs) ∧ sp [x, y] H Q E
structure BinI (K : PySem.W.Frag) (C f : Addr) (op : Operator) : Prop where
  hc : PySem.W.selfFirst K C = true
  hs : PySem.W.findIn K (.ref C) (PySem.dunder op.info.2) = some (some (.ref f))
  hf : PySem.W.isFn K (.ref f) = true
  hr : PySem.W.findIn K (.ref C) (dunderR op.info.2) = some none
  h1 : ∃ fo, PySem.W.findIn K (.type "int") (PySem.dunder op.info.2) = some fo
  h2 : ∃ ro, PySem.W.findIn K (.type "int") (dunderR op.info.2) = some ro
  hu : PySem.W.subIn K (.type "int") (.ref C) = some false
theorem op_binI {op : Operator} (B : BinI X.K C f op) (F : FnOk X.prog X.w X.K X.mg X.base CX k f fd ps sp) (hr : Room k X.A) (hb : Binds X.K fd ps []) (hx : Passes CX X E) : OpR X (binaryOp op) (rBinI C sp E) := by
  intro pins s σ H x y v u Q I rx ry h
  obtain ⟨a, dx, fs, i, rfl, rfl, ea, q⟩ := h
  cases (show v = Value.ref a from rx)
  obtain ⟨t, e⟩ := (show ∃ t, u = Value.int i t from ry)
  cases e
  obtain ⟨ox, od, J⟩ := inst_of I ea
  obtain ⟨m, hF⟩ := I.fr
  obtain ⟨fo, h1⟩ := B.h1
  obtain ⟨ro, h2⟩ := B.h2
  refine PySem.W.ksp_binT (T := "int") hF I.ok.mod.kin J rfl B.hc B.hs B.hf B.hr (.inl rfl) h1 h2 B.hu ?_
  exact thn (run_fn (us := [.ref a, .int i t]) (vs := [.ref a, .int i]) (dvs := []) (ds := []) F hr hb .nil hx I (.cons rfl (.cons ⟨t, rfl⟩ .nil)) q) fun w s' z => cmpback_ z
/-- x op y, both instances of the class at C -/
def rBinO (C : Addr) (sp : Sp) (E : XK) : R2 := fun x y H Q => ∃ a dx fs b dy gs, x = .ref a ∧ y = .ref b ∧ H a = some (.ins C dx fs) ∧ H b = some (.ins C dy gs) ∧ sp [x, y] H Q E
theorem op_binO {op : Operator} (hc : PySem.W.selfFirst X.K C = true) (hs : PySem.W.findIn X.K (.ref C) (PySem.dunder op.info.2) = some (some (.ref f))) (hf : PySem.W.isFn X.K (.ref f) = true)
    (F : FnOk X.prog X.w X.K X.mg X.base CX k f fd ps sp) (hr : Room k X.A) (hb : Binds X.K fd ps []) (hx : Passes CX X E) : OpR X (binaryOp op) (rBinO C sp E) := by
  intro pins s σ H x y v u Q I rx ry h
  obtain ⟨a, dx, fs, b, dy, gs, rfl, rfl, ea, eb, q⟩ := h
  cases (show v = Value.ref a from rx)
  cases (show u = Value.ref b from ry)
  obtain ⟨ox, od, J⟩ := inst_of I ea
  obtain ⟨ox', od', J'⟩ := inst_of I eb
  obtain ⟨m, hF⟩ := I.fr
  refine PySem.W.binop_K hF I.ok.mod.kin J J'.type hc hs hf ?_
  exact thn (run_fn (us := [.ref a, .ref b]) (vs := [.ref a, .ref b]) (dvs := []) (ds := []) F hr hb .nil hx I (.cons rfl (.cons rfl .nil)) q) fun w s' z => cmpback_ z
/-- v in x, x an instance of the class at C: __contains__ gives a bool -/
def rInO (C : Addr) (sp : Sp) (E : XK) : R2 := fun x y H Q => ∃ a dx fs, y = .ref a ∧ H a = some (.ins C dx fs) ∧ sp [y, x] H (fun z H' => ∃ b, z = .bl b ∧ Q (.bl b) H') E
theorem op_inO (hs : PySem.W.findIn X.K (.ref C) "__contains__" = some (some (.ref f))) (hf : PySem.W.isFn X.K (.ref f) = true)
    (F : FnOk X.prog X.w X.K X.mg X.base CX k f fd ps sp) (hr : Room k X.A) (hb : Binds X.K fd ps []) (hx : Passes CX X E) : OpR X (compareOp .In) (rInO C sp E) := by
  intro pins s σ H x y v u Q I rx ry h
  obtain ⟨a, dx, fs, rfl, ea, q⟩ := h
  cases (show u = Value.ref a from ry)
  obtain ⟨ox, od, J⟩ := inst_of I ea
  obtain ⟨m, hF⟩ := I.fr
  refine PySem.W.in_K hF I.ok.mod.kin J hs hf ?_
  refine thn (run_fn (us := [.ref a, v]) (vs := [.ref a, x]) (dvs := []) (ds := []) F hr hb .nil hx I (.cons rfl (.cons rx .nil)) q) fun w s' z => ?_
  obtain ⟨z', H', I', rz, b, eb, qz⟩ := z
  subst eb
  cases (show w = Value.bool b from rz)
  exact wpAny_pure ⟨.bl b, H', I', rfl, qz⟩
/-- x == y, x an instance of the class at C; y of a known type that is not below C -/
def rEqO (K : PySem.W.Frag) (C : Addr) (sp : Sp) (E : XK) : R2 := fun x y H Q => ∃ a dx fs t, x = .ref a ∧ H a = some (.ins C dx fs) ∧ TyX K H y t ∧ PySem.W.notFirst K C t = true ∧ sp [x, y] H Q E
theorem op_eqO (hs : PySem.W.findIn X.K (.ref C) "__eq__" = some (some (.ref f))) (hf : PySem.W.isFn X.K (.ref f) = true)
    (F : FnOk X.prog X.w X.K X.mg X.base CX k f fd ps sp) (hr : Room k X.A) (hb : Binds X.K fd ps []) (hx : Passes CX X E) : OpR X (compareOp .Eq) (rEqO X.K C sp E) := by
  intro pins s σ H x y v u Q I rx ry h
  obtain ⟨a, dx, fs, t, rfl, ea, ty, hn, q⟩ := h
  cases (show v = Value.ref a from rx)
  obtain ⟨ox, od, J⟩ := inst_of I ea
  obtain ⟨m, hF⟩ := I.fr
  obtain ⟨P, Z, p, _⟩ := kit_of I ry ty
  show wpAny (model X.prog X.w) X.A (richCompare .Eq (.ref a) u) (EP X pins σ Q) X.xe s
  refine PySem.W.cmp_K (op := .Eq) (tb := t) hr.units0 hF I.ok.mod.kin J (Z.ty _ _ I.kIn p) hn hs hf ?_
  exact thn (run_fn (us := [.ref a, u]) (vs := [.ref a, y]) (dvs := []) (ds := []) F hr hb .nil hx I (.cons rfl (.cons ry .nil)) q) fun w s' z => cmpback_ z
end
end L2

set_option Elab.async false
set_option linter.all false
set_option maxRecDepth 100000
set_option maxHeartbeats 4000000
namespace PySem.W
open PySem PySem.Calls PyProof.Rows
section
variable {prog : Program} {w : World} {A : Around} {E : Value → Shared → Prop} {s : Shared} {K : Frag} {x C L f : Addr} {h₀ : Heap} {m : Str → Option Value} {ox : Obj} {od : Option Obj}
theorem own_ne_tree {b : Value} {P : Fin → Shared → Prop} (hu : A.units < cLine) (X : K.In s.heap) (I : InstAt s.heap x ox C od) (hs : findIn K (.ref C) "__eq__" = some (some (.ref f))) (hf : isFn K (.ref f) = true)
    (h : wpAny (model prog w) A (call (.ref f) [.ref x, b]) (fun r s' => ∃ c, r = .bool c ∧ P (.done (.ret (.bool (!c)))) s') E s) :
    wpAny (model prog w) A (Builtin.«object.__ne__» ⟨[.ref x, b], []⟩) P E s := by
  unfold Builtin.«object.__ne__»
  refine wpAny_bind (wpAny_of_eq (a := ((Value.ref x : Value), [b])) (by first | rfl | (simp only [slotArgs]; rfl)) ?_)
  refine wpAny_bind (wpAny_cRoomFor hu ?_)
  refine wpAny_bind (ifBound_K X I hs hf (wpAny_mono h (fun r s' hr => ?_) fun _ _ e => e))
  obtain ⟨c, rfl, hp⟩ := hr
  refine wpAny_bind (m := truthy (.bool c)) (wpAny_pure ?_)
  exact wpAny_pure hp
theorem own_ne {b tb : Value} {Q : Value → Shared → Prop} (hu : A.units + 1 < cLine) (X : K.In s.heap) (I : InstAt s.heap x ox C od) (hb : Looks (model prog w) s.heap (typeOf b) tb) (hn : notFirst K C tb = true)
    (hne : findIn K (.ref C) "__ne__" = some (some (.builtin "object.__ne__"))) (hs : findIn K (.ref C) "__eq__" = some (some (.ref f))) (hf : isFn K (.ref f) = true) (hm : mroIn K C (.type "object") = some true)
    (h : wpAny (model prog w) A.in1 (call (.ref f) [.ref x, b]) (fun r s' => ∃ c, r = .bool c ∧ Q (.bool (!c)) s') E s) : wpAny (model prog w) A (richCompare .NotEq (.ref x) b) Q E s := by
  have sub : Looks (model prog w) s.heap (isInstance (.ref x) (.type "object")) true := I.type.andThen (looks_mroIn X hm)
  have cal : wpAny (model prog w) A (call (.builtin "object.__ne__") [.ref x, b]) (fun v s' => ∃ c, v = .bool c ∧ Q (.bool c) s') E s := by
    refine wpAny_call (codeAny_call_builtin F.cmp_object.ne.plain F.cmpEntry_ne ?_)
    refine @check_slot (model prog w) _ _ s "object.__ne__" "object" "__ne__" (.ref x) [b] [] _ F.cmpKind_ne F.cmpSplit_ne sub (F.cmpArgs_ne (.ref x) b) ?_
    refine own_ne_tree (by show A.units + 1 < cLine; exact hu) X I hs hf (wpAny_mono h (fun r s' hr => ?_) fun _ _ e => e)
    obtain ⟨c, rfl, hq⟩ := hr
    exact ⟨c, rfl, _, rfl, hq⟩
  have one : wpAny (model prog w) A (tryCompare (.ref x) "__ne__" b) (fun r s' => ∃ v, r = some v ∧ Q v s') E s := by
    unfold tryCompare
    refine wpAny_bind ?_
    simp only [callSpecialIfBound?, bindSpecialIfBound?]
    refine wpAny_holding (wpAny_bind (wpAny_bind (wpAny_bind (I.type.here ((looks_findIn X hne).here ?_)))))
    have bnd : bindSpecial (.builtin "object.__ne__") (.ref x) = pure (.builtin "object.__ne__", [.ref x]) := F.cmp_object.ne.bind _
    have fin : ∀ Q' : Option Value → Shared → Prop, (∀ c s', Q (.bool c) s' → Q' (some (.bool c)) s') → wpAny (model prog w) A (call (.builtin "object.__ne__") ([.ref x] ++ [b]) >>= fun v => pure (some v)) Q' E s := fun Q' hq' =>
      wpAny_bind (wpAny_mono cal (fun v s' h' => by obtain ⟨c, rfl, hq⟩ := h'; exact wpAny_pure (hq' c s' hq)) fun _ _ h' => h')
    refine wpAny_bind (wpAny_askSetting (wpAny_ite ?_))
    split
    · exact wpAny_bind (wpAny_of_eq bnd (wpAny_pure (fin _ fun c s' hq => wpAny_pure ⟨_, rfl, hq⟩)))
    · exact wpAny_tryCatch (wpAny_bind (wpAny_of_eq bnd (wpAny_pure (fin _ fun c s' hq => wpAny_pure ⟨_, rfl, hq⟩))))
  unfold richCompare
  simp only [oneThing_ref]
  refine wpAny_holding (wpAny_bind (wpAny_cRoomFor (by omega) ?_))
  refine wpAny_bind (I.type.here (wpAny_bind (hb.here ?_)))
  split
  · rename_i q
    have e : subIn K tb (.ref C) = some false := by
      rcases Bool.or_eq_true_iff.mp hn with e | e
      · rw [beq_iff_eq.mp e] at q; simp at q
      · exact beq_iff_eq.mp e
    refine wpAny_bind ((looks_subIn X e).here ?_)
    simp only [Bool.false_eq_true, if_false]
    refine wpAny_bind (wpAny_mono one (fun r s' z => ?_) fun _ _ e => e)
    obtain ⟨v, rfl, hq⟩ := z
    exact wpAny_pure hq
  · refine wpAny_bind (wpAny_pure ?_)
    simp only [Bool.false_eq_true, if_false]
    refine wpAny_bind (wpAny_mono one (fun r s' z => ?_) fun _ _ e => e)
    obtain ⟨v, rfl, hq⟩ := z
    exact wpAny_pure hq
end
end PySem.W
namespace L2
open PySem PySem.Spec PyProof.Rows
section
variable {X : Cx} {CX : CXT} {k : Nat} {f C : Addr} {fd : FuncData} {ps : List Str} {sp : Sp} {E : XK}
/-- x != y by an own __eq__ that gives a bool -/
def rNeO (K : PySem.W.Frag) (C : Addr) (sp : Sp) (E : XK) : R2 := fun x y H Q => ∃ a dx fs t, x = .ref a ∧ H a = some (.ins C dx fs) ∧ TyX K H y t ∧ PySem.W.notFirst K C t = true ∧ sp [x, y] H (fun z H' => ∃ b, z = .bl b ∧ Q (.bl (!b)) H') E
theorem op_neO (hne : PySem.W.findIn X.K (.ref C) "__ne__" = some (some (.builtin "object.__ne__"))) (hs : PySem.W.findIn X.K (.ref C) "__eq__" = some (some (.ref f))) (hf : PySem.W.isFn X.K (.ref f) = true) (hm : PySem.W.mroIn X.K C (.type "object") = some true)
    (F : FnOk X.prog X.w X.K X.mg X.base CX k f fd ps sp) (hr : Room (k + 1) X.A) (hb : Binds X.K fd ps []) (hx : Passes CX X E) : OpR X (compareOp .NotEq) (rNeO X.K C sp E) := by
  intro pins s σ H x y v u Q I rx ry h
  obtain ⟨a, dx, fs, t, rfl, ea, ty, hn, q⟩ := h
  cases (show v = Value.ref a from rx)
  obtain ⟨ox, od, J⟩ := inst_of I ea
  obtain ⟨P, Z, p, _⟩ := kit_of I ry ty
  show wpAny (model X.prog X.w) X.A (richCompare .NotEq (.ref a) u) (EP X pins σ Q) X.xe s
  refine PySem.W.own_ne (hu_of hr) I.kIn J (Z.ty _ _ I.kIn p) hn hne hs hf hm ?_
  have r2 : Vals [V.ref a, y] [Value.ref a, u] := .cons rfl (.cons ry .nil)
  have hl : [Value.ref a, u].length = ps.length := by rw [← r2.length]; exact F.len _ _ _ _ q
  refine wpAny_call (codeAny_mono (F.run X.A.in1 X.stack s H ⟨[.ref a, u], []⟩ [.ref a, u] [.ref a, y] _ E hr.in1 I.env0.in1 (by have := hb s [.ref a, u] I.kIn (by simpa using hl); simpa using this) r2 q) fun r s' hq => ?_)
  cases r with
  | error e => exact hx pins σ H s e s' I hq
  | ok fl =>
    cases fl with
    | ret w =>
      obtain ⟨z, H', I', rz, b, eb, qz⟩ := I.after hq
      subst eb
      cases (show w = Value.bool b from rz)
      exact ⟨b, rfl, .bl (!b), H', I', rfl, qz⟩
    | next => exact False.elim hq
    | brk => exact False.elim hq
    | cont => exact False.elim hq
/-- o.f = .. as a target among others -/
def gFld (K : PySem.W.Frag) (to : TE) (f : Str) : TG := fun v σ H Q => to σ H fun x H1 => ∃ a C dx fs, x = .ref a ∧ H1 a = some (.ins C dx fs) ∧ Cls K C ∧ NoAttr K C f ∧ fs.length < 1000 ∧ Q σ (upd H1 a (.ins C dx (putF f v fs)))
theorem pg_fld {o : Expr} {to : TE} {f : Str} {pos : Pos} (ho : PE X o to) : PG X (.Attribute o f pos) (gFld X.K to f) := by
  refine ⟨fun pins s σ H v u Q I r h => ?_⟩
  simp only [assign_Attribute]
  refine wpAny_bind (wpAny_holding (thn (ho.run pins s σ H _ I h) fun ov s1 ⟨x, H1, I1, rx, a, C, dx, fs, ex, ea, c, n, l, q⟩ => ?_))
  subst ex
  obtain rfl : ov = Value.ref a := rx
  refine wpAny_bind (wpAny_standAt (wpAny_bind (wpAny_holding (setattr_ok I1 ea c n l r fun s3 I3 => ?_))))
  exact wpAny_release ⟨σ, _, I3, q⟩
end
end L2

set_option Elab.async false
set_option linter.all false
set_option maxRecDepth 100000
set_option maxHeartbeats 1000000
/-! Numbers, names and entries as texts: plain functions and their laws. -/
namespace EM
open PySem L2 TL NumText
/-! ### digits, letters -/
def isDig (c : Nat) : Bool := decide (c ∈ (Str.ofString "0123456789").cps.toList)
def isLet (c : Nat) : Bool := decide (c ∈ (Str.ofString "abcdefghijklmnopqrstuvwxyz").cps.toList)
theorem digs_list : (Str.ofString "0123456789").cps.toList = [48, 49, 50, 51, 52, 53, 54, 55, 56, 57] := by decide +kernel
theorem lets_list : (Str.ofString "abcdefghijklmnopqrstuvwxyz").cps.toList = (List.range 26).map (· + 97) := by decide +kernel
theorem isDig_iff {c : Nat} : isDig c = true ↔ 48 ≤ c ∧ c ≤ 57 := by
  unfold isDig
  rw [decide_eq_true_eq, digs_list]
  simp only [List.mem_cons, List.not_mem_nil, or_false]
  omega
theorem isLet_iff {c : Nat} : isLet c = true ↔ 97 ≤ c ∧ c ≤ 122 := by
  unfold isLet
  rw [decide_eq_true_eq, lets_list]
  simp only [List.mem_map, List.mem_range]
  constructor
  · rintro ⟨a, h, rfl⟩; omega
  · intro h; exact ⟨c - 97, by omega, by omega⟩
/-! ### numbers -/
def digs (l : List Nat) : List Nat := if l.take 1 = [45] then l.drop 1 else l
def numOk (l : List Nat) : Bool := (decide (1 ≤ (digs l).length) && decide ((digs l).length ≤ 30)) && ((digs l).all isDig && !(decide ((digs l).head? = some 48) && decide (l ≠ [48])))
def numVal (l : List Nat) : Int := if l.take 1 = [45] then -((digitsVal (l.drop 1) : Nat) : Int) else ((digitsVal l : Nat) : Int)
def numberOf (l : List Nat) : Option Int := if numOk l = true then some (numVal l) else none
/-- the signs of str(n) -/
def intOf (n : Int) : List Nat := if n < 0 then 45 :: numL n.natAbs else numL n.natAbs
theorem tl_int (n : Int) : tl (Str.ofString (toString n)) = intOf n := by
  unfold intOf
  by_cases h : n < 0
  · rw [if_pos h]
    obtain ⟨m, rfl⟩ : ∃ m : Nat, n = -((m : Nat) : Int) := ⟨n.natAbs, by omega⟩
    obtain ⟨k, rfl⟩ : ∃ k : Nat, m = k + 1 := ⟨m - 1, by omega⟩
    have e1 : (-(((k + 1 : Nat) : Nat) : Int)).natAbs = k + 1 := by omega
    have e2 : toString (-(((k + 1 : Nat) : Nat) : Int)) = "-" ++ toString (k + 1) := by
      show toString (Int.negSucc k) = _
      rfl
    have e3 := tl_num (k + 1)
    have e4 : toString (((k + 1 : Nat) : Nat) : Int) = toString (k + 1) := rfl
    rw [e1, e2]
    rw [e4] at e3
    rw [tl_ofString] at e3 ⊢
    rw [String.toList_append, List.map_append, e3]
    rfl
  · rw [if_neg h]
    obtain ⟨m, rfl⟩ : ∃ m : Nat, n = (m : Int) := ⟨n.natAbs, by omega⟩
    exact tl_num m
theorem digitsVal_snoc (l : List Nat) (c : Nat) : digitsVal (l ++ [c]) = digitsVal l * 10 + (c - 48) := by
  unfold digitsVal
  rw [List.foldl_append]
  rfl
/-- digits without a 0 ahead are those of their value -/
theorem numL_back : ∀ (n : Nat) (d : List Nat), d.length = n → AllDigits d → d ≠ [] → (d.head? ≠ some 48 ∨ d = [48]) → numL (digitsVal d) = d ∧ (d ≠ [48] → 0 < digitsVal d) := by
  intro n
  induction n with
  | zero => intro d hl _ h _; exact absurd (List.eq_nil_of_length_eq_zero hl) h
  | succ n ih =>
    intro d hl hd hne hz
    have e := List.dropLast_concat_getLast hne
    generalize d.dropLast = r at e
    generalize d.getLast hne = c at e
    subst e
    have hc : 48 ≤ c ∧ c ≤ 57 := hd c (List.mem_append_right _ (List.mem_singleton.mpr rfl))
    have hr : AllDigits r := fun x hx => hd x (List.mem_append_left _ hx)
    rw [digitsVal_snoc]
    cases r with
    | nil =>
      have e0 : digitsVal [] = 0 := rfl
      rw [e0]
      have hv : 0 * 10 + (c - 48) < 10 := by omega
      rw [numL_lt hv]
      refine ⟨by show [48 + (0 * 10 + (c - 48))] = [c]; congr 1; omega, fun h => ?_⟩
      have : c ≠ 48 := fun z => h (by rw [z]; rfl)
      omega
    | cons a r =>
      have hl' : (a :: r).length = n := by simpa using hl
      have ha : (a :: r).head? ≠ some 48 := by
        rcases hz with hz | hz
        · exact hz
        · have := congrArg List.length hz
          simp at this
      obtain ⟨i1, i2⟩ := ih (a :: r) hl' hr (by simp) (.inl ha)
      have hp : 0 < digitsVal (a :: r) := i2 (fun z => ha (by rw [z]; rfl))
      have h10 : 10 ≤ digitsVal (a :: r) * 10 + (c - 48) := by omega
      refine ⟨?_, fun _ => by omega⟩
      rw [numL_step h10]
      have e1 : (digitsVal (a :: r) * 10 + (c - 48)) / 10 = digitsVal (a :: r) := by omega
      have e2 : (digitsVal (a :: r) * 10 + (c - 48)) % 10 = c - 48 := by omega
      rw [e1, e2, i1]
      congr 2
      omega
theorem numL_head (n : Nat) : (numL n).head? ≠ some 48 ∨ numL n = [48] := by
  induction n using Nat.strongRecOn with
  | _ n ih =>
    by_cases h : n < 10
    · rw [numL_lt h]
      by_cases h0 : n = 0
      · right; rw [h0]
      · left; simp; omega
    · left
      rw [numL_step (by omega)]
      rcases ih (n / 10) (by omega) with h1 | h1
      · cases e : numL (n / 10) with
        | nil => exact absurd e (numL_ne _)
        | cons a r => rw [e] at h1; simpa using h1
      · have := numL_val (n / 10)
        rw [h1] at this
        have e0 : digitsVal [48] = 0 := rfl
        omega
theorem allDig {l : List Nat} : l.all isDig = true ↔ AllDigits l := by
  rw [List.all_eq_true]
  exact ⟨fun h c hc => isDig_iff.mp (h c hc), fun h c hc => isDig_iff.mpr (h c hc)⟩
theorem digitsVal_lt {l : List Nat} (h : AllDigits l) : digitsVal l < 10 ^ l.length := by
  have key : ∀ (n : Nat) (l : List Nat), l.length = n → AllDigits l → digitsVal l < 10 ^ n := by
    intro n
    induction n with
    | zero => intro l hl _; rw [List.eq_nil_of_length_eq_zero hl]; decide
    | succ n ih =>
      intro l hl hd
      have hne : l ≠ [] := by intro z; rw [z] at hl; cases hl
      have e := List.dropLast_concat_getLast hne
      generalize l.dropLast = r at e
      generalize l.getLast hne = c at e
      subst e
      have hc : 48 ≤ c ∧ c ≤ 57 := hd c (List.mem_append_right _ (List.mem_singleton.mpr rfl))
      have := ih r (by simpa using hl) (fun x hx => hd x (List.mem_append_left _ hx))
      rw [digitsVal_snoc, Nat.pow_succ]
      omega
  exact key _ l rfl h
theorem numL_len_ge {n k : Nat} (h : (numL n).length ≤ k) : n < 10 ^ k := by
  have := digitsVal_lt (numL_digits n)
  rw [numL_val] at this
  exact Nat.lt_of_lt_of_le this (Nat.pow_le_pow_right (by decide) h)
theorem numberOf_back {l : List Nat} {n : Int} (h : numberOf l = some n) : l = intOf n ∧ n.natAbs < 10 ^ 30 := by
  unfold numberOf at h
  split at h
  · rename_i hk
    have hn : numVal l = n := Option.some.inj h
    unfold numOk at hk
    simp only [Bool.and_eq_true, decide_eq_true_eq, Bool.not_eq_true', Bool.and_eq_false_iff, decide_eq_false_iff_not] at hk
    obtain ⟨⟨h1, h2⟩, h3, h4⟩ := hk
    rw [allDig] at h3
    by_cases hm : l.take 1 = [45]
    · have hl : l = 45 :: l.drop 1 := by
        have := List.take_append_drop 1 l
        rw [hm] at this
        exact this.symm
      have hd : digs l = l.drop 1 := if_pos hm
      have hv : numVal l = -((digitsVal (l.drop 1) : Nat) : Int) := if_pos hm
      rw [hd] at h1 h2 h3 h4
      rw [hv] at hn
      have hl48 : l ≠ [48] := by intro z; rw [z] at hm; exact absurd hm (by decide)
      have hh : (l.drop 1).head? ≠ some 48 := by
        rcases h4 with h4 | h4
        · exact h4
        · exact absurd hl48 h4
      have hne : l.drop 1 ≠ [] := by intro z; rw [z] at h1; simp at h1
      obtain ⟨b1, b2⟩ := numL_back _ (l.drop 1) rfl h3 hne (.inl hh)
      have hp : 0 < digitsVal (l.drop 1) := b2 (fun z => hh (by rw [z]; rfl))
      have hna : n.natAbs = digitsVal (l.drop 1) := by omega
      refine ⟨?_, ?_⟩
      · unfold intOf
        rw [if_pos (by omega), hna, b1]
        exact hl
      · rw [hna]
        exact Nat.lt_of_lt_of_le (digitsVal_lt h3) (Nat.pow_le_pow_right (by decide) h2)
    · have hd : digs l = l := if_neg hm
      have hv : numVal l = ((digitsVal l : Nat) : Int) := if_neg hm
      rw [hd] at h1 h2 h3 h4
      rw [hv] at hn
      have hne : l ≠ [] := by intro z; rw [z] at h1; simp at h1
      have hz : l.head? ≠ some 48 ∨ l = [48] := by
        rcases h4 with h4 | h4
        · exact .inl h4
        · exact .inr (Classical.byContradiction fun z => h4 z)
      obtain ⟨b1, b2⟩ := numL_back _ l rfl h3 hne hz
      have hna : n.natAbs = digitsVal l := by omega
      refine ⟨?_, ?_⟩
      · unfold intOf
        rw [if_neg (by omega), hna, b1]
      · rw [hna]
        exact Nat.lt_of_lt_of_le (digitsVal_lt h3) (Nat.pow_le_pow_right (by decide) h2)
  · cases h
theorem numberOf_int {n : Int} (h : n.natAbs < 10 ^ 30) : numberOf (intOf n) = some n := by
  have hd := numL_digits n.natAbs
  have hne := numL_ne n.natAbs
  have hlen := numL_len (k := 30) (by decide) h
  have hlen1 : 1 ≤ (numL n.natAbs).length := List.length_pos_iff.mpr hne
  have hall := allDig.mpr hd
  by_cases hn : n < 0
  · have e : intOf n = 45 :: numL n.natAbs := if_pos hn
    have hm : (45 :: numL n.natAbs).take 1 = [45] := rfl
    have hdg : digs (45 :: numL n.natAbs) = numL n.natAbs := if_pos hm
    have hv : numVal (45 :: numL n.natAbs) = -((digitsVal (numL n.natAbs) : Nat) : Int) := if_pos hm
    have hh : (numL n.natAbs).head? ≠ some 48 := by
      rcases numL_head n.natAbs with z | z
      · exact z
      · have := numL_val n.natAbs
        rw [z] at this
        have e0 : digitsVal [48] = 0 := rfl
        omega
    rw [e]
    unfold numberOf
    rw [if_pos]
    · rw [hv, numL_val]
      congr 1
      omega
    · unfold numOk
      rw [hdg, hall, decide_eq_true hlen1, decide_eq_true hlen, decide_eq_false hh]
      rfl
  · have e : intOf n = numL n.natAbs := if_neg hn
    have hm : ¬ (numL n.natAbs).take 1 = [45] := by
      cases q : numL n.natAbs with
      | nil => exact absurd q hne
      | cons a r =>
        intro z
        have : a = 45 := by simpa using z
        have h2 := hd a (by rw [q]; exact List.mem_cons_self ..)
        omega
    have hdg : digs (numL n.natAbs) = numL n.natAbs := if_neg hm
    have hv : numVal (numL n.natAbs) = ((digitsVal (numL n.natAbs) : Nat) : Int) := if_neg hm
    rw [e]
    unfold numberOf
    rw [if_pos]
    · rw [hv, numL_val]
      congr 1
      omega
    · unfold numOk
      rw [hdg, hall, decide_eq_true hlen1, decide_eq_true hlen]
      rcases numL_head n.natAbs with z | z
      · rw [decide_eq_false z]; rfl
      · rw [decide_eq_false (show ¬ numL n.natAbs ≠ [48] from fun q => q z)]
        simp
theorem intOf_inj {m n : Int} (h : intOf m = intOf n) : m = n := by
  have key : ∀ n : Int, numVal (intOf n) = n := by
    intro n
    unfold numVal intOf
    by_cases hn : n < 0
    · rw [if_pos hn]
      rw [if_pos (show (45 :: numL n.natAbs).take 1 = [45] from rfl)]
      show -((digitsVal (numL n.natAbs) : Nat) : Int) = n
      rw [numL_val]
      omega
    · rw [if_neg hn, if_neg, numL_val]
      · omega
      · cases q : numL n.natAbs with
        | nil => exact absurd q (numL_ne _)
        | cons a r =>
          intro z
          have : a = 45 := by simpa using z
          have h2 := numL_digits n.natAbs a (by rw [q]; exact List.mem_cons_self ..)
          omega
  rw [← key m, h, key]
theorem intOf_free {n : Int} {s : Nat} (h1 : s ≠ 45) (h2 : s < 48 ∨ 57 < s) : s ∉ intOf n := by
  unfold intOf
  split
  · intro z
    rcases List.mem_cons.mp z with z | z
    · exact h1 z
    · exact numL_free h2 z
  · exact numL_free h2
theorem intOf_len {n : Int} {k : Nat} (hk : 0 < k) (h : n.natAbs < 10 ^ k) : (intOf n).length ≤ k + 1 := by
  have := numL_len hk h
  unfold intOf
  split
  · rw [List.length_cons]; omega
  · omega
/-- int(text) where number_of takes it -/
theorem intText_numOk {t : Str} (h : numOk (tl t) = true) : intText? t = some (numVal (tl t)) ∧ t.length ≤ 31 := by
  unfold numOk at h
  simp only [Bool.and_eq_true, decide_eq_true_eq] at h
  obtain ⟨⟨h1, h2⟩, h3, h4⟩ := h
  rw [allDig] at h3
  by_cases hm : (tl t).take 1 = [45]
  · have hl : tl t = 45 :: (tl t).drop 1 := by
      have := List.take_append_drop 1 (tl t)
      rw [hm] at this
      exact this.symm
    have hd : digs (tl t) = (tl t).drop 1 := if_pos hm
    have hv : numVal (tl t) = -((digitsVal ((tl t).drop 1) : Nat) : Int) := if_pos hm
    rw [hd] at h1 h2 h3
    have hlen : t.length ≤ 31 := by rw [len_tl, hl, List.length_cons]; omega
    rw [hv]
    exact ⟨intText_neg hl h3 (by intro z; rw [z] at h1; simp at h1) (by omega), hlen⟩
  · have hd : digs (tl t) = tl t := if_neg hm
    have hv : numVal (tl t) = ((digitsVal (tl t) : Nat) : Int) := if_neg hm
    rw [hd] at h1 h2 h3
    have hlen : t.length ≤ 31 := by rw [len_tl]; omega
    rw [hv]
    exact ⟨intText_digits h3 (by intro z; have z' : tl t = [] := z; rw [z'] at h1; simp at h1) (by omega), hlen⟩
/-! ### names, entries -/
def isName (l : List Nat) : Bool := (decide (1 ≤ l.length) && decide (l.length ≤ 12)) && l.all isLet
theorem isName_free {l : List Nat} {s : Nat} (h : isName l = true) (hs : s < 97 ∨ 122 < s) : s ∉ l := by
  unfold isName at h
  simp only [Bool.and_eq_true, List.all_eq_true] at h
  intro z
  have := isLet_iff.mp (h.2 s z)
  omega
/-- joined again what was split -/
theorem join_spl (s : Nat) : ∀ (l acc : List Nat), joinL [s] (spl [s] 0 acc l) = acc ++ l
  | [], acc => by rw [spl_nil]; simp [joinL]
  | c :: r, acc => by
    by_cases h : c = s
    · subst h
      have hp : pre [c] (c :: r) = true := by simp [pre]
      rw [spl_hit hp]
      have ih := join_spl c r []
      have hne : ∃ x y, spl [c] 0 [] r = x :: y := by
        cases q : spl [c] 0 [] r with
        | nil =>
          have hl := congrArg List.length q
          cases r with
          | nil => rw [spl_nil] at q; cases q
          | cons d r' =>
            by_cases hd : pre [c] (d :: r') = true
            · rw [spl_hit hd] at q; cases q
            · rw [spl_miss (by simpa using hd)] at q
              exfalso
              have key : ∀ (l acc : List Nat), spl [c] 0 acc l ≠ [] := by
                intro l
                induction l with
                | nil => intro acc; rw [spl_nil]; simp
                | cons e l ih =>
                  intro acc
                  by_cases he : pre [c] (e :: l) = true
                  · rw [spl_hit he]; simp
                  · rw [spl_miss (by simpa using he)]; exact ih _
              exact key _ _ q
        | cons x y => exact ⟨x, y, rfl⟩
      obtain ⟨x, y, e⟩ := hne
      show joinL [c] (acc :: spl [c] 0 [] r) = acc ++ c :: r
      rw [e] at ih ⊢
      show acc ++ ([c] ++ joinL [c] (x :: y)) = _
      rw [ih]
      rfl
    · have hp : pre [s] (c :: r) = false := pre_of_head [] r h
      rw [spl_miss hp, join_spl s r (acc ++ [c]), List.append_assoc]
      rfl
theorem spl_ne (s : Nat) : ∀ (l acc : List Nat), spl [s] 0 acc l ≠ [] := by
  intro l
  induction l with
  | nil => intro acc; rw [spl_nil]; simp
  | cons e l ih =>
    intro acc
    by_cases he : pre [s] (e :: l) = true
    · rw [spl_hit he]; simp
    · rw [spl_miss (by simpa using he)]; exact ih _
theorem spl_len (s : Nat) : ∀ (l acc : List Nat), ∀ w ∈ spl [s] 0 acc l, w.length ≤ acc.length + l.length := by
  intro l
  induction l with
  | nil => intro acc w hw; rw [spl_nil] at hw; rw [List.mem_singleton.mp hw]; simp
  | cons e l ih =>
    intro acc w hw
    by_cases he : pre [s] (e :: l) = true
    · rw [spl_hit he] at hw
      rcases List.mem_cons.mp hw with rfl | hw
      · omega
      · have := ih [] w hw
        simp at this ⊢
        omega
    · rw [spl_miss (by simpa using he)] at hw
      have := ih _ w hw
      simp at this ⊢
      omega
def kDay : List Nat := [100, 97, 121]
def kFloat : List Nat := [102, 108, 111, 97, 116]
def kZoned : List Nat := [122, 111, 110, 101, 100]
def kFixed : List Nat := [102, 105, 120, 101, 100]
def kTo : List Nat := [116, 111]
def isKind (k : List Nat) : Bool := decide (k ∈ [kDay, kFloat, kZoned, kFixed])
/-- what a split text tells -/
def partsW : List (List Nat) → Option (List Nat × Int × Int × Option (List Nat))
  | [k, a, t, b] => if isKind k = true ∧ k ≠ kZoned ∧ t = kTo then (match numberOf a, numberOf b with | some x, some y => if x ≤ y then some (k, x, y, none) else none | _, _ => none) else none
  | [k, a, t, b, z] => if k = kZoned ∧ t = kTo then (match numberOf a, numberOf b with | some x, some y => if x ≤ y ∧ isName z = true then some (k, x, y, some z) else none | _, _ => none) else none
  | _ => none
def parts (l : List Nat) : Option (List Nat × Int × Int × Option (List Nat)) := partsW (spl [32] 0 [] l)
def canonW (k : List Nat) (a b : Int) (z : Option (List Nat)) : List (List Nat) := [k, intOf a, kTo, intOf b] ++ z.toList
def canon (k : List Nat) (a b : Int) (z : Option (List Nat)) : List Nat := joinL [32] (canonW k a b z)
/-- kind, values and zone go together -/
structure Well (k : List Nat) (a b : Int) (z : Option (List Nat)) : Prop where
  kind : isKind k = true
  zone : (k = kZoned ∧ ∃ y, z = some y ∧ isName y = true) ∨ (k ≠ kZoned ∧ z = none)
theorem parts_back {l k : List Nat} {a b : Int} {z : Option (List Nat)} (h : parts l = some (k, a, b, z)) : l = canon k a b z ∧ Well k a b z ∧ a ≤ b ∧ a.natAbs < 10 ^ 30 ∧ b.natAbs < 10 ^ 30 := by
  have hj := join_spl 32 l []
  unfold parts at h
  rw [List.nil_append] at hj
  generalize spl [32] 0 [] l = ws at h hj
  unfold partsW at h
  split at h
  · rename_i k' a' t' b'
    split at h
    · rename_i hc
      obtain ⟨h1, h2, h3⟩ := hc
      split at h
      · rename_i x y hx hy
        split at h
        · rename_i hxy
          simp only [Option.some.injEq, Prod.mk.injEq] at h
          obtain ⟨rfl, rfl, rfl, rfl⟩ := h
          obtain ⟨e1, e2⟩ := numberOf_back hx
          obtain ⟨e3, e4⟩ := numberOf_back hy
          refine ⟨?_, ⟨h1, .inr ⟨h2, rfl⟩⟩, hxy, e2, e4⟩
          rw [← hj, e1, e3, h3]
          rfl
        · cases h
      · cases h
    · cases h
  · rename_i k' a' t' b' z'
    split at h
    · rename_i hc
      obtain ⟨h1, h3⟩ := hc
      split at h
      · rename_i x y hx hy
        split at h
        · rename_i hxy
          simp only [Option.some.injEq, Prod.mk.injEq] at h
          obtain ⟨rfl, rfl, rfl, rfl⟩ := h
          obtain ⟨e1, e2⟩ := numberOf_back hx
          obtain ⟨e3, e4⟩ := numberOf_back hy
          refine ⟨?_, ⟨by rw [h1]; decide, .inl ⟨h1, _, rfl, hxy.2⟩⟩, hxy.1, e2, e4⟩
          rw [← hj, e1, e3, h3]
          rfl
        · cases h
      · cases h
    · cases h
  · cases h
theorem kind_free {k : List Nat} (h : isKind k = true) : 32 ∉ k := by
  unfold isKind at h
  have h := of_decide_eq_true h
  simp only [List.mem_cons, List.not_mem_nil, or_false] at h
  rcases h with rfl | rfl | rfl | rfl <;> decide
theorem canonW_free {k : List Nat} {a b : Int} {z : Option (List Nat)} (w : Well k a b z) : ∀ p ∈ canonW k a b z, 32 ∉ p := by
  intro p hp
  unfold canonW at hp
  rcases List.mem_append.mp hp with hp | hp
  · simp only [List.mem_cons, List.not_mem_nil, or_false] at hp
    rcases hp with rfl | rfl | rfl | rfl
    · exact kind_free w.kind
    · exact intOf_free (by decide) (by decide)
    · decide
    · exact intOf_free (by decide) (by decide)
  · rcases w.zone with ⟨_, y, rfl, hy⟩ | ⟨_, rfl⟩
    · have : p = y := by simpa using hp
      subst this
      exact isName_free hy (by decide)
    · simp at hp
theorem spl_canon {k : List Nat} {a b : Int} {z : Option (List Nat)} (w : Well k a b z) : spl [32] 0 [] (canon k a b z) = canonW k a b z :=
  spl_join (by unfold canonW; simp) (canonW_free w)
theorem parts_canon {k : List Nat} {a b : Int} {z : Option (List Nat)} (w : Well k a b z) (hab : a ≤ b) (ha : a.natAbs < 10 ^ 30) (hb : b.natAbs < 10 ^ 30) : parts (canon k a b z) = some (k, a, b, z) := by
  unfold parts
  rw [spl_canon w]
  rcases w.zone with ⟨h1, y, rfl, hy⟩ | ⟨h1, rfl⟩
  · show partsW [k, intOf a, kTo, intOf b, y] = _
    unfold partsW
    simp only [numberOf_int ha, numberOf_int hb, hab, hy, and_self, if_true]
    exact if_pos ⟨h1, trivial⟩
  · show partsW [k, intOf a, kTo, intOf b] = _
    unfold partsW
    simp only [numberOf_int ha, numberOf_int hb, hab, if_true]
    exact if_pos ⟨w.kind, h1, trivial⟩
theorem canon_inj {k k' : List Nat} {a b a' b' : Int} {z z' : Option (List Nat)} (w : Well k a b z) (w' : Well k' a' b' z') (h : canon k a b z = canon k' a' b' z') : k = k' ∧ a = a' ∧ b = b' ∧ z = z' := by
  have e := congrArg (spl [32] 0 []) h
  rw [spl_canon w, spl_canon w'] at e
  unfold canonW at e
  simp only [List.cons_append, List.nil_append, List.cons.injEq] at e
  obtain ⟨e1, e2, e3, e4, e5⟩ := e
  refine ⟨e1, intOf_inj e2, intOf_inj e4, ?_⟩
  cases z <;> cases z' <;> simp_all
theorem canon_len {k : List Nat} {a b : Int} {z : Option (List Nat)} (w : Well k a b z) {n : Nat} (hn : 0 < n) (ha : a.natAbs < 10 ^ n) (hb : b.natAbs < 10 ^ n) : (canon k a b z).length ≤ 2 * n + 30 := by
  have hk : k.length ≤ 5 := by
    have h := of_decide_eq_true w.kind
    simp only [List.mem_cons, List.not_mem_nil, or_false] at h
    rcases h with rfl | rfl | rfl | rfl <;> decide
  have h1 := intOf_len hn ha
  have h2 := intOf_len hn hb
  have h3 : kTo.length = 2 := rfl
  unfold canon canonW
  rcases w.zone with ⟨_, y, rfl, hy⟩ | ⟨_, rfl⟩
  · have hyl : y.length ≤ 12 := by
      unfold isName at hy
      simp only [Bool.and_eq_true, decide_eq_true_eq] at hy
      exact hy.1.2
    simp only [Option.toList, List.cons_append, List.nil_append, joinL, List.length_append, List.length_cons, List.length_nil]
    omega
  · simp only [Option.toList, List.append_nil, joinL, List.length_append, List.length_cons, List.length_nil]
    omega
end EM

set_option Elab.async false
set_option linter.all false
set_option maxRecDepth 100000
set_option maxHeartbeats 1000000
/-! Helpers over the hand layer: comprehensions whose element changes nothing; heaps. -/
namespace L2
open PySem PySem.Spec PyProof.Rows
theorem Same.new {H : Hp} {p : Addr} {o : HO} (h : H p = none) : Same H (upd H p o) := fun a u e => by
  rw [upd_ne (ne_of_none e h)]
  exact e
/-- an object that H does not know may change -/
theorem Same.mut {H H' : Hp} {p : Addr} {o : HO} (e : Same H H') (h : H p = none) : Same H (upd H' p o) := fun a u ha => by
  rw [upd_ne (ne_of_none ha h)]
  exact e a u ha
theorem Same.seqT {K : PySem.W.Frag} {H H' : Hp} {a : Addr} {xs : List V} (e : Same H H') (h : SqT K H a xs) : SqT K H' a xs := by
  rcases h with (h | ⟨o, h⟩) | h
  · exact .inl (.inl (e _ _ h))
  · exact .inl (.inr ⟨o, e _ _ h⟩)
  · exact .inr h
theorem range_snocX {α : Type} (v : Nat → α) (n : Nat) : (List.range (n + 1)).map v = (List.range n).map v ++ [v n] := by
  rw [List.range_succ, List.map_append]; rfl
theorem range_mapX {α β : Type} (f : α → β) (v : Nat → β) : ∀ (l : List α), (∀ i (x : α), l[i]? = some x → v i = f x) → (List.range l.length).map v = l.map f := by
  intro l h
  apply List.ext_getElem?
  intro i
  rw [List.getElem?_map, List.getElem?_map]
  by_cases hi : i < l.length
  · rw [List.getElem?_range hi, List.getElem?_eq_getElem hi]
    show some (v i) = some (f l[i])
    rw [h i l[i] (List.getElem?_eq_getElem hi)]
  · rw [List.getElem?_eq_none (by rw [List.length_range]; omega), List.getElem?_eq_none (by omega)]
    rfl
/-- a comprehension without a test whose element changes nothing: the new list is v 0, v 1, .. -/
theorem lc_map {J : It} {n : Nat} {G : Hp → Prop} {Y : Nat → Hp → V → Hp → Prop} (w : Walk J n G Y) {te : TE} {j : Nat} {vs : List Nat} {σ : St} {H1 : Hp} {D : Addr} {Qd : Hp → Prop} (hn : n ≤ 1000000) (v : Nat → V) (hD : H1 D = none)
    (hG : ∀ H, Same H1 H → G H) (hY : ∀ i H x H', i < n → Y i H x H' → Same H H') (hw : ∀ x, wipe ((wipe σ vs).set j (some x)) vs = wipe σ vs)
    (he : ∀ i x H H', i < n → Same H1 H → Y i H x H' → ∀ (H'' : Hp) (Q : VK), Same H' H'' → (∀ H3, Same H'' H3 → Q (v i) H3) → te ((wipe σ vs).set j (some x)) H'' Q)
    (hd : ∀ H, Same H1 H → H D = some (.lst ((List.range n).map v)) → Qd H) :
    ∃ W : Nat → Nat → Hp → Prop, (∃ m, W 0 m (upd H1 D (.lst []))) ∧ ∀ i m H, W i m H →
      (J.stop i H ∧ Qd H) ∨ (J.go i H ∧ ∃ Nx : Hp → Prop, (∀ H', Nx H' → ∃ m', m' < m ∧ W (i + 1) m' H') ∧ ∀ x H', J.yld i H x H' → gName j x (wipe σ vs) H' fun σ2 H2 => wipe σ2 vs = wipe σ vs ∧ tYes σ2 H2 fun b H3 =>
        if b = true then te σ2 H3 fun y H4 => ∃ acc, H4 D = some (.lst acc) ∧ acc.length < sizeLine ∧ Nx (upd H4 D (.lst (acc ++ [y]))) else Nx H3) := by
  refine lc_it w (fun i H => i ≤ n ∧ Same H1 H ∧ H D = some (.lst ((List.range i).map v))) ⟨Nat.zero_le _, Same.new hD, upd_same⟩ (fun i H _ p => hG H p.2.1) (fun i x H H' hi p y => ?_) (fun H p => hd H p.2.1 p.2.2)
  obtain ⟨_, p2, p3⟩ := p
  refine ⟨hw x, ?_⟩
  unfold tYes
  dsimp only
  rw [if_pos rfl]
  have s1 := hY i H x H' hi y
  refine he i x H H' hi p2 y H' _ (Same.refl _) fun H3 s3 => ⟨_, s3 _ _ (s1 _ _ p3), ?_, ?_⟩
  · rw [List.length_map, List.length_range]
    exact Nat.lt_of_lt_of_le (Nat.lt_of_lt_of_le hi hn) (by decide)
  · exact ⟨hi, Same.mut (p2.trans (s1.trans s3)) hD, by rw [upd_same, range_snocX]⟩
/-- a def of the module that keeps its promise and lets no error out -/
structure Cal (P : Program) (w : World) (K : PySem.W.Frag) (mg : Str → Option Value) (base : Heap) (k : Nat) (x : Str) (ps : List Str) (sp : Sp) : Prop where
  ex : ∃ (f : Addr) (fd : FuncData), FnOk P w K mg base CX0 k f fd ps sp ∧ mg x = some (.ref f) ∧ PySem.W.keepIn K (.ref f) = true ∧ Binds K fd ps []
theorem pe_cal {X : Cx} {k : Nat} {x : Str} {ps : List Str} {sp : Sp} {e : Expr} {es : List Expr} {t : TA} {p pos : Pos} (c : Cal X.prog X.w X.K X.mg X.base k x ps sp) (hr : Room k X.A) (hg : Gl X x) (ha : PA X (e :: es) t) (hdb : (x == ("__debug__" : Str)) = false := by decide)
    (he : starEach (e :: es) X.env = (false, eval e X.env) :: starEach es X.env := by rfl) (hpl : (backTo pos (starEach es X.env)).any (·.1) = false := by rfl) : PE X (.Call (.Name x p) (e :: es) [] pos) (tCall sp [] E0 t) := by
  obtain ⟨f, fd, F, hm, hk, hb⟩ := c.ex
  exact pe_call F hr hg hm hk hb .nil pass0 ha hdb he hpl
theorem atI_of {α : Type} {xs : List α} {n : Int} (h0 : 0 ≤ n) {v : α} (h : xs[n.toNat]? = some v) : atI xs n = some v := by
  obtain ⟨m, rfl⟩ : ∃ m : Nat, n = (m : Int) := ⟨n.toNat, by omega⟩
  exact atI_nat (by simpa using h)
/-- all, any of the tests of a list -/
theorem bls_all {α : Type} (f : α → Bool) (l : List α) : ((l.map f).all id) = l.all f := by
  rw [List.all_map]; rfl
theorem bls_any {α : Type} (f : α → Bool) (l : List α) : ((l.map f).any id) = l.any f := by
  rw [List.any_map]; rfl
end L2

set_option Elab.async false
set_option linter.all false
set_option maxRecDepth 100000
set_option maxHeartbeats 1000000
namespace L2
open PySem PySem.Spec PyProof.Rows
section
variable {X : Cx}
/-- text * int -/
theorem op_mul_str : OpR X (binaryOp .Mult) (fun x y H Q => ∃ (i : Str) (n : Int), x = .str i ∧ y = .int n ∧ i.length ≤ 1000 ∧ 0 ≤ n ∧ n ≤ 1000 ∧ ∀ z : Str, z.length ≤ i.length * n.toNat → Q (.str z) H) := by
  intro pins s σ H x y v u Q I rx ry h
  obtain ⟨i, n, rfl, rfl, hi, h0, h1, q⟩ := h
  obtain ⟨t, rfl⟩ := rx
  obtain ⟨t', rfl⟩ := ry
  refine PySem.SB.mul (mulOk_of 1000 1000 hi h1 (by omega) (by decide) (by decide)) fun tk k => ?_
  refine ⟨.str (Txt.mul i n), H, I.tok _, ⟨_, rfl⟩, q _ ?_⟩
  unfold PySem.Txt.mul
  split
  · exact Nat.zero_le _
  · rename_i h2
    split
    · rename_i h3
      rcases (by simpa using h3 : n = 1 ∨ i.length = 0) with h4 | h4
      · subst h4; simp
      · rw [h4]; exact Nat.zero_le _
    · have gen : ∀ (m : Nat) (acc : Array Nat), ((List.replicate m i.cps).foldl (· ++ ·) acc).size = acc.size + m * i.cps.size := by
        intro m
        induction m with
        | zero => intro acc; simp
        | succ m ih => intro acc; rw [List.replicate_succ, List.foldl_cons, ih, Array.size_append, Nat.succ_mul]; omega
      show ((List.replicate n.toNat i.cps).foldl (· ++ ·) #[]).size ≤ _
      rw [gen]
      show 0 + n.toNat * i.length ≤ _
      rw [Nat.zero_add, Nat.mul_comm]
      exact Nat.le_refl _
/-- isinstance(e, c), e the exception that the suite holds, with its dict -/
theorem call_isXE {a : Addr} {oe : Obj} {cls : Value} {d : Option Addr} {pn : List (Addr × Obj)} (hz : Zc cls d oe) (hf : ∃ vs, oe.data = .fields vs) : CallR (X.suite a ((a, oe) :: pn)) (.builtin "isinstance")
    (fun xs H Q => ∃ (c : V) (cv : Value) (b : Bool) (D dd : Addr) (fs : List (Str × V)), xs = [.ref a, c] ∧ cls = .ref D ∧ ExiC X.K D ∧ d = some dd ∧ H dd = some (.xd fs) ∧ (∀ u, RelV c u → u = cv) ∧ PySem.W.kitOne X.K (.ref D) cv = some b ∧ Q (.bl b) H) := by
  intro pins s σ H xs us Q I r h
  obtain ⟨c, cv, b, D, dd, fs, rfl, rfl, C, rfl, hd, hcv, e, q⟩ := h
  obtain ⟨u1, u2, rfl, r1, r2⟩ := vals2 r
  have e2 := hcv _ r2
  subst e2
  cases (show u1 = Value.ref a from r1)
  obtain ⟨hget, _⟩ := I.pin (a, oe) (List.mem_append.mpr (.inl List.mem_cons_self))
  obtain ⟨vs, hv⟩ := hf
  have hx : ObjOk X.prog X.w H s.heap dd (.xd fs) := I.hok dd _ hd
  obtain ⟨mA, hns, hr⟩ := hx
  obtain ⟨od, ho, hl⟩ := lookIn_ns hns
  have J : PySem.W.InstAt s.heap a oe D (some od) := ⟨hget, hz.1, by unfold PySem.W.notCls; rw [hv] <;> rfl, by rw [hz.2]; exact ho⟩
  exact PySem.W.kia_one (PySem.W.kitx_exc C.hcl C.ga C.gg C.exC C.ha C.hn C.ht C.hm) I.kIn J e (fun z => nomatch z) fun tk => ⟨.bl b, H, I.tok tk, rfl, q⟩
end
end L2
namespace L2
open PySem PySem.Spec PyProof.Rows
section
variable {X : Cx} {CX : CXT} {k : Nat} {f C : Addr} {fd : FuncData} {ps : List Str} {sp : Sp} {E : St → XK} {x m : Str} {p pos apos : Pos} {e o : Expr} {es : List Expr} {ta : TE} {t : TA}
theorem run_makeS {pins : List (Addr × Obj)} {σ : St} {H : Hp} {s : Shared} {Q : VK} {us : List Value} {vs : List V} (M : Mk X.K C f) (F : FnOk X.prog X.w X.K X.mg X.base CX k f fd ps sp) (hr : Room (k + 1) X.A) (hb : Binds X.K fd ps [])
    (hx : PassesAt CX X σ (E σ)) (I : Inv X pins σ H s) (r : Vals vs us)
    (h : ∀ x dx, H x = none → H dx = none → dx ≠ x → sp (.ref x :: vs) (upd (upd H dx (.own x)) x (.ins C dx [])) (fun v H2 => v = .non ∧ Q (.ref x) H2) (E σ)) :
    wpAny (model X.prog X.w) X.A (call (.ref C) us) (EP X pins σ Q) X.xe s := by
  have hq := h (s.heap.objs.size + 1) s.heap.objs.size (I.hok.fresh (Nat.le_succ _)) (I.hok.fresh (Nat.le_refl _)) (Nat.ne_of_lt (Nat.lt_succ_self _))
  have I2 := Inv.made (C := C) I
  have r2 : Vals (V.ref (s.heap.objs.size + 1) :: vs) (Value.ref (s.heap.objs.size + 1) :: us) := .cons rfl r
  have hl : (Value.ref (s.heap.objs.size + 1) :: us).length = ps.length := by
    have e := r2.length
    rw [F.len _ _ _ _ hq] at e
    exact e.symm
  have b := hb { s with heap := _ } (Value.ref (s.heap.objs.size + 1) :: us) I2.kIn (by rw [List.append_nil]; exact hl)
  rw [List.append_nil] at b
  refine wpAny_call (make_map (f := f) I.kIn M.makes M.init (beq_iff_eq.mp M.fn) (codeAny_mono (F.run _ X.stack _ _ ⟨Value.ref (s.heap.objs.size + 1) :: us, []⟩ (Value.ref (s.heap.objs.size + 1) :: us) _ _ (E σ) (hr.make C us [])
    (I2.env0.make C us []) b r2 hq) fun r s' hq' => ?_))
  cases r with
  | error e => exact hx pins _ _ e s' I2 hq'
  | ok fl =>
    cases fl with
    | ret u =>
      obtain ⟨v, H', I3, rv, ev, q3⟩ := I2.after hq'
      subst ev
      exact ⟨rv, ⟨V.ref (s.heap.objs.size + 1), H', I3, rfl, q3⟩⟩
    | next => exact False.elim hq'
    | brk => exact False.elim hq'
    | cont => exact False.elim hq'
/-- C(..), where an except clause waits -/
def tMakeS (C : Addr) (sp : Sp) (E : St → XK) (t : TA) : TE := fun σ H Q => t σ H fun vs H1 => ∀ x dx, H1 x = none → H1 dx = none → dx ≠ x →
  sp (.ref x :: vs) (upd (upd H1 dx (.own x)) x (.ins C dx [])) (fun v H2 => v = .non ∧ Q (.ref x) H2) (E σ)
theorem pe_makeS (M : Mk X.K C f) (F : FnOk X.prog X.w X.K X.mg X.base CX k f fd ps sp) (hr : Room (k + 1) X.A) (hg : Gl X x) (hm : X.mg x = some (.ref C)) (hb : Binds X.K fd ps []) (hx : ∀ σ, PassesAt CX X σ (E σ))
    (ha : PA X (e :: es) t) (hdb : (x == ("__debug__" : Str)) = false := by decide) (he : starEach (e :: es) X.env = (false, eval e X.env) :: starEach es X.env := by rfl) (hpl : (backTo pos (starEach es X.env)).any (·.1) = false := by rfl) :
    PE X (.Call (.Name x p) (e :: es) [] pos) (tMakeS C sp E t) := by
  refine ⟨fun pins s σ H Q I h => ?_⟩
  refine wpAny_Call_Name_kw (ld_glob I hg hm ?_ hdb)
  refine PySem.W.callWith_K (h₀ := X.base) I.ok.mod.kin M.kp (thn (ha.run pos pins s σ H _ I h) fun us s1 ⟨vs, H1, I1, r, q⟩ => ⟨I1.kIn, ?_⟩) he hpl
  exact run_makeS M F hr hb (hx σ) I1 r q
end
end L2
namespace L2
open PySem PySem.Spec PyProof.Rows
/-- no error is wished for: none comes -/
theorem passE0 {X : Cx} : Passes (L2.CX X.prog X.w) X E0 := fun _ _ _ _ _ _ _ ⟨_, _, _, _, _, _, _, _, _, _, _, _, h⟩ => h.elim
end L2
namespace L2
open PySem PySem.Spec PyProof.Rows
section
variable {X : Cx} {K : PySem.W.Frag} {CX : CXT} {k : Nat} {f C : Addr} {fd : FuncData} {ps : List Str} {sp : Sp} {E : XK}
/-- op_neO, op_eqO with the frame named: within comprehensions -/
theorem op_neK (hK : X.K = K) (hne : PySem.W.findIn X.K (.ref C) "__ne__" = some (some (.builtin "object.__ne__"))) (hs : PySem.W.findIn X.K (.ref C) "__eq__" = some (some (.ref f))) (hf : PySem.W.isFn X.K (.ref f) = true) (hm : PySem.W.mroIn X.K C (.type "object") = some true)
    (F : FnOk X.prog X.w X.K X.mg X.base CX k f fd ps sp) (hr : Room (k + 1) X.A) (hb : Binds X.K fd ps []) (hx : Passes CX X E) : OpR X (compareOp .NotEq) (rNeO K C sp E) := by
  subst hK
  exact op_neO hne hs hf hm F hr hb hx
theorem op_eqK (hK : X.K = K) (hs : PySem.W.findIn X.K (.ref C) "__eq__" = some (some (.ref f))) (hf : PySem.W.isFn X.K (.ref f) = true)
    (F : FnOk X.prog X.w X.K X.mg X.base CX k f fd ps sp) (hr : Room k X.A) (hb : Binds X.K fd ps []) (hx : Passes CX X E) : OpR X (compareOp .Eq) (rEqO K C sp E) := by
  subst hK
  exact op_eqO hs hf F hr hb hx
end
end L2

set_option Elab.async false
set_option linter.all false
set_option maxRecDepth 100000
set_option maxHeartbeats 4000000
/-! An own exception whose __init__ takes nothing and says super().__init__('..') alone. -/
namespace PySem
namespace SupX
open PySem.W PySem.Calls PyProof.Rows PySem.HandSPX
def nA (p1 : Pos) : Arguments := { posonlyargs := [], args := [{ arg := "self", annotation := none, pos := p1 }], vararg := none, kwonlyargs := [], kw_defaults := [], kwarg := none, defaults := [] }
def nS : Scope := { kind := .function, names := [(PySem.Str.ofString "self", .local), (PySem.Str.ofString "__class__", .free), (PySem.Str.ofString "super", .globalImplicit)], isGenerator := false, isCoroutine := false, more := [] }
def IsN (ar : Arguments) (bd : List Stmt) (sc : Scope) : Prop := ∃ (msg : Str) (p1 q0 q1 q2 q3 q4 q5 : Pos), ar = nA p1 ∧ bd = [iE msg q0 q1 q2 q3 q4 q5] ∧ sc = nS ∧ (q2.endLine == q4.line) = true ∧
  ∀ (qual : Str) (doc pm ct : Value) (an : Option Addr) (cda cc : Addr) (x : Value), bindArgs (ksFn "__init__" qual ar bd sc .none .none doc pm an (.ref cda) ct cc) ⟨[x], []⟩ = pure [(("self" : Str), x)]
structure NilTxt (K : Frag) (mg : Str → Option Value) (P : Program) (C fI : Addr) : Prop where
  cls : ∃ nm q N bs bm sn sub ab col dd k0 k1 k2 k3 k5, K.lookup C = some (excClassObj nm q C N bs bm true sn sub ab col dd k0 k1 k2 k3 k5 "ValueError.__new__") ∧ refsVE bm = true
  iC : findIn K (.ref C) "__init__" = some (some (.ref fI))
  tC : typeIn K (.ref fI) = some (.type "function")
  kC : keepIn K (.ref C) = true
  veC : subIn K (.ref C) (.type "ValueError") = some true
  sup : ks_superIn K C C "__init__" = some (some (.builtin "ValueError.__init__"))
  opq : nsIn K cStatics "thirdparty.any" = some none
  own : mroIn K C (.ref C) = some true
  nos : mg "super" = none
  top : (P.main.scope.names.lookup ("super" : Str)).isSome = false
  fn : ∃ (oc : Value) (od : Option Addr) (qual : Str) (ar : Arguments) (bd : List Stmt) (sc : Scope) (doc pm : Value) (an : Option Addr) (cda cc : Addr) (ct : Value) (osl : Array (Option Value)) (ccl : Value) (cdd : Option Addr) (vs : Array Value) (ccs : Array (Option Value)) (file : Str) (tf : Tok) (cl : Value) (cld : Option Addr) (csl : Array (Option Value)),
    K.lookup fI = some ⟨oc, od, .func (ksFn "__init__" qual ar bd sc .none .none doc pm an (.ref cda) ct cc), osl⟩ ∧ codeIn K (.ref cda) qual = true ∧ IsN ar bd sc ∧
    K.lookup cda = some ⟨ccl, cdd, .fields vs, ccs⟩ ∧ vs[2]? = some (.str file tf) ∧ ((P.main.file : Str) == file) = true ∧ K.lookup cc = some ⟨cl, cld, .cell (some (.ref C)), csl⟩
structure NilMade (h h' : Heap) (e C : Addr) : Prop where
  keep : ∀ b o, h.get? b = some o → h'.get? b = some o
  new : h.objs.size ≤ e
  obj : ∃ t1 : Addr, h'.get? e = some (excO C t1)
section
variable {prog : Program} {w : World} {A : Around} {E : Value → Shared → Prop} {R : Result → Shared → Prop} {s : Shared} {K : Frag} {mg mb : Str → Option Value} {C fI : Addr}
theorem nil_init (T : NilTxt K mg prog C fI) {x t0 : Addr} (X : K.In s.heap) (hlim : s.heap.NoLimit) (hG : s.heap.Ns mainGlobals mg) (hB : s.heap.Ns builtinsNs mb) (hb : mb "super" = some (.type "super")) (hx : s.heap.get? x = some (excO C t0)) (hroom : A.depth < recursionLimit)
    (hq : ∀ h' tk t1, (∀ b o, b ≠ x → s.heap.get? b = some o → h'.get? b = some o) → h'.get? x = some (excO C t1) → R (.ok (.ret .none)) { s with heap := h', toks := tk }) :
    codeAny (model prog w) A (.call (.ref fI) ⟨[.ref x], []⟩) R s := by
  obtain ⟨oc, od, qual, ar, bd, sc, doc, pm, an, cda, cc, ct, osl, ccl, cdd, vs, ccs, file, tf, cl, cld, csl, ho, hcd, hI, hcode, hvs, hfile, hcell⟩ := T.fn
  obtain ⟨msg, p1, q0, q1, q2, q3, q4, q5, rfl, rfl, rfl, hln, hbnd⟩ := hI
  obtain ⟨nm, q, N, bs, bm, sn, sub, ab, col, dd, k0, k1, k2, k3, k5, hC, hbm⟩ := T.cls
  have lself : nS.names.lookup ("self" : Str) = some .local := by decide
  have lsup : nS.names.lookup ("super" : Str) = some .globalImplicit := by decide
  have lcls : nS.names.lookup ("__class__" : Str) = some .free := by decide
  have hcl : clsIn K C = some { name := nm, bases := bs, mro := .ref C :: bm, ns := N, qualname := q, hasDict := true, slotNames := sn, subclasses := sub, abstract := ab, collection := col, hasDel := false } := by unfold clsIn; rw [hC] <;> rfl
  refine ks_codeAny_call_defAt (fd := ksFn "__init__" qual (nA p1) [iE msg q0 q1 q2 q3 q4 q5] nS .none .none doc pm an (.ref cda) ct cc) (body := [iE msg q0 q1 q2 q3 q4 q5]) (binds := [("self", .ref x)]) hroom (X _ _ ho) rfl hlim (codeRec_of X hcd) rfl
    (BindsTo.of_eq ?bb) ?hc ?hl (fun h₁ hns hk₁ => ?_) rfl rfl rfl
  case bb => exact hbnd _ _ _ _ _ _ _ _
  case hc =>
    intro y hy
    have hy : y ∈ [(("self" : Str), NameKind.local), ("__class__", .free), ("super", .globalImplicit)] := hy
    simp only [List.mem_cons, List.not_mem_nil, or_false] at hy
    rcases hy with rfl | rfl | rfl <;> exact fun z => nomatch z
  case hl =>
    intro y hy
    simp only [List.mem_cons, List.not_mem_nil, or_false] at hy
    subst hy
    exact lself
  have X₁ : K.In h₁ := X.keeps hk₁
  have hx₁ := hk₁ _ _ hx
  have eself : ([("self", Value.ref x)] : List (Str × Value)).reverse.lookup ("self" : Str) = some (.ref x) := by
    show List.lookup ("self" : Str) [(("self" : Str), Value.ref x)] = _
    simp [List.lookup]
  show _root_.PySem.wpAt (model prog w) _ (.func _ (ksEnv qual nS s.heap.objs.size fI (.ref cda) cc)) (execs _ (ksEnv qual nS s.heap.objs.size fI (.ref cda) cc)) _ _ _
  obtain ⟨pl, hpl⟩ := he_of (msg := msg) (q0 := q0) (q1 := q1) (q3 := q3) hln (ksEnv qual nS s.heap.objs.size fI (.ref cda) cc)
  refine ks_wpAt_execs_cons (ks_wpAt_Expr_any (ks_wpAt_MethodCall ?_ hpl))
  refine ks_wpAt_super_base (env := ksEnv qual nS s.heap.objs.size fI (.ref cda) cc) (ar := { arg := "self", annotation := none, pos := p1 }) lsup lcls (by decide) rfl (X₁ _ _ ho) rfl rfl rfl (X₁ _ _ hcode) rfl hvs hfile T.top ?_
  refine ks_loadName_global rfl lsup (loadGlobal_builtin (env := ksEnv qual nS s.heap.objs.size fI (.ref cda) cc) (mg := mg) (mb := mb) (hG.keeps hk₁) T.nos (hB.keeps hk₁) hb ⟨rfl, ?_⟩)
  refine wpAny_loadName_free rfl lcls rfl ⟨_, X₁ _ _ hcell, rfl⟩ ?_
  refine wpAny_loadName_local rfl lself hns eself ?_
  refine ks_wpAny_isType_cls (X₁ _ _ hC) rfl ⟨rfl, ?_⟩
  refine ks_wpAny_call_super (X₁ _ _ hC) rfl hx₁ rfl (fun c z => nomatch z) (looks_mroIn X₁ T.own) (fun h₂ e₂ k₂ => ?_)
  have X₂ : K.In h₂ := X₁.keeps k₂
  have hx₂ := k₂ _ _ hx₁
  have hsup := T.sup
  unfold ks_superIn at hsup
  rw [hcl] at hsup
  have I₂ : InstAt h₂ x (excO C t0) C none := ⟨hx₂, rfl, rfl, trivial⟩
  refine kxs_getMethod kxs_ValueError e₂ (looks_opaque X₂ T.opq) (l₀ := .ref C :: bm) (fun A Q E s k q => wpAny_bind ((looks_clsIn X₂ hcl) A _ E s k (wpAny_pure q))) rfl X₂ hsup (I₂.type.andThen (looks_subIn X₂ T.veC)) (ks_ne X₂ I₂ hcl) (by decide) ?_
  have k₃ : ∀ b o, h₂.get? b = some o → (h₂.push (kxs_mw "ValueError.__init__" x)).get? b = some o := fun b o e => Heap.get?_push_of_some _ e
  refine kxs_callWith (i := "ValueError.__init__") (x := x) rfl ?_
  refine evalArgs_plain (spliced_cons (Constant_str (k := 0) (pos := q3) (spliced_nil ⟨Heap.get?_push_size _ rfl, ?_⟩)))
  have X₃ := X₂.keeps k₃
  refine call_mw (X₃ _ _ hC) (k₃ _ _ hx₂) (Heap.get?_push_size _ rfl) (one_size _) fun h₄ t1 k₄ hx₄ => ?_
  exact wpAt_of_wpAny (wpAny_execs_nil (hq h₄ _ t1 (fun b o hb e => k₄ b o hb (k₃ _ _ (k₂ _ _ (hk₁ _ _ e)))) hx₄))
/-- C() -/
theorem nil_made (T : NilTxt K mg prog C fI) (X : K.In s.heap) (hlim : s.heap.NoLimit) (hG : s.heap.Ns mainGlobals mg) (hB : s.heap.Ns builtinsNs mb) (hb : mb "super" = some (.type "super")) (hroom : A.depth + 1 < recursionLimit)
    (hq : ∀ h' tk e, NilMade s.heap h' e C → R (.ok (.ret (.ref e))) { s with heap := h', toks := tk }) :
    codeAny (model prog w) A (.call (.ref C) ⟨[], []⟩) R s := by
  obtain ⟨nm, q, N, bs, bm, sn, sub, ab, col, dd, k0, k1, k2, k3, k5, hC, hbm⟩ := T.cls
  obtain ⟨hp, g, dr, tk, os⟩ := s
  have k : ∀ b o, hp.get? b = some o → ((hp.push (kdv_tup [])).push (excO C hp.objs.size)).get? b = some o := fun b o e => Heap.get?_push_of_some _ (Heap.get?_push_of_some _ e)
  have hget : ((hp.push (kdv_tup [])).push (excO C hp.objs.size)).get? (hp.objs.size + 1) = some (excO C hp.objs.size) := by heap_get
  refine call_own F.excBase_ValueError (fun X => refsVE_contains X bm hbm) (X _ _ hC) (looks_findIn X T.iC) (fun self => bind_fn X self T.tC) (by rw [sizeLine_eq]; exact Nat.zero_le _) ?_
  refine nil_init (mb := mb) (s := ⟨(hp.push (kdv_tup [])).push (excO C hp.objs.size), g, dr, tk, os⟩) T (X.keeps k) (hlim.keeps k) (hG.keeps k) (hB.keeps k) hb hget ?_ fun h' tk' t1 k' hx => ?_
  · show A.depth + 1 < recursionLimit
    exact hroom
  · have old : ∀ b o, hp.get? b = some o → h'.get? b = some o := fun b o e => k' b o (Nat.ne_of_lt (Nat.lt_succ_of_lt (Heap.lt_size e))) (k b o e)
    exact ⟨rfl, hq h' tk' (hp.objs.size + 1) ⟨old, Nat.le_succ _, ⟨t1, hx⟩⟩⟩
end
end SupX
end PySem
namespace L2
open PySem PySem.Spec PyProof.Rows
section
variable {X : Cx} {C fI : Addr}
/-- C() as a value -/
def tValNil (C : Addr) : TE := fun _ H Q => ∀ e, H e = none → Q (.ref e) (upd H e (exo e C none))
theorem pe_valNil {x : Str} {p pos : Pos} {k : Nat} (T : PySem.SupX.NilTxt X.K X.mg X.prog C fI) (gC : X.mg x = some (.ref C)) (hr : Room k X.A) (hg : Gl X x := by rfl) (hdb : (x == ("__debug__" : Str)) = false := by decide) :
    PE X (.Call (.Name x p) [] [] pos) (tValNil C) := by
  refine ⟨fun pins s σ H Q I h => ?_⟩
  refine wpAny_Call_Name_kw (ld_glob I hg gC ?_ hdb)
  refine PySem.W.callWith_K0 I.kIn T.kC ?_
  have hlim := I.nolimit
  obtain ⟨mb, hB, hb⟩ := I.mod.blt
  have hsb : mb "super" = some (.type "super") := (hb "super" (by decide)).trans PyProof.Rows.Boot.«super»
  obtain ⟨hp, g, dr, tk, os⟩ := s
  refine wpAny_call (PySem.SupX.nil_made (mb := mb) T I.kIn hlim (I.mod.glob.keeps I.bk) (hB.keeps I.bk) hsb (by have := hr.dp; omega) fun h' tk' e M => ?_)
  obtain ⟨t1, hoe⟩ := M.obj
  have ne : H e = none := I.hok.fresh M.new
  exact ⟨.ref e, _, I.laid (t' := tk') (a := e) (o := exo e C none) M.keep M.new (exo_ok hoe), rfl, h e ne⟩
/-- isinstance(e, c), e a tracked exception without a field -/
def rIsN (K : PySem.W.Frag) : List V → Hp → VK → Prop := fun xs H Q => ∃ (a C : Addr) (c : V) (u : Value) (b : Bool), xs = [.ref a, c] ∧ ExiC K C ∧ H a = some (exo a C none) ∧ (∀ w, RelV c w → w = u) ∧ PySem.W.kitOne K (.ref C) u = some b ∧ Q (.bl b) H
theorem call_isN : CallR X (.builtin "isinstance") (rIsN X.K) := by
  intro pins s σ H xs us Q I r h
  obtain ⟨a, C, c, u, b, rfl, T, ea, k, e, q⟩ := h
  obtain ⟨u1, u2, rfl, r1, r2⟩ := vals2 r
  have e2 := k _ r2
  subst e2
  cases (show u1 = Value.ref a from r1)
  obtain ⟨t1, ho⟩ := exo_at I.hok ea
  have J : PySem.W.InstAt s.heap a _ C none := ⟨ho, rfl, rfl, trivial⟩
  exact PySem.W.kia_one (PySem.W.kitx_exc T.hcl T.ga T.gg T.exC T.ha T.hn T.ht T.hm) I.kIn J e (fun z => nomatch z) fun tk => ⟨.bl b, H, I.tok tk, rfl, q⟩
/-- with a field or without -/
theorem call_any2 {f : Value} {r1 r2 : List V → Hp → VK → Prop} (h1 : CallR X f r1) (h2 : CallR X f r2) : CallR X f (fun xs H Q => r1 xs H Q ∨ r2 xs H Q) := by
  intro pins s σ H xs us Q I r h
  rcases h with h | h
  · exact h1 pins s σ H xs us Q I r h
  · exact h2 pins s σ H xs us Q I r h
theorem op_any2 {op : Value → Value → Sem Value} {r1 r2 : R2} (h1 : OpR X op r1) (h2 : OpR X op r2) : OpR X op (fun x y H Q => r1 x y H Q ∨ r2 x y H Q) := by
  intro pins s σ H x y v u Q I rx ry h
  rcases h with h | h
  · exact h1 pins s σ H x y v u Q I rx ry h
  · exact h2 pins s σ H x y v u Q I rx ry h
end
end L2

set_option Elab.async false
set_option linter.all false
set_option maxRecDepth 100000
set_option maxHeartbeats 4000000
namespace Toy
open PySem L2 TL EM
def top (i : Nat) : Stmt := PySem.Challenge.pw_whoseday_k00_errors_made_from_their_fiel.main.body.getD i (.Pass ⟨0, 0, 0, 0⟩)
/-- the built-ins that no name of the module hides -/
structure TB (mg : Str → Option Value) : Prop where
  int : mg "int" = none
  len : mg "len" = none
  all : mg "all" = none
  isinstance : mg "isinstance" = none
  str : mg "str" = none
  list : mg "list" = none
  range : mg "range" = none
  any : mg "any" = none
  abs : mg "abs" = none
  sorted : mg "sorted" = none
  bool : mg "bool" = none
def optI : Option Int → V
  | none => .non
  | some n => .int n
theorem tl_cut1 (t : Str) : tl (cutS t (some 1) none) = (tl t).drop 1 := by
  show (((tl t).drop (HT.sIx t.length 0 (some 1))).take (t.length - HT.sIx t.length 0 (some 1))) = _
  have e : HT.sIx t.length 0 (some 1) = min 1 t.length := HT.sIx_nat t.length 0 1
  rw [e]
  have hl : t.length = (tl t).length := len_tl t
  rw [hl]
  generalize tl t = l
  cases l with
  | nil => rfl
  | cons a r =>
    have e1 : min 1 (a :: r).length = 1 := by simp
    rw [e1]
    show (r.take ((a :: r).length - 1)) = r
    exact List.take_of_length_le (by simp)
theorem tl_head1 (t : Str) : tl (cutS t none (some 1)) = (tl t).take 1 := by
  show (((tl t).drop 0).take (HT.sIx t.length t.length (some 1) - 0)) = _
  have e : HT.sIx t.length t.length (some 1) = min 1 t.length := HT.sIx_nat t.length t.length 1
  rw [e, List.drop_zero]
  have hl : t.length = (tl t).length := len_tl t
  rw [hl]
  cases tl t with
  | nil => rfl
  | cons a r => simp
theorem str_eq {a b : Str} : (V.str a = V.str b) ↔ tl a = tl b := ⟨fun h => by cases h; rfl, fun h => by rw [ext_tl h]⟩
theorem dash : tl (Str.ofString "-") = [45] := by decide +kernel
theorem zero : tl (Str.ofString "0") = [48] := by decide +kernel
section
variable {P : Program} {w : World} {K : PySem.W.Frag} {mg : Str → Option Value} {base : Heap}
def spNum : Sp := fun vs H Q _ => ∃ t : Str, vs = [.str t] ∧ t.length ≤ 100000 ∧ ∀ H', Same H H' → Q (optI (numberOf (tl t))) H'
abbrev s_number_of : Stmt := top 31
theorem sc_number_of : FnScope ["text", "digits", "sign"] ["text"] (defScope s_number_of) := ⟨rfl, rfl, rfl, by decide +kernel, rfl, by decide +kernel, by decide +kernel⟩

theorem ok_number_of {f : Addr} {fd : FuncData} (F : Fun K "number_of" "number_of" s_number_of f fd) (T : TB mg) (hD : ∃ t, mg "DIGITS" = some (.str "0123456789" t)) (hM : ∃ t, mg "MOST_DIGITS" = some (.int 30 t)) : FnOk P w K mg base CX0 1 f fd ["text"] spNum := by
  obtain ⟨tD, g_DIGITS⟩ := hD
  obtain ⟨tM, g_MOST_DIGITS⟩ := hM
  refine F.ok sc_number_of (fun vs H Q E h => ?_) (fun cdv A outer s H vs Q E hr h => ?_)
  · obtain ⟨t, rfl, _⟩ := h
    rfl
  · obtain ⟨t, rfl, ht, k⟩ := h
    refine ⟨_, (Evl.pss_cut (ps_set (i := 1) sc_number_of.nd rfl (Or.inl rfl) (pe_ifExp (pt_cmpR op_eq (pe_slice sl_str (pv 0) po_none (po_some pe_int)) pe_str (nomark _)) (pe_slice sl_str (pv 0) (po_some pe_int) po_none) (pv 0)))
      (pss_cons (ps_if (PW.pt (pw_or (pt_not (pt_chain op_le op_le pe_int (pe_callB call_len_str (by rfl) T.len PySem.boot_len (pa_cons (pv 1) pa_nil)) (pe_glob (v := .int 30) rfl g_MOST_DIGITS ⟨_, rfl⟩))) (pw_or1 (pt_not (pt_val (pe_callB (cr_all rfl) (by rfl) T.all (by decide +kernel) (pa_cons (pe_lc (own := [("sign", 2)]) (g := gName 2) (by rfl) sc_number_of.nd (pi_str (pv 1)) (blkOk_by (own := [("sign", 2)]) (N := ["text", "digits", "sign"]) (sc := defScope s_number_of) (by decide +kernel)) (fun _ _ _ _ _ => pg_name (i := 2) sc_number_of.nd rfl (Or.inl rfl)) (fun _ _ _ _ _ => pts_nil) (fun _ _ _ _ _ => (pe_cmpR op_in_sign (pv 2) (pe_glob (v := .str "0123456789") rfl g_DIGITS ⟨_, rfl⟩) rfl))) pa_nil)))))))
        (pss_one (ps_ret pe_non))
        pss_nil)
      (pss_cons (ps_if (PW.pt (pw_and (pt_cmpR op_eq (pe_ix ix_str (pv 1) pe_int (fun _ _ => rfl)) pe_str (nomark _)) (pw_and1 (pt_cmpR op_ne (pv 0) pe_str (nomark _)))))
        (pss_one (ps_ret pe_non))
        pss_nil)
      (pss_one (ps_ret (pe_callTy call_int_str (by rfl) T.int (by decide +kernel) (pa_cons (pv 0) pa_nil))))))), ?_⟩
    have hz : ∀ {x : Str}, x.length ≤ 100000 → x.length ≤ sizeLine := fun h => Evl.sz_of h
    -- digits
    refine ⟨fun σ' H' => H' = H ∧ ∃ d : Str, tl d = digs (tl t) ∧ d.length ≤ 100000 ∧ σ' = [some (.str t), some (.str d), none], ?_, ?_⟩
    · refine ⟨_, rfl, _, rfl, _, rfl, hz ht, rfl, _, rfl, ?_⟩
      by_cases hm : (tl t).take 1 = [45]
      · have e : V.str (cutS t none (some 1)) = V.str "-" := str_eq.mpr (by rw [tl_head1, hm, dash])
        rw [decide_eq_true e]
        refine iteT ?_
        refine ⟨_, rfl, _, rfl, _, rfl, hz ht, rfl, _, ?_, ?_, rfl⟩
        · rw [tl_cut1]; exact (if_pos hm).symm
        · exact Nat.le_trans (cutS_length t _ _) ht
      · have e : ¬ V.str (cutS t none (some 1)) = V.str "-" := fun z => hm (by have := str_eq.mp z; rw [tl_head1, dash] at this; exact this)
        rw [decide_eq_false e]
        refine iteF ?_
        exact ⟨_, rfl, rfl, _, (if_neg hm).symm, ht, rfl⟩
    · rintro σ' H' ⟨rfl, d, hd, hdl, rfl⟩
      have hdl' : d.length = (digs (tl t)).length := by rw [len_tl, hd]
      have hlen : (d.length : Int) = ((digs (tl t)).length : Int) := by rw [hdl']
      -- the refusal by its length or its signs
      have no : numOk (tl t) = false → Q .non H' := fun hk => by
        have := k H' (Same.refl _)
        unfold numberOf at this
        rw [hk, if_neg Bool.false_ne_true] at this
        exact this
      refine ⟨_, rfl, _, rfl, hz hdl, _, _, rfl, rfl, _, rfl, ?_⟩
      rw [hlen]
      by_cases h1 : (1 : Int) ≤ ((digs (tl t)).length : Int)
      · rw [decide_eq_true h1]
        refine iteT ⟨_, _, rfl, rfl, _, rfl, ?_⟩
        by_cases h2 : ((digs (tl t)).length : Int) ≤ 30
        · rw [decide_eq_true h2]
          refine iteF ?_
          -- all([sign in DIGITS for sign in digits])
          refine ⟨_, rfl, _, rfl, fun D hD => ?_⟩
          refine lc_map walk_str (n := d.cps.size) (by have : d.cps.size = d.length := rfl; omega) (fun i => .bl (isDig ((tl d).getD i 0))) hD (fun _ _ => trivial) (fun i H x H' _ y => by rw [y.1]; exact Same.refl _) (fun x => rfl) ?_ ?_
          · rintro i x H2 H3 hi s2 ⟨rfl, c, hc, rfl⟩ H4 Q' s4 q
            refine ⟨_, rfl, c, _, rfl, rfl, ?_⟩
            have e : (tl d).getD i 0 = c := by
              have : (tl d)[i]? = some c := by rw [← hc]; simp [tl]
              rw [List.getD_eq_getElem?_getD, this]; rfl
            have := q H4 (Same.refl _)
            rw [e] at this
            exact this
          · intro H2 s2 hl
            have el : (List.range d.cps.size).map (fun i => V.bl (isDig ((tl d).getD i 0))) = ((tl d).map isDig).map V.bl := by
              rw [List.map_map]
              have e0 : d.cps.size = (tl d).length := by simp [tl]
              rw [e0]
              exact range_mapX (fun c => V.bl (isDig c)) _ (tl d) (fun i x hx => by rw [List.getD_eq_getElem?_getD, hx]; rfl)
            rw [el] at hl
            refine ⟨D, _, rfl, SqL.of hl, _, rfl, ?_⟩
            rw [bls_all, hd]
            by_cases h3 : (digs (tl t)).all isDig = true
            · rw [h3]
              refine iteF ?_
              have hne : digs (tl t) ≠ [] := by intro z; rw [z] at h1; simp at h1
              obtain ⟨c, r, hcr⟩ : ∃ c r, tl d = c :: r := by
                rw [hd]
                cases q : digs (tl t) with
                | nil => exact absurd q hne
                | cons c r => exact ⟨c, r, rfl⟩
              have hat : atI d.cps.toList 0 = some c := atI_nat (j := 0) (by show (tl d)[0]? = some c; rw [hcr]; rfl)
              refine ⟨_, rfl, _, _, c, rfl, rfl, hz hdl, hat, rfl, _, rfl, ?_⟩
              have e0 : (V.str ⟨#[c]⟩ = V.str "0") ↔ (digs (tl t)).head? = some 48 := by
                rw [str_eq, zero, ← hd, hcr]
                show [c] = [48] ↔ some c = some 48
                simp
              have fin : (digs (tl t)).head? ≠ some 48 ∨ tl t = [48] → ∃ v, [some (V.str t), some (V.str d), none][0]? = some (some v) ∧ ∃ a n, [v] = [V.str a] ∧ intText? a = some n ∧ a.length ≤ 640 ∧ Q (V.int n) H2 := fun hh => by
                have ok : numOk (tl t) = true := by
                  unfold numOk
                  rw [h3, decide_eq_true (show 1 ≤ (digs (tl t)).length by omega), decide_eq_true (show (digs (tl t)).length ≤ 30 by omega)]
                  rcases hh with hh | hh
                  · rw [decide_eq_false hh]; rfl
                  · rw [decide_eq_false (show ¬ tl t ≠ [48] from fun z => z hh)]; simp
                obtain ⟨i1, i2⟩ := intText_numOk ok
                refine ⟨_, rfl, t, _, rfl, i1, by omega, ?_⟩
                have := k H2 s2
                unfold numberOf at this
                rw [if_pos ok] at this
                exact this
              by_cases h4 : (digs (tl t)).head? = some 48
              · rw [decide_eq_true (e0.mpr h4)]
                refine iteT ⟨_, rfl, rfl, _, rfl, ?_⟩
                by_cases h5 : tl t = [48]
                · rw [decide_eq_true (show V.str t = V.str "0" from str_eq.mpr (by rw [h5, zero]))]
                  exact iteF (fin (.inr h5))
                · rw [decide_eq_false (show ¬ V.str t = V.str "0" from fun z => h5 (by have := str_eq.mp z; rw [zero] at this; exact this))]
                  refine iteT ?_
                  have := k H2 s2
                  unfold numberOf at this
                  rw [if_neg] at this
                  · exact this
                  · unfold numOk
                    rw [decide_eq_true h4, decide_eq_true (show tl t ≠ [48] from h5)]
                    simp
              · rw [decide_eq_false (fun z => h4 (e0.mp z))]
                exact iteF (iteF (fin (.inl h4)))
            · have h3' : (digs (tl t)).all isDig = false := by simpa using h3
              rw [h3']
              refine iteT ?_
              have := k H2 s2
              unfold numberOf at this
              rw [if_neg] at this
              · exact this
              · unfold numOk
                rw [h3']
                simp
        · rw [decide_eq_false h2]
          refine iteT (no ?_)
          unfold numOk
          rw [decide_eq_false (show ¬ (digs (tl t)).length ≤ 30 by omega)]
          simp
      · rw [decide_eq_false h1]
        refine iteF ⟨_, rfl, iteT (no ?_)⟩
        unfold numOk
        rw [decide_eq_false (show ¬ 1 ≤ (digs (tl t)).length by omega)]
        simp
def spIsName (K : PySem.W.Frag) : Sp := fun vs H Q _ => ∃ v, vs = [v] ∧ ((∃ t : Str, v = .str t ∧ t.length ≤ 100000 ∧ ∀ H', Same H H' → Q (.bl (isName (tl t))) H') ∨
  (∃ ty, TyX K H v ty ∧ PySem.W.kitOne K ty (.type "str") = some false ∧ ∀ H', Same H H' → Q (.bl false) H'))
abbrev s_is_name : Stmt := top 30
theorem sc_is_name : FnScope ["word", "sign"] ["word"] (defScope s_is_name) := ⟨rfl, rfl, rfl, by decide +kernel, rfl, by decide +kernel, by decide +kernel⟩

theorem ok_is_name {f : Addr} {fd : FuncData} (F : Fun K "is_name" "is_name" s_is_name f fd) (T : TB mg) (hL : ∃ t, mg "LETTERS" = some (.str "abcdefghijklmnopqrstuvwxyz" t)) (hM : ∃ t, mg "LONGEST_NAME" = some (.int 12 t)) : FnOk P w K mg base CX0 1 f fd ["word"] (spIsName K) := by
  obtain ⟨tL, g_LETTERS⟩ := hL
  obtain ⟨tM, g_LONGEST_NAME⟩ := hM
  refine F.ok sc_is_name (fun vs H Q E h => ?_) (fun cdv A outer s H vs Q E hr h => ?_)
  · obtain ⟨v, rfl, _⟩ := h
    rfl
  · obtain ⟨v, rfl, h⟩ := h
    refine ⟨_, (pss_cons (ps_if (PW.pt (pw_or (pt_not (pt_val (pe_callB call_isi (by rfl) T.isinstance (by decide +kernel) (pa_cons (pv 0) (pa_cons (pe_bltn (v := .ty "str") (by rfl) T.str (by decide +kernel) rfl) pa_nil))))) (pw_or1 (pt_not (pt_chain op_le op_le pe_int (pe_callB call_len_str (by rfl) T.len PySem.boot_len (pa_cons (pv 0) pa_nil)) (pe_glob (v := .int 12) rfl g_LONGEST_NAME ⟨_, rfl⟩))))))
        (pss_one (ps_ret pe_bl))
        pss_nil)
      (pss_one (ps_ret (pe_callB (cr_all rfl) (by rfl) T.all (by decide +kernel) (pa_cons (pe_lc (own := [("sign", 1)]) (g := gName 1) (by rfl) sc_is_name.nd (pi_str (pv 0)) (blkOk_by (own := [("sign", 1)]) (N := ["word", "sign"]) (sc := defScope s_is_name) (by decide +kernel)) (fun _ _ _ _ _ => pg_name (i := 1) sc_is_name.nd rfl (Or.inl rfl)) (fun _ _ _ _ _ => pts_nil) (fun _ _ _ _ _ => (pe_cmpR op_in_sign (pv 1) (pe_glob (v := .str "abcdefghijklmnopqrstuvwxyz") rfl g_LETTERS ⟨_, rfl⟩) rfl))) pa_nil))))), ?_⟩
    rcases h with ⟨t, rfl, ht, k⟩ | ⟨ty, hty, hk, k⟩
    · have hz : t.length ≤ sizeLine := Evl.sz_of ht
      have hl : (t.length : Int) = ((tl t).length : Int) := by rw [len_tl]
      have no : ∀ {H'}, Same H H' → isName (tl t) = false → Q (.bl false) H' := fun s' hk => by
        have := k _ s'
        rw [hk] at this
        exact this
      refine ⟨_, rfl, _, _, _, _, true, rfl, .ty "str", .base (.str t), kit_ty (by decide +kernel), _, rfl, ?_⟩
      refine iteF ⟨_, rfl, _, rfl, hz, _, _, rfl, rfl, _, rfl, ?_⟩
      rw [hl]
      by_cases h1 : (1 : Int) ≤ ((tl t).length : Int)
      · rw [decide_eq_true h1]
        refine iteT ⟨_, _, rfl, rfl, _, rfl, ?_⟩
        by_cases h2 : ((tl t).length : Int) ≤ 12
        · rw [decide_eq_true h2]
          refine iteF ?_
          refine ⟨_, rfl, _, rfl, fun D hD => ?_⟩
          refine lc_map walk_str (n := t.cps.size) (by have : t.cps.size = t.length := rfl; omega) (fun i => .bl (isLet ((tl t).getD i 0))) hD (fun _ _ => trivial) (fun i H x H' _ y => by rw [y.1]; exact Same.refl _) (fun x => rfl) ?_ ?_
          · rintro i x H2 H3 hi s2 ⟨rfl, c, hc, rfl⟩ H4 Q' s4 q
            refine ⟨_, rfl, c, _, rfl, rfl, ?_⟩
            have e : (tl t).getD i 0 = c := by
              have : (tl t)[i]? = some c := by rw [← hc]; simp [tl]
              rw [List.getD_eq_getElem?_getD, this]; rfl
            have := q H4 (Same.refl _)
            rw [e] at this
            exact this
          · intro H2 s2 hl2
            have el : (List.range t.cps.size).map (fun i => V.bl (isLet ((tl t).getD i 0))) = ((tl t).map isLet).map V.bl := by
              rw [List.map_map]
              have e0 : t.cps.size = (tl t).length := by simp [tl]
              rw [e0]
              exact range_mapX (fun c => V.bl (isLet c)) _ (tl t) (fun i x hx => by rw [List.getD_eq_getElem?_getD, hx]; rfl)
            rw [el] at hl2
            refine ⟨D, _, rfl, SqL.of hl2, ?_⟩
            rw [bls_all]
            have := k H2 s2
            unfold isName at this
            rw [decide_eq_true (show 1 ≤ (tl t).length by omega), decide_eq_true (show (tl t).length ≤ 12 by omega)] at this
            exact this
        · rw [decide_eq_false h2]
          refine iteT (no (Same.refl _) ?_)
          unfold isName
          rw [decide_eq_false (show ¬ (tl t).length ≤ 12 by omega)]
          simp
      · rw [decide_eq_false h1]
        refine iteF ⟨_, rfl, iteT (no (Same.refl _) ?_)⟩
        unfold isName
        rw [decide_eq_false (show ¬ 1 ≤ (tl t).length by omega)]
        simp
    · refine ⟨_, rfl, _, _, _, _, false, rfl, .ty "str", hty, hk, _, rfl, ?_⟩
      exact iteT (iteT (k H (Same.refl _)))
end
end Toy

set_option Elab.async false
set_option linter.all false
set_option maxRecDepth 100000
set_option maxHeartbeats 4000000
namespace Toy
open PySem L2 TL EM
section
variable {P : Program} {w : World} {K : PySem.W.Frag} {mg : Str → Option Value} {base : Heap}
def strOf (l : List Nat) : Str := ⟨l.toArray⟩
theorem tl_strOf (l : List Nat) : tl (strOf l) = l := rfl
theorem strOf_tl (s : Str) : strOf (tl s) = s := mk_tl s
def optZ : Option (List Nat) → V
  | none => .non
  | some z => .str (strOf z)
def partsV (p : List Nat × Int × Int × Option (List Nat)) : List V := [.str (strOf p.1), .int p.2.1, .int p.2.2.1, optZ p.2.2.2]
theorem kDay_eq : tl (Str.ofString "day") = kDay := by decide +kernel
theorem kFloat_eq : tl (Str.ofString "float") = kFloat := by decide +kernel
theorem kZoned_eq : tl (Str.ofString "zoned") = kZoned := by decide +kernel
theorem kFixed_eq : tl (Str.ofString "fixed") = kFixed := by decide +kernel
theorem kTo_eq : tl (Str.ofString "to") = kTo := by decide +kernel
theorem str_dec (a b : Str) : decide (V.str a = V.str b) = decide (tl a = tl b) := by
  by_cases h : tl a = tl b
  · rw [decide_eq_true h, decide_eq_true (str_eq.mpr h)]
  · rw [decide_eq_false h, decide_eq_false (fun z => h (str_eq.mp z))]
theorem kinds_in (w : Str) : inV (.str w) [.str "day", .str "float", .str "zoned", .str "fixed"] = isKind (tl w) := by
  have e : ∀ a b : Str, eqV (.str a) (.str b) = decide (tl b = tl a) := fun a b => by
    show (a == b) = _
    by_cases h : tl b = tl a
    · rw [decide_eq_true h, ext_tl h]; exact beq_self_eq_true _
    · rw [decide_eq_false h]
      exact beq_eq_false_iff_ne.mpr (fun z => h (by rw [z]))
  unfold inV isKind
  simp only [List.any_cons, List.any_nil, Bool.or_false, e, kDay_eq, kFloat_eq, kZoned_eq, kFixed_eq, List.mem_cons, List.not_mem_nil, or_false]
  by_cases h1 : tl w = kDay <;> by_cases h2 : tl w = kFloat <;> by_cases h3 : tl w = kZoned <;> by_cases h4 : tl w = kFixed <;> simp [h1, h2, h3, h4]
def spParts : Sp := fun vs H Q _ => ∃ t : Str, vs = [.str t] ∧ t.length ≤ 90000 ∧
  (parts (tl t) = none → ∀ H', Same H H' → Q .non H') ∧ (∀ r, parts (tl t) = some r → ∀ p H', H p = none → Same H H' → H' p = some (.tup (partsV r)) → Q (.ref p) H')
abbrev s_parts_of : Stmt := top 35
theorem sc_parts_of : FnScope ["text", "words", "first", "last"] ["text"] (defScope s_parts_of) := ⟨rfl, rfl, rfl, by decide +kernel, rfl, by decide +kernel, by decide +kernel⟩

theorem ok_parts_of {f : Addr} {fd : FuncData} (F : Fun K "parts_of" "parts_of" s_parts_of f fd) (T : TB mg) (cNum : Cal P w K mg base 1 "number_of" ["text"] spNum) (cNam : Cal P w K mg base 1 "is_name" ["word"] (spIsName K))
    (hK : ∃ a, mg "KINDS" = some (.ref a) ∧ ∀ H, SqT K H a [.str "day", .str "float", .str "zoned", .str "fixed"]) : FnOk P w K mg base CX0 2 f fd ["text"] spParts := by
  obtain ⟨a_KINDS, g_KINDS, sK⟩ := hK
  refine F.ok sc_parts_of (fun vs H Q E h => ?_) (fun cdv A outer s H vs Q E hr h => ?_)
  · obtain ⟨t, rfl, _⟩ := h
    rfl
  · obtain ⟨t, rfl, ht, k0, k1⟩ := h
    have hr1 : Room 1 _ := hr
    refine ⟨_, (pss_cons (ps_set (i := 1) sc_parts_of.nd rfl (Or.inl rfl) (pe_split (pv 0) pe_str))
      (pss_cons (ps_if (PW.pt (pw_or (pt_cmpR op_notIn_seq (pe_ix ix_list (pv 1) pe_int (fun _ _ => rfl)) (pe_glob (v := .ref a_KINDS) rfl g_KINDS rfl) rfl) (pw_or (pt_cmpR op_ne (pe_callB call_len_seq (by rfl) T.len PySem.boot_len (pa_cons (pv 1) pa_nil)) (pe_ifExp (pt_cmpR op_eq (pe_ix ix_list (pv 1) pe_int (fun _ _ => rfl)) pe_str (nomark _)) pe_int pe_int) (nomark _)) (pw_or1 (pt_cmpR op_ne (pe_ix ix_list (pv 1) pe_int (fun _ _ => rfl)) pe_str (nomark _))))))
        (pss_one (ps_ret pe_non))
        pss_nil)
      (pss_cons (ps_par (i := 2) (j := 3) (by rfl) sc_parts_of.nd rfl rfl (by decide) rfl rfl (pa_cons (pe_cal cNum hr1 rfl (pa_cons (pe_ix ix_list (pv 1) pe_int (fun _ _ => rfl)) pa_nil)) (pa_cons (pe_cal cNum hr1 rfl (pa_cons (pe_ix ix_list (pv 1) pe_int (fun _ _ => rfl)) pa_nil)) pa_nil)) (by rfl))
      (pss_cons (ps_if (PW.pt (pw_or (pt_cmpR op_isN (pv 2) pe_non (nomark _)) (pw_or (pt_cmpR op_isN (pv 3) pe_non (nomark _)) (pw_or1 (pt_cmpR op_gt (pv 2) (pv 3) (nomark _))))))
        (pss_one (ps_ret pe_non))
        pss_nil)
      (pss_cons (ps_if (pt_cmpR op_ne (pe_ix ix_list (pv 1) pe_int (fun _ _ => rfl)) pe_str (nomark _))
        (pss_one (ps_ret (pe_tup (pa_cons (pe_ix ix_list (pv 1) pe_int (fun _ _ => rfl)) (pa_cons (pv 2) (pa_cons (pv 3) (pa_cons pe_non pa_nil)))))))
        pss_nil)
      (pss_one (ps_ret (pe_ifExp (pt_val (pe_cal cNam hr1 rfl (pa_cons (pe_ix ix_list (pv 1) pe_int (fun _ _ => rfl)) pa_nil))) (pe_tup (pa_cons (pe_ix ix_list (pv 1) pe_int (fun _ _ => rfl)) (pa_cons (pv 2) (pa_cons (pv 3) (pa_cons (pe_ix ix_list (pv 1) pe_int (fun _ _ => rfl)) pa_nil))))) pe_non)))))))), ?_⟩
    refine ⟨_, rfl, ⟨_, rfl⟩, _, _, rfl, rfl, rfl, (Nat.le_trans (show t.length + 2 ≤ 100000 by omega) (by decide)), fun p hp => ?_⟩
    have hsp : (Txt.split t " ").map tl = spl [32] 0 [] (tl t) := by
      have e : tl (Str.ofString " ") = [32] := by decide +kernel
      rw [split_spl t " " (by rw [e]; simp) (kind_ok (by decide +kernel)), e]
    have hp1 : (upd H p (.lst ((Txt.split t " ").map V.str))) p = some (.lst ((Txt.split t " ").map V.str)) := upd_same
    have s1 : Same H (upd H p (.lst ((Txt.split t " ").map V.str))) := Same.new hp
    have hpar : parts (tl t) = partsW ((Txt.split t " ").map tl) := by unfold parts; rw [hsp]
    rw [hpar] at k0 k1
    generalize upd H p (.lst ((Txt.split t " ").map V.str)) = H1 at hp1 s1 ⊢
    have hne : Txt.split t " " ≠ [] := by
      intro z
      rw [z] at hsp
      exact spl_ne 32 _ _ hsp.symm
    have hlen : ∀ w ∈ Txt.split t " ", w.length ≤ 100000 := fun w hw => by
      have h1 : tl w ∈ spl [32] 0 [] (tl t) := by rw [← hsp]; exact List.mem_map_of_mem hw
      have h2 := spl_len 32 _ _ _ h1
      rw [← len_tl, ← len_tl] at h2
      simp at h2
      omega
    generalize Txt.split t " " = ws at hp1 hne hlen k0 k1
    clear hsp hpar hp
    cases ws with
    | nil => exact absurd rfl hne
    | cons w0 r =>
      have ix0 : atI ((w0 :: r).map V.str) 0 = some (.str w0) := atI_nat (j := 0) rfl
      have kin : inV (.str w0) [.str "day", .str "float", .str "zoned", .str "fixed"] = isKind (tl w0) := kinds_in w0
      have fail : partsW ((w0 :: r).map tl) = none → ∀ H', Same H1 H' → Q .non H' := fun e H' s' => k0 e H' (s1.trans s')
      refine ⟨_, rfl, p, _, _, _, rfl, rfl, SqL.of hp1, ix0, a_KINDS, _, rfl, .inr (sK _), rfl, rfl, _, rfl, ?_⟩
      show if (!inV (.str w0) [.str "day", .str "float", .str "zoned", .str "fixed"]) = true then _ else _
      rw [kin]
      by_cases hk : isKind (tl w0) = true
      · rw [hk]
        refine iteF ?_
        refine ⟨_, rfl, p, _, rfl, .inl (SqL.of hp1), _, rfl, p, _, _, _, rfl, rfl, SqL.of hp1, ix0, rfl, _, rfl, ?_⟩
        rw [str_dec, kZoned_eq]
        by_cases hz : tl w0 = kZoned
        · rw [decide_eq_true hz]
          refine iteT ⟨rfl, _, rfl, ?_⟩
          by_cases hl : ((w0 :: r).map V.str).length = 5
          · rw [hl]
            refine iteF ?_
            obtain ⟨a, tt, b, z, rfl⟩ : ∃ a tt b z, r = [a, tt, b, z] := by
              rw [List.length_map, List.length_cons] at hl
              match r, hl with
              | [a, tt, b, z], _ => exact ⟨_, _, _, _, rfl⟩
            have ix1 : atI ((w0 :: [a, tt, b, z]).map V.str) 1 = some (.str a) := atI_nat (j := 1) rfl
            have ix2 : atI ((w0 :: [a, tt, b, z]).map V.str) 2 = some (.str tt) := atI_nat (j := 2) rfl
            have ix3 : atI ((w0 :: [a, tt, b, z]).map V.str) 3 = some (.str b) := atI_nat (j := 3) rfl
            have ix4 : atI ((w0 :: [a, tt, b, z]).map V.str) 4 = some (.str z) := atI_nat (j := 4) rfl
            have la : a.length ≤ 100000 := hlen a (by simp)
            have lb : b.length ≤ 100000 := hlen b (by simp)
            have lz : z.length ≤ 100000 := hlen z (by simp)
            refine ⟨_, rfl, p, _, _, _, rfl, rfl, SqL.of hp1, ix2, rfl, _, rfl, ?_⟩
            rw [str_dec, kTo_eq]
            by_cases ht2 : tl tt = kTo
            · rw [decide_eq_true ht2]
              refine iteF ?_
              have pw : partsW ((w0 :: [a, tt, b, z]).map tl) = (match numberOf (tl a), numberOf (tl b) with | some x, some y => if x ≤ y ∧ isName (tl z) = true then some (tl w0, x, y, some (tl z)) else none | _, _ => none) := if_pos ⟨hz, ht2⟩
              refine ⟨_, rfl, p, _, _, _, rfl, rfl, SqL.of hp1, ix1, a, rfl, la, fun H2 s2 => ?_⟩
              have hp2 := s2 _ _ hp1
              refine ⟨_, rfl, p, _, _, _, rfl, rfl, SqL.of hp2, ix3, b, rfl, lb, fun H3 s3 => ⟨_, _, rfl, ?_⟩⟩
              have hp3 := s3 _ _ hp2
              have s13 : Same H1 H3 := s2.trans s3
              cases ea : numberOf (tl a) with
              | none => exact ⟨_, rfl, rfl, _, rfl, iteT (iteT (fail (by rw [pw, ea]) H3 s13))⟩
              | some x =>
                cases eb : numberOf (tl b) with
                | none => exact ⟨_, rfl, rfl, _, rfl, iteF ⟨_, rfl, rfl, _, rfl, iteT (iteT (fail (by rw [pw, ea, eb]) H3 s13))⟩⟩
                | some y =>
                  refine ⟨_, rfl, rfl, _, rfl, iteF ⟨_, rfl, rfl, _, rfl, iteF ⟨_, rfl, _, rfl, _, _, rfl, rfl, _, rfl, ?_⟩⟩⟩
                  by_cases hxy : x ≤ y
                  · rw [decide_eq_false (show ¬ y < x by omega)]
                    refine iteF ?_
                    refine ⟨_, rfl, p, _, _, _, rfl, rfl, SqL.of hp3, ix0, rfl, _, rfl, ?_⟩
                    rw [str_dec, kZoned_eq, decide_eq_true hz]
                    refine iteF ?_
                    refine ⟨_, rfl, p, _, _, _, rfl, rfl, SqL.of hp3, ix4, _, rfl, .inl ⟨z, rfl, lz, fun H4 s4 => ⟨_, rfl, ?_⟩⟩⟩
                    have hp4 := s4 _ _ hp3
                    by_cases hn : isName (tl z) = true
                    · rw [hn]
                      refine iteT ⟨_, rfl, p, _, _, _, rfl, rfl, SqL.of hp4, ix0, _, rfl, _, rfl, _, rfl, p, _, _, _, rfl, rfl, SqL.of hp4, ix4, (by show 4 ≤ sizeLine; decide), fun q hq => ?_⟩
                      have s04 : Same H H4 := s1.trans (s13.trans s4)
                      have := k1 (tl w0, x, y, some (tl z)) (by rw [pw, ea, eb]; exact if_pos ⟨hxy, hn⟩) q (upd H4 q (.tup [.str w0, .int x, .int y, .str z])) (s04.free hq) (s04.trans (Same.new hq))
                      unfold partsV optZ at this
                      simp only [strOf_tl] at this
                      exact this upd_same
                    · have hn' : isName (tl z) = false := by simpa using hn
                      rw [hn']
                      exact iteF (fail (by rw [pw, ea, eb]; exact if_neg (fun q => hn q.2)) H4 (s13.trans s4))
                  · rw [decide_eq_true (show y < x by omega)]
                    exact iteT (fail (by rw [pw, ea, eb]; exact if_neg (fun q => hxy q.1)) H3 s13)
            · rw [decide_eq_false ht2]
              refine iteT (fail ?_ H1 (Same.refl _))
              exact if_neg (fun q => ht2 q.2)
          · have hl' : ¬ V.int (((w0 :: r).map V.str).length : Int) = V.int 5 := fun q => hl (by injection q with q; omega)
            rw [decide_eq_false hl']
            refine iteT (iteT (fail ?_ H1 (Same.refl _)))
            rw [List.length_map] at hl
            match r, hl with
            | [], _ => rfl
            | [_], _ => rfl
            | [_, _], _ => rfl
            | [_, _, _], _ => exact if_neg (fun q => q.2.1 hz)
            | [_, _, _, _], h => exact absurd rfl h
            | _ :: _ :: _ :: _ :: _ :: _, _ => rfl
        · rw [decide_eq_false hz]
          refine iteF ⟨rfl, _, rfl, ?_⟩
          by_cases hl : ((w0 :: r).map V.str).length = 4
          · rw [hl]
            refine iteF ?_
            obtain ⟨a, tt, b, rfl⟩ : ∃ a tt b, r = [a, tt, b] := by
              rw [List.length_map, List.length_cons] at hl
              match r, hl with
              | [a, tt, b], _ => exact ⟨_, _, _, rfl⟩
            have ix1 : atI ((w0 :: [a, tt, b]).map V.str) 1 = some (.str a) := atI_nat (j := 1) rfl
            have ix2 : atI ((w0 :: [a, tt, b]).map V.str) 2 = some (.str tt) := atI_nat (j := 2) rfl
            have ix3 : atI ((w0 :: [a, tt, b]).map V.str) 3 = some (.str b) := atI_nat (j := 3) rfl
            have la : a.length ≤ 100000 := hlen a (by simp)
            have lb : b.length ≤ 100000 := hlen b (by simp)
            refine ⟨_, rfl, p, _, _, _, rfl, rfl, SqL.of hp1, ix2, rfl, _, rfl, ?_⟩
            rw [str_dec, kTo_eq]
            by_cases ht2 : tl tt = kTo
            · rw [decide_eq_true ht2]
              refine iteF ?_
              have pw : partsW ((w0 :: [a, tt, b]).map tl) = (match numberOf (tl a), numberOf (tl b) with | some x, some y => if x ≤ y then some (tl w0, x, y, none) else none | _, _ => none) := if_pos ⟨hk, hz, ht2⟩
              refine ⟨_, rfl, p, _, _, _, rfl, rfl, SqL.of hp1, ix1, a, rfl, la, fun H2 s2 => ?_⟩
              have hp2 := s2 _ _ hp1
              refine ⟨_, rfl, p, _, _, _, rfl, rfl, SqL.of hp2, ix3, b, rfl, lb, fun H3 s3 => ⟨_, _, rfl, ?_⟩⟩
              have hp3 := s3 _ _ hp2
              have s13 : Same H1 H3 := s2.trans s3
              cases ea : numberOf (tl a) with
              | none => exact ⟨_, rfl, rfl, _, rfl, iteT (iteT (fail (by rw [pw, ea]) H3 s13))⟩
              | some x =>
                cases eb : numberOf (tl b) with
                | none => exact ⟨_, rfl, rfl, _, rfl, iteF ⟨_, rfl, rfl, _, rfl, iteT (iteT (fail (by rw [pw, ea, eb]) H3 s13))⟩⟩
                | some y =>
                  refine ⟨_, rfl, rfl, _, rfl, iteF ⟨_, rfl, rfl, _, rfl, iteF ⟨_, rfl, _, rfl, _, _, rfl, rfl, _, rfl, ?_⟩⟩⟩
                  by_cases hxy : x ≤ y
                  · rw [decide_eq_false (show ¬ y < x by omega)]
                    refine iteF ?_
                    refine ⟨_, rfl, p, _, _, _, rfl, rfl, SqL.of hp3, ix0, rfl, _, rfl, ?_⟩
                    rw [str_dec, kZoned_eq, decide_eq_false hz]
                    refine iteT ⟨_, rfl, p, _, _, _, rfl, rfl, SqL.of hp3, ix0, _, rfl, _, rfl, (by show 4 ≤ sizeLine; decide), fun q hq => ?_⟩
                    have s04 : Same H H3 := s1.trans s13
                    have := k1 (tl w0, x, y, none) (by rw [pw, ea, eb]; exact if_pos hxy) q (upd H3 q (.tup [.str w0, .int x, .int y, .non])) (s04.free hq) (s04.trans (Same.new hq))
                    unfold partsV optZ at this
                    simp only [strOf_tl] at this
                    exact this upd_same
                  · rw [decide_eq_true (show y < x by omega)]
                    exact iteT (fail (by rw [pw, ea, eb]; exact if_neg (fun q => hxy q)) H3 s13)
            · rw [decide_eq_false ht2]
              refine iteT (fail ?_ H1 (Same.refl _))
              exact if_neg (fun q => ht2 q.2.2)
          · have hl' : ¬ V.int (((w0 :: r).map V.str).length : Int) = V.int 4 := fun q => hl (by injection q with q; omega)
            rw [decide_eq_false hl']
            refine iteT (iteT (fail ?_ H1 (Same.refl _)))
            rw [List.length_map] at hl
            match r, hl with
            | [], _ => rfl
            | [_], _ => rfl
            | [_, _], _ => rfl
            | [_, _, _], h => exact absurd rfl h
            | [_, _, _, _], _ => exact if_neg (fun q => hz q.1)
            | _ :: _ :: _ :: _ :: _ :: _, _ => rfl
      · have hk' : isKind (tl w0) = false := by simpa using hk
        rw [hk']
        refine iteT (iteT (fail ?_ H1 (Same.refl _)))
        match r with
        | [] => rfl
        | [_] => rfl
        | [_, _] => rfl
        | [_, _, _] => exact if_neg (fun q => hk q.1)
        | [_, _, _, _] => exact if_neg (fun q => hk (by rw [show tl w0 = kZoned from q.1]; decide))
        | _ :: _ :: _ :: _ :: _ :: _ => rfl
end
end Toy

set_option Elab.async false
set_option linter.all false
set_option maxRecDepth 100000
set_option maxHeartbeats 4000000
namespace Toy
open PySem L2 TL EM
section
variable {P : Program} {w : World} {K : PySem.W.Frag} {mg : Str → Option Value} {base : Heap}
/-- the attributes of an entry -/
def fldsE (t : Str) (k : List Nat) (a b : Int) (z : Option (List Nat)) : List (Str × V) := [("text", .str t), ("kind", .str (strOf k)), ("first", .int a), ("last", .int b), ("zone", optZ z)]
/-- what the written part says of a class of instances -/
structure IsC (K : PySem.W.Frag) (C : Addr) : Prop where
  cl : Cls K C
  ha : PySem.W.findIn K (.ref C) "__class__" = some (some (.builtin "object.__class__"))
  hn : PySem.W.specialIn K (.builtin "object.__class__") "__get__" = some (some (.builtin "getset_descriptor.__get__"))
  ht : PySem.W.takesIn K (.builtin "object.__class__") = some true
  hm : PySem.W.mroIn K C (.type "object") = some true
theorem IsC.ty {C a dx : Addr} {fs : List (Str × V)} {H : Hp} (c : IsC K C) (h : H a = some (.ins C dx fs)) : TyX K H (.ref a) (.ref C) := .base (.ins h c.cl c.ha c.hn c.ht c.hm)
structure NoE (K : PySem.W.Frag) (C : Addr) : Prop where
  n1 : NoAttr K C "text"
  n2 : NoAttr K C "kind"
  n3 : NoAttr K C "first"
  n4 : NoAttr K C "last"
  n5 : NoAttr K C "zone"
structure EC (K : PySem.W.Frag) (mg : Str → Option Value) (CE CT : Addr) : Prop where
  gE : mg "Entry" = some (.ref CE)
  gT : mg "ToldEntry" = some (.ref CT)
  iE : IsC K CE
  iT : IsC K CT
  nE : NoE K CE
  nT : NoE K CT
  kT : PySem.W.kitOne K (.ref CT) (.ref CE) = some true
def OfE (CE CT C : Addr) : Prop := C = CE ∨ C = CT
theorem EC.ic {CE CT C : Addr} (e : EC K mg CE CT) (h : OfE CE CT C) : IsC K C := by
  rcases h with rfl | rfl
  · exact e.iE
  · exact e.iT
theorem EC.nc {CE CT C : Addr} (e : EC K mg CE CT) (h : OfE CE CT C) : NoE K C := by
  rcases h with rfl | rfl
  · exact e.nE
  · exact e.nT
theorem EC.kit {CE CT C : Addr} (e : EC K mg CE CT) (h : OfE CE CT C) : PySem.W.kitOne K (.ref C) (.ref CE) = some true := by
  rcases h with rfl | rfl
  · unfold PySem.W.kitOne; rw [if_pos (beq_self_eq_true _)]
  · exact e.kT
/-- an entry stands at e -/
def EntAt (C : Addr) (H : Hp) (e : Addr) (t : Str) (k : List Nat) (a b : Int) (z : Option (List Nat)) : Prop := ∃ dx, H e = some (.ins C dx (fldsE t k a b z))
theorem EntAt.same {C : Addr} {H H' : Hp} {e : Addr} {t : Str} {k : List Nat} {a b : Int} {z : Option (List Nat)} (s : Same H H') (h : EntAt C H e t k a b z) : EntAt C H' e t k a b z := by
  obtain ⟨dx, h⟩ := h
  exact ⟨dx, s _ _ h⟩
/-- all but x stands -/
def SameBut (x : Addr) (H H' : Hp) : Prop := ∀ b o, H b = some o → b ≠ x → H' b = some o
def spEInit (K : PySem.W.Frag) (CB : Addr) : Sp := fun vs H Q E => ∃ (x C dx : Addr) (v : V), vs = [.ref x, v] ∧ Cls K C ∧ NoE K C ∧ H x = some (.ins C dx []) ∧
  ((∃ t : Str, v = .str t ∧ t.length ≤ 90000 ∧ (∀ k a b z, parts (tl t) = some (k, a, b, z) → ∀ H', SameBut x H H' → H' x = some (.ins C dx (fldsE t k a b z)) → Q .non H') ∧
      (parts (tl t) = none → ∀ d H', Same H H' → H' d = none → E (.ref CB) (some d) (upd H' d (.xd [("line", .int 1)])))) ∨
   (∃ ty, TyX K H v ty ∧ PySem.W.kitOne K ty (.type "str") = some false ∧ ∀ d, H d = none → E (.ref CB) (some d) (upd H d (.xd [("line", .int 1)]))))
abbrev s_Entry___init__ : Stmt := inClass (top 36) 0
theorem sc_Entry___init__ : FnScope ["self", "text", "parts"] ["self", "text"] (defScope s_Entry___init__) := ⟨rfl, rfl, rfl, by decide +kernel, rfl, by decide +kernel, by decide +kernel⟩

theorem ok_EInit {f CB fB : Addr} {fd : FuncData} (F : Fun K "__init__" "Entry.__init__" s_Entry___init__ f fd) (T : TB mg) (cPar : Cal P w K mg base 2 "parts_of" ["text"] spParts)
    (TS : PySem.SupX.SupTxt K mg P "line" CB fB) (g_BadText : mg "BadText" = some (.ref CB)) : FnOk P w K mg base (L2.CX P w) 3 f fd ["self", "text"] (spEInit K CB) := by
  refine F.okX sc_Entry___init__ (fun vs H Q E h => ?_) (fun cdv A outer s H vs Q E hr h => ?_)
  · obtain ⟨x, C, dx, v, rfl, _⟩ := h
    rfl
  · obtain ⟨x, C, dx, v, rfl, cl, nc, hx, h⟩ := h
    have hr2 : Room 2 _ := hr
    refine ⟨_, (pss_cons (ps_set (i := 2) sc_Entry___init__.nd rfl (Or.inl rfl) (pe_ifExp (pt_val (pe_callB call_isi (by rfl) T.isinstance (by decide +kernel) (pa_cons (pv 1) (pa_cons (pe_bltn (v := .ty "str") (by rfl) T.str (by decide +kernel) rfl) pa_nil)))) (pe_cal cPar hr2 rfl (pa_cons (pv 1) pa_nil)) pe_non))
      (pss_cons (ps_if (pt_cmpR op_isN (pv 2) pe_non (nomark _))
        (pss_one (ps_raiseSup rfl TS g_BadText hr (takes_of rfl rfl rfl rfl) (pa_cons pe_int pa_nil)))
        pss_nil)
      (pss_cons (ps_fld (pv 0) (pv 1) rfl)
      (pss_one (ps_asg (pv 2) (pg_tup rfl (pgs_cons (pg_fld (pv 0)) (pgs_cons (pg_fld (pv 0)) (pgs_cons (pg_fld (pv 0)) (pgs_cons (pg_fld (pv 0)) pgs_nil)))))))))), ?_⟩
    rcases h with ⟨t, rfl, ht, k1, k2⟩ | ⟨ty, hty, hk, k⟩
    · refine ⟨_, rfl, _, _, _, _, true, rfl, .ty "str", .base (.str t), kit_ty (by decide +kernel), _, rfl, ?_⟩
      refine iteT ⟨_, rfl, t, rfl, ht, fun hn H' s' => ?_, fun r hr' p H' hp s' hpt => ?_⟩
      · refine ⟨_, rfl, rfl, _, rfl, iteT ⟨_, rfl, fun d hd => k2 hn d H' s' hd⟩⟩
      · obtain ⟨k, a, b, z⟩ := r
        refine ⟨_, rfl, rfl, _, rfl, iteF ?_⟩
        have hx' := s' _ _ hx
        have npx : p ≠ x := fun e => by rw [e, hx] at hp; cases hp
        refine ⟨_, rfl, _, rfl, x, C, dx, _, rfl, hx', cl, nc.n1, (by show 0 < 1000; decide), ?_⟩
        refine ⟨_, rfl, p, _, rfl, SqT.of (by rw [upd_ne npx]; exact hpt), rfl, ?_⟩
        refine ⟨_, _, rfl, _, rfl, x, C, dx, _, rfl, upd_same, cl, nc.n2, (by show 1 < 1000; decide), ?_⟩
        refine ⟨_, _, rfl, _, rfl, x, C, dx, _, rfl, upd_same, cl, nc.n3, (by show 2 < 1000; decide), ?_⟩
        refine ⟨_, _, rfl, _, rfl, x, C, dx, _, rfl, upd_same, cl, nc.n4, (by show 3 < 1000; decide), ?_⟩
        refine ⟨_, _, rfl, _, rfl, x, C, dx, _, rfl, upd_same, cl, nc.n5, (by show 4 < 1000; decide), rfl, ?_⟩
        refine k1 k a b z hr' _ (fun b' o e hb => ?_) ?_
        · rw [upd_ne hb, upd_ne hb, upd_ne hb, upd_ne hb, upd_ne hb]
          exact s' _ _ e
        · rw [upd_same]
          rfl
    · refine ⟨_, rfl, _, _, _, _, false, rfl, .ty "str", hty, hk, _, rfl, ?_⟩
      refine iteF ⟨_, rfl, rfl, _, rfl, iteT ⟨_, rfl, fun d hd => k d hd⟩⟩
end
end Toy

set_option Elab.async false
set_option linter.all false
set_option maxRecDepth 100000
set_option maxHeartbeats 4000000
namespace Toy
open PySem L2 TL EM
section
variable {P : Program} {w : World} {K : PySem.W.Frag} {mg : Str → Option Value} {base : Heap}
def spEq (K : PySem.W.Frag) (CE CT : Addr) : Sp := fun vs H Q _ => ∃ (e C : Addr) (v : V) (t : Str) (k : List Nat) (a b : Int) (z : Option (List Nat)), vs = [.ref e, v] ∧ OfE CE CT C ∧ EntAt C H e t k a b z ∧
  ((∃ (e' C' : Addr) (t' : Str) (k' : List Nat) (a' b' : Int) (z' : Option (List Nat)), v = .ref e' ∧ OfE CE CT C' ∧ EntAt C' H e' t' k' a' b' z' ∧ Q (.bl (decide (tl t = tl t'))) H) ∨
   (∃ ty, TyX K H v ty ∧ PySem.W.kitOne K ty (.ref CE) = some false ∧ Q (.bl false) H))
abbrev s_Entry___eq__ : Stmt := inClass (top 36) 1
theorem sc_Entry___eq__ : FnScope ["self", "other"] ["self", "other"] (defScope s_Entry___eq__) := ⟨rfl, rfl, rfl, by decide +kernel, rfl, by decide +kernel, by decide +kernel⟩

theorem ok_Eq {f CE CT : Addr} {fd : FuncData} (F : Fun K "__eq__" "Entry.__eq__" s_Entry___eq__ f fd) (T : TB mg) (C : EC K mg CE CT) : FnOk P w K mg base CX0 1 f fd ["self", "other"] (spEq K CE CT) := by
  refine F.ok sc_Entry___eq__ (fun vs H Q E h => ?_) (fun cdv A outer s H vs Q E hr h => ?_)
  · obtain ⟨e, C, v, t, k, a, b, z, rfl, _⟩ := h
    rfl
  · obtain ⟨e, C1, v, t, k, a, b, z, rfl, o1, ⟨dx, h1⟩, h⟩ := h
    refine ⟨_, (pss_one (ps_ret (pe_and (pe_callB call_isi (by rfl) T.isinstance (by decide +kernel) (pa_cons (pv 1) (pa_cons (pe_glob (v := .ref CE) rfl C.gE rfl) pa_nil))) (pe_one (pe_cmpR op_eq (pe_fld (pv 0) rfl) (pe_fld (pv 1) rfl) (nomark _)))))), ?_⟩
    rcases h with ⟨e', C', t', k', a', b', z', rfl, o2, ⟨dy, h2⟩, q⟩ | ⟨ty, hty, hk, q⟩
    · refine ⟨_, rfl, _, _, _, _, true, rfl, .own CE, (C.ic o2).ty h2, C.kit o2, _, rfl, iteT ?_⟩
      refine ⟨_, rfl, e, C1, dx, _, _, rfl, h1, (C.ic o1).cl, (C.nc o1).n1, rfl, _, rfl, e', C', dy, _, _, rfl, h2, (C.ic o2).cl, (C.nc o2).n1, rfl, rfl, ?_⟩
      rw [str_dec]
      exact q
    · exact ⟨_, rfl, _, _, _, _, false, rfl, .own CE, hty, hk, _, rfl, iteF q⟩
theorem log_ok {n : Int} (h : n.natAbs < 10 ^ 100) : n.natAbs.log2 < 1920 := by
  by_cases h0 : n.natAbs = 0
  · rw [h0]; decide
  · exact (Nat.log2_lt h0).mpr (Nat.lt_trans h (by decide +kernel))
theorem len_app (x y : Str) : (x ++ y).length = x.length + y.length := by rw [len_tl, tl_append, List.length_append, ← len_tl, ← len_tl]
theorem len_int {n : Int} (h : n.natAbs < 10 ^ 100) : (Str.ofString (toString n)).length ≤ 101 := by
  rw [len_tl, tl_int]
  exact intOf_len (by decide) h
theorem len_strOf (l : List Nat) : (strOf l).length = l.length := by rw [len_tl, tl_strOf]
def spTInit (K : PySem.W.Frag) : Sp := fun vs H Q _ => ∃ (x C dx : Addr) (k : List Nat) (a b : Int) (z : Option (List Nat)), vs = [.ref x, .str (strOf k), .int a, .int b, optZ z] ∧ Cls K C ∧ NoE K C ∧ H x = some (.ins C dx []) ∧
  k.length ≤ 1000 ∧ a.natAbs < 10 ^ 100 ∧ b.natAbs < 10 ^ 100 ∧ (∀ y, z = some y → y.length ≤ 1000) ∧ ∀ H', SameBut x H H' → H' x = some (.ins C dx (fldsE (strOf (canon k a b z)) k a b z)) → Q .non H'
abbrev s_ToldEntry___init__ : Stmt := inClass (top 37) 0
theorem sc_ToldEntry___init__ : FnScope ["self", "kind", "first", "last", "zone"] ["self", "kind", "first", "last", "zone"] (defScope s_ToldEntry___init__) := ⟨rfl, rfl, rfl, by decide +kernel, rfl, by decide +kernel, by decide +kernel⟩

theorem ok_TInit {f : Addr} {fd : FuncData} (F : Fun K "__init__" "ToldEntry.__init__" s_ToldEntry___init__ f fd) : FnOk P w K mg base CX0 1 f fd ["self", "kind", "first", "last", "zone"] (spTInit K) := by
  refine F.ok sc_ToldEntry___init__ (fun vs H Q E h => ?_) (fun cdv A outer s H vs Q E hr h => ?_)
  · obtain ⟨x, C, dx, k, a, b, z, rfl, _⟩ := h
    rfl
  · obtain ⟨x, C, dx, k, a, b, z, rfl, cl, nc, hx, hk, ha, hb, hz, q⟩ := h
    refine ⟨_, (Evl.pss_cut (ps_fld (pv 0) (pe_ifExp (pt_cmpR op_isN (pv 4) pe_non (nomark _)) (pe_joined (.cons (pe_fmt (pv 1)) (.cons pe_str (.cons (pe_fmt (pv 2)) (.cons pe_str (.cons (pe_fmt (pv 3)) .nil)))))) (pe_joined (.cons (pe_fmt (pv 1)) (.cons pe_str (.cons (pe_fmt (pv 2)) (.cons pe_str (.cons (pe_fmt (pv 3)) (.cons pe_str (.cons (pe_fmt (pv 4)) .nil))))))))) rfl)
      (pss_one (ps_asg (pe_tup (pa_cons (pv 1) (pa_cons (pv 2) (pa_cons (pv 3) (pa_cons (pv 4) pa_nil))))) (pg_tup rfl (pgs_cons (pg_fld (pv 0)) (pgs_cons (pg_fld (pv 0)) (pgs_cons (pg_fld (pv 0)) (pgs_cons (pg_fld (pv 0)) pgs_nil)))))))), ?_⟩
    have lk := len_strOf k
    have la := len_int ha
    have lb := len_int hb
    have l1 : (Str.ofString " ").length = 1 := by decide +kernel
    have l4 : (Str.ofString " to ").length = 4 := by decide +kernel
    have l0 : Str.empty.length = 0 := rfl
    have t1 : tl (Str.ofString " ") = [32] := by decide +kernel
    have t4 : tl (Str.ofString " to ") = [32] ++ kTo ++ [32] := by decide +kernel
    have t0 : tl Str.empty = [] := rfl
    have sz : ∀ {n : Nat}, n ≤ 100000 → n ≤ sizeLine := fun h => Evl.sz_of h
    refine ⟨fun σ' H' => σ' = [some (.ref x), some (.str (strOf k)), some (.int a), some (.int b), some (optZ z)] ∧ SameBut x H H' ∧ H' x = some (.ins C dx [("text", .str (strOf (canon k a b z)))]), ?_, ?_⟩
    · cases z with
      | none =>
        refine ⟨_, rfl, rfl, _, rfl, iteT ?_⟩
        refine ⟨_, rfl, .inl ⟨_, rfl, sz (by omega), _, rfl, sz (by simp only [len_app]; omega), ?_⟩⟩
        refine ⟨_, rfl, sz (by simp only [len_app]; omega), _, rfl, .inr ⟨_, rfl, log_ok ha, _, rfl, sz (by simp only [len_app]; omega), ?_⟩⟩
        refine ⟨_, rfl, sz (by simp only [len_app]; omega), _, rfl, .inr ⟨_, rfl, log_ok hb, _, rfl, sz (by simp only [len_app]; omega), ?_⟩⟩
        refine ⟨_, rfl, x, C, dx, _, rfl, hx, cl, nc.n1, (by show 0 < 1000; decide), rfl, fun b' o e hb => ?_, ?_⟩
        · rw [upd_ne hb]; exact e
        · rw [upd_same]
          have e : ((((Str.empty ++ strOf k) ++ (Str.ofString " ")) ++ (Str.ofString (toString a))) ++ (Str.ofString " to ")) ++ (Str.ofString (toString b)) = strOf (canon k a b none) := by
            refine ext_tl ?_
            simp only [tl_append, tl_strOf, tl_int, t1, t4, t0, canon, canonW, joinL, Option.toList, List.append_assoc, List.nil_append, List.cons_append, List.append_nil]
          rw [e]
          rfl
      | some y =>
        have ly := hz y rfl
        have ly' := len_strOf y
        refine ⟨_, rfl, rfl, _, rfl, iteF ?_⟩
        refine ⟨_, rfl, .inl ⟨_, rfl, sz (by omega), _, rfl, sz (by simp only [len_app]; omega), ?_⟩⟩
        refine ⟨_, rfl, sz (by simp only [len_app]; omega), _, rfl, .inr ⟨_, rfl, log_ok ha, _, rfl, sz (by simp only [len_app]; omega), ?_⟩⟩
        refine ⟨_, rfl, sz (by simp only [len_app]; omega), _, rfl, .inr ⟨_, rfl, log_ok hb, _, rfl, sz (by simp only [len_app]; omega), ?_⟩⟩
        refine ⟨_, rfl, sz (by simp only [len_app]; omega), _, rfl, .inl ⟨_, rfl, sz (by omega), _, rfl, sz (by simp only [len_app]; omega), ?_⟩⟩
        refine ⟨_, rfl, x, C, dx, _, rfl, hx, cl, nc.n1, (by show 0 < 1000; decide), rfl, fun b' o e hb => ?_, ?_⟩
        · rw [upd_ne hb]; exact e
        · rw [upd_same]
          have e : ((((((Str.empty ++ strOf k) ++ (Str.ofString " ")) ++ (Str.ofString (toString a))) ++ (Str.ofString " to ")) ++ (Str.ofString (toString b))) ++ (Str.ofString " ")) ++ strOf y = strOf (canon k a b (some y)) := by
            refine ext_tl ?_
            simp only [tl_append, tl_strOf, tl_int, t1, t4, t0, canon, canonW, joinL, Option.toList, List.append_assoc, List.nil_append, List.cons_append, List.append_nil]
          rw [e]
          rfl
    · rintro σ' H' ⟨rfl, sb, hx'⟩
      refine ⟨_, rfl, _, rfl, _, rfl, _, rfl, (by show 4 ≤ sizeLine; decide), fun p hp => ⟨p, _, rfl, SqT.of upd_same, rfl, ?_⟩⟩
      have npx : x ≠ p := fun e => by rw [e] at hx'; rw [hx'] at hp; cases hp
      have hx2 : (upd H' p (.tup [.str (strOf k), .int a, .int b, optZ z])) x = some (.ins C dx [("text", .str (strOf (canon k a b z)))]) := by rw [upd_ne npx]; exact hx'
      refine ⟨_, _, rfl, _, rfl, x, C, dx, _, rfl, hx2, cl, nc.n2, (by show 1 < 1000; decide), ?_⟩
      refine ⟨_, _, rfl, _, rfl, x, C, dx, _, rfl, upd_same, cl, nc.n3, (by show 2 < 1000; decide), ?_⟩
      refine ⟨_, _, rfl, _, rfl, x, C, dx, _, rfl, upd_same, cl, nc.n4, (by show 3 < 1000; decide), ?_⟩
      refine ⟨_, _, rfl, _, rfl, x, C, dx, _, rfl, upd_same, cl, nc.n5, (by show 4 < 1000; decide), rfl, ?_⟩
      refine q _ (fun b' o e hb' => ?_) ?_
      · have h1 := sb _ _ e hb'
        rw [upd_ne hb', upd_ne hb', upd_ne hb', upd_ne hb', upd_ne (ne_of_none h1 hp)]
        exact h1
      · rw [upd_same]
        rfl
end
end Toy

set_option Elab.async false
set_option linter.all false
set_option maxRecDepth 100000
set_option maxHeartbeats 4000000
namespace Toy
open PySem L2 TL EM
section
variable {P : Program} {w : World} {K : PySem.W.Frag} {mg : Str → Option Value} {base : Heap}
def gapOf (k : List Nat) (n : Int) : Int := if k = kDay then n else n * 1440
def spShift (CE CT : Addr) (g : Int → Int → Int) : Sp := fun vs H Q _ => ∃ (e C : Addr) (n : Int) (t : Str) (k : List Nat) (a b : Int) (z : Option (List Nat)), vs = [.ref e, .int n] ∧ OfE CE CT C ∧ EntAt C H e t k a b z ∧
  k.length ≤ 1000 ∧ (g a (gapOf k n)).natAbs < 10 ^ 100 ∧ (g b (gapOf k n)).natAbs < 10 ^ 100 ∧ (∀ y, z = some y → y.length ≤ 1000) ∧
  ∀ p H', H p = none → Same H H' → EntAt CT H' p (strOf (canon k (g a (gapOf k n)) (g b (gapOf k n)) z)) k (g a (gapOf k n)) (g b (gapOf k n)) z → Q (.ref p) H'
abbrev s_Entry___add__ : Stmt := inClass (top 36) 2
theorem sc_Entry___add__ : FnScope ["self", "many", "gap"] ["self", "many"] (defScope s_Entry___add__) := ⟨rfl, rfl, rfl, by decide +kernel, rfl, by decide +kernel, by decide +kernel⟩

theorem ok_Add {f CE CT fT : Addr} {fd fdT : FuncData} (F : Fun K "__add__" "Entry.__add__" s_Entry___add__ f fd) (C : EC K mg CE CT) (MT : Mk K CT fT) (GT : FnOk P w K mg base CX0 1 fT fdT ["self", "kind", "first", "last", "zone"] (spTInit K)) (bT : Binds K fdT ["self", "kind", "first", "last", "zone"] [])
    (hMin : ∃ t, mg "MINUTES" = some (.int 1440 t)) : FnOk P w K mg base CX0 3 f fd ["self", "many"] (spShift CE CT (fun a g => a + g)) := by
  obtain ⟨tM, g_MINUTES⟩ := hMin
  refine F.ok sc_Entry___add__ (fun vs H Q E h => ?_) (fun cdv A outer s H vs Q E hr h => ?_)
  · obtain ⟨e, C1, n, t, k, a, b, z, rfl, _⟩ := h
    rfl
  · obtain ⟨e, C1, n, t, k, a, b, z, rfl, o1, ⟨dx, h1⟩, hk, ha, hb, hz, q⟩ := h
    have hrT : Room (1 + 1) _ := hr
    refine ⟨_, (Evl.pss_cut (ps_set (i := 2) sc_Entry___add__.nd rfl (Or.inl rfl) (pe_ifExp (pt_cmpR op_eq (pe_fld (pv 0) rfl) pe_str (nomark _)) (pv 1) (pe_op op_mul (pv 1) (pe_glob (v := .int 1440) rfl g_MINUTES ⟨_, rfl⟩))))
      (pss_one (ps_ret (pe_make MT GT hrT rfl C.gT bT .nil pass0 (pa_cons (pe_fld (pv 0) rfl) (pa_cons (pe_op op_add (pe_fld (pv 0) rfl) (pv 2)) (pa_cons (pe_op op_add (pe_fld (pv 0) rfl) (pv 2)) (pa_cons (pe_fld (pv 0) rfl) pa_nil)))))))), ?_⟩
    refine ⟨fun σ' H' => σ' = [some (.ref e), some (.int n), some (.int (gapOf k n))] ∧ H' = H, ?_, ?_⟩
    · refine ⟨_, rfl, e, C1, dx, _, _, rfl, h1, (C.ic o1).cl, (C.nc o1).n2, rfl, rfl, _, rfl, ?_⟩
      rw [str_dec, kDay_eq, tl_strOf]
      by_cases hd : k = kDay
      · rw [decide_eq_true hd]
        refine iteT ⟨_, rfl, ?_, rfl⟩
        unfold gapOf
        rw [if_pos hd]
        rfl
      · rw [decide_eq_false hd]
        refine iteF ⟨_, rfl, _, _, rfl, rfl, .inr ⟨by decide, by decide⟩, ?_, rfl⟩
        unfold gapOf
        rw [if_neg hd]
        rfl
    · rintro σ' H' ⟨rfl, rfl⟩
      refine ⟨_, rfl, e, C1, dx, _, _, rfl, h1, (C.ic o1).cl, (C.nc o1).n2, rfl, ?_⟩
      refine ⟨_, rfl, e, C1, dx, _, _, rfl, h1, (C.ic o1).cl, (C.nc o1).n3, rfl, _, rfl, _, _, rfl, rfl, ?_⟩
      refine ⟨_, rfl, e, C1, dx, _, _, rfl, h1, (C.ic o1).cl, (C.nc o1).n4, rfl, _, rfl, _, _, rfl, rfl, ?_⟩
      refine ⟨_, rfl, e, C1, dx, _, _, rfl, h1, (C.ic o1).cl, (C.nc o1).n5, rfl, fun x dy nx ndy ne => ?_⟩
      refine ⟨x, CT, dy, k, a + gapOf k n, b + gapOf k n, z, rfl, C.iT.cl, C.nT, upd_same, hk, ha, hb, hz, fun H2 sb hx2 => ⟨rfl, ?_⟩⟩
      refine q x H2 nx (fun b' o e' => sb b' o ?_ (ne_of_none e' nx)) ⟨dy, hx2⟩
      rw [upd_ne (ne_of_none e' nx), upd_ne (ne_of_none e' ndy)]
      exact e'
abbrev s_Entry___sub__ : Stmt := inClass (top 36) 3
theorem sc_Entry___sub__ : FnScope ["self", "many", "gap"] ["self", "many"] (defScope s_Entry___sub__) := ⟨rfl, rfl, rfl, by decide +kernel, rfl, by decide +kernel, by decide +kernel⟩

theorem ok_Sub {f CE CT fT : Addr} {fd fdT : FuncData} (F : Fun K "__sub__" "Entry.__sub__" s_Entry___sub__ f fd) (C : EC K mg CE CT) (MT : Mk K CT fT) (GT : FnOk P w K mg base CX0 1 fT fdT ["self", "kind", "first", "last", "zone"] (spTInit K)) (bT : Binds K fdT ["self", "kind", "first", "last", "zone"] [])
    (hMin : ∃ t, mg "MINUTES" = some (.int 1440 t)) : FnOk P w K mg base CX0 3 f fd ["self", "many"] (spShift CE CT (fun a g => a - g)) := by
  obtain ⟨tM, g_MINUTES⟩ := hMin
  refine F.ok sc_Entry___sub__ (fun vs H Q E h => ?_) (fun cdv A outer s H vs Q E hr h => ?_)
  · obtain ⟨e, C1, n, t, k, a, b, z, rfl, _⟩ := h
    rfl
  · obtain ⟨e, C1, n, t, k, a, b, z, rfl, o1, ⟨dx, h1⟩, hk, ha, hb, hz, q⟩ := h
    have hrT : Room (1 + 1) _ := hr
    refine ⟨_, (Evl.pss_cut (ps_set (i := 2) sc_Entry___sub__.nd rfl (Or.inl rfl) (pe_ifExp (pt_cmpR op_eq (pe_fld (pv 0) rfl) pe_str (nomark _)) (pv 1) (pe_op op_mul (pv 1) (pe_glob (v := .int 1440) rfl g_MINUTES ⟨_, rfl⟩))))
      (pss_one (ps_ret (pe_make MT GT hrT rfl C.gT bT .nil pass0 (pa_cons (pe_fld (pv 0) rfl) (pa_cons (pe_op op_sub (pe_fld (pv 0) rfl) (pv 2)) (pa_cons (pe_op op_sub (pe_fld (pv 0) rfl) (pv 2)) (pa_cons (pe_fld (pv 0) rfl) pa_nil)))))))), ?_⟩
    refine ⟨fun σ' H' => σ' = [some (.ref e), some (.int n), some (.int (gapOf k n))] ∧ H' = H, ?_, ?_⟩
    · refine ⟨_, rfl, e, C1, dx, _, _, rfl, h1, (C.ic o1).cl, (C.nc o1).n2, rfl, rfl, _, rfl, ?_⟩
      rw [str_dec, kDay_eq, tl_strOf]
      by_cases hd : k = kDay
      · rw [decide_eq_true hd]
        refine iteT ⟨_, rfl, ?_, rfl⟩
        unfold gapOf
        rw [if_pos hd]
        rfl
      · rw [decide_eq_false hd]
        refine iteF ⟨_, rfl, _, _, rfl, rfl, .inr ⟨by decide, by decide⟩, ?_, rfl⟩
        unfold gapOf
        rw [if_neg hd]
        rfl
    · rintro σ' H' ⟨rfl, rfl⟩
      refine ⟨_, rfl, e, C1, dx, _, _, rfl, h1, (C.ic o1).cl, (C.nc o1).n2, rfl, ?_⟩
      refine ⟨_, rfl, e, C1, dx, _, _, rfl, h1, (C.ic o1).cl, (C.nc o1).n3, rfl, _, rfl, _, _, rfl, rfl, ?_⟩
      refine ⟨_, rfl, e, C1, dx, _, _, rfl, h1, (C.ic o1).cl, (C.nc o1).n4, rfl, _, rfl, _, _, rfl, rfl, ?_⟩
      refine ⟨_, rfl, e, C1, dx, _, _, rfl, h1, (C.ic o1).cl, (C.nc o1).n5, rfl, fun x dy nx ndy ne => ?_⟩
      refine ⟨x, CT, dy, k, a - gapOf k n, b - gapOf k n, z, rfl, C.iT.cl, C.nT, upd_same, hk, ha, hb, hz, fun H2 sb hx2 => ⟨rfl, ?_⟩⟩
      refine q x H2 nx (fun b' o e' => sb b' o ?_ (ne_of_none e' nx)) ⟨dy, hx2⟩
      rw [upd_ne (ne_of_none e' nx), upd_ne (ne_of_none e' ndy)]
      exact e'
end
end Toy

set_option Elab.async false
set_option linter.all false
set_option maxRecDepth 100000
set_option maxHeartbeats 4000000
namespace Toy
open PySem L2 TL EM
section
variable {P : Program} {w : World} {K : PySem.W.Frag} {mg : Str → Option Value} {base : Heap}
/-- the pen: cells, at, left -/
def penD (c : Addr) (a l : Int) : List (Key × V) := [(.inr "cells", .ref c), (.inr "at", .int a), (.inr "left", .int l)]
theorem pen_cells (c : Addr) (a l : Int) : valV (penD c a l) (.inr "cells" : Key) = some (.ref c) := rfl
theorem pen_at (c : Addr) (a l : Int) : valV (penD c a l) (.inr "at" : Key) = some (.int a) := rfl
theorem pen_left (c : Addr) (a l : Int) : valV (penD c a l) (.inr "left" : Key) = some (.int l) := rfl
theorem pen_pat (c : Addr) (a l n : Int) : putK (penD c a l) (.inr "at" : Key) (.int n) = penD c n l := rfl
theorem pen_pleft (c : Addr) (a l n : Int) : putK (penD c a l) (.inr "left" : Key) (.int n) = penD c a n := rfl
structure PenAt (H : Hp) (p c : Addr) (B : Nat) : Prop where
  ex : ∃ (ns : List Int) (a l : Int), H p = some (.dK (penD c a l)) ∧ H c = some (.lst (ns.map V.int)) ∧ 0 ≤ a ∧ a ≤ B
/-- all but p stands as it stood -/
def But (p : Addr) (H H' : Hp) : Prop := ∀ b o, H b = some o → b ≠ p → H' b = some o
theorem But.refl (p : Addr) (H : Hp) : But p H H := fun _ _ h _ => h
theorem But.trans {p : Addr} {H H1 H2 : Hp} (a : But p H H1) (b : But p H1 H2) : But p H H2 := fun c o h n => b c o (a c o h n) n
theorem But.of {p : Addr} {H H' : Hp} (a : Same H H') : But p H H' := fun b o h _ => a b o h
def spDraw : Sp := fun vs H Q _ => ∃ (p c : Addr) (m : Int) (B : Nat), vs = [.ref p, .int m] ∧ PenAt H p c B ∧ 0 < m ∧ m < 1073741824 ∧ B < 1000000000000 ∧
  ∀ (n : Int) (H' : Hp), 0 ≤ n → n < m → PenAt H' p c (B + 1) → But p H H' → Q (.int n) H'
theorem dpInts (K : PySem.W.Frag) (H : Hp) : ∀ ns : List Int, DpAll K H (ns.map V.int) (ns.map PyData.int)
  | [] => .nil
  | n :: ns => .cons (.int n) (dpInts K H ns)
theorem layInts : ∀ ns : List Int, PyData.canLayAll0 (ns.map PyData.int) = true
  | [] => rfl
  | n :: ns => by show (PyData.canLay0 (.int n) && PyData.canLayAll0 (ns.map PyData.int)) = true; rw [layInts ns]; rfl
theorem depInts : ∀ ns : List Int, PyData.depthAll (ns.map PyData.int) = 0
  | [] => rfl
  | n :: ns => by show max (PyData.depth (.int n)) (PyData.depthAll (ns.map PyData.int)) = 0; rw [depInts ns]; rfl
theorem shInts (ns : List Int) : SeqAt.shaped (.list (ns.map PyData.int)) = true := by
  unfold SeqAt.shaped
  have h1 : PyData.canLay0 (.list (ns.map PyData.int)) = true := layInts ns
  have h2 : PyData.depth (.list (ns.map PyData.int)) = 1 := by show PyData.depthAll (ns.map PyData.int) + 1 = 1; rw [depInts]
  rw [h1, h2]; rfl
theorem eqvNil (ns : List Int) : PyData.eqv (.list (ns.map PyData.int)) (.list []) = decide (ns = []) := by
  cases ns with
  | nil => rfl
  | cons n r => rfl
abbrev s__law_draw : Stmt := top 40
theorem sc__law_draw : FnScope ["_law_pen_here", "_law_many", "_law_digit", "_law_spot", "_law_cell", "_law_mixed"] ["_law_pen_here", "_law_many"] (defScope s__law_draw) := ⟨rfl, rfl, rfl, by decide +kernel, rfl, by decide +kernel, by decide +kernel⟩

theorem ok_draw {f : Addr} {fd : FuncData} (F : Fun K "_law_draw" "_law_draw" s__law_draw f fd) (T : TB mg) : FnOk P w K mg base CX0 1 f fd ["_law_pen_here", "_law_many"] spDraw := by
  refine F.ok sc__law_draw (fun vs H Q E h => ?_) (fun cdv A outer s H vs Q E hr h => ?_)
  · obtain ⟨p, c, m, B, rfl, _⟩ := h
    rfl
  · obtain ⟨p, c, m, B, rfl, ⟨ns, a, l, hp, hc, a0, aB⟩, m0, m1, hB, k⟩ := h
    have hu := hu_of hr
    have npc : c ≠ p := ne_of hc hp (by intro z; cases z)
    refine ⟨_, (pss_cons (ps_if (pt_cmpR op_ge (pe_dget hu (pv 0) pe_str (fun _ _ => rfl)) (pv 1) (nomark _))
        (pss_cons (ps_set (i := 2) sc__law_draw.nd rfl (Or.inl rfl) (pe_op op_mod (pe_callTy call_int1 (by rfl) T.int (by decide +kernel) (pa_cons (pe_dget hu (pv 0) pe_str (fun _ _ => rfl)) pa_nil)) (pv 1)))
      (pss_cons (ps_dput hu (pv 0) pe_str (pe_op op_fdiv (pe_dget hu (pv 0) pe_str (fun _ _ => rfl)) (pv 1)) rfl)
      (pss_one (ps_ret (pv 2)))))
        pss_nil)
      (pss_cons (ps_set (i := 3) sc__law_draw.nd rfl (Or.inl rfl) (pe_dget hu (pv 0) pe_str (fun _ _ => rfl)))
      (pss_cons (ps_dput hu (pv 0) pe_str (pe_op op_add (pv 3) pe_int) rfl)
      (pss_cons (ps_set (i := 4) sc__law_draw.nd rfl (Or.inl rfl) (pe_op op_add (pe_op op_mul pe_int (pv 3)) pe_int))
      (Evl.pss_cut (ps_if (pt_cmpR (op_neD hr.units) (pe_dget hu (pv 0) pe_str (fun _ _ => rfl)) (pe_lst pa_nil) (nomark _))
        (pss_one (ps_set (i := 4) sc__law_draw.nd rfl (Or.inl rfl) (pe_ix ix_list (pe_dget hu (pv 0) pe_str (fun _ _ => rfl)) (pe_op op_mod (pe_callTy call_int1 (by rfl) T.int (by decide +kernel) (pa_cons (pv 3) pa_nil)) (pe_callB call_len_seq (by rfl) T.len PySem.boot_len (pa_cons (pe_dget hu (pv 0) pe_str (fun _ _ => rfl)) pa_nil))) (fun _ _ => rfl))))
        pss_nil)
      (Evl.pss_cut (ps_if (PW.pt (pw_and (pt_cmpR op_lt (pv 3) (pe_callB call_len_seq (by rfl) T.len PySem.boot_len (pa_cons (pe_dget hu (pv 0) pe_str (fun _ _ => rfl)) pa_nil)) (nomark _)) (pw_and1 (pt_cmpR op_ge (pv 4) (pe_op op_pow pe_int pe_int) (nomark _)))))
        (pss_cons (ps_dput hu (pv 0) pe_str (pe_op op_fdiv (pe_op op_sub (pv 4) (pe_op op_pow pe_int pe_int)) (pv 1)) rfl)
      (pss_one (ps_ret (pe_op op_mod (pe_callTy call_int1 (by rfl) T.int (by decide +kernel) (pa_cons (pe_op op_sub (pv 4) (pe_op op_pow pe_int pe_int)) pa_nil)) (pv 1)))))
        pss_nil)
      (pss_cons (ps_set (i := 5) sc__law_draw.nd rfl (Or.inl rfl) (pe_op op_add (pe_op op_add (pe_op op_mul (pe_op op_add (pe_op op_mod (pe_callTy call_int1 (by rfl) T.int (by decide +kernel) (pa_cons (pv 4) pa_nil)) pe_int) pe_int) (pe_op op_add (pe_op op_mul pe_int (pv 3)) pe_int)) (pe_op op_mul (pe_op op_mul pe_int (pv 3)) (pv 3))) pe_int))
      (pss_cons (ps_set (i := 5) sc__law_draw.nd rfl (Or.inl rfl) (pe_op op_mod (pe_callTy call_int1 (by rfl) T.int (by decide +kernel) (pa_cons (pv 5) pa_nil)) pe_int))
      (pss_cons (ps_set (i := 5) sc__law_draw.nd rfl (Or.inl rfl) (pe_op op_mod (pe_callTy call_int1 (by rfl) T.int (by decide +kernel) (pa_cons (pe_op op_mul (pv 5) (pe_op op_add (pv 5) pe_int)) pa_nil)) pe_int))
      (pss_cons (ps_set (i := 5) sc__law_draw.nd rfl (Or.inl rfl) (pe_op op_mod (pe_callTy call_int1 (by rfl) T.int (by decide +kernel) (pa_cons (pe_op op_mul (pv 5) (pv 5)) pa_nil)) pe_int))
      (pss_one (ps_ret (pe_op op_mod (pe_callTy call_int1 (by rfl) T.int (by decide +kernel) (pa_cons (pe_op op_fdiv (pv 5) pe_int) pa_nil)) (pv 1)))))))))))))), ?_⟩
    have gl : ∀ {H' : Hp} {a l : Int}, H' p = some (.dK (penD c a l)) → DGet H' p (.str "left") (some (.int l)) := fun h => DGet.k (k := Sum.inr "left") h
    have ga : ∀ {H' : Hp} {a l : Int}, H' p = some (.dK (penD c a l)) → DGet H' p (.str "at") (some (.int a)) := fun h => DGet.k (k := Sum.inr "at") h
    have gc : ∀ {H' : Hp} {a l : Int}, H' p = some (.dK (penD c a l)) → DGet H' p (.str "cells") (some (.ref c)) := fun h => DGet.k (k := Sum.inr "cells") h
    have pl : ∀ {H' : Hp} {a l n : Int}, H' p = some (.dK (penD c a l)) → DPut H' p (.str "left") (.int n) (upd H' p (.dK (penD c a n))) := fun h => DPut.k (k := Sum.inr "left") h (small1000 (show 3 ≤ 1000 by decide))
    have pa : ∀ {H' : Hp} {a l n : Int}, H' p = some (.dK (penD c a l)) → DPut H' p (.str "at") (.int n) (upd H' p (.dK (penD c n l))) := fun h => DPut.k (k := Sum.inr "at") h (small1000 (show 3 ≤ 1000 by decide))
    refine ⟨_, rfl, p, _, rfl, gl hp, _, rfl, _, _, rfl, rfl, _, rfl, ?_⟩
    refine ite2 (fun h1 => ?_) (fun h1 => ?_)
    · refine ⟨_, rfl, p, _, rfl, gl hp, .inl ⟨_, rfl, _, rfl, _, _, rfl, rfl, m0, ?_⟩⟩
      refine ⟨_, rfl, p, _, rfl, gl hp, _, rfl, _, _, rfl, rfl, ⟨m0, m1⟩, _, rfl, p, _, rfl, pl hp, _, rfl, ?_⟩
      exact k _ _ (Int.emod_nonneg _ (by omega)) (Int.emod_lt_of_pos _ m0) ⟨ns, a, _, upd_same, by rw [upd_ne npc]; exact hc, a0, by omega⟩ fun b o e n => by rw [upd_ne n]; exact e
    · -- spot = pen['at']; pen['at'] = spot + 1; cell = 37 * spot + 5
      refine ⟨_, rfl, p, _, rfl, ga hp, ?_⟩
      refine ⟨_, rfl, _, _, rfl, rfl, _, rfl, p, _, rfl, pa hp, ?_⟩
      have hp1 : (upd H p (.dK (penD c (a + 1) l))) p = some (.dK (penD c (a + 1) l)) := upd_same
      have hc1 : (upd H p (.dK (penD c (a + 1) l))) c = some (.lst (ns.map V.int)) := by rw [upd_ne npc]; exact hc
      refine ⟨_, rfl, _, _, rfl, rfl, .inl ⟨by decide, by decide⟩, _, _, rfl, rfl, ?_⟩
      -- if pen['cells'] != []
      refine ⟨fun σ' H' => ∃ cell : Int, σ' = [some (.ref p), some (.int m), none, some (.int a), some (.int cell), none] ∧ H' p = some (.dK (penD c (a + 1) l)) ∧ H' c = some (.lst (ns.map V.int)) ∧ But p H H', ?_, ?_⟩
      · refine ⟨_, rfl, p, _, rfl, gc hp1, (by show 0 ≤ sizeLine; decide), fun q hq => ?_⟩
        have nqp : p ≠ q := ne_of_none hp1 hq
        have nqc : c ≠ q := ne_of_none hc1 hq
        have hp2 : (upd (upd H p (.dK (penD c (a + 1) l))) q (.lst [])) p = some (.dK (penD c (a + 1) l)) := by rw [upd_ne nqp]; exact hp1
        have hc2 : (upd (upd H p (.dK (penD c (a + 1) l))) q (.lst [])) c = some (.lst (ns.map V.int)) := by rw [upd_ne nqc]; exact hc1
        have hq2 : (upd (upd H p (.dK (penD c (a + 1) l))) q (.lst [])) q = some (.lst []) := upd_same
        have bt : But p H (upd (upd H p (.dK (penD c (a + 1) l))) q (.lst [])) := fun b o e n => by
          rw [upd_ne, upd_ne n]
          · exact e
          · intro z; subst z; rw [upd_ne n, e] at hq; cases hq
        clear hp1 hc1 hp hc
        generalize upd (upd H p (.dK (penD c (a + 1) l))) q (.lst []) = H2 at hp2 hc2 hq2 bt ⊢
        refine ⟨.list (ns.map PyData.int), .list [], .lst (SqL.of hc2) (dpInts _ _ ns), .lst (SqL.of hq2) .nil, shInts ns, rfl, _, rfl, ?_⟩
        rw [eqvNil]
        by_cases hn : ns = []
        · rw [decide_eq_true hn]
          exact iteF ⟨_, rfl, hp2, hc2, bt⟩
        · rw [decide_eq_false hn]
          have l0 : 0 < ns.length := List.length_pos_iff.mpr hn
          have l1 : (0 : Int) < ((ns.map V.int).length : Int) := by rw [List.length_map]; omega
          refine iteT ⟨_, rfl, p, _, rfl, gc hp2, _, rfl, .inl ⟨_, rfl, _, rfl, p, _, rfl, gc hp2, c, _, rfl, .inl (SqL.of hc2), _, _, rfl, rfl, l1, ?_⟩⟩
          have e0 := Int.emod_nonneg a (show ((ns.map V.int).length : Int) ≠ 0 by omega)
          have e1 := Int.emod_lt_of_pos a l1
          rw [List.length_map] at e0 e1 ⊢
          have hix : ns[(a % (ns.length : Int)).toNat]? = some (ns[(a % (ns.length : Int)).toNat]'(by omega)) := List.getElem?_eq_getElem (by omega)
          refine ⟨c, _, _, .int (ns[(a % (ns.length : Int)).toNat]'(by omega)), rfl, rfl, SqL.of hc2, at_of (j := (a % (ns.length : Int)).toNat) (by omega) (by rw [List.getElem?_map, hix]; rfl), ?_⟩
          exact ⟨_, rfl, hp2, hc2, bt⟩
      · clear hp hc hp1 hc1
        rintro σ' H2 ⟨cell, rfl, hp, hc, bt⟩
        have pen : ∀ {H' : Hp} {l' : Int}, H' p = some (.dK (penD c (a + 1) l')) → H' c = some (.lst (ns.map V.int)) → PenAt H' p c (B + 1) := fun h1 h2 => ⟨ns, a + 1, _, h1, h2, by omega, by omega⟩
        have c18 : CPow 10 18 := ⟨by decide, by decide, by decide⟩
        refine ⟨fun σ' H' => σ' = [some (.ref p), some (.int m), none, some (.int a), some (.int cell), none] ∧ H' = H2, ?_, ?_⟩
        · refine ⟨_, rfl, _, rfl, p, _, rfl, gc hp, c, _, rfl, .inl (SqL.of hc), _, _, rfl, rfl, _, rfl, ?_⟩
          refine ite2 (fun _ => ?_) (fun _ => iteF ⟨rfl, rfl⟩)
          refine ⟨_, rfl, _, _, rfl, rfl, c18, _, _, rfl, rfl, _, rfl, ?_⟩
          refine ite2 (fun _ => ?_) (fun _ => ⟨rfl, rfl⟩)
          refine ⟨_, rfl, _, _, rfl, rfl, c18, _, _, rfl, rfl, _, rfl, _, _, rfl, rfl, ⟨m0, m1⟩, _, rfl, p, _, rfl, pl hp, ?_⟩
          refine ⟨_, rfl, _, _, rfl, rfl, c18, _, _, rfl, rfl, .inl ⟨_, rfl, _, rfl, _, _, rfl, rfl, m0, ?_⟩⟩
          exact k _ _ (Int.emod_nonneg _ (by omega)) (Int.emod_lt_of_pos _ m0) (pen upd_same (by rw [upd_ne npc]; exact hc)) fun b o e n => by rw [upd_ne n]; exact bt b o e n
        · rintro σ' H' ⟨rfl, rfl⟩
          have b1 := Int.emod_nonneg cell (show (2147483629 : Int) ≠ 0 by decide)
          have b2 := Int.emod_lt_of_pos cell (show (0 : Int) < 2147483629 by decide)
          have m1' : CMul (cell % 2147483629 + 1) (97 * a + 40693) := .inl ⟨by omega, by omega⟩
          have m2' : CMul (69623 * a) a := .inr ⟨by omega, by omega⟩
          refine ⟨_, rfl, .inl ⟨_, rfl, _, _, rfl, rfl, (show (0 : Int) < 2147483629 by decide), _, _, rfl, rfl, _, rfl, _, _, rfl, rfl, .inl ⟨by decide, by decide⟩, _, _, rfl, rfl, _, _, rfl, rfl, m1', ?_⟩⟩
          refine ⟨_, rfl, _, _, rfl, rfl, .inl ⟨by decide, by decide⟩, _, rfl, _, _, rfl, rfl, m2', _, _, rfl, rfl, _, _, rfl, rfl, ?_⟩
          refine ⟨_, rfl, .inl ⟨_, rfl, _, _, rfl, rfl, (show (0 : Int) < 2147483647 by decide), ?_⟩⟩
          generalize hx : ((cell % 2147483629 + 1) * (97 * a + 40693) + 69623 * a * a + 11) % 2147483647 = x
          have x1 : 0 ≤ x := by rw [← hx]; exact Int.emod_nonneg _ (by decide)
          have x2 : x < 2147483647 := by rw [← hx]; exact Int.emod_lt_of_pos _ (by decide)
          refine ⟨_, rfl, _, rfl, _, _, rfl, rfl, _, _, rfl, rfl, .inl ⟨by omega, by omega⟩, .inl ⟨_, rfl, _, _, rfl, rfl, (show (0 : Int) < 2147483587 by decide), ?_⟩⟩
          generalize hy : (x * (x + 16811)) % 2147483587 = y
          have y1 : 0 ≤ y := by rw [← hy]; exact Int.emod_nonneg _ (by decide)
          have y2 : y < 2147483587 := by rw [← hy]; exact Int.emod_lt_of_pos _ (by decide)
          refine ⟨_, rfl, _, rfl, _, _, rfl, rfl, .inl ⟨by omega, by omega⟩, .inl ⟨_, rfl, _, _, rfl, rfl, (show (0 : Int) < 2147483563 by decide), ?_⟩⟩
          refine ⟨_, rfl, _, _, rfl, rfl, ⟨by decide, by decide⟩, .inl ⟨_, rfl, _, rfl, _, _, rfl, rfl, m0, ?_⟩⟩
          exact k _ _ (Int.emod_nonneg _ (by omega)) (Int.emod_lt_of_pos _ m0) (pen hp hc) bt
end
end Toy

set_option Elab.async false
set_option linter.all false
set_option maxRecDepth 100000
set_option maxHeartbeats 4000000
namespace Toy
open PySem L2 TL EM
section
variable {P : Program} {w : World} {K : PySem.W.Frag} {mg : Str → Option Value} {base : Heap}
theorem cut63 (ns : List Int) : cutV (ns.map V.int) none (some 63) = (ns.take 63).map V.int := by
  unfold cutV
  have e1 : HT.sIx (ns.map V.int).length 0 none = 0 := rfl
  have e2 : HT.sIx (ns.map V.int).length (ns.map V.int).length (some 63) = min 63 (ns.map V.int).length := HT.sIx_nat _ _ 63
  rw [e1, e2, List.drop_zero, List.map_take]
  rw [Nat.sub_zero]
  by_cases h : 63 ≤ (ns.map V.int).length
  · rw [Nat.min_eq_left h]
  · rw [Nat.min_eq_right (by omega), List.take_of_length_le (Nat.le_refl _), List.take_of_length_le (by omega)]
def spPen (K : PySem.W.Frag) : Sp := fun vs H Q _ => ∃ (a : Addr) (ns : List Int), vs = [.ref a] ∧ SqL K H a (ns.map V.int) ∧ ∀ p c H', H p = none → Same H H' → PenAt H' p c 0 → Q (.ref p) H'
abbrev s__law_pen : Stmt := top 39
theorem sc__law_pen : FnScope ["_law_script"] ["_law_script"] (defScope s__law_pen) := ⟨rfl, rfl, rfl, by decide +kernel, rfl, by decide +kernel, by decide +kernel⟩

theorem ok_pen {f : Addr} {fd : FuncData} (F : Fun K "_law_pen" "_law_pen" s__law_pen f fd) (T : TB mg) : FnOk P w K mg base CX0 1 f fd ["_law_script"] (spPen K) := by
  refine F.ok sc__law_pen (fun vs H Q E h => ?_) (fun cdv A outer s H vs Q E hr h => ?_)
  · obtain ⟨a, ns, rfl, _⟩ := h
    rfl
  · obtain ⟨a, ns, rfl, hS, k⟩ := h
    refine ⟨_, (pss_one (ps_ret (pe_disp (pps_cons pe_str (pe_callTy call_list_of (by rfl) T.list (by decide +kernel) (pa_cons (pe_slice sl_list (pv 0) po_none (po_some pe_int)) pa_nil)) (pps_cons pe_str pe_int (pps_cons pe_str pe_int pps_nil))) (by rfl) (by rfl) (fun z => by cases z) (by decide)))), ?_⟩
    refine fun p hp => ⟨_, rfl, _, rfl, a, _, rfl, (Same.new hp).seq hS, fun q hq => ?_⟩
    rw [cut63]
    refine ⟨q, _, rfl, .inl (SqL.of upd_same), fun l hl => ?_⟩
    have npq : p ≠ q := ne_of_none (upd_same (H := H) (a := p) (o := .dK [])) hq
    have hp1 : (upd (upd H p (.dK [])) q (.lst ((ns.take 63).map V.int))) p = some (.dK []) := by rw [upd_ne npq, upd_same]
    have npl : p ≠ l := ne_of_none hp1 hl
    refine ⟨by rw [upd_ne npl]; exact hp1, [(.inr "cells", .ref l), (.inr "at", .int 0), (.inr "left", .int 0)], rfl, (by show 3 ≤ 15; decide), ?_⟩
    refine k p l _ hp ?_ ⟨ns.take 63, 0, 0, ?_, ?_, by omega, by omega⟩
    · exact Same.mut (((Same.new hp).trans (Same.new hq)).trans (Same.new hl)) hp
    · rw [upd_same]; rfl
    · rw [upd_ne npl.symm, upd_same]
/-- a list of things to draw from, or a text -/
def spPick : Sp := fun vs H Q _ => ∃ (p c : Addr) (v : V) (B : Nat), vs = [.ref p, v] ∧ PenAt H p c B ∧ B < 1000000000000 ∧
  ((∃ (l : Addr) (xs : List V), v = .ref l ∧ H l = some (.lst xs) ∧ 0 < xs.length ∧ xs.length < 1073741824 ∧ ∀ (i : Nat) (x : V) (H' : Hp), xs[i]? = some x → PenAt H' p c (B + 1) → But p H H' → Q x H') ∨
   (∃ t : Str, v = .str t ∧ 0 < t.length ∧ t.length ≤ 100000 ∧ ∀ (ch : Nat) (H' : Hp), PenAt H' p c (B + 1) → But p H H' → Q (.str ⟨#[ch]⟩) H'))
abbrev s__law_pick : Stmt := top 41
theorem sc__law_pick : FnScope ["_law_pen_here", "_law_some"] ["_law_pen_here", "_law_some"] (defScope s__law_pick) := ⟨rfl, rfl, rfl, by decide +kernel, rfl, by decide +kernel, by decide +kernel⟩

theorem ok_pick {f : Addr} {fd : FuncData} (F : Fun K "_law_pick" "_law_pick" s__law_pick f fd) (T : TB mg) (cDraw : Cal P w K mg base 1 "_law_draw" ["_law_pen_here", "_law_many"] spDraw) : FnOk P w K mg base CX0 2 f fd ["_law_pen_here", "_law_some"] spPick := by
  refine F.ok sc__law_pick (fun vs H Q E h => ?_) (fun cdv A outer s H vs Q E hr h => ?_)
  · obtain ⟨p, c, v, B, rfl, _⟩ := h
    rfl
  · obtain ⟨p, c, v, B, rfl, hP, hB, h⟩ := h
    have hr1 : Room 1 _ := hr
    refine ⟨_, (pss_one (ps_ret (pe_ix ix_seq (pv 1) (pe_cal cDraw hr1 rfl (pa_cons (pv 0) (pa_cons (pe_callB call_len (by rfl) T.len PySem.boot_len (pa_cons (pv 1) pa_nil)) pa_nil))) (fun _ _ => rfl)))), ?_⟩
    rcases h with ⟨l, xs, rfl, hl, l0, l1, k⟩ | ⟨t, rfl, t0, t1, k⟩
    · refine ⟨_, rfl, _, rfl, _, rfl, _, _, rfl, .inl ⟨_, SqL.of hl, rfl⟩, ?_⟩
      refine ⟨p, c, _, B, rfl, hP, by omega, by omega, hB, fun n H' n0 n1 hP' bt => ?_⟩
      have nlp : l ≠ p := by
        obtain ⟨ns, a', l', hp, _⟩ := hP
        exact ne_of hl hp (by intro z; cases z)
      have hl' := bt _ _ hl nlp
      have hi : n.toNat < xs.length := by omega
      refine .inl ⟨l, _, _, xs[n.toNat], rfl, rfl, SqL.of hl', at_of (j := n.toNat) (by omega) (List.getElem?_eq_getElem hi), ?_⟩
      exact k n.toNat _ H' (List.getElem?_eq_getElem hi) hP' bt
    · refine ⟨_, rfl, _, rfl, _, rfl, _, _, rfl, ⟨Evl.sz_of t1, rfl⟩, ?_⟩
      refine ⟨p, c, _, B, rfl, hP, by omega, by omega, hB, fun n H' n0 n1 hP' bt => ?_⟩
      have hi : n.toNat < (tl t).length := by rw [← len_tl]; omega
      refine .inr (.inr ⟨t, _, (tl t)[n.toNat], rfl, rfl, Evl.sz_of t1, atI_of n0 (List.getElem?_eq_getElem hi), ?_⟩)
      exact k _ H' hP' bt
theorem PenAt.mono {H : Hp} {p c : Addr} {B B' : Nat} (h : PenAt H p c B) (hb : B ≤ B') : PenAt H p c B' := by
  obtain ⟨ns, a, l, h1, h2, h3, h4⟩ := h
  exact ⟨ns, a, l, h1, h2, h3, by omega⟩
theorem PenAt.same {H H' : Hp} {p c : Addr} {B : Nat} (h : PenAt H p c B) (s : Same H H') : PenAt H' p c B := by
  obtain ⟨ns, a, l, h1, h2, h3, h4⟩ := h
  exact ⟨ns, a, l, s _ _ h1, s _ _ h2, h3, h4⟩
theorem PenAt.ne {H : Hp} {p c q : Addr} {B : Nat} (h : PenAt H p c B) (hq : H q = none) : p ≠ q := by
  obtain ⟨ns, a, l, h1, _⟩ := h
  exact ne_of_none h1 hq
theorem PenAt.nel {H : Hp} {p c q : Addr} {B : Nat} {xs : List V} (h : PenAt H p c B) (hq : H q = some (.lst xs)) : q ≠ p := by
  obtain ⟨ns, a, l, h1, _⟩ := h
  exact ne_of hq h1 (by intro z; cases z)
theorem PenAt.nec {H : Hp} {p c q : Addr} {B : Nat} (h : PenAt H p c B) (hq : H q = none) : c ≠ q := by
  obtain ⟨ns, a, l, h1, h2, _⟩ := h
  exact ne_of_none h2 hq
theorem PenAt.upd {H : Hp} {p c q : Addr} {B : Nat} {o : HO} (h : PenAt H p c B) (hp : p ≠ q) (hc : c ≠ q) : PenAt (upd H q o) p c B := by
  obtain ⟨ns, a, l, h1, h2, h3, h4⟩ := h
  exact ⟨ns, a, l, by rw [upd_ne hp]; exact h1, by rw [upd_ne hc]; exact h2, h3, h4⟩
theorem But.upd {H H' : Hp} {p q : Addr} {o : HO} (h : But p H H') (hq : H q = none) : But p H (upd H' q o) := fun b o' e n => by
  rw [upd_ne (ne_of_none e hq)]
  exact h b o' e n
/-- forget what is new behind: Same then But -/
theorem But.after {p : Addr} {H H1 H2 : Hp} (s : Same H H1) (b : But p H1 H2) : But p H H2 := fun c o h n => b c o (s c o h) n
theorem But.then {p : Addr} {H H1 H2 : Hp} (b : But p H H1) (s : Same H1 H2) : But p H H2 := fun c o h n => s c o (b c o h n)
end
end Toy

set_option Elab.async false
set_option linter.all false
set_option maxRecDepth 100000
set_option maxHeartbeats 4000000
namespace L2
open PySem
/-- a tracked error of the class at C -/
def ExAt (H : Hp) (e C : Addr) : Prop := (∃ d fs, H e = some (exo e C (some d)) ∧ H d = some (exd d fs)) ∨ H e = some (exo e C none)
theorem ExAt.same {H H' : Hp} {e C : Addr} (s : Same H H') (h : ExAt H e C) : ExAt H' e C := by
  rcases h with ⟨d, fs, h1, h2⟩ | h
  · exact .inl ⟨d, fs, s _ _ h1, s _ _ h2⟩
  · exact .inr (s _ _ h)
def rIsA (K : PySem.W.Frag) : List V → Hp → VK → Prop := fun xs H Q => ∃ (a C : Addr) (c : V) (u : Value) (b : Bool), xs = [.ref a, c] ∧ ExiC K C ∧ ExAt H a C ∧ (∀ w, RelV c w → w = u) ∧ PySem.W.kitOne K (.ref C) u = some b ∧ Q (.bl b) H
theorem call_isA {X : Cx} : CallR X (.builtin "isinstance") (rIsA X.K) := by
  intro pins s σ H xs us Q I r h
  obtain ⟨a, C, c, u, b, rfl, T, ea, k, e, q⟩ := h
  rcases ea with ⟨d, fs, h1, h2⟩ | h1
  · exact call_isX pins s σ H _ us Q I r ⟨a, C, d, fs, c, u, b, rfl, T, h1, h2, k, e, q⟩
  · exact call_isN pins s σ H _ us Q I r ⟨a, C, c, u, b, rfl, T, h1, k, e, q⟩
/-- what the top says of an error with one field -/
structure ExK (K : PySem.W.Frag) (mg : Str → Option Value) (P : Program) (x fld : Str) (C : Addr) : Prop where
  ts : ∃ fI, PySem.SupX.SupTxt K mg P fld C fI
  g : mg x = some (.ref C)
  xf : XfC K C
  no : PySem.W.findIn K (.ref C) fld = some none
theorem pe_valK {X : Cx} {x fld : Str} {C : Addr} {a : Expr} {ta : TA} {p pos : Pos} {k : Nat} (T : ExK X.K X.mg X.prog x fld C) (hr : Room k X.A) (ha : PA X [a] ta) (hg : Gl X x := by rfl) (hdb : (x == ("__debug__" : Str)) = false := by decide)
    (he : starEach (a :: []) X.env = (false, eval a X.env) :: starEach [] X.env := by rfl) (hpl : (backTo pos (starEach [] X.env)).any (·.1) = false := by rfl) :
    PE X (.Call (.Name x p) [a] [] pos) (tValSup C fld ta) := by
  obtain ⟨_, t⟩ := T.ts
  exact pe_valSup t T.g hr ha hg hdb he hpl
structure ExN (K : PySem.W.Frag) (mg : Str → Option Value) (P : Program) (x : Str) (C : Addr) : Prop where
  ts : ∃ fI, PySem.SupX.NilTxt K mg P C fI
  g : mg x = some (.ref C)
theorem pe_valN {X : Cx} {x : Str} {C : Addr} {p pos : Pos} {k : Nat} (T : ExN X.K X.mg X.prog x C) (hr : Room k X.A) (hg : Gl X x := by rfl) (hdb : (x == ("__debug__" : Str)) = false := by decide) :
    PE X (.Call (.Name x p) [] [] pos) (tValNil C) := by
  obtain ⟨_, t⟩ := T.ts
  exact pe_valNil t T.g hr hg hdb
theorem int_dec (a b : Int) : decide (V.int a = V.int b) = decide (a = b) := by
  by_cases h : a = b
  · rw [decide_eq_true h, h, decide_eq_true rfl]
  · rw [decide_eq_false h, decide_eq_false]
    intro z; injection z; exact h (by assumption)
end L2
namespace Toy
open PySem L2 TL EM
section
variable {P : Program} {w : World} {K : PySem.W.Frag} {mg : Str → Option Value} {base : Heap}
def spMade (CS : List Addr) : Sp := fun vs H Q _ => ∃ (i : Nat) (v : V) (C : Addr), vs = [.int (i : Int), v] ∧ i < 23 ∧ CS[i]? = some C ∧
  ∀ (p e : Addr) (H' : Hp), Same H H' → ExAt H' e C → H' p = some (.tup [.ref e, v]) → Q (.ref p) H'
theorem made_one {H : Hp} {fld : Str} {C e d : Addr} {v : V} (ne : H e = none) (nd : H d = none) (de : d ≠ e) : Same H (upd (upd H d (exd d [(fld, v)])) e (exo e C (some d))) ∧ ExAt (upd (upd H d (exd d [(fld, v)])) e (exo e C (some d))) e C ∧
    (upd (upd H d (exd d [(fld, v)])) e (exo e C (some d))) e = some (exo e C (some d)) ∧ (upd (upd H d (exd d [(fld, v)])) e (exo e C (some d))) d = some (exd d [(fld, v)]) := by
  have h1 : (upd (upd H d (exd d [(fld, v)])) e (exo e C (some d))) e = some (exo e C (some d)) := upd_same
  have h2 : (upd (upd H d (exd d [(fld, v)])) e (exo e C (some d))) d = some (exd d [(fld, v)]) := by rw [upd_ne de, upd_same]
  exact ⟨(Same.new nd).trans (Same.new (by rw [upd_ne (Ne.symm de)]; exact ne)), .inl ⟨d, _, h1, h2⟩, h1, h2⟩
end
end Toy

set_option Elab.async false
set_option linter.all false
set_option maxRecDepth 100000
set_option maxHeartbeats 4000000
namespace Toy
open PySem L2 TL EM
structure XS (K : PySem.W.Frag) (mg : Str → Option Value) (P : Program) (c0 c1 c2 c3 c4 c5 c6 c7 c8 c9 c10 c11 c12 c13 c14 c15 c16 c17 c18 c19 c20 c21 c22 : Addr) : Prop where
  x0 : ExK K mg P "BadText" "line" c0
  x1 : ExK K mg P "BadName" "name" c1
  x2 : ExK K mg P "NoZone" "name" c2
  x3 : ExK K mg P "NoProgram" "name" c3
  x4 : ExK K mg P "NoRoute" "index" c4
  x5 : ExK K mg P "BadPiece" "index" c5
  x6 : ExK K mg P "BadNumber" "number" c6
  x7 : ExK K mg P "TooMany" "most" c7
  x8 : ExK K mg P "BadKind" "kind" c8
  x9 : ExK K mg P "BadRule" "rule" c9
  x10 : ExK K mg P "BadOffsets" "offsets" c10
  x11 : ExK K mg P "NoHours" "program" c11
  x12 : ExK K mg P "BadChange" "index" c12
  x13 : ExK K mg P "BadLook" "index" c13
  x14 : ExK K mg P "TooWide" "index" c14
  x15 : ExK K mg P "NotTogether" "looks" c15
  x16 : ExK K mg P "BadEntry" "entry" c16
  x17 : ExK K mg P "NotARing" "names" c17
  x18 : ExK K mg P "NotHeld" "name" c18
  x19 : ExK K mg P "BadDeed" "index" c19
  x20 : ExN K mg P "NothingToUndo" c20
  x21 : ExN K mg P "OtherPrograms" c21
  x22 : ExN K mg P "OtherRoutes" c22
section
variable {P : Program} {w : World} {K : PySem.W.Frag} {mg : Str → Option Value} {base : Heap} {c0 c1 c2 c3 c4 c5 c6 c7 c8 c9 c10 c11 c12 c13 c14 c15 c16 c17 c18 c19 c20 c21 c22 : Addr}
def spLate (CS : List Addr) : Sp := fun vs H Q E => spMade CS vs H Q E ∧ ∃ (i : Nat) (v : V), vs = [.int (i : Int), v] ∧ 10 ≤ i
abbrev s__law_made_late : Stmt := top 43
theorem sc__law_made_late : FnScope ["_law_k", "_law_worth_here", "_law_e"] ["_law_k", "_law_worth_here"] (defScope s__law_made_late) := ⟨rfl, rfl, rfl, by decide +kernel, rfl, by decide +kernel, by decide +kernel⟩

theorem ok_late {f : Addr} {fd : FuncData} (F : Fun K "_law_made_late" "_law_made_late" s__law_made_late f fd) (X : XS K mg P c0 c1 c2 c3 c4 c5 c6 c7 c8 c9 c10 c11 c12 c13 c14 c15 c16 c17 c18 c19 c20 c21 c22) : FnOk P w K mg base CX0 1 f fd ["_law_k", "_law_worth_here"] (spLate [c0, c1, c2, c3, c4, c5, c6, c7, c8, c9, c10, c11, c12, c13, c14, c15, c16, c17, c18, c19, c20, c21, c22]) := by
  refine F.ok sc__law_made_late (fun vs H Q E h => ?_) (fun cdv A outer s H vs Q E hr h => ?_)
  · obtain ⟨⟨i, v, C, rfl, _⟩, _⟩ := h
    rfl
  · obtain ⟨⟨i, v, C, rfl, hi, hC, k⟩, i', v', e', h10⟩ := h
    have ei : (i : Int) = (i' : Int) := by injection e' with e1 _; injection e1
    refine ⟨_, (pss_cons (ps_if (pt_cmpR op_eq (pv 0) pe_int (nomark _))
        (pss_cons (ps_set (i := 2) sc__law_made_late.nd rfl (Or.inl rfl) (pe_valK X.x10 hr (pa_cons (pv 1) pa_nil)))
      (pss_one (ps_ret (pe_tup (pa_cons (pv 2) (pa_cons (pe_xof (pv 2)) pa_nil))))))
        pss_nil)
      (pss_cons (ps_if (pt_cmpR op_eq (pv 0) pe_int (nomark _))
        (pss_cons (ps_set (i := 2) sc__law_made_late.nd rfl (Or.inl rfl) (pe_valK X.x11 hr (pa_cons (pv 1) pa_nil)))
      (pss_one (ps_ret (pe_tup (pa_cons (pv 2) (pa_cons (pe_xof (pv 2)) pa_nil))))))
        pss_nil)
      (pss_cons (ps_if (pt_cmpR op_eq (pv 0) pe_int (nomark _))
        (pss_cons (ps_set (i := 2) sc__law_made_late.nd rfl (Or.inl rfl) (pe_valK X.x12 hr (pa_cons (pv 1) pa_nil)))
      (pss_one (ps_ret (pe_tup (pa_cons (pv 2) (pa_cons (pe_xof (pv 2)) pa_nil))))))
        pss_nil)
      (pss_cons (ps_if (pt_cmpR op_eq (pv 0) pe_int (nomark _))
        (pss_cons (ps_set (i := 2) sc__law_made_late.nd rfl (Or.inl rfl) (pe_valK X.x13 hr (pa_cons (pv 1) pa_nil)))
      (pss_one (ps_ret (pe_tup (pa_cons (pv 2) (pa_cons (pe_xof (pv 2)) pa_nil))))))
        pss_nil)
      (pss_cons (ps_if (pt_cmpR op_eq (pv 0) pe_int (nomark _))
        (pss_cons (ps_set (i := 2) sc__law_made_late.nd rfl (Or.inl rfl) (pe_valK X.x14 hr (pa_cons (pv 1) pa_nil)))
      (pss_one (ps_ret (pe_tup (pa_cons (pv 2) (pa_cons (pe_xof (pv 2)) pa_nil))))))
        pss_nil)
      (pss_cons (ps_if (pt_cmpR op_eq (pv 0) pe_int (nomark _))
        (pss_cons (ps_set (i := 2) sc__law_made_late.nd rfl (Or.inl rfl) (pe_valK X.x15 hr (pa_cons (pv 1) pa_nil)))
      (pss_one (ps_ret (pe_tup (pa_cons (pv 2) (pa_cons (pe_xof (pv 2)) pa_nil))))))
        pss_nil)
      (pss_cons (ps_if (pt_cmpR op_eq (pv 0) pe_int (nomark _))
        (pss_cons (ps_set (i := 2) sc__law_made_late.nd rfl (Or.inl rfl) (pe_valK X.x16 hr (pa_cons (pv 1) pa_nil)))
      (pss_one (ps_ret (pe_tup (pa_cons (pv 2) (pa_cons (pe_xof (pv 2)) pa_nil))))))
        pss_nil)
      (pss_cons (ps_if (pt_cmpR op_eq (pv 0) pe_int (nomark _))
        (pss_cons (ps_set (i := 2) sc__law_made_late.nd rfl (Or.inl rfl) (pe_valK X.x17 hr (pa_cons (pv 1) pa_nil)))
      (pss_one (ps_ret (pe_tup (pa_cons (pv 2) (pa_cons (pe_xof (pv 2)) pa_nil))))))
        pss_nil)
      (pss_cons (ps_if (pt_cmpR op_eq (pv 0) pe_int (nomark _))
        (pss_cons (ps_set (i := 2) sc__law_made_late.nd rfl (Or.inl rfl) (pe_valK X.x18 hr (pa_cons (pv 1) pa_nil)))
      (pss_one (ps_ret (pe_tup (pa_cons (pv 2) (pa_cons (pe_xof (pv 2)) pa_nil))))))
        pss_nil)
      (pss_cons (ps_if (pt_cmpR op_eq (pv 0) pe_int (nomark _))
        (pss_cons (ps_set (i := 2) sc__law_made_late.nd rfl (Or.inl rfl) (pe_valK X.x19 hr (pa_cons (pv 1) pa_nil)))
      (pss_one (ps_ret (pe_tup (pa_cons (pv 2) (pa_cons (pe_xof (pv 2)) pa_nil))))))
        pss_nil)
      (pss_cons (ps_if (pt_cmpR op_eq (pv 0) pe_int (nomark _))
        (pss_one (ps_ret (pe_tup (pa_cons (pe_valN X.x20 hr) (pa_cons (pv 1) pa_nil)))))
        pss_nil)
      (pss_cons (ps_if (pt_cmpR op_eq (pv 0) pe_int (nomark _))
        (pss_one (ps_ret (pe_tup (pa_cons (pe_valN X.x21 hr) (pa_cons (pv 1) pa_nil)))))
        pss_nil)
      (pss_one (ps_ret (pe_tup (pa_cons (pe_valN X.x22 hr) (pa_cons (pv 1) pa_nil))))))))))))))))), ?_⟩
    refine ⟨_, rfl, rfl, _, rfl, ?_⟩
    rw [int_dec]
    by_cases hj : (i : Int) = 10
    · rw [decide_eq_true hj]
      obtain rfl : i = 10 := by omega
      obtain rfl : c10 = C := Option.some.inj hC
      refine iteT ⟨_, rfl, _, rfl, fun e d ne nd de => ?_⟩
      obtain ⟨s1, ex, h1, h2⟩ := made_one (fld := "offsets") (C := c10) (v := v) ne nd de
      refine ⟨_, rfl, _, rfl, e, c10, d, _, v, rfl, X.x10.xf, X.x10.no, h1, h2, rfl, (by show 2 ≤ sizeLine; decide), fun p hp => ?_⟩
      exact k p e _ (s1.trans (Same.new hp)) (ex.same (Same.new hp)) upd_same
    rw [decide_eq_false hj]
    refine iteF ?_
    refine ⟨_, rfl, rfl, _, rfl, ?_⟩
    rw [int_dec]
    by_cases hj : (i : Int) = 11
    · rw [decide_eq_true hj]
      obtain rfl : i = 11 := by omega
      obtain rfl : c11 = C := Option.some.inj hC
      refine iteT ⟨_, rfl, _, rfl, fun e d ne nd de => ?_⟩
      obtain ⟨s1, ex, h1, h2⟩ := made_one (fld := "program") (C := c11) (v := v) ne nd de
      refine ⟨_, rfl, _, rfl, e, c11, d, _, v, rfl, X.x11.xf, X.x11.no, h1, h2, rfl, (by show 2 ≤ sizeLine; decide), fun p hp => ?_⟩
      exact k p e _ (s1.trans (Same.new hp)) (ex.same (Same.new hp)) upd_same
    rw [decide_eq_false hj]
    refine iteF ?_
    refine ⟨_, rfl, rfl, _, rfl, ?_⟩
    rw [int_dec]
    by_cases hj : (i : Int) = 12
    · rw [decide_eq_true hj]
      obtain rfl : i = 12 := by omega
      obtain rfl : c12 = C := Option.some.inj hC
      refine iteT ⟨_, rfl, _, rfl, fun e d ne nd de => ?_⟩
      obtain ⟨s1, ex, h1, h2⟩ := made_one (fld := "index") (C := c12) (v := v) ne nd de
      refine ⟨_, rfl, _, rfl, e, c12, d, _, v, rfl, X.x12.xf, X.x12.no, h1, h2, rfl, (by show 2 ≤ sizeLine; decide), fun p hp => ?_⟩
      exact k p e _ (s1.trans (Same.new hp)) (ex.same (Same.new hp)) upd_same
    rw [decide_eq_false hj]
    refine iteF ?_
    refine ⟨_, rfl, rfl, _, rfl, ?_⟩
    rw [int_dec]
    by_cases hj : (i : Int) = 13
    · rw [decide_eq_true hj]
      obtain rfl : i = 13 := by omega
      obtain rfl : c13 = C := Option.some.inj hC
      refine iteT ⟨_, rfl, _, rfl, fun e d ne nd de => ?_⟩
      obtain ⟨s1, ex, h1, h2⟩ := made_one (fld := "index") (C := c13) (v := v) ne nd de
      refine ⟨_, rfl, _, rfl, e, c13, d, _, v, rfl, X.x13.xf, X.x13.no, h1, h2, rfl, (by show 2 ≤ sizeLine; decide), fun p hp => ?_⟩
      exact k p e _ (s1.trans (Same.new hp)) (ex.same (Same.new hp)) upd_same
    rw [decide_eq_false hj]
    refine iteF ?_
    refine ⟨_, rfl, rfl, _, rfl, ?_⟩
    rw [int_dec]
    by_cases hj : (i : Int) = 14
    · rw [decide_eq_true hj]
      obtain rfl : i = 14 := by omega
      obtain rfl : c14 = C := Option.some.inj hC
      refine iteT ⟨_, rfl, _, rfl, fun e d ne nd de => ?_⟩
      obtain ⟨s1, ex, h1, h2⟩ := made_one (fld := "index") (C := c14) (v := v) ne nd de
      refine ⟨_, rfl, _, rfl, e, c14, d, _, v, rfl, X.x14.xf, X.x14.no, h1, h2, rfl, (by show 2 ≤ sizeLine; decide), fun p hp => ?_⟩
      exact k p e _ (s1.trans (Same.new hp)) (ex.same (Same.new hp)) upd_same
    rw [decide_eq_false hj]
    refine iteF ?_
    refine ⟨_, rfl, rfl, _, rfl, ?_⟩
    rw [int_dec]
    by_cases hj : (i : Int) = 15
    · rw [decide_eq_true hj]
      obtain rfl : i = 15 := by omega
      obtain rfl : c15 = C := Option.some.inj hC
      refine iteT ⟨_, rfl, _, rfl, fun e d ne nd de => ?_⟩
      obtain ⟨s1, ex, h1, h2⟩ := made_one (fld := "looks") (C := c15) (v := v) ne nd de
      refine ⟨_, rfl, _, rfl, e, c15, d, _, v, rfl, X.x15.xf, X.x15.no, h1, h2, rfl, (by show 2 ≤ sizeLine; decide), fun p hp => ?_⟩
      exact k p e _ (s1.trans (Same.new hp)) (ex.same (Same.new hp)) upd_same
    rw [decide_eq_false hj]
    refine iteF ?_
    refine ⟨_, rfl, rfl, _, rfl, ?_⟩
    rw [int_dec]
    by_cases hj : (i : Int) = 16
    · rw [decide_eq_true hj]
      obtain rfl : i = 16 := by omega
      obtain rfl : c16 = C := Option.some.inj hC
      refine iteT ⟨_, rfl, _, rfl, fun e d ne nd de => ?_⟩
      obtain ⟨s1, ex, h1, h2⟩ := made_one (fld := "entry") (C := c16) (v := v) ne nd de
      refine ⟨_, rfl, _, rfl, e, c16, d, _, v, rfl, X.x16.xf, X.x16.no, h1, h2, rfl, (by show 2 ≤ sizeLine; decide), fun p hp => ?_⟩
      exact k p e _ (s1.trans (Same.new hp)) (ex.same (Same.new hp)) upd_same
    rw [decide_eq_false hj]
    refine iteF ?_
    refine ⟨_, rfl, rfl, _, rfl, ?_⟩
    rw [int_dec]
    by_cases hj : (i : Int) = 17
    · rw [decide_eq_true hj]
      obtain rfl : i = 17 := by omega
      obtain rfl : c17 = C := Option.some.inj hC
      refine iteT ⟨_, rfl, _, rfl, fun e d ne nd de => ?_⟩
      obtain ⟨s1, ex, h1, h2⟩ := made_one (fld := "names") (C := c17) (v := v) ne nd de
      refine ⟨_, rfl, _, rfl, e, c17, d, _, v, rfl, X.x17.xf, X.x17.no, h1, h2, rfl, (by show 2 ≤ sizeLine; decide), fun p hp => ?_⟩
      exact k p e _ (s1.trans (Same.new hp)) (ex.same (Same.new hp)) upd_same
    rw [decide_eq_false hj]
    refine iteF ?_
    refine ⟨_, rfl, rfl, _, rfl, ?_⟩
    rw [int_dec]
    by_cases hj : (i : Int) = 18
    · rw [decide_eq_true hj]
      obtain rfl : i = 18 := by omega
      obtain rfl : c18 = C := Option.some.inj hC
      refine iteT ⟨_, rfl, _, rfl, fun e d ne nd de => ?_⟩
      obtain ⟨s1, ex, h1, h2⟩ := made_one (fld := "name") (C := c18) (v := v) ne nd de
      refine ⟨_, rfl, _, rfl, e, c18, d, _, v, rfl, X.x18.xf, X.x18.no, h1, h2, rfl, (by show 2 ≤ sizeLine; decide), fun p hp => ?_⟩
      exact k p e _ (s1.trans (Same.new hp)) (ex.same (Same.new hp)) upd_same
    rw [decide_eq_false hj]
    refine iteF ?_
    refine ⟨_, rfl, rfl, _, rfl, ?_⟩
    rw [int_dec]
    by_cases hj : (i : Int) = 19
    · rw [decide_eq_true hj]
      obtain rfl : i = 19 := by omega
      obtain rfl : c19 = C := Option.some.inj hC
      refine iteT ⟨_, rfl, _, rfl, fun e d ne nd de => ?_⟩
      obtain ⟨s1, ex, h1, h2⟩ := made_one (fld := "index") (C := c19) (v := v) ne nd de
      refine ⟨_, rfl, _, rfl, e, c19, d, _, v, rfl, X.x19.xf, X.x19.no, h1, h2, rfl, (by show 2 ≤ sizeLine; decide), fun p hp => ?_⟩
      exact k p e _ (s1.trans (Same.new hp)) (ex.same (Same.new hp)) upd_same
    rw [decide_eq_false hj]
    refine iteF ?_
    refine ⟨_, rfl, rfl, _, rfl, ?_⟩
    rw [int_dec]
    by_cases hj : (i : Int) = 20
    · rw [decide_eq_true hj]
      obtain rfl : i = 20 := by omega
      obtain rfl : c20 = C := Option.some.inj hC
      refine iteT fun e ne => ⟨_, rfl, (by show 2 ≤ sizeLine; decide), fun p hp => ?_⟩
      exact k p e _ ((Same.new ne).trans (Same.new hp)) (ExAt.same (Same.new hp) (.inr upd_same)) upd_same
    rw [decide_eq_false hj]
    refine iteF ?_
    refine ⟨_, rfl, rfl, _, rfl, ?_⟩
    rw [int_dec]
    by_cases hj : (i : Int) = 21
    · rw [decide_eq_true hj]
      obtain rfl : i = 21 := by omega
      obtain rfl : c21 = C := Option.some.inj hC
      refine iteT fun e ne => ⟨_, rfl, (by show 2 ≤ sizeLine; decide), fun p hp => ?_⟩
      exact k p e _ ((Same.new ne).trans (Same.new hp)) (ExAt.same (Same.new hp) (.inr upd_same)) upd_same
    rw [decide_eq_false hj]
    refine iteF ?_
    obtain rfl : i = 22 := by omega
    obtain rfl : c22 = C := Option.some.inj hC
    refine fun e ne => ⟨_, rfl, (by show 2 ≤ sizeLine; decide), fun p hp => ?_⟩
    exact k p e _ ((Same.new ne).trans (Same.new hp)) (ExAt.same (Same.new hp) (.inr upd_same)) upd_same
abbrev s__law_made_early : Stmt := top 42
theorem sc__law_made_early : FnScope ["_law_k", "_law_worth_here", "_law_e"] ["_law_k", "_law_worth_here"] (defScope s__law_made_early) := ⟨rfl, rfl, rfl, by decide +kernel, rfl, by decide +kernel, by decide +kernel⟩

theorem ok_early {f : Addr} {fd : FuncData} (F : Fun K "_law_made_early" "_law_made_early" s__law_made_early f fd) (X : XS K mg P c0 c1 c2 c3 c4 c5 c6 c7 c8 c9 c10 c11 c12 c13 c14 c15 c16 c17 c18 c19 c20 c21 c22) (cLate : Cal P w K mg base 1 "_law_made_late" ["_law_k", "_law_worth_here"] (spLate [c0, c1, c2, c3, c4, c5, c6, c7, c8, c9, c10, c11, c12, c13, c14, c15, c16, c17, c18, c19, c20, c21, c22])) : FnOk P w K mg base CX0 2 f fd ["_law_k", "_law_worth_here"] (spMade [c0, c1, c2, c3, c4, c5, c6, c7, c8, c9, c10, c11, c12, c13, c14, c15, c16, c17, c18, c19, c20, c21, c22]) := by
  refine F.ok sc__law_made_early (fun vs H Q E h => ?_) (fun cdv A outer s H vs Q E hr h => ?_)
  · obtain ⟨i, v, C, rfl, _⟩ := h
    rfl
  · obtain ⟨i, v, C, rfl, hi, hC, k⟩ := h
    have hr1 : Room 1 _ := hr
    refine ⟨_, (pss_cons (ps_if (pt_cmpR op_eq (pv 0) pe_int (nomark _))
        (pss_cons (ps_set (i := 2) sc__law_made_early.nd rfl (Or.inl rfl) (pe_valK X.x0 hr (pa_cons (pv 1) pa_nil)))
      (pss_one (ps_ret (pe_tup (pa_cons (pv 2) (pa_cons (pe_xof (pv 2)) pa_nil))))))
        pss_nil)
      (pss_cons (ps_if (pt_cmpR op_eq (pv 0) pe_int (nomark _))
        (pss_cons (ps_set (i := 2) sc__law_made_early.nd rfl (Or.inl rfl) (pe_valK X.x1 hr (pa_cons (pv 1) pa_nil)))
      (pss_one (ps_ret (pe_tup (pa_cons (pv 2) (pa_cons (pe_xof (pv 2)) pa_nil))))))
        pss_nil)
      (pss_cons (ps_if (pt_cmpR op_eq (pv 0) pe_int (nomark _))
        (pss_cons (ps_set (i := 2) sc__law_made_early.nd rfl (Or.inl rfl) (pe_valK X.x2 hr (pa_cons (pv 1) pa_nil)))
      (pss_one (ps_ret (pe_tup (pa_cons (pv 2) (pa_cons (pe_xof (pv 2)) pa_nil))))))
        pss_nil)
      (pss_cons (ps_if (pt_cmpR op_eq (pv 0) pe_int (nomark _))
        (pss_cons (ps_set (i := 2) sc__law_made_early.nd rfl (Or.inl rfl) (pe_valK X.x3 hr (pa_cons (pv 1) pa_nil)))
      (pss_one (ps_ret (pe_tup (pa_cons (pv 2) (pa_cons (pe_xof (pv 2)) pa_nil))))))
        pss_nil)
      (pss_cons (ps_if (pt_cmpR op_eq (pv 0) pe_int (nomark _))
        (pss_cons (ps_set (i := 2) sc__law_made_early.nd rfl (Or.inl rfl) (pe_valK X.x4 hr (pa_cons (pv 1) pa_nil)))
      (pss_one (ps_ret (pe_tup (pa_cons (pv 2) (pa_cons (pe_xof (pv 2)) pa_nil))))))
        pss_nil)
      (pss_cons (ps_if (pt_cmpR op_eq (pv 0) pe_int (nomark _))
        (pss_cons (ps_set (i := 2) sc__law_made_early.nd rfl (Or.inl rfl) (pe_valK X.x5 hr (pa_cons (pv 1) pa_nil)))
      (pss_one (ps_ret (pe_tup (pa_cons (pv 2) (pa_cons (pe_xof (pv 2)) pa_nil))))))
        pss_nil)
      (pss_cons (ps_if (pt_cmpR op_eq (pv 0) pe_int (nomark _))
        (pss_cons (ps_set (i := 2) sc__law_made_early.nd rfl (Or.inl rfl) (pe_valK X.x6 hr (pa_cons (pv 1) pa_nil)))
      (pss_one (ps_ret (pe_tup (pa_cons (pv 2) (pa_cons (pe_xof (pv 2)) pa_nil))))))
        pss_nil)
      (pss_cons (ps_if (pt_cmpR op_eq (pv 0) pe_int (nomark _))
        (pss_cons (ps_set (i := 2) sc__law_made_early.nd rfl (Or.inl rfl) (pe_valK X.x7 hr (pa_cons (pv 1) pa_nil)))
      (pss_one (ps_ret (pe_tup (pa_cons (pv 2) (pa_cons (pe_xof (pv 2)) pa_nil))))))
        pss_nil)
      (pss_cons (ps_if (pt_cmpR op_eq (pv 0) pe_int (nomark _))
        (pss_cons (ps_set (i := 2) sc__law_made_early.nd rfl (Or.inl rfl) (pe_valK X.x8 hr (pa_cons (pv 1) pa_nil)))
      (pss_one (ps_ret (pe_tup (pa_cons (pv 2) (pa_cons (pe_xof (pv 2)) pa_nil))))))
        pss_nil)
      (pss_cons (ps_if (pt_cmpR op_eq (pv 0) pe_int (nomark _))
        (pss_cons (ps_set (i := 2) sc__law_made_early.nd rfl (Or.inl rfl) (pe_valK X.x9 hr (pa_cons (pv 1) pa_nil)))
      (pss_one (ps_ret (pe_tup (pa_cons (pv 2) (pa_cons (pe_xof (pv 2)) pa_nil))))))
        pss_nil)
      (pss_one (ps_ret (pe_cal cLate hr1 rfl (pa_cons (pv 0) (pa_cons (pv 1) pa_nil))))))))))))))), ?_⟩
    refine ⟨_, rfl, rfl, _, rfl, ?_⟩
    rw [int_dec]
    by_cases hj : (i : Int) = 0
    · rw [decide_eq_true hj]
      obtain rfl : i = 0 := by omega
      obtain rfl : c0 = C := Option.some.inj hC
      refine iteT ⟨_, rfl, _, rfl, fun e d ne nd de => ?_⟩
      obtain ⟨s1, ex, h1, h2⟩ := made_one (fld := "line") (C := c0) (v := v) ne nd de
      refine ⟨_, rfl, _, rfl, e, c0, d, _, v, rfl, X.x0.xf, X.x0.no, h1, h2, rfl, (by show 2 ≤ sizeLine; decide), fun p hp => ?_⟩
      exact k p e _ (s1.trans (Same.new hp)) (ex.same (Same.new hp)) upd_same
    rw [decide_eq_false hj]
    refine iteF ?_
    refine ⟨_, rfl, rfl, _, rfl, ?_⟩
    rw [int_dec]
    by_cases hj : (i : Int) = 1
    · rw [decide_eq_true hj]
      obtain rfl : i = 1 := by omega
      obtain rfl : c1 = C := Option.some.inj hC
      refine iteT ⟨_, rfl, _, rfl, fun e d ne nd de => ?_⟩
      obtain ⟨s1, ex, h1, h2⟩ := made_one (fld := "name") (C := c1) (v := v) ne nd de
      refine ⟨_, rfl, _, rfl, e, c1, d, _, v, rfl, X.x1.xf, X.x1.no, h1, h2, rfl, (by show 2 ≤ sizeLine; decide), fun p hp => ?_⟩
      exact k p e _ (s1.trans (Same.new hp)) (ex.same (Same.new hp)) upd_same
    rw [decide_eq_false hj]
    refine iteF ?_
    refine ⟨_, rfl, rfl, _, rfl, ?_⟩
    rw [int_dec]
    by_cases hj : (i : Int) = 2
    · rw [decide_eq_true hj]
      obtain rfl : i = 2 := by omega
      obtain rfl : c2 = C := Option.some.inj hC
      refine iteT ⟨_, rfl, _, rfl, fun e d ne nd de => ?_⟩
      obtain ⟨s1, ex, h1, h2⟩ := made_one (fld := "name") (C := c2) (v := v) ne nd de
      refine ⟨_, rfl, _, rfl, e, c2, d, _, v, rfl, X.x2.xf, X.x2.no, h1, h2, rfl, (by show 2 ≤ sizeLine; decide), fun p hp => ?_⟩
      exact k p e _ (s1.trans (Same.new hp)) (ex.same (Same.new hp)) upd_same
    rw [decide_eq_false hj]
    refine iteF ?_
    refine ⟨_, rfl, rfl, _, rfl, ?_⟩
    rw [int_dec]
    by_cases hj : (i : Int) = 3
    · rw [decide_eq_true hj]
      obtain rfl : i = 3 := by omega
      obtain rfl : c3 = C := Option.some.inj hC
      refine iteT ⟨_, rfl, _, rfl, fun e d ne nd de => ?_⟩
      obtain ⟨s1, ex, h1, h2⟩ := made_one (fld := "name") (C := c3) (v := v) ne nd de
      refine ⟨_, rfl, _, rfl, e, c3, d, _, v, rfl, X.x3.xf, X.x3.no, h1, h2, rfl, (by show 2 ≤ sizeLine; decide), fun p hp => ?_⟩
      exact k p e _ (s1.trans (Same.new hp)) (ex.same (Same.new hp)) upd_same
    rw [decide_eq_false hj]
    refine iteF ?_
    refine ⟨_, rfl, rfl, _, rfl, ?_⟩
    rw [int_dec]
    by_cases hj : (i : Int) = 4
    · rw [decide_eq_true hj]
      obtain rfl : i = 4 := by omega
      obtain rfl : c4 = C := Option.some.inj hC
      refine iteT ⟨_, rfl, _, rfl, fun e d ne nd de => ?_⟩
      obtain ⟨s1, ex, h1, h2⟩ := made_one (fld := "index") (C := c4) (v := v) ne nd de
      refine ⟨_, rfl, _, rfl, e, c4, d, _, v, rfl, X.x4.xf, X.x4.no, h1, h2, rfl, (by show 2 ≤ sizeLine; decide), fun p hp => ?_⟩
      exact k p e _ (s1.trans (Same.new hp)) (ex.same (Same.new hp)) upd_same
    rw [decide_eq_false hj]
    refine iteF ?_
    refine ⟨_, rfl, rfl, _, rfl, ?_⟩
    rw [int_dec]
    by_cases hj : (i : Int) = 5
    · rw [decide_eq_true hj]
      obtain rfl : i = 5 := by omega
      obtain rfl : c5 = C := Option.some.inj hC
      refine iteT ⟨_, rfl, _, rfl, fun e d ne nd de => ?_⟩
      obtain ⟨s1, ex, h1, h2⟩ := made_one (fld := "index") (C := c5) (v := v) ne nd de
      refine ⟨_, rfl, _, rfl, e, c5, d, _, v, rfl, X.x5.xf, X.x5.no, h1, h2, rfl, (by show 2 ≤ sizeLine; decide), fun p hp => ?_⟩
      exact k p e _ (s1.trans (Same.new hp)) (ex.same (Same.new hp)) upd_same
    rw [decide_eq_false hj]
    refine iteF ?_
    refine ⟨_, rfl, rfl, _, rfl, ?_⟩
    rw [int_dec]
    by_cases hj : (i : Int) = 6
    · rw [decide_eq_true hj]
      obtain rfl : i = 6 := by omega
      obtain rfl : c6 = C := Option.some.inj hC
      refine iteT ⟨_, rfl, _, rfl, fun e d ne nd de => ?_⟩
      obtain ⟨s1, ex, h1, h2⟩ := made_one (fld := "number") (C := c6) (v := v) ne nd de
      refine ⟨_, rfl, _, rfl, e, c6, d, _, v, rfl, X.x6.xf, X.x6.no, h1, h2, rfl, (by show 2 ≤ sizeLine; decide), fun p hp => ?_⟩
      exact k p e _ (s1.trans (Same.new hp)) (ex.same (Same.new hp)) upd_same
    rw [decide_eq_false hj]
    refine iteF ?_
    refine ⟨_, rfl, rfl, _, rfl, ?_⟩
    rw [int_dec]
    by_cases hj : (i : Int) = 7
    · rw [decide_eq_true hj]
      obtain rfl : i = 7 := by omega
      obtain rfl : c7 = C := Option.some.inj hC
      refine iteT ⟨_, rfl, _, rfl, fun e d ne nd de => ?_⟩
      obtain ⟨s1, ex, h1, h2⟩ := made_one (fld := "most") (C := c7) (v := v) ne nd de
      refine ⟨_, rfl, _, rfl, e, c7, d, _, v, rfl, X.x7.xf, X.x7.no, h1, h2, rfl, (by show 2 ≤ sizeLine; decide), fun p hp => ?_⟩
      exact k p e _ (s1.trans (Same.new hp)) (ex.same (Same.new hp)) upd_same
    rw [decide_eq_false hj]
    refine iteF ?_
    refine ⟨_, rfl, rfl, _, rfl, ?_⟩
    rw [int_dec]
    by_cases hj : (i : Int) = 8
    · rw [decide_eq_true hj]
      obtain rfl : i = 8 := by omega
      obtain rfl : c8 = C := Option.some.inj hC
      refine iteT ⟨_, rfl, _, rfl, fun e d ne nd de => ?_⟩
      obtain ⟨s1, ex, h1, h2⟩ := made_one (fld := "kind") (C := c8) (v := v) ne nd de
      refine ⟨_, rfl, _, rfl, e, c8, d, _, v, rfl, X.x8.xf, X.x8.no, h1, h2, rfl, (by show 2 ≤ sizeLine; decide), fun p hp => ?_⟩
      exact k p e _ (s1.trans (Same.new hp)) (ex.same (Same.new hp)) upd_same
    rw [decide_eq_false hj]
    refine iteF ?_
    refine ⟨_, rfl, rfl, _, rfl, ?_⟩
    rw [int_dec]
    by_cases hj : (i : Int) = 9
    · rw [decide_eq_true hj]
      obtain rfl : i = 9 := by omega
      obtain rfl : c9 = C := Option.some.inj hC
      refine iteT ⟨_, rfl, _, rfl, fun e d ne nd de => ?_⟩
      obtain ⟨s1, ex, h1, h2⟩ := made_one (fld := "rule") (C := c9) (v := v) ne nd de
      refine ⟨_, rfl, _, rfl, e, c9, d, _, v, rfl, X.x9.xf, X.x9.no, h1, h2, rfl, (by show 2 ≤ sizeLine; decide), fun p hp => ?_⟩
      exact k p e _ (s1.trans (Same.new hp)) (ex.same (Same.new hp)) upd_same
    rw [decide_eq_false hj]
    refine iteF ?_
    exact ⟨_, rfl, _, rfl, ⟨i, v, C, rfl, hi, hC, k⟩, i, v, rfl, by omega⟩
end
end Toy

set_option Elab.async false
set_option linter.all false
set_option maxRecDepth 100000
set_option maxHeartbeats 4000000
namespace Toy
open PySem L2 TL EM
section
variable {P : Program} {w : World} {K : PySem.W.Frag} {mg : Str → Option Value} {base : Heap} {c0 c1 c2 c3 c4 c5 c6 c7 c8 c9 c10 c11 c12 c13 c14 c15 c16 c17 c18 c19 c20 c21 c22 : Addr}
/-- no error is one of another class -/
def KitAll (K : PySem.W.Frag) (CS : List Addr) : Prop := ∀ (i j : Nat) (C D : Addr), CS[i]? = some C → CS[j]? = some D → PySem.W.kitOne K (.ref C) (.ref D) = some (decide (i = j))
def spKinds (K : PySem.W.Frag) (CS : List Addr) : Sp := fun vs H Q _ => ∃ (e C : Addr) (i : Nat), vs = [.ref e] ∧ CS[i]? = some C ∧ ExiC K C ∧ ExAt H e C ∧ ∀ (l : Addr) (H' : Hp), Same H H' → H' l = some (.lst ((List.range 23).map fun j => V.bl (decide (i = j)))) → Q (.ref l) H'
abbrev s__law_kinds : Stmt := top 44
theorem sc__law_kinds : FnScope ["_law_e", "_law_found"] ["_law_e"] (defScope s__law_kinds) := ⟨rfl, rfl, rfl, by decide +kernel, rfl, by decide +kernel, by decide +kernel⟩

theorem ok_kinds {f : Addr} {fd : FuncData} (F : Fun K "_law_kinds" "_law_kinds" s__law_kinds f fd) (T : TB mg) (X : XS K mg P c0 c1 c2 c3 c4 c5 c6 c7 c8 c9 c10 c11 c12 c13 c14 c15 c16 c17 c18 c19 c20 c21 c22) (KA : KitAll K [c0, c1, c2, c3, c4, c5, c6, c7, c8, c9, c10, c11, c12, c13, c14, c15, c16, c17, c18, c19, c20, c21, c22]) : FnOk P w K mg base CX0 1 f fd ["_law_e"] (spKinds K [c0, c1, c2, c3, c4, c5, c6, c7, c8, c9, c10, c11, c12, c13, c14, c15, c16, c17, c18, c19, c20, c21, c22]) := by
  refine F.ok sc__law_kinds (fun vs H Q E h => ?_) (fun cdv A outer s H vs Q E hr h => ?_)
  · obtain ⟨e, C, i, rfl, _⟩ := h
    rfl
  · obtain ⟨e, C, i, rfl, hC, xi, ex, k⟩ := h
    refine ⟨_, (pss_cons (ps_set (i := 1) sc__law_kinds.nd rfl (Or.inl rfl) (pe_lst (pa_cons (pe_callB call_isA (by rfl) T.isinstance (by decide +kernel) (pa_cons (pv 0) (pa_cons (pe_glob (v := .ref c0) rfl X.x0.g rfl) pa_nil))) (pa_cons (pe_callB call_isA (by rfl) T.isinstance (by decide +kernel) (pa_cons (pv 0) (pa_cons (pe_glob (v := .ref c1) rfl X.x1.g rfl) pa_nil))) (pa_cons (pe_callB call_isA (by rfl) T.isinstance (by decide +kernel) (pa_cons (pv 0) (pa_cons (pe_glob (v := .ref c2) rfl X.x2.g rfl) pa_nil))) pa_nil)))))
      (pss_cons (ps_set (i := 1) sc__law_kinds.nd rfl (Or.inl rfl) (pe_op op_cat (pv 1) (pe_lst (pa_cons (pe_callB call_isA (by rfl) T.isinstance (by decide +kernel) (pa_cons (pv 0) (pa_cons (pe_glob (v := .ref c3) rfl X.x3.g rfl) pa_nil))) (pa_cons (pe_callB call_isA (by rfl) T.isinstance (by decide +kernel) (pa_cons (pv 0) (pa_cons (pe_glob (v := .ref c4) rfl X.x4.g rfl) pa_nil))) (pa_cons (pe_callB call_isA (by rfl) T.isinstance (by decide +kernel) (pa_cons (pv 0) (pa_cons (pe_glob (v := .ref c5) rfl X.x5.g rfl) pa_nil))) pa_nil))))))
      (pss_cons (ps_set (i := 1) sc__law_kinds.nd rfl (Or.inl rfl) (pe_op op_cat (pv 1) (pe_lst (pa_cons (pe_callB call_isA (by rfl) T.isinstance (by decide +kernel) (pa_cons (pv 0) (pa_cons (pe_glob (v := .ref c6) rfl X.x6.g rfl) pa_nil))) (pa_cons (pe_callB call_isA (by rfl) T.isinstance (by decide +kernel) (pa_cons (pv 0) (pa_cons (pe_glob (v := .ref c7) rfl X.x7.g rfl) pa_nil))) (pa_cons (pe_callB call_isA (by rfl) T.isinstance (by decide +kernel) (pa_cons (pv 0) (pa_cons (pe_glob (v := .ref c8) rfl X.x8.g rfl) pa_nil))) pa_nil))))))
      (pss_cons (ps_set (i := 1) sc__law_kinds.nd rfl (Or.inl rfl) (pe_op op_cat (pv 1) (pe_lst (pa_cons (pe_callB call_isA (by rfl) T.isinstance (by decide +kernel) (pa_cons (pv 0) (pa_cons (pe_glob (v := .ref c9) rfl X.x9.g rfl) pa_nil))) (pa_cons (pe_callB call_isA (by rfl) T.isinstance (by decide +kernel) (pa_cons (pv 0) (pa_cons (pe_glob (v := .ref c10) rfl X.x10.g rfl) pa_nil))) (pa_cons (pe_callB call_isA (by rfl) T.isinstance (by decide +kernel) (pa_cons (pv 0) (pa_cons (pe_glob (v := .ref c11) rfl X.x11.g rfl) pa_nil))) pa_nil))))))
      (pss_cons (ps_set (i := 1) sc__law_kinds.nd rfl (Or.inl rfl) (pe_op op_cat (pv 1) (pe_lst (pa_cons (pe_callB call_isA (by rfl) T.isinstance (by decide +kernel) (pa_cons (pv 0) (pa_cons (pe_glob (v := .ref c12) rfl X.x12.g rfl) pa_nil))) (pa_cons (pe_callB call_isA (by rfl) T.isinstance (by decide +kernel) (pa_cons (pv 0) (pa_cons (pe_glob (v := .ref c13) rfl X.x13.g rfl) pa_nil))) (pa_cons (pe_callB call_isA (by rfl) T.isinstance (by decide +kernel) (pa_cons (pv 0) (pa_cons (pe_glob (v := .ref c14) rfl X.x14.g rfl) pa_nil))) pa_nil))))))
      (pss_cons (ps_set (i := 1) sc__law_kinds.nd rfl (Or.inl rfl) (pe_op op_cat (pv 1) (pe_lst (pa_cons (pe_callB call_isA (by rfl) T.isinstance (by decide +kernel) (pa_cons (pv 0) (pa_cons (pe_glob (v := .ref c15) rfl X.x15.g rfl) pa_nil))) (pa_cons (pe_callB call_isA (by rfl) T.isinstance (by decide +kernel) (pa_cons (pv 0) (pa_cons (pe_glob (v := .ref c16) rfl X.x16.g rfl) pa_nil))) (pa_cons (pe_callB call_isA (by rfl) T.isinstance (by decide +kernel) (pa_cons (pv 0) (pa_cons (pe_glob (v := .ref c17) rfl X.x17.g rfl) pa_nil))) pa_nil))))))
      (pss_cons (ps_set (i := 1) sc__law_kinds.nd rfl (Or.inl rfl) (pe_op op_cat (pv 1) (pe_lst (pa_cons (pe_callB call_isA (by rfl) T.isinstance (by decide +kernel) (pa_cons (pv 0) (pa_cons (pe_glob (v := .ref c18) rfl X.x18.g rfl) pa_nil))) (pa_cons (pe_callB call_isA (by rfl) T.isinstance (by decide +kernel) (pa_cons (pv 0) (pa_cons (pe_glob (v := .ref c19) rfl X.x19.g rfl) pa_nil))) (pa_cons (pe_callB call_isA (by rfl) T.isinstance (by decide +kernel) (pa_cons (pv 0) (pa_cons (pe_glob (v := .ref c20) rfl X.x20.g rfl) pa_nil))) pa_nil))))))
      (pss_cons (ps_set (i := 1) sc__law_kinds.nd rfl (Or.inl rfl) (pe_op op_cat (pv 1) (pe_lst (pa_cons (pe_callB call_isA (by rfl) T.isinstance (by decide +kernel) (pa_cons (pv 0) (pa_cons (pe_glob (v := .ref c21) rfl X.x21.g rfl) pa_nil))) (pa_cons (pe_callB call_isA (by rfl) T.isinstance (by decide +kernel) (pa_cons (pv 0) (pa_cons (pe_glob (v := .ref c22) rfl X.x22.g rfl) pa_nil))) pa_nil)))))
      (pss_one (ps_ret (pv 1))))))))))), ?_⟩
    refine ⟨_, rfl, e, C, .ref c0, .ref c0, decide (i = 0), rfl, xi, ex, fun u r => r, KA i 0 C c0 hC rfl, _, rfl, e, C, .ref c1, .ref c1, decide (i = 1), rfl, xi, ex, fun u r => r, KA i 1 C c1 hC rfl, _, rfl, e, C, .ref c2, .ref c2, decide (i = 2), rfl, xi, ex, fun u r => r, KA i 2 C c2 hC rfl, (by show 3 ≤ sizeLine; decide), fun l0 n0 => ?_⟩
    have s0 : Same H (upd H l0 (.lst [V.bl (decide (i = 0)), V.bl (decide (i = 1)), V.bl (decide (i = 2))])) := Same.new n0
    have h0 : (upd H l0 (.lst [V.bl (decide (i = 0)), V.bl (decide (i = 1)), V.bl (decide (i = 2))])) l0 = some (.lst [V.bl (decide (i = 0)), V.bl (decide (i = 1)), V.bl (decide (i = 2))]) := upd_same
    have ex0 := ex.same s0
    generalize upd H l0 (.lst [V.bl (decide (i = 0)), V.bl (decide (i = 1)), V.bl (decide (i = 2))]) = H0 at s0 h0 ex0 ⊢
    refine ⟨_, rfl, _, rfl, e, C, .ref c3, .ref c3, decide (i = 3), rfl, xi, ex0, fun u r => r, KA i 3 C c3 hC rfl, _, rfl, e, C, .ref c4, .ref c4, decide (i = 4), rfl, xi, ex0, fun u r => r, KA i 4 C c4 hC rfl, _, rfl, e, C, .ref c5, .ref c5, decide (i = 5), rfl, xi, ex0, fun u r => r, KA i 5 C c5 hC rfl, (by show 3 ≤ sizeLine; decide), fun q1 nq1 => ?_⟩
    have sq1 : Same H0 (upd H0 q1 (.lst [V.bl (decide (i = 3)), V.bl (decide (i = 4)), V.bl (decide (i = 5))])) := Same.new nq1
    have hq1 : (upd H0 q1 (.lst [V.bl (decide (i = 3)), V.bl (decide (i = 4)), V.bl (decide (i = 5))])) q1 = some (.lst [V.bl (decide (i = 3)), V.bl (decide (i = 4)), V.bl (decide (i = 5))]) := upd_same
    have hm0 := sq1 _ _ h0
    have ey1 := ex0.same sq1
    generalize upd H0 q1 (.lst [V.bl (decide (i = 3)), V.bl (decide (i = 4)), V.bl (decide (i = 5))]) = G1 at sq1 hq1 hm0 ey1 ⊢
    refine ⟨l0, q1, _, _, rfl, rfl, hm0, hq1, (by show 6 ≤ sizeLine; decide), fun l1 n1 => ?_⟩
    change G1 l1 = none at n1
    have t1 : Same G1 (upd G1 l1 (.lst [V.bl (decide (i = 0)), V.bl (decide (i = 1)), V.bl (decide (i = 2)), V.bl (decide (i = 3)), V.bl (decide (i = 4)), V.bl (decide (i = 5))])) := Same.new n1
    have h1 : (upd G1 l1 (.lst [V.bl (decide (i = 0)), V.bl (decide (i = 1)), V.bl (decide (i = 2)), V.bl (decide (i = 3)), V.bl (decide (i = 4)), V.bl (decide (i = 5))])) l1 = some (.lst [V.bl (decide (i = 0)), V.bl (decide (i = 1)), V.bl (decide (i = 2)), V.bl (decide (i = 3)), V.bl (decide (i = 4)), V.bl (decide (i = 5))]) := upd_same
    have s1 := (s0.trans sq1).trans t1
    have ex1 := ey1.same t1
    have eH1 : upd G1 l1 (.lst ([V.bl (decide (i = 0)), V.bl (decide (i = 1)), V.bl (decide (i = 2))] ++ [V.bl (decide (i = 3)), V.bl (decide (i = 4)), V.bl (decide (i = 5))])) = upd G1 l1 (.lst [V.bl (decide (i = 0)), V.bl (decide (i = 1)), V.bl (decide (i = 2)), V.bl (decide (i = 3)), V.bl (decide (i = 4)), V.bl (decide (i = 5))]) := rfl
    rw [eH1]
    clear hm0 hq1 sq1 t1 h0 ex0 ey1 eH1
    generalize upd G1 l1 (.lst [V.bl (decide (i = 0)), V.bl (decide (i = 1)), V.bl (decide (i = 2)), V.bl (decide (i = 3)), V.bl (decide (i = 4)), V.bl (decide (i = 5))]) = H1 at s1 h1 ex1 ⊢
    refine ⟨_, rfl, _, rfl, e, C, .ref c6, .ref c6, decide (i = 6), rfl, xi, ex1, fun u r => r, KA i 6 C c6 hC rfl, _, rfl, e, C, .ref c7, .ref c7, decide (i = 7), rfl, xi, ex1, fun u r => r, KA i 7 C c7 hC rfl, _, rfl, e, C, .ref c8, .ref c8, decide (i = 8), rfl, xi, ex1, fun u r => r, KA i 8 C c8 hC rfl, (by show 3 ≤ sizeLine; decide), fun q2 nq2 => ?_⟩
    have sq2 : Same H1 (upd H1 q2 (.lst [V.bl (decide (i = 6)), V.bl (decide (i = 7)), V.bl (decide (i = 8))])) := Same.new nq2
    have hq2 : (upd H1 q2 (.lst [V.bl (decide (i = 6)), V.bl (decide (i = 7)), V.bl (decide (i = 8))])) q2 = some (.lst [V.bl (decide (i = 6)), V.bl (decide (i = 7)), V.bl (decide (i = 8))]) := upd_same
    have hm1 := sq2 _ _ h1
    have ey2 := ex1.same sq2
    generalize upd H1 q2 (.lst [V.bl (decide (i = 6)), V.bl (decide (i = 7)), V.bl (decide (i = 8))]) = G2 at sq2 hq2 hm1 ey2 ⊢
    refine ⟨l1, q2, _, _, rfl, rfl, hm1, hq2, (by show 9 ≤ sizeLine; decide), fun l2 n2 => ?_⟩
    change G2 l2 = none at n2
    have t2 : Same G2 (upd G2 l2 (.lst [V.bl (decide (i = 0)), V.bl (decide (i = 1)), V.bl (decide (i = 2)), V.bl (decide (i = 3)), V.bl (decide (i = 4)), V.bl (decide (i = 5)), V.bl (decide (i = 6)), V.bl (decide (i = 7)), V.bl (decide (i = 8))])) := Same.new n2
    have h2 : (upd G2 l2 (.lst [V.bl (decide (i = 0)), V.bl (decide (i = 1)), V.bl (decide (i = 2)), V.bl (decide (i = 3)), V.bl (decide (i = 4)), V.bl (decide (i = 5)), V.bl (decide (i = 6)), V.bl (decide (i = 7)), V.bl (decide (i = 8))])) l2 = some (.lst [V.bl (decide (i = 0)), V.bl (decide (i = 1)), V.bl (decide (i = 2)), V.bl (decide (i = 3)), V.bl (decide (i = 4)), V.bl (decide (i = 5)), V.bl (decide (i = 6)), V.bl (decide (i = 7)), V.bl (decide (i = 8))]) := upd_same
    have s2 := (s1.trans sq2).trans t2
    have ex2 := ey2.same t2
    have eH2 : upd G2 l2 (.lst ([V.bl (decide (i = 0)), V.bl (decide (i = 1)), V.bl (decide (i = 2)), V.bl (decide (i = 3)), V.bl (decide (i = 4)), V.bl (decide (i = 5))] ++ [V.bl (decide (i = 6)), V.bl (decide (i = 7)), V.bl (decide (i = 8))])) = upd G2 l2 (.lst [V.bl (decide (i = 0)), V.bl (decide (i = 1)), V.bl (decide (i = 2)), V.bl (decide (i = 3)), V.bl (decide (i = 4)), V.bl (decide (i = 5)), V.bl (decide (i = 6)), V.bl (decide (i = 7)), V.bl (decide (i = 8))]) := rfl
    rw [eH2]
    clear hm1 hq2 sq2 t2 h1 ex1 ey2 eH2
    generalize upd G2 l2 (.lst [V.bl (decide (i = 0)), V.bl (decide (i = 1)), V.bl (decide (i = 2)), V.bl (decide (i = 3)), V.bl (decide (i = 4)), V.bl (decide (i = 5)), V.bl (decide (i = 6)), V.bl (decide (i = 7)), V.bl (decide (i = 8))]) = H2 at s2 h2 ex2 ⊢
    refine ⟨_, rfl, _, rfl, e, C, .ref c9, .ref c9, decide (i = 9), rfl, xi, ex2, fun u r => r, KA i 9 C c9 hC rfl, _, rfl, e, C, .ref c10, .ref c10, decide (i = 10), rfl, xi, ex2, fun u r => r, KA i 10 C c10 hC rfl, _, rfl, e, C, .ref c11, .ref c11, decide (i = 11), rfl, xi, ex2, fun u r => r, KA i 11 C c11 hC rfl, (by show 3 ≤ sizeLine; decide), fun q3 nq3 => ?_⟩
    have sq3 : Same H2 (upd H2 q3 (.lst [V.bl (decide (i = 9)), V.bl (decide (i = 10)), V.bl (decide (i = 11))])) := Same.new nq3
    have hq3 : (upd H2 q3 (.lst [V.bl (decide (i = 9)), V.bl (decide (i = 10)), V.bl (decide (i = 11))])) q3 = some (.lst [V.bl (decide (i = 9)), V.bl (decide (i = 10)), V.bl (decide (i = 11))]) := upd_same
    have hm2 := sq3 _ _ h2
    have ey3 := ex2.same sq3
    generalize upd H2 q3 (.lst [V.bl (decide (i = 9)), V.bl (decide (i = 10)), V.bl (decide (i = 11))]) = G3 at sq3 hq3 hm2 ey3 ⊢
    refine ⟨l2, q3, _, _, rfl, rfl, hm2, hq3, (by show 12 ≤ sizeLine; decide), fun l3 n3 => ?_⟩
    change G3 l3 = none at n3
    have t3 : Same G3 (upd G3 l3 (.lst [V.bl (decide (i = 0)), V.bl (decide (i = 1)), V.bl (decide (i = 2)), V.bl (decide (i = 3)), V.bl (decide (i = 4)), V.bl (decide (i = 5)), V.bl (decide (i = 6)), V.bl (decide (i = 7)), V.bl (decide (i = 8)), V.bl (decide (i = 9)), V.bl (decide (i = 10)), V.bl (decide (i = 11))])) := Same.new n3
    have h3 : (upd G3 l3 (.lst [V.bl (decide (i = 0)), V.bl (decide (i = 1)), V.bl (decide (i = 2)), V.bl (decide (i = 3)), V.bl (decide (i = 4)), V.bl (decide (i = 5)), V.bl (decide (i = 6)), V.bl (decide (i = 7)), V.bl (decide (i = 8)), V.bl (decide (i = 9)), V.bl (decide (i = 10)), V.bl (decide (i = 11))])) l3 = some (.lst [V.bl (decide (i = 0)), V.bl (decide (i = 1)), V.bl (decide (i = 2)), V.bl (decide (i = 3)), V.bl (decide (i = 4)), V.bl (decide (i = 5)), V.bl (decide (i = 6)), V.bl (decide (i = 7)), V.bl (decide (i = 8)), V.bl (decide (i = 9)), V.bl (decide (i = 10)), V.bl (decide (i = 11))]) := upd_same
    have s3 := (s2.trans sq3).trans t3
    have ex3 := ey3.same t3
    have eH3 : upd G3 l3 (.lst ([V.bl (decide (i = 0)), V.bl (decide (i = 1)), V.bl (decide (i = 2)), V.bl (decide (i = 3)), V.bl (decide (i = 4)), V.bl (decide (i = 5)), V.bl (decide (i = 6)), V.bl (decide (i = 7)), V.bl (decide (i = 8))] ++ [V.bl (decide (i = 9)), V.bl (decide (i = 10)), V.bl (decide (i = 11))])) = upd G3 l3 (.lst [V.bl (decide (i = 0)), V.bl (decide (i = 1)), V.bl (decide (i = 2)), V.bl (decide (i = 3)), V.bl (decide (i = 4)), V.bl (decide (i = 5)), V.bl (decide (i = 6)), V.bl (decide (i = 7)), V.bl (decide (i = 8)), V.bl (decide (i = 9)), V.bl (decide (i = 10)), V.bl (decide (i = 11))]) := rfl
    rw [eH3]
    clear hm2 hq3 sq3 t3 h2 ex2 ey3 eH3
    generalize upd G3 l3 (.lst [V.bl (decide (i = 0)), V.bl (decide (i = 1)), V.bl (decide (i = 2)), V.bl (decide (i = 3)), V.bl (decide (i = 4)), V.bl (decide (i = 5)), V.bl (decide (i = 6)), V.bl (decide (i = 7)), V.bl (decide (i = 8)), V.bl (decide (i = 9)), V.bl (decide (i = 10)), V.bl (decide (i = 11))]) = H3 at s3 h3 ex3 ⊢
    refine ⟨_, rfl, _, rfl, e, C, .ref c12, .ref c12, decide (i = 12), rfl, xi, ex3, fun u r => r, KA i 12 C c12 hC rfl, _, rfl, e, C, .ref c13, .ref c13, decide (i = 13), rfl, xi, ex3, fun u r => r, KA i 13 C c13 hC rfl, _, rfl, e, C, .ref c14, .ref c14, decide (i = 14), rfl, xi, ex3, fun u r => r, KA i 14 C c14 hC rfl, (by show 3 ≤ sizeLine; decide), fun q4 nq4 => ?_⟩
    have sq4 : Same H3 (upd H3 q4 (.lst [V.bl (decide (i = 12)), V.bl (decide (i = 13)), V.bl (decide (i = 14))])) := Same.new nq4
    have hq4 : (upd H3 q4 (.lst [V.bl (decide (i = 12)), V.bl (decide (i = 13)), V.bl (decide (i = 14))])) q4 = some (.lst [V.bl (decide (i = 12)), V.bl (decide (i = 13)), V.bl (decide (i = 14))]) := upd_same
    have hm3 := sq4 _ _ h3
    have ey4 := ex3.same sq4
    generalize upd H3 q4 (.lst [V.bl (decide (i = 12)), V.bl (decide (i = 13)), V.bl (decide (i = 14))]) = G4 at sq4 hq4 hm3 ey4 ⊢
    refine ⟨l3, q4, _, _, rfl, rfl, hm3, hq4, (by show 15 ≤ sizeLine; decide), fun l4 n4 => ?_⟩
    change G4 l4 = none at n4
    have t4 : Same G4 (upd G4 l4 (.lst [V.bl (decide (i = 0)), V.bl (decide (i = 1)), V.bl (decide (i = 2)), V.bl (decide (i = 3)), V.bl (decide (i = 4)), V.bl (decide (i = 5)), V.bl (decide (i = 6)), V.bl (decide (i = 7)), V.bl (decide (i = 8)), V.bl (decide (i = 9)), V.bl (decide (i = 10)), V.bl (decide (i = 11)), V.bl (decide (i = 12)), V.bl (decide (i = 13)), V.bl (decide (i = 14))])) := Same.new n4
    have h4 : (upd G4 l4 (.lst [V.bl (decide (i = 0)), V.bl (decide (i = 1)), V.bl (decide (i = 2)), V.bl (decide (i = 3)), V.bl (decide (i = 4)), V.bl (decide (i = 5)), V.bl (decide (i = 6)), V.bl (decide (i = 7)), V.bl (decide (i = 8)), V.bl (decide (i = 9)), V.bl (decide (i = 10)), V.bl (decide (i = 11)), V.bl (decide (i = 12)), V.bl (decide (i = 13)), V.bl (decide (i = 14))])) l4 = some (.lst [V.bl (decide (i = 0)), V.bl (decide (i = 1)), V.bl (decide (i = 2)), V.bl (decide (i = 3)), V.bl (decide (i = 4)), V.bl (decide (i = 5)), V.bl (decide (i = 6)), V.bl (decide (i = 7)), V.bl (decide (i = 8)), V.bl (decide (i = 9)), V.bl (decide (i = 10)), V.bl (decide (i = 11)), V.bl (decide (i = 12)), V.bl (decide (i = 13)), V.bl (decide (i = 14))]) := upd_same
    have s4 := (s3.trans sq4).trans t4
    have ex4 := ey4.same t4
    have eH4 : upd G4 l4 (.lst ([V.bl (decide (i = 0)), V.bl (decide (i = 1)), V.bl (decide (i = 2)), V.bl (decide (i = 3)), V.bl (decide (i = 4)), V.bl (decide (i = 5)), V.bl (decide (i = 6)), V.bl (decide (i = 7)), V.bl (decide (i = 8)), V.bl (decide (i = 9)), V.bl (decide (i = 10)), V.bl (decide (i = 11))] ++ [V.bl (decide (i = 12)), V.bl (decide (i = 13)), V.bl (decide (i = 14))])) = upd G4 l4 (.lst [V.bl (decide (i = 0)), V.bl (decide (i = 1)), V.bl (decide (i = 2)), V.bl (decide (i = 3)), V.bl (decide (i = 4)), V.bl (decide (i = 5)), V.bl (decide (i = 6)), V.bl (decide (i = 7)), V.bl (decide (i = 8)), V.bl (decide (i = 9)), V.bl (decide (i = 10)), V.bl (decide (i = 11)), V.bl (decide (i = 12)), V.bl (decide (i = 13)), V.bl (decide (i = 14))]) := rfl
    rw [eH4]
    clear hm3 hq4 sq4 t4 h3 ex3 ey4 eH4
    generalize upd G4 l4 (.lst [V.bl (decide (i = 0)), V.bl (decide (i = 1)), V.bl (decide (i = 2)), V.bl (decide (i = 3)), V.bl (decide (i = 4)), V.bl (decide (i = 5)), V.bl (decide (i = 6)), V.bl (decide (i = 7)), V.bl (decide (i = 8)), V.bl (decide (i = 9)), V.bl (decide (i = 10)), V.bl (decide (i = 11)), V.bl (decide (i = 12)), V.bl (decide (i = 13)), V.bl (decide (i = 14))]) = H4 at s4 h4 ex4 ⊢
    refine ⟨_, rfl, _, rfl, e, C, .ref c15, .ref c15, decide (i = 15), rfl, xi, ex4, fun u r => r, KA i 15 C c15 hC rfl, _, rfl, e, C, .ref c16, .ref c16, decide (i = 16), rfl, xi, ex4, fun u r => r, KA i 16 C c16 hC rfl, _, rfl, e, C, .ref c17, .ref c17, decide (i = 17), rfl, xi, ex4, fun u r => r, KA i 17 C c17 hC rfl, (by show 3 ≤ sizeLine; decide), fun q5 nq5 => ?_⟩
    have sq5 : Same H4 (upd H4 q5 (.lst [V.bl (decide (i = 15)), V.bl (decide (i = 16)), V.bl (decide (i = 17))])) := Same.new nq5
    have hq5 : (upd H4 q5 (.lst [V.bl (decide (i = 15)), V.bl (decide (i = 16)), V.bl (decide (i = 17))])) q5 = some (.lst [V.bl (decide (i = 15)), V.bl (decide (i = 16)), V.bl (decide (i = 17))]) := upd_same
    have hm4 := sq5 _ _ h4
    have ey5 := ex4.same sq5
    generalize upd H4 q5 (.lst [V.bl (decide (i = 15)), V.bl (decide (i = 16)), V.bl (decide (i = 17))]) = G5 at sq5 hq5 hm4 ey5 ⊢
    refine ⟨l4, q5, _, _, rfl, rfl, hm4, hq5, (by show 18 ≤ sizeLine; decide), fun l5 n5 => ?_⟩
    change G5 l5 = none at n5
    have t5 : Same G5 (upd G5 l5 (.lst [V.bl (decide (i = 0)), V.bl (decide (i = 1)), V.bl (decide (i = 2)), V.bl (decide (i = 3)), V.bl (decide (i = 4)), V.bl (decide (i = 5)), V.bl (decide (i = 6)), V.bl (decide (i = 7)), V.bl (decide (i = 8)), V.bl (decide (i = 9)), V.bl (decide (i = 10)), V.bl (decide (i = 11)), V.bl (decide (i = 12)), V.bl (decide (i = 13)), V.bl (decide (i = 14)), V.bl (decide (i = 15)), V.bl (decide (i = 16)), V.bl (decide (i = 17))])) := Same.new n5
    have h5 : (upd G5 l5 (.lst [V.bl (decide (i = 0)), V.bl (decide (i = 1)), V.bl (decide (i = 2)), V.bl (decide (i = 3)), V.bl (decide (i = 4)), V.bl (decide (i = 5)), V.bl (decide (i = 6)), V.bl (decide (i = 7)), V.bl (decide (i = 8)), V.bl (decide (i = 9)), V.bl (decide (i = 10)), V.bl (decide (i = 11)), V.bl (decide (i = 12)), V.bl (decide (i = 13)), V.bl (decide (i = 14)), V.bl (decide (i = 15)), V.bl (decide (i = 16)), V.bl (decide (i = 17))])) l5 = some (.lst [V.bl (decide (i = 0)), V.bl (decide (i = 1)), V.bl (decide (i = 2)), V.bl (decide (i = 3)), V.bl (decide (i = 4)), V.bl (decide (i = 5)), V.bl (decide (i = 6)), V.bl (decide (i = 7)), V.bl (decide (i = 8)), V.bl (decide (i = 9)), V.bl (decide (i = 10)), V.bl (decide (i = 11)), V.bl (decide (i = 12)), V.bl (decide (i = 13)), V.bl (decide (i = 14)), V.bl (decide (i = 15)), V.bl (decide (i = 16)), V.bl (decide (i = 17))]) := upd_same
    have s5 := (s4.trans sq5).trans t5
    have ex5 := ey5.same t5
    have eH5 : upd G5 l5 (.lst ([V.bl (decide (i = 0)), V.bl (decide (i = 1)), V.bl (decide (i = 2)), V.bl (decide (i = 3)), V.bl (decide (i = 4)), V.bl (decide (i = 5)), V.bl (decide (i = 6)), V.bl (decide (i = 7)), V.bl (decide (i = 8)), V.bl (decide (i = 9)), V.bl (decide (i = 10)), V.bl (decide (i = 11)), V.bl (decide (i = 12)), V.bl (decide (i = 13)), V.bl (decide (i = 14))] ++ [V.bl (decide (i = 15)), V.bl (decide (i = 16)), V.bl (decide (i = 17))])) = upd G5 l5 (.lst [V.bl (decide (i = 0)), V.bl (decide (i = 1)), V.bl (decide (i = 2)), V.bl (decide (i = 3)), V.bl (decide (i = 4)), V.bl (decide (i = 5)), V.bl (decide (i = 6)), V.bl (decide (i = 7)), V.bl (decide (i = 8)), V.bl (decide (i = 9)), V.bl (decide (i = 10)), V.bl (decide (i = 11)), V.bl (decide (i = 12)), V.bl (decide (i = 13)), V.bl (decide (i = 14)), V.bl (decide (i = 15)), V.bl (decide (i = 16)), V.bl (decide (i = 17))]) := rfl
    rw [eH5]
    clear hm4 hq5 sq5 t5 h4 ex4 ey5 eH5
    generalize upd G5 l5 (.lst [V.bl (decide (i = 0)), V.bl (decide (i = 1)), V.bl (decide (i = 2)), V.bl (decide (i = 3)), V.bl (decide (i = 4)), V.bl (decide (i = 5)), V.bl (decide (i = 6)), V.bl (decide (i = 7)), V.bl (decide (i = 8)), V.bl (decide (i = 9)), V.bl (decide (i = 10)), V.bl (decide (i = 11)), V.bl (decide (i = 12)), V.bl (decide (i = 13)), V.bl (decide (i = 14)), V.bl (decide (i = 15)), V.bl (decide (i = 16)), V.bl (decide (i = 17))]) = H5 at s5 h5 ex5 ⊢
    refine ⟨_, rfl, _, rfl, e, C, .ref c18, .ref c18, decide (i = 18), rfl, xi, ex5, fun u r => r, KA i 18 C c18 hC rfl, _, rfl, e, C, .ref c19, .ref c19, decide (i = 19), rfl, xi, ex5, fun u r => r, KA i 19 C c19 hC rfl, _, rfl, e, C, .ref c20, .ref c20, decide (i = 20), rfl, xi, ex5, fun u r => r, KA i 20 C c20 hC rfl, (by show 3 ≤ sizeLine; decide), fun q6 nq6 => ?_⟩
    have sq6 : Same H5 (upd H5 q6 (.lst [V.bl (decide (i = 18)), V.bl (decide (i = 19)), V.bl (decide (i = 20))])) := Same.new nq6
    have hq6 : (upd H5 q6 (.lst [V.bl (decide (i = 18)), V.bl (decide (i = 19)), V.bl (decide (i = 20))])) q6 = some (.lst [V.bl (decide (i = 18)), V.bl (decide (i = 19)), V.bl (decide (i = 20))]) := upd_same
    have hm5 := sq6 _ _ h5
    have ey6 := ex5.same sq6
    generalize upd H5 q6 (.lst [V.bl (decide (i = 18)), V.bl (decide (i = 19)), V.bl (decide (i = 20))]) = G6 at sq6 hq6 hm5 ey6 ⊢
    refine ⟨l5, q6, _, _, rfl, rfl, hm5, hq6, (by show 21 ≤ sizeLine; decide), fun l6 n6 => ?_⟩
    change G6 l6 = none at n6
    have t6 : Same G6 (upd G6 l6 (.lst [V.bl (decide (i = 0)), V.bl (decide (i = 1)), V.bl (decide (i = 2)), V.bl (decide (i = 3)), V.bl (decide (i = 4)), V.bl (decide (i = 5)), V.bl (decide (i = 6)), V.bl (decide (i = 7)), V.bl (decide (i = 8)), V.bl (decide (i = 9)), V.bl (decide (i = 10)), V.bl (decide (i = 11)), V.bl (decide (i = 12)), V.bl (decide (i = 13)), V.bl (decide (i = 14)), V.bl (decide (i = 15)), V.bl (decide (i = 16)), V.bl (decide (i = 17)), V.bl (decide (i = 18)), V.bl (decide (i = 19)), V.bl (decide (i = 20))])) := Same.new n6
    have h6 : (upd G6 l6 (.lst [V.bl (decide (i = 0)), V.bl (decide (i = 1)), V.bl (decide (i = 2)), V.bl (decide (i = 3)), V.bl (decide (i = 4)), V.bl (decide (i = 5)), V.bl (decide (i = 6)), V.bl (decide (i = 7)), V.bl (decide (i = 8)), V.bl (decide (i = 9)), V.bl (decide (i = 10)), V.bl (decide (i = 11)), V.bl (decide (i = 12)), V.bl (decide (i = 13)), V.bl (decide (i = 14)), V.bl (decide (i = 15)), V.bl (decide (i = 16)), V.bl (decide (i = 17)), V.bl (decide (i = 18)), V.bl (decide (i = 19)), V.bl (decide (i = 20))])) l6 = some (.lst [V.bl (decide (i = 0)), V.bl (decide (i = 1)), V.bl (decide (i = 2)), V.bl (decide (i = 3)), V.bl (decide (i = 4)), V.bl (decide (i = 5)), V.bl (decide (i = 6)), V.bl (decide (i = 7)), V.bl (decide (i = 8)), V.bl (decide (i = 9)), V.bl (decide (i = 10)), V.bl (decide (i = 11)), V.bl (decide (i = 12)), V.bl (decide (i = 13)), V.bl (decide (i = 14)), V.bl (decide (i = 15)), V.bl (decide (i = 16)), V.bl (decide (i = 17)), V.bl (decide (i = 18)), V.bl (decide (i = 19)), V.bl (decide (i = 20))]) := upd_same
    have s6 := (s5.trans sq6).trans t6
    have ex6 := ey6.same t6
    have eH6 : upd G6 l6 (.lst ([V.bl (decide (i = 0)), V.bl (decide (i = 1)), V.bl (decide (i = 2)), V.bl (decide (i = 3)), V.bl (decide (i = 4)), V.bl (decide (i = 5)), V.bl (decide (i = 6)), V.bl (decide (i = 7)), V.bl (decide (i = 8)), V.bl (decide (i = 9)), V.bl (decide (i = 10)), V.bl (decide (i = 11)), V.bl (decide (i = 12)), V.bl (decide (i = 13)), V.bl (decide (i = 14)), V.bl (decide (i = 15)), V.bl (decide (i = 16)), V.bl (decide (i = 17))] ++ [V.bl (decide (i = 18)), V.bl (decide (i = 19)), V.bl (decide (i = 20))])) = upd G6 l6 (.lst [V.bl (decide (i = 0)), V.bl (decide (i = 1)), V.bl (decide (i = 2)), V.bl (decide (i = 3)), V.bl (decide (i = 4)), V.bl (decide (i = 5)), V.bl (decide (i = 6)), V.bl (decide (i = 7)), V.bl (decide (i = 8)), V.bl (decide (i = 9)), V.bl (decide (i = 10)), V.bl (decide (i = 11)), V.bl (decide (i = 12)), V.bl (decide (i = 13)), V.bl (decide (i = 14)), V.bl (decide (i = 15)), V.bl (decide (i = 16)), V.bl (decide (i = 17)), V.bl (decide (i = 18)), V.bl (decide (i = 19)), V.bl (decide (i = 20))]) := rfl
    rw [eH6]
    clear hm5 hq6 sq6 t6 h5 ex5 ey6 eH6
    generalize upd G6 l6 (.lst [V.bl (decide (i = 0)), V.bl (decide (i = 1)), V.bl (decide (i = 2)), V.bl (decide (i = 3)), V.bl (decide (i = 4)), V.bl (decide (i = 5)), V.bl (decide (i = 6)), V.bl (decide (i = 7)), V.bl (decide (i = 8)), V.bl (decide (i = 9)), V.bl (decide (i = 10)), V.bl (decide (i = 11)), V.bl (decide (i = 12)), V.bl (decide (i = 13)), V.bl (decide (i = 14)), V.bl (decide (i = 15)), V.bl (decide (i = 16)), V.bl (decide (i = 17)), V.bl (decide (i = 18)), V.bl (decide (i = 19)), V.bl (decide (i = 20))]) = H6 at s6 h6 ex6 ⊢
    refine ⟨_, rfl, _, rfl, e, C, .ref c21, .ref c21, decide (i = 21), rfl, xi, ex6, fun u r => r, KA i 21 C c21 hC rfl, _, rfl, e, C, .ref c22, .ref c22, decide (i = 22), rfl, xi, ex6, fun u r => r, KA i 22 C c22 hC rfl, (by show 2 ≤ sizeLine; decide), fun q7 nq7 => ?_⟩
    have sq7 : Same H6 (upd H6 q7 (.lst [V.bl (decide (i = 21)), V.bl (decide (i = 22))])) := Same.new nq7
    have hq7 : (upd H6 q7 (.lst [V.bl (decide (i = 21)), V.bl (decide (i = 22))])) q7 = some (.lst [V.bl (decide (i = 21)), V.bl (decide (i = 22))]) := upd_same
    have hm6 := sq7 _ _ h6
    have ey7 := ex6.same sq7
    generalize upd H6 q7 (.lst [V.bl (decide (i = 21)), V.bl (decide (i = 22))]) = G7 at sq7 hq7 hm6 ey7 ⊢
    refine ⟨l6, q7, _, _, rfl, rfl, hm6, hq7, (by show 23 ≤ sizeLine; decide), fun l7 n7 => ?_⟩
    change G7 l7 = none at n7
    have t7 : Same G7 (upd G7 l7 (.lst [V.bl (decide (i = 0)), V.bl (decide (i = 1)), V.bl (decide (i = 2)), V.bl (decide (i = 3)), V.bl (decide (i = 4)), V.bl (decide (i = 5)), V.bl (decide (i = 6)), V.bl (decide (i = 7)), V.bl (decide (i = 8)), V.bl (decide (i = 9)), V.bl (decide (i = 10)), V.bl (decide (i = 11)), V.bl (decide (i = 12)), V.bl (decide (i = 13)), V.bl (decide (i = 14)), V.bl (decide (i = 15)), V.bl (decide (i = 16)), V.bl (decide (i = 17)), V.bl (decide (i = 18)), V.bl (decide (i = 19)), V.bl (decide (i = 20)), V.bl (decide (i = 21)), V.bl (decide (i = 22))])) := Same.new n7
    have h7 : (upd G7 l7 (.lst [V.bl (decide (i = 0)), V.bl (decide (i = 1)), V.bl (decide (i = 2)), V.bl (decide (i = 3)), V.bl (decide (i = 4)), V.bl (decide (i = 5)), V.bl (decide (i = 6)), V.bl (decide (i = 7)), V.bl (decide (i = 8)), V.bl (decide (i = 9)), V.bl (decide (i = 10)), V.bl (decide (i = 11)), V.bl (decide (i = 12)), V.bl (decide (i = 13)), V.bl (decide (i = 14)), V.bl (decide (i = 15)), V.bl (decide (i = 16)), V.bl (decide (i = 17)), V.bl (decide (i = 18)), V.bl (decide (i = 19)), V.bl (decide (i = 20)), V.bl (decide (i = 21)), V.bl (decide (i = 22))])) l7 = some (.lst [V.bl (decide (i = 0)), V.bl (decide (i = 1)), V.bl (decide (i = 2)), V.bl (decide (i = 3)), V.bl (decide (i = 4)), V.bl (decide (i = 5)), V.bl (decide (i = 6)), V.bl (decide (i = 7)), V.bl (decide (i = 8)), V.bl (decide (i = 9)), V.bl (decide (i = 10)), V.bl (decide (i = 11)), V.bl (decide (i = 12)), V.bl (decide (i = 13)), V.bl (decide (i = 14)), V.bl (decide (i = 15)), V.bl (decide (i = 16)), V.bl (decide (i = 17)), V.bl (decide (i = 18)), V.bl (decide (i = 19)), V.bl (decide (i = 20)), V.bl (decide (i = 21)), V.bl (decide (i = 22))]) := upd_same
    have s7 := (s6.trans sq7).trans t7
    have ex7 := ey7.same t7
    have eH7 : upd G7 l7 (.lst ([V.bl (decide (i = 0)), V.bl (decide (i = 1)), V.bl (decide (i = 2)), V.bl (decide (i = 3)), V.bl (decide (i = 4)), V.bl (decide (i = 5)), V.bl (decide (i = 6)), V.bl (decide (i = 7)), V.bl (decide (i = 8)), V.bl (decide (i = 9)), V.bl (decide (i = 10)), V.bl (decide (i = 11)), V.bl (decide (i = 12)), V.bl (decide (i = 13)), V.bl (decide (i = 14)), V.bl (decide (i = 15)), V.bl (decide (i = 16)), V.bl (decide (i = 17)), V.bl (decide (i = 18)), V.bl (decide (i = 19)), V.bl (decide (i = 20))] ++ [V.bl (decide (i = 21)), V.bl (decide (i = 22))])) = upd G7 l7 (.lst [V.bl (decide (i = 0)), V.bl (decide (i = 1)), V.bl (decide (i = 2)), V.bl (decide (i = 3)), V.bl (decide (i = 4)), V.bl (decide (i = 5)), V.bl (decide (i = 6)), V.bl (decide (i = 7)), V.bl (decide (i = 8)), V.bl (decide (i = 9)), V.bl (decide (i = 10)), V.bl (decide (i = 11)), V.bl (decide (i = 12)), V.bl (decide (i = 13)), V.bl (decide (i = 14)), V.bl (decide (i = 15)), V.bl (decide (i = 16)), V.bl (decide (i = 17)), V.bl (decide (i = 18)), V.bl (decide (i = 19)), V.bl (decide (i = 20)), V.bl (decide (i = 21)), V.bl (decide (i = 22))]) := rfl
    rw [eH7]
    clear hm6 hq7 sq7 t7 h6 ex6 ey7 eH7
    generalize upd G7 l7 (.lst [V.bl (decide (i = 0)), V.bl (decide (i = 1)), V.bl (decide (i = 2)), V.bl (decide (i = 3)), V.bl (decide (i = 4)), V.bl (decide (i = 5)), V.bl (decide (i = 6)), V.bl (decide (i = 7)), V.bl (decide (i = 8)), V.bl (decide (i = 9)), V.bl (decide (i = 10)), V.bl (decide (i = 11)), V.bl (decide (i = 12)), V.bl (decide (i = 13)), V.bl (decide (i = 14)), V.bl (decide (i = 15)), V.bl (decide (i = 16)), V.bl (decide (i = 17)), V.bl (decide (i = 18)), V.bl (decide (i = 19)), V.bl (decide (i = 20)), V.bl (decide (i = 21)), V.bl (decide (i = 22))]) = H7 at s7 h7 ex7 ⊢
    exact ⟨_, rfl, k l7 H7 s7 h7⟩
end
end Toy

set_option Elab.async false
set_option linter.all false
set_option maxRecDepth 100000
set_option maxHeartbeats 4000000
namespace Toy
open PySem L2 TL EM
section
variable {P : Program} {w : World} {K : PySem.W.Frag} {mg : Str → Option Value} {base : Heap}
/-- a value that a law keeps: data, or an entry -/
def WorthOk (K : PySem.W.Frag) (CE : Addr) (H : Hp) (v : V) : Prop := (∃ d, SeqAt.shaped d = true ∧ ∀ H', Same H H' → Dp K H' v d) ∨ (∃ e t k a b z, v = .ref e ∧ EntAt CE H e t k a b z)
theorem WorthOk.flat {CE : Addr} {H : Hp} {v : V} (d : PyData) (hs : SeqAt.shaped d = true) (h : ∀ H', Dp K H' v d) : WorthOk K CE H v := .inl ⟨d, hs, fun H' _ => h H'⟩
theorem sh_int (n : Int) : SeqAt.shaped (.int n) = true := rfl
def spWorth (K : PySem.W.Frag) (CE : Addr) : Sp := fun vs H Q _ => ∃ (p c : Addr) (i : Int) (B : Nat), vs = [.ref p, .int i] ∧ PenAt H p c B ∧ B < 1000000000 ∧
  ∀ (v : V) (H' : Hp), WorthOk K CE H' v → PenAt H' p c (B + 1) → But p H H' → Q v H'
theorem parts_d11 : parts (tl (Str.ofString "day 1 to 1")) = some (kDay, 1, 1, none) := by
  have e : tl (Str.ofString "day 1 to 1") = canon kDay 1 1 none := by decide +kernel
  rw [e]
  exact parts_canon ⟨by decide, .inr ⟨by decide, rfl⟩⟩ (by decide) (by decide) (by decide)
abbrev s__law_worth : Stmt := top 45
theorem sc__law_worth : FnScope ["_law_pen_here", "_law_k"] ["_law_pen_here", "_law_k"] (defScope s__law_worth) := ⟨rfl, rfl, rfl, by decide +kernel, rfl, by decide +kernel, by decide +kernel⟩

theorem ok_worth {f CE CT CB fE : Addr} {fd fdE : FuncData} (F : Fun K "_law_worth" "_law_worth" s__law_worth f fd) (T : TB mg) (C : EC K mg CE CT)
    (ME : Mk K CE fE) (GE : FnOk P w K mg base (L2.CX P w) 3 fE fdE ["self", "text"] (spEInit K CB)) (bE : Binds K fdE ["self", "text"] [])
    (cDraw : Cal P w K mg base 1 "_law_draw" ["_law_pen_here", "_law_many"] spDraw) (cPick : Cal P w K mg base 2 "_law_pick" ["_law_pen_here", "_law_some"] spPick) : FnOk P w K mg base CX0 5 f fd ["_law_pen_here", "_law_k"] (spWorth K CE) := by
  refine F.ok sc__law_worth (fun vs H Q E h => ?_) (fun cdv A outer s H vs Q E hr h => ?_)
  · obtain ⟨p, c, i, B, rfl, _⟩ := h
    rfl
  · obtain ⟨p, c, i, B, rfl, hP, hB, k⟩ := h
    have hr4 : Room 4 _ := hr
    have hr2 : Room 2 _ := hr4.mono (by decide)
    have hr1 : Room 1 _ := hr4.mono (by decide)
    refine ⟨_, (pss_cons (ps_if (pt_cmpR op_in_seq (pv 1) (pe_tup (pa_cons pe_int (pa_cons pe_int (pa_cons pe_int (pa_cons pe_int (pa_cons pe_int (pa_cons pe_int pa_nil))))))) rfl)
        (pss_one (ps_ret (pe_cal cDraw hr1 rfl (pa_cons (pv 0) (pa_cons pe_int pa_nil)))))
        pss_nil)
      (pss_cons (ps_if (pt_cmpR op_in_seq (pv 1) (pe_tup (pa_cons pe_int (pa_cons pe_int pa_nil))) rfl)
        (pss_one (ps_ret (pe_op op_add pe_int (pe_cal cDraw hr1 rfl (pa_cons (pv 0) (pa_cons pe_int pa_nil))))))
        pss_nil)
      (pss_cons (ps_if (pt_cmpR op_eq (pv 1) pe_int (nomark _))
        (pss_one (ps_ret (pe_cal cPick hr2 rfl (pa_cons (pv 0) (pa_cons (pe_lst (pa_cons (pe_tup pa_nil) (pa_cons (pe_tup (pa_cons pe_str (pa_cons pe_str pa_nil))) pa_nil))) pa_nil)))))
        pss_nil)
      (pss_cons (ps_if (pt_cmpR op_in_seq (pv 1) (pe_tup (pa_cons pe_int (pa_cons pe_int pa_nil))) rfl)
        (pss_one (ps_ret pe_str))
        pss_nil)
      (pss_cons (ps_if (pt_cmpR op_eq (pv 1) pe_int (nomark _))
        (pss_one (ps_ret (pe_make ME GE hr4 rfl C.gE bE .nil passE0 (pa_cons pe_str pa_nil))))
        pss_nil)
      (pss_cons (ps_if (pt_cmpR op_eq (pv 1) pe_int (nomark _))
        (pss_one (ps_ret (pe_tup (pa_cons pe_int (pa_cons pe_int pa_nil)))))
        pss_nil)
      (pss_one (ps_ret (pe_cal cPick hr2 rfl (pa_cons (pv 0) (pa_cons (pe_lst (pa_cons pe_non (pa_cons pe_str (pa_cons (pe_un un_neg pe_int) (pa_cons (pe_op op_pow pe_int pe_int) (pa_cons (pe_tup (pa_cons pe_str (pa_cons pe_int pa_nil))) (pa_cons pe_bl pa_nil))))))) pa_nil))))))))))), ?_⟩
    refine ⟨_, rfl, (by show 6 ≤ sizeLine; decide), fun t1 n1 => ⟨t1, _, rfl, .inr (SqT.of upd_same), rfl, rfl, _, rfl, ?_⟩⟩
    have s1 := Same.new (o := .tup [.int 4, .int 5, .int 12, .int 13, .int 14, .int 19]) n1
    have hP1 := hP.same s1
    generalize upd H t1 (.tup [.int 4, .int 5, .int 12, .int 13, .int 14, .int 19]) = H1 at s1 hP1 ⊢
    refine ite2 (fun _ => ?_) (fun _ => ?_)
    · refine ⟨_, rfl, p, c, 60, B, rfl, hP1, by decide, by decide, by omega, fun n H' n0 n1 hP' b' => ?_⟩
      exact k _ _ (.flat (.int n) rfl fun _ => .int n) hP' (But.after s1 b')
    refine ⟨_, rfl, (by show 2 ≤ sizeLine; decide), fun t2 n2 => ⟨t2, _, rfl, .inr (SqT.of upd_same), rfl, rfl, _, rfl, ?_⟩⟩
    have s2 := s1.trans (Same.new (o := .tup [.int 0, .int 7]) n2)
    have hP2 := hP1.same (Same.new (o := .tup [.int 0, .int 7]) n2)
    generalize upd H1 t2 (.tup [.int 0, .int 7]) = H2 at s2 hP2 ⊢
    refine ite2 (fun _ => ?_) (fun _ => ?_)
    · refine ⟨_, rfl, p, c, 60, B, rfl, hP2, by decide, by decide, by omega, fun n H' n0 n1 hP' b' => ⟨_, _, rfl, rfl, ?_⟩⟩
      exact k _ _ (.flat (.int _) rfl fun _ => .int _) hP' (But.after s2 b')
    refine ⟨_, rfl, rfl, _, rfl, ite2 (fun _ => ?_) (fun _ => ?_)⟩
    · refine ⟨_, rfl, (by show 0 ≤ sizeLine; decide), fun ta na => ?_⟩
      have sa := Same.new (o := .tup []) na
      have ha : (upd H2 ta (.tup [])) ta = some (.tup []) := upd_same
      refine ⟨(by show 2 ≤ sizeLine; decide), fun tb nb => ?_⟩
      change (upd H2 ta (.tup [])) tb = none at nb
      have sab := sa.trans (Same.new (o := .tup [.str "a", .str "b"]) nb)
      have ha := (Same.new (o := .tup [.str "a", .str "b"]) nb) _ _ ha
      have hb : (upd (upd H2 ta (.tup [])) tb (.tup [.str "a", .str "b"])) tb = some (.tup [.str "a", .str "b"]) := upd_same
      refine ⟨(by show 2 ≤ sizeLine; decide), fun l nl => ?_⟩
      change (upd (upd H2 ta (.tup [])) tb (.tup [.str "a", .str "b"])) l = none at nl
      have sc := sab.trans (Same.new (o := .lst [.ref ta, .ref tb]) nl)
      have ha := (Same.new (o := .lst [.ref ta, .ref tb]) nl) _ _ ha
      have hb := (Same.new (o := .lst [.ref ta, .ref tb]) nl) _ _ hb
      have hP3 := hP2.same sc
      have np : ∀ {q : Addr} {xs : List V}, (upd (upd (upd H2 ta (.tup [])) tb (.tup [.str "a", .str "b"])) l (.lst [.ref ta, .ref tb])) q = some (.tup xs) → q ≠ p := fun h => by
        obtain ⟨_, _, _, h1, _⟩ := hP3
        exact ne_of h h1 (by intro z; cases z)
      refine ⟨p, c, _, B, rfl, hP3, by omega, .inl ⟨l, _, rfl, upd_same, by show 0 < 2; decide, by show 2 < _; decide, fun j x H' hx hP' b' => ?_⟩⟩
      have ha' := b' _ _ ha (np ha)
      have hb' := b' _ _ hb (np hb)
      have bb := But.after (s2.trans sc) b'
      match j, hx with
      | 0, hx => cases hx; exact k _ _ (.inl ⟨.tuple [], rfl, fun H'' s'' => .tup (SqT.of (s'' _ _ ha')) .nil⟩) hP' bb
      | 1, hx => cases hx; exact k _ _ (.inl ⟨.tuple [.str "a", .str "b"], by decide +kernel, fun H'' s'' => .tup (SqT.of (s'' _ _ hb')) (.cons (.str _) (.cons (.str _) .nil))⟩) hP' bb
      | j + 2, hx => cases hx
    refine ⟨_, rfl, (by show 2 ≤ sizeLine; decide), fun t3 n3 => ⟨t3, _, rfl, .inr (SqT.of upd_same), rfl, rfl, _, rfl, ?_⟩⟩
    have s3 := s2.trans (Same.new (o := .tup [.int 11, .int 18]) n3)
    have hP3 := hP2.same (Same.new (o := .tup [.int 11, .int 18]) n3)
    generalize upd H2 t3 (.tup [.int 11, .int 18]) = H3 at s3 hP3 ⊢
    refine ite2 (fun _ => ?_) (fun _ => ?_)
    · exact k _ _ (.flat (.str "desk") (by decide +kernel) fun _ => .str _) (hP3.mono (by omega)) (But.of s3)
    refine ⟨_, rfl, rfl, _, rfl, ite2 (fun _ => ?_) (fun _ => ?_)⟩
    · refine fun x dx nx ndx ne' => ?_
      have s4 : Same H3 (upd (upd H3 dx (.own x)) x (.ins CE dx [])) := (Same.new ndx).trans (Same.new (by rw [upd_ne ne'.symm]; exact nx))
      refine ⟨x, CE, dx, _, rfl, C.iE.cl, C.nE, upd_same, .inl ⟨_, rfl, by decide +kernel, fun k' a' b' z' hp' H' sb hx' => ⟨rfl, ?_⟩, fun hp' => by rw [parts_d11] at hp'; cases hp'⟩⟩
      have s5 : Same H3 H' := fun b' o e => sb b' o (s4 _ _ e) (ne_of_none e nx)
      exact k _ _ (.inr ⟨x, _, _, _, _, _, rfl, dx, hx'⟩) ((hP3.same s5).mono (by omega)) (But.of (s3.trans s5))
    refine ⟨_, rfl, rfl, _, rfl, ite2 (fun _ => ?_) (fun _ => ?_)⟩
    · refine ⟨(by show 2 ≤ sizeLine; decide), fun t4 n4 => ?_⟩
      exact k _ _ (.inl ⟨.tuple [.int 0, .int 1], by decide +kernel, fun H'' s'' => .tup (SqT.of (s'' _ _ upd_same)) (.cons (.int _) (.cons (.int _) .nil))⟩) ((hP3.same (Same.new n4)).mono (by omega)) (But.of (s3.trans (Same.new n4)))
    · refine ⟨_, rfl, _, rfl, _, _, rfl, rfl, ⟨by decide, by decide, by decide⟩, (by show 2 ≤ sizeLine; decide), fun ta na => ?_⟩
      have sa := Same.new (o := .tup [.str "a", .int 1]) na
      have ha : (upd H3 ta (.tup [.str "a", .int 1])) ta = some (.tup [.str "a", .int 1]) := upd_same
      refine ⟨(by show 6 ≤ sizeLine; decide), fun l nl => ?_⟩
      change (upd H3 ta (.tup [.str "a", .int 1])) l = none at nl
      have sc := sa.trans (Same.new (o := .lst [.non, .str "word", .int (-3), .int (10 ^ (40 : Int).toNat), .ref ta, .bl true]) nl)
      have ha := (Same.new (o := .lst [.non, .str "word", .int (-3), .int (10 ^ (40 : Int).toNat), .ref ta, .bl true]) nl) _ _ ha
      have hP4 := hP3.same sc
      refine ⟨p, c, _, B, rfl, hP4, by omega, .inl ⟨l, _, rfl, upd_same, by show 0 < 6; decide, by show 6 < _; decide, fun j x H' hx hP' b' => ?_⟩⟩
      have np : ta ≠ p := by
        obtain ⟨_, _, _, h1, _⟩ := hP4
        exact ne_of ha h1 (by intro z; cases z)
      have ha' := b' _ _ ha np
      have bb := But.after (s3.trans sc) b'
      match j, hx with
      | 0, hx => cases hx; exact k _ _ (.flat .none rfl fun _ => .non) hP' bb
      | 1, hx => cases hx; exact k _ _ (.flat (.str "word") (by decide +kernel) fun _ => .str _) hP' bb
      | 2, hx => cases hx; exact k _ _ (.flat (.int _) rfl fun _ => .int _) hP' bb
      | 3, hx => cases hx; exact k _ _ (.flat (.int _) rfl fun _ => .int _) hP' bb
      | 4, hx => cases hx; exact k _ _ (.inl ⟨.tuple [.str "a", .int 1], by decide +kernel, fun H'' s'' => .tup (SqT.of (s'' _ _ ha')) (.cons (.str _) (.cons (.int _) .nil))⟩) hP' bb
      | 5, hx => cases hx; exact k _ _ (.flat (.bool true) rfl fun _ => .bl _) hP' bb
      | j + 6, hx => cases hx
end
end Toy

set_option Elab.async false
set_option linter.all false
set_option maxRecDepth 100000
set_option maxHeartbeats 4000000
namespace Toy
open PySem L2 TL EM
section
variable {P : Program} {w : World} {K : PySem.W.Frag} {mg : Str → Option Value} {base : Heap} {c0 c1 c2 c3 c4 c5 c6 c7 c8 c9 c10 c11 c12 c13 c14 c15 c16 c17 c18 c19 c20 c21 c22 : Addr}
structure EQ0 (K : PySem.W.Frag) (CE fQ : Addr) : Prop where
  qE : PySem.W.findIn K (.ref CE) "__eq__" = some (some (.ref fQ))
  fn : PySem.W.isFn K (.ref fQ) = true
  neE : PySem.W.findIn K (.ref CE) "__ne__" = some (some (.builtin "object.__ne__"))
  mE : PySem.W.mroIn K CE (.type "object") = some true
  nEE : PySem.W.notFirst K CE (.ref CE) = true
theorem dpBools (K : PySem.W.Frag) (H : Hp) : ∀ bs : List Bool, DpAll K H (bs.map V.bl) (bs.map PyData.bool)
  | [] => .nil
  | b :: bs => .cons (.bl b) (dpBools K H bs)
theorem canBools : ∀ bs : List Bool, PyData.canLayAll0 (bs.map PyData.bool) = true
  | [] => rfl
  | b :: bs => by show (PyData.canLay0 (.bool b) && PyData.canLayAll0 (bs.map PyData.bool)) = true; rw [canBools bs]; rfl
theorem depBools : ∀ bs : List Bool, PyData.depthAll (bs.map PyData.bool) = 0
  | [] => rfl
  | b :: bs => by show max (PyData.depth (.bool b)) (PyData.depthAll (bs.map PyData.bool)) = 0; rw [depBools bs]; rfl
theorem shBools (bs : List Bool) : SeqAt.shaped (.list (bs.map PyData.bool)) = true := by
  unfold SeqAt.shaped
  have h1 : PyData.canLay0 (.list (bs.map PyData.bool)) = true := canBools bs
  have h2 : PyData.depth (.list (bs.map PyData.bool)) = 1 := by show PyData.depthAll (bs.map PyData.bool) + 1 = 1; rw [depBools]
  rw [h1, h2]; rfl
def spLaw (K : PySem.W.Frag) : Sp := fun vs H Q _ => ∃ (a : Addr) (ns : List Int), vs = [.ref a] ∧ SqL K H a (ns.map V.int) ∧ ∀ H', Q (.bl true) H'
/-- each class of errors stands below WhosedayError and ValueError -/
def Below (K : PySem.W.Frag) (CS : List Addr) (CW : Addr) : Prop := ∀ (i : Nat) (C : Addr), CS[i]? = some C → ExiC K C ∧ PySem.W.kitOne K (.ref C) (.ref CW) = some true ∧ PySem.W.kitOne K (.ref C) (.type "ValueError") = some true
abbrev s_law : Stmt := top 46
theorem sc_law : FnScope ["_law_script", "_law_pen_here", "_law_k", "_law_worth_here", "_law_error", "_law_kept", "_law_j"] ["_law_script"] (defScope s_law) := ⟨rfl, rfl, rfl, by decide +kernel, rfl, by decide +kernel, by decide +kernel⟩

theorem ok_law {f CE CT CW fQ : Addr} {fd fdQ : FuncData} (F : Fun K "law" "law" s_law f fd) (T : TB mg) (C : EC K mg CE CT) (O : EQ0 K CE fQ) (GQ : FnOk P w K mg base CX0 1 fQ fdQ ["self", "other"] (spEq K CE CT)) (bQ : Binds K fdQ ["self", "other"] [])
    (gW : mg "WhosedayError" = some (.ref CW)) (gV : mg "ValueError" = none) (BL : Below K [c0, c1, c2, c3, c4, c5, c6, c7, c8, c9, c10, c11, c12, c13, c14, c15, c16, c17, c18, c19, c20, c21, c22] CW)
    (cPen : Cal P w K mg base 1 "_law_pen" ["_law_script"] (spPen K)) (cWorth : Cal P w K mg base 5 "_law_worth" ["_law_pen_here", "_law_k"] (spWorth K CE))
    (cEarly : Cal P w K mg base 2 "_law_made_early" ["_law_k", "_law_worth_here"] (spMade [c0, c1, c2, c3, c4, c5, c6, c7, c8, c9, c10, c11, c12, c13, c14, c15, c16, c17, c18, c19, c20, c21, c22])) (cKinds : Cal P w K mg base 1 "_law_kinds" ["_law_e"] (spKinds K [c0, c1, c2, c3, c4, c5, c6, c7, c8, c9, c10, c11, c12, c13, c14, c15, c16, c17, c18, c19, c20, c21, c22])) : FnOk P w K mg base CX0 6 f fd ["_law_script"] (spLaw K) := by
  refine F.ok sc_law (fun vs H Q E h => ?_) (fun cdv A outer s H vs Q E hr h => ?_)
  · obtain ⟨a, ns, rfl, _⟩ := h
    rfl
  · obtain ⟨a, ns, rfl, hS, q⟩ := h
    have hr5 : Room 5 _ := hr
    have hr2 : Room 2 _ := hr5.mono (by decide)
    have hr1 : Room 1 _ := hr5.mono (by decide)
    refine ⟨_, (pss_cons (ps_set (i := 1) sc_law.nd rfl (Or.inl rfl) (pe_cal cPen hr1 rfl (pa_cons (pv 0) pa_nil)))
      (pss_cons (ps_for PassesOwn.never rfl (pi_range1 rfl T.range (pa_cons pe_int pa_nil)) (pg_name (i := 2) sc_law.nd rfl (Or.inr rfl))
        (pss_cons (ps_set (i := 3) sc_law.nd rfl (Or.inl rfl) (pe_cal cWorth hr5 rfl (pa_cons (pv 1) (pa_cons (pv 2) pa_nil))))
      (pss_cons (ps_asg (pe_cal cEarly hr2 rfl (pa_cons (pv 2) (pa_cons (pv 3) pa_nil))) (pg_tup rfl (pgs_cons (pg_name (i := 4) sc_law.nd rfl (Or.inl rfl)) (pgs_cons (pg_name (i := 5) sc_law.nd rfl (Or.inl rfl)) pgs_nil))))
      (pss_cons (ps_if (PW.pt (pw_or (pt_cmpR (op_any2 (op_neD hr.units) (op_neK (K := K) rfl O.neE O.qE O.fn O.mE GQ hr2 bQ pass0)) (pv 5) (pv 3) (nomark _)) (pw_or (pt_not (pt_val (pe_callB call_isA (by rfl) T.isinstance (by decide +kernel) (pa_cons (pv 4) (pa_cons (pe_glob (v := .ref CW) rfl gW rfl) pa_nil))))) (pw_or1 (pt_not (pt_val (pe_callB call_isA (by rfl) T.isinstance (by decide +kernel) (pa_cons (pv 4) (pa_cons (pe_bltn (v := .ty "ValueError") (by rfl) gV (by decide +kernel) rfl) pa_nil)))))))))
        (pss_one (ps_ret pe_bl))
        pss_nil)
      (pss_one (ps_if (pt_cmpR (op_neD hr.units) (pe_cal cKinds hr1 rfl (pa_cons (pv 4) pa_nil)) (pe_lc (own := [("_law_j", 6)]) (g := gName 6) (by rfl) sc_law.nd (pi_range1 rfl T.range (pa_cons pe_int pa_nil)) (blkOk_by (own := [("_law_j", 6)]) (N := ["_law_script", "_law_pen_here", "_law_k", "_law_worth_here", "_law_error", "_law_kept", "_law_j"]) (sc := defScope s_law) (by decide +kernel)) (fun _ _ _ _ _ => pg_name (i := 6) sc_law.nd rfl (Or.inl rfl)) (fun _ _ _ _ _ => pts_nil) (fun _ _ _ _ _ => (pe_cmpR op_eq (pv 6) (pv 2) (nomark _)))) (nomark _))
        (pss_one (ps_ret pe_bl))
        pss_nil))))))
      (pss_one (ps_ret pe_bl)))), ?_⟩
    refine ⟨_, rfl, a, ns, rfl, hS, fun p c H1 np s1 hP1 => ?_⟩
    refine ⟨_, rfl, by decide, by decide, ?_⟩
    refine for_it walk_range (fun i σ H' => ∃ o2 o3 o4 o5, σ = [some (.ref a), some (.ref p), o2, o3, o4, o5, none] ∧ PenAt H' p c i) ⟨_, _, _, _, rfl, hP1⟩ (fun _ _ _ _ _ => trivial) ?_ ?_
    · rintro i x σ H2 H3 hi ⟨o2, o3, o4, o5, rfl, hP2⟩ ⟨rfl, rfl⟩
      have hi23 : i < 23 := hi
      have ei : (fun i : Nat => V.int (0 + (i : Int))) i = V.int (i : Int) := by
        show V.int (0 + (i : Int)) = _
        rw [Int.zero_add]
      rw [ei]
      obtain ⟨D, hD⟩ : ∃ D, [c0, c1, c2, c3, c4, c5, c6, c7, c8, c9, c10, c11, c12, c13, c14, c15, c16, c17, c18, c19, c20, c21, c22][i]? = some D := ⟨_, List.getElem?_eq_getElem (by show i < 23; exact hi23)⟩
      obtain ⟨xi, kw, kv⟩ := BL i D hD
      refine ⟨_, rfl, _, rfl, p, c, _, i, rfl, hP2, by omega, fun v H4 wv hP4 b4 => ?_⟩
      refine ⟨_, rfl, _, rfl, i, v, D, rfl, hi23, hD, fun tp e H5 s5 ex htp => ?_⟩
      have hP5 := hP4.same s5
      refine ⟨tp, _, rfl, SqT.of htp, rfl, _, _, rfl, _, _, rfl, rfl, ?_⟩
      have key : ∀ Qc : VK, Qc (.bl false) H5 → (rNeD K v v H5 Qc ∨ rNeO K CE (spEq K CE CT) E0 v v H5 Qc) := by
        intro Qc hq
        rcases wv with ⟨d, hs, hd⟩ | ⟨e', t, k, ka, kb, z, rfl, he⟩
        · refine .inl ⟨d, d, hd H5 s5, hd H5 s5, hs, hs, ?_⟩
          rw [PySem.SeqAt.eqv_refl _ (PySem.SeqAt.canLay_of_shaped hs)]
          exact hq
        · obtain ⟨dx, h⟩ := he.same s5
          refine .inr ⟨e', dx, _, .ref CE, rfl, h, (C.ic (.inl rfl)).ty h, O.nEE, e', CE, _, t, k, ka, kb, z, rfl, .inl rfl, ⟨dx, h⟩, .inl ⟨e', CE, t, k, ka, kb, z, rfl, .inl rfl, ⟨dx, h⟩, _, rfl, ?_⟩⟩
          rw [decide_eq_true rfl]
          exact hq
      refine ⟨_, rfl, _, rfl, key _ ⟨_, rfl, iteF ?_⟩⟩
      refine ⟨_, rfl, e, D, .ref CW, .ref CW, true, rfl, xi, ex, fun u r => r, kw, _, rfl, iteF ?_⟩
      refine ⟨_, rfl, e, D, .ty "ValueError", .type "ValueError", true, rfl, xi, ex, fun u r => r, kv, _, rfl, iteF ?_⟩
      refine ⟨_, rfl, e, D, i, rfl, hD, xi, ex, fun l H6 s6 hl => ?_⟩
      refine ⟨_, rfl, by decide, by decide, fun L nL => ?_⟩
      refine lc_map walk_range (by decide) (fun j => .bl (decide (i = j))) nL (fun _ _ => trivial) (fun j H x H' _ y => by rw [y.1]; exact Same.refl _) (fun x => rfl) ?_ ?_
      · rintro j x Ha Hb hj sa ⟨rfl, rfl⟩ Hc Q' sc qc
        refine ⟨_, rfl, _, rfl, rfl, ?_⟩
        have := qc Hc (Same.refl _)
        have e1 : decide (V.int (0 + (j : Int)) = V.int (i : Int)) = decide (i = j) := by
          rw [int_dec]
          by_cases h : i = j
          · rw [decide_eq_true h, decide_eq_true (by omega)]
          · rw [decide_eq_false h, decide_eq_false (by omega)]
        show Q' (V.bl (decide (V.int (0 + (j : Int)) = V.int (i : Int)))) Hc
        rw [e1]
        exact this
      · intro H7 s7 hL
        have eb : (List.range 23).map (fun j => V.bl (decide (i = j))) = ((List.range 23).map (fun j => decide (i = j))).map V.bl := by rw [List.map_map]; rfl
        have hl := s7 _ _ hl
        rw [eb] at hl
        have hL' : H7 L = some (.lst (((List.range 23).map (fun j => decide (i = j))).map V.bl)) := by rw [← eb]; exact hL
        refine ⟨_, _, .lst (SqL.of hl) (dpBools _ _ _), .lst (SqL.of hL') (dpBools _ _ _), shBools _, shBools _, _, rfl, ?_⟩
        rw [PySem.SeqAt.eqv_refl _ (PySem.SeqAt.canLay_of_shaped (shBools _))]
        exact iteF ⟨_, _, _, _, rfl, (hP5.same s6).same s7⟩
    · rintro σ H2 ⟨o2, o3, o4, o5, rfl, hP2⟩
      exact q _
end
end Toy

set_option Elab.async false
set_option linter.all false
set_option maxRecDepth 100000
set_option maxHeartbeats 4000000
namespace Toy
open PySem L2 TL EM
/-- a def as the top has written it -/
def FunK (K : PySem.W.Frag) (x qual : Str) (st : Stmt) (f : Addr) : Prop := ∃ (oc : Value) (od : Option Addr) (kV doc pm : Value) (an : Option Addr) (cdv ct : Value) (osl : Array (Option Value)),
  K.lookup f = some ⟨oc, od, .func (PySem.W.fnOf x qual (defArgs st) (defBody st) (defScope st) .none kV doc pm an cdv ct), osl⟩ ∧ PySem.W.codeIn K cdv qual = true ∧ PySem.W.keepIn K (.ref f) = true
structure NoneK (K : PySem.W.Frag) : Prop where
  nint : PySem.W.nsIn K mainGlobals "int" = some none
  nlen : PySem.W.nsIn K mainGlobals "len" = some none
  nall : PySem.W.nsIn K mainGlobals "all" = some none
  nisinstance : PySem.W.nsIn K mainGlobals "isinstance" = some none
  nstr : PySem.W.nsIn K mainGlobals "str" = some none
  nlist : PySem.W.nsIn K mainGlobals "list" = some none
  nrange : PySem.W.nsIn K mainGlobals "range" = some none
  nany : PySem.W.nsIn K mainGlobals "any" = some none
  nabs : PySem.W.nsIn K mainGlobals "abs" = some none
  nsorted : PySem.W.nsIn K mainGlobals "sorted" = some none
  nbool : PySem.W.nsIn K mainGlobals "bool" = some none
  nValueError : PySem.W.nsIn K mainGlobals "ValueError" = some none
  nsuper : PySem.W.nsIn K mainGlobals "super" = some none
theorem funk {K : PySem.W.Frag} {x qual : Str} {st : Stmt} {f : Addr} {oc : Value} {od : Option Addr} {kV doc pm : Value} {an : Option Addr} {cdv ct : Value} {osl : Array (Option Value)}
    (l : K.lookup f = some ⟨oc, od, .func (PySem.W.fnOf x qual (defArgs st) (defBody st) (defScope st) .none kV doc pm an cdv ct), osl⟩) (c : PySem.W.codeIn K cdv qual = true) (k : PySem.W.keepIn K (.ref f) = true) : FunK K x qual st f := ⟨_, _, _, _, _, _, _, _, _, l, c, k⟩
theorem supk {K : PySem.W.Frag} {mg : Str → Option Value} {P : Program} {fld : Str} {C fI : Addr} {nm q : Str} {N : Addr} {bs bm : List Value} {sn : List Str} {sub : List Value} {ab : Bool} {col : Option Bool} {dd : Option Addr} {m0 m1 m2 m3 m5 : Option Value}
    {oc doc pm ct ccl cl : Value} {od an cdd cld : Option Addr} {qual : Str} {ar : Arguments} {bd : List Stmt} {sc : Scope} {cda cc : Addr} {osl ccs csl : Array (Option Value)} {vs : Array Value} {file : Str} {tf : Tok}
    (x1 : K.lookup C = some (PySem.excClassObj nm q C N bs bm true sn sub ab col dd m0 m1 m2 m3 m5 "ValueError.__new__")) (x2 : PySem.HandSPX.refsVE bm = true) (x3 : PySem.W.findIn K (.ref C) "__setattr__" = some (some (.builtin "object.__setattr__"))) (x4 : PySem.W.findIn K (.ref C) fld = some none)
    (x5 : PySem.W.findIn K (.ref C) "__init__" = some (some (.ref fI))) (x6 : PySem.W.typeIn K (.ref fI) = some (.type "function")) (x7 : PySem.W.keepIn K (.ref C) = true) (x8 : PySem.W.subIn K (.ref C) (.type "BaseException") = some true) (x9 : PySem.W.subIn K (.ref C) (.type "ValueError") = some true)
    (xa : PySem.W.typeIn K (.ref C) = some (.type "type")) (xb : PySem.W.ks_superIn K C C "__init__" = some (some (.builtin "ValueError.__init__"))) (xc : PySem.W.nsIn K cStatics "thirdparty.any" = some none) (xd : PySem.W.mroIn K C (.ref C) = some true) (hs : mg "super" = none)
    (xe : (P.main.scope.names.lookup ("super" : Str)).isSome = false) (y1 : K.lookup fI = some ⟨oc, od, .func (PySem.W.ksFn "__init__" qual ar bd sc .none .none doc pm an (.ref cda) ct cc), osl⟩) (y2 : PySem.W.codeIn K (.ref cda) qual = true) (y3 : PySem.SupX.IsI fld ar bd sc)
    (y4 : K.lookup cda = some ⟨ccl, cdd, .fields vs, ccs⟩) (y5 : vs[2]? = some (.str file tf)) (y6 : ((P.main.file : Str) == file) = true) (z1 : (fld == ("self" : Str)) = false) (z2 : (fld == ("__debug__" : Str)) = false) (z3 : (("super" : Str) == fld) = false) (z4 : (("__class__" : Str) == fld) = false) (y7 : K.lookup cc = some ⟨cl, cld, .cell (some (.ref C)), csl⟩) : PySem.SupX.SupTxt K mg P fld C fI :=
  { cls := ⟨_, _, _, _, _, _, _, _, _, _, _, _, _, _, _, x1, x2⟩, sa := x3, noN := x4, iC := x5, tC := x6, kC := x7, exC := x8, veC := x9, tyC := xa, sup := xb, opq := xc, own := xd, nos := hs, top := xe,
    fn := ⟨_, _, _, _, _, _, _, _, _, _, _, _, _, _, _, _, _, _, _, _, _, _, y1, y2, y3, y4, y5, y6, y7⟩, nsf := z1, ndb := z2, nsp := z3, ncl := z4 }
theorem nilk {K : PySem.W.Frag} {mg : Str → Option Value} {P : Program} {C fI : Addr} {nm q : Str} {N : Addr} {bs bm : List Value} {sn : List Str} {sub : List Value} {ab : Bool} {col : Option Bool} {dd : Option Addr} {m0 m1 m2 m3 m5 : Option Value}
    {oc doc pm ct ccl cl : Value} {od an cdd cld : Option Addr} {qual : Str} {ar : Arguments} {bd : List Stmt} {sc : Scope} {cda cc : Addr} {osl ccs csl : Array (Option Value)} {vs : Array Value} {file : Str} {tf : Tok}
    (x1 : K.lookup C = some (PySem.excClassObj nm q C N bs bm true sn sub ab col dd m0 m1 m2 m3 m5 "ValueError.__new__")) (x2 : PySem.HandSPX.refsVE bm = true) 
    (x5 : PySem.W.findIn K (.ref C) "__init__" = some (some (.ref fI))) (x6 : PySem.W.typeIn K (.ref fI) = some (.type "function")) (x7 : PySem.W.keepIn K (.ref C) = true) (x9 : PySem.W.subIn K (.ref C) (.type "ValueError") = some true)
    (xb : PySem.W.ks_superIn K C C "__init__" = some (some (.builtin "ValueError.__init__"))) (xc : PySem.W.nsIn K cStatics "thirdparty.any" = some none) (xd : PySem.W.mroIn K C (.ref C) = some true) (hs : mg "super" = none)
    (xe : (P.main.scope.names.lookup ("super" : Str)).isSome = false) (y1 : K.lookup fI = some ⟨oc, od, .func (PySem.W.ksFn "__init__" qual ar bd sc .none .none doc pm an (.ref cda) ct cc), osl⟩) (y2 : PySem.W.codeIn K (.ref cda) qual = true) (y3 : PySem.SupX.IsN ar bd sc)
    (y4 : K.lookup cda = some ⟨ccl, cdd, .fields vs, ccs⟩) (y5 : vs[2]? = some (.str file tf)) (y6 : ((P.main.file : Str) == file) = true) (y7 : K.lookup cc = some ⟨cl, cld, .cell (some (.ref C)), csl⟩) : PySem.SupX.NilTxt K mg P C fI :=
  { cls := ⟨_, _, _, _, _, _, _, _, _, _, _, _, _, _, _, x1, x2⟩, iC := x5, tC := x6, kC := x7, veC := x9, sup := xb, opq := xc, own := xd, nos := hs, top := xe,
    fn := ⟨_, _, _, _, _, _, _, _, _, _, _, _, _, _, _, _, _, _, _, _, _, _, y1, y2, y3, y4, y5, y6, y7⟩ }
theorem kitR {K : PySem.W.Frag} {t : Value} {C : Addr} {b : Bool} (h1 : PySem.W.isClsIn K C = true) (h2 : PySem.W.typeIn K (.ref C) = some (.type "type")) (h3 : (t == .ref C) = false) (h4 : PySem.W.subIn K t (.ref C) = some b) : PySem.W.kitOne K t (.ref C) = some b := by
  unfold PySem.W.isClsIn at h1
  unfold PySem.W.kitOne PySem.W.kitCls
  simp only [h3, h1, h2, h4, Bool.false_eq_true, if_false, beq_self_eq_true, Bool.and_self, if_true]
theorem kitT {K : PySem.W.Frag} {t : Value} {T : String} {b : Bool} (h1 : PySem.W.kitMeta T = true) (h3 : (t == .type T) = false) (h4 : PySem.W.subIn K t (.type T) = some b) : PySem.W.kitOne K t (.type T) = some b := by
  unfold PySem.W.kitOne PySem.W.kitCls
  simp only [h3, h1, h4, Bool.false_eq_true, if_false, if_true]
theorem kinds_at {K : PySem.W.Frag} {a : Addr} {t1 t2 t3 t4 : Tok} {od : Option Addr} {n : Nat} {sl : Array (Option Value)} (h : K.lookup a = some ⟨.type "tuple", od, .seq #[.str "day" t1, .str "float" t2, .str "zoned" t3, .str "fixed" t4] n, sl⟩) :
    ∀ H, SqT K H a [.str "day", .str "float", .str "zoned", .str "fixed"] := fun H => .inr ⟨_, _, n, h, rfl, rfl, by show 4 ≤ sizeLine; decide, .cons ⟨_, rfl⟩ (.cons ⟨_, rfl⟩ (.cons ⟨_, rfl⟩ (.cons ⟨_, rfl⟩ .nil)))⟩
/-- a class of errors: below WhosedayError, and below no other -/
structure OneK (K : PySem.W.Frag) (CW C : Addr) : Prop where
  cl : ∃ cd, PySem.W.clsIn K C = some cd ∧ cd.mro = [.ref C, .ref CW, .type "ValueError", .type "Exception", .type "BaseException", .type "object"]
  ty : PySem.W.typeIn K (.ref C) = some (.type "type")
  xi : ExiC K C
theorem onek {K : PySem.W.Frag} {CW C : Addr} {cd : ClassData} (a : PySem.W.clsIn K C = some cd) (b : cd.mro = [.ref C, .ref CW, .type "ValueError", .type "Exception", .type "BaseException", .type "object"]) (t : PySem.W.typeIn K (.ref C) = some (.type "type")) (x : ExiC K C) : OneK K CW C := ⟨⟨cd, a, b⟩, t, x⟩
theorem OneK.sub {K : PySem.W.Frag} {CW C : Addr} (h : OneK K CW C) (v : Value) : PySem.W.subIn K (.ref C) v = some ([Value.ref C, .ref CW, .type "ValueError", .type "Exception", .type "BaseException", .type "object"].contains v) := by
  obtain ⟨cd, a, b⟩ := h.cl
  show PySem.W.mroIn K C v = _
  unfold PySem.W.mroIn
  rw [a, Option.bind_some, b]
  rfl
theorem OneK.is {K : PySem.W.Frag} {CW C : Addr} (h : OneK K CW C) : PySem.W.isClsIn K C = true := by
  obtain ⟨cd, a, _⟩ := h.cl
  unfold PySem.W.isClsIn
  rw [a]; rfl
theorem ref_ne {a b : Addr} (h : a ≠ b) : (Value.ref a == Value.ref b) = false := by
  rw [beq_eq_false_iff_ne]
  intro z; injection z; exact h (by assumption)
theorem kit_all {K : PySem.W.Frag} {CW : Addr} {CS : List Addr} (h : ∀ C ∈ CS, OneK K CW C) (nd : (CW :: CS).Nodup) : KitAll K CS := by
  obtain ⟨nw, nd⟩ := List.nodup_cons.mp nd
  intro i j C D hC hD
  by_cases hij : i = j
  · subst hij
    rw [hC] at hD
    cases hD
    rw [decide_eq_true rfl]
    unfold PySem.W.kitOne
    rw [if_pos (beq_self_eq_true _)]
  · have ne : C ≠ D := fun z => by
      subst z
      obtain ⟨h1, e1⟩ := List.getElem?_eq_some_iff.mp hC
      exact hij ((List.getElem?_inj h1 nd).mp (hC.trans hD.symm))
    have hc := h C (List.mem_of_getElem? hC)
    have hd := h D (List.mem_of_getElem? hD)
    have nw' : D ≠ CW := fun z => nw (by rw [← z]; exact List.mem_of_getElem? hD)
    rw [decide_eq_false hij]
    refine kitR hd.is hd.ty (ref_ne ne) ?_
    rw [hc.sub]
    have e1 := ref_ne (Ne.symm ne)
    have e2 := ref_ne nw'
    have e3 : ∀ s, (Value.ref D == Value.type s) = false := fun s => by rw [beq_eq_false_iff_ne]; intro z; cases z
    simp only [List.contains_cons, List.contains_nil, e1, e2, e3, Bool.or_self]
theorem below_all {K : PySem.W.Frag} {CW : Addr} {CS : List Addr} (h : ∀ C ∈ CS, OneK K CW C) (nd : (CW :: CS).Nodup) (w1 : PySem.W.isClsIn K CW = true) (w2 : PySem.W.typeIn K (.ref CW) = some (.type "type")) : Below K CS CW := by
  obtain ⟨nw, nd⟩ := List.nodup_cons.mp nd
  intro i C hC
  have hc := h C (List.mem_of_getElem? hC)
  have ne : C ≠ CW := fun z => nw (by rw [← z]; exact List.mem_of_getElem? hC)
  refine ⟨hc.xi, kitR w1 w2 (ref_ne ne) ?_, kitT (by decide +kernel) (by rw [beq_eq_false_iff_ne]; intro z; cases z) ?_⟩
  · rw [hc.sub]
    have e2 : (Value.ref CW == Value.ref CW) = true := beq_self_eq_true _
    simp only [List.contains_cons, e2, Bool.true_or, Bool.or_true]
  · rw [hc.sub]
    have e2 : (Value.type "ValueError" == Value.type "ValueError") = true := beq_self_eq_true _
    simp only [List.contains_cons, e2, Bool.true_or, Bool.or_true]
theorem all_mk {l : PySem.W.OpenLaw} {w : World} {K : PySem.W.Frag} {h : Heap} {mg : Str → Option Value} {fa f_law CE CT CW fE fQ aK f_number_of f_is_name f_parts_of f__law_draw f__law_pen f__law_pick f__law_made_late f__law_made_early f__law_kinds f__law_worth c0 c1 c2 c3 c4 c5 c6 c7 c8 c9 c10 c11 c12 c13 c14 c15 c16 c17 c18 c19 c20 c21 c22 g0 g1 g2 g3 g4 g5 g6 g7 g8 g9 g10 g11 g12 g13 g14 g15 g16 g17 g18 g19 g20 g21 g22 : Addr} {t1 t2 t3 t4 k1 k2 k3 k4 : Tok} {kod : Option Addr} {kn : Nat} {ksl : Array (Option Value)}
    (X : K.In h) (G : h.Ns mainGlobals mg) (hfa : mg "law" = some (.ref fa))
    (pE : PySem.W.nsIn K mainGlobals "Entry" = some (some (.ref CE)))
    (pT : PySem.W.nsIn K mainGlobals "ToldEntry" = some (some (.ref CT)))
    (pW : PySem.W.nsIn K mainGlobals "WhosedayError" = some (some (.ref CW)))
    (gl : PySem.W.nsIn K mainGlobals "law" = some (some (.ref f_law)))
    (p0 : PySem.W.nsIn K mainGlobals "BadText" = some (some (.ref c0)))
    (i0 : PySem.W.findIn K (.ref c0) "__init__" = some (some (.ref g0)))
    (p1 : PySem.W.nsIn K mainGlobals "BadName" = some (some (.ref c1)))
    (i1 : PySem.W.findIn K (.ref c1) "__init__" = some (some (.ref g1)))
    (p2 : PySem.W.nsIn K mainGlobals "NoZone" = some (some (.ref c2)))
    (i2 : PySem.W.findIn K (.ref c2) "__init__" = some (some (.ref g2)))
    (p3 : PySem.W.nsIn K mainGlobals "NoProgram" = some (some (.ref c3)))
    (i3 : PySem.W.findIn K (.ref c3) "__init__" = some (some (.ref g3)))
    (p4 : PySem.W.nsIn K mainGlobals "NoRoute" = some (some (.ref c4)))
    (i4 : PySem.W.findIn K (.ref c4) "__init__" = some (some (.ref g4)))
    (p5 : PySem.W.nsIn K mainGlobals "BadPiece" = some (some (.ref c5)))
    (i5 : PySem.W.findIn K (.ref c5) "__init__" = some (some (.ref g5)))
    (p6 : PySem.W.nsIn K mainGlobals "BadNumber" = some (some (.ref c6)))
    (i6 : PySem.W.findIn K (.ref c6) "__init__" = some (some (.ref g6)))
    (p7 : PySem.W.nsIn K mainGlobals "TooMany" = some (some (.ref c7)))
    (i7 : PySem.W.findIn K (.ref c7) "__init__" = some (some (.ref g7)))
    (p8 : PySem.W.nsIn K mainGlobals "BadKind" = some (some (.ref c8)))
    (i8 : PySem.W.findIn K (.ref c8) "__init__" = some (some (.ref g8)))
    (p9 : PySem.W.nsIn K mainGlobals "BadRule" = some (some (.ref c9)))
    (i9 : PySem.W.findIn K (.ref c9) "__init__" = some (some (.ref g9)))
    (p10 : PySem.W.nsIn K mainGlobals "BadOffsets" = some (some (.ref c10)))
    (i10 : PySem.W.findIn K (.ref c10) "__init__" = some (some (.ref g10)))
    (p11 : PySem.W.nsIn K mainGlobals "NoHours" = some (some (.ref c11)))
    (i11 : PySem.W.findIn K (.ref c11) "__init__" = some (some (.ref g11)))
    (p12 : PySem.W.nsIn K mainGlobals "BadChange" = some (some (.ref c12)))
    (i12 : PySem.W.findIn K (.ref c12) "__init__" = some (some (.ref g12)))
    (p13 : PySem.W.nsIn K mainGlobals "BadLook" = some (some (.ref c13)))
    (i13 : PySem.W.findIn K (.ref c13) "__init__" = some (some (.ref g13)))
    (p14 : PySem.W.nsIn K mainGlobals "TooWide" = some (some (.ref c14)))
    (i14 : PySem.W.findIn K (.ref c14) "__init__" = some (some (.ref g14)))
    (p15 : PySem.W.nsIn K mainGlobals "NotTogether" = some (some (.ref c15)))
    (i15 : PySem.W.findIn K (.ref c15) "__init__" = some (some (.ref g15)))
    (p16 : PySem.W.nsIn K mainGlobals "BadEntry" = some (some (.ref c16)))
    (i16 : PySem.W.findIn K (.ref c16) "__init__" = some (some (.ref g16)))
    (p17 : PySem.W.nsIn K mainGlobals "NotARing" = some (some (.ref c17)))
    (i17 : PySem.W.findIn K (.ref c17) "__init__" = some (some (.ref g17)))
    (p18 : PySem.W.nsIn K mainGlobals "NotHeld" = some (some (.ref c18)))
    (i18 : PySem.W.findIn K (.ref c18) "__init__" = some (some (.ref g18)))
    (p19 : PySem.W.nsIn K mainGlobals "BadDeed" = some (some (.ref c19)))
    (i19 : PySem.W.findIn K (.ref c19) "__init__" = some (some (.ref g19)))
    (p20 : PySem.W.nsIn K mainGlobals "NothingToUndo" = some (some (.ref c20)))
    (i20 : PySem.W.findIn K (.ref c20) "__init__" = some (some (.ref g20)))
    (p21 : PySem.W.nsIn K mainGlobals "OtherPrograms" = some (some (.ref c21)))
    (i21 : PySem.W.findIn K (.ref c21) "__init__" = some (some (.ref g21)))
    (p22 : PySem.W.nsIn K mainGlobals "OtherRoutes" = some (some (.ref c22)))
    (i22 : PySem.W.findIn K (.ref c22) "__init__" = some (some (.ref g22)))
    (g_number_of : PySem.W.nsIn K mainGlobals "number_of" = some (some (.ref f_number_of)))
    (g_is_name : PySem.W.nsIn K mainGlobals "is_name" = some (some (.ref f_is_name)))
    (g_parts_of : PySem.W.nsIn K mainGlobals "parts_of" = some (some (.ref f_parts_of)))
    (g__law_draw : PySem.W.nsIn K mainGlobals "_law_draw" = some (some (.ref f__law_draw)))
    (g__law_pen : PySem.W.nsIn K mainGlobals "_law_pen" = some (some (.ref f__law_pen)))
    (g__law_pick : PySem.W.nsIn K mainGlobals "_law_pick" = some (some (.ref f__law_pick)))
    (g__law_made_late : PySem.W.nsIn K mainGlobals "_law_made_late" = some (some (.ref f__law_made_late)))
    (g__law_made_early : PySem.W.nsIn K mainGlobals "_law_made_early" = some (some (.ref f__law_made_early)))
    (g__law_kinds : PySem.W.nsIn K mainGlobals "_law_kinds" = some (some (.ref f__law_kinds)))
    (g__law_worth : PySem.W.nsIn K mainGlobals "_law_worth" = some (some (.ref f__law_worth)))
    (mE : PySem.W.findIn K (.ref CE) "__init__" = some (some (.ref fE)))
    (mQ : PySem.W.findIn K (.ref CE) "__eq__" = some (some (.ref fQ)))
    (cD : PySem.W.nsIn K mainGlobals "DIGITS" = some (some (.str "0123456789" t1)))
    (cM : PySem.W.nsIn K mainGlobals "MOST_DIGITS" = some (some (.int 30 t2)))
    (cL : PySem.W.nsIn K mainGlobals "LETTERS" = some (some (.str "abcdefghijklmnopqrstuvwxyz" t3)))
    (cN : PySem.W.nsIn K mainGlobals "LONGEST_NAME" = some (some (.int 12 t4)))
    (cK : PySem.W.nsIn K mainGlobals "KINDS" = some (some (.ref aK)))
    (oK : K.lookup aK = some ⟨.type "tuple", kod, .seq #[.str "day" k1, .str "float" k2, .str "zoned" k3, .str "fixed" k4] kn, ksl⟩)
    (N : NoneK K)
    (ul : FunK K "law" "law" s_law f_law)
    (u_number_of : FunK K "number_of" "number_of" s_number_of f_number_of)
    (u_is_name : FunK K "is_name" "is_name" s_is_name f_is_name)
    (u_parts_of : FunK K "parts_of" "parts_of" s_parts_of f_parts_of)
    (u__law_draw : FunK K "_law_draw" "_law_draw" s__law_draw f__law_draw)
    (u__law_pen : FunK K "_law_pen" "_law_pen" s__law_pen f__law_pen)
    (u__law_pick : FunK K "_law_pick" "_law_pick" s__law_pick f__law_pick)
    (u__law_made_late : FunK K "_law_made_late" "_law_made_late" s__law_made_late f__law_made_late)
    (u__law_made_early : FunK K "_law_made_early" "_law_made_early" s__law_made_early f__law_made_early)
    (u__law_kinds : FunK K "_law_kinds" "_law_kinds" s__law_kinds f__law_kinds)
    (u__law_worth : FunK K "_law_worth" "_law_worth" s__law_worth f__law_worth)
    (uE : FunK K "__init__" "Entry.__init__" s_Entry___init__ fE)
    (uQ : FunK K "__eq__" "Entry.__eq__" s_Entry___eq__ fQ)
    (iE : PySem.W.makesIn K CE = true ∧ PySem.W.isFn K (.ref fE) = true ∧ PySem.W.keepIn K (.ref CE) = true)
    (kE : IsC K CE)
    (kT : IsC K CT)
    (nE : NoE K CE)
    (nT : NoE K CT)
    (kTE : PySem.W.kitOne K (.ref CT) (.ref CE) = some true)
    (O : EQ0 K CE fQ)
    (w1 : PySem.W.isClsIn K CW = true)
    (w2 : PySem.W.typeIn K (.ref CW) = some (.type "type"))
    (nd : (CW :: [c0, c1, c2, c3, c4, c5, c6, c7, c8, c9, c10, c11, c12, c13, c14, c15, c16, c17, c18, c19, c20, c21, c22]).Nodup)
    (o0 : OneK K CW c0)
    (xf0 : XfC K c0)
    (xn0 : PySem.W.findIn K (.ref c0) "line" = some none)
    (ts0 : mg "super" = none → PySem.SupX.SupTxt K mg l.prog "line" c0 g0)
    (o1 : OneK K CW c1)
    (xf1 : XfC K c1)
    (xn1 : PySem.W.findIn K (.ref c1) "name" = some none)
    (ts1 : mg "super" = none → PySem.SupX.SupTxt K mg l.prog "name" c1 g1)
    (o2 : OneK K CW c2)
    (xf2 : XfC K c2)
    (xn2 : PySem.W.findIn K (.ref c2) "name" = some none)
    (ts2 : mg "super" = none → PySem.SupX.SupTxt K mg l.prog "name" c2 g2)
    (o3 : OneK K CW c3)
    (xf3 : XfC K c3)
    (xn3 : PySem.W.findIn K (.ref c3) "name" = some none)
    (ts3 : mg "super" = none → PySem.SupX.SupTxt K mg l.prog "name" c3 g3)
    (o4 : OneK K CW c4)
    (xf4 : XfC K c4)
    (xn4 : PySem.W.findIn K (.ref c4) "index" = some none)
    (ts4 : mg "super" = none → PySem.SupX.SupTxt K mg l.prog "index" c4 g4)
    (o5 : OneK K CW c5)
    (xf5 : XfC K c5)
    (xn5 : PySem.W.findIn K (.ref c5) "index" = some none)
    (ts5 : mg "super" = none → PySem.SupX.SupTxt K mg l.prog "index" c5 g5)
    (o6 : OneK K CW c6)
    (xf6 : XfC K c6)
    (xn6 : PySem.W.findIn K (.ref c6) "number" = some none)
    (ts6 : mg "super" = none → PySem.SupX.SupTxt K mg l.prog "number" c6 g6)
    (o7 : OneK K CW c7)
    (xf7 : XfC K c7)
    (xn7 : PySem.W.findIn K (.ref c7) "most" = some none)
    (ts7 : mg "super" = none → PySem.SupX.SupTxt K mg l.prog "most" c7 g7)
    (o8 : OneK K CW c8)
    (xf8 : XfC K c8)
    (xn8 : PySem.W.findIn K (.ref c8) "kind" = some none)
    (ts8 : mg "super" = none → PySem.SupX.SupTxt K mg l.prog "kind" c8 g8)
    (o9 : OneK K CW c9)
    (xf9 : XfC K c9)
    (xn9 : PySem.W.findIn K (.ref c9) "rule" = some none)
    (ts9 : mg "super" = none → PySem.SupX.SupTxt K mg l.prog "rule" c9 g9)
    (o10 : OneK K CW c10)
    (xf10 : XfC K c10)
    (xn10 : PySem.W.findIn K (.ref c10) "offsets" = some none)
    (ts10 : mg "super" = none → PySem.SupX.SupTxt K mg l.prog "offsets" c10 g10)
    (o11 : OneK K CW c11)
    (xf11 : XfC K c11)
    (xn11 : PySem.W.findIn K (.ref c11) "program" = some none)
    (ts11 : mg "super" = none → PySem.SupX.SupTxt K mg l.prog "program" c11 g11)
    (o12 : OneK K CW c12)
    (xf12 : XfC K c12)
    (xn12 : PySem.W.findIn K (.ref c12) "index" = some none)
    (ts12 : mg "super" = none → PySem.SupX.SupTxt K mg l.prog "index" c12 g12)
    (o13 : OneK K CW c13)
    (xf13 : XfC K c13)
    (xn13 : PySem.W.findIn K (.ref c13) "index" = some none)
    (ts13 : mg "super" = none → PySem.SupX.SupTxt K mg l.prog "index" c13 g13)
    (o14 : OneK K CW c14)
    (xf14 : XfC K c14)
    (xn14 : PySem.W.findIn K (.ref c14) "index" = some none)
    (ts14 : mg "super" = none → PySem.SupX.SupTxt K mg l.prog "index" c14 g14)
    (o15 : OneK K CW c15)
    (xf15 : XfC K c15)
    (xn15 : PySem.W.findIn K (.ref c15) "looks" = some none)
    (ts15 : mg "super" = none → PySem.SupX.SupTxt K mg l.prog "looks" c15 g15)
    (o16 : OneK K CW c16)
    (xf16 : XfC K c16)
    (xn16 : PySem.W.findIn K (.ref c16) "entry" = some none)
    (ts16 : mg "super" = none → PySem.SupX.SupTxt K mg l.prog "entry" c16 g16)
    (o17 : OneK K CW c17)
    (xf17 : XfC K c17)
    (xn17 : PySem.W.findIn K (.ref c17) "names" = some none)
    (ts17 : mg "super" = none → PySem.SupX.SupTxt K mg l.prog "names" c17 g17)
    (o18 : OneK K CW c18)
    (xf18 : XfC K c18)
    (xn18 : PySem.W.findIn K (.ref c18) "name" = some none)
    (ts18 : mg "super" = none → PySem.SupX.SupTxt K mg l.prog "name" c18 g18)
    (o19 : OneK K CW c19)
    (xf19 : XfC K c19)
    (xn19 : PySem.W.findIn K (.ref c19) "index" = some none)
    (ts19 : mg "super" = none → PySem.SupX.SupTxt K mg l.prog "index" c19 g19)
    (o20 : OneK K CW c20)
    (ts20 : mg "super" = none → PySem.SupX.NilTxt K mg l.prog c20 g20)
    (o21 : OneK K CW c21)
    (ts21 : mg "super" = none → PySem.SupX.NilTxt K mg l.prog c21 g21)
    (o22 : OneK K CW c22)
    (ts22 : mg "super" = none → PySem.SupX.NilTxt K mg l.prog c22 g22)
    : ∃ fd : FuncData, (∀ (s : Shared) (v : Value), BindsTo s fd ⟨[v], []⟩ [("_law_script", v)]) ∧ ∀ base : Heap, K.In base → base.Ns mainGlobals mg → FnOk l.prog w K mg base CX0 6 fa fd ["_law_script"] (spLaw K) := by
  have e := hfa.symm.trans (PySem.W.mg_of X G gl)
  cases e
  have T : TB mg := ⟨PySem.W.mg_none_of X G N.nint, PySem.W.mg_none_of X G N.nlen, PySem.W.mg_none_of X G N.nall, PySem.W.mg_none_of X G N.nisinstance, PySem.W.mg_none_of X G N.nstr, PySem.W.mg_none_of X G N.nlist, PySem.W.mg_none_of X G N.nrange, PySem.W.mg_none_of X G N.nany, PySem.W.mg_none_of X G N.nabs, PySem.W.mg_none_of X G N.nsorted, PySem.W.mg_none_of X G N.nbool⟩
  have hsup := PySem.W.mg_none_of X G N.nsuper
  have C : EC K mg CE CT := ⟨PySem.W.mg_of X G pE, PySem.W.mg_of X G pT, kE, kT, nE, nT, kTE⟩
  have X1 : XS K mg l.prog c0 c1 c2 c3 c4 c5 c6 c7 c8 c9 c10 c11 c12 c13 c14 c15 c16 c17 c18 c19 c20 c21 c22 := ⟨⟨⟨_, ts0 hsup⟩, PySem.W.mg_of X G p0, xf0, xn0⟩, ⟨⟨_, ts1 hsup⟩, PySem.W.mg_of X G p1, xf1, xn1⟩, ⟨⟨_, ts2 hsup⟩, PySem.W.mg_of X G p2, xf2, xn2⟩, ⟨⟨_, ts3 hsup⟩, PySem.W.mg_of X G p3, xf3, xn3⟩, ⟨⟨_, ts4 hsup⟩, PySem.W.mg_of X G p4, xf4, xn4⟩, ⟨⟨_, ts5 hsup⟩, PySem.W.mg_of X G p5, xf5, xn5⟩, ⟨⟨_, ts6 hsup⟩, PySem.W.mg_of X G p6, xf6, xn6⟩, ⟨⟨_, ts7 hsup⟩, PySem.W.mg_of X G p7, xf7, xn7⟩, ⟨⟨_, ts8 hsup⟩, PySem.W.mg_of X G p8, xf8, xn8⟩, ⟨⟨_, ts9 hsup⟩, PySem.W.mg_of X G p9, xf9, xn9⟩, ⟨⟨_, ts10 hsup⟩, PySem.W.mg_of X G p10, xf10, xn10⟩, ⟨⟨_, ts11 hsup⟩, PySem.W.mg_of X G p11, xf11, xn11⟩, ⟨⟨_, ts12 hsup⟩, PySem.W.mg_of X G p12, xf12, xn12⟩, ⟨⟨_, ts13 hsup⟩, PySem.W.mg_of X G p13, xf13, xn13⟩, ⟨⟨_, ts14 hsup⟩, PySem.W.mg_of X G p14, xf14, xn14⟩, ⟨⟨_, ts15 hsup⟩, PySem.W.mg_of X G p15, xf15, xn15⟩, ⟨⟨_, ts16 hsup⟩, PySem.W.mg_of X G p16, xf16, xn16⟩, ⟨⟨_, ts17 hsup⟩, PySem.W.mg_of X G p17, xf17, xn17⟩, ⟨⟨_, ts18 hsup⟩, PySem.W.mg_of X G p18, xf18, xn18⟩, ⟨⟨_, ts19 hsup⟩, PySem.W.mg_of X G p19, xf19, xn19⟩, ⟨⟨_, ts20 hsup⟩, PySem.W.mg_of X G p20⟩, ⟨⟨_, ts21 hsup⟩, PySem.W.mg_of X G p21⟩, ⟨⟨_, ts22 hsup⟩, PySem.W.mg_of X G p22⟩⟩
  have all1 : ∀ C ∈ [c0, c1, c2, c3, c4, c5, c6, c7, c8, c9, c10, c11, c12, c13, c14, c15, c16, c17, c18, c19, c20, c21, c22], OneK K CW C := by
    intro C hC
    simp only [List.mem_cons, List.not_mem_nil, or_false] at hC
    rcases hC with rfl | rfl | rfl | rfl | rfl | rfl | rfl | rfl | rfl | rfl | rfl | rfl | rfl | rfl | rfl | rfl | rfl | rfl | rfl | rfl | rfl | rfl | rfl
    · exact o0
    · exact o1
    · exact o2
    · exact o3
    · exact o4
    · exact o5
    · exact o6
    · exact o7
    · exact o8
    · exact o9
    · exact o10
    · exact o11
    · exact o12
    · exact o13
    · exact o14
    · exact o15
    · exact o16
    · exact o17
    · exact o18
    · exact o19
    · exact o20
    · exact o21
    · exact o22
  have KA := kit_all all1 nd
  have BL := below_all all1 nd w1 w2
  have hDIG : ∃ t, mg "DIGITS" = some (.str "0123456789" t) := ⟨_, PySem.W.mg_of X G cD⟩
  have hMOST : ∃ t, mg "MOST_DIGITS" = some (.int 30 t) := ⟨_, PySem.W.mg_of X G cM⟩
  have hLET : ∃ t, mg "LETTERS" = some (.str "abcdefghijklmnopqrstuvwxyz" t) := ⟨_, PySem.W.mg_of X G cL⟩
  have hLONG : ∃ t, mg "LONGEST_NAME" = some (.int 12 t) := ⟨_, PySem.W.mg_of X G cN⟩
  have hKIND : ∃ a, mg "KINDS" = some (.ref a) ∧ ∀ H, SqT K H a [.str "day", .str "float", .str "zoned", .str "fixed"] := ⟨_, PySem.W.mg_of X G cK, kinds_at oK⟩
  have ME : Mk K CE fE := ⟨iE.1, mE, iE.2.1, iE.2.2⟩
  obtain ⟨_, _, _, _, _, _, _, _, _, lx, cx, kx⟩ := u_number_of
  have F_number_of := fun_mk (st := s_number_of) lx cx kx
  have b_number_of := F_number_of.binds (ps := ["text"]) fun _ _ _ _ _ _ us hl => match us, hl with | [_], _ => rfl
  obtain ⟨_, _, _, _, _, _, _, _, _, lx, cx, kx⟩ := u_is_name
  have F_is_name := fun_mk (st := s_is_name) lx cx kx
  have b_is_name := F_is_name.binds (ps := ["word"]) fun _ _ _ _ _ _ us hl => match us, hl with | [_], _ => rfl
  obtain ⟨_, _, _, _, _, _, _, _, _, lx, cx, kx⟩ := u_parts_of
  have F_parts_of := fun_mk (st := s_parts_of) lx cx kx
  have b_parts_of := F_parts_of.binds (ps := ["text"]) fun _ _ _ _ _ _ us hl => match us, hl with | [_], _ => rfl
  obtain ⟨_, _, _, _, _, _, _, _, _, lx, cx, kx⟩ := u__law_draw
  have F__law_draw := fun_mk (st := s__law_draw) lx cx kx
  have b__law_draw := F__law_draw.binds (ps := ["_law_pen_here", "_law_many"]) fun _ _ _ _ _ _ us hl => match us, hl with | [_, _], _ => rfl
  obtain ⟨_, _, _, _, _, _, _, _, _, lx, cx, kx⟩ := u__law_pen
  have F__law_pen := fun_mk (st := s__law_pen) lx cx kx
  have b__law_pen := F__law_pen.binds (ps := ["_law_script"]) fun _ _ _ _ _ _ us hl => match us, hl with | [_], _ => rfl
  obtain ⟨_, _, _, _, _, _, _, _, _, lx, cx, kx⟩ := u__law_pick
  have F__law_pick := fun_mk (st := s__law_pick) lx cx kx
  have b__law_pick := F__law_pick.binds (ps := ["_law_pen_here", "_law_some"]) fun _ _ _ _ _ _ us hl => match us, hl with | [_, _], _ => rfl
  obtain ⟨_, _, _, _, _, _, _, _, _, lx, cx, kx⟩ := u__law_made_late
  have F__law_made_late := fun_mk (st := s__law_made_late) lx cx kx
  have b__law_made_late := F__law_made_late.binds (ps := ["_law_k", "_law_worth_here"]) fun _ _ _ _ _ _ us hl => match us, hl with | [_, _], _ => rfl
  obtain ⟨_, _, _, _, _, _, _, _, _, lx, cx, kx⟩ := u__law_made_early
  have F__law_made_early := fun_mk (st := s__law_made_early) lx cx kx
  have b__law_made_early := F__law_made_early.binds (ps := ["_law_k", "_law_worth_here"]) fun _ _ _ _ _ _ us hl => match us, hl with | [_, _], _ => rfl
  obtain ⟨_, _, _, _, _, _, _, _, _, lx, cx, kx⟩ := u__law_kinds
  have F__law_kinds := fun_mk (st := s__law_kinds) lx cx kx
  have b__law_kinds := F__law_kinds.binds (ps := ["_law_e"]) fun _ _ _ _ _ _ us hl => match us, hl with | [_], _ => rfl
  obtain ⟨_, _, _, _, _, _, _, _, _, lx, cx, kx⟩ := u__law_worth
  have F__law_worth := fun_mk (st := s__law_worth) lx cx kx
  have b__law_worth := F__law_worth.binds (ps := ["_law_pen_here", "_law_k"]) fun _ _ _ _ _ _ us hl => match us, hl with | [_, _], _ => rfl
  obtain ⟨_, _, _, _, _, _, _, _, _, lx, cx, kx⟩ := uE
  have FE := fun_mk (st := s_Entry___init__) lx cx kx
  have bE := FE.binds (ps := ["self", "text"]) fun _ _ _ _ _ _ us hl => match us, hl with | [_, _], _ => rfl
  obtain ⟨_, _, _, _, _, _, _, _, _, lx, cx, kx⟩ := uQ
  have FQ := fun_mk (st := s_Entry___eq__) lx cx kx
  have bQ := FQ.binds (ps := ["self", "other"]) fun _ _ _ _ _ _ us hl => match us, hl with | [_, _], _ => rfl
  obtain ⟨oc, od, kV, dc, pm, an, cd, ct, sl, lx, cx, kx⟩ := ul
  have Fl := fun_mk (st := s_law) lx cx kx
  refine ⟨PySem.W.fnOf "law" "law" (defArgs s_law) (defBody s_law) (defScope s_law) .none kV dc pm an cd ct, fun s v => .of_eq rfl, fun base _ _ => ?_⟩
  have c_number_of : Cal l.prog w K mg base 1 "number_of" ["text"] spNum := ⟨_, _, ok_number_of F_number_of T hDIG hMOST, PySem.W.mg_of X G g_number_of, F_number_of.kp, b_number_of⟩
  have c_is_name : Cal l.prog w K mg base 1 "is_name" ["word"] (spIsName K) := ⟨_, _, ok_is_name F_is_name T hLET hLONG, PySem.W.mg_of X G g_is_name, F_is_name.kp, b_is_name⟩
  have c_parts_of : Cal l.prog w K mg base 2 "parts_of" ["text"] spParts := ⟨_, _, ok_parts_of F_parts_of T c_number_of c_is_name hKIND, PySem.W.mg_of X G g_parts_of, F_parts_of.kp, b_parts_of⟩
  have GE := ok_EInit (P := l.prog) (w := w) (base := base) FE T c_parts_of (ts0 hsup) (PySem.W.mg_of X G p0)
  have GQ := ok_Eq (P := l.prog) (w := w) (base := base) FQ T C
  have c__law_draw : Cal l.prog w K mg base 1 "_law_draw" ["_law_pen_here", "_law_many"] spDraw := ⟨_, _, ok_draw F__law_draw T, PySem.W.mg_of X G g__law_draw, F__law_draw.kp, b__law_draw⟩
  have c__law_pen : Cal l.prog w K mg base 1 "_law_pen" ["_law_script"] (spPen K) := ⟨_, _, ok_pen F__law_pen T, PySem.W.mg_of X G g__law_pen, F__law_pen.kp, b__law_pen⟩
  have c__law_pick : Cal l.prog w K mg base 2 "_law_pick" ["_law_pen_here", "_law_some"] spPick := ⟨_, _, ok_pick F__law_pick T c__law_draw, PySem.W.mg_of X G g__law_pick, F__law_pick.kp, b__law_pick⟩
  have c__law_made_late : Cal l.prog w K mg base 1 "_law_made_late" ["_law_k", "_law_worth_here"] (spLate [c0, c1, c2, c3, c4, c5, c6, c7, c8, c9, c10, c11, c12, c13, c14, c15, c16, c17, c18, c19, c20, c21, c22]) := ⟨_, _, ok_late F__law_made_late X1, PySem.W.mg_of X G g__law_made_late, F__law_made_late.kp, b__law_made_late⟩
  have c__law_made_early : Cal l.prog w K mg base 2 "_law_made_early" ["_law_k", "_law_worth_here"] (spMade [c0, c1, c2, c3, c4, c5, c6, c7, c8, c9, c10, c11, c12, c13, c14, c15, c16, c17, c18, c19, c20, c21, c22]) := ⟨_, _, ok_early F__law_made_early X1 c__law_made_late, PySem.W.mg_of X G g__law_made_early, F__law_made_early.kp, b__law_made_early⟩
  have c__law_kinds : Cal l.prog w K mg base 1 "_law_kinds" ["_law_e"] (spKinds K [c0, c1, c2, c3, c4, c5, c6, c7, c8, c9, c10, c11, c12, c13, c14, c15, c16, c17, c18, c19, c20, c21, c22]) := ⟨_, _, ok_kinds F__law_kinds T X1 KA, PySem.W.mg_of X G g__law_kinds, F__law_kinds.kp, b__law_kinds⟩
  have c__law_worth : Cal l.prog w K mg base 5 "_law_worth" ["_law_pen_here", "_law_k"] (spWorth K CE) := ⟨_, _, ok_worth F__law_worth T C ME GE bE c__law_draw c__law_pick, PySem.W.mg_of X G g__law_worth, F__law_worth.kp, b__law_worth⟩
  exact ok_law Fl T C O GQ bQ (PySem.W.mg_of X G pW) (PySem.W.mg_none_of X G N.nValueError) BL c__law_pen c__law_worth c__law_made_early c__law_kinds
theorem walk {l : PySem.W.OpenLaw} {q : Program} {loose : List Str} {XP : (Str → Option Value) → Heap → Prop} {YP : World → Heap → Prop} {d : DefRec} {K : Params → PySem.W.Frag} (hn : l.most = some 63) (hdf : d.params.defaults = [])
    (hY : ∀ (w : World) (h : Heap), YP w h → (K w.params).In h)
    (F : ∀ (w : World) (mg : Str → Option Value) (fa : Addr) (h : Heap), (K w.params).In h → h.Ns mainGlobals mg → mg d.name = some (.ref fa) →
      ∃ fd : FuncData, (∀ (s : Shared) (u : Value), BindsTo s fd ⟨[u], []⟩ [("_law_script", u)]) ∧ ∀ base : Heap, (K w.params).In base → base.Ns mainGlobals mg → FnOk l.prog w (K w.params) mg base CX0 6 fa fd ["_law_script"] (spLaw (K w.params))) :
    PySem.W.WalkO q loose XP YP l.row.toRowW d [] (fun f vs => PySem.call f vs) :=
  L2.walk_of (n := 63) (k := 6) (x := "_law_script") (CX := fun _ => CX0) (sp := fun w => spLaw (K w.params)) hn (by decide) hdf ⟨rfl, by decide, by decide⟩ hY F (fun _ _ a ns _ _ hS => ⟨a, ns, rfl, hS, fun _ => rfl⟩) fun _ _ _ _ _ z => z
end Toy

open PySem PySem.W PyProof.Rows
set_option Elab.async false
set_option maxRecDepth 100000
set_option maxHeartbeats 0
open_top hd for PySem.Challenge.rw_whoseday_k00_errors_made_from_their_fiel
theorem PySem.Challenge.cw_whoseday_k00_errors_made_from_their_fiel_holds : PySem.Challenge.rw_whoseday_k00_errors_made_from_their_fiel.Holds := by
  refine hd ?walk
  refine Toy.walk (l := PySem.Challenge.rw_whoseday_k00_errors_made_from_their_fiel) rfl rfl (fun w h Y => PySem.W.kIn_of Y) ?F
  case F =>
    intro w mg fa h KX G hmg
    refine' Toy.all_mk KX G hmg ?pE ?pT ?pW ?gl ?p0 ?i0 ?p1 ?i1 ?p2 ?i2 ?p3 ?i3 ?p4 ?i4 ?p5 ?i5 ?p6 ?i6 ?p7 ?i7 ?p8 ?i8 ?p9 ?i9 ?p10 ?i10 ?p11 ?i11 ?p12 ?i12 ?p13 ?i13 ?p14 ?i14 ?p15 ?i15 ?p16 ?i16 ?p17 ?i17 ?p18 ?i18 ?p19 ?i19 ?p20 ?i20 ?p21 ?i21 ?p22 ?i22 ?g_number_of ?g_is_name ?g_parts_of ?g__law_draw ?g__law_pen ?g__law_pick ?g__law_made_late ?g__law_made_early ?g__law_kinds ?g__law_worth ?mE ?mQ ?cD ?cM ?cL ?cN ?cK ?oK ?N ?ul ?u_number_of ?u_is_name ?u_parts_of ?u__law_draw ?u__law_pen ?u__law_pick ?u__law_made_late ?u__law_made_early ?u__law_kinds ?u__law_worth ?uE ?uQ ?iE ?kE ?kT ?nE ?nT ?kTE ?O ?w1 ?w2 ?nd ?o0 ?xf0 ?xn0 ?ts0 ?o1 ?xf1 ?xn1 ?ts1 ?o2 ?xf2 ?xn2 ?ts2 ?o3 ?xf3 ?xn3 ?ts3 ?o4 ?xf4 ?xn4 ?ts4 ?o5 ?xf5 ?xn5 ?ts5 ?o6 ?xf6 ?xn6 ?ts6 ?o7 ?xf7 ?xn7 ?ts7 ?o8 ?xf8 ?xn8 ?ts8 ?o9 ?xf9 ?xn9 ?ts9 ?o10 ?xf10 ?xn10 ?ts10 ?o11 ?xf11 ?xn11 ?ts11 ?o12 ?xf12 ?xn12 ?ts12 ?o13 ?xf13 ?xn13 ?ts13 ?o14 ?xf14 ?xn14 ?ts14 ?o15 ?xf15 ?xn15 ?ts15 ?o16 ?xf16 ?xn16 ?ts16 ?o17 ?xf17 ?xn17 ?ts17 ?o18 ?xf18 ?xn18 ?ts18 ?o19 ?xf19 ?xn19 ?ts19 ?o20 ?ts20 ?o21 ?ts21 ?o22 ?ts22
    (case pE => k_is)
    (case pT => k_is)
    (case pW => k_is)
    (case gl => k_is)
    (case p0 => k_is)
    (case i0 => k_is)
    (case p1 => k_is)
    (case i1 => k_is)
    (case p2 => k_is)
    (case i2 => k_is)
    (case p3 => k_is)
    (case i3 => k_is)
    (case p4 => k_is)
    (case i4 => k_is)
    (case p5 => k_is)
    (case i5 => k_is)
    (case p6 => k_is)
    (case i6 => k_is)
    (case p7 => k_is)
    (case i7 => k_is)
    (case p8 => k_is)
    (case i8 => k_is)
    (case p9 => k_is)
    (case i9 => k_is)
    (case p10 => k_is)
    (case i10 => k_is)
    (case p11 => k_is)
    (case i11 => k_is)
    (case p12 => k_is)
    (case i12 => k_is)
    (case p13 => k_is)
    (case i13 => k_is)
    (case p14 => k_is)
    (case i14 => k_is)
    (case p15 => k_is)
    (case i15 => k_is)
    (case p16 => k_is)
    (case i16 => k_is)
    (case p17 => k_is)
    (case i17 => k_is)
    (case p18 => k_is)
    (case i18 => k_is)
    (case p19 => k_is)
    (case i19 => k_is)
    (case p20 => k_is)
    (case i20 => k_is)
    (case p21 => k_is)
    (case i21 => k_is)
    (case p22 => k_is)
    (case i22 => k_is)
    (case g_number_of => k_is)
    (case g_is_name => k_is)
    (case g_parts_of => k_is)
    (case g__law_draw => k_is)
    (case g__law_pen => k_is)
    (case g__law_pick => k_is)
    (case g__law_made_late => k_is)
    (case g__law_made_early => k_is)
    (case g__law_kinds => k_is)
    (case g__law_worth => k_is)
    (case mE => k_is)
    (case mQ => k_is)
    (case cD => k_is)
    (case cM => k_is)
    (case cL => k_is)
    (case cN => k_is)
    (case cK => k_is)
    (case oK => k_is)
    (case N => (refine' ⟨?_, ?_, ?_, ?_, ?_, ?_, ?_, ?_, ?_, ?_, ?_, ?_, ?_⟩ <;> k_is))
    (case ul => (refine' Toy.funk ?l ?c ?k; (case l => k_is); (case c => k_is); (case k => k_is)))
    (case u_number_of => (refine' Toy.funk ?l ?c ?k; (case l => k_is); (case c => k_is); (case k => k_is)))
    (case u_is_name => (refine' Toy.funk ?l ?c ?k; (case l => k_is); (case c => k_is); (case k => k_is)))
    (case u_parts_of => (refine' Toy.funk ?l ?c ?k; (case l => k_is); (case c => k_is); (case k => k_is)))
    (case u__law_draw => (refine' Toy.funk ?l ?c ?k; (case l => k_is); (case c => k_is); (case k => k_is)))
    (case u__law_pen => (refine' Toy.funk ?l ?c ?k; (case l => k_is); (case c => k_is); (case k => k_is)))
    (case u__law_pick => (refine' Toy.funk ?l ?c ?k; (case l => k_is); (case c => k_is); (case k => k_is)))
    (case u__law_made_late => (refine' Toy.funk ?l ?c ?k; (case l => k_is); (case c => k_is); (case k => k_is)))
    (case u__law_made_early => (refine' Toy.funk ?l ?c ?k; (case l => k_is); (case c => k_is); (case k => k_is)))
    (case u__law_kinds => (refine' Toy.funk ?l ?c ?k; (case l => k_is); (case c => k_is); (case k => k_is)))
    (case u__law_worth => (refine' Toy.funk ?l ?c ?k; (case l => k_is); (case c => k_is); (case k => k_is)))
    (case uE => (refine' Toy.funk ?l ?c ?k; (case l => k_is); (case c => k_is); (case k => k_is)))
    (case uQ => (refine' Toy.funk ?l ?c ?k; (case l => k_is); (case c => k_is); (case k => k_is)))
    (case iE => (refine' ⟨?_, ?_, ?_⟩ <;> k_is))
    (case kE => (refine' ⟨⟨?_, ?_, ?_, ?_⟩, ?_, ?_, ?_, ?_⟩ <;> k_is))
    (case kT => (refine' ⟨⟨?_, ?_, ?_, ?_⟩, ?_, ?_, ?_, ?_⟩ <;> k_is))
    (case nE => (refine' ⟨?_, ?_, ?_, ?_, ?_⟩ <;> (show PySem.W.findIn _ _ _ = _; k_is)))
    (case nT => (refine' ⟨?_, ?_, ?_, ?_, ?_⟩ <;> (show PySem.W.findIn _ _ _ = _; k_is)))
    (case kTE => (refine' Toy.kitR ?za ?zb ?zc ?zd; (case za => k_is); (case zb => k_is); (case zc => rfl); (case zd => k_is)))
    (case O => (refine' ⟨?_, ?_, ?_, ?_, ?_⟩ <;> k_is))
    (case w1 => k_is)
    (case w2 => k_is)
    (case nd => decide)
    (case o0 => (refine' Toy.onek ?za ?zb ?zc ?zd; (case za => k_is); (case zb => rfl); (case zc => k_is); (case zd => (refine' ⟨?h0, ?_, ?_, ?_, ?_, ?_, ?_, ?_⟩; (case h0 => show PySem.W.isClsIn _ _ = true; k_is); all_goals k_is))))
    (case xf0 => (refine' ⟨?_, ?_, ?_, ?_⟩ <;> k_is))
    (case xn0 => k_is)
    (case ts0 => (intro hs; refine' Toy.supk ?x1 ?x2 ?x3 ?x4 ?x5 ?x6 ?x7 ?x8 ?x9 ?xa ?xb ?xc ?xd hs ?xe ?y1 ?y2 ?y3 ?y4 ?y5 ?y6 ?z1 ?z2 ?z3 ?z4 ?y7; (case x1 => k_is); (case x2 => decide +kernel); (case x3 => k_is); (case x4 => k_is); (case x5 => k_is); (case x6 => k_is); (case x7 => k_is); (case x8 => k_is); (case x9 => k_is); (case xa => k_is); (case xb => rfl); (case xc => k_is); (case xd => k_is); (case xe => rfl); (case y1 => k_is); (case y2 => k_is); (case y3 => exact ⟨_, _, _, _, _, _, _, _, _, _, _, _, _, rfl, rfl, rfl, rfl, fun _ _ _ _ _ _ _ _ _ => rfl⟩); (case y4 => k_is); (case y5 => rfl); (case y6 => rfl); (case z1 => decide); (case z2 => decide); (case z3 => decide); (case z4 => decide); (case y7 => k_is)))
    (case o1 => (refine' Toy.onek ?za ?zb ?zc ?zd; (case za => k_is); (case zb => rfl); (case zc => k_is); (case zd => (refine' ⟨?h0, ?_, ?_, ?_, ?_, ?_, ?_, ?_⟩; (case h0 => show PySem.W.isClsIn _ _ = true; k_is); all_goals k_is))))
    (case xf1 => (refine' ⟨?_, ?_, ?_, ?_⟩ <;> k_is))
    (case xn1 => k_is)
    (case ts1 => (intro hs; refine' Toy.supk ?x1 ?x2 ?x3 ?x4 ?x5 ?x6 ?x7 ?x8 ?x9 ?xa ?xb ?xc ?xd hs ?xe ?y1 ?y2 ?y3 ?y4 ?y5 ?y6 ?z1 ?z2 ?z3 ?z4 ?y7; (case x1 => k_is); (case x2 => decide +kernel); (case x3 => k_is); (case x4 => k_is); (case x5 => k_is); (case x6 => k_is); (case x7 => k_is); (case x8 => k_is); (case x9 => k_is); (case xa => k_is); (case xb => rfl); (case xc => k_is); (case xd => k_is); (case xe => rfl); (case y1 => k_is); (case y2 => k_is); (case y3 => exact ⟨_, _, _, _, _, _, _, _, _, _, _, _, _, rfl, rfl, rfl, rfl, fun _ _ _ _ _ _ _ _ _ => rfl⟩); (case y4 => k_is); (case y5 => rfl); (case y6 => rfl); (case z1 => decide); (case z2 => decide); (case z3 => decide); (case z4 => decide); (case y7 => k_is)))
    (case o2 => (refine' Toy.onek ?za ?zb ?zc ?zd; (case za => k_is); (case zb => rfl); (case zc => k_is); (case zd => (refine' ⟨?h0, ?_, ?_, ?_, ?_, ?_, ?_, ?_⟩; (case h0 => show PySem.W.isClsIn _ _ = true; k_is); all_goals k_is))))
    (case xf2 => (refine' ⟨?_, ?_, ?_, ?_⟩ <;> k_is))
    (case xn2 => k_is)
    (case ts2 => (intro hs; refine' Toy.supk ?x1 ?x2 ?x3 ?x4 ?x5 ?x6 ?x7 ?x8 ?x9 ?xa ?xb ?xc ?xd hs ?xe ?y1 ?y2 ?y3 ?y4 ?y5 ?y6 ?z1 ?z2 ?z3 ?z4 ?y7; (case x1 => k_is); (case x2 => decide +kernel); (case x3 => k_is); (case x4 => k_is); (case x5 => k_is); (case x6 => k_is); (case x7 => k_is); (case x8 => k_is); (case x9 => k_is); (case xa => k_is); (case xb => rfl); (case xc => k_is); (case xd => k_is); (case xe => rfl); (case y1 => k_is); (case y2 => k_is); (case y3 => exact ⟨_, _, _, _, _, _, _, _, _, _, _, _, _, rfl, rfl, rfl, rfl, fun _ _ _ _ _ _ _ _ _ => rfl⟩); (case y4 => k_is); (case y5 => rfl); (case y6 => rfl); (case z1 => decide); (case z2 => decide); (case z3 => decide); (case z4 => decide); (case y7 => k_is)))
    (case o3 => (refine' Toy.onek ?za ?zb ?zc ?zd; (case za => k_is); (case zb => rfl); (case zc => k_is); (case zd => (refine' ⟨?h0, ?_, ?_, ?_, ?_, ?_, ?_, ?_⟩; (case h0 => show PySem.W.isClsIn _ _ = true; k_is); all_goals k_is))))
    (case xf3 => (refine' ⟨?_, ?_, ?_, ?_⟩ <;> k_is))
    (case xn3 => k_is)
    (case ts3 => (intro hs; refine' Toy.supk ?x1 ?x2 ?x3 ?x4 ?x5 ?x6 ?x7 ?x8 ?x9 ?xa ?xb ?xc ?xd hs ?xe ?y1 ?y2 ?y3 ?y4 ?y5 ?y6 ?z1 ?z2 ?z3 ?z4 ?y7; (case x1 => k_is); (case x2 => decide +kernel); (case x3 => k_is); (case x4 => k_is); (case x5 => k_is); (case x6 => k_is); (case x7 => k_is); (case x8 => k_is); (case x9 => k_is); (case xa => k_is); (case xb => rfl); (case xc => k_is); (case xd => k_is); (case xe => rfl); (case y1 => k_is); (case y2 => k_is); (case y3 => exact ⟨_, _, _, _, _, _, _, _, _, _, _, _, _, rfl, rfl, rfl, rfl, fun _ _ _ _ _ _ _ _ _ => rfl⟩); (case y4 => k_is); (case y5 => rfl); (case y6 => rfl); (case z1 => decide); (case z2 => decide); (case z3 => decide); (case z4 => decide); (case y7 => k_is)))
    (case o4 => (refine' Toy.onek ?za ?zb ?zc ?zd; (case za => k_is); (case zb => rfl); (case zc => k_is); (case zd => (refine' ⟨?h0, ?_, ?_, ?_, ?_, ?_, ?_, ?_⟩; (case h0 => show PySem.W.isClsIn _ _ = true; k_is); all_goals k_is))))
    (case xf4 => (refine' ⟨?_, ?_, ?_, ?_⟩ <;> k_is))
    (case xn4 => k_is)
    (case ts4 => (intro hs; refine' Toy.supk ?x1 ?x2 ?x3 ?x4 ?x5 ?x6 ?x7 ?x8 ?x9 ?xa ?xb ?xc ?xd hs ?xe ?y1 ?y2 ?y3 ?y4 ?y5 ?y6 ?z1 ?z2 ?z3 ?z4 ?y7; (case x1 => k_is); (case x2 => decide +kernel); (case x3 => k_is); (case x4 => k_is); (case x5 => k_is); (case x6 => k_is); (case x7 => k_is); (case x8 => k_is); (case x9 => k_is); (case xa => k_is); (case xb => rfl); (case xc => k_is); (case xd => k_is); (case xe => rfl); (case y1 => k_is); (case y2 => k_is); (case y3 => exact ⟨_, _, _, _, _, _, _, _, _, _, _, _, _, rfl, rfl, rfl, rfl, fun _ _ _ _ _ _ _ _ _ => rfl⟩); (case y4 => k_is); (case y5 => rfl); (case y6 => rfl); (case z1 => decide); (case z2 => decide); (case z3 => decide); (case z4 => decide); (case y7 => k_is)))
    (case o5 => (refine' Toy.onek ?za ?zb ?zc ?zd; (case za => k_is); (case zb => rfl); (case zc => k_is); (case zd => (refine' ⟨?h0, ?_, ?_, ?_, ?_, ?_, ?_, ?_⟩; (case h0 => show PySem.W.isClsIn _ _ = true; k_is); all_goals k_is))))
    (case xf5 => (refine' ⟨?_, ?_, ?_, ?_⟩ <;> k_is))
    (case xn5 => k_is)
    (case ts5 => (intro hs; refine' Toy.supk ?x1 ?x2 ?x3 ?x4 ?x5 ?x6 ?x7 ?x8 ?x9 ?xa ?xb ?xc ?xd hs ?xe ?y1 ?y2 ?y3 ?y4 ?y5 ?y6 ?z1 ?z2 ?z3 ?z4 ?y7; (case x1 => k_is); (case x2 => decide +kernel); (case x3 => k_is); (case x4 => k_is); (case x5 => k_is); (case x6 => k_is); (case x7 => k_is); (case x8 => k_is); (case x9 => k_is); (case xa => k_is); (case xb => rfl); (case xc => k_is); (case xd => k_is); (case xe => rfl); (case y1 => k_is); (case y2 => k_is); (case y3 => exact ⟨_, _, _, _, _, _, _, _, _, _, _, _, _, rfl, rfl, rfl, rfl, fun _ _ _ _ _ _ _ _ _ => rfl⟩); (case y4 => k_is); (case y5 => rfl); (case y6 => rfl); (case z1 => decide); (case z2 => decide); (case z3 => decide); (case z4 => decide); (case y7 => k_is)))
    (case o6 => (refine' Toy.onek ?za ?zb ?zc ?zd; (case za => k_is); (case zb => rfl); (case zc => k_is); (case zd => (refine' ⟨?h0, ?_, ?_, ?_, ?_, ?_, ?_, ?_⟩; (case h0 => show PySem.W.isClsIn _ _ = true; k_is); all_goals k_is))))
    (case xf6 => (refine' ⟨?_, ?_, ?_, ?_⟩ <;> k_is))
    (case xn6 => k_is)
    (case ts6 => (intro hs; refine' Toy.supk ?x1 ?x2 ?x3 ?x4 ?x5 ?x6 ?x7 ?x8 ?x9 ?xa ?xb ?xc ?xd hs ?xe ?y1 ?y2 ?y3 ?y4 ?y5 ?y6 ?z1 ?z2 ?z3 ?z4 ?y7; (case x1 => k_is); (case x2 => decide +kernel); (case x3 => k_is); (case x4 => k_is); (case x5 => k_is); (case x6 => k_is); (case x7 => k_is); (case x8 => k_is); (case x9 => k_is); (case xa => k_is); (case xb => rfl); (case xc => k_is); (case xd => k_is); (case xe => rfl); (case y1 => k_is); (case y2 => k_is); (case y3 => exact ⟨_, _, _, _, _, _, _, _, _, _, _, _, _, rfl, rfl, rfl, rfl, fun _ _ _ _ _ _ _ _ _ => rfl⟩); (case y4 => k_is); (case y5 => rfl); (case y6 => rfl); (case z1 => decide); (case z2 => decide); (case z3 => decide); (case z4 => decide); (case y7 => k_is)))
    (case o7 => (refine' Toy.onek ?za ?zb ?zc ?zd; (case za => k_is); (case zb => rfl); (case zc => k_is); (case zd => (refine' ⟨?h0, ?_, ?_, ?_, ?_, ?_, ?_, ?_⟩; (case h0 => show PySem.W.isClsIn _ _ = true; k_is); all_goals k_is))))
    (case xf7 => (refine' ⟨?_, ?_, ?_, ?_⟩ <;> k_is))
    (case xn7 => k_is)
    (case ts7 => (intro hs; refine' Toy.supk ?x1 ?x2 ?x3 ?x4 ?x5 ?x6 ?x7 ?x8 ?x9 ?xa ?xb ?xc ?xd hs ?xe ?y1 ?y2 ?y3 ?y4 ?y5 ?y6 ?z1 ?z2 ?z3 ?z4 ?y7; (case x1 => k_is); (case x2 => decide +kernel); (case x3 => k_is); (case x4 => k_is); (case x5 => k_is); (case x6 => k_is); (case x7 => k_is); (case x8 => k_is); (case x9 => k_is); (case xa => k_is); (case xb => rfl); (case xc => k_is); (case xd => k_is); (case xe => rfl); (case y1 => k_is); (case y2 => k_is); (case y3 => exact ⟨_, _, _, _, _, _, _, _, _, _, _, _, _, rfl, rfl, rfl, rfl, fun _ _ _ _ _ _ _ _ _ => rfl⟩); (case y4 => k_is); (case y5 => rfl); (case y6 => rfl); (case z1 => decide); (case z2 => decide); (case z3 => decide); (case z4 => decide); (case y7 => k_is)))
    (case o8 => (refine' Toy.onek ?za ?zb ?zc ?zd; (case za => k_is); (case zb => rfl); (case zc => k_is); (case zd => (refine' ⟨?h0, ?_, ?_, ?_, ?_, ?_, ?_, ?_⟩; (case h0 => show PySem.W.isClsIn _ _ = true; k_is); all_goals k_is))))
    (case xf8 => (refine' ⟨?_, ?_, ?_, ?_⟩ <;> k_is))
    (case xn8 => k_is)
    (case ts8 => (intro hs; refine' Toy.supk ?x1 ?x2 ?x3 ?x4 ?x5 ?x6 ?x7 ?x8 ?x9 ?xa ?xb ?xc ?xd hs ?xe ?y1 ?y2 ?y3 ?y4 ?y5 ?y6 ?z1 ?z2 ?z3 ?z4 ?y7; (case x1 => k_is); (case x2 => decide +kernel); (case x3 => k_is); (case x4 => k_is); (case x5 => k_is); (case x6 => k_is); (case x7 => k_is); (case x8 => k_is); (case x9 => k_is); (case xa => k_is); (case xb => rfl); (case xc => k_is); (case xd => k_is); (case xe => rfl); (case y1 => k_is); (case y2 => k_is); (case y3 => exact ⟨_, _, _, _, _, _, _, _, _, _, _, _, _, rfl, rfl, rfl, rfl, fun _ _ _ _ _ _ _ _ _ => rfl⟩); (case y4 => k_is); (case y5 => rfl); (case y6 => rfl); (case z1 => decide); (case z2 => decide); (case z3 => decide); (case z4 => decide); (case y7 => k_is)))
    (case o9 => (refine' Toy.onek ?za ?zb ?zc ?zd; (case za => k_is); (case zb => rfl); (case zc => k_is); (case zd => (refine' ⟨?h0, ?_, ?_, ?_, ?_, ?_, ?_, ?_⟩; (case h0 => show PySem.W.isClsIn _ _ = true; k_is); all_goals k_is))))
    (case xf9 => (refine' ⟨?_, ?_, ?_, ?_⟩ <;> k_is))
    (case xn9 => k_is)
    (case ts9 => (intro hs; refine' Toy.supk ?x1 ?x2 ?x3 ?x4 ?x5 ?x6 ?x7 ?x8 ?x9 ?xa ?xb ?xc ?xd hs ?xe ?y1 ?y2 ?y3 ?y4 ?y5 ?y6 ?z1 ?z2 ?z3 ?z4 ?y7; (case x1 => k_is); (case x2 => decide +kernel); (case x3 => k_is); (case x4 => k_is); (case x5 => k_is); (case x6 => k_is); (case x7 => k_is); (case x8 => k_is); (case x9 => k_is); (case xa => k_is); (case xb => rfl); (case xc => k_is); (case xd => k_is); (case xe => rfl); (case y1 => k_is); (case y2 => k_is); (case y3 => exact ⟨_, _, _, _, _, _, _, _, _, _, _, _, _, rfl, rfl, rfl, rfl, fun _ _ _ _ _ _ _ _ _ => rfl⟩); (case y4 => k_is); (case y5 => rfl); (case y6 => rfl); (case z1 => decide); (case z2 => decide); (case z3 => decide); (case z4 => decide); (case y7 => k_is)))
    (case o10 => (refine' Toy.onek ?za ?zb ?zc ?zd; (case za => k_is); (case zb => rfl); (case zc => k_is); (case zd => (refine' ⟨?h0, ?_, ?_, ?_, ?_, ?_, ?_, ?_⟩; (case h0 => show PySem.W.isClsIn _ _ = true; k_is); all_goals k_is))))
    (case xf10 => (refine' ⟨?_, ?_, ?_, ?_⟩ <;> k_is))
    (case xn10 => k_is)
    (case ts10 => (intro hs; refine' Toy.supk ?x1 ?x2 ?x3 ?x4 ?x5 ?x6 ?x7 ?x8 ?x9 ?xa ?xb ?xc ?xd hs ?xe ?y1 ?y2 ?y3 ?y4 ?y5 ?y6 ?z1 ?z2 ?z3 ?z4 ?y7; (case x1 => k_is); (case x2 => decide +kernel); (case x3 => k_is); (case x4 => k_is); (case x5 => k_is); (case x6 => k_is); (case x7 => k_is); (case x8 => k_is); (case x9 => k_is); (case xa => k_is); (case xb => rfl); (case xc => k_is); (case xd => k_is); (case xe => rfl); (case y1 => k_is); (case y2 => k_is); (case y3 => exact ⟨_, _, _, _, _, _, _, _, _, _, _, _, _, rfl, rfl, rfl, rfl, fun _ _ _ _ _ _ _ _ _ => rfl⟩); (case y4 => k_is); (case y5 => rfl); (case y6 => rfl); (case z1 => decide); (case z2 => decide); (case z3 => decide); (case z4 => decide); (case y7 => k_is)))
    (case o11 => (refine' Toy.onek ?za ?zb ?zc ?zd; (case za => k_is); (case zb => rfl); (case zc => k_is); (case zd => (refine' ⟨?h0, ?_, ?_, ?_, ?_, ?_, ?_, ?_⟩; (case h0 => show PySem.W.isClsIn _ _ = true; k_is); all_goals k_is))))
    (case xf11 => (refine' ⟨?_, ?_, ?_, ?_⟩ <;> k_is))
    (case xn11 => k_is)
    (case ts11 => (intro hs; refine' Toy.supk ?x1 ?x2 ?x3 ?x4 ?x5 ?x6 ?x7 ?x8 ?x9 ?xa ?xb ?xc ?xd hs ?xe ?y1 ?y2 ?y3 ?y4 ?y5 ?y6 ?z1 ?z2 ?z3 ?z4 ?y7; (case x1 => k_is); (case x2 => decide +kernel); (case x3 => k_is); (case x4 => k_is); (case x5 => k_is); (case x6 => k_is); (case x7 => k_is); (case x8 => k_is); (case x9 => k_is); (case xa => k_is); (case xb => rfl); (case xc => k_is); (case xd => k_is); (case xe => rfl); (case y1 => k_is); (case y2 => k_is); (case y3 => exact ⟨_, _, _, _, _, _, _, _, _, _, _, _, _, rfl, rfl, rfl, rfl, fun _ _ _ _ _ _ _ _ _ => rfl⟩); (case y4 => k_is); (case y5 => rfl); (case y6 => rfl); (case z1 => decide); (case z2 => decide); (case z3 => decide); (case z4 => decide); (case y7 => k_is)))
    (case o12 => (refine' Toy.onek ?za ?zb ?zc ?zd; (case za => k_is); (case zb => rfl); (case zc => k_is); (case zd => (refine' ⟨?h0, ?_, ?_, ?_, ?_, ?_, ?_, ?_⟩; (case h0 => show PySem.W.isClsIn _ _ = true; k_is); all_goals k_is))))
    (case xf12 => (refine' ⟨?_, ?_, ?_, ?_⟩ <;> k_is))
    (case xn12 => k_is)
    (case ts12 => (intro hs; refine' Toy.supk ?x1 ?x2 ?x3 ?x4 ?x5 ?x6 ?x7 ?x8 ?x9 ?xa ?xb ?xc ?xd hs ?xe ?y1 ?y2 ?y3 ?y4 ?y5 ?y6 ?z1 ?z2 ?z3 ?z4 ?y7; (case x1 => k_is); (case x2 => decide +kernel); (case x3 => k_is); (case x4 => k_is); (case x5 => k_is); (case x6 => k_is); (case x7 => k_is); (case x8 => k_is); (case x9 => k_is); (case xa => k_is); (case xb => rfl); (case xc => k_is); (case xd => k_is); (case xe => rfl); (case y1 => k_is); (case y2 => k_is); (case y3 => exact ⟨_, _, _, _, _, _, _, _, _, _, _, _, _, rfl, rfl, rfl, rfl, fun _ _ _ _ _ _ _ _ _ => rfl⟩); (case y4 => k_is); (case y5 => rfl); (case y6 => rfl); (case z1 => decide); (case z2 => decide); (case z3 => decide); (case z4 => decide); (case y7 => k_is)))
    (case o13 => (refine' Toy.onek ?za ?zb ?zc ?zd; (case za => k_is); (case zb => rfl); (case zc => k_is); (case zd => (refine' ⟨?h0, ?_, ?_, ?_, ?_, ?_, ?_, ?_⟩; (case h0 => show PySem.W.isClsIn _ _ = true; k_is); all_goals k_is))))
    (case xf13 => (refine' ⟨?_, ?_, ?_, ?_⟩ <;> k_is))
    (case xn13 => k_is)
    (case ts13 => (intro hs; refine' Toy.supk ?x1 ?x2 ?x3 ?x4 ?x5 ?x6 ?x7 ?x8 ?x9 ?xa ?xb ?xc ?xd hs ?xe ?y1 ?y2 ?y3 ?y4 ?y5 ?y6 ?z1 ?z2 ?z3 ?z4 ?y7; (case x1 => k_is); (case x2 => decide +kernel); (case x3 => k_is); (case x4 => k_is); (case x5 => k_is); (case x6 => k_is); (case x7 => k_is); (case x8 => k_is); (case x9 => k_is); (case xa => k_is); (case xb => rfl); (case xc => k_is); (case xd => k_is); (case xe => rfl); (case y1 => k_is); (case y2 => k_is); (case y3 => exact ⟨_, _, _, _, _, _, _, _, _, _, _, _, _, rfl, rfl, rfl, rfl, fun _ _ _ _ _ _ _ _ _ => rfl⟩); (case y4 => k_is); (case y5 => rfl); (case y6 => rfl); (case z1 => decide); (case z2 => decide); (case z3 => decide); (case z4 => decide); (case y7 => k_is)))
    (case o14 => (refine' Toy.onek ?za ?zb ?zc ?zd; (case za => k_is); (case zb => rfl); (case zc => k_is); (case zd => (refine' ⟨?h0, ?_, ?_, ?_, ?_, ?_, ?_, ?_⟩; (case h0 => show PySem.W.isClsIn _ _ = true; k_is); all_goals k_is))))
    (case xf14 => (refine' ⟨?_, ?_, ?_, ?_⟩ <;> k_is))
    (case xn14 => k_is)
    (case ts14 => (intro hs; refine' Toy.supk ?x1 ?x2 ?x3 ?x4 ?x5 ?x6 ?x7 ?x8 ?x9 ?xa ?xb ?xc ?xd hs ?xe ?y1 ?y2 ?y3 ?y4 ?y5 ?y6 ?z1 ?z2 ?z3 ?z4 ?y7; (case x1 => k_is); (case x2 => decide +kernel); (case x3 => k_is); (case x4 => k_is); (case x5 => k_is); (case x6 => k_is); (case x7 => k_is); (case x8 => k_is); (case x9 => k_is); (case xa => k_is); (case xb => rfl); (case xc => k_is); (case xd => k_is); (case xe => rfl); (case y1 => k_is); (case y2 => k_is); (case y3 => exact ⟨_, _, _, _, _, _, _, _, _, _, _, _, _, rfl, rfl, rfl, rfl, fun _ _ _ _ _ _ _ _ _ => rfl⟩); (case y4 => k_is); (case y5 => rfl); (case y6 => rfl); (case z1 => decide); (case z2 => decide); (case z3 => decide); (case z4 => decide); (case y7 => k_is)))
    (case o15 => (refine' Toy.onek ?za ?zb ?zc ?zd; (case za => k_is); (case zb => rfl); (case zc => k_is); (case zd => (refine' ⟨?h0, ?_, ?_, ?_, ?_, ?_, ?_, ?_⟩; (case h0 => show PySem.W.isClsIn _ _ = true; k_is); all_goals k_is))))
    (case xf15 => (refine' ⟨?_, ?_, ?_, ?_⟩ <;> k_is))
    (case xn15 => k_is)
    (case ts15 => (intro hs; refine' Toy.supk ?x1 ?x2 ?x3 ?x4 ?x5 ?x6 ?x7 ?x8 ?x9 ?xa ?xb ?xc ?xd hs ?xe ?y1 ?y2 ?y3 ?y4 ?y5 ?y6 ?z1 ?z2 ?z3 ?z4 ?y7; (case x1 => k_is); (case x2 => decide +kernel); (case x3 => k_is); (case x4 => k_is); (case x5 => k_is); (case x6 => k_is); (case x7 => k_is); (case x8 => k_is); (case x9 => k_is); (case xa => k_is); (case xb => rfl); (case xc => k_is); (case xd => k_is); (case xe => rfl); (case y1 => k_is); (case y2 => k_is); (case y3 => exact ⟨_, _, _, _, _, _, _, _, _, _, _, _, _, rfl, rfl, rfl, rfl, fun _ _ _ _ _ _ _ _ _ => rfl⟩); (case y4 => k_is); (case y5 => rfl); (case y6 => rfl); (case z1 => decide); (case z2 => decide); (case z3 => decide); (case z4 => decide); (case y7 => k_is)))
    (case o16 => (refine' Toy.onek ?za ?zb ?zc ?zd; (case za => k_is); (case zb => rfl); (case zc => k_is); (case zd => (refine' ⟨?h0, ?_, ?_, ?_, ?_, ?_, ?_, ?_⟩; (case h0 => show PySem.W.isClsIn _ _ = true; k_is); all_goals k_is))))
    (case xf16 => (refine' ⟨?_, ?_, ?_, ?_⟩ <;> k_is))
    (case xn16 => k_is)
    (case ts16 => (intro hs; refine' Toy.supk ?x1 ?x2 ?x3 ?x4 ?x5 ?x6 ?x7 ?x8 ?x9 ?xa ?xb ?xc ?xd hs ?xe ?y1 ?y2 ?y3 ?y4 ?y5 ?y6 ?z1 ?z2 ?z3 ?z4 ?y7; (case x1 => k_is); (case x2 => decide +kernel); (case x3 => k_is); (case x4 => k_is); (case x5 => k_is); (case x6 => k_is); (case x7 => k_is); (case x8 => k_is); (case x9 => k_is); (case xa => k_is); (case xb => rfl); (case xc => k_is); (case xd => k_is); (case xe => rfl); (case y1 => k_is); (case y2 => k_is); (case y3 => exact ⟨_, _, _, _, _, _, _, _, _, _, _, _, _, rfl, rfl, rfl, rfl, fun _ _ _ _ _ _ _ _ _ => rfl⟩); (case y4 => k_is); (case y5 => rfl); (case y6 => rfl); (case z1 => decide); (case z2 => decide); (case z3 => decide); (case z4 => decide); (case y7 => k_is)))
    (case o17 => (refine' Toy.onek ?za ?zb ?zc ?zd; (case za => k_is); (case zb => rfl); (case zc => k_is); (case zd => (refine' ⟨?h0, ?_, ?_, ?_, ?_, ?_, ?_, ?_⟩; (case h0 => show PySem.W.isClsIn _ _ = true; k_is); all_goals k_is))))
    (case xf17 => (refine' ⟨?_, ?_, ?_, ?_⟩ <;> k_is))
    (case xn17 => k_is)
    (case ts17 => (intro hs; refine' Toy.supk ?x1 ?x2 ?x3 ?x4 ?x5 ?x6 ?x7 ?x8 ?x9 ?xa ?xb ?xc ?xd hs ?xe ?y1 ?y2 ?y3 ?y4 ?y5 ?y6 ?z1 ?z2 ?z3 ?z4 ?y7; (case x1 => k_is); (case x2 => decide +kernel); (case x3 => k_is); (case x4 => k_is); (case x5 => k_is); (case x6 => k_is); (case x7 => k_is); (case x8 => k_is); (case x9 => k_is); (case xa => k_is); (case xb => rfl); (case xc => k_is); (case xd => k_is); (case xe => rfl); (case y1 => k_is); (case y2 => k_is); (case y3 => exact ⟨_, _, _, _, _, _, _, _, _, _, _, _, _, rfl, rfl, rfl, rfl, fun _ _ _ _ _ _ _ _ _ => rfl⟩); (case y4 => k_is); (case y5 => rfl); (case y6 => rfl); (case z1 => decide); (case z2 => decide); (case z3 => decide); (case z4 => decide); (case y7 => k_is)))
    (case o18 => (refine' Toy.onek ?za ?zb ?zc ?zd; (case za => k_is); (case zb => rfl); (case zc => k_is); (case zd => (refine' ⟨?h0, ?_, ?_, ?_, ?_, ?_, ?_, ?_⟩; (case h0 => show PySem.W.isClsIn _ _ = true; k_is); all_goals k_is))))
    (case xf18 => (refine' ⟨?_, ?_, ?_, ?_⟩ <;> k_is))
    (case xn18 => k_is)
    (case ts18 => (intro hs; refine' Toy.supk ?x1 ?x2 ?x3 ?x4 ?x5 ?x6 ?x7 ?x8 ?x9 ?xa ?xb ?xc ?xd hs ?xe ?y1 ?y2 ?y3 ?y4 ?y5 ?y6 ?z1 ?z2 ?z3 ?z4 ?y7; (case x1 => k_is); (case x2 => decide +kernel); (case x3 => k_is); (case x4 => k_is); (case x5 => k_is); (case x6 => k_is); (case x7 => k_is); (case x8 => k_is); (case x9 => k_is); (case xa => k_is); (case xb => rfl); (case xc => k_is); (case xd => k_is); (case xe => rfl); (case y1 => k_is); (case y2 => k_is); (case y3 => exact ⟨_, _, _, _, _, _, _, _, _, _, _, _, _, rfl, rfl, rfl, rfl, fun _ _ _ _ _ _ _ _ _ => rfl⟩); (case y4 => k_is); (case y5 => rfl); (case y6 => rfl); (case z1 => decide); (case z2 => decide); (case z3 => decide); (case z4 => decide); (case y7 => k_is)))
    (case o19 => (refine' Toy.onek ?za ?zb ?zc ?zd; (case za => k_is); (case zb => rfl); (case zc => k_is); (case zd => (refine' ⟨?h0, ?_, ?_, ?_, ?_, ?_, ?_, ?_⟩; (case h0 => show PySem.W.isClsIn _ _ = true; k_is); all_goals k_is))))
    (case xf19 => (refine' ⟨?_, ?_, ?_, ?_⟩ <;> k_is))
    (case xn19 => k_is)
    (case ts19 => (intro hs; refine' Toy.supk ?x1 ?x2 ?x3 ?x4 ?x5 ?x6 ?x7 ?x8 ?x9 ?xa ?xb ?xc ?xd hs ?xe ?y1 ?y2 ?y3 ?y4 ?y5 ?y6 ?z1 ?z2 ?z3 ?z4 ?y7; (case x1 => k_is); (case x2 => decide +kernel); (case x3 => k_is); (case x4 => k_is); (case x5 => k_is); (case x6 => k_is); (case x7 => k_is); (case x8 => k_is); (case x9 => k_is); (case xa => k_is); (case xb => rfl); (case xc => k_is); (case xd => k_is); (case xe => rfl); (case y1 => k_is); (case y2 => k_is); (case y3 => exact ⟨_, _, _, _, _, _, _, _, _, _, _, _, _, rfl, rfl, rfl, rfl, fun _ _ _ _ _ _ _ _ _ => rfl⟩); (case y4 => k_is); (case y5 => rfl); (case y6 => rfl); (case z1 => decide); (case z2 => decide); (case z3 => decide); (case z4 => decide); (case y7 => k_is)))
    (case o20 => (refine' Toy.onek ?za ?zb ?zc ?zd; (case za => k_is); (case zb => rfl); (case zc => k_is); (case zd => (refine' ⟨?h0, ?_, ?_, ?_, ?_, ?_, ?_, ?_⟩; (case h0 => show PySem.W.isClsIn _ _ = true; k_is); all_goals k_is))))
    (case ts20 => (intro hs; refine' Toy.nilk ?x1 ?x2 ?x5 ?x6 ?x7 ?x9 ?xb ?xc ?xd hs ?xe ?y1 ?y2 ?y3 ?y4 ?y5 ?y6 ?y7; (case x1 => k_is); (case x2 => decide +kernel); (case x5 => k_is); (case x6 => k_is); (case x7 => k_is); (case x9 => k_is); (case xb => rfl); (case xc => k_is); (case xd => k_is); (case xe => rfl); (case y1 => k_is); (case y2 => k_is); (case y3 => exact ⟨_, _, _, _, _, _, _, _, rfl, rfl, rfl, rfl, fun _ _ _ _ _ _ _ _ => rfl⟩); (case y4 => k_is); (case y5 => rfl); (case y6 => rfl); (case y7 => k_is)))
    (case o21 => (refine' Toy.onek ?za ?zb ?zc ?zd; (case za => k_is); (case zb => rfl); (case zc => k_is); (case zd => (refine' ⟨?h0, ?_, ?_, ?_, ?_, ?_, ?_, ?_⟩; (case h0 => show PySem.W.isClsIn _ _ = true; k_is); all_goals k_is))))
    (case ts21 => (intro hs; refine' Toy.nilk ?x1 ?x2 ?x5 ?x6 ?x7 ?x9 ?xb ?xc ?xd hs ?xe ?y1 ?y2 ?y3 ?y4 ?y5 ?y6 ?y7; (case x1 => k_is); (case x2 => decide +kernel); (case x5 => k_is); (case x6 => k_is); (case x7 => k_is); (case x9 => k_is); (case xb => rfl); (case xc => k_is); (case xd => k_is); (case xe => rfl); (case y1 => k_is); (case y2 => k_is); (case y3 => exact ⟨_, _, _, _, _, _, _, _, rfl, rfl, rfl, rfl, fun _ _ _ _ _ _ _ _ => rfl⟩); (case y4 => k_is); (case y5 => rfl); (case y6 => rfl); (case y7 => k_is)))
    (case o22 => (refine' Toy.onek ?za ?zb ?zc ?zd; (case za => k_is); (case zb => rfl); (case zc => k_is); (case zd => (refine' ⟨?h0, ?_, ?_, ?_, ?_, ?_, ?_, ?_⟩; (case h0 => show PySem.W.isClsIn _ _ = true; k_is); all_goals k_is))))
    (case ts22 => (intro hs; refine' Toy.nilk ?x1 ?x2 ?x5 ?x6 ?x7 ?x9 ?xb ?xc ?xd hs ?xe ?y1 ?y2 ?y3 ?y4 ?y5 ?y6 ?y7; (case x1 => k_is); (case x2 => decide +kernel); (case x5 => k_is); (case x6 => k_is); (case x7 => k_is); (case x9 => k_is); (case xb => rfl); (case xc => k_is); (case xd => k_is); (case xe => rfl); (case y1 => k_is); (case y2 => k_is); (case y3 => exact ⟨_, _, _, _, _, _, _, _, rfl, rfl, rfl, rfl, fun _ _ _ _ _ _ _ _ => rfl⟩); (case y4 => k_is); (case y5 => rfl); (case y6 => rfl); (case y7 => k_is)))
#print axioms PySem.Challenge.cw_whoseday_k00_errors_made_from_their_fiel_holds

