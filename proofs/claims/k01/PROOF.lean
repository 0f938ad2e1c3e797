import PyProof.Rows.All
import Wide.All
import OpenK.AllK
import Wide.FinOn
import KE.KExcSuper
import HandS.Base
import HandS.Call
import HandS.Exc
import HandS.ExcInit
import HandS.ExcSuper
import KE.KExcIs
import HandS.ExcValue
import HandS.ExcField
import KE.KOpsOwn
import HandS.ForMost
import HandS.SlotsOwn
import HandS.IsInst
import HandS.Evl
import HandS.Walk
import HandS.SortInts
import HandS.Strs
import HandS.TryMany
import HandS.ExcOwn
import HandS.Words
import HandS.FStr
import PySem.Challenge.RW_whoseday_k01_entries_are_read
import HandS.ForExc
import HandS.TryOnly
import HandS.ExcIs
set_option Elab.async false
set_option linter.all false
set_option maxRecDepth 100000
set_option maxHeartbeats 4000000
/-! An own exception (over own classes over ValueError) whose __init__ says super().__init__('..') and stores one field. -/
namespace PySem
namespace SupX
open PySem.W PySem.Calls PyProof.Rows PySem.HandSPX
/-- the parameters, the body, the names of such an __init__ -/
def iA (fld : Str) (p1 p2 : Pos) : Arguments := { posonlyargs := [], args := [{ arg := "self", annotation := none, pos := p1 }, { arg := fld, annotation := none, pos := p2 }], vararg := none, kwonlyargs := [], kw_defaults := [], kwarg := none, defaults := [] }
def iE (msg : Str) (q0 q1 q2 q3 q4 q5 : Pos) : Stmt := .Expr (.Call (.Attribute (.Call (.Name "super" q0) [] [] q1) "__init__" q2) [.Constant (.str msg) 0 q3] [] q4) q5
def iF (fld : Str) (q6 q7 q8 q9 : Pos) : Stmt := .Assign [.Attribute (.Name "self" q6) fld q7] (.Name fld q8) q9
def iS (fld : Str) : Scope := { kind := .function, names := [(PySem.Str.ofString "self", .local), (fld, .local), (PySem.Str.ofString "__class__", .free), (PySem.Str.ofString "super", .globalImplicit)], isGenerator := false, isCoroutine := false, more := [] }
/-- the statement st is such a def -/
def IsI (fld : Str) (ar : Arguments) (bd : List Stmt) (sc : Scope) : Prop := ∃ (msg : Str) (p1 p2 q0 q1 q2 q3 q4 q5 q6 q7 q8 q9 : Pos), ar = iA fld p1 p2 ∧ bd = [iE msg q0 q1 q2 q3 q4 q5, iF fld q6 q7 q8 q9] ∧ sc = iS fld ∧ (q2.endLine == q4.line) = true ∧
  ∀ (qual : Str) (doc pm ct : Value) (an : Option Addr) (cda cc : Addr) (x v : Value), bindArgs (ksFn "__init__" qual ar bd sc .none .none doc pm an (.ref cda) ct cc) ⟨[x, v], []⟩ = pure [(("self" : Str), x), (fld, v)]
/-- what the written part says of the class at C, and of its __init__, at fI -/
structure SupTxt (K : Frag) (mg : Str → Option Value) (P : Program) (fld : Str) (C fI : Addr) : Prop where
  cls : ∃ nm q N bs bm sn sub ab col dd k0 k1 k2 k3 k5, K.lookup C = some (excClassObj nm q C N bs bm true sn sub ab col dd k0 k1 k2 k3 k5 "ValueError.__new__") ∧ refsVE bm = true
  sa : findIn K (.ref C) "__setattr__" = some (some (.builtin "object.__setattr__"))
  noN : findIn K (.ref C) fld = some none
  iC : findIn K (.ref C) "__init__" = some (some (.ref fI))
  tC : typeIn K (.ref fI) = some (.type "function")
  kC : keepIn K (.ref C) = true
  exC : subIn K (.ref C) (.type "BaseException") = some true
  veC : subIn K (.ref C) (.type "ValueError") = some true
  tyC : typeIn K (.ref C) = some (.type "type")
  sup : ks_superIn K C C "__init__" = some (some (.builtin "ValueError.__init__"))
  opq : nsIn K cStatics "thirdparty.any" = some none
  own : mroIn K C (.ref C) = some true
  nos : mg "super" = none
  top : (P.main.scope.names.lookup ("super" : Str)).isSome = false
  fn : ∃ (oc : Value) (od : Option Addr) (qual : Str) (ar : Arguments) (bd : List Stmt) (sc : Scope) (doc pm : Value) (an : Option Addr) (cda cc : Addr) (ct : Value) (osl : Array (Option Value)) (ccl : Value) (cdd : Option Addr) (vs : Array Value) (ccs : Array (Option Value)) (file : Str) (tf : Tok) (cl : Value) (cld : Option Addr) (csl : Array (Option Value)),
    K.lookup fI = some ⟨oc, od, .func (ksFn "__init__" qual ar bd sc .none .none doc pm an (.ref cda) ct cc), osl⟩ ∧ codeIn K (.ref cda) qual = true ∧ IsI fld ar bd sc ∧
    K.lookup cda = some ⟨ccl, cdd, .fields vs, ccs⟩ ∧ vs[2]? = some (.str file tf) ∧ ((P.main.file : Str) == file) = true ∧ K.lookup cc = some ⟨cl, cld, .cell (some (.ref C)), csl⟩
  nsf : (fld == ("self" : Str)) = false
  ndb : (fld == ("__debug__" : Str)) = false
  nsp : (("super" : Str) == fld) = false
  ncl : (("__class__" : Str) == fld) = false
theorem one_size (v : Value) : [v].length ≤ sizeLine := by
  rw [sizeLine_eq]
  exact (by decide : 1 ≤ 16777216)
theorem two_size (v u : Value) : [v, u].length ≤ sizeLine := by
  rw [sizeLine_eq]
  exact (by decide : 2 ≤ 16777216)
/-- what __init__ leaves of a fresh exception at x -/
structure InitEnd (h h' : Heap) (x C dx t1 : Addr) (fld : Str) (v : Value) : Prop where
  keep : ∀ b o, b ≠ x → h.get? b = some o → h'.get? b = some o
  obj : h'.get? x = some { cls := .ref C, dict := some dx, data := .fields #[.ref t1, .none, .none, .none, .bool false, .none] }
  dbig : h.objs.size ≤ dx
  dne : dx ≠ x
  ns : h'.Ns1 dx (fun y => if y = fld then some v else none)
/-- a made exception -/
structure OwnMade (h h' : Heap) (e C d : Addr) (fld : Str) (v : Value) : Prop where
  keep : ∀ b o, h.get? b = some o → h'.get? b = some o
  new : h.objs.size ≤ e
  obj : ∃ t1 : Addr, h'.get? e = some { cls := .ref C, dict := some d, data := .fields #[.ref t1, .none, .none, .none, .bool false, .none] }
  dbig : h.objs.size ≤ d
  dne : d ≠ e
  ns : h'.Ns1 d (fun y => if y = fld then some v else none)
section
variable {prog : Program} {w : World} {A : Around} {E : Value → Shared → Prop} {R : Result → Shared → Prop} {s : Shared} {K : Frag} {mg mb : Str → Option Value} {C fI : Addr} {fld : Str}
/-- the built-in __init__ bound to the exception, called -/
theorem call_mw {hp : Heap} {g : Array GenState} {d : Drawn} {t : Nat} {os : OsState} {u x t0 : Addr} {nm q : Str} {N : Addr} {bs bm : List Value} {hdct : Bool} {sn : List Str} {sub : List Value} {ab : Bool} {col : Option Bool} {dd : Option Addr} {k0 k1 k2 k3 k5 : Option Value} {rest : List Value} {Q : Value → Shared → Prop}
    (hC : hp.get? C = some (excClassObj nm q C N bs bm hdct sn sub ab col dd k0 k1 k2 k3 k5 "ValueError.__new__")) (he : hp.get? x = some (excO C t0)) (hu : hp.get? u = some (kxs_mw "ValueError.__init__" x)) (hz : rest.length ≤ sizeLine)
    (hq : ∀ h' t1, (∀ b o, b ≠ x → hp.get? b = some o → h'.get? b = some o) → h'.get? x = some (excO C t1) → Q .none ⟨h', g, d, t, os⟩) :
    wpAny (model prog w) A (call (.ref u) rest) Q E ⟨hp, g, d, t, os⟩ := by
  refine wpAny_call (codeAny_of_tree ?_)
  show wpAny _ A.in1 (callAny (.ref u) ⟨rest, []⟩) _ _ _
  simp only [callAny]
  refine wpAny_bind (wpAny_load hu ?_)
  simp only [kxs_mw, show (Value.type "method-wrapper" == Value.type "method" || Value.type "method-wrapper" == Value.type "builtin_function_or_method" || Value.type "method-wrapper" == Value.type "method-wrapper") = true by decide, if_true]
  refine KFB.if_so (by decide) ?_
  refine wpAny_bind (check_bound_init F.excBase_ValueError.toExcCallFacts hC he rfl ?_)
  refine wpAny_bind (wpAny_pure (wpAny_pure ?_))
  refine ⟨plainId_quiet F.excBase_ValueError.init.plain _, codeAny_builtin F.excBase_ValueError.initEntry ?_⟩
  exact exc_init_tree (cls := .ref C) (t0 := t0) (dv := none) (c2 := .none) (c3 := .none) (b4 := .bool false) he hz fun h' k e' _ => hq h' _ k e'
theorem he_of {msg : Str} {q0 q1 q2 q3 q4 : Pos} (hln : (q2.endLine == q4.line) = true) (env : Env) : ∃ pl : Sem Bool, eval (.Call (.Attribute (.Call (.Name "super" q0) [] [] q1) "__init__" q2) [.Constant (.str msg) 0 q3] [] q4) env = (do
      let ov ← attributeBase (.Call (.Name "super" q0) [] [] q1) "__init__" env (eval (.Call (.Name "super" q0) [] [] q1) env)
      standAt q2.atName
      let (f, first) ← holding [ov] (getMethod ov "__init__" pl)
      callWith q4 f first (backTo q4 (starEach [.Constant (.str msg) 0 q3] env)) []) := by
  refine ⟨(do return (← importBound (.Call (.Name "super" q0) [] [] q1) env).getD true), ?_⟩
  rw [arm_eval_Call]
  have hpos : methodCallPos true (.Call (.Name "super" q0) [] [] q1) env q2 q4 = pure q4 := by unfold methodCallPos; simp [hln]
  have hform : methodCallForm ([Expr.Constant (.str msg) 0 q3].length + ([] : List Keyword).length) (backTo q4 (starEach [.Constant (.str msg) 0 q3] env)) (backToKw q4 (keywordEach [] env)) = true := rfl
  unfold methodCall
  rw [hform, hpos]
  simp only [pure_bind]
  rfl
theorem sup_init (T : SupTxt K mg prog fld C fI) {x t0 : Addr} {v : Value} (X : K.In s.heap) (hlim : s.heap.NoLimit) (hG : s.heap.Ns mainGlobals mg) (hB : s.heap.Ns builtinsNs mb) (hb : mb "super" = some (.type "super")) (hx : s.heap.get? x = some (excO C t0)) (hnx : K.lookup x = none) (hroom : A.depth < recursionLimit)
    (hq : ∀ h' tk dx t1, InitEnd s.heap h' x C dx t1 fld v → R (.ok (.ret .none)) { s with heap := h', toks := tk }) :
    codeAny (model prog w) A (.call (.ref fI) ⟨[.ref x, v], []⟩) R s := by
  obtain ⟨oc, od, qual, ar, bd, sc, doc, pm, an, cda, cc, ct, osl, ccl, cdd, vs, ccs, file, tf, cl, cld, csl, ho, hcd, hI, hcode, hvs, hfile, hcell⟩ := T.fn
  obtain ⟨msg, p1, p2, q0, q1, q2, q3, q4, q5, q6, q7, q8, q9, rfl, rfl, rfl, hln, hbnd⟩ := hI
  obtain ⟨nm, q, N, bs, bm, sn, sub, ab, col, dd, k0, k1, k2, k3, k5, hC, hbm⟩ := T.cls
  have nsf := T.nsf
  have ndb := T.ndb
  have nsf' : ¬ fld = ("self" : Str) := fun z => by rw [z] at nsf; exact absurd nsf (by decide)
  have nsf'' : (("self" : Str) == fld) = false := by rw [beq_eq_false_iff_ne]; exact fun z => nsf' z.symm
  have lself : (iS fld).names.lookup ("self" : Str) = some .local := by simp [iS, List.lookup]
  have lfld : (iS fld).names.lookup fld = some .local := by
    show List.lookup fld [(("self" : Str), NameKind.local), (fld, .local), _, _] = _
    simp [List.lookup, nsf]
  have lsup : (iS fld).names.lookup ("super" : Str) = some .globalImplicit := by
    show List.lookup ("super" : Str) [(("self" : Str), NameKind.local), (fld, .local), (("__class__" : Str), .free), (("super" : Str), .globalImplicit)] = _
    simp only [List.lookup, T.nsp]
    decide
  have lcls : (iS fld).names.lookup ("__class__" : Str) = some .free := by
    show List.lookup ("__class__" : Str) [(("self" : Str), NameKind.local), (fld, .local), (("__class__" : Str), .free), (("super" : Str), .globalImplicit)] = _
    simp only [List.lookup, T.ncl]
    decide
  have hcl : clsIn K C = some { name := nm, bases := bs, mro := .ref C :: bm, ns := N, qualname := q, hasDict := true, slotNames := sn, subclasses := sub, abstract := ab, collection := col, hasDel := false } := by unfold clsIn; rw [hC] <;> rfl
  refine ks_codeAny_call_defAt (fd := ksFn "__init__" qual (iA fld p1 p2) [iE msg q0 q1 q2 q3 q4 q5, iF fld q6 q7 q8 q9] (iS fld) .none .none doc pm an (.ref cda) ct cc) (body := [iE msg q0 q1 q2 q3 q4 q5, iF fld q6 q7 q8 q9]) (binds := [("self", .ref x), (fld, v)]) hroom (X _ _ ho) rfl hlim (codeRec_of X hcd) rfl
    (BindsTo.of_eq ?bb) ?hc ?hl (fun h₁ hns hk₁ => ?_) rfl rfl rfl
  case bb => exact hbnd _ _ _ _ _ _ _ _ _
  case hc =>
    intro y hy
    have hy : y ∈ [(("self" : Str), NameKind.local), (fld, .local), ("__class__", .free), ("super", .globalImplicit)] := hy
    simp only [List.mem_cons, List.not_mem_nil, or_false] at hy
    rcases hy with rfl | rfl | rfl | rfl <;> exact fun z => nomatch z
  case hl =>
    intro y hy
    simp only [List.mem_cons, List.not_mem_nil, or_false] at hy
    rcases hy with rfl | rfl
    · exact lself
    · exact lfld
  have X₁ : K.In h₁ := X.keeps hk₁
  have hx₁ := hk₁ _ _ hx
  have xL : x ≠ s.heap.objs.size := Nat.ne_of_lt (Heap.lt_size hx)
  have eself : ([("self", Value.ref x), (fld, v)] : List (Str × Value)).reverse.lookup ("self" : Str) = some (.ref x) := by
    show List.lookup ("self" : Str) [(fld, v), (("self" : Str), Value.ref x)] = _
    simp [List.lookup, nsf'']
  have efld : ([("self", Value.ref x), (fld, v)] : List (Str × Value)).reverse.lookup fld = some v := by
    show List.lookup fld [(fld, v), (("self" : Str), Value.ref x)] = _
    simp [List.lookup]
  show _root_.PySem.wpAt (model prog w) _ (.func _ (ksEnv qual (iS fld) s.heap.objs.size fI (.ref cda) cc)) (execs _ (ksEnv qual (iS fld) s.heap.objs.size fI (.ref cda) cc)) _ _ _
  obtain ⟨pl, hpl⟩ := he_of (msg := msg) (q0 := q0) (q1 := q1) (q3 := q3) hln (ksEnv qual (iS fld) s.heap.objs.size fI (.ref cda) cc)
  refine ks_wpAt_execs_cons (ks_wpAt_Expr_any (ks_wpAt_MethodCall ?_ hpl))
  have I₁ : InstAt h₁ x (excO C t0) C none := ⟨hx₁, rfl, rfl, trivial⟩
  refine ks_wpAt_super_base (env := ksEnv qual (iS fld) s.heap.objs.size fI (.ref cda) cc) (ar := { arg := "self", annotation := none, pos := p1 }) lsup lcls (by decide) rfl (X₁ _ _ ho) rfl rfl rfl (X₁ _ _ hcode) rfl hvs hfile T.top ?_
  refine ks_loadName_global rfl lsup (loadGlobal_builtin (env := ksEnv qual (iS fld) s.heap.objs.size fI (.ref cda) cc) (mg := mg) (mb := mb) (hG.keeps hk₁) T.nos (hB.keeps hk₁) hb ⟨rfl, ?_⟩)
  refine wpAny_loadName_free rfl lcls rfl ⟨_, X₁ _ _ hcell, rfl⟩ ?_
  refine wpAny_loadName_local rfl lself hns eself ?_
  refine ks_wpAny_isType_cls (X₁ _ _ hC) rfl ⟨rfl, ?_⟩
  refine ks_wpAny_call_super (X₁ _ _ hC) rfl hx₁ rfl (fun c z => nomatch z) (looks_mroIn X₁ T.own) (fun h₂ e₂ k₂ => ?_)
  have X₂ : K.In h₂ := X₁.keeps k₂
  have hx₂ := k₂ _ _ hx₁
  have hsup := T.sup
  unfold ks_superIn at hsup
  rw [hcl] at hsup
  have I₂ : InstAt h₂ x (excO C t0) C none := ⟨hx₂, rfl, rfl, trivial⟩
  refine kxs_getMethod kxs_ValueError e₂ (looks_opaque X₂ T.opq) (l₀ := .ref C :: bm) (fun A Q E s k q => wpAny_bind ((looks_clsIn X₂ hcl) A _ E s k (wpAny_pure q))) rfl X₂ hsup (I₂.type.andThen (looks_subIn X₂ T.veC)) (ks_ne X₂ I₂ hcl) (by decide) ?_
  have k₃ : ∀ b o, h₂.get? b = some o → (h₂.push (kxs_mw "ValueError.__init__" x)).get? b = some o := fun b o e => Heap.get?_push_of_some _ e
  refine kxs_callWith (i := "ValueError.__init__") (x := x) rfl ?_
  refine evalArgs_plain (spliced_cons (Constant_str (k := 0) (pos := q3) (spliced_nil ⟨Heap.get?_push_size _ rfl, ?_⟩)))
  have X₃ := X₂.keeps k₃
  refine call_mw (X₃ _ _ hC) (k₃ _ _ hx₂) (Heap.get?_push_size _ rfl) (one_size _) fun h₄ t1 k₄ hx₄ => ?_
  have kk : ∀ b o, b ≠ x → h₁.get? b = some o → h₄.get? b = some o := fun b o hb e => k₄ b o hb (k₃ _ _ (k₂ _ _ e))
  have hns₄ : h₄.Ns s.heap.objs.size (fun y => ([("self", Value.ref x), (fld, v)] : List (Str × Value)).reverse.lookup y) := by
    obtain ⟨oL, es, ep, hL, r⟩ := hns
    exact ⟨oL, es, ep, kk _ _ (Ne.symm xL) hL, r⟩
  have X₄ : K.In h₄ := fun a o e => kk a o (fun z => by rw [z, hnx] at e; cases e) (X₁ a o e)
  refine ks_wpAt_execs_cons (wpAt_of_wpAny (plainObj_wpAny_Assign_Attribute ?_ ?_))
  · refine PySem.ESX.ldL hns₄ efld (PySem.ESX.ldL hns₄ eself ?_ rfl lself) rfl lfld ndb
    refine set_plain X₄ (ox := excO C t1) (od := none) ⟨hx₄, rfl, rfl, trivial⟩ T.sa ?_
    refine exc_osa X₄ hx₄ hcl (show refsVE (.ref C :: bm) = true from hbm) rfl T.noN (fun h₅ tk₅ dx k₅ dn dne hx₅ hn₅ => ?_)
    have z : s.heap.objs.size < h₁.objs.size := hns.lt
    have z4 : s.heap.objs.size < h₄.objs.size := hns₄.lt
    exact wpAt_of_wpAny (wpAny_execs_nil (hq h₅ tk₅ dx t1 ⟨fun b o hb e => k₅ b o hb (kk b o hb (hk₁ b o e)), hx₅, Nat.le_of_lt (Nat.lt_of_lt_of_le z4 dn), dne, hn₅⟩))
  · rfl
/-- C(v) -/
theorem sup_made (T : SupTxt K mg prog fld C fI) {v : Value} (X : K.In s.heap) (hlim : s.heap.NoLimit) (hG : s.heap.Ns mainGlobals mg) (hB : s.heap.Ns builtinsNs mb) (hb : mb "super" = some (.type "super")) (hroom : A.depth + 1 < recursionLimit)
    (hq : ∀ h' tk e d, OwnMade s.heap h' e C d fld v → R (.ok (.ret (.ref e))) { s with heap := h', toks := tk }) :
    codeAny (model prog w) A (.call (.ref C) ⟨[v], []⟩) R s := by
  obtain ⟨nm, q, N, bs, bm, sn, sub, ab, col, dd, k0, k1, k2, k3, k5, hC, hbm⟩ := T.cls
  obtain ⟨hp, g, dr, tk, os⟩ := s
  have k : ∀ b o, hp.get? b = some o → ((hp.push (kdv_tup [v])).push (excO C hp.objs.size)).get? b = some o := fun b o e => Heap.get?_push_of_some _ (Heap.get?_push_of_some _ e)
  have hget : ((hp.push (kdv_tup [v])).push (excO C hp.objs.size)).get? (hp.objs.size + 1) = some (excO C hp.objs.size) := by heap_get
  have hnx : K.lookup (hp.objs.size + 1) = none := by
    cases e : K.lookup (hp.objs.size + 1) with
    | none => rfl
    | some o =>
      have z : hp.get? (hp.objs.size + 1) = some o := X _ _ e
      exact absurd (Nat.lt_of_succ_lt (Heap.lt_size z)) (Nat.lt_irrefl _)
  refine call_own F.excBase_ValueError (fun X => refsVE_contains X bm hbm) (X _ _ hC) (looks_findIn X T.iC) (fun self => bind_fn X self T.tC) (one_size v) ?_
  refine sup_init (mb := mb) (s := ⟨(hp.push (kdv_tup [v])).push (excO C hp.objs.size), g, dr, tk, os⟩) T (X.keeps k) (hlim.keeps k) (hG.keeps k) (hB.keeps k) hb hget hnx ?_ fun h' tk' dx t1 ⟨k', hx, dn, dne, hns⟩ => ?_
  · show A.depth + 1 < recursionLimit
    exact hroom
  · have old : ∀ b o, hp.get? b = some o → h'.get? b = some o := fun b o e => k' b o (Nat.ne_of_lt (Nat.lt_succ_of_lt (Heap.lt_size e))) (k b o e)
    have z : hp.objs.size + 1 + 1 ≤ dx := by
      first
        | (simpa only [Heap.size_push] using dn)
        | exact dn
        | (have q := dn; rw [Heap.size_push, Heap.size_push] at q; exact q)
    exact ⟨rfl, hq h' tk' (hp.objs.size + 1) dx ⟨old, Nat.le_succ _, ⟨t1, hx⟩, Nat.le_trans (Nat.le_trans (Nat.le_succ _) (Nat.le_succ _)) z, dne, hns⟩⟩
end
end SupX
end PySem

set_option Elab.async false
set_option linter.all false
set_option maxRecDepth 100000
set_option maxHeartbeats 4000000
namespace L2
open PySem PySem.Spec PyProof.Rows
theorem relO_one {v : V} {v' : Value} (r : RelV v v') (fld f : Str) : RelO (List.lookup f [(fld, v)]) (if f = fld then some v' else none) := by
  by_cases hw : f = fld
  · subst hw
    rw [if_pos rfl]
    have q : List.lookup f [(f, v)] = some v := by simp [List.lookup]
    rw [q]
    exact r
  · rw [if_neg hw]
    have qw : (f == fld) = false := by simpa using hw
    have q2 : List.lookup f [(fld, v)] = none := by simp [List.lookup, qw]
    rw [q2]
    trivial
section
variable {X : Cx} {C fI : Addr} {fld : Str}
/-- C(e) -/
def tMkSup (C : Addr) (fld : Str) (ta : TA) : St → Hp → XK → Prop := fun σ H Q => ta σ H fun vs H1 => ∃ v, vs = [v] ∧ ∀ d, H1 d = none → Q (.ref C) (some d) (upd H1 d (.xd [(fld, v)]))
theorem pmk_sup {x : Str} {a : Expr} {ta : TA} {p pos : Pos} {k : Nat} (T : PySem.SupX.SupTxt X.K X.mg X.prog fld C fI) (gC : X.mg x = some (.ref C)) (hr : Room k X.A) (ha : PA X [a] ta) (hg : Gl X x := by rfl) (hdb : (x == ("__debug__" : Str)) = false := by decide)
    (he : starEach (a :: []) X.env = (false, eval a X.env) :: starEach [] X.env := by rfl) (hpl : (backTo pos (starEach [] X.env)).any (·.1) = false := by rfl) :
    PMk X (.Call (.Name x p) [a] [] pos) (tMkSup C fld ta) := by
  intro pins s σ H Q I h
  refine wpAny_Call_Name_kw (ld_glob I hg gC ?_ hdb)
  refine PySem.W.callWith_K (h₀ := X.base) I.ok.mod.kin T.kC (thn (ha.run pos pins s σ H _ I h) fun us s1 hh => ?_) he hpl
  obtain ⟨vs, H1, I1, r1, v, ev, q1⟩ := hh
  subst ev
  refine ⟨I1.kIn, ?_⟩
  cases r1 with
  | cons rv rn =>
    rename_i v' us'
    cases rn
    show wpAny _ _ (call (.ref C) [v']) _ _ _
    have hlim := I1.nolimit
    obtain ⟨mb, hB, hb⟩ := I1.mod.blt
    have hsb : mb "super" = some (.type "super") := (hb "super" (by decide)).trans PyProof.Rows.Boot.«super»
    obtain ⟨hp, g, dr, tk, os⟩ := s1
    refine wpAny_call (PySem.SupX.sup_made (mb := mb) T I1.kIn hlim (I1.mod.glob.keeps I1.bk) (hB.keeps I1.bk) hsb (by have := hr.dp; omega) fun h' tk' e d M => ?_)
    show MkP X pins σ Q (.ref e) ⟨h', g, dr, tk', os⟩
    obtain ⟨t1, hoe⟩ := M.obj
    have hns := M.ns
    obtain ⟨G', g1, g2⟩ := restrict h' fun b => decide (b ≠ e)
    have gk : ∀ b, b ≠ e → G'.get? b = h'.get? b := fun b hb => g1 b (decide_eq_true hb)
    have ge : G'.get? e = none := g2 e (by simp)
    have old : ∀ b o, hp.get? b = some o → G'.get? b = some o := fun b o q => (gk b (Nat.ne_of_lt (Nat.lt_of_lt_of_le (Heap.lt_size q) M.new))).trans (M.keep b o q)
    have ob : ObjOk X.prog X.w (upd H1 d (.xd [(fld, v)])) G' d (.xd [(fld, v)]) :=
      ⟨_, hns.at (fun o q => (gk d M.dne).trans q), fun f => relO_one rv fld f⟩
    have J : Inv X pins σ (upd H1 d (.xd [(fld, v)])) ⟨G', g, dr, tk', os⟩ := I1.laid (t' := tk') old M.dbig ob
    refine ⟨e, _, _, ⟨G', g, dr, tk', os⟩, _, .ref C, some d, rfl, J, fun b o q => ?_, ge, hoe, ⟨rfl, rfl⟩, rfl, rfl, ?_, rfl, I1.bare, raises_own T.exC T.tyC, q1 d (I1.hok.fresh M.dbig)⟩
    · by_cases hb : b = e
      · have q' : G'.get? b = some o := q
        rw [hb, ge] at q'; cases q'
      · exact (gk b hb).symm.trans q
    · rw [upd_ne (Ne.symm M.dne)]
      exact I1.hok.fresh M.new
/-- raise C(e) -/
def tRaiseSup (C : Addr) (fld : Str) (W : WX) (ta : TA) : TS := fun _ σ H => tMkSup C fld ta σ H fun cls d H' => W cls d σ H'
theorem ps_raiseSup {x : Str} {a : Expr} {ta : TA} {W : WX} {p pos pos2 : Pos} {k : Nat} (hc : X.calm = true) (T : PySem.SupX.SupTxt X.K X.mg X.prog fld C fI) (gC : X.mg x = some (.ref C)) (hr : Room k X.A) (tk : Takes X W) (ha : PA X [a] ta) (hg : Gl X x := by rfl) (hdb : (x == ("__debug__" : Str)) = false := by decide)
    (he : starEach (a :: []) X.env = (false, eval a X.env) :: starEach [] X.env := by rfl) (hpl : (backTo pos (starEach [] X.env)).any (·.1) = false := by rfl) :
    PS X (.Raise (some (.Call (.Name x p) [a] [] pos)) none pos2) (tRaiseSup C fld W ta) := ps_raise hc tk (pmk_sup T gC hr ha hg hdb he hpl)
/-- C(e) as a value -/
def tValSup (C : Addr) (fld : Str) (ta : TA) : TE := fun σ H Q => ta σ H fun vs H1 => ∃ v, vs = [v] ∧ ∀ e d, H1 e = none → H1 d = none → d ≠ e → Q (.ref e) (upd (upd H1 d (exd d [(fld, v)])) e (exo e C (some d)))
theorem pe_valSup {x : Str} {a : Expr} {ta : TA} {p pos : Pos} {k : Nat} (T : PySem.SupX.SupTxt X.K X.mg X.prog fld C fI) (gC : X.mg x = some (.ref C)) (hr : Room k X.A) (ha : PA X [a] ta) (hg : Gl X x := by rfl) (hdb : (x == ("__debug__" : Str)) = false := by decide)
    (he : starEach (a :: []) X.env = (false, eval a X.env) :: starEach [] X.env := by rfl) (hpl : (backTo pos (starEach [] X.env)).any (·.1) = false := by rfl) :
    PE X (.Call (.Name x p) [a] [] pos) (tValSup C fld ta) := by
  refine ⟨fun pins s σ H Q I h => ?_⟩
  refine wpAny_Call_Name_kw (ld_glob I hg gC ?_ hdb)
  refine PySem.W.callWith_K (h₀ := X.base) I.ok.mod.kin T.kC (thn (ha.run pos pins s σ H _ I h) fun us s1 hh => ?_) he hpl
  obtain ⟨vs, H1, I1, r1, v, ev, q1⟩ := hh
  subst ev
  refine ⟨I1.kIn, ?_⟩
  cases r1 with
  | cons rv rn =>
    rename_i v' us'
    cases rn
    show wpAny _ _ (call (.ref C) [v']) _ _ _
    have hlim := I1.nolimit
    obtain ⟨mb, hB, hb⟩ := I1.mod.blt
    have hsb : mb "super" = some (.type "super") := (hb "super" (by decide)).trans PyProof.Rows.Boot.«super»
    obtain ⟨hp, g, dr, tk, os⟩ := s1
    refine wpAny_call (PySem.SupX.sup_made (mb := mb) T I1.kIn hlim (I1.mod.glob.keeps I1.bk) (hB.keeps I1.bk) hsb (by have := hr.dp; omega) fun h' tk' e d M => ?_)
    obtain ⟨t1, hoe⟩ := M.obj
    have hns := M.ns
    obtain ⟨G', g1, g2⟩ := restrict h' fun b => decide (b ≠ e)
    have gk : ∀ b, b ≠ e → G'.get? b = h'.get? b := fun b hb => g1 b (decide_eq_true hb)
    have ge : G'.get? e = none := g2 e (by simp)
    have gh : ∀ b o, G'.get? b = some o → h'.get? b = some o := fun b o q => by
      by_cases hb : b = e
      · rw [hb, ge] at q; cases q
      · rw [← gk b hb]; exact q
    have old : ∀ b o, hp.get? b = some o → G'.get? b = some o := fun b o q => (gk b (Nat.ne_of_lt (Nat.lt_of_lt_of_le (Heap.lt_size q) M.new))).trans (M.keep b o q)
    have ob : ObjOk X.prog X.w (upd H1 d (exd d [(fld, v)])) G' d (exd d [(fld, v)]) := exd_ok (hns.at (fun o q => (gk d M.dne).trans q)) (fun f => relO_one rv fld f)
    have J : Inv X pins σ (upd H1 d (exd d [(fld, v)])) ⟨G', g, dr, tk', os⟩ := I1.laid (t' := tk') old M.dbig ob
    have ne : H1 e = none := I1.hok.fresh M.new
    have J2 : Inv X pins σ (upd (upd H1 d (exd d [(fld, v)])) e (exo e C (some d))) ⟨h', g, dr, tk', os⟩ :=
      J.laidN (t' := tk') (h' := h') gh ge (by rw [upd_ne (Ne.symm M.dne)]; exact ne) (exo_ok hoe)
    exact ⟨.ref e, _, J2, rfl, q1 e d ne (I1.hok.fresh M.dbig) M.dne⟩
/-- e.f, e a tracked exception -/
def tXof (K : PySem.W.Frag) (f : Str) (te : TE) : TE := fun σ H Q => te σ H fun x H1 => ∃ (a C d : Addr) (fs : List (Str × V)) (v : V), x = .ref a ∧ XfC K C ∧ PySem.W.findIn K (.ref C) f = some none ∧ H1 a = some (exo a C (some d)) ∧ H1 d = some (exd d fs) ∧ fs.lookup f = some v ∧ Q v H1
theorem pe_xof {e : Expr} {te : TE} {pos : Pos} {n : Str} (he : PE X e te) (hb : attributeBase e n X.env (eval e X.env) = eval e X.env := by rfl) : PE X (.Attribute e n pos) (tXof X.K n te) := by
  refine ⟨fun pins s σ H Q I h => ?_⟩
  refine attr_of hb (thn (he.run pins s σ H _ I h) fun u s1 hh => ?_)
  obtain ⟨x, H1, I1, rx, a, C, d, fs, v, ex, T, hno, ea, ed, l, q⟩ := hh
  subst ex
  obtain rfl : u = Value.ref a := rx
  obtain ⟨t1, ho⟩ := exo_at I1.hok ea
  obtain ⟨mA, hns, hr⟩ := exd_at I1.hok ed
  obtain ⟨od, ho2, hl⟩ := lookIn_ns hns
  obtain ⟨u, hu, ru⟩ := RelO.some_of (v := v) (o := mA n) (by rw [← l]; exact hr n)
  have J : PySem.W.InstAt s1.heap a _ C (some od) := ⟨ho, rfl, rfl, ho2⟩
  exact HandSPX.exc_get I1.kIn J T.ga T.gg T.exC (PySem.W.findObj_own T.hdC hno rfl (by rw [hl, hu])) (handed_of ru) ⟨v, H1, I1.tok _, ru, q⟩
/-- isinstance(e, c), e a tracked exception -/
structure ExiC (K : PySem.W.Frag) (C : Addr) : Prop where
  hcl : (PySem.W.clsIn K C).isSome = true
  ga : PySem.W.findIn K (.ref C) "__getattribute__" = some (some (.builtin "BaseException.__getattribute__"))
  gg : PySem.W.findIn K (.ref C) "__getattr__" = some none
  exC : PySem.W.subIn K (.ref C) (.type "BaseException") = some true
  ha : PySem.W.findIn K (.ref C) "__class__" = some (some (.builtin "object.__class__"))
  hn : PySem.W.specialIn K (.builtin "object.__class__") "__get__" = some (some (.builtin "getset_descriptor.__get__"))
  ht : PySem.W.takesIn K (.builtin "object.__class__") = some true
  hm : PySem.W.mroIn K C (.type "object") = some true
def rIsX (K : PySem.W.Frag) : List V → Hp → VK → Prop := fun xs H Q => ∃ (a C d : Addr) (fs : List (Str × V)) (c : V) (u : Value) (b : Bool), xs = [.ref a, c] ∧ ExiC K C ∧ H a = some (exo a C (some d)) ∧ H d = some (exd d fs) ∧ (∀ w, RelV c w → w = u) ∧ PySem.W.kitOne K (.ref C) u = some b ∧ Q (.bl b) H
theorem call_isX : CallR X (.builtin "isinstance") (rIsX X.K) := by
  intro pins s σ H xs us Q I r h
  obtain ⟨a, C, d, fs, c, u, b, rfl, T, ea, ed, k, e, q⟩ := h
  obtain ⟨u1, u2, rfl, r1, r2⟩ := vals2 r
  have e2 := k _ r2
  subst e2
  cases (show u1 = Value.ref a from r1)
  obtain ⟨t1, ho⟩ := exo_at I.hok ea
  obtain ⟨mA, hns, hr⟩ := exd_at I.hok ed
  obtain ⟨od, ho2, hl⟩ := lookIn_ns hns
  have J : PySem.W.InstAt s.heap a _ C (some od) := ⟨ho, rfl, rfl, ho2⟩
  exact PySem.W.kia_one (PySem.W.kitx_exc T.hcl T.ga T.gg T.exC T.ha T.hn T.ht T.hm) I.kIn J e (fun z => nomatch z) fun tk => ⟨.bl b, H, I.tok tk, rfl, q⟩
end
end L2

set_option Elab.async false
set_option linter.all false
set_option maxRecDepth 100000
set_option maxHeartbeats 4000000
/-! Operators that an own class defines: +, - with an int, + with one of its class, in, ==, != ; an attribute as a target. -/
namespace L2
open PySem PySem.Spec PyProof.Rows
section
variable {X : Cx} {CX : CXT} {k : Nat} {f C : Addr} {fd : FuncData} {ps : List Str} {sp : Sp} {E : XK}
theorem cmpback_ {pins : List (Addr × Obj)} {σ : St} {Q : VK} {u : Value} {s' : Shared} (z : EP X pins σ Q u s') : PySem.W.CmpBack (EP X pins σ Q) u s' := by
  obtain ⟨v, H', I', r, q⟩ := z
  cases v with
  | non => cases (show u = Value.none from r); exact ⟨.non, H', I', rfl, q⟩
  | bl b => cases (show u = Value.bool b from r); exact ⟨.bl b, H', I', rfl, q⟩
  | int i => obtain ⟨t, e⟩ := (show ∃ t, u = Value.int i t from r); cases e; exact ⟨.int i, H', I', ⟨t, rfl⟩, q⟩
  | str x => obtain ⟨t, e⟩ := (show ∃ t, u = Value.str x t from r); cases e; exact ⟨.str x, H', I', ⟨t, rfl⟩, q⟩
  | byt b => obtain ⟨t, e⟩ := (show ∃ t, u = Value.bytes b t from r); cases e; exact ⟨.byt b, H', I', ⟨t, rfl⟩, q⟩
  | flt b => obtain ⟨t, e⟩ := (show ∃ t, u = Value.float b t from r); cases e; exact ⟨.flt b, H', I', ⟨t, rfl⟩, q⟩
  | ref a => cases (show u = Value.ref a from r); exact ⟨.ref a, H', I', rfl, q⟩
  | ty n => cases (show u = Value.type n from r); exact ⟨.ty n, H', I', rfl, q⟩
theorem inst_of {pins : List (Addr × Obj)} {σ : St} {H : Hp} {s : Shared} {a dx : Addr} {fs : List (Str × V)} (I : Inv X pins σ H s) (ea : H a = some (.ins C dx fs)) : ∃ ox od, PySem.W.InstAt s.heap a ox C (some od) := by
  obtain ⟨mA, O, _⟩ := ins_get I.hok ea
  obtain ⟨od, J, _⟩ := O.look
  exact ⟨_, od, J⟩
/-- x op n: x an instance of the class at C, n an int -/
def rBinI (C : Addr) (sp : Sp) (E : XK) : R2 := fun x y H Q => ∃ a dx fs i, x = .ref a ∧ y = .int i ∧ H a = some (.ins C dx fs) ∧ sp [x, y] H Q E
structure BinI (K : PySem.W.Frag) (C f : Addr) (op : Operator) : Prop where
  hc : PySem.W.selfFirst K C = true
  hs : PySem.W.findIn K (.ref C) (PySem.dunder op.info.2) = some (some (.ref f))
  hf : PySem.W.isFn K (.ref f) = true
  hr : PySem.W.findIn K (.ref C) (dunderR op.info.2) = some none
  h1 : ∃ fo, PySem.W.findIn K (.type "int") (PySem.dunder op.info.2) = some fo
  h2 : ∃ ro, PySem.W.findIn K (.type "int") (dunderR op.info.2) = some ro
  hu : PySem.W.subIn K (.type "int") (.ref C) = some false
theorem op_binI {op : Operator} (B : BinI X.K C f op) (F : FnOk X.prog X.w X.K X.mg X.base CX k f fd ps sp) (hr : Room k X.A) (hb : Binds X.K fd ps []) (hx : Passes CX X E) : OpR X (binaryOp op) (rBinI C sp E) := by
  intro pins s σ H x y v u Q I rx ry h
  obtain ⟨a, dx, fs, i, rfl, rfl, ea, q⟩ := h
  cases (show v = Value.ref a from rx)
  obtain ⟨t, e⟩ := (show ∃ t, u = Value.int i t from ry)
  cases e
  obtain ⟨ox, od, J⟩ := inst_of I ea
  obtain ⟨m, hF⟩ := I.fr
  obtain ⟨fo, h1⟩ := B.h1
  obtain ⟨ro, h2⟩ := B.h2
  refine PySem.W.ksp_binT (T := "int") hF I.ok.mod.kin J rfl B.hc B.hs B.hf B.hr (.inl rfl) h1 h2 B.hu ?_
  exact thn (run_fn (us := [.ref a, .int i t]) (vs := [.ref a, .int i]) (dvs := []) (ds := []) F hr hb .nil hx I (.cons rfl (.cons ⟨t, rfl⟩ .nil)) q) fun w s' z => cmpback_ z
/-- x op y, both instances of the class at C -/
def rBinO (C : Addr) (sp : Sp) (E : XK) : R2 := fun x y H Q => ∃ a dx fs b dy gs, x = .ref a ∧ y = .ref b ∧ H a = some (.ins C dx fs) ∧ H b = some (.ins C dy gs) ∧ sp [x, y] H Q E
theorem op_binO {op : Operator} (hc : PySem.W.selfFirst X.K C = true) (hs : PySem.W.findIn X.K (.ref C) (PySem.dunder op.info.2) = some (some (.ref f))) (hf : PySem.W.isFn X.K (.ref f) = true)
    (F : FnOk X.prog X.w X.K X.mg X.base CX k f fd ps sp) (hr : Room k X.A) (hb : Binds X.K fd ps []) (hx : Passes CX X E) : OpR X (binaryOp op) (rBinO C sp E) := by
  intro pins s σ H x y v u Q I rx ry h
  obtain ⟨a, dx, fs, b, dy, gs, rfl, rfl, ea, eb, q⟩ := h
  cases (show v = Value.ref a from rx)
  cases (show u = Value.ref b from ry)
  obtain ⟨ox, od, J⟩ := inst_of I ea
  obtain ⟨ox', od', J'⟩ := inst_of I eb
  obtain ⟨m, hF⟩ := I.fr
  refine PySem.W.binop_K hF I.ok.mod.kin J J'.type hc hs hf ?_
  exact thn (run_fn (us := [.ref a, .ref b]) (vs := [.ref a, .ref b]) (dvs := []) (ds := []) F hr hb .nil hx I (.cons rfl (.cons rfl .nil)) q) fun w s' z => cmpback_ z
/-- v in x, x an instance of the class at C: __contains__ gives a bool -/
def rInO (C : Addr) (sp : Sp) (E : XK) : R2 := fun x y H Q => ∃ a dx fs, y = .ref a ∧ H a = some (.ins C dx fs) ∧ sp [y, x] H (fun z H' => ∃ b, z = .bl b ∧ Q (.bl b) H') E
theorem op_inO (hs : PySem.W.findIn X.K (.ref C) "__contains__" = some (some (.ref f))) (hf : PySem.W.isFn X.K (.ref f) = true)
    (F : FnOk X.prog X.w X.K X.mg X.base CX k f fd ps sp) (hr : Room k X.A) (hb : Binds X.K fd ps []) (hx : Passes CX X E) : OpR X (compareOp .In) (rInO C sp E) := by
  intro pins s σ H x y v u Q I rx ry h
  obtain ⟨a, dx, fs, rfl, ea, q⟩ := h
  cases (show u = Value.ref a from ry)
  obtain ⟨ox, od, J⟩ := inst_of I ea
  obtain ⟨m, hF⟩ := I.fr
  refine PySem.W.in_K hF I.ok.mod.kin J hs hf ?_
  refine thn (run_fn (us := [.ref a, v]) (vs := [.ref a, x]) (dvs := []) (ds := []) F hr hb .nil hx I (.cons rfl (.cons rx .nil)) q) fun w s' z => ?_
  obtain ⟨z', H', I', rz, b, eb, qz⟩ := z
  subst eb
  cases (show w = Value.bool b from rz)
  exact wpAny_pure ⟨.bl b, H', I', rfl, qz⟩
/-- x == y, x an instance of the class at C; y of a known type that is not below C -/
def rEqO (K : PySem.W.Frag) (C : Addr) (sp : Sp) (E : XK) : R2 := fun x y H Q => ∃ a dx fs t, x = .ref a ∧ H a = some (.ins C dx fs) ∧ TyX K H y t ∧ PySem.W.notFirst K C t = true ∧ sp [x, y] H Q E
theorem op_eqO (hs : PySem.W.findIn X.K (.ref C) "__eq__" = some (some (.ref f))) (hf : PySem.W.isFn X.K (.ref f) = true)
    (F : FnOk X.prog X.w X.K X.mg X.base CX k f fd ps sp) (hr : Room k X.A) (hb : Binds X.K fd ps []) (hx : Passes CX X E) : OpR X (compareOp .Eq) (rEqO X.K C sp E) := by
  intro pins s σ H x y v u Q I rx ry h
  obtain ⟨a, dx, fs, t, rfl, ea, ty, hn, q⟩ := h
  cases (show v = Value.ref a from rx)
  obtain ⟨ox, od, J⟩ := inst_of I ea
  obtain ⟨m, hF⟩ := I.fr
  obtain ⟨P, Z, p, _⟩ := kit_of I ry ty
  show wpAny (model X.prog X.w) X.A (richCompare .Eq (.ref a) u) (EP X pins σ Q) X.xe s
  refine PySem.W.cmp_K (op := .Eq) (tb := t) hr.units0 hF I.ok.mod.kin J (Z.ty _ _ I.kIn p) hn hs hf ?_
  exact thn (run_fn (us := [.ref a, u]) (vs := [.ref a, y]) (dvs := []) (ds := []) F hr hb .nil hx I (.cons rfl (.cons ry .nil)) q) fun w s' z => cmpback_ z
end
end L2

set_option Elab.async false
set_option linter.all false
set_option maxRecDepth 100000
set_option maxHeartbeats 4000000
namespace PySem.W
open PySem PySem.Calls PyProof.Rows
section
variable {prog : Program} {w : World} {A : Around} {E : Value → Shared → Prop} {s : Shared} {K : Frag} {x C L f : Addr} {h₀ : Heap} {m : Str → Option Value} {ox : Obj} {od : Option Obj}
theorem own_ne_tree {b : Value} {P : Fin → Shared → Prop} (hu : A.units < cLine) (X : K.In s.heap) (I : InstAt s.heap x ox C od) (hs : findIn K (.ref C) "__eq__" = some (some (.ref f))) (hf : isFn K (.ref f) = true)
    (h : wpAny (model prog w) A (call (.ref f) [.ref x, b]) (fun r s' => ∃ c, r = .bool c ∧ P (.done (.ret (.bool (!c)))) s') E s) :
    wpAny (model prog w) A (Builtin.«object.__ne__» ⟨[.ref x, b], []⟩) P E s := by
  unfold Builtin.«object.__ne__»
  refine wpAny_bind (wpAny_of_eq (a := ((Value.ref x : Value), [b])) (by first | rfl | (simp only [slotArgs]; rfl)) ?_)
  refine wpAny_bind (wpAny_cRoomFor hu ?_)
  refine wpAny_bind (ifBound_K X I hs hf (wpAny_mono h (fun r s' hr => ?_) fun _ _ e => e))
  obtain ⟨c, rfl, hp⟩ := hr
  refine wpAny_bind (m := truthy (.bool c)) (wpAny_pure ?_)
  exact wpAny_pure hp
theorem own_ne {b tb : Value} {Q : Value → Shared → Prop} (hu : A.units + 1 < cLine) (X : K.In s.heap) (I : InstAt s.heap x ox C od) (hb : Looks (model prog w) s.heap (typeOf b) tb) (hn : notFirst K C tb = true)
    (hne : findIn K (.ref C) "__ne__" = some (some (.builtin "object.__ne__"))) (hs : findIn K (.ref C) "__eq__" = some (some (.ref f))) (hf : isFn K (.ref f) = true) (hm : mroIn K C (.type "object") = some true)
    (h : wpAny (model prog w) A.in1 (call (.ref f) [.ref x, b]) (fun r s' => ∃ c, r = .bool c ∧ Q (.bool (!c)) s') E s) : wpAny (model prog w) A (richCompare .NotEq (.ref x) b) Q E s := by
  have sub : Looks (model prog w) s.heap (isInstance (.ref x) (.type "object")) true := I.type.andThen (looks_mroIn X hm)
  have cal : wpAny (model prog w) A (call (.builtin "object.__ne__") [.ref x, b]) (fun v s' => ∃ c, v = .bool c ∧ Q (.bool c) s') E s := by
    refine wpAny_call (codeAny_call_builtin F.cmp_object.ne.plain F.cmpEntry_ne ?_)
    refine @check_slot (model prog w) _ _ s "object.__ne__" "object" "__ne__" (.ref x) [b] [] _ F.cmpKind_ne F.cmpSplit_ne sub (F.cmpArgs_ne (.ref x) b) ?_
    refine own_ne_tree (by show A.units + 1 < cLine; exact hu) X I hs hf (wpAny_mono h (fun r s' hr => ?_) fun _ _ e => e)
    obtain ⟨c, rfl, hq⟩ := hr
    exact ⟨c, rfl, _, rfl, hq⟩
  have one : wpAny (model prog w) A (tryCompare (.ref x) "__ne__" b) (fun r s' => ∃ v, r = some v ∧ Q v s') E s := by
    unfold tryCompare
    refine wpAny_bind ?_
    simp only [callSpecialIfBound?, bindSpecialIfBound?]
    refine wpAny_holding (wpAny_bind (wpAny_bind (wpAny_bind (I.type.here ((looks_findIn X hne).here ?_)))))
    have bnd : bindSpecial (.builtin "object.__ne__") (.ref x) = pure (.builtin "object.__ne__", [.ref x]) := F.cmp_object.ne.bind _
    have fin : ∀ Q' : Option Value → Shared → Prop, (∀ c s', Q (.bool c) s' → Q' (some (.bool c)) s') → wpAny (model prog w) A (call (.builtin "object.__ne__") ([.ref x] ++ [b]) >>= fun v => pure (some v)) Q' E s := fun Q' hq' =>
      wpAny_bind (wpAny_mono cal (fun v s' h' => by obtain ⟨c, rfl, hq⟩ := h'; exact wpAny_pure (hq' c s' hq)) fun _ _ h' => h')
    refine wpAny_bind (wpAny_askSetting (wpAny_ite ?_))
    split
    · exact wpAny_bind (wpAny_of_eq bnd (wpAny_pure (fin _ fun c s' hq => wpAny_pure ⟨_, rfl, hq⟩)))
    · exact wpAny_tryCatch (wpAny_bind (wpAny_of_eq bnd (wpAny_pure (fin _ fun c s' hq => wpAny_pure ⟨_, rfl, hq⟩))))
  unfold richCompare
  simp only [oneThing_ref]
  refine wpAny_holding (wpAny_bind (wpAny_cRoomFor (by omega) ?_))
  refine wpAny_bind (I.type.here (wpAny_bind (hb.here ?_)))
  split
  · rename_i q
    have e : subIn K tb (.ref C) = some false := by
      rcases Bool.or_eq_true_iff.mp hn with e | e
      · rw [beq_iff_eq.mp e] at q; simp at q
      · exact beq_iff_eq.mp e
    refine wpAny_bind ((looks_subIn X e).here ?_)
    simp only [Bool.false_eq_true, if_false]
    refine wpAny_bind (wpAny_mono one (fun r s' z => ?_) fun _ _ e => e)
    obtain ⟨v, rfl, hq⟩ := z
    exact wpAny_pure hq
  · refine wpAny_bind (wpAny_pure ?_)
    simp only [Bool.false_eq_true, if_false]
    refine wpAny_bind (wpAny_mono one (fun r s' z => ?_) fun _ _ e => e)
    obtain ⟨v, rfl, hq⟩ := z
    exact wpAny_pure hq
end
end PySem.W
namespace L2
open PySem PySem.Spec PyProof.Rows
section
variable {X : Cx} {CX : CXT} {k : Nat} {f C : Addr} {fd : FuncData} {ps : List Str} {sp : Sp} {E : XK}
/-- x != y by an own __eq__ that gives a bool -/
def rNeO (K : PySem.W.Frag) (C : Addr) (sp : Sp) (E : XK) : R2 := fun x y H Q => ∃ a dx fs t, x = .ref a ∧ H a = some (.ins C dx fs) ∧ TyX K H y t ∧ PySem.W.notFirst K C t = true ∧ sp [x, y] H (fun z H' => ∃ b, z = .bl b ∧ Q (.bl (!b)) H') E
theorem op_neO (hne : PySem.W.findIn X.K (.ref C) "__ne__" = some (some (.builtin "object.__ne__"))) (hs : PySem.W.findIn X.K (.ref C) "__eq__" = some (some (.ref f))) (hf : PySem.W.isFn X.K (.ref f) = true) (hm : PySem.W.mroIn X.K C (.type "object") = some true)
    (F : FnOk X.prog X.w X.K X.mg X.base CX k f fd ps sp) (hr : Room (k + 1) X.A) (hb : Binds X.K fd ps []) (hx : Passes CX X E) : OpR X (compareOp .NotEq) (rNeO X.K C sp E) := by
  intro pins s σ H x y v u Q I rx ry h
  obtain ⟨a, dx, fs, t, rfl, ea, ty, hn, q⟩ := h
  cases (show v = Value.ref a from rx)
  obtain ⟨ox, od, J⟩ := inst_of I ea
  obtain ⟨P, Z, p, _⟩ := kit_of I ry ty
  show wpAny (model X.prog X.w) X.A (richCompare .NotEq (.ref a) u) (EP X pins σ Q) X.xe s
  refine PySem.W.own_ne (hu_of hr) I.kIn J (Z.ty _ _ I.kIn p) hn hne hs hf hm ?_
  have r2 : Vals [V.ref a, y] [Value.ref a, u] := .cons rfl (.cons ry .nil)
  have hl : [Value.ref a, u].length = ps.length := by rw [← r2.length]; exact F.len _ _ _ _ q
  refine wpAny_call (codeAny_mono (F.run X.A.in1 X.stack s H ⟨[.ref a, u], []⟩ [.ref a, u] [.ref a, y] _ E hr.in1 I.env0.in1 (by have := hb s [.ref a, u] I.kIn (by simpa using hl); simpa using this) r2 q) fun r s' hq => ?_)
  cases r with
  | error e => exact hx pins σ H s e s' I hq
  | ok fl =>
    cases fl with
    | ret w =>
      obtain ⟨z, H', I', rz, b, eb, qz⟩ := I.after hq
      subst eb
      cases (show w = Value.bool b from rz)
      exact ⟨b, rfl, .bl (!b), H', I', rfl, qz⟩
    | next => exact False.elim hq
    | brk => exact False.elim hq
    | cont => exact False.elim hq
/-- o.f = .. as a target among others -/
def gFld (K : PySem.W.Frag) (to : TE) (f : Str) : TG := fun v σ H Q => to σ H fun x H1 => ∃ a C dx fs, x = .ref a ∧ H1 a = some (.ins C dx fs) ∧ Cls K C ∧ NoAttr K C f ∧ fs.length < 1000 ∧ Q σ (upd H1 a (.ins C dx (putF f v fs)))
theorem pg_fld {o : Expr} {to : TE} {f : Str} {pos : Pos} (ho : PE X o to) : PG X (.Attribute o f pos) (gFld X.K to f) := by
  refine ⟨fun pins s σ H v u Q I r h => ?_⟩
  simp only [assign_Attribute]
  refine wpAny_bind (wpAny_holding (thn (ho.run pins s σ H _ I h) fun ov s1 ⟨x, H1, I1, rx, a, C, dx, fs, ex, ea, c, n, l, q⟩ => ?_))
  subst ex
  obtain rfl : ov = Value.ref a := rx
  refine wpAny_bind (wpAny_standAt (wpAny_bind (wpAny_holding (setattr_ok I1 ea c n l r fun s3 I3 => ?_))))
  exact wpAny_release ⟨σ, _, I3, q⟩
end
end L2

set_option Elab.async false
set_option linter.all false
set_option maxRecDepth 100000
set_option maxHeartbeats 1000000
/-! Numbers, names and entries as texts: plain functions and their laws. -/
namespace EM
open PySem L2 TL NumText
/-! ### digits, letters -/
def isDig (c : Nat) : Bool := decide (c ∈ (Str.ofString "0123456789").cps.toList)
def isLet (c : Nat) : Bool := decide (c ∈ (Str.ofString "abcdefghijklmnopqrstuvwxyz").cps.toList)
theorem digs_list : (Str.ofString "0123456789").cps.toList = [48, 49, 50, 51, 52, 53, 54, 55, 56, 57] := by decide +kernel
theorem lets_list : (Str.ofString "abcdefghijklmnopqrstuvwxyz").cps.toList = (List.range 26).map (· + 97) := by decide +kernel
theorem isDig_iff {c : Nat} : isDig c = true ↔ 48 ≤ c ∧ c ≤ 57 := by
  unfold isDig
  rw [decide_eq_true_eq, digs_list]
  simp only [List.mem_cons, List.not_mem_nil, or_false]
  omega
theorem isLet_iff {c : Nat} : isLet c = true ↔ 97 ≤ c ∧ c ≤ 122 := by
  unfold isLet
  rw [decide_eq_true_eq, lets_list]
  simp only [List.mem_map, List.mem_range]
  constructor
  · rintro ⟨a, h, rfl⟩; omega
  · intro h; exact ⟨c - 97, by omega, by omega⟩
/-! ### numbers -/
def digs (l : List Nat) : List Nat := if l.take 1 = [45] then l.drop 1 else l
def numOk (l : List Nat) : Bool := (decide (1 ≤ (digs l).length) && decide ((digs l).length ≤ 30)) && ((digs l).all isDig && !(decide ((digs l).head? = some 48) && decide (l ≠ [48])))
def numVal (l : List Nat) : Int := if l.take 1 = [45] then -((digitsVal (l.drop 1) : Nat) : Int) else ((digitsVal l : Nat) : Int)
def numberOf (l : List Nat) : Option Int := if numOk l = true then some (numVal l) else none
/-- the signs of str(n) -/
def intOf (n : Int) : List Nat := if n < 0 then 45 :: numL n.natAbs else numL n.natAbs
theorem tl_int (n : Int) : tl (Str.ofString (toString n)) = intOf n := by
  unfold intOf
  by_cases h : n < 0
  · rw [if_pos h]
    obtain ⟨m, rfl⟩ : ∃ m : Nat, n = -((m : Nat) : Int) := ⟨n.natAbs, by omega⟩
    obtain ⟨k, rfl⟩ : ∃ k : Nat, m = k + 1 := ⟨m - 1, by omega⟩
    have e1 : (-(((k + 1 : Nat) : Nat) : Int)).natAbs = k + 1 := by omega
    have e2 : toString (-(((k + 1 : Nat) : Nat) : Int)) = "-" ++ toString (k + 1) := by
      show toString (Int.negSucc k) = _
      rfl
    have e3 := tl_num (k + 1)
    have e4 : toString (((k + 1 : Nat) : Nat) : Int) = toString (k + 1) := rfl
    rw [e1, e2]
    rw [e4] at e3
    rw [tl_ofString] at e3 ⊢
    rw [String.toList_append, List.map_append, e3]
    rfl
  · rw [if_neg h]
    obtain ⟨m, rfl⟩ : ∃ m : Nat, n = (m : Int) := ⟨n.natAbs, by omega⟩
    exact tl_num m
theorem digitsVal_snoc (l : List Nat) (c : Nat) : digitsVal (l ++ [c]) = digitsVal l * 10 + (c - 48) := by
  unfold digitsVal
  rw [List.foldl_append]
  rfl
/-- digits without a 0 ahead are those of their value -/
theorem numL_back : ∀ (n : Nat) (d : List Nat), d.length = n → AllDigits d → d ≠ [] → (d.head? ≠ some 48 ∨ d = [48]) → numL (digitsVal d) = d ∧ (d ≠ [48] → 0 < digitsVal d) := by
  intro n
  induction n with
  | zero => intro d hl _ h _; exact absurd (List.eq_nil_of_length_eq_zero hl) h
  | succ n ih =>
    intro d hl hd hne hz
    have e := List.dropLast_concat_getLast hne
    generalize d.dropLast = r at e
    generalize d.getLast hne = c at e
    subst e
    have hc : 48 ≤ c ∧ c ≤ 57 := hd c (List.mem_append_right _ (List.mem_singleton.mpr rfl))
    have hr : AllDigits r := fun x hx => hd x (List.mem_append_left _ hx)
    rw [digitsVal_snoc]
    cases r with
    | nil =>
      have e0 : digitsVal [] = 0 := rfl
      rw [e0]
      have hv : 0 * 10 + (c - 48) < 10 := by omega
      rw [numL_lt hv]
      refine ⟨by show [48 + (0 * 10 + (c - 48))] = [c]; congr 1; omega, fun h => ?_⟩
      have : c ≠ 48 := fun z => h (by rw [z]; rfl)
      omega
    | cons a r =>
      have hl' : (a :: r).length = n := by simpa using hl
      have ha : (a :: r).head? ≠ some 48 := by
        rcases hz with hz | hz
        · exact hz
        · have := congrArg List.length hz
          simp at this
      obtain ⟨i1, i2⟩ := ih (a :: r) hl' hr (by simp) (.inl ha)
      have hp : 0 < digitsVal (a :: r) := i2 (fun z => ha (by rw [z]; rfl))
      have h10 : 10 ≤ digitsVal (a :: r) * 10 + (c - 48) := by omega
      refine ⟨?_, fun _ => by omega⟩
      rw [numL_step h10]
      have e1 : (digitsVal (a :: r) * 10 + (c - 48)) / 10 = digitsVal (a :: r) := by omega
      have e2 : (digitsVal (a :: r) * 10 + (c - 48)) % 10 = c - 48 := by omega
      rw [e1, e2, i1]
      congr 2
      omega
theorem numL_head (n : Nat) : (numL n).head? ≠ some 48 ∨ numL n = [48] := by
  induction n using Nat.strongRecOn with
  | _ n ih =>
    by_cases h : n < 10
    · rw [numL_lt h]
      by_cases h0 : n = 0
      · right; rw [h0]
      · left; simp; omega
    · left
      rw [numL_step (by omega)]
      rcases ih (n / 10) (by omega) with h1 | h1
      · cases e : numL (n / 10) with
        | nil => exact absurd e (numL_ne _)
        | cons a r => rw [e] at h1; simpa using h1
      · have := numL_val (n / 10)
        rw [h1] at this
        have e0 : digitsVal [48] = 0 := rfl
        omega
theorem allDig {l : List Nat} : l.all isDig = true ↔ AllDigits l := by
  rw [List.all_eq_true]
  exact ⟨fun h c hc => isDig_iff.mp (h c hc), fun h c hc => isDig_iff.mpr (h c hc)⟩
theorem digitsVal_lt {l : List Nat} (h : AllDigits l) : digitsVal l < 10 ^ l.length := by
  have key : ∀ (n : Nat) (l : List Nat), l.length = n → AllDigits l → digitsVal l < 10 ^ n := by
    intro n
    induction n with
    | zero => intro l hl _; rw [List.eq_nil_of_length_eq_zero hl]; decide
    | succ n ih =>
      intro l hl hd
      have hne : l ≠ [] := by intro z; rw [z] at hl; cases hl
      have e := List.dropLast_concat_getLast hne
      generalize l.dropLast = r at e
      generalize l.getLast hne = c at e
      subst e
      have hc : 48 ≤ c ∧ c ≤ 57 := hd c (List.mem_append_right _ (List.mem_singleton.mpr rfl))
      have := ih r (by simpa using hl) (fun x hx => hd x (List.mem_append_left _ hx))
      rw [digitsVal_snoc, Nat.pow_succ]
      omega
  exact key _ l rfl h
theorem numL_len_ge {n k : Nat} (h : (numL n).length ≤ k) : n < 10 ^ k := by
  have := digitsVal_lt (numL_digits n)
  rw [numL_val] at this
  exact Nat.lt_of_lt_of_le this (Nat.pow_le_pow_right (by decide) h)
theorem numberOf_back {l : List Nat} {n : Int} (h : numberOf l = some n) : l = intOf n ∧ n.natAbs < 10 ^ 30 := by
  unfold numberOf at h
  split at h
  · rename_i hk
    have hn : numVal l = n := Option.some.inj h
    unfold numOk at hk
    simp only [Bool.and_eq_true, decide_eq_true_eq, Bool.not_eq_true', Bool.and_eq_false_iff, decide_eq_false_iff_not] at hk
    obtain ⟨⟨h1, h2⟩, h3, h4⟩ := hk
    rw [allDig] at h3
    by_cases hm : l.take 1 = [45]
    · have hl : l = 45 :: l.drop 1 := by
        have := List.take_append_drop 1 l
        rw [hm] at this
        exact this.symm
      have hd : digs l = l.drop 1 := if_pos hm
      have hv : numVal l = -((digitsVal (l.drop 1) : Nat) : Int) := if_pos hm
      rw [hd] at h1 h2 h3 h4
      rw [hv] at hn
      have hl48 : l ≠ [48] := by intro z; rw [z] at hm; exact absurd hm (by decide)
      have hh : (l.drop 1).head? ≠ some 48 := by
        rcases h4 with h4 | h4
        · exact h4
        · exact absurd hl48 h4
      have hne : l.drop 1 ≠ [] := by intro z; rw [z] at h1; simp at h1
      obtain ⟨b1, b2⟩ := numL_back _ (l.drop 1) rfl h3 hne (.inl hh)
      have hp : 0 < digitsVal (l.drop 1) := b2 (fun z => hh (by rw [z]; rfl))
      have hna : n.natAbs = digitsVal (l.drop 1) := by omega
      refine ⟨?_, ?_⟩
      · unfold intOf
        rw [if_pos (by omega), hna, b1]
        exact hl
      · rw [hna]
        exact Nat.lt_of_lt_of_le (digitsVal_lt h3) (Nat.pow_le_pow_right (by decide) h2)
    · have hd : digs l = l := if_neg hm
      have hv : numVal l = ((digitsVal l : Nat) : Int) := if_neg hm
      rw [hd] at h1 h2 h3 h4
      rw [hv] at hn
      have hne : l ≠ [] := by intro z; rw [z] at h1; simp at h1
      have hz : l.head? ≠ some 48 ∨ l = [48] := by
        rcases h4 with h4 | h4
        · exact .inl h4
        · exact .inr (Classical.byContradiction fun z => h4 z)
      obtain ⟨b1, b2⟩ := numL_back _ l rfl h3 hne hz
      have hna : n.natAbs = digitsVal l := by omega
      refine ⟨?_, ?_⟩
      · unfold intOf
        rw [if_neg (by omega), hna, b1]
      · rw [hna]
        exact Nat.lt_of_lt_of_le (digitsVal_lt h3) (Nat.pow_le_pow_right (by decide) h2)
  · cases h
theorem numberOf_int {n : Int} (h : n.natAbs < 10 ^ 30) : numberOf (intOf n) = some n := by
  have hd := numL_digits n.natAbs
  have hne := numL_ne n.natAbs
  have hlen := numL_len (k := 30) (by decide) h
  have hlen1 : 1 ≤ (numL n.natAbs).length := List.length_pos_iff.mpr hne
  have hall := allDig.mpr hd
  by_cases hn : n < 0
  · have e : intOf n = 45 :: numL n.natAbs := if_pos hn
    have hm : (45 :: numL n.natAbs).take 1 = [45] := rfl
    have hdg : digs (45 :: numL n.natAbs) = numL n.natAbs := if_pos hm
    have hv : numVal (45 :: numL n.natAbs) = -((digitsVal (numL n.natAbs) : Nat) : Int) := if_pos hm
    have hh : (numL n.natAbs).head? ≠ some 48 := by
      rcases numL_head n.natAbs with z | z
      · exact z
      · have := numL_val n.natAbs
        rw [z] at this
        have e0 : digitsVal [48] = 0 := rfl
        omega
    rw [e]
    unfold numberOf
    rw [if_pos]
    · rw [hv, numL_val]
      congr 1
      omega
    · unfold numOk
      rw [hdg, hall, decide_eq_true hlen1, decide_eq_true hlen, decide_eq_false hh]
      rfl
  · have e : intOf n = numL n.natAbs := if_neg hn
    have hm : ¬ (numL n.natAbs).take 1 = [45] := by
      cases q : numL n.natAbs with
      | nil => exact absurd q hne
      | cons a r =>
        intro z
        have : a = 45 := by simpa using z
        have h2 := hd a (by rw [q]; exact List.mem_cons_self ..)
        omega
    have hdg : digs (numL n.natAbs) = numL n.natAbs := if_neg hm
    have hv : numVal (numL n.natAbs) = ((digitsVal (numL n.natAbs) : Nat) : Int) := if_neg hm
    rw [e]
    unfold numberOf
    rw [if_pos]
    · rw [hv, numL_val]
      congr 1
      omega
    · unfold numOk
      rw [hdg, hall, decide_eq_true hlen1, decide_eq_true hlen]
      rcases numL_head n.natAbs with z | z
      · rw [decide_eq_false z]; rfl
      · rw [decide_eq_false (show ¬ numL n.natAbs ≠ [48] from fun q => q z)]
        simp
theorem intOf_inj {m n : Int} (h : intOf m = intOf n) : m = n := by
  have key : ∀ n : Int, numVal (intOf n) = n := by
    intro n
    unfold numVal intOf
    by_cases hn : n < 0
    · rw [if_pos hn]
      rw [if_pos (show (45 :: numL n.natAbs).take 1 = [45] from rfl)]
      show -((digitsVal (numL n.natAbs) : Nat) : Int) = n
      rw [numL_val]
      omega
    · rw [if_neg hn, if_neg, numL_val]
      · omega
      · cases q : numL n.natAbs with
        | nil => exact absurd q (numL_ne _)
        | cons a r =>
          intro z
          have : a = 45 := by simpa using z
          have h2 := numL_digits n.natAbs a (by rw [q]; exact List.mem_cons_self ..)
          omega
  rw [← key m, h, key]
theorem intOf_free {n : Int} {s : Nat} (h1 : s ≠ 45) (h2 : s < 48 ∨ 57 < s) : s ∉ intOf n := by
  unfold intOf
  split
  · intro z
    rcases List.mem_cons.mp z with z | z
    · exact h1 z
    · exact numL_free h2 z
  · exact numL_free h2
theorem intOf_len {n : Int} {k : Nat} (hk : 0 < k) (h : n.natAbs < 10 ^ k) : (intOf n).length ≤ k + 1 := by
  have := numL_len hk h
  unfold intOf
  split
  · rw [List.length_cons]; omega
  · omega
/-- int(text) where number_of takes it -/
theorem intText_numOk {t : Str} (h : numOk (tl t) = true) : intText? t = some (numVal (tl t)) ∧ t.length ≤ 31 := by
  unfold numOk at h
  simp only [Bool.and_eq_true, decide_eq_true_eq] at h
  obtain ⟨⟨h1, h2⟩, h3, h4⟩ := h
  rw [allDig] at h3
  by_cases hm : (tl t).take 1 = [45]
  · have hl : tl t = 45 :: (tl t).drop 1 := by
      have := List.take_append_drop 1 (tl t)
      rw [hm] at this
      exact this.symm
    have hd : digs (tl t) = (tl t).drop 1 := if_pos hm
    have hv : numVal (tl t) = -((digitsVal ((tl t).drop 1) : Nat) : Int) := if_pos hm
    rw [hd] at h1 h2 h3
    have hlen : t.length ≤ 31 := by rw [len_tl, hl, List.length_cons]; omega
    rw [hv]
    exact ⟨intText_neg hl h3 (by intro z; rw [z] at h1; simp at h1) (by omega), hlen⟩
  · have hd : digs (tl t) = tl t := if_neg hm
    have hv : numVal (tl t) = ((digitsVal (tl t) : Nat) : Int) := if_neg hm
    rw [hd] at h1 h2 h3
    have hlen : t.length ≤ 31 := by rw [len_tl]; omega
    rw [hv]
    exact ⟨intText_digits h3 (by intro z; have z' : tl t = [] := z; rw [z'] at h1; simp at h1) (by omega), hlen⟩
/-! ### names, entries -/
def isName (l : List Nat) : Bool := (decide (1 ≤ l.length) && decide (l.length ≤ 12)) && l.all isLet
theorem isName_free {l : List Nat} {s : Nat} (h : isName l = true) (hs : s < 97 ∨ 122 < s) : s ∉ l := by
  unfold isName at h
  simp only [Bool.and_eq_true, List.all_eq_true] at h
  intro z
  have := isLet_iff.mp (h.2 s z)
  omega
/-- joined again what was split -/
theorem join_spl (s : Nat) : ∀ (l acc : List Nat), joinL [s] (spl [s] 0 acc l) = acc ++ l
  | [], acc => by rw [spl_nil]; simp [joinL]
  | c :: r, acc => by
    by_cases h : c = s
    · subst h
      have hp : pre [c] (c :: r) = true := by simp [pre]
      rw [spl_hit hp]
      have ih := join_spl c r []
      have hne : ∃ x y, spl [c] 0 [] r = x :: y := by
        cases q : spl [c] 0 [] r with
        | nil =>
          have hl := congrArg List.length q
          cases r with
          | nil => rw [spl_nil] at q; cases q
          | cons d r' =>
            by_cases hd : pre [c] (d :: r') = true
            · rw [spl_hit hd] at q; cases q
            · rw [spl_miss (by simpa using hd)] at q
              exfalso
              have key : ∀ (l acc : List Nat), spl [c] 0 acc l ≠ [] := by
                intro l
                induction l with
                | nil => intro acc; rw [spl_nil]; simp
                | cons e l ih =>
                  intro acc
                  by_cases he : pre [c] (e :: l) = true
                  · rw [spl_hit he]; simp
                  · rw [spl_miss (by simpa using he)]; exact ih _
              exact key _ _ q
        | cons x y => exact ⟨x, y, rfl⟩
      obtain ⟨x, y, e⟩ := hne
      show joinL [c] (acc :: spl [c] 0 [] r) = acc ++ c :: r
      rw [e] at ih ⊢
      show acc ++ ([c] ++ joinL [c] (x :: y)) = _
      rw [ih]
      rfl
    · have hp : pre [s] (c :: r) = false := pre_of_head [] r h
      rw [spl_miss hp, join_spl s r (acc ++ [c]), List.append_assoc]
      rfl
theorem spl_ne (s : Nat) : ∀ (l acc : List Nat), spl [s] 0 acc l ≠ [] := by
  intro l
  induction l with
  | nil => intro acc; rw [spl_nil]; simp
  | cons e l ih =>
    intro acc
    by_cases he : pre [s] (e :: l) = true
    · rw [spl_hit he]; simp
    · rw [spl_miss (by simpa using he)]; exact ih _
theorem spl_len (s : Nat) : ∀ (l acc : List Nat), ∀ w ∈ spl [s] 0 acc l, w.length ≤ acc.length + l.length := by
  intro l
  induction l with
  | nil => intro acc w hw; rw [spl_nil] at hw; rw [List.mem_singleton.mp hw]; simp
  | cons e l ih =>
    intro acc w hw
    by_cases he : pre [s] (e :: l) = true
    · rw [spl_hit he] at hw
      rcases List.mem_cons.mp hw with rfl | hw
      · omega
      · have := ih [] w hw
        simp at this ⊢
        omega
    · rw [spl_miss (by simpa using he)] at hw
      have := ih _ w hw
      simp at this ⊢
      omega
def kDay : List Nat := [100, 97, 121]
def kFloat : List Nat := [102, 108, 111, 97, 116]
def kZoned : List Nat := [122, 111, 110, 101, 100]
def kFixed : List Nat := [102, 105, 120, 101, 100]
def kTo : List Nat := [116, 111]
def isKind (k : List Nat) : Bool := decide (k ∈ [kDay, kFloat, kZoned, kFixed])
/-- what a split text tells -/
def partsW : List (List Nat) → Option (List Nat × Int × Int × Option (List Nat))
  | [k, a, t, b] => if isKind k = true ∧ k ≠ kZoned ∧ t = kTo then (match numberOf a, numberOf b with | some x, some y => if x ≤ y then some (k, x, y, none) else none | _, _ => none) else none
  | [k, a, t, b, z] => if k = kZoned ∧ t = kTo then (match numberOf a, numberOf b with | some x, some y => if x ≤ y ∧ isName z = true then some (k, x, y, some z) else none | _, _ => none) else none
  | _ => none
def parts (l : List Nat) : Option (List Nat × Int × Int × Option (List Nat)) := partsW (spl [32] 0 [] l)
def canonW (k : List Nat) (a b : Int) (z : Option (List Nat)) : List (List Nat) := [k, intOf a, kTo, intOf b] ++ z.toList
def canon (k : List Nat) (a b : Int) (z : Option (List Nat)) : List Nat := joinL [32] (canonW k a b z)
/-- kind, values and zone go together -/
structure Well (k : List Nat) (a b : Int) (z : Option (List Nat)) : Prop where
  kind : isKind k = true
  zone : (k = kZoned ∧ ∃ y, z = some y ∧ isName y = true) ∨ (k ≠ kZoned ∧ z = none)
theorem parts_back {l k : List Nat} {a b : Int} {z : Option (List Nat)} (h : parts l = some (k, a, b, z)) : l = canon k a b z ∧ Well k a b z ∧ a ≤ b ∧ a.natAbs < 10 ^ 30 ∧ b.natAbs < 10 ^ 30 := by
  have hj := join_spl 32 l []
  unfold parts at h
  rw [List.nil_append] at hj
  generalize spl [32] 0 [] l = ws at h hj
  unfold partsW at h
  split at h
  · rename_i k' a' t' b'
    split at h
    · rename_i hc
      obtain ⟨h1, h2, h3⟩ := hc
      split at h
      · rename_i x y hx hy
        split at h
        · rename_i hxy
          simp only [Option.some.injEq, Prod.mk.injEq] at h
          obtain ⟨rfl, rfl, rfl, rfl⟩ := h
          obtain ⟨e1, e2⟩ := numberOf_back hx
          obtain ⟨e3, e4⟩ := numberOf_back hy
          refine ⟨?_, ⟨h1, .inr ⟨h2, rfl⟩⟩, hxy, e2, e4⟩
          rw [← hj, e1, e3, h3]
          rfl
        · cases h
      · cases h
    · cases h
  · rename_i k' a' t' b' z'
    split at h
    · rename_i hc
      obtain ⟨h1, h3⟩ := hc
      split at h
      · rename_i x y hx hy
        split at h
        · rename_i hxy
          simp only [Option.some.injEq, Prod.mk.injEq] at h
          obtain ⟨rfl, rfl, rfl, rfl⟩ := h
          obtain ⟨e1, e2⟩ := numberOf_back hx
          obtain ⟨e3, e4⟩ := numberOf_back hy
          refine ⟨?_, ⟨by rw [h1]; decide, .inl ⟨h1, _, rfl, hxy.2⟩⟩, hxy.1, e2, e4⟩
          rw [← hj, e1, e3, h3]
          rfl
        · cases h
      · cases h
    · cases h
  · cases h
theorem kind_free {k : List Nat} (h : isKind k = true) : 32 ∉ k := by
  unfold isKind at h
  have h := of_decide_eq_true h
  simp only [List.mem_cons, List.not_mem_nil, or_false] at h
  rcases h with rfl | rfl | rfl | rfl <;> decide
theorem canonW_free {k : List Nat} {a b : Int} {z : Option (List Nat)} (w : Well k a b z) : ∀ p ∈ canonW k a b z, 32 ∉ p := by
  intro p hp
  unfold canonW at hp
  rcases List.mem_append.mp hp with hp | hp
  · simp only [List.mem_cons, List.not_mem_nil, or_false] at hp
    rcases hp with rfl | rfl | rfl | rfl
    · exact kind_free w.kind
    · exact intOf_free (by decide) (by decide)
    · decide
    · exact intOf_free (by decide) (by decide)
  · rcases w.zone with ⟨_, y, rfl, hy⟩ | ⟨_, rfl⟩
    · have : p = y := by simpa using hp
      subst this
      exact isName_free hy (by decide)
    · simp at hp
theorem spl_canon {k : List Nat} {a b : Int} {z : Option (List Nat)} (w : Well k a b z) : spl [32] 0 [] (canon k a b z) = canonW k a b z :=
  spl_join (by unfold canonW; simp) (canonW_free w)
theorem parts_canon {k : List Nat} {a b : Int} {z : Option (List Nat)} (w : Well k a b z) (hab : a ≤ b) (ha : a.natAbs < 10 ^ 30) (hb : b.natAbs < 10 ^ 30) : parts (canon k a b z) = some (k, a, b, z) := by
  unfold parts
  rw [spl_canon w]
  rcases w.zone with ⟨h1, y, rfl, hy⟩ | ⟨h1, rfl⟩
  · show partsW [k, intOf a, kTo, intOf b, y] = _
    unfold partsW
    simp only [numberOf_int ha, numberOf_int hb, hab, hy, and_self, if_true]
    exact if_pos ⟨h1, trivial⟩
  · show partsW [k, intOf a, kTo, intOf b] = _
    unfold partsW
    simp only [numberOf_int ha, numberOf_int hb, hab, if_true]
    exact if_pos ⟨w.kind, h1, trivial⟩
theorem canon_inj {k k' : List Nat} {a b a' b' : Int} {z z' : Option (List Nat)} (w : Well k a b z) (w' : Well k' a' b' z') (h : canon k a b z = canon k' a' b' z') : k = k' ∧ a = a' ∧ b = b' ∧ z = z' := by
  have e := congrArg (spl [32] 0 []) h
  rw [spl_canon w, spl_canon w'] at e
  unfold canonW at e
  simp only [List.cons_append, List.nil_append, List.cons.injEq] at e
  obtain ⟨e1, e2, e3, e4, e5⟩ := e
  refine ⟨e1, intOf_inj e2, intOf_inj e4, ?_⟩
  cases z <;> cases z' <;> simp_all
theorem canon_len {k : List Nat} {a b : Int} {z : Option (List Nat)} (w : Well k a b z) {n : Nat} (hn : 0 < n) (ha : a.natAbs < 10 ^ n) (hb : b.natAbs < 10 ^ n) : (canon k a b z).length ≤ 2 * n + 30 := by
  have hk : k.length ≤ 5 := by
    have h := of_decide_eq_true w.kind
    simp only [List.mem_cons, List.not_mem_nil, or_false] at h
    rcases h with rfl | rfl | rfl | rfl <;> decide
  have h1 := intOf_len hn ha
  have h2 := intOf_len hn hb
  have h3 : kTo.length = 2 := rfl
  unfold canon canonW
  rcases w.zone with ⟨_, y, rfl, hy⟩ | ⟨_, rfl⟩
  · have hyl : y.length ≤ 12 := by
      unfold isName at hy
      simp only [Bool.and_eq_true, decide_eq_true_eq] at hy
      exact hy.1.2
    simp only [Option.toList, List.cons_append, List.nil_append, joinL, List.length_append, List.length_cons, List.length_nil]
    omega
  · simp only [Option.toList, List.append_nil, joinL, List.length_append, List.length_cons, List.length_nil]
    omega
end EM

set_option Elab.async false
set_option linter.all false
set_option maxRecDepth 100000
set_option maxHeartbeats 1000000
/-! Helpers over the hand layer: comprehensions whose element changes nothing; heaps. -/
namespace L2
open PySem PySem.Spec PyProof.Rows
theorem Same.new {H : Hp} {p : Addr} {o : HO} (h : H p = none) : Same H (upd H p o) := fun a u e => by
  rw [upd_ne (ne_of_none e h)]
  exact e
/-- an object that H does not know may change -/
theorem Same.mut {H H' : Hp} {p : Addr} {o : HO} (e : Same H H') (h : H p = none) : Same H (upd H' p o) := fun a u ha => by
  rw [upd_ne (ne_of_none ha h)]
  exact e a u ha
theorem Same.seqT {K : PySem.W.Frag} {H H' : Hp} {a : Addr} {xs : List V} (e : Same H H') (h : SqT K H a xs) : SqT K H' a xs := by
  rcases h with (h | ⟨o, h⟩) | h
  · exact .inl (.inl (e _ _ h))
  · exact .inl (.inr ⟨o, e _ _ h⟩)
  · exact .inr h
theorem range_snocX {α : Type} (v : Nat → α) (n : Nat) : (List.range (n + 1)).map v = (List.range n).map v ++ [v n] := by
  rw [List.range_succ, List.map_append]; rfl
theorem range_mapX {α β : Type} (f : α → β) (v : Nat → β) : ∀ (l : List α), (∀ i (x : α), l[i]? = some x → v i = f x) → (List.range l.length).map v = l.map f := by
  intro l h
  apply List.ext_getElem?
  intro i
  rw [List.getElem?_map, List.getElem?_map]
  by_cases hi : i < l.length
  · rw [List.getElem?_range hi, List.getElem?_eq_getElem hi]
    show some (v i) = some (f l[i])
    rw [h i l[i] (List.getElem?_eq_getElem hi)]
  · rw [List.getElem?_eq_none (by rw [List.length_range]; omega), List.getElem?_eq_none (by omega)]
    rfl
/-- a comprehension without a test whose element changes nothing: the new list is v 0, v 1, .. -/
theorem lc_map {J : It} {n : Nat} {G : Hp → Prop} {Y : Nat → Hp → V → Hp → Prop} (w : Walk J n G Y) {te : TE} {j : Nat} {vs : List Nat} {σ : St} {H1 : Hp} {D : Addr} {Qd : Hp → Prop} (hn : n ≤ 1000000) (v : Nat → V) (hD : H1 D = none)
    (hG : ∀ H, Same H1 H → G H) (hY : ∀ i H x H', i < n → Y i H x H' → Same H H') (hw : ∀ x, wipe ((wipe σ vs).set j (some x)) vs = wipe σ vs)
    (he : ∀ i x H H', i < n → Same H1 H → Y i H x H' → ∀ (H'' : Hp) (Q : VK), Same H' H'' → (∀ H3, Same H'' H3 → Q (v i) H3) → te ((wipe σ vs).set j (some x)) H'' Q)
    (hd : ∀ H, Same H1 H → H D = some (.lst ((List.range n).map v)) → Qd H) :
    ∃ W : Nat → Nat → Hp → Prop, (∃ m, W 0 m (upd H1 D (.lst []))) ∧ ∀ i m H, W i m H →
      (J.stop i H ∧ Qd H) ∨ (J.go i H ∧ ∃ Nx : Hp → Prop, (∀ H', Nx H' → ∃ m', m' < m ∧ W (i + 1) m' H') ∧ ∀ x H', J.yld i H x H' → gName j x (wipe σ vs) H' fun σ2 H2 => wipe σ2 vs = wipe σ vs ∧ tYes σ2 H2 fun b H3 =>
        if b = true then te σ2 H3 fun y H4 => ∃ acc, H4 D = some (.lst acc) ∧ acc.length < sizeLine ∧ Nx (upd H4 D (.lst (acc ++ [y]))) else Nx H3) := by
  refine lc_it w (fun i H => i ≤ n ∧ Same H1 H ∧ H D = some (.lst ((List.range i).map v))) ⟨Nat.zero_le _, Same.new hD, upd_same⟩ (fun i H _ p => hG H p.2.1) (fun i x H H' hi p y => ?_) (fun H p => hd H p.2.1 p.2.2)
  obtain ⟨_, p2, p3⟩ := p
  refine ⟨hw x, ?_⟩
  unfold tYes
  dsimp only
  rw [if_pos rfl]
  have s1 := hY i H x H' hi y
  refine he i x H H' hi p2 y H' _ (Same.refl _) fun H3 s3 => ⟨_, s3 _ _ (s1 _ _ p3), ?_, ?_⟩
  · rw [List.length_map, List.length_range]
    exact Nat.lt_of_lt_of_le (Nat.lt_of_lt_of_le hi hn) (by decide)
  · exact ⟨hi, Same.mut (p2.trans (s1.trans s3)) hD, by rw [upd_same, range_snocX]⟩
/-- a def of the module that keeps its promise and lets no error out -/
structure Cal (P : Program) (w : World) (K : PySem.W.Frag) (mg : Str → Option Value) (base : Heap) (k : Nat) (x : Str) (ps : List Str) (sp : Sp) : Prop where
  ex : ∃ (f : Addr) (fd : FuncData), FnOk P w K mg base CX0 k f fd ps sp ∧ mg x = some (.ref f) ∧ PySem.W.keepIn K (.ref f) = true ∧ Binds K fd ps []
theorem pe_cal {X : Cx} {k : Nat} {x : Str} {ps : List Str} {sp : Sp} {e : Expr} {es : List Expr} {t : TA} {p pos : Pos} (c : Cal X.prog X.w X.K X.mg X.base k x ps sp) (hr : Room k X.A) (hg : Gl X x) (ha : PA X (e :: es) t) (hdb : (x == ("__debug__" : Str)) = false := by decide)
    (he : starEach (e :: es) X.env = (false, eval e X.env) :: starEach es X.env := by rfl) (hpl : (backTo pos (starEach es X.env)).any (·.1) = false := by rfl) : PE X (.Call (.Name x p) (e :: es) [] pos) (tCall sp [] E0 t) := by
  obtain ⟨f, fd, F, hm, hk, hb⟩ := c.ex
  exact pe_call F hr hg hm hk hb .nil pass0 ha hdb he hpl
theorem atI_of {α : Type} {xs : List α} {n : Int} (h0 : 0 ≤ n) {v : α} (h : xs[n.toNat]? = some v) : atI xs n = some v := by
  obtain ⟨m, rfl⟩ : ∃ m : Nat, n = (m : Int) := ⟨n.toNat, by omega⟩
  exact atI_nat (by simpa using h)
/-- all, any of the tests of a list -/
theorem bls_all {α : Type} (f : α → Bool) (l : List α) : ((l.map f).all id) = l.all f := by
  rw [List.all_map]; rfl
theorem bls_any {α : Type} (f : α → Bool) (l : List α) : ((l.map f).any id) = l.any f := by
  rw [List.any_map]; rfl
end L2

set_option Elab.async false
set_option linter.all false
set_option maxRecDepth 100000
set_option maxHeartbeats 1000000
namespace L2
open PySem PySem.Spec PyProof.Rows
section
variable {X : Cx}
/-- text * int -/
theorem op_mul_str : OpR X (binaryOp .Mult) (fun x y H Q => ∃ (i : Str) (n : Int), x = .str i ∧ y = .int n ∧ i.length ≤ 1000 ∧ 0 ≤ n ∧ n ≤ 1000 ∧ ∀ z : Str, z.length ≤ i.length * n.toNat → Q (.str z) H) := by
  intro pins s σ H x y v u Q I rx ry h
  obtain ⟨i, n, rfl, rfl, hi, h0, h1, q⟩ := h
  obtain ⟨t, rfl⟩ := rx
  obtain ⟨t', rfl⟩ := ry
  refine PySem.SB.mul (mulOk_of 1000 1000 hi h1 (by omega) (by decide) (by decide)) fun tk k => ?_
  refine ⟨.str (Txt.mul i n), H, I.tok _, ⟨_, rfl⟩, q _ ?_⟩
  unfold PySem.Txt.mul
  split
  · exact Nat.zero_le _
  · rename_i h2
    split
    · rename_i h3
      rcases (by simpa using h3 : n = 1 ∨ i.length = 0) with h4 | h4
      · subst h4; simp
      · rw [h4]; exact Nat.zero_le _
    · have gen : ∀ (m : Nat) (acc : Array Nat), ((List.replicate m i.cps).foldl (· ++ ·) acc).size = acc.size + m * i.cps.size := by
        intro m
        induction m with
        | zero => intro acc; simp
        | succ m ih => intro acc; rw [List.replicate_succ, List.foldl_cons, ih, Array.size_append, Nat.succ_mul]; omega
      show ((List.replicate n.toNat i.cps).foldl (· ++ ·) #[]).size ≤ _
      rw [gen]
      show 0 + n.toNat * i.length ≤ _
      rw [Nat.zero_add, Nat.mul_comm]
      exact Nat.le_refl _
/-- isinstance(e, c), e the exception that the suite holds, with its dict -/
theorem call_isXE {a : Addr} {oe : Obj} {cls : Value} {d : Option Addr} {pn : List (Addr × Obj)} (hz : Zc cls d oe) (hf : ∃ vs, oe.data = .fields vs) : CallR (X.suite a ((a, oe) :: pn)) (.builtin "isinstance")
    (fun xs H Q => ∃ (c : V) (cv : Value) (b : Bool) (D dd : Addr) (fs : List (Str × V)), xs = [.ref a, c] ∧ cls = .ref D ∧ ExiC X.K D ∧ d = some dd ∧ H dd = some (.xd fs) ∧ (∀ u, RelV c u → u = cv) ∧ PySem.W.kitOne X.K (.ref D) cv = some b ∧ Q (.bl b) H) := by
  intro pins s σ H xs us Q I r h
  obtain ⟨c, cv, b, D, dd, fs, rfl, rfl, C, rfl, hd, hcv, e, q⟩ := h
  obtain ⟨u1, u2, rfl, r1, r2⟩ := vals2 r
  have e2 := hcv _ r2
  subst e2
  cases (show u1 = Value.ref a from r1)
  obtain ⟨hget, _⟩ := I.pin (a, oe) (List.mem_append.mpr (.inl List.mem_cons_self))
  obtain ⟨vs, hv⟩ := hf
  have hx : ObjOk X.prog X.w H s.heap dd (.xd fs) := I.hok dd _ hd
  obtain ⟨mA, hns, hr⟩ := hx
  obtain ⟨od, ho, hl⟩ := lookIn_ns hns
  have J : PySem.W.InstAt s.heap a oe D (some od) := ⟨hget, hz.1, by unfold PySem.W.notCls; rw [hv] <;> rfl, by rw [hz.2]; exact ho⟩
  exact PySem.W.kia_one (PySem.W.kitx_exc C.hcl C.ga C.gg C.exC C.ha C.hn C.ht C.hm) I.kIn J e (fun z => nomatch z) fun tk => ⟨.bl b, H, I.tok tk, rfl, q⟩
end
end L2
namespace L2
open PySem PySem.Spec PyProof.Rows
section
variable {X : Cx} {CX : CXT} {k : Nat} {f C : Addr} {fd : FuncData} {ps : List Str} {sp : Sp} {E : St → XK} {x m : Str} {p pos apos : Pos} {e o : Expr} {es : List Expr} {ta : TE} {t : TA}
theorem run_makeS {pins : List (Addr × Obj)} {σ : St} {H : Hp} {s : Shared} {Q : VK} {us : List Value} {vs : List V} (M : Mk X.K C f) (F : FnOk X.prog X.w X.K X.mg X.base CX k f fd ps sp) (hr : Room (k + 1) X.A) (hb : Binds X.K fd ps [])
    (hx : PassesAt CX X σ (E σ)) (I : Inv X pins σ H s) (r : Vals vs us)
    (h : ∀ x dx, H x = none → H dx = none → dx ≠ x → sp (.ref x :: vs) (upd (upd H dx (.own x)) x (.ins C dx [])) (fun v H2 => v = .non ∧ Q (.ref x) H2) (E σ)) :
    wpAny (model X.prog X.w) X.A (call (.ref C) us) (EP X pins σ Q) X.xe s := by
  have hq := h (s.heap.objs.size + 1) s.heap.objs.size (I.hok.fresh (Nat.le_succ _)) (I.hok.fresh (Nat.le_refl _)) (Nat.ne_of_lt (Nat.lt_succ_self _))
  have I2 := Inv.made (C := C) I
  have r2 : Vals (V.ref (s.heap.objs.size + 1) :: vs) (Value.ref (s.heap.objs.size + 1) :: us) := .cons rfl r
  have hl : (Value.ref (s.heap.objs.size + 1) :: us).length = ps.length := by
    have e := r2.length
    rw [F.len _ _ _ _ hq] at e
    exact e.symm
  have b := hb { s with heap := _ } (Value.ref (s.heap.objs.size + 1) :: us) I2.kIn (by rw [List.append_nil]; exact hl)
  rw [List.append_nil] at b
  refine wpAny_call (make_map (f := f) I.kIn M.makes M.init (beq_iff_eq.mp M.fn) (codeAny_mono (F.run _ X.stack _ _ ⟨Value.ref (s.heap.objs.size + 1) :: us, []⟩ (Value.ref (s.heap.objs.size + 1) :: us) _ _ (E σ) (hr.make C us [])
    (I2.env0.make C us []) b r2 hq) fun r s' hq' => ?_))
  cases r with
  | error e => exact hx pins _ _ e s' I2 hq'
  | ok fl =>
    cases fl with
    | ret u =>
      obtain ⟨v, H', I3, rv, ev, q3⟩ := I2.after hq'
      subst ev
      exact ⟨rv, ⟨V.ref (s.heap.objs.size + 1), H', I3, rfl, q3⟩⟩
    | next => exact False.elim hq'
    | brk => exact False.elim hq'
    | cont => exact False.elim hq'
/-- C(..), where an except clause waits -/
def tMakeS (C : Addr) (sp : Sp) (E : St → XK) (t : TA) : TE := fun σ H Q => t σ H fun vs H1 => ∀ x dx, H1 x = none → H1 dx = none → dx ≠ x →
  sp (.ref x :: vs) (upd (upd H1 dx (.own x)) x (.ins C dx [])) (fun v H2 => v = .non ∧ Q (.ref x) H2) (E σ)
theorem pe_makeS (M : Mk X.K C f) (F : FnOk X.prog X.w X.K X.mg X.base CX k f fd ps sp) (hr : Room (k + 1) X.A) (hg : Gl X x) (hm : X.mg x = some (.ref C)) (hb : Binds X.K fd ps []) (hx : ∀ σ, PassesAt CX X σ (E σ))
    (ha : PA X (e :: es) t) (hdb : (x == ("__debug__" : Str)) = false := by decide) (he : starEach (e :: es) X.env = (false, eval e X.env) :: starEach es X.env := by rfl) (hpl : (backTo pos (starEach es X.env)).any (·.1) = false := by rfl) :
    PE X (.Call (.Name x p) (e :: es) [] pos) (tMakeS C sp E t) := by
  refine ⟨fun pins s σ H Q I h => ?_⟩
  refine wpAny_Call_Name_kw (ld_glob I hg hm ?_ hdb)
  refine PySem.W.callWith_K (h₀ := X.base) I.ok.mod.kin M.kp (thn (ha.run pos pins s σ H _ I h) fun us s1 ⟨vs, H1, I1, r, q⟩ => ⟨I1.kIn, ?_⟩) he hpl
  exact run_makeS M F hr hb (hx σ) I1 r q
end
end L2
namespace L2
open PySem PySem.Spec PyProof.Rows
/-- no error is wished for: none comes -/
theorem passE0 {X : Cx} : Passes (L2.CX X.prog X.w) X E0 := fun _ _ _ _ _ _ _ ⟨_, _, _, _, _, _, _, _, _, _, _, _, h⟩ => h.elim
end L2
namespace L2
open PySem PySem.Spec PyProof.Rows
section
variable {X : Cx} {K : PySem.W.Frag} {CX : CXT} {k : Nat} {f C : Addr} {fd : FuncData} {ps : List Str} {sp : Sp} {E : XK}
/-- op_neO, op_eqO with the frame named: within comprehensions -/
theorem op_neK (hK : X.K = K) (hne : PySem.W.findIn X.K (.ref C) "__ne__" = some (some (.builtin "object.__ne__"))) (hs : PySem.W.findIn X.K (.ref C) "__eq__" = some (some (.ref f))) (hf : PySem.W.isFn X.K (.ref f) = true) (hm : PySem.W.mroIn X.K C (.type "object") = some true)
    (F : FnOk X.prog X.w X.K X.mg X.base CX k f fd ps sp) (hr : Room (k + 1) X.A) (hb : Binds X.K fd ps []) (hx : Passes CX X E) : OpR X (compareOp .NotEq) (rNeO K C sp E) := by
  subst hK
  exact op_neO hne hs hf hm F hr hb hx
theorem op_eqK (hK : X.K = K) (hs : PySem.W.findIn X.K (.ref C) "__eq__" = some (some (.ref f))) (hf : PySem.W.isFn X.K (.ref f) = true)
    (F : FnOk X.prog X.w X.K X.mg X.base CX k f fd ps sp) (hr : Room k X.A) (hb : Binds X.K fd ps []) (hx : Passes CX X E) : OpR X (compareOp .Eq) (rEqO K C sp E) := by
  subst hK
  exact op_eqO hs hf F hr hb hx
end
end L2

set_option Elab.async false
set_option linter.all false
set_option maxRecDepth 100000
set_option maxHeartbeats 4000000
namespace Toy
open PySem L2 TL EM
def top (i : Nat) : Stmt := PySem.Challenge.pw_whoseday_k01_entries_are_read.main.body.getD i (.Pass ⟨0, 0, 0, 0⟩)
/-- the built-ins that no name of the module hides -/
structure TB (mg : Str → Option Value) : Prop where
  int : mg "int" = none
  len : mg "len" = none
  all : mg "all" = none
  isinstance : mg "isinstance" = none
  str : mg "str" = none
  list : mg "list" = none
  range : mg "range" = none
  any : mg "any" = none
  abs : mg "abs" = none
  sorted : mg "sorted" = none
  bool : mg "bool" = none
def optI : Option Int → V
  | none => .non
  | some n => .int n
theorem tl_cut1 (t : Str) : tl (cutS t (some 1) none) = (tl t).drop 1 := by
  show (((tl t).drop (HT.sIx t.length 0 (some 1))).take (t.length - HT.sIx t.length 0 (some 1))) = _
  have e : HT.sIx t.length 0 (some 1) = min 1 t.length := HT.sIx_nat t.length 0 1
  rw [e]
  have hl : t.length = (tl t).length := len_tl t
  rw [hl]
  generalize tl t = l
  cases l with
  | nil => rfl
  | cons a r =>
    have e1 : min 1 (a :: r).length = 1 := by simp
    rw [e1]
    show (r.take ((a :: r).length - 1)) = r
    exact List.take_of_length_le (by simp)
theorem tl_head1 (t : Str) : tl (cutS t none (some 1)) = (tl t).take 1 := by
  show (((tl t).drop 0).take (HT.sIx t.length t.length (some 1) - 0)) = _
  have e : HT.sIx t.length t.length (some 1) = min 1 t.length := HT.sIx_nat t.length t.length 1
  rw [e, List.drop_zero]
  have hl : t.length = (tl t).length := len_tl t
  rw [hl]
  cases tl t with
  | nil => rfl
  | cons a r => simp
theorem str_eq {a b : Str} : (V.str a = V.str b) ↔ tl a = tl b := ⟨fun h => by cases h; rfl, fun h => by rw [ext_tl h]⟩
theorem dash : tl (Str.ofString "-") = [45] := by decide +kernel
theorem zero : tl (Str.ofString "0") = [48] := by decide +kernel
section
variable {P : Program} {w : World} {K : PySem.W.Frag} {mg : Str → Option Value} {base : Heap}
def spNum : Sp := fun vs H Q _ => ∃ t : Str, vs = [.str t] ∧ t.length ≤ 100000 ∧ ∀ H', Same H H' → Q (optI (numberOf (tl t))) H'
abbrev s_number_of : Stmt := top 9
theorem sc_number_of : FnScope ["text", "digits", "sign"] ["text"] (defScope s_number_of) := ⟨rfl, rfl, rfl, by decide +kernel, rfl, by decide +kernel, by decide +kernel⟩

theorem ok_number_of {f : Addr} {fd : FuncData} (F : Fun K "number_of" "number_of" s_number_of f fd) (T : TB mg) (hD : ∃ t, mg "DIGITS" = some (.str "0123456789" t)) (hM : ∃ t, mg "MOST_DIGITS" = some (.int 30 t)) : FnOk P w K mg base CX0 1 f fd ["text"] spNum := by
  obtain ⟨tD, g_DIGITS⟩ := hD
  obtain ⟨tM, g_MOST_DIGITS⟩ := hM
  refine F.ok sc_number_of (fun vs H Q E h => ?_) (fun cdv A outer s H vs Q E hr h => ?_)
  · obtain ⟨t, rfl, _⟩ := h
    rfl
  · obtain ⟨t, rfl, ht, k⟩ := h
    refine ⟨_, (Evl.pss_cut (ps_set (i := 1) sc_number_of.nd rfl (Or.inl rfl) (pe_ifExp (pt_cmpR op_eq (pe_slice sl_str (pv 0) po_none (po_some pe_int)) pe_str (nomark _)) (pe_slice sl_str (pv 0) (po_some pe_int) po_none) (pv 0)))
      (pss_cons (ps_if (PW.pt (pw_or (pt_not (pt_chain op_le op_le pe_int (pe_callB call_len_str (by rfl) T.len PySem.boot_len (pa_cons (pv 1) pa_nil)) (pe_glob (v := .int 30) rfl g_MOST_DIGITS ⟨_, rfl⟩))) (pw_or1 (pt_not (pt_val (pe_callB (cr_all rfl) (by rfl) T.all (by decide +kernel) (pa_cons (pe_lc (own := [("sign", 2)]) (g := gName 2) (by rfl) sc_number_of.nd (pi_str (pv 1)) (blkOk_by (own := [("sign", 2)]) (N := ["text", "digits", "sign"]) (sc := defScope s_number_of) (by decide +kernel)) (fun _ _ _ _ _ => pg_name (i := 2) sc_number_of.nd rfl (Or.inl rfl)) (fun _ _ _ _ _ => pts_nil) (fun _ _ _ _ _ => (pe_cmpR op_in_sign (pv 2) (pe_glob (v := .str "0123456789") rfl g_DIGITS ⟨_, rfl⟩) rfl))) pa_nil)))))))
        (pss_one (ps_ret pe_non))
        pss_nil)
      (pss_cons (ps_if (PW.pt (pw_and (pt_cmpR op_eq (pe_ix ix_str (pv 1) pe_int (fun _ _ => rfl)) pe_str (nomark _)) (pw_and1 (pt_cmpR op_ne (pv 0) pe_str (nomark _)))))
        (pss_one (ps_ret pe_non))
        pss_nil)
      (pss_one (ps_ret (pe_callTy call_int_str (by rfl) T.int (by decide +kernel) (pa_cons (pv 0) pa_nil))))))), ?_⟩
    have hz : ∀ {x : Str}, x.length ≤ 100000 → x.length ≤ sizeLine := fun h => Evl.sz_of h
    -- digits
    refine ⟨fun σ' H' => H' = H ∧ ∃ d : Str, tl d = digs (tl t) ∧ d.length ≤ 100000 ∧ σ' = [some (.str t), some (.str d), none], ?_, ?_⟩
    · refine ⟨_, rfl, _, rfl, _, rfl, hz ht, rfl, _, rfl, ?_⟩
      by_cases hm : (tl t).take 1 = [45]
      · have e : V.str (cutS t none (some 1)) = V.str "-" := str_eq.mpr (by rw [tl_head1, hm, dash])
        rw [decide_eq_true e]
        refine iteT ?_
        refine ⟨_, rfl, _, rfl, _, rfl, hz ht, rfl, _, ?_, ?_, rfl⟩
        · rw [tl_cut1]; exact (if_pos hm).symm
        · exact Nat.le_trans (cutS_length t _ _) ht
      · have e : ¬ V.str (cutS t none (some 1)) = V.str "-" := fun z => hm (by have := str_eq.mp z; rw [tl_head1, dash] at this; exact this)
        rw [decide_eq_false e]
        refine iteF ?_
        exact ⟨_, rfl, rfl, _, (if_neg hm).symm, ht, rfl⟩
    · rintro σ' H' ⟨rfl, d, hd, hdl, rfl⟩
      have hdl' : d.length = (digs (tl t)).length := by rw [len_tl, hd]
      have hlen : (d.length : Int) = ((digs (tl t)).length : Int) := by rw [hdl']
      -- the refusal by its length or its signs
      have no : numOk (tl t) = false → Q .non H' := fun hk => by
        have := k H' (Same.refl _)
        unfold numberOf at this
        rw [hk, if_neg Bool.false_ne_true] at this
        exact this
      refine ⟨_, rfl, _, rfl, hz hdl, _, _, rfl, rfl, _, rfl, ?_⟩
      rw [hlen]
      by_cases h1 : (1 : Int) ≤ ((digs (tl t)).length : Int)
      · rw [decide_eq_true h1]
        refine iteT ⟨_, _, rfl, rfl, _, rfl, ?_⟩
        by_cases h2 : ((digs (tl t)).length : Int) ≤ 30
        · rw [decide_eq_true h2]
          refine iteF ?_
          -- all([sign in DIGITS for sign in digits])
          refine ⟨_, rfl, _, rfl, fun D hD => ?_⟩
          refine lc_map walk_str (n := d.cps.size) (by have : d.cps.size = d.length := rfl; omega) (fun i => .bl (isDig ((tl d).getD i 0))) hD (fun _ _ => trivial) (fun i H x H' _ y => by rw [y.1]; exact Same.refl _) (fun x => rfl) ?_ ?_
          · rintro i x H2 H3 hi s2 ⟨rfl, c, hc, rfl⟩ H4 Q' s4 q
            refine ⟨_, rfl, c, _, rfl, rfl, ?_⟩
            have e : (tl d).getD i 0 = c := by
              have : (tl d)[i]? = some c := by rw [← hc]; simp [tl]
              rw [List.getD_eq_getElem?_getD, this]; rfl
            have := q H4 (Same.refl _)
            rw [e] at this
            exact this
          · intro H2 s2 hl
            have el : (List.range d.cps.size).map (fun i => V.bl (isDig ((tl d).getD i 0))) = ((tl d).map isDig).map V.bl := by
              rw [List.map_map]
              have e0 : d.cps.size = (tl d).length := by simp [tl]
              rw [e0]
              exact range_mapX (fun c => V.bl (isDig c)) _ (tl d) (fun i x hx => by rw [List.getD_eq_getElem?_getD, hx]; rfl)
            rw [el] at hl
            refine ⟨D, _, rfl, SqL.of hl, _, rfl, ?_⟩
            rw [bls_all, hd]
            by_cases h3 : (digs (tl t)).all isDig = true
            · rw [h3]
              refine iteF ?_
              have hne : digs (tl t) ≠ [] := by intro z; rw [z] at h1; simp at h1
              obtain ⟨c, r, hcr⟩ : ∃ c r, tl d = c :: r := by
                rw [hd]
                cases q : digs (tl t) with
                | nil => exact absurd q hne
                | cons c r => exact ⟨c, r, rfl⟩
              have hat : atI d.cps.toList 0 = some c := atI_nat (j := 0) (by show (tl d)[0]? = some c; rw [hcr]; rfl)
              refine ⟨_, rfl, _, _, c, rfl, rfl, hz hdl, hat, rfl, _, rfl, ?_⟩
              have e0 : (V.str ⟨#[c]⟩ = V.str "0") ↔ (digs (tl t)).head? = some 48 := by
                rw [str_eq, zero, ← hd, hcr]
                show [c] = [48] ↔ some c = some 48
                simp
              have fin : (digs (tl t)).head? ≠ some 48 ∨ tl t = [48] → ∃ v, [some (V.str t), some (V.str d), none][0]? = some (some v) ∧ ∃ a n, [v] = [V.str a] ∧ intText? a = some n ∧ a.length ≤ 640 ∧ Q (V.int n) H2 := fun hh => by
                have ok : numOk (tl t) = true := by
                  unfold numOk
                  rw [h3, decide_eq_true (show 1 ≤ (digs (tl t)).length by omega), decide_eq_true (show (digs (tl t)).length ≤ 30 by omega)]
                  rcases hh with hh | hh
                  · rw [decide_eq_false hh]; rfl
                  · rw [decide_eq_false (show ¬ tl t ≠ [48] from fun z => z hh)]; simp
                obtain ⟨i1, i2⟩ := intText_numOk ok
                refine ⟨_, rfl, t, _, rfl, i1, by omega, ?_⟩
                have := k H2 s2
                unfold numberOf at this
                rw [if_pos ok] at this
                exact this
              by_cases h4 : (digs (tl t)).head? = some 48
              · rw [decide_eq_true (e0.mpr h4)]
                refine iteT ⟨_, rfl, rfl, _, rfl, ?_⟩
                by_cases h5 : tl t = [48]
                · rw [decide_eq_true (show V.str t = V.str "0" from str_eq.mpr (by rw [h5, zero]))]
                  exact iteF (fin (.inr h5))
                · rw [decide_eq_false (show ¬ V.str t = V.str "0" from fun z => h5 (by have := str_eq.mp z; rw [zero] at this; exact this))]
                  refine iteT ?_
                  have := k H2 s2
                  unfold numberOf at this
                  rw [if_neg] at this
                  · exact this
                  · unfold numOk
                    rw [decide_eq_true h4, decide_eq_true (show tl t ≠ [48] from h5)]
                    simp
              · rw [decide_eq_false (fun z => h4 (e0.mp z))]
                exact iteF (iteF (fin (.inl h4)))
            · have h3' : (digs (tl t)).all isDig = false := by simpa using h3
              rw [h3']
              refine iteT ?_
              have := k H2 s2
              unfold numberOf at this
              rw [if_neg] at this
              · exact this
              · unfold numOk
                rw [h3']
                simp
        · rw [decide_eq_false h2]
          refine iteT (no ?_)
          unfold numOk
          rw [decide_eq_false (show ¬ (digs (tl t)).length ≤ 30 by omega)]
          simp
      · rw [decide_eq_false h1]
        refine iteF ⟨_, rfl, iteT (no ?_)⟩
        unfold numOk
        rw [decide_eq_false (show ¬ 1 ≤ (digs (tl t)).length by omega)]
        simp
def spIsName (K : PySem.W.Frag) : Sp := fun vs H Q _ => ∃ v, vs = [v] ∧ ((∃ t : Str, v = .str t ∧ t.length ≤ 100000 ∧ ∀ H', Same H H' → Q (.bl (isName (tl t))) H') ∨
  (∃ ty, TyX K H v ty ∧ PySem.W.kitOne K ty (.type "str") = some false ∧ ∀ H', Same H H' → Q (.bl false) H'))
abbrev s_is_name : Stmt := top 8
theorem sc_is_name : FnScope ["word", "sign"] ["word"] (defScope s_is_name) := ⟨rfl, rfl, rfl, by decide +kernel, rfl, by decide +kernel, by decide +kernel⟩

theorem ok_is_name {f : Addr} {fd : FuncData} (F : Fun K "is_name" "is_name" s_is_name f fd) (T : TB mg) (hL : ∃ t, mg "LETTERS" = some (.str "abcdefghijklmnopqrstuvwxyz" t)) (hM : ∃ t, mg "LONGEST_NAME" = some (.int 12 t)) : FnOk P w K mg base CX0 1 f fd ["word"] (spIsName K) := by
  obtain ⟨tL, g_LETTERS⟩ := hL
  obtain ⟨tM, g_LONGEST_NAME⟩ := hM
  refine F.ok sc_is_name (fun vs H Q E h => ?_) (fun cdv A outer s H vs Q E hr h => ?_)
  · obtain ⟨v, rfl, _⟩ := h
    rfl
  · obtain ⟨v, rfl, h⟩ := h
    refine ⟨_, (pss_cons (ps_if (PW.pt (pw_or (pt_not (pt_val (pe_callB call_isi (by rfl) T.isinstance (by decide +kernel) (pa_cons (pv 0) (pa_cons (pe_bltn (v := .ty "str") (by rfl) T.str (by decide +kernel) rfl) pa_nil))))) (pw_or1 (pt_not (pt_chain op_le op_le pe_int (pe_callB call_len_str (by rfl) T.len PySem.boot_len (pa_cons (pv 0) pa_nil)) (pe_glob (v := .int 12) rfl g_LONGEST_NAME ⟨_, rfl⟩))))))
        (pss_one (ps_ret pe_bl))
        pss_nil)
      (pss_one (ps_ret (pe_callB (cr_all rfl) (by rfl) T.all (by decide +kernel) (pa_cons (pe_lc (own := [("sign", 1)]) (g := gName 1) (by rfl) sc_is_name.nd (pi_str (pv 0)) (blkOk_by (own := [("sign", 1)]) (N := ["word", "sign"]) (sc := defScope s_is_name) (by decide +kernel)) (fun _ _ _ _ _ => pg_name (i := 1) sc_is_name.nd rfl (Or.inl rfl)) (fun _ _ _ _ _ => pts_nil) (fun _ _ _ _ _ => (pe_cmpR op_in_sign (pv 1) (pe_glob (v := .str "abcdefghijklmnopqrstuvwxyz") rfl g_LETTERS ⟨_, rfl⟩) rfl))) pa_nil))))), ?_⟩
    rcases h with ⟨t, rfl, ht, k⟩ | ⟨ty, hty, hk, k⟩
    · have hz : t.length ≤ sizeLine := Evl.sz_of ht
      have hl : (t.length : Int) = ((tl t).length : Int) := by rw [len_tl]
      have no : ∀ {H'}, Same H H' → isName (tl t) = false → Q (.bl false) H' := fun s' hk => by
        have := k _ s'
        rw [hk] at this
        exact this
      refine ⟨_, rfl, _, _, _, _, true, rfl, .ty "str", .base (.str t), kit_ty (by decide +kernel), _, rfl, ?_⟩
      refine iteF ⟨_, rfl, _, rfl, hz, _, _, rfl, rfl, _, rfl, ?_⟩
      rw [hl]
      by_cases h1 : (1 : Int) ≤ ((tl t).length : Int)
      · rw [decide_eq_true h1]
        refine iteT ⟨_, _, rfl, rfl, _, rfl, ?_⟩
        by_cases h2 : ((tl t).length : Int) ≤ 12
        · rw [decide_eq_true h2]
          refine iteF ?_
          refine ⟨_, rfl, _, rfl, fun D hD => ?_⟩
          refine lc_map walk_str (n := t.cps.size) (by have : t.cps.size = t.length := rfl; omega) (fun i => .bl (isLet ((tl t).getD i 0))) hD (fun _ _ => trivial) (fun i H x H' _ y => by rw [y.1]; exact Same.refl _) (fun x => rfl) ?_ ?_
          · rintro i x H2 H3 hi s2 ⟨rfl, c, hc, rfl⟩ H4 Q' s4 q
            refine ⟨_, rfl, c, _, rfl, rfl, ?_⟩
            have e : (tl t).getD i 0 = c := by
              have : (tl t)[i]? = some c := by rw [← hc]; simp [tl]
              rw [List.getD_eq_getElem?_getD, this]; rfl
            have := q H4 (Same.refl _)
            rw [e] at this
            exact this
          · intro H2 s2 hl2
            have el : (List.range t.cps.size).map (fun i => V.bl (isLet ((tl t).getD i 0))) = ((tl t).map isLet).map V.bl := by
              rw [List.map_map]
              have e0 : t.cps.size = (tl t).length := by simp [tl]
              rw [e0]
              exact range_mapX (fun c => V.bl (isLet c)) _ (tl t) (fun i x hx => by rw [List.getD_eq_getElem?_getD, hx]; rfl)
            rw [el] at hl2
            refine ⟨D, _, rfl, SqL.of hl2, ?_⟩
            rw [bls_all]
            have := k H2 s2
            unfold isName at this
            rw [decide_eq_true (show 1 ≤ (tl t).length by omega), decide_eq_true (show (tl t).length ≤ 12 by omega)] at this
            exact this
        · rw [decide_eq_false h2]
          refine iteT (no (Same.refl _) ?_)
          unfold isName
          rw [decide_eq_false (show ¬ (tl t).length ≤ 12 by omega)]
          simp
      · rw [decide_eq_false h1]
        refine iteF ⟨_, rfl, iteT (no (Same.refl _) ?_)⟩
        unfold isName
        rw [decide_eq_false (show ¬ 1 ≤ (tl t).length by omega)]
        simp
    · refine ⟨_, rfl, _, _, _, _, false, rfl, .ty "str", hty, hk, _, rfl, ?_⟩
      exact iteT (iteT (k H (Same.refl _)))
end
end Toy

set_option Elab.async false
set_option linter.all false
set_option maxRecDepth 100000
set_option maxHeartbeats 4000000
namespace Toy
open PySem L2 TL EM
section
variable {P : Program} {w : World} {K : PySem.W.Frag} {mg : Str → Option Value} {base : Heap}
def strOf (l : List Nat) : Str := ⟨l.toArray⟩
theorem tl_strOf (l : List Nat) : tl (strOf l) = l := rfl
theorem strOf_tl (s : Str) : strOf (tl s) = s := mk_tl s
def optZ : Option (List Nat) → V
  | none => .non
  | some z => .str (strOf z)
def partsV (p : List Nat × Int × Int × Option (List Nat)) : List V := [.str (strOf p.1), .int p.2.1, .int p.2.2.1, optZ p.2.2.2]
theorem kDay_eq : tl (Str.ofString "day") = kDay := by decide +kernel
theorem kFloat_eq : tl (Str.ofString "float") = kFloat := by decide +kernel
theorem kZoned_eq : tl (Str.ofString "zoned") = kZoned := by decide +kernel
theorem kFixed_eq : tl (Str.ofString "fixed") = kFixed := by decide +kernel
theorem kTo_eq : tl (Str.ofString "to") = kTo := by decide +kernel
theorem str_dec (a b : Str) : decide (V.str a = V.str b) = decide (tl a = tl b) := by
  by_cases h : tl a = tl b
  · rw [decide_eq_true h, decide_eq_true (str_eq.mpr h)]
  · rw [decide_eq_false h, decide_eq_false (fun z => h (str_eq.mp z))]
theorem kinds_in (w : Str) : inV (.str w) [.str "day", .str "float", .str "zoned", .str "fixed"] = isKind (tl w) := by
  have e : ∀ a b : Str, eqV (.str a) (.str b) = decide (tl b = tl a) := fun a b => by
    show (a == b) = _
    by_cases h : tl b = tl a
    · rw [decide_eq_true h, ext_tl h]; exact beq_self_eq_true _
    · rw [decide_eq_false h]
      exact beq_eq_false_iff_ne.mpr (fun z => h (by rw [z]))
  unfold inV isKind
  simp only [List.any_cons, List.any_nil, Bool.or_false, e, kDay_eq, kFloat_eq, kZoned_eq, kFixed_eq, List.mem_cons, List.not_mem_nil, or_false]
  by_cases h1 : tl w = kDay <;> by_cases h2 : tl w = kFloat <;> by_cases h3 : tl w = kZoned <;> by_cases h4 : tl w = kFixed <;> simp [h1, h2, h3, h4]
def spParts : Sp := fun vs H Q _ => ∃ t : Str, vs = [.str t] ∧ t.length ≤ 90000 ∧
  (parts (tl t) = none → ∀ H', Same H H' → Q .non H') ∧ (∀ r, parts (tl t) = some r → ∀ p H', H p = none → Same H H' → H' p = some (.tup (partsV r)) → Q (.ref p) H')
abbrev s_parts_of : Stmt := top 13
theorem sc_parts_of : FnScope ["text", "words", "first", "last"] ["text"] (defScope s_parts_of) := ⟨rfl, rfl, rfl, by decide +kernel, rfl, by decide +kernel, by decide +kernel⟩

theorem ok_parts_of {f : Addr} {fd : FuncData} (F : Fun K "parts_of" "parts_of" s_parts_of f fd) (T : TB mg) (cNum : Cal P w K mg base 1 "number_of" ["text"] spNum) (cNam : Cal P w K mg base 1 "is_name" ["word"] (spIsName K))
    (hK : ∃ a, mg "KINDS" = some (.ref a) ∧ ∀ H, SqT K H a [.str "day", .str "float", .str "zoned", .str "fixed"]) : FnOk P w K mg base CX0 2 f fd ["text"] spParts := by
  obtain ⟨a_KINDS, g_KINDS, sK⟩ := hK
  refine F.ok sc_parts_of (fun vs H Q E h => ?_) (fun cdv A outer s H vs Q E hr h => ?_)
  · obtain ⟨t, rfl, _⟩ := h
    rfl
  · obtain ⟨t, rfl, ht, k0, k1⟩ := h
    have hr1 : Room 1 _ := hr
    refine ⟨_, (pss_cons (ps_set (i := 1) sc_parts_of.nd rfl (Or.inl rfl) (pe_split (pv 0) pe_str))
      (pss_cons (ps_if (PW.pt (pw_or (pt_cmpR op_notIn_seq (pe_ix ix_list (pv 1) pe_int (fun _ _ => rfl)) (pe_glob (v := .ref a_KINDS) rfl g_KINDS rfl) rfl) (pw_or (pt_cmpR op_ne (pe_callB call_len_seq (by rfl) T.len PySem.boot_len (pa_cons (pv 1) pa_nil)) (pe_ifExp (pt_cmpR op_eq (pe_ix ix_list (pv 1) pe_int (fun _ _ => rfl)) pe_str (nomark _)) pe_int pe_int) (nomark _)) (pw_or1 (pt_cmpR op_ne (pe_ix ix_list (pv 1) pe_int (fun _ _ => rfl)) pe_str (nomark _))))))
        (pss_one (ps_ret pe_non))
        pss_nil)
      (pss_cons (ps_par (i := 2) (j := 3) (by rfl) sc_parts_of.nd rfl rfl (by decide) rfl rfl (pa_cons (pe_cal cNum hr1 rfl (pa_cons (pe_ix ix_list (pv 1) pe_int (fun _ _ => rfl)) pa_nil)) (pa_cons (pe_cal cNum hr1 rfl (pa_cons (pe_ix ix_list (pv 1) pe_int (fun _ _ => rfl)) pa_nil)) pa_nil)) (by rfl))
      (pss_cons (ps_if (PW.pt (pw_or (pt_cmpR op_isN (pv 2) pe_non (nomark _)) (pw_or (pt_cmpR op_isN (pv 3) pe_non (nomark _)) (pw_or1 (pt_cmpR op_gt (pv 2) (pv 3) (nomark _))))))
        (pss_one (ps_ret pe_non))
        pss_nil)
      (pss_cons (ps_if (pt_cmpR op_ne (pe_ix ix_list (pv 1) pe_int (fun _ _ => rfl)) pe_str (nomark _))
        (pss_one (ps_ret (pe_tup (pa_cons (pe_ix ix_list (pv 1) pe_int (fun _ _ => rfl)) (pa_cons (pv 2) (pa_cons (pv 3) (pa_cons pe_non pa_nil)))))))
        pss_nil)
      (pss_one (ps_ret (pe_ifExp (pt_val (pe_cal cNam hr1 rfl (pa_cons (pe_ix ix_list (pv 1) pe_int (fun _ _ => rfl)) pa_nil))) (pe_tup (pa_cons (pe_ix ix_list (pv 1) pe_int (fun _ _ => rfl)) (pa_cons (pv 2) (pa_cons (pv 3) (pa_cons (pe_ix ix_list (pv 1) pe_int (fun _ _ => rfl)) pa_nil))))) pe_non)))))))), ?_⟩
    refine ⟨_, rfl, ⟨_, rfl⟩, _, _, rfl, rfl, rfl, (Nat.le_trans (show t.length + 2 ≤ 100000 by omega) (by decide)), fun p hp => ?_⟩
    have hsp : (Txt.split t " ").map tl = spl [32] 0 [] (tl t) := by
      have e : tl (Str.ofString " ") = [32] := by decide +kernel
      rw [split_spl t " " (by rw [e]; simp) (kind_ok (by decide +kernel)), e]
    have hp1 : (upd H p (.lst ((Txt.split t " ").map V.str))) p = some (.lst ((Txt.split t " ").map V.str)) := upd_same
    have s1 : Same H (upd H p (.lst ((Txt.split t " ").map V.str))) := Same.new hp
    have hpar : parts (tl t) = partsW ((Txt.split t " ").map tl) := by unfold parts; rw [hsp]
    rw [hpar] at k0 k1
    generalize upd H p (.lst ((Txt.split t " ").map V.str)) = H1 at hp1 s1 ⊢
    have hne : Txt.split t " " ≠ [] := by
      intro z
      rw [z] at hsp
      exact spl_ne 32 _ _ hsp.symm
    have hlen : ∀ w ∈ Txt.split t " ", w.length ≤ 100000 := fun w hw => by
      have h1 : tl w ∈ spl [32] 0 [] (tl t) := by rw [← hsp]; exact List.mem_map_of_mem hw
      have h2 := spl_len 32 _ _ _ h1
      rw [← len_tl, ← len_tl] at h2
      simp at h2
      omega
    generalize Txt.split t " " = ws at hp1 hne hlen k0 k1
    clear hsp hpar hp
    cases ws with
    | nil => exact absurd rfl hne
    | cons w0 r =>
      have ix0 : atI ((w0 :: r).map V.str) 0 = some (.str w0) := atI_nat (j := 0) rfl
      have kin : inV (.str w0) [.str "day", .str "float", .str "zoned", .str "fixed"] = isKind (tl w0) := kinds_in w0
      have fail : partsW ((w0 :: r).map tl) = none → ∀ H', Same H1 H' → Q .non H' := fun e H' s' => k0 e H' (s1.trans s')
      refine ⟨_, rfl, p, _, _, _, rfl, rfl, SqL.of hp1, ix0, a_KINDS, _, rfl, .inr (sK _), rfl, rfl, _, rfl, ?_⟩
      show if (!inV (.str w0) [.str "day", .str "float", .str "zoned", .str "fixed"]) = true then _ else _
      rw [kin]
      by_cases hk : isKind (tl w0) = true
      · rw [hk]
        refine iteF ?_
        refine ⟨_, rfl, p, _, rfl, .inl (SqL.of hp1), _, rfl, p, _, _, _, rfl, rfl, SqL.of hp1, ix0, rfl, _, rfl, ?_⟩
        rw [str_dec, kZoned_eq]
        by_cases hz : tl w0 = kZoned
        · rw [decide_eq_true hz]
          refine iteT ⟨rfl, _, rfl, ?_⟩
          by_cases hl : ((w0 :: r).map V.str).length = 5
          · rw [hl]
            refine iteF ?_
            obtain ⟨a, tt, b, z, rfl⟩ : ∃ a tt b z, r = [a, tt, b, z] := by
              rw [List.length_map, List.length_cons] at hl
              match r, hl with
              | [a, tt, b, z], _ => exact ⟨_, _, _, _, rfl⟩
            have ix1 : atI ((w0 :: [a, tt, b, z]).map V.str) 1 = some (.str a) := atI_nat (j := 1) rfl
            have ix2 : atI ((w0 :: [a, tt, b, z]).map V.str) 2 = some (.str tt) := atI_nat (j := 2) rfl
            have ix3 : atI ((w0 :: [a, tt, b, z]).map V.str) 3 = some (.str b) := atI_nat (j := 3) rfl
            have ix4 : atI ((w0 :: [a, tt, b, z]).map V.str) 4 = some (.str z) := atI_nat (j := 4) rfl
            have la : a.length ≤ 100000 := hlen a (by simp)
            have lb : b.length ≤ 100000 := hlen b (by simp)
            have lz : z.length ≤ 100000 := hlen z (by simp)
            refine ⟨_, rfl, p, _, _, _, rfl, rfl, SqL.of hp1, ix2, rfl, _, rfl, ?_⟩
            rw [str_dec, kTo_eq]
            by_cases ht2 : tl tt = kTo
            · rw [decide_eq_true ht2]
              refine iteF ?_
              have pw : partsW ((w0 :: [a, tt, b, z]).map tl) = (match numberOf (tl a), numberOf (tl b) with | some x, some y => if x ≤ y ∧ isName (tl z) = true then some (tl w0, x, y, some (tl z)) else none | _, _ => none) := if_pos ⟨hz, ht2⟩
              refine ⟨_, rfl, p, _, _, _, rfl, rfl, SqL.of hp1, ix1, a, rfl, la, fun H2 s2 => ?_⟩
              have hp2 := s2 _ _ hp1
              refine ⟨_, rfl, p, _, _, _, rfl, rfl, SqL.of hp2, ix3, b, rfl, lb, fun H3 s3 => ⟨_, _, rfl, ?_⟩⟩
              have hp3 := s3 _ _ hp2
              have s13 : Same H1 H3 := s2.trans s3
              cases ea : numberOf (tl a) with
              | none => exact ⟨_, rfl, rfl, _, rfl, iteT (iteT (fail (by rw [pw, ea]) H3 s13))⟩
              | some x =>
                cases eb : numberOf (tl b) with
                | none => exact ⟨_, rfl, rfl, _, rfl, iteF ⟨_, rfl, rfl, _, rfl, iteT (iteT (fail (by rw [pw, ea, eb]) H3 s13))⟩⟩
                | some y =>
                  refine ⟨_, rfl, rfl, _, rfl, iteF ⟨_, rfl, rfl, _, rfl, iteF ⟨_, rfl, _, rfl, _, _, rfl, rfl, _, rfl, ?_⟩⟩⟩
                  by_cases hxy : x ≤ y
                  · rw [decide_eq_false (show ¬ y < x by omega)]
                    refine iteF ?_
                    refine ⟨_, rfl, p, _, _, _, rfl, rfl, SqL.of hp3, ix0, rfl, _, rfl, ?_⟩
                    rw [str_dec, kZoned_eq, decide_eq_true hz]
                    refine iteF ?_
                    refine ⟨_, rfl, p, _, _, _, rfl, rfl, SqL.of hp3, ix4, _, rfl, .inl ⟨z, rfl, lz, fun H4 s4 => ⟨_, rfl, ?_⟩⟩⟩
                    have hp4 := s4 _ _ hp3
                    by_cases hn : isName (tl z) = true
                    · rw [hn]
                      refine iteT ⟨_, rfl, p, _, _, _, rfl, rfl, SqL.of hp4, ix0, _, rfl, _, rfl, _, rfl, p, _, _, _, rfl, rfl, SqL.of hp4, ix4, (by show 4 ≤ sizeLine; decide), fun q hq => ?_⟩
                      have s04 : Same H H4 := s1.trans (s13.trans s4)
                      have := k1 (tl w0, x, y, some (tl z)) (by rw [pw, ea, eb]; exact if_pos ⟨hxy, hn⟩) q (upd H4 q (.tup [.str w0, .int x, .int y, .str z])) (s04.free hq) (s04.trans (Same.new hq))
                      unfold partsV optZ at this
                      simp only [strOf_tl] at this
                      exact this upd_same
                    · have hn' : isName (tl z) = false := by simpa using hn
                      rw [hn']
                      exact iteF (fail (by rw [pw, ea, eb]; exact if_neg (fun q => hn q.2)) H4 (s13.trans s4))
                  · rw [decide_eq_true (show y < x by omega)]
                    exact iteT (fail (by rw [pw, ea, eb]; exact if_neg (fun q => hxy q.1)) H3 s13)
            · rw [decide_eq_false ht2]
              refine iteT (fail ?_ H1 (Same.refl _))
              exact if_neg (fun q => ht2 q.2)
          · have hl' : ¬ V.int (((w0 :: r).map V.str).length : Int) = V.int 5 := fun q => hl (by injection q with q; omega)
            rw [decide_eq_false hl']
            refine iteT (iteT (fail ?_ H1 (Same.refl _)))
            rw [List.length_map] at hl
            match r, hl with
            | [], _ => rfl
            | [_], _ => rfl
            | [_, _], _ => rfl
            | [_, _, _], _ => exact if_neg (fun q => q.2.1 hz)
            | [_, _, _, _], h => exact absurd rfl h
            | _ :: _ :: _ :: _ :: _ :: _, _ => rfl
        · rw [decide_eq_false hz]
          refine iteF ⟨rfl, _, rfl, ?_⟩
          by_cases hl : ((w0 :: r).map V.str).length = 4
          · rw [hl]
            refine iteF ?_
            obtain ⟨a, tt, b, rfl⟩ : ∃ a tt b, r = [a, tt, b] := by
              rw [List.length_map, List.length_cons] at hl
              match r, hl with
              | [a, tt, b], _ => exact ⟨_, _, _, rfl⟩
            have ix1 : atI ((w0 :: [a, tt, b]).map V.str) 1 = some (.str a) := atI_nat (j := 1) rfl
            have ix2 : atI ((w0 :: [a, tt, b]).map V.str) 2 = some (.str tt) := atI_nat (j := 2) rfl
            have ix3 : atI ((w0 :: [a, tt, b]).map V.str) 3 = some (.str b) := atI_nat (j := 3) rfl
            have la : a.length ≤ 100000 := hlen a (by simp)
            have lb : b.length ≤ 100000 := hlen b (by simp)
            refine ⟨_, rfl, p, _, _, _, rfl, rfl, SqL.of hp1, ix2, rfl, _, rfl, ?_⟩
            rw [str_dec, kTo_eq]
            by_cases ht2 : tl tt = kTo
            · rw [decide_eq_true ht2]
              refine iteF ?_
              have pw : partsW ((w0 :: [a, tt, b]).map tl) = (match numberOf (tl a), numberOf (tl b) with | some x, some y => if x ≤ y then some (tl w0, x, y, none) else none | _, _ => none) := if_pos ⟨hk, hz, ht2⟩
              refine ⟨_, rfl, p, _, _, _, rfl, rfl, SqL.of hp1, ix1, a, rfl, la, fun H2 s2 => ?_⟩
              have hp2 := s2 _ _ hp1
              refine ⟨_, rfl, p, _, _, _, rfl, rfl, SqL.of hp2, ix3, b, rfl, lb, fun H3 s3 => ⟨_, _, rfl, ?_⟩⟩
              have hp3 := s3 _ _ hp2
              have s13 : Same H1 H3 := s2.trans s3
              cases ea : numberOf (tl a) with
              | none => exact ⟨_, rfl, rfl, _, rfl, iteT (iteT (fail (by rw [pw, ea]) H3 s13))⟩
              | some x =>
                cases eb : numberOf (tl b) with
                | none => exact ⟨_, rfl, rfl, _, rfl, iteF ⟨_, rfl, rfl, _, rfl, iteT (iteT (fail (by rw [pw, ea, eb]) H3 s13))⟩⟩
                | some y =>
                  refine ⟨_, rfl, rfl, _, rfl, iteF ⟨_, rfl, rfl, _, rfl, iteF ⟨_, rfl, _, rfl, _, _, rfl, rfl, _, rfl, ?_⟩⟩⟩
                  by_cases hxy : x ≤ y
                  · rw [decide_eq_false (show ¬ y < x by omega)]
                    refine iteF ?_
                    refine ⟨_, rfl, p, _, _, _, rfl, rfl, SqL.of hp3, ix0, rfl, _, rfl, ?_⟩
                    rw [str_dec, kZoned_eq, decide_eq_false hz]
                    refine iteT ⟨_, rfl, p, _, _, _, rfl, rfl, SqL.of hp3, ix0, _, rfl, _, rfl, (by show 4 ≤ sizeLine; decide), fun q hq => ?_⟩
                    have s04 : Same H H3 := s1.trans s13
                    have := k1 (tl w0, x, y, none) (by rw [pw, ea, eb]; exact if_pos hxy) q (upd H3 q (.tup [.str w0, .int x, .int y, .non])) (s04.free hq) (s04.trans (Same.new hq))
                    unfold partsV optZ at this
                    simp only [strOf_tl] at this
                    exact this upd_same
                  · rw [decide_eq_true (show y < x by omega)]
                    exact iteT (fail (by rw [pw, ea, eb]; exact if_neg (fun q => hxy q)) H3 s13)
            · rw [decide_eq_false ht2]
              refine iteT (fail ?_ H1 (Same.refl _))
              exact if_neg (fun q => ht2 q.2.2)
          · have hl' : ¬ V.int (((w0 :: r).map V.str).length : Int) = V.int 4 := fun q => hl (by injection q with q; omega)
            rw [decide_eq_false hl']
            refine iteT (iteT (fail ?_ H1 (Same.refl _)))
            rw [List.length_map] at hl
            match r, hl with
            | [], _ => rfl
            | [_], _ => rfl
            | [_, _], _ => rfl
            | [_, _, _], h => exact absurd rfl h
            | [_, _, _, _], _ => exact if_neg (fun q => hz q.1)
            | _ :: _ :: _ :: _ :: _ :: _, _ => rfl
      · have hk' : isKind (tl w0) = false := by simpa using hk
        rw [hk']
        refine iteT (iteT (fail ?_ H1 (Same.refl _)))
        match r with
        | [] => rfl
        | [_] => rfl
        | [_, _] => rfl
        | [_, _, _] => exact if_neg (fun q => hk q.1)
        | [_, _, _, _] => exact if_neg (fun q => hk (by rw [show tl w0 = kZoned from q.1]; decide))
        | _ :: _ :: _ :: _ :: _ :: _ => rfl
end
end Toy

set_option Elab.async false
set_option linter.all false
set_option maxRecDepth 100000
set_option maxHeartbeats 4000000
namespace Toy
open PySem L2 TL EM
section
variable {P : Program} {w : World} {K : PySem.W.Frag} {mg : Str → Option Value} {base : Heap}
/-- the attributes of an entry -/
def fldsE (t : Str) (k : List Nat) (a b : Int) (z : Option (List Nat)) : List (Str × V) := [("text", .str t), ("kind", .str (strOf k)), ("first", .int a), ("last", .int b), ("zone", optZ z)]
/-- what the written part says of a class of instances -/
structure IsC (K : PySem.W.Frag) (C : Addr) : Prop where
  cl : Cls K C
  ha : PySem.W.findIn K (.ref C) "__class__" = some (some (.builtin "object.__class__"))
  hn : PySem.W.specialIn K (.builtin "object.__class__") "__get__" = some (some (.builtin "getset_descriptor.__get__"))
  ht : PySem.W.takesIn K (.builtin "object.__class__") = some true
  hm : PySem.W.mroIn K C (.type "object") = some true
theorem IsC.ty {C a dx : Addr} {fs : List (Str × V)} {H : Hp} (c : IsC K C) (h : H a = some (.ins C dx fs)) : TyX K H (.ref a) (.ref C) := .base (.ins h c.cl c.ha c.hn c.ht c.hm)
structure NoE (K : PySem.W.Frag) (C : Addr) : Prop where
  n1 : NoAttr K C "text"
  n2 : NoAttr K C "kind"
  n3 : NoAttr K C "first"
  n4 : NoAttr K C "last"
  n5 : NoAttr K C "zone"
structure EC (K : PySem.W.Frag) (mg : Str → Option Value) (CE CT : Addr) : Prop where
  gE : mg "Entry" = some (.ref CE)
  gT : mg "ToldEntry" = some (.ref CT)
  iE : IsC K CE
  iT : IsC K CT
  nE : NoE K CE
  nT : NoE K CT
  kT : PySem.W.kitOne K (.ref CT) (.ref CE) = some true
def OfE (CE CT C : Addr) : Prop := C = CE ∨ C = CT
theorem EC.ic {CE CT C : Addr} (e : EC K mg CE CT) (h : OfE CE CT C) : IsC K C := by
  rcases h with rfl | rfl
  · exact e.iE
  · exact e.iT
theorem EC.nc {CE CT C : Addr} (e : EC K mg CE CT) (h : OfE CE CT C) : NoE K C := by
  rcases h with rfl | rfl
  · exact e.nE
  · exact e.nT
theorem EC.kit {CE CT C : Addr} (e : EC K mg CE CT) (h : OfE CE CT C) : PySem.W.kitOne K (.ref C) (.ref CE) = some true := by
  rcases h with rfl | rfl
  · unfold PySem.W.kitOne; rw [if_pos (beq_self_eq_true _)]
  · exact e.kT
/-- an entry stands at e -/
def EntAt (C : Addr) (H : Hp) (e : Addr) (t : Str) (k : List Nat) (a b : Int) (z : Option (List Nat)) : Prop := ∃ dx, H e = some (.ins C dx (fldsE t k a b z))
theorem EntAt.same {C : Addr} {H H' : Hp} {e : Addr} {t : Str} {k : List Nat} {a b : Int} {z : Option (List Nat)} (s : Same H H') (h : EntAt C H e t k a b z) : EntAt C H' e t k a b z := by
  obtain ⟨dx, h⟩ := h
  exact ⟨dx, s _ _ h⟩
/-- all but x stands -/
def SameBut (x : Addr) (H H' : Hp) : Prop := ∀ b o, H b = some o → b ≠ x → H' b = some o
def spEInit (K : PySem.W.Frag) (CB : Addr) : Sp := fun vs H Q E => ∃ (x C dx : Addr) (v : V), vs = [.ref x, v] ∧ Cls K C ∧ NoE K C ∧ H x = some (.ins C dx []) ∧
  ((∃ t : Str, v = .str t ∧ t.length ≤ 90000 ∧ (∀ k a b z, parts (tl t) = some (k, a, b, z) → ∀ H', SameBut x H H' → H' x = some (.ins C dx (fldsE t k a b z)) → Q .non H') ∧
      (parts (tl t) = none → ∀ d H', Same H H' → H' d = none → E (.ref CB) (some d) (upd H' d (.xd [("line", .int 1)])))) ∨
   (∃ ty, TyX K H v ty ∧ PySem.W.kitOne K ty (.type "str") = some false ∧ ∀ d, H d = none → E (.ref CB) (some d) (upd H d (.xd [("line", .int 1)]))))
abbrev s_Entry___init__ : Stmt := inClass (top 14) 0
theorem sc_Entry___init__ : FnScope ["self", "text", "parts"] ["self", "text"] (defScope s_Entry___init__) := ⟨rfl, rfl, rfl, by decide +kernel, rfl, by decide +kernel, by decide +kernel⟩

theorem ok_EInit {f CB fB : Addr} {fd : FuncData} (F : Fun K "__init__" "Entry.__init__" s_Entry___init__ f fd) (T : TB mg) (cPar : Cal P w K mg base 2 "parts_of" ["text"] spParts)
    (TS : PySem.SupX.SupTxt K mg P "line" CB fB) (g_BadText : mg "BadText" = some (.ref CB)) : FnOk P w K mg base (L2.CX P w) 3 f fd ["self", "text"] (spEInit K CB) := by
  refine F.okX sc_Entry___init__ (fun vs H Q E h => ?_) (fun cdv A outer s H vs Q E hr h => ?_)
  · obtain ⟨x, C, dx, v, rfl, _⟩ := h
    rfl
  · obtain ⟨x, C, dx, v, rfl, cl, nc, hx, h⟩ := h
    have hr2 : Room 2 _ := hr
    refine ⟨_, (pss_cons (ps_set (i := 2) sc_Entry___init__.nd rfl (Or.inl rfl) (pe_ifExp (pt_val (pe_callB call_isi (by rfl) T.isinstance (by decide +kernel) (pa_cons (pv 1) (pa_cons (pe_bltn (v := .ty "str") (by rfl) T.str (by decide +kernel) rfl) pa_nil)))) (pe_cal cPar hr2 rfl (pa_cons (pv 1) pa_nil)) pe_non))
      (pss_cons (ps_if (pt_cmpR op_isN (pv 2) pe_non (nomark _))
        (pss_one (ps_raiseSup rfl TS g_BadText hr (takes_of rfl rfl rfl rfl) (pa_cons pe_int pa_nil)))
        pss_nil)
      (pss_cons (ps_fld (pv 0) (pv 1) rfl)
      (pss_one (ps_asg (pv 2) (pg_tup rfl (pgs_cons (pg_fld (pv 0)) (pgs_cons (pg_fld (pv 0)) (pgs_cons (pg_fld (pv 0)) (pgs_cons (pg_fld (pv 0)) pgs_nil)))))))))), ?_⟩
    rcases h with ⟨t, rfl, ht, k1, k2⟩ | ⟨ty, hty, hk, k⟩
    · refine ⟨_, rfl, _, _, _, _, true, rfl, .ty "str", .base (.str t), kit_ty (by decide +kernel), _, rfl, ?_⟩
      refine iteT ⟨_, rfl, t, rfl, ht, fun hn H' s' => ?_, fun r hr' p H' hp s' hpt => ?_⟩
      · refine ⟨_, rfl, rfl, _, rfl, iteT ⟨_, rfl, fun d hd => k2 hn d H' s' hd⟩⟩
      · obtain ⟨k, a, b, z⟩ := r
        refine ⟨_, rfl, rfl, _, rfl, iteF ?_⟩
        have hx' := s' _ _ hx
        have npx : p ≠ x := fun e => by rw [e, hx] at hp; cases hp
        refine ⟨_, rfl, _, rfl, x, C, dx, _, rfl, hx', cl, nc.n1, (by show 0 < 1000; decide), ?_⟩
        refine ⟨_, rfl, p, _, rfl, SqT.of (by rw [upd_ne npx]; exact hpt), rfl, ?_⟩
        refine ⟨_, _, rfl, _, rfl, x, C, dx, _, rfl, upd_same, cl, nc.n2, (by show 1 < 1000; decide), ?_⟩
        refine ⟨_, _, rfl, _, rfl, x, C, dx, _, rfl, upd_same, cl, nc.n3, (by show 2 < 1000; decide), ?_⟩
        refine ⟨_, _, rfl, _, rfl, x, C, dx, _, rfl, upd_same, cl, nc.n4, (by show 3 < 1000; decide), ?_⟩
        refine ⟨_, _, rfl, _, rfl, x, C, dx, _, rfl, upd_same, cl, nc.n5, (by show 4 < 1000; decide), rfl, ?_⟩
        refine k1 k a b z hr' _ (fun b' o e hb => ?_) ?_
        · rw [upd_ne hb, upd_ne hb, upd_ne hb, upd_ne hb, upd_ne hb]
          exact s' _ _ e
        · rw [upd_same]
          rfl
    · refine ⟨_, rfl, _, _, _, _, false, rfl, .ty "str", hty, hk, _, rfl, ?_⟩
      refine iteF ⟨_, rfl, rfl, _, rfl, iteT ⟨_, rfl, fun d hd => k d hd⟩⟩
end
end Toy

set_option Elab.async false
set_option linter.all false
set_option maxRecDepth 100000
set_option maxHeartbeats 4000000
namespace Toy
open PySem L2 TL EM
section
variable {P : Program} {w : World} {K : PySem.W.Frag} {mg : Str → Option Value} {base : Heap}
def spEq (K : PySem.W.Frag) (CE CT : Addr) : Sp := fun vs H Q _ => ∃ (e C : Addr) (v : V) (t : Str) (k : List Nat) (a b : Int) (z : Option (List Nat)), vs = [.ref e, v] ∧ OfE CE CT C ∧ EntAt C H e t k a b z ∧
  ((∃ (e' C' : Addr) (t' : Str) (k' : List Nat) (a' b' : Int) (z' : Option (List Nat)), v = .ref e' ∧ OfE CE CT C' ∧ EntAt C' H e' t' k' a' b' z' ∧ Q (.bl (decide (tl t = tl t'))) H) ∨
   (∃ ty, TyX K H v ty ∧ PySem.W.kitOne K ty (.ref CE) = some false ∧ Q (.bl false) H))
abbrev s_Entry___eq__ : Stmt := inClass (top 14) 1
theorem sc_Entry___eq__ : FnScope ["self", "other"] ["self", "other"] (defScope s_Entry___eq__) := ⟨rfl, rfl, rfl, by decide +kernel, rfl, by decide +kernel, by decide +kernel⟩

theorem ok_Eq {f CE CT : Addr} {fd : FuncData} (F : Fun K "__eq__" "Entry.__eq__" s_Entry___eq__ f fd) (T : TB mg) (C : EC K mg CE CT) : FnOk P w K mg base CX0 1 f fd ["self", "other"] (spEq K CE CT) := by
  refine F.ok sc_Entry___eq__ (fun vs H Q E h => ?_) (fun cdv A outer s H vs Q E hr h => ?_)
  · obtain ⟨e, C, v, t, k, a, b, z, rfl, _⟩ := h
    rfl
  · obtain ⟨e, C1, v, t, k, a, b, z, rfl, o1, ⟨dx, h1⟩, h⟩ := h
    refine ⟨_, (pss_one (ps_ret (pe_and (pe_callB call_isi (by rfl) T.isinstance (by decide +kernel) (pa_cons (pv 1) (pa_cons (pe_glob (v := .ref CE) rfl C.gE rfl) pa_nil))) (pe_one (pe_cmpR op_eq (pe_fld (pv 0) rfl) (pe_fld (pv 1) rfl) (nomark _)))))), ?_⟩
    rcases h with ⟨e', C', t', k', a', b', z', rfl, o2, ⟨dy, h2⟩, q⟩ | ⟨ty, hty, hk, q⟩
    · refine ⟨_, rfl, _, _, _, _, true, rfl, .own CE, (C.ic o2).ty h2, C.kit o2, _, rfl, iteT ?_⟩
      refine ⟨_, rfl, e, C1, dx, _, _, rfl, h1, (C.ic o1).cl, (C.nc o1).n1, rfl, _, rfl, e', C', dy, _, _, rfl, h2, (C.ic o2).cl, (C.nc o2).n1, rfl, rfl, ?_⟩
      rw [str_dec]
      exact q
    · exact ⟨_, rfl, _, _, _, _, false, rfl, .own CE, hty, hk, _, rfl, iteF q⟩
theorem log_ok {n : Int} (h : n.natAbs < 10 ^ 100) : n.natAbs.log2 < 1920 := by
  by_cases h0 : n.natAbs = 0
  · rw [h0]; decide
  · exact (Nat.log2_lt h0).mpr (Nat.lt_trans h (by decide +kernel))
theorem len_app (x y : Str) : (x ++ y).length = x.length + y.length := by rw [len_tl, tl_append, List.length_append, ← len_tl, ← len_tl]
theorem len_int {n : Int} (h : n.natAbs < 10 ^ 100) : (Str.ofString (toString n)).length ≤ 101 := by
  rw [len_tl, tl_int]
  exact intOf_len (by decide) h
theorem len_strOf (l : List Nat) : (strOf l).length = l.length := by rw [len_tl, tl_strOf]
def spTInit (K : PySem.W.Frag) : Sp := fun vs H Q _ => ∃ (x C dx : Addr) (k : List Nat) (a b : Int) (z : Option (List Nat)), vs = [.ref x, .str (strOf k), .int a, .int b, optZ z] ∧ Cls K C ∧ NoE K C ∧ H x = some (.ins C dx []) ∧
  k.length ≤ 1000 ∧ a.natAbs < 10 ^ 100 ∧ b.natAbs < 10 ^ 100 ∧ (∀ y, z = some y → y.length ≤ 1000) ∧ ∀ H', SameBut x H H' → H' x = some (.ins C dx (fldsE (strOf (canon k a b z)) k a b z)) → Q .non H'
abbrev s_ToldEntry___init__ : Stmt := inClass (top 15) 0
theorem sc_ToldEntry___init__ : FnScope ["self", "kind", "first", "last", "zone"] ["self", "kind", "first", "last", "zone"] (defScope s_ToldEntry___init__) := ⟨rfl, rfl, rfl, by decide +kernel, rfl, by decide +kernel, by decide +kernel⟩

theorem ok_TInit {f : Addr} {fd : FuncData} (F : Fun K "__init__" "ToldEntry.__init__" s_ToldEntry___init__ f fd) : FnOk P w K mg base CX0 1 f fd ["self", "kind", "first", "last", "zone"] (spTInit K) := by
  refine F.ok sc_ToldEntry___init__ (fun vs H Q E h => ?_) (fun cdv A outer s H vs Q E hr h => ?_)
  · obtain ⟨x, C, dx, k, a, b, z, rfl, _⟩ := h
    rfl
  · obtain ⟨x, C, dx, k, a, b, z, rfl, cl, nc, hx, hk, ha, hb, hz, q⟩ := h
    refine ⟨_, (Evl.pss_cut (ps_fld (pv 0) (pe_ifExp (pt_cmpR op_isN (pv 4) pe_non (nomark _)) (pe_joined (.cons (pe_fmt (pv 1)) (.cons pe_str (.cons (pe_fmt (pv 2)) (.cons pe_str (.cons (pe_fmt (pv 3)) .nil)))))) (pe_joined (.cons (pe_fmt (pv 1)) (.cons pe_str (.cons (pe_fmt (pv 2)) (.cons pe_str (.cons (pe_fmt (pv 3)) (.cons pe_str (.cons (pe_fmt (pv 4)) .nil))))))))) rfl)
      (pss_one (ps_asg (pe_tup (pa_cons (pv 1) (pa_cons (pv 2) (pa_cons (pv 3) (pa_cons (pv 4) pa_nil))))) (pg_tup rfl (pgs_cons (pg_fld (pv 0)) (pgs_cons (pg_fld (pv 0)) (pgs_cons (pg_fld (pv 0)) (pgs_cons (pg_fld (pv 0)) pgs_nil)))))))), ?_⟩
    have lk := len_strOf k
    have la := len_int ha
    have lb := len_int hb
    have l1 : (Str.ofString " ").length = 1 := by decide +kernel
    have l4 : (Str.ofString " to ").length = 4 := by decide +kernel
    have l0 : Str.empty.length = 0 := rfl
    have t1 : tl (Str.ofString " ") = [32] := by decide +kernel
    have t4 : tl (Str.ofString " to ") = [32] ++ kTo ++ [32] := by decide +kernel
    have t0 : tl Str.empty = [] := rfl
    have sz : ∀ {n : Nat}, n ≤ 100000 → n ≤ sizeLine := fun h => Evl.sz_of h
    refine ⟨fun σ' H' => σ' = [some (.ref x), some (.str (strOf k)), some (.int a), some (.int b), some (optZ z)] ∧ SameBut x H H' ∧ H' x = some (.ins C dx [("text", .str (strOf (canon k a b z)))]), ?_, ?_⟩
    · cases z with
      | none =>
        refine ⟨_, rfl, rfl, _, rfl, iteT ?_⟩
        refine ⟨_, rfl, .inl ⟨_, rfl, sz (by omega), _, rfl, sz (by simp only [len_app]; omega), ?_⟩⟩
        refine ⟨_, rfl, sz (by simp only [len_app]; omega), _, rfl, .inr ⟨_, rfl, log_ok ha, _, rfl, sz (by simp only [len_app]; omega), ?_⟩⟩
        refine ⟨_, rfl, sz (by simp only [len_app]; omega), _, rfl, .inr ⟨_, rfl, log_ok hb, _, rfl, sz (by simp only [len_app]; omega), ?_⟩⟩
        refine ⟨_, rfl, x, C, dx, _, rfl, hx, cl, nc.n1, (by show 0 < 1000; decide), rfl, fun b' o e hb => ?_, ?_⟩
        · rw [upd_ne hb]; exact e
        · rw [upd_same]
          have e : ((((Str.empty ++ strOf k) ++ (Str.ofString " ")) ++ (Str.ofString (toString a))) ++ (Str.ofString " to ")) ++ (Str.ofString (toString b)) = strOf (canon k a b none) := by
            refine ext_tl ?_
            simp only [tl_append, tl_strOf, tl_int, t1, t4, t0, canon, canonW, joinL, Option.toList, List.append_assoc, List.nil_append, List.cons_append, List.append_nil]
          rw [e]
          rfl
      | some y =>
        have ly := hz y rfl
        have ly' := len_strOf y
        refine ⟨_, rfl, rfl, _, rfl, iteF ?_⟩
        refine ⟨_, rfl, .inl ⟨_, rfl, sz (by omega), _, rfl, sz (by simp only [len_app]; omega), ?_⟩⟩
        refine ⟨_, rfl, sz (by simp only [len_app]; omega), _, rfl, .inr ⟨_, rfl, log_ok ha, _, rfl, sz (by simp only [len_app]; omega), ?_⟩⟩
        refine ⟨_, rfl, sz (by simp only [len_app]; omega), _, rfl, .inr ⟨_, rfl, log_ok hb, _, rfl, sz (by simp only [len_app]; omega), ?_⟩⟩
        refine ⟨_, rfl, sz (by simp only [len_app]; omega), _, rfl, .inl ⟨_, rfl, sz (by omega), _, rfl, sz (by simp only [len_app]; omega), ?_⟩⟩
        refine ⟨_, rfl, x, C, dx, _, rfl, hx, cl, nc.n1, (by show 0 < 1000; decide), rfl, fun b' o e hb => ?_, ?_⟩
        · rw [upd_ne hb]; exact e
        · rw [upd_same]
          have e : ((((((Str.empty ++ strOf k) ++ (Str.ofString " ")) ++ (Str.ofString (toString a))) ++ (Str.ofString " to ")) ++ (Str.ofString (toString b))) ++ (Str.ofString " ")) ++ strOf y = strOf (canon k a b (some y)) := by
            refine ext_tl ?_
            simp only [tl_append, tl_strOf, tl_int, t1, t4, t0, canon, canonW, joinL, Option.toList, List.append_assoc, List.nil_append, List.cons_append, List.append_nil]
          rw [e]
          rfl
    · rintro σ' H' ⟨rfl, sb, hx'⟩
      refine ⟨_, rfl, _, rfl, _, rfl, _, rfl, (by show 4 ≤ sizeLine; decide), fun p hp => ⟨p, _, rfl, SqT.of upd_same, rfl, ?_⟩⟩
      have npx : x ≠ p := fun e => by rw [e] at hx'; rw [hx'] at hp; cases hp
      have hx2 : (upd H' p (.tup [.str (strOf k), .int a, .int b, optZ z])) x = some (.ins C dx [("text", .str (strOf (canon k a b z)))]) := by rw [upd_ne npx]; exact hx'
      refine ⟨_, _, rfl, _, rfl, x, C, dx, _, rfl, hx2, cl, nc.n2, (by show 1 < 1000; decide), ?_⟩
      refine ⟨_, _, rfl, _, rfl, x, C, dx, _, rfl, upd_same, cl, nc.n3, (by show 2 < 1000; decide), ?_⟩
      refine ⟨_, _, rfl, _, rfl, x, C, dx, _, rfl, upd_same, cl, nc.n4, (by show 3 < 1000; decide), ?_⟩
      refine ⟨_, _, rfl, _, rfl, x, C, dx, _, rfl, upd_same, cl, nc.n5, (by show 4 < 1000; decide), rfl, ?_⟩
      refine q _ (fun b' o e hb' => ?_) ?_
      · have h1 := sb _ _ e hb'
        rw [upd_ne hb', upd_ne hb', upd_ne hb', upd_ne hb', upd_ne (ne_of_none h1 hp)]
        exact h1
      · rw [upd_same]
        rfl
end
end Toy

set_option Elab.async false
set_option linter.all false
set_option maxRecDepth 100000
set_option maxHeartbeats 4000000
namespace Toy
open PySem L2 TL EM
section
variable {P : Program} {w : World} {K : PySem.W.Frag} {mg : Str → Option Value} {base : Heap}
def gapOf (k : List Nat) (n : Int) : Int := if k = kDay then n else n * 1440
def spShift (CE CT : Addr) (g : Int → Int → Int) : Sp := fun vs H Q _ => ∃ (e C : Addr) (n : Int) (t : Str) (k : List Nat) (a b : Int) (z : Option (List Nat)), vs = [.ref e, .int n] ∧ OfE CE CT C ∧ EntAt C H e t k a b z ∧
  k.length ≤ 1000 ∧ (g a (gapOf k n)).natAbs < 10 ^ 100 ∧ (g b (gapOf k n)).natAbs < 10 ^ 100 ∧ (∀ y, z = some y → y.length ≤ 1000) ∧
  ∀ p H', H p = none → Same H H' → EntAt CT H' p (strOf (canon k (g a (gapOf k n)) (g b (gapOf k n)) z)) k (g a (gapOf k n)) (g b (gapOf k n)) z → Q (.ref p) H'
abbrev s_Entry___add__ : Stmt := inClass (top 14) 2
theorem sc_Entry___add__ : FnScope ["self", "many", "gap"] ["self", "many"] (defScope s_Entry___add__) := ⟨rfl, rfl, rfl, by decide +kernel, rfl, by decide +kernel, by decide +kernel⟩

theorem ok_Add {f CE CT fT : Addr} {fd fdT : FuncData} (F : Fun K "__add__" "Entry.__add__" s_Entry___add__ f fd) (C : EC K mg CE CT) (MT : Mk K CT fT) (GT : FnOk P w K mg base CX0 1 fT fdT ["self", "kind", "first", "last", "zone"] (spTInit K)) (bT : Binds K fdT ["self", "kind", "first", "last", "zone"] [])
    (hMin : ∃ t, mg "MINUTES" = some (.int 1440 t)) : FnOk P w K mg base CX0 3 f fd ["self", "many"] (spShift CE CT (fun a g => a + g)) := by
  obtain ⟨tM, g_MINUTES⟩ := hMin
  refine F.ok sc_Entry___add__ (fun vs H Q E h => ?_) (fun cdv A outer s H vs Q E hr h => ?_)
  · obtain ⟨e, C1, n, t, k, a, b, z, rfl, _⟩ := h
    rfl
  · obtain ⟨e, C1, n, t, k, a, b, z, rfl, o1, ⟨dx, h1⟩, hk, ha, hb, hz, q⟩ := h
    have hrT : Room (1 + 1) _ := hr
    refine ⟨_, (Evl.pss_cut (ps_set (i := 2) sc_Entry___add__.nd rfl (Or.inl rfl) (pe_ifExp (pt_cmpR op_eq (pe_fld (pv 0) rfl) pe_str (nomark _)) (pv 1) (pe_op op_mul (pv 1) (pe_glob (v := .int 1440) rfl g_MINUTES ⟨_, rfl⟩))))
      (pss_one (ps_ret (pe_make MT GT hrT rfl C.gT bT .nil pass0 (pa_cons (pe_fld (pv 0) rfl) (pa_cons (pe_op op_add (pe_fld (pv 0) rfl) (pv 2)) (pa_cons (pe_op op_add (pe_fld (pv 0) rfl) (pv 2)) (pa_cons (pe_fld (pv 0) rfl) pa_nil)))))))), ?_⟩
    refine ⟨fun σ' H' => σ' = [some (.ref e), some (.int n), some (.int (gapOf k n))] ∧ H' = H, ?_, ?_⟩
    · refine ⟨_, rfl, e, C1, dx, _, _, rfl, h1, (C.ic o1).cl, (C.nc o1).n2, rfl, rfl, _, rfl, ?_⟩
      rw [str_dec, kDay_eq, tl_strOf]
      by_cases hd : k = kDay
      · rw [decide_eq_true hd]
        refine iteT ⟨_, rfl, ?_, rfl⟩
        unfold gapOf
        rw [if_pos hd]
        rfl
      · rw [decide_eq_false hd]
        refine iteF ⟨_, rfl, _, _, rfl, rfl, .inr ⟨by decide, by decide⟩, ?_, rfl⟩
        unfold gapOf
        rw [if_neg hd]
        rfl
    · rintro σ' H' ⟨rfl, rfl⟩
      refine ⟨_, rfl, e, C1, dx, _, _, rfl, h1, (C.ic o1).cl, (C.nc o1).n2, rfl, ?_⟩
      refine ⟨_, rfl, e, C1, dx, _, _, rfl, h1, (C.ic o1).cl, (C.nc o1).n3, rfl, _, rfl, _, _, rfl, rfl, ?_⟩
      refine ⟨_, rfl, e, C1, dx, _, _, rfl, h1, (C.ic o1).cl, (C.nc o1).n4, rfl, _, rfl, _, _, rfl, rfl, ?_⟩
      refine ⟨_, rfl, e, C1, dx, _, _, rfl, h1, (C.ic o1).cl, (C.nc o1).n5, rfl, fun x dy nx ndy ne => ?_⟩
      refine ⟨x, CT, dy, k, a + gapOf k n, b + gapOf k n, z, rfl, C.iT.cl, C.nT, upd_same, hk, ha, hb, hz, fun H2 sb hx2 => ⟨rfl, ?_⟩⟩
      refine q x H2 nx (fun b' o e' => sb b' o ?_ (ne_of_none e' nx)) ⟨dy, hx2⟩
      rw [upd_ne (ne_of_none e' nx), upd_ne (ne_of_none e' ndy)]
      exact e'
abbrev s_Entry___sub__ : Stmt := inClass (top 14) 3
theorem sc_Entry___sub__ : FnScope ["self", "many", "gap"] ["self", "many"] (defScope s_Entry___sub__) := ⟨rfl, rfl, rfl, by decide +kernel, rfl, by decide +kernel, by decide +kernel⟩

theorem ok_Sub {f CE CT fT : Addr} {fd fdT : FuncData} (F : Fun K "__sub__" "Entry.__sub__" s_Entry___sub__ f fd) (C : EC K mg CE CT) (MT : Mk K CT fT) (GT : FnOk P w K mg base CX0 1 fT fdT ["self", "kind", "first", "last", "zone"] (spTInit K)) (bT : Binds K fdT ["self", "kind", "first", "last", "zone"] [])
    (hMin : ∃ t, mg "MINUTES" = some (.int 1440 t)) : FnOk P w K mg base CX0 3 f fd ["self", "many"] (spShift CE CT (fun a g => a - g)) := by
  obtain ⟨tM, g_MINUTES⟩ := hMin
  refine F.ok sc_Entry___sub__ (fun vs H Q E h => ?_) (fun cdv A outer s H vs Q E hr h => ?_)
  · obtain ⟨e, C1, n, t, k, a, b, z, rfl, _⟩ := h
    rfl
  · obtain ⟨e, C1, n, t, k, a, b, z, rfl, o1, ⟨dx, h1⟩, hk, ha, hb, hz, q⟩ := h
    have hrT : Room (1 + 1) _ := hr
    refine ⟨_, (Evl.pss_cut (ps_set (i := 2) sc_Entry___sub__.nd rfl (Or.inl rfl) (pe_ifExp (pt_cmpR op_eq (pe_fld (pv 0) rfl) pe_str (nomark _)) (pv 1) (pe_op op_mul (pv 1) (pe_glob (v := .int 1440) rfl g_MINUTES ⟨_, rfl⟩))))
      (pss_one (ps_ret (pe_make MT GT hrT rfl C.gT bT .nil pass0 (pa_cons (pe_fld (pv 0) rfl) (pa_cons (pe_op op_sub (pe_fld (pv 0) rfl) (pv 2)) (pa_cons (pe_op op_sub (pe_fld (pv 0) rfl) (pv 2)) (pa_cons (pe_fld (pv 0) rfl) pa_nil)))))))), ?_⟩
    refine ⟨fun σ' H' => σ' = [some (.ref e), some (.int n), some (.int (gapOf k n))] ∧ H' = H, ?_, ?_⟩
    · refine ⟨_, rfl, e, C1, dx, _, _, rfl, h1, (C.ic o1).cl, (C.nc o1).n2, rfl, rfl, _, rfl, ?_⟩
      rw [str_dec, kDay_eq, tl_strOf]
      by_cases hd : k = kDay
      · rw [decide_eq_true hd]
        refine iteT ⟨_, rfl, ?_, rfl⟩
        unfold gapOf
        rw [if_pos hd]
        rfl
      · rw [decide_eq_false hd]
        refine iteF ⟨_, rfl, _, _, rfl, rfl, .inr ⟨by decide, by decide⟩, ?_, rfl⟩
        unfold gapOf
        rw [if_neg hd]
        rfl
    · rintro σ' H' ⟨rfl, rfl⟩
      refine ⟨_, rfl, e, C1, dx, _, _, rfl, h1, (C.ic o1).cl, (C.nc o1).n2, rfl, ?_⟩
      refine ⟨_, rfl, e, C1, dx, _, _, rfl, h1, (C.ic o1).cl, (C.nc o1).n3, rfl, _, rfl, _, _, rfl, rfl, ?_⟩
      refine ⟨_, rfl, e, C1, dx, _, _, rfl, h1, (C.ic o1).cl, (C.nc o1).n4, rfl, _, rfl, _, _, rfl, rfl, ?_⟩
      refine ⟨_, rfl, e, C1, dx, _, _, rfl, h1, (C.ic o1).cl, (C.nc o1).n5, rfl, fun x dy nx ndy ne => ?_⟩
      refine ⟨x, CT, dy, k, a - gapOf k n, b - gapOf k n, z, rfl, C.iT.cl, C.nT, upd_same, hk, ha, hb, hz, fun H2 sb hx2 => ⟨rfl, ?_⟩⟩
      refine q x H2 nx (fun b' o e' => sb b' o ?_ (ne_of_none e' nx)) ⟨dy, hx2⟩
      rw [upd_ne (ne_of_none e' nx), upd_ne (ne_of_none e' ndy)]
      exact e'
end
end Toy

set_option Elab.async false
set_option linter.all false
set_option maxRecDepth 100000
set_option maxHeartbeats 4000000
namespace Toy
open PySem L2 TL EM
section
variable {P : Program} {w : World} {K : PySem.W.Frag} {mg : Str → Option Value} {base : Heap}
/-- the pen: cells, at, left -/
def penD (c : Addr) (a l : Int) : List (Key × V) := [(.inr "cells", .ref c), (.inr "at", .int a), (.inr "left", .int l)]
theorem pen_cells (c : Addr) (a l : Int) : valV (penD c a l) (.inr "cells" : Key) = some (.ref c) := rfl
theorem pen_at (c : Addr) (a l : Int) : valV (penD c a l) (.inr "at" : Key) = some (.int a) := rfl
theorem pen_left (c : Addr) (a l : Int) : valV (penD c a l) (.inr "left" : Key) = some (.int l) := rfl
theorem pen_pat (c : Addr) (a l n : Int) : putK (penD c a l) (.inr "at" : Key) (.int n) = penD c n l := rfl
theorem pen_pleft (c : Addr) (a l n : Int) : putK (penD c a l) (.inr "left" : Key) (.int n) = penD c a n := rfl
structure PenAt (H : Hp) (p c : Addr) (B : Nat) : Prop where
  ex : ∃ (ns : List Int) (a l : Int), H p = some (.dK (penD c a l)) ∧ H c = some (.lst (ns.map V.int)) ∧ 0 ≤ a ∧ a ≤ B
/-- all but p stands as it stood -/
def But (p : Addr) (H H' : Hp) : Prop := ∀ b o, H b = some o → b ≠ p → H' b = some o
theorem But.refl (p : Addr) (H : Hp) : But p H H := fun _ _ h _ => h
theorem But.trans {p : Addr} {H H1 H2 : Hp} (a : But p H H1) (b : But p H1 H2) : But p H H2 := fun c o h n => b c o (a c o h n) n
theorem But.of {p : Addr} {H H' : Hp} (a : Same H H') : But p H H' := fun b o h _ => a b o h
def spDraw : Sp := fun vs H Q _ => ∃ (p c : Addr) (m : Int) (B : Nat), vs = [.ref p, .int m] ∧ PenAt H p c B ∧ 0 < m ∧ m < 1073741824 ∧ B < 1000000000000 ∧
  ∀ (n : Int) (H' : Hp), 0 ≤ n → n < m → PenAt H' p c (B + 1) → But p H H' → Q (.int n) H'
theorem dpInts (K : PySem.W.Frag) (H : Hp) : ∀ ns : List Int, DpAll K H (ns.map V.int) (ns.map PyData.int)
  | [] => .nil
  | n :: ns => .cons (.int n) (dpInts K H ns)
theorem layInts : ∀ ns : List Int, PyData.canLayAll0 (ns.map PyData.int) = true
  | [] => rfl
  | n :: ns => by show (PyData.canLay0 (.int n) && PyData.canLayAll0 (ns.map PyData.int)) = true; rw [layInts ns]; rfl
theorem depInts : ∀ ns : List Int, PyData.depthAll (ns.map PyData.int) = 0
  | [] => rfl
  | n :: ns => by show max (PyData.depth (.int n)) (PyData.depthAll (ns.map PyData.int)) = 0; rw [depInts ns]; rfl
theorem shInts (ns : List Int) : SeqAt.shaped (.list (ns.map PyData.int)) = true := by
  unfold SeqAt.shaped
  have h1 : PyData.canLay0 (.list (ns.map PyData.int)) = true := layInts ns
  have h2 : PyData.depth (.list (ns.map PyData.int)) = 1 := by show PyData.depthAll (ns.map PyData.int) + 1 = 1; rw [depInts]
  rw [h1, h2]; rfl
theorem eqvNil (ns : List Int) : PyData.eqv (.list (ns.map PyData.int)) (.list []) = decide (ns = []) := by
  cases ns with
  | nil => rfl
  | cons n r => rfl
abbrev s__law_draw : Stmt := top 18
theorem sc__law_draw : FnScope ["_law_pen_here", "_law_many", "_law_digit", "_law_spot", "_law_cell", "_law_mixed"] ["_law_pen_here", "_law_many"] (defScope s__law_draw) := ⟨rfl, rfl, rfl, by decide +kernel, rfl, by decide +kernel, by decide +kernel⟩

theorem ok_draw {f : Addr} {fd : FuncData} (F : Fun K "_law_draw" "_law_draw" s__law_draw f fd) (T : TB mg) : FnOk P w K mg base CX0 1 f fd ["_law_pen_here", "_law_many"] spDraw := by
  refine F.ok sc__law_draw (fun vs H Q E h => ?_) (fun cdv A outer s H vs Q E hr h => ?_)
  · obtain ⟨p, c, m, B, rfl, _⟩ := h
    rfl
  · obtain ⟨p, c, m, B, rfl, ⟨ns, a, l, hp, hc, a0, aB⟩, m0, m1, hB, k⟩ := h
    have hu := hu_of hr
    have npc : c ≠ p := ne_of hc hp (by intro z; cases z)
    refine ⟨_, (pss_cons (ps_if (pt_cmpR op_ge (pe_dget hu (pv 0) pe_str (fun _ _ => rfl)) (pv 1) (nomark _))
        (pss_cons (ps_set (i := 2) sc__law_draw.nd rfl (Or.inl rfl) (pe_op op_mod (pe_callTy call_int1 (by rfl) T.int (by decide +kernel) (pa_cons (pe_dget hu (pv 0) pe_str (fun _ _ => rfl)) pa_nil)) (pv 1)))
      (pss_cons (ps_dput hu (pv 0) pe_str (pe_op op_fdiv (pe_dget hu (pv 0) pe_str (fun _ _ => rfl)) (pv 1)) rfl)
      (pss_one (ps_ret (pv 2)))))
        pss_nil)
      (pss_cons (ps_set (i := 3) sc__law_draw.nd rfl (Or.inl rfl) (pe_dget hu (pv 0) pe_str (fun _ _ => rfl)))
      (pss_cons (ps_dput hu (pv 0) pe_str (pe_op op_add (pv 3) pe_int) rfl)
      (pss_cons (ps_set (i := 4) sc__law_draw.nd rfl (Or.inl rfl) (pe_op op_add (pe_op op_mul pe_int (pv 3)) pe_int))
      (Evl.pss_cut (ps_if (pt_cmpR (op_neD hr.units) (pe_dget hu (pv 0) pe_str (fun _ _ => rfl)) (pe_lst pa_nil) (nomark _))
        (pss_one (ps_set (i := 4) sc__law_draw.nd rfl (Or.inl rfl) (pe_ix ix_list (pe_dget hu (pv 0) pe_str (fun _ _ => rfl)) (pe_op op_mod (pe_callTy call_int1 (by rfl) T.int (by decide +kernel) (pa_cons (pv 3) pa_nil)) (pe_callB call_len_seq (by rfl) T.len PySem.boot_len (pa_cons (pe_dget hu (pv 0) pe_str (fun _ _ => rfl)) pa_nil))) (fun _ _ => rfl))))
        pss_nil)
      (Evl.pss_cut (ps_if (PW.pt (pw_and (pt_cmpR op_lt (pv 3) (pe_callB call_len_seq (by rfl) T.len PySem.boot_len (pa_cons (pe_dget hu (pv 0) pe_str (fun _ _ => rfl)) pa_nil)) (nomark _)) (pw_and1 (pt_cmpR op_ge (pv 4) (pe_op op_pow pe_int pe_int) (nomark _)))))
        (pss_cons (ps_dput hu (pv 0) pe_str (pe_op op_fdiv (pe_op op_sub (pv 4) (pe_op op_pow pe_int pe_int)) (pv 1)) rfl)
      (pss_one (ps_ret (pe_op op_mod (pe_callTy call_int1 (by rfl) T.int (by decide +kernel) (pa_cons (pe_op op_sub (pv 4) (pe_op op_pow pe_int pe_int)) pa_nil)) (pv 1)))))
        pss_nil)
      (pss_cons (ps_set (i := 5) sc__law_draw.nd rfl (Or.inl rfl) (pe_op op_add (pe_op op_add (pe_op op_mul (pe_op op_add (pe_op op_mod (pe_callTy call_int1 (by rfl) T.int (by decide +kernel) (pa_cons (pv 4) pa_nil)) pe_int) pe_int) (pe_op op_add (pe_op op_mul pe_int (pv 3)) pe_int)) (pe_op op_mul (pe_op op_mul pe_int (pv 3)) (pv 3))) pe_int))
      (pss_cons (ps_set (i := 5) sc__law_draw.nd rfl (Or.inl rfl) (pe_op op_mod (pe_callTy call_int1 (by rfl) T.int (by decide +kernel) (pa_cons (pv 5) pa_nil)) pe_int))
      (pss_cons (ps_set (i := 5) sc__law_draw.nd rfl (Or.inl rfl) (pe_op op_mod (pe_callTy call_int1 (by rfl) T.int (by decide +kernel) (pa_cons (pe_op op_mul (pv 5) (pe_op op_add (pv 5) pe_int)) pa_nil)) pe_int))
      (pss_cons (ps_set (i := 5) sc__law_draw.nd rfl (Or.inl rfl) (pe_op op_mod (pe_callTy call_int1 (by rfl) T.int (by decide +kernel) (pa_cons (pe_op op_mul (pv 5) (pv 5)) pa_nil)) pe_int))
      (pss_one (ps_ret (pe_op op_mod (pe_callTy call_int1 (by rfl) T.int (by decide +kernel) (pa_cons (pe_op op_fdiv (pv 5) pe_int) pa_nil)) (pv 1)))))))))))))), ?_⟩
    have gl : ∀ {H' : Hp} {a l : Int}, H' p = some (.dK (penD c a l)) → DGet H' p (.str "left") (some (.int l)) := fun h => DGet.k (k := Sum.inr "left") h
    have ga : ∀ {H' : Hp} {a l : Int}, H' p = some (.dK (penD c a l)) → DGet H' p (.str "at") (some (.int a)) := fun h => DGet.k (k := Sum.inr "at") h
    have gc : ∀ {H' : Hp} {a l : Int}, H' p = some (.dK (penD c a l)) → DGet H' p (.str "cells") (some (.ref c)) := fun h => DGet.k (k := Sum.inr "cells") h
    have pl : ∀ {H' : Hp} {a l n : Int}, H' p = some (.dK (penD c a l)) → DPut H' p (.str "left") (.int n) (upd H' p (.dK (penD c a n))) := fun h => DPut.k (k := Sum.inr "left") h (small1000 (show 3 ≤ 1000 by decide))
    have pa : ∀ {H' : Hp} {a l n : Int}, H' p = some (.dK (penD c a l)) → DPut H' p (.str "at") (.int n) (upd H' p (.dK (penD c n l))) := fun h => DPut.k (k := Sum.inr "at") h (small1000 (show 3 ≤ 1000 by decide))
    refine ⟨_, rfl, p, _, rfl, gl hp, _, rfl, _, _, rfl, rfl, _, rfl, ?_⟩
    refine ite2 (fun h1 => ?_) (fun h1 => ?_)
    · refine ⟨_, rfl, p, _, rfl, gl hp, .inl ⟨_, rfl, _, rfl, _, _, rfl, rfl, m0, ?_⟩⟩
      refine ⟨_, rfl, p, _, rfl, gl hp, _, rfl, _, _, rfl, rfl, ⟨m0, m1⟩, _, rfl, p, _, rfl, pl hp, _, rfl, ?_⟩
      exact k _ _ (Int.emod_nonneg _ (by omega)) (Int.emod_lt_of_pos _ m0) ⟨ns, a, _, upd_same, by rw [upd_ne npc]; exact hc, a0, by omega⟩ fun b o e n => by rw [upd_ne n]; exact e
    · -- spot = pen['at']; pen['at'] = spot + 1; cell = 37 * spot + 5
      refine ⟨_, rfl, p, _, rfl, ga hp, ?_⟩
      refine ⟨_, rfl, _, _, rfl, rfl, _, rfl, p, _, rfl, pa hp, ?_⟩
      have hp1 : (upd H p (.dK (penD c (a + 1) l))) p = some (.dK (penD c (a + 1) l)) := upd_same
      have hc1 : (upd H p (.dK (penD c (a + 1) l))) c = some (.lst (ns.map V.int)) := by rw [upd_ne npc]; exact hc
      refine ⟨_, rfl, _, _, rfl, rfl, .inl ⟨by decide, by decide⟩, _, _, rfl, rfl, ?_⟩
      -- if pen['cells'] != []
      refine ⟨fun σ' H' => ∃ cell : Int, σ' = [some (.ref p), some (.int m), none, some (.int a), some (.int cell), none] ∧ H' p = some (.dK (penD c (a + 1) l)) ∧ H' c = some (.lst (ns.map V.int)) ∧ But p H H', ?_, ?_⟩
      · refine ⟨_, rfl, p, _, rfl, gc hp1, (by show 0 ≤ sizeLine; decide), fun q hq => ?_⟩
        have nqp : p ≠ q := ne_of_none hp1 hq
        have nqc : c ≠ q := ne_of_none hc1 hq
        have hp2 : (upd (upd H p (.dK (penD c (a + 1) l))) q (.lst [])) p = some (.dK (penD c (a + 1) l)) := by rw [upd_ne nqp]; exact hp1
        have hc2 : (upd (upd H p (.dK (penD c (a + 1) l))) q (.lst [])) c = some (.lst (ns.map V.int)) := by rw [upd_ne nqc]; exact hc1
        have hq2 : (upd (upd H p (.dK (penD c (a + 1) l))) q (.lst [])) q = some (.lst []) := upd_same
        have bt : But p H (upd (upd H p (.dK (penD c (a + 1) l))) q (.lst [])) := fun b o e n => by
          rw [upd_ne, upd_ne n]
          · exact e
          · intro z; subst z; rw [upd_ne n, e] at hq; cases hq
        clear hp1 hc1 hp hc
        generalize upd (upd H p (.dK (penD c (a + 1) l))) q (.lst []) = H2 at hp2 hc2 hq2 bt ⊢
        refine ⟨.list (ns.map PyData.int), .list [], .lst (SqL.of hc2) (dpInts _ _ ns), .lst (SqL.of hq2) .nil, shInts ns, rfl, _, rfl, ?_⟩
        rw [eqvNil]
        by_cases hn : ns = []
        · rw [decide_eq_true hn]
          exact iteF ⟨_, rfl, hp2, hc2, bt⟩
        · rw [decide_eq_false hn]
          have l0 : 0 < ns.length := List.length_pos_iff.mpr hn
          have l1 : (0 : Int) < ((ns.map V.int).length : Int) := by rw [List.length_map]; omega
          refine iteT ⟨_, rfl, p, _, rfl, gc hp2, _, rfl, .inl ⟨_, rfl, _, rfl, p, _, rfl, gc hp2, c, _, rfl, .inl (SqL.of hc2), _, _, rfl, rfl, l1, ?_⟩⟩
          have e0 := Int.emod_nonneg a (show ((ns.map V.int).length : Int) ≠ 0 by omega)
          have e1 := Int.emod_lt_of_pos a l1
          rw [List.length_map] at e0 e1 ⊢
          have hix : ns[(a % (ns.length : Int)).toNat]? = some (ns[(a % (ns.length : Int)).toNat]'(by omega)) := List.getElem?_eq_getElem (by omega)
          refine ⟨c, _, _, .int (ns[(a % (ns.length : Int)).toNat]'(by omega)), rfl, rfl, SqL.of hc2, at_of (j := (a % (ns.length : Int)).toNat) (by omega) (by rw [List.getElem?_map, hix]; rfl), ?_⟩
          exact ⟨_, rfl, hp2, hc2, bt⟩
      · clear hp hc hp1 hc1
        rintro σ' H2 ⟨cell, rfl, hp, hc, bt⟩
        have pen : ∀ {H' : Hp} {l' : Int}, H' p = some (.dK (penD c (a + 1) l')) → H' c = some (.lst (ns.map V.int)) → PenAt H' p c (B + 1) := fun h1 h2 => ⟨ns, a + 1, _, h1, h2, by omega, by omega⟩
        have c18 : CPow 10 18 := ⟨by decide, by decide, by decide⟩
        refine ⟨fun σ' H' => σ' = [some (.ref p), some (.int m), none, some (.int a), some (.int cell), none] ∧ H' = H2, ?_, ?_⟩
        · refine ⟨_, rfl, _, rfl, p, _, rfl, gc hp, c, _, rfl, .inl (SqL.of hc), _, _, rfl, rfl, _, rfl, ?_⟩
          refine ite2 (fun _ => ?_) (fun _ => iteF ⟨rfl, rfl⟩)
          refine ⟨_, rfl, _, _, rfl, rfl, c18, _, _, rfl, rfl, _, rfl, ?_⟩
          refine ite2 (fun _ => ?_) (fun _ => ⟨rfl, rfl⟩)
          refine ⟨_, rfl, _, _, rfl, rfl, c18, _, _, rfl, rfl, _, rfl, _, _, rfl, rfl, ⟨m0, m1⟩, _, rfl, p, _, rfl, pl hp, ?_⟩
          refine ⟨_, rfl, _, _, rfl, rfl, c18, _, _, rfl, rfl, .inl ⟨_, rfl, _, rfl, _, _, rfl, rfl, m0, ?_⟩⟩
          exact k _ _ (Int.emod_nonneg _ (by omega)) (Int.emod_lt_of_pos _ m0) (pen upd_same (by rw [upd_ne npc]; exact hc)) fun b o e n => by rw [upd_ne n]; exact bt b o e n
        · rintro σ' H' ⟨rfl, rfl⟩
          have b1 := Int.emod_nonneg cell (show (2147483629 : Int) ≠ 0 by decide)
          have b2 := Int.emod_lt_of_pos cell (show (0 : Int) < 2147483629 by decide)
          have m1' : CMul (cell % 2147483629 + 1) (97 * a + 40693) := .inl ⟨by omega, by omega⟩
          have m2' : CMul (69623 * a) a := .inr ⟨by omega, by omega⟩
          refine ⟨_, rfl, .inl ⟨_, rfl, _, _, rfl, rfl, (show (0 : Int) < 2147483629 by decide), _, _, rfl, rfl, _, rfl, _, _, rfl, rfl, .inl ⟨by decide, by decide⟩, _, _, rfl, rfl, _, _, rfl, rfl, m1', ?_⟩⟩
          refine ⟨_, rfl, _, _, rfl, rfl, .inl ⟨by decide, by decide⟩, _, rfl, _, _, rfl, rfl, m2', _, _, rfl, rfl, _, _, rfl, rfl, ?_⟩
          refine ⟨_, rfl, .inl ⟨_, rfl, _, _, rfl, rfl, (show (0 : Int) < 2147483647 by decide), ?_⟩⟩
          generalize hx : ((cell % 2147483629 + 1) * (97 * a + 40693) + 69623 * a * a + 11) % 2147483647 = x
          have x1 : 0 ≤ x := by rw [← hx]; exact Int.emod_nonneg _ (by decide)
          have x2 : x < 2147483647 := by rw [← hx]; exact Int.emod_lt_of_pos _ (by decide)
          refine ⟨_, rfl, _, rfl, _, _, rfl, rfl, _, _, rfl, rfl, .inl ⟨by omega, by omega⟩, .inl ⟨_, rfl, _, _, rfl, rfl, (show (0 : Int) < 2147483587 by decide), ?_⟩⟩
          generalize hy : (x * (x + 16811)) % 2147483587 = y
          have y1 : 0 ≤ y := by rw [← hy]; exact Int.emod_nonneg _ (by decide)
          have y2 : y < 2147483587 := by rw [← hy]; exact Int.emod_lt_of_pos _ (by decide)
          refine ⟨_, rfl, _, rfl, _, _, rfl, rfl, .inl ⟨by omega, by omega⟩, .inl ⟨_, rfl, _, _, rfl, rfl, (show (0 : Int) < 2147483563 by decide), ?_⟩⟩
          refine ⟨_, rfl, _, _, rfl, rfl, ⟨by decide, by decide⟩, .inl ⟨_, rfl, _, rfl, _, _, rfl, rfl, m0, ?_⟩⟩
          exact k _ _ (Int.emod_nonneg _ (by omega)) (Int.emod_lt_of_pos _ m0) (pen hp hc) bt
end
end Toy

set_option Elab.async false
set_option linter.all false
set_option maxRecDepth 100000
set_option maxHeartbeats 4000000
namespace Toy
open PySem L2 TL EM
section
variable {P : Program} {w : World} {K : PySem.W.Frag} {mg : Str → Option Value} {base : Heap}
theorem cut63 (ns : List Int) : cutV (ns.map V.int) none (some 63) = (ns.take 63).map V.int := by
  unfold cutV
  have e1 : HT.sIx (ns.map V.int).length 0 none = 0 := rfl
  have e2 : HT.sIx (ns.map V.int).length (ns.map V.int).length (some 63) = min 63 (ns.map V.int).length := HT.sIx_nat _ _ 63
  rw [e1, e2, List.drop_zero, List.map_take]
  rw [Nat.sub_zero]
  by_cases h : 63 ≤ (ns.map V.int).length
  · rw [Nat.min_eq_left h]
  · rw [Nat.min_eq_right (by omega), List.take_of_length_le (Nat.le_refl _), List.take_of_length_le (by omega)]
def spPen (K : PySem.W.Frag) : Sp := fun vs H Q _ => ∃ (a : Addr) (ns : List Int), vs = [.ref a] ∧ SqL K H a (ns.map V.int) ∧ ∀ p c H', H p = none → Same H H' → PenAt H' p c 0 → Q (.ref p) H'
abbrev s__law_pen : Stmt := top 17
theorem sc__law_pen : FnScope ["_law_script"] ["_law_script"] (defScope s__law_pen) := ⟨rfl, rfl, rfl, by decide +kernel, rfl, by decide +kernel, by decide +kernel⟩

theorem ok_pen {f : Addr} {fd : FuncData} (F : Fun K "_law_pen" "_law_pen" s__law_pen f fd) (T : TB mg) : FnOk P w K mg base CX0 1 f fd ["_law_script"] (spPen K) := by
  refine F.ok sc__law_pen (fun vs H Q E h => ?_) (fun cdv A outer s H vs Q E hr h => ?_)
  · obtain ⟨a, ns, rfl, _⟩ := h
    rfl
  · obtain ⟨a, ns, rfl, hS, k⟩ := h
    refine ⟨_, (pss_one (ps_ret (pe_disp (pps_cons pe_str (pe_callTy call_list_of (by rfl) T.list (by decide +kernel) (pa_cons (pe_slice sl_list (pv 0) po_none (po_some pe_int)) pa_nil)) (pps_cons pe_str pe_int (pps_cons pe_str pe_int pps_nil))) (by rfl) (by rfl) (fun z => by cases z) (by decide)))), ?_⟩
    refine fun p hp => ⟨_, rfl, _, rfl, a, _, rfl, (Same.new hp).seq hS, fun q hq => ?_⟩
    rw [cut63]
    refine ⟨q, _, rfl, .inl (SqL.of upd_same), fun l hl => ?_⟩
    have npq : p ≠ q := ne_of_none (upd_same (H := H) (a := p) (o := .dK [])) hq
    have hp1 : (upd (upd H p (.dK [])) q (.lst ((ns.take 63).map V.int))) p = some (.dK []) := by rw [upd_ne npq, upd_same]
    have npl : p ≠ l := ne_of_none hp1 hl
    refine ⟨by rw [upd_ne npl]; exact hp1, [(.inr "cells", .ref l), (.inr "at", .int 0), (.inr "left", .int 0)], rfl, (by show 3 ≤ 15; decide), ?_⟩
    refine k p l _ hp ?_ ⟨ns.take 63, 0, 0, ?_, ?_, by omega, by omega⟩
    · exact Same.mut (((Same.new hp).trans (Same.new hq)).trans (Same.new hl)) hp
    · rw [upd_same]; rfl
    · rw [upd_ne npl.symm, upd_same]
/-- a list of things to draw from, or a text -/
def spPick : Sp := fun vs H Q _ => ∃ (p c : Addr) (v : V) (B : Nat), vs = [.ref p, v] ∧ PenAt H p c B ∧ B < 1000000000000 ∧
  ((∃ (l : Addr) (xs : List V), v = .ref l ∧ H l = some (.lst xs) ∧ 0 < xs.length ∧ xs.length < 1073741824 ∧ ∀ (i : Nat) (x : V) (H' : Hp), xs[i]? = some x → PenAt H' p c (B + 1) → But p H H' → Q x H') ∨
   (∃ t : Str, v = .str t ∧ 0 < t.length ∧ t.length ≤ 100000 ∧ ∀ (ch : Nat) (H' : Hp), PenAt H' p c (B + 1) → But p H H' → Q (.str ⟨#[ch]⟩) H'))
abbrev s__law_pick : Stmt := top 19
theorem sc__law_pick : FnScope ["_law_pen_here", "_law_some"] ["_law_pen_here", "_law_some"] (defScope s__law_pick) := ⟨rfl, rfl, rfl, by decide +kernel, rfl, by decide +kernel, by decide +kernel⟩

theorem ok_pick {f : Addr} {fd : FuncData} (F : Fun K "_law_pick" "_law_pick" s__law_pick f fd) (T : TB mg) (cDraw : Cal P w K mg base 1 "_law_draw" ["_law_pen_here", "_law_many"] spDraw) : FnOk P w K mg base CX0 2 f fd ["_law_pen_here", "_law_some"] spPick := by
  refine F.ok sc__law_pick (fun vs H Q E h => ?_) (fun cdv A outer s H vs Q E hr h => ?_)
  · obtain ⟨p, c, v, B, rfl, _⟩ := h
    rfl
  · obtain ⟨p, c, v, B, rfl, hP, hB, h⟩ := h
    have hr1 : Room 1 _ := hr
    refine ⟨_, (pss_one (ps_ret (pe_ix ix_seq (pv 1) (pe_cal cDraw hr1 rfl (pa_cons (pv 0) (pa_cons (pe_callB call_len (by rfl) T.len PySem.boot_len (pa_cons (pv 1) pa_nil)) pa_nil))) (fun _ _ => rfl)))), ?_⟩
    rcases h with ⟨l, xs, rfl, hl, l0, l1, k⟩ | ⟨t, rfl, t0, t1, k⟩
    · refine ⟨_, rfl, _, rfl, _, rfl, _, _, rfl, .inl ⟨_, SqL.of hl, rfl⟩, ?_⟩
      refine ⟨p, c, _, B, rfl, hP, by omega, by omega, hB, fun n H' n0 n1 hP' bt => ?_⟩
      have nlp : l ≠ p := by
        obtain ⟨ns, a', l', hp, _⟩ := hP
        exact ne_of hl hp (by intro z; cases z)
      have hl' := bt _ _ hl nlp
      have hi : n.toNat < xs.length := by omega
      refine .inl ⟨l, _, _, xs[n.toNat], rfl, rfl, SqL.of hl', at_of (j := n.toNat) (by omega) (List.getElem?_eq_getElem hi), ?_⟩
      exact k n.toNat _ H' (List.getElem?_eq_getElem hi) hP' bt
    · refine ⟨_, rfl, _, rfl, _, rfl, _, _, rfl, ⟨Evl.sz_of t1, rfl⟩, ?_⟩
      refine ⟨p, c, _, B, rfl, hP, by omega, by omega, hB, fun n H' n0 n1 hP' bt => ?_⟩
      have hi : n.toNat < (tl t).length := by rw [← len_tl]; omega
      refine .inr (.inr ⟨t, _, (tl t)[n.toNat], rfl, rfl, Evl.sz_of t1, atI_of n0 (List.getElem?_eq_getElem hi), ?_⟩)
      exact k _ H' hP' bt
end
end Toy

set_option Elab.async false
set_option linter.all false
set_option maxRecDepth 100000
set_option maxHeartbeats 4000000
namespace Toy
open PySem L2 TL EM
section
variable {P : Program} {w : World} {K : PySem.W.Frag} {mg : Str → Option Value} {base : Heap}
theorem PenAt.mono {H : Hp} {p c : Addr} {B B' : Nat} (h : PenAt H p c B) (hb : B ≤ B') : PenAt H p c B' := by
  obtain ⟨ns, a, l, h1, h2, h3, h4⟩ := h
  exact ⟨ns, a, l, h1, h2, h3, by omega⟩
theorem PenAt.same {H H' : Hp} {p c : Addr} {B : Nat} (h : PenAt H p c B) (s : Same H H') : PenAt H' p c B := by
  obtain ⟨ns, a, l, h1, h2, h3, h4⟩ := h
  exact ⟨ns, a, l, s _ _ h1, s _ _ h2, h3, h4⟩
theorem PenAt.ne {H : Hp} {p c q : Addr} {B : Nat} (h : PenAt H p c B) (hq : H q = none) : p ≠ q := by
  obtain ⟨ns, a, l, h1, _⟩ := h
  exact ne_of_none h1 hq
theorem PenAt.nel {H : Hp} {p c q : Addr} {B : Nat} {xs : List V} (h : PenAt H p c B) (hq : H q = some (.lst xs)) : q ≠ p := by
  obtain ⟨ns, a, l, h1, _⟩ := h
  exact ne_of hq h1 (by intro z; cases z)
theorem PenAt.nec {H : Hp} {p c q : Addr} {B : Nat} (h : PenAt H p c B) (hq : H q = none) : c ≠ q := by
  obtain ⟨ns, a, l, h1, h2, _⟩ := h
  exact ne_of_none h2 hq
theorem PenAt.upd {H : Hp} {p c q : Addr} {B : Nat} {o : HO} (h : PenAt H p c B) (hp : p ≠ q) (hc : c ≠ q) : PenAt (upd H q o) p c B := by
  obtain ⟨ns, a, l, h1, h2, h3, h4⟩ := h
  exact ⟨ns, a, l, by rw [upd_ne hp]; exact h1, by rw [upd_ne hc]; exact h2, h3, h4⟩
theorem But.upd {H H' : Hp} {p q : Addr} {o : HO} (h : But p H H') (hq : H q = none) : But p H (upd H' q o) := fun b o' e n => by
  rw [upd_ne (ne_of_none e hq)]
  exact h b o' e n
/-- forget what is new behind: Same then But -/
theorem But.after {p : Addr} {H H1 H2 : Hp} (s : Same H H1) (b : But p H1 H2) : But p H H2 := fun c o h n => b c o (s c o h) n
theorem But.then {p : Addr} {H H1 H2 : Hp} (b : But p H H1) (s : Same H1 H2) : But p H H2 := fun c o h n => s c o (b c o h n)
def spBig : Sp := fun vs H Q _ => ∃ (p c : Addr) (m : Int) (B : Nat), vs = [.ref p, .int m] ∧ PenAt H p c B ∧ 0 < m ∧ m.natAbs < 10 ^ 100 ∧ B < 100000000000 ∧
  ∀ (n : Int) (H' : Hp), 0 ≤ n → n < m → PenAt H' p c (B + 20) → But p H H' → Q (.int n) H'
abbrev s__law_big : Stmt := top 20
theorem sc__law_big : FnScope ["_law_pen_here", "_law_many", "_law_found", "_law_k"] ["_law_pen_here", "_law_many"] (defScope s__law_big) := ⟨rfl, rfl, rfl, by decide +kernel, rfl, by decide +kernel, by decide +kernel⟩

theorem ok_big {f : Addr} {fd : FuncData} (F : Fun K "_law_big" "_law_big" s__law_big f fd) (T : TB mg) (cDraw : Cal P w K mg base 1 "_law_draw" ["_law_pen_here", "_law_many"] spDraw) : FnOk P w K mg base CX0 2 f fd ["_law_pen_here", "_law_many"] spBig := by
  refine F.ok sc__law_big (fun vs H Q E h => ?_) (fun cdv A outer s H vs Q E hr h => ?_)
  · obtain ⟨p, c, m, B, rfl, _⟩ := h
    rfl
  · obtain ⟨p, c, m, B, rfl, hP, m0, m1, hB, k⟩ := h
    have hr1 : Room 1 _ := hr
    refine ⟨_, (pss_cons (ps_set (i := 2) sc__law_big.nd rfl (Or.inl rfl) pe_int)
      (pss_cons (ps_for PassesOwn.never rfl (pi_range1 rfl T.range (pa_cons (pe_op op_add (pe_op op_fdiv (pe_callB call_len_str (by rfl) T.len PySem.boot_len (pa_cons (pe_callTy call_str_int (by rfl) T.str (by decide +kernel) (pa_cons (pv 1) pa_nil)) pa_nil)) pe_int) pe_int) pa_nil)) (pg_name (i := 3) sc__law_big.nd rfl (Or.inl rfl))
        (pss_one (ps_set (i := 2) sc__law_big.nd rfl (Or.inl rfl) (pe_op op_add (pe_op op_mul (pv 2) (pe_op op_pow pe_int pe_int)) (pe_cal cDraw hr1 rfl (pa_cons (pv 0) (pa_cons (pe_op op_pow pe_int pe_int) pa_nil)))))))
      (pss_one (ps_ret (pe_op op_mod (pe_callTy call_int1 (by rfl) T.int (by decide +kernel) (pa_cons (pv 2) pa_nil)) (pv 1)))))), ?_⟩
    have hl := len_int m1
    have c6 : CPow 10 6 := ⟨by decide, by decide, by decide⟩
    refine ⟨_, rfl, _, rfl, log_ok m1, _, rfl, Evl.sz_of (by omega), _, _, rfl, rfl, ⟨by decide, by decide⟩, _, _, rfl, rfl, _, rfl, by omega, by omega, ?_⟩
    generalize hn : (((Str.ofString (toString m)).length : Int) / 6 + 2).toNat = n
    have hn' : n ≤ 18 := by omega
    refine for_it walk_range (fun i σ H' => ∃ (f0 : Int) (kk : Option V), σ = [some (.ref p), some (.int m), some (.int f0), kk] ∧ PenAt H' p c (B + i) ∧ But p H H') ⟨_, _, rfl, hP, But.refl _ _⟩ (fun _ _ _ _ _ => trivial) ?_ ?_
    · rintro i x σ H1 H2 hi ⟨f0, kk, rfl, hP1, bt⟩ ⟨rfl, rfl⟩
      refine ⟨_, rfl, _, _, rfl, rfl, c6, _, _, rfl, rfl, .inr ⟨by decide, by decide⟩, _, rfl, _, _, rfl, rfl, c6, ?_⟩
      refine ⟨p, c, _, B + i, rfl, hP1, by decide, by decide, by omega, fun n' H' n0 n1 hP' bt' => ?_⟩
      exact ⟨_, _, rfl, rfl, _, _, rfl, hP', bt.trans bt'⟩
    · rintro σ H1 ⟨f0, kk, rfl, hP1, bt⟩
      refine ⟨_, rfl, .inl ⟨_, rfl, _, rfl, _, _, rfl, rfl, m0, ?_⟩⟩
      exact k _ _ (Int.emod_nonneg _ (by omega)) (Int.emod_lt_of_pos _ m0) (hP1.mono (by omega)) bt
end
end Toy

set_option Elab.async false
set_option linter.all false
set_option maxRecDepth 100000
set_option maxHeartbeats 4000000
namespace Toy
open PySem L2 TL EM
section
variable {P : Program} {w : World} {K : PySem.W.Frag} {mg : Str → Option Value} {base : Heap}
def spFar : Sp := fun vs H Q _ => ∃ (p c : Addr) (B : Nat), vs = [.ref p] ∧ PenAt H p c B ∧ B < 10000000000 ∧
  ∀ (n : Int) (H' : Hp), n.natAbs < 10 ^ 30 → PenAt H' p c (B + 25) → But p H H' → Q (.int n) H'
abbrev s__law_far_number : Stmt := top 27
theorem sc__law_far_number : FnScope ["_law_pen_here", "_law_way"] ["_law_pen_here"] (defScope s__law_far_number) := ⟨rfl, rfl, rfl, by decide +kernel, rfl, by decide +kernel, by decide +kernel⟩

theorem ok_far {f : Addr} {fd : FuncData} (F : Fun K "_law_far_number" "_law_far_number" s__law_far_number f fd) (T : TB mg) (cDraw : Cal P w K mg base 1 "_law_draw" ["_law_pen_here", "_law_many"] spDraw)
    (cPick : Cal P w K mg base 2 "_law_pick" ["_law_pen_here", "_law_some"] spPick) (cBig : Cal P w K mg base 2 "_law_big" ["_law_pen_here", "_law_many"] spBig) : FnOk P w K mg base CX0 3 f fd ["_law_pen_here"] spFar := by
  refine F.ok sc__law_far_number (fun vs H Q E h => ?_) (fun cdv A outer s H vs Q E hr h => ?_)
  · obtain ⟨p, c, B, rfl, _⟩ := h
    rfl
  · obtain ⟨p, c, B, rfl, hP, hB, k⟩ := h
    have hr2 : Room 2 _ := hr
    have hr1 : Room 1 _ := hr2.mono (by decide)
    refine ⟨_, (pss_cons (ps_set (i := 1) sc__law_far_number.nd rfl (Or.inl rfl) (pe_cal cDraw hr1 rfl (pa_cons (pv 0) (pa_cons pe_int pa_nil))))
      (pss_cons (ps_if (pt_cmpR op_eq (pv 1) pe_int (nomark _))
        (pss_one (ps_ret (pe_cal cPick hr2 rfl (pa_cons (pv 0) (pa_cons (pe_lst (pa_cons (pe_op op_sub (pe_op op_pow pe_int pe_int) pe_int) (pa_cons (pe_op op_sub pe_int (pe_op op_pow pe_int pe_int)) (pa_cons pe_int (pa_cons (pe_un un_neg pe_int) pa_nil))))) pa_nil)))))
        pss_nil)
      (pss_cons (ps_if (pt_cmpR op_eq (pv 1) pe_int (nomark _))
        (pss_one (ps_ret (pe_op op_add (pe_op op_sub (pe_cal cBig hr2 rfl (pa_cons (pv 0) (pa_cons (pe_op op_sub (pe_op op_mul pe_int (pe_op op_pow pe_int pe_int)) pe_int) pa_nil))) (pe_op op_pow pe_int pe_int)) pe_int)))
        pss_nil)
      (pss_one (ps_ret (pe_op op_sub (pe_cal cDraw hr1 rfl (pa_cons (pv 0) (pa_cons pe_int pa_nil))) pe_int)))))), ?_⟩
    have c30 : CPow 10 30 := ⟨by decide, by decide, by decide⟩
    have e30 : (10 : Int) ^ (30 : Int).toNat = 10 ^ 30 := rfl
    refine ⟨_, rfl, p, c, 4, B, rfl, hP, by decide, by decide, by omega, fun n H1 n0 n1 hP1 b1 => ⟨_, rfl, rfl, _, rfl, ?_⟩⟩
    refine ite2 (fun _ => ?_) (fun _ => ⟨_, rfl, rfl, _, rfl, ite2 (fun _ => ?_) (fun _ => ?_)⟩)
    · refine ⟨_, rfl, _, _, rfl, rfl, c30, _, _, rfl, rfl, _, _, rfl, rfl, c30, _, _, rfl, rfl, _, rfl, (by show 4 ≤ sizeLine; decide), fun l hl => ?_⟩
      refine ⟨p, c, _, B + 1, rfl, hP1.same (Same.new hl), by omega, .inl ⟨l, _, rfl, upd_same, by decide, by decide, fun i x H' hx hP' b' => ?_⟩⟩
      have hb : But p H H' := b1.trans (But.after (Same.new hl) b')
      have hp' := hP'.mono (show B + 1 + 1 ≤ B + 25 by omega)
      match i, hx with
      | 0, hx => cases hx; exact k _ _ (by decide) hp' hb
      | 1, hx => cases hx; exact k _ _ (by decide) hp' hb
      | 2, hx => cases hx; exact k _ _ (by decide) hp' hb
      | 3, hx => cases hx; exact k _ _ (by decide) hp' hb
      | i + 4, hx => cases hx
    · refine ⟨_, rfl, _, _, rfl, rfl, c30, _, _, rfl, rfl, .inl ⟨by decide, by decide⟩, _, _, rfl, rfl, ?_⟩
      refine ⟨p, c, _, B + 1, rfl, hP1, by decide, by decide, by omega, fun n2 H2 z0 z1 hP2 b2 => ?_⟩
      rw [e30] at z1
      refine ⟨_, _, rfl, rfl, c30, _, _, rfl, rfl, _, _, rfl, rfl, ?_⟩
      rw [e30]
      exact k _ _ (by omega) (hP2.mono (by omega)) (b1.trans b2)
    · refine ⟨_, rfl, p, c, 4001, B + 1, rfl, hP1, by decide, by decide, by omega, fun n2 H2 z0 z1 hP2 b2 => ?_⟩
      refine ⟨_, _, rfl, rfl, ?_⟩
      exact k _ _ (by omega) (hP2.mono (by omega)) (b1.trans b2)
def spText : Sp := fun vs H Q _ => ∃ (q : Addr) (k : List Nat) (a b : Int) (z : Option (List Nat)), vs = [.ref q] ∧ H q = some (.tup [.str (strOf k), .int a, .int b, optZ z]) ∧
  k.length ≤ 1000 ∧ a.natAbs < 10 ^ 100 ∧ b.natAbs < 10 ^ 100 ∧ (∀ y, z = some y → y.length ≤ 1000) ∧ Q (.str (strOf (canon k a b z))) H
abbrev s__law_entry_text : Stmt := top 21
theorem sc__law_entry_text : FnScope ["_law_entry", "_law_kind", "_law_first", "_law_last", "_law_zone", "_law_text"] ["_law_entry"] (defScope s__law_entry_text) := ⟨rfl, rfl, rfl, by decide +kernel, rfl, by decide +kernel, by decide +kernel⟩

theorem ok_text {f : Addr} {fd : FuncData} (F : Fun K "_law_entry_text" "_law_entry_text" s__law_entry_text f fd) (T : TB mg) : FnOk P w K mg base CX0 1 f fd ["_law_entry"] spText := by
  refine F.ok sc__law_entry_text (fun vs H Q E h => ?_) (fun cdv A outer s H vs Q E hr h => ?_)
  · obtain ⟨q, k, a, b, z, rfl, _⟩ := h
    rfl
  · obtain ⟨q, k, a, b, z, rfl, hq, hk, ha, hb, hz, q'⟩ := h
    refine ⟨_, (pss_cons (ps_asg (pv 0) (pg_tup rfl (pgs_cons (pg_name (i := 1) sc__law_entry_text.nd rfl (Or.inl rfl)) (pgs_cons (pg_name (i := 2) sc__law_entry_text.nd rfl (Or.inl rfl)) (pgs_cons (pg_name (i := 3) sc__law_entry_text.nd rfl (Or.inl rfl)) (pgs_cons (pg_name (i := 4) sc__law_entry_text.nd rfl (Or.inl rfl)) pgs_nil))))))
      (pss_cons (ps_set (i := 5) sc__law_entry_text.nd rfl (Or.inl rfl) (pe_op op_add_str (pe_op op_add_str (pe_op op_add_str (pe_op op_add_str (pv 1) pe_str) (pe_callTy call_str_int (by rfl) T.str (by decide +kernel) (pa_cons (pv 2) pa_nil))) pe_str) (pe_callTy call_str_int (by rfl) T.str (by decide +kernel) (pa_cons (pv 3) pa_nil))))
      (pss_one (ps_ret (pe_ifExp (pt_cmpR op_isN (pv 4) pe_non (nomark _)) (pv 5) (pe_op op_add_str (pe_op op_add_str (pv 5) pe_str) (pv 4))))))), ?_⟩
    have lk := len_strOf k
    have la := len_int ha
    have lb := len_int hb
    have l1 : (Str.ofString " ").length = 1 := by decide +kernel
    have l4 : (Str.ofString " to ").length = 4 := by decide +kernel
    have t1 : tl (Str.ofString " ") = [32] := by decide +kernel
    have t4 : tl (Str.ofString " to ") = [32] ++ kTo ++ [32] := by decide +kernel
    have sz : ∀ {n : Nat}, n ≤ 100000 → n ≤ sizeLine := fun h => Evl.sz_of h
    refine ⟨_, rfl, q, _, rfl, SqT.of hq, rfl, _, _, rfl, _, _, rfl, _, _, rfl, _, _, rfl, rfl, ?_⟩
    refine ⟨_, rfl, _, _, rfl, rfl, sz (by omega), _, rfl, _, rfl, log_ok ha, _, _, rfl, rfl, sz (by simp only [len_app]; omega), ?_⟩
    refine ⟨_, _, rfl, rfl, sz (by simp only [len_app]; omega), _, rfl, _, rfl, log_ok hb, _, _, rfl, rfl, sz (by simp only [len_app]; omega), ?_⟩
    cases z with
    | none =>
      refine ⟨_, rfl, rfl, _, rfl, iteT ⟨_, rfl, ?_⟩⟩
      have e : (((strOf k ++ Str.ofString " ") ++ Str.ofString (toString a)) ++ Str.ofString " to ") ++ Str.ofString (toString b) = strOf (canon k a b none) := by
        refine ext_tl ?_
        simp only [tl_append, tl_strOf, tl_int, t1, t4, canon, canonW, joinL, Option.toList, List.append_assoc, List.nil_append, List.cons_append, List.append_nil]
      rw [← e] at q'
      exact q'
    | some y =>
      have ly := hz y rfl
      have ly' := len_strOf y
      refine ⟨_, rfl, rfl, _, rfl, iteF ⟨_, rfl, _, _, rfl, rfl, sz (by simp only [len_app]; omega), _, rfl, _, _, rfl, rfl, sz (by simp only [len_app]; omega), ?_⟩⟩
      have e : (((((strOf k ++ Str.ofString " ") ++ Str.ofString (toString a)) ++ Str.ofString " to ") ++ Str.ofString (toString b)) ++ Str.ofString " ") ++ strOf y = strOf (canon k a b (some y)) := by
        refine ext_tl ?_
        simp only [tl_append, tl_strOf, tl_int, t1, t4, canon, canonW, joinL, Option.toList, List.append_assoc, List.nil_append, List.cons_append, List.append_nil]
      rw [← e] at q'
      exact q'
end
end Toy

set_option Elab.async false
set_option linter.all false
set_option maxRecDepth 100000
set_option maxHeartbeats 4000000
namespace Toy
open PySem L2 TL EM
section
variable {P : Program} {w : World} {K : PySem.W.Frag} {mg : Str → Option Value} {base : Heap}
def spLNum : Sp := spNum
abbrev s__law_number : Stmt := top 23
theorem sc__law_number : FnScope ["_law_text", "_law_digits", "_law_sign"] ["_law_text"] (defScope s__law_number) := ⟨rfl, rfl, rfl, by decide +kernel, rfl, by decide +kernel, by decide +kernel⟩

theorem ok_lnum {f : Addr} {fd : FuncData} (F : Fun K "_law_number" "_law_number" s__law_number f fd) (T : TB mg) : FnOk P w K mg base CX0 1 f fd ["_law_text"] spNum := by
  refine F.ok sc__law_number (fun vs H Q E h => ?_) (fun cdv A outer s H vs Q E hr h => ?_)
  · obtain ⟨t, rfl, _⟩ := h
    rfl
  · obtain ⟨t, rfl, ht, k⟩ := h
    refine ⟨_, (Evl.pss_cut (ps_set (i := 1) sc__law_number.nd rfl (Or.inl rfl) (pe_ifExp (pt_cmpR op_eq (pe_slice sl_str (pv 0) po_none (po_some pe_int)) pe_str (nomark _)) (pe_slice sl_str (pv 0) (po_some pe_int) po_none) (pv 0)))
      (pss_cons (ps_if (PW.pt (pw_or (pt_not (pt_chain op_le op_le pe_int (pe_callB call_len_str (by rfl) T.len PySem.boot_len (pa_cons (pv 1) pa_nil)) pe_int)) (pw_or1 (pt_not (pt_val (pe_callB (cr_all rfl) (by rfl) T.all (by decide +kernel) (pa_cons (pe_lc (own := [("_law_sign", 2)]) (g := gName 2) (by rfl) sc__law_number.nd (pi_str (pv 1)) (blkOk_by (own := [("_law_sign", 2)]) (N := ["_law_text", "_law_digits", "_law_sign"]) (sc := defScope s__law_number) (by decide +kernel)) (fun _ _ _ _ _ => pg_name (i := 2) sc__law_number.nd rfl (Or.inl rfl)) (fun _ _ _ _ _ => pts_nil) (fun _ _ _ _ _ => (pe_cmpR op_in_sign (pv 2) pe_str rfl))) pa_nil)))))))
        (pss_one (ps_ret pe_non))
        pss_nil)
      (pss_one (ps_ret (pe_ifExp (PW.pt (pw_or (pt_cmpR op_eq (pv 0) pe_str (nomark _)) (pw_or1 (pt_cmpR op_ne (pe_ix ix_str (pv 1) pe_int (fun _ _ => rfl)) pe_str (nomark _))))) (pe_callTy call_int_str (by rfl) T.int (by decide +kernel) (pa_cons (pv 0) pa_nil)) pe_non))))), ?_⟩
    have hz : ∀ {x : Str}, x.length ≤ 100000 → x.length ≤ sizeLine := fun h => Evl.sz_of h
    -- digits
    refine ⟨fun σ' H' => H' = H ∧ ∃ d : Str, tl d = digs (tl t) ∧ d.length ≤ 100000 ∧ σ' = [some (.str t), some (.str d), none], ?_, ?_⟩
    · refine ⟨_, rfl, _, rfl, _, rfl, hz ht, rfl, _, rfl, ?_⟩
      by_cases hm : (tl t).take 1 = [45]
      · have e : V.str (cutS t none (some 1)) = V.str "-" := str_eq.mpr (by rw [tl_head1, hm, dash])
        rw [decide_eq_true e]
        refine iteT ?_
        refine ⟨_, rfl, _, rfl, _, rfl, hz ht, rfl, _, ?_, ?_, rfl⟩
        · rw [tl_cut1]; exact (if_pos hm).symm
        · exact Nat.le_trans (cutS_length t _ _) ht
      · have e : ¬ V.str (cutS t none (some 1)) = V.str "-" := fun z => hm (by have := str_eq.mp z; rw [tl_head1, dash] at this; exact this)
        rw [decide_eq_false e]
        refine iteF ?_
        exact ⟨_, rfl, rfl, _, (if_neg hm).symm, ht, rfl⟩
    · rintro σ' H' ⟨rfl, d, hd, hdl, rfl⟩
      have hdl' : d.length = (digs (tl t)).length := by rw [len_tl, hd]
      have hlen : (d.length : Int) = ((digs (tl t)).length : Int) := by rw [hdl']
      -- the refusal by its length or its signs
      have no : numOk (tl t) = false → Q .non H' := fun hk => by
        have := k H' (Same.refl _)
        unfold numberOf at this
        rw [hk, if_neg Bool.false_ne_true] at this
        exact this
      refine ⟨_, rfl, _, rfl, hz hdl, _, _, rfl, rfl, _, rfl, ?_⟩
      rw [hlen]
      by_cases h1 : (1 : Int) ≤ ((digs (tl t)).length : Int)
      · rw [decide_eq_true h1]
        refine iteT ⟨_, _, rfl, rfl, _, rfl, ?_⟩
        by_cases h2 : ((digs (tl t)).length : Int) ≤ 30
        · rw [decide_eq_true h2]
          refine iteF ?_
          refine ⟨_, rfl, _, rfl, fun D hD => ?_⟩
          refine lc_map walk_str (n := d.cps.size) (by have : d.cps.size = d.length := rfl; omega) (fun i => .bl (isDig ((tl d).getD i 0))) hD (fun _ _ => trivial) (fun i H x H' _ y => by rw [y.1]; exact Same.refl _) (fun x => rfl) ?_ ?_
          · rintro i x H2 H3 hi s2 ⟨rfl, c, hc, rfl⟩ H4 Q' s4 q
            refine ⟨_, rfl, c, _, rfl, rfl, ?_⟩
            have e : (tl d).getD i 0 = c := by
              have : (tl d)[i]? = some c := by rw [← hc]; simp [tl]
              rw [List.getD_eq_getElem?_getD, this]; rfl
            have := q H4 (Same.refl _)
            rw [e] at this
            exact this
          · intro H2 s2 hl
            have el : (List.range d.cps.size).map (fun i => V.bl (isDig ((tl d).getD i 0))) = ((tl d).map isDig).map V.bl := by
              rw [List.map_map]
              have e0 : d.cps.size = (tl d).length := by simp [tl]
              rw [e0]
              exact range_mapX (fun c => V.bl (isDig c)) _ (tl d) (fun i x hx => by rw [List.getD_eq_getElem?_getD, hx]; rfl)
            rw [el] at hl
            refine ⟨D, _, rfl, SqL.of hl, _, rfl, ?_⟩
            rw [bls_all, hd]
            by_cases h3 : (digs (tl t)).all isDig = true
            · rw [h3]
              refine iteF ?_
              have hne : digs (tl t) ≠ [] := by intro z; rw [z] at h1; simp at h1
              obtain ⟨c, r, hcr⟩ : ∃ c r, tl d = c :: r := by
                rw [hd]
                cases q : digs (tl t) with
                | nil => exact absurd q hne
                | cons c r => exact ⟨c, r, rfl⟩
              have hat : atI d.cps.toList 0 = some c := atI_nat (j := 0) (by show (tl d)[0]? = some c; rw [hcr]; rfl)
              have e0 : (V.str ⟨#[c]⟩ = V.str "0") ↔ (digs (tl t)).head? = some 48 := by
                rw [str_eq, zero, ← hd, hcr]
                show [c] = [48] ↔ some c = some 48
                simp
              have fin : (digs (tl t)).head? ≠ some 48 ∨ tl t = [48] → ∃ v, [some (V.str t), some (V.str d), none][0]? = some (some v) ∧ ∃ a n, [v] = [V.str a] ∧ intText? a = some n ∧ a.length ≤ 640 ∧ Q (V.int n) H2 := fun hh => by
                have ok : numOk (tl t) = true := by
                  unfold numOk
                  rw [h3, decide_eq_true (show 1 ≤ (digs (tl t)).length by omega), decide_eq_true (show (digs (tl t)).length ≤ 30 by omega)]
                  rcases hh with hh | hh
                  · rw [decide_eq_false hh]; rfl
                  · rw [decide_eq_false (show ¬ tl t ≠ [48] from fun z => z hh)]; simp
                obtain ⟨i1, i2⟩ := intText_numOk ok
                refine ⟨_, rfl, t, _, rfl, i1, by omega, ?_⟩
                have := k H2 s2
                unfold numberOf at this
                rw [if_pos ok] at this
                exact this
              refine ⟨_, rfl, rfl, _, rfl, ?_⟩
              by_cases h5 : tl t = [48]
              · rw [decide_eq_true (show V.str t = V.str "0" from str_eq.mpr (by rw [h5, zero]))]
                exact iteT (iteT (fin (.inr h5)))
              · rw [decide_eq_false (show ¬ V.str t = V.str "0" from fun z => h5 (by have := str_eq.mp z; rw [zero] at this; exact this))]
                refine iteF ⟨_, rfl, _, _, c, rfl, rfl, hz hdl, hat, rfl, _, rfl, ?_⟩
                by_cases h4 : (digs (tl t)).head? = some 48
                · rw [decide_eq_true (e0.mpr h4)]
                  refine iteF ?_
                  have := k H2 s2
                  unfold numberOf at this
                  rw [if_neg] at this
                  · exact this
                  · unfold numOk
                    rw [decide_eq_true h4, decide_eq_true (show tl t ≠ [48] from h5)]
                    simp
                · rw [decide_eq_false (fun z => h4 (e0.mp z))]
                  exact iteT (fin (.inl h4))
            · have h3' : (digs (tl t)).all isDig = false := by simpa using h3
              rw [h3']
              refine iteT ?_
              have := k H2 s2
              unfold numberOf at this
              rw [if_neg] at this
              · exact this
              · unfold numOk
                rw [h3']
                simp
        · rw [decide_eq_false h2]
          refine iteT (no ?_)
          unfold numOk
          rw [decide_eq_false (show ¬ (digs (tl t)).length ≤ 30 by omega)]
          simp
      · rw [decide_eq_false h1]
        refine iteF ⟨_, rfl, iteT (no ?_)⟩
        unfold numOk
        rw [decide_eq_false (show ¬ 1 ≤ (digs (tl t)).length by omega)]
        simp
def spLName : Sp := fun vs H Q _ => ∃ t : Str, vs = [.str t] ∧ t.length ≤ 100000 ∧ ∀ H', Same H H' → Q (.bl (isName (tl t))) H'
abbrev s__law_is_name : Stmt := top 22
theorem sc__law_is_name : FnScope ["_law_text", "_law_sign"] ["_law_text"] (defScope s__law_is_name) := ⟨rfl, rfl, rfl, by decide +kernel, rfl, by decide +kernel, by decide +kernel⟩

theorem ok_lname {f : Addr} {fd : FuncData} (F : Fun K "_law_is_name" "_law_is_name" s__law_is_name f fd) (T : TB mg) : FnOk P w K mg base CX0 1 f fd ["_law_text"] spLName := by
  refine F.ok sc__law_is_name (fun vs H Q E h => ?_) (fun cdv A outer s H vs Q E hr h => ?_)
  · obtain ⟨t, rfl, _⟩ := h
    rfl
  · obtain ⟨t, rfl, ht, k⟩ := h
    refine ⟨_, (pss_one (ps_ret (pe_and (pe_chain op_le op_le pe_int (pe_callB call_len_str (by rfl) T.len PySem.boot_len (pa_cons (pv 0) pa_nil)) pe_int) (pe_one (pe_callB (cr_all rfl) (by rfl) T.all (by decide +kernel) (pa_cons (pe_lc (own := [("_law_sign", 1)]) (g := gName 1) (by rfl) sc__law_is_name.nd (pi_str (pv 0)) (blkOk_by (own := [("_law_sign", 1)]) (N := ["_law_text", "_law_sign"]) (sc := defScope s__law_is_name) (by decide +kernel)) (fun _ _ _ _ _ => pg_name (i := 1) sc__law_is_name.nd rfl (Or.inl rfl)) (fun _ _ _ _ _ => pts_nil) (fun _ _ _ _ _ => (pe_cmpR op_in_sign (pv 1) pe_str rfl))) pa_nil)))))), ?_⟩
    have hz : t.length ≤ sizeLine := Evl.sz_of ht
    have hl : (t.length : Int) = ((tl t).length : Int) := by rw [len_tl]
    have no : ∀ {H'}, Same H H' → isName (tl t) = false → Q (.bl false) H' := fun s' hk => by
      have := k _ s'
      rw [hk] at this
      exact this
    refine ⟨_, rfl, _, rfl, hz, _, _, rfl, rfl, _, rfl, ?_⟩
    rw [hl]
    by_cases h1 : (1 : Int) ≤ ((tl t).length : Int)
    · rw [decide_eq_true h1]
      refine iteT ⟨_, _, rfl, rfl, _, rfl, ?_⟩
      by_cases h2 : ((tl t).length : Int) ≤ 12
      · rw [decide_eq_true h2]
        refine iteT ?_
        refine ⟨_, rfl, _, rfl, fun D hD => ?_⟩
        refine lc_map walk_str (n := t.cps.size) (by have : t.cps.size = t.length := rfl; omega) (fun i => .bl (isLet ((tl t).getD i 0))) hD (fun _ _ => trivial) (fun i H x H' _ y => by rw [y.1]; exact Same.refl _) (fun x => rfl) ?_ ?_
        · rintro i x H2 H3 hi s2 ⟨rfl, c, hc, rfl⟩ H4 Q' s4 q
          refine ⟨_, rfl, c, _, rfl, rfl, ?_⟩
          have e : (tl t).getD i 0 = c := by
            have : (tl t)[i]? = some c := by rw [← hc]; simp [tl]
            rw [List.getD_eq_getElem?_getD, this]; rfl
          have := q H4 (Same.refl _)
          rw [e] at this
          exact this
        · intro H2 s2 hl2
          have el : (List.range t.cps.size).map (fun i => V.bl (isLet ((tl t).getD i 0))) = ((tl t).map isLet).map V.bl := by
            rw [List.map_map]
            have e0 : t.cps.size = (tl t).length := by simp [tl]
            rw [e0]
            exact range_mapX (fun c => V.bl (isLet c)) _ (tl t) (fun i x hx => by rw [List.getD_eq_getElem?_getD, hx]; rfl)
          rw [el] at hl2
          refine ⟨D, _, rfl, SqL.of hl2, ?_⟩
          rw [bls_all]
          have := k H2 s2
          unfold isName at this
          rw [decide_eq_true (show 1 ≤ (tl t).length by omega), decide_eq_true (show (tl t).length ≤ 12 by omega)] at this
          exact this
      · rw [decide_eq_false h2]
        refine iteF (no (Same.refl _) ?_)
        unfold isName
        rw [decide_eq_false (show ¬ (tl t).length ≤ 12 by omega)]
        simp
    · rw [decide_eq_false h1]
      refine iteF ⟨_, rfl, iteF (no (Same.refl _) ?_)⟩
      unfold isName
      rw [decide_eq_false (show ¬ 1 ≤ (tl t).length by omega)]
      simp
end
end Toy

set_option Elab.async false
set_option linter.all false
set_option maxRecDepth 100000
set_option maxHeartbeats 4000000
namespace Toy
open PySem L2 TL EM
section
variable {P : Program} {w : World} {K : PySem.W.Frag} {mg : Str → Option Value} {base : Heap}
def spWhole : Sp := fun vs H Q _ => ∃ n : Int, vs = [.int n] ∧ Q (.bl true) H
abbrev s__law_whole : Stmt := top 24
theorem sc__law_whole : FnScope ["_law_number_here"] ["_law_number_here"] (defScope s__law_whole) := ⟨rfl, rfl, rfl, by decide +kernel, rfl, by decide +kernel, by decide +kernel⟩

theorem ok_whole {f : Addr} {fd : FuncData} (F : Fun K "_law_whole" "_law_whole" s__law_whole f fd) (T : TB mg) : FnOk P w K mg base CX0 1 f fd ["_law_number_here"] spWhole := by
  refine F.ok sc__law_whole (fun vs H Q E h => ?_) (fun cdv A outer s H vs Q E hr h => ?_)
  · obtain ⟨n, rfl, _⟩ := h
    rfl
  · obtain ⟨n, rfl, k⟩ := h
    refine ⟨_, (pss_one (ps_ret (pe_and (pe_callB call_isi (by rfl) T.isinstance (by decide +kernel) (pa_cons (pv 0) (pa_cons (pe_bltn (v := .ty "int") (by rfl) T.int (by decide +kernel) rfl) pa_nil))) (pe_one (pe_not (pe_callB call_isi (by rfl) T.isinstance (by decide +kernel) (pa_cons (pv 0) (pa_cons (pe_bltn (v := .ty "bool") (by rfl) T.bool (by decide +kernel) rfl) pa_nil)))))))), ?_⟩
    refine ⟨_, rfl, _, _, _, _, true, rfl, .ty "int", .base (.int n), kit_ty (by decide +kernel), _, rfl, iteT ?_⟩
    exact ⟨_, rfl, _, _, _, _, false, rfl, .ty "bool", .base (.int n), kit_ty (by decide +kernel), _, rfl, k⟩
/-- a text of at most n signs is drawn; c draws at most -/
def spDrawn (n cost lim : Nat) : Sp := fun vs H Q _ => ∃ (p c : Addr) (B : Nat), vs = [.ref p] ∧ PenAt H p c B ∧ B < lim ∧
  ∀ (t : Str) (H' : Hp), t.length ≤ n → PenAt H' p c (B + cost) → But p H H' → Q (.str t) H'
theorem one_cps (c : Nat) : (⟨#[c]⟩ : Str).length = 1 := rfl
theorem joinL_nil : ∀ ws : List (List Nat), (joinL [] ws).length = (ws.map List.length).sum
  | [] => rfl
  | [a] => by simp [joinL]
  | a :: b :: r => by
    show (a ++ ([] ++ joinL [] (b :: r))).length = _
    have := joinL_nil (b :: r)
    simp only [List.length_append, List.length_nil, List.map_cons, List.sum_cons] at this ⊢
    omega
theorem join_nil_len (ys : List Str) : (Txt.join (Str.ofString "") ys).length = (ys.map (·.length)).sum := by
  rw [len_tl, join_eq, tl_join]
  show (joinL [] (ys.map tl)).length = _
  rw [joinL_nil, List.map_map]
  congr 1
theorem sum_ones : ∀ (ys : List Str), (∀ y ∈ ys, y.length = 1) → (ys.map (·.length)).sum = ys.length
  | [], _ => rfl
  | y :: r, h => by
    have h1 := h y List.mem_cons_self
    have h2 := sum_ones r fun z hz => h z (List.mem_cons_of_mem _ hz)
    simp only [List.map_cons, List.sum_cons, List.length_cons] at h2 ⊢
    omega
abbrev s__law_any_name : Stmt := top 26
theorem sc__law_any_name : FnScope ["_law_pen_here", "_law_letters", "_law_many", "_law_k"] ["_law_pen_here"] (defScope s__law_any_name) := ⟨rfl, rfl, rfl, by decide +kernel, rfl, by decide +kernel, by decide +kernel⟩

theorem ok_any {f : Addr} {fd : FuncData} (F : Fun K "_law_any_name" "_law_any_name" s__law_any_name f fd) (T : TB mg) (cDraw : Cal P w K mg base 1 "_law_draw" ["_law_pen_here", "_law_many"] spDraw)
    (cPick : Cal P w K mg base 2 "_law_pick" ["_law_pen_here", "_law_some"] spPick) : FnOk P w K mg base CX0 3 f fd ["_law_pen_here"] (spDrawn 20 20 1000000000) := by
  refine F.ok sc__law_any_name (fun vs H Q E h => ?_) (fun cdv A outer s H vs Q E hr h => ?_)
  · obtain ⟨p, c, B, rfl, _⟩ := h
    rfl
  · obtain ⟨p, c, B, rfl, hP, hB, k⟩ := h
    have hr2 : Room 2 _ := hr
    have hr1 : Room 1 _ := hr2.mono (by decide)
    refine ⟨_, (pss_cons (ps_asg (pe_tup (pa_cons pe_str (pa_cons (pe_cal cPick hr2 rfl (pa_cons (pv 0) (pa_cons (pe_lst (pa_cons pe_int (pa_cons pe_int (pa_cons pe_int (pa_cons pe_int (pa_cons pe_int (pa_cons pe_int (pa_cons (pe_op op_add pe_int (pe_cal cDraw hr1 rfl (pa_cons (pv 0) (pa_cons pe_int pa_nil)))) pa_nil)))))))) pa_nil))) pa_nil))) (pg_tup rfl (pgs_cons (pg_name (i := 1) sc__law_any_name.nd rfl (Or.inr rfl)) (pgs_cons (pg_name (i := 2) sc__law_any_name.nd rfl (Or.inl rfl)) pgs_nil))))
      (pss_one (ps_ret (pe_join pe_str (pe_lc (own := [("_law_k", 3)]) (g := gName 3) (by rfl) sc__law_any_name.nd (pi_range1 rfl T.range (pa_cons (pv 2) pa_nil)) (blkOk_by (own := [("_law_k", 3)]) (N := ["_law_pen_here", "_law_letters", "_law_many", "_law_k"]) (sc := defScope s__law_any_name) (by decide +kernel)) (fun _ _ _ _ _ => pg_name (i := 3) sc__law_any_name.nd rfl (Or.inl rfl)) (fun _ _ _ _ _ => pts_nil) (fun _ _ _ _ _ => (pe_cal cPick hr2 rfl (pa_cons (pv 0) (pa_cons (pv 1) pa_nil))))))))), ?_⟩
    refine ⟨_, rfl, _, rfl, p, c, 12, B, rfl, hP, by decide, by decide, by omega, fun n H1 n0 n1 hP1 b1 => ⟨_, _, rfl, rfl, (by show 7 ≤ sizeLine; decide), fun l hl => ?_⟩⟩
    refine ⟨p, c, _, B + 1, rfl, hP1.same (Same.new hl), by omega, .inl ⟨l, _, rfl, upd_same, by show 0 < 7; decide, by show 7 < _; decide, fun i x H2 hx hP2 b2 => ?_⟩⟩
    have hb : But p H H2 := b1.trans (But.after (Same.new hl) b2)
    have hm : ∃ m : Int, x = .int m ∧ 0 ≤ m ∧ m ≤ 13 := by
      match i, hx with
      | 0, hx => cases hx; exact ⟨_, rfl, by decide, by decide⟩
      | 1, hx => cases hx; exact ⟨_, rfl, by decide, by decide⟩
      | 2, hx => cases hx; exact ⟨_, rfl, by decide, by decide⟩
      | 3, hx => cases hx; exact ⟨_, rfl, by decide, by decide⟩
      | 4, hx => cases hx; exact ⟨_, rfl, by decide, by decide⟩
      | 5, hx => cases hx; exact ⟨_, rfl, by decide, by decide⟩
      | 6, hx => cases hx; exact ⟨_, rfl, by omega, by omega⟩
      | i + 7, hx => cases hx
    obtain ⟨m, rfl, m0, m1⟩ := hm
    refine ⟨(by show 2 ≤ sizeLine; decide), fun tp htp => ⟨tp, _, rfl, SqT.of upd_same, rfl, _, _, rfl, _, _, rfl, rfl, ?_⟩⟩
    have hP3 := hP2.same (Same.new (o := .tup [V.str "abcdefghijklmnopqrstuvwxyz", V.int m]) htp)
    have hb3 : But p H (upd H2 tp (.tup [V.str "abcdefghijklmnopqrstuvwxyz", V.int m])) := hb.then (Same.new htp)
    clear hP hP1 b1 b2 hP2 hb hl htp
    generalize upd H2 tp (.tup [V.str "abcdefghijklmnopqrstuvwxyz", V.int m]) = H3 at hP3 hb3 ⊢
    refine ⟨⟨_, rfl⟩, _, rfl, _, rfl, by omega, by omega, fun D hD => ?_⟩
    have npD := hP3.ne hD
    have ncD := hP3.nec hD
    refine lc_it walk_range (fun i H' => (∃ ys : List Str, H' D = some (.lst (ys.map V.str)) ∧ ys.length = i ∧ ∀ y ∈ ys, y.length = 1) ∧ PenAt H' p c (B + 1 + 1 + i) ∧ But p H3 H') ⟨⟨[], upd_same, rfl, fun y hy => by cases hy⟩, hP3.upd npD ncD, (But.refl p H3).upd hD⟩ (fun _ _ _ _ => trivial) ?_ ?_
    · rintro i x Ha Hb hi ⟨⟨ys, hys, hyl, hy1⟩, hPa, hba⟩ ⟨rfl, rfl⟩
      refine ⟨rfl, ?_⟩
      unfold tYes
      dsimp only
      rw [if_pos rfl]
      refine ⟨_, rfl, _, rfl, p, c, _, _, rfl, hPa, by omega, .inr ⟨_, rfl, by decide +kernel, by decide +kernel, fun ch H' hP' b' => ?_⟩⟩
      have hD' : H' D = some (.lst (ys.map V.str)) := b' _ _ hys (Ne.symm npD)
      refine ⟨_, hD', ?_, ⟨ys ++ [⟨#[ch]⟩], ?_, ?_, ?_⟩, hP'.upd npD ncD, (hba.trans b').upd hD⟩
      · rw [List.length_map, hyl]
        exact Nat.lt_of_lt_of_le (show i < 100000 by omega) (by decide)
      · rw [upd_same, List.map_append]
        rfl
      · rw [List.length_append, hyl]; rfl
      · intro y hy
        rcases List.mem_append.mp hy with h | h
        · exact hy1 y h
        · rw [List.mem_singleton.mp h]; rfl
    · rintro Ha ⟨⟨ys, hys, hyl, hy1⟩, hPa, hba⟩
      have e1 := sum_ones ys hy1
      have l0 : (Str.ofString "").length = 0 := by decide +kernel
      refine ⟨_, D, ys, rfl, rfl, .inl (SqL.of hys), ?_, ?_⟩
      · rw [e1, hyl, l0]; omega
      · refine k _ _ ?_ (hPa.mono (by omega)) (hb3.trans hba)
        rw [join_nil_len, e1, hyl]; omega
end
end Toy

set_option Elab.async false
set_option linter.all false
set_option maxRecDepth 100000
set_option maxHeartbeats 4000000
namespace Toy
open PySem L2 TL EM
section
variable {P : Program} {w : World} {K : PySem.W.Frag} {mg : Str → Option Value} {base : Heap}
theorem pickStr {n : Nat} (ws : List Str) (hw : ∀ y ∈ ws, y.length ≤ n) {i : Nat} {x : V} (h : (ws.map V.str)[i]? = some x) : ∃ t : Str, x = .str t ∧ t.length ≤ n := by
  rw [List.getElem?_map] at h
  cases e : ws[i]? with
  | none => rw [e] at h; cases h
  | some y =>
    rw [e] at h
    cases h
    exact ⟨y, rfl, hw y (List.mem_of_getElem? e)⟩
def spBent : Sp := fun vs H Q _ => ∃ (p c : Addr) (t : Str) (B : Nat), vs = [.ref p, .str t] ∧ t.length ≤ 10000 ∧ PenAt H p c B ∧ B < 1000000000 ∧
  ∀ (t' : Str) (H' : Hp), t'.length ≤ 30100 → PenAt H' p c (B + 5) → But p H H' → Q (.str t') H'
abbrev s__law_bent : Stmt := top 25
theorem sc__law_bent : FnScope ["_law_pen_here", "_law_text", "_law_menu", "_law_way", "_law_spot"] ["_law_pen_here", "_law_text"] (defScope s__law_bent) := ⟨rfl, rfl, rfl, by decide +kernel, rfl, by decide +kernel, by decide +kernel⟩

theorem ok_bent {f : Addr} {fd : FuncData} (F : Fun K "_law_bent" "_law_bent" s__law_bent f fd) (T : TB mg) (cDraw : Cal P w K mg base 1 "_law_draw" ["_law_pen_here", "_law_many"] spDraw)
    (cPick : Cal P w K mg base 2 "_law_pick" ["_law_pen_here", "_law_some"] spPick) : FnOk P w K mg base CX0 3 f fd ["_law_pen_here", "_law_text"] spBent := by
  refine F.ok sc__law_bent (fun vs H Q E h => ?_) (fun cdv A outer s H vs Q E hr h => ?_)
  · obtain ⟨p, c, t, B, rfl, _⟩ := h
    rfl
  · obtain ⟨p, c, t, B, rfl, ht, hP, hB, k⟩ := h
    have hr2 : Room 2 _ := hr
    have hr1 : Room 1 _ := hr2.mono (by decide)
    refine ⟨_, (pss_cons (ps_set (i := 2) sc__law_bent.nd rfl (Or.inl rfl) (pe_lst (pa_cons pe_str (pa_cons pe_str (pa_cons pe_str (pa_cons pe_str (pa_cons pe_str (pa_cons pe_str (pa_cons pe_str (pa_cons pe_str (pa_cons pe_str (pa_cons pe_str (pa_cons pe_str (pa_cons pe_str (pa_cons pe_str (pa_cons pe_str (pa_cons pe_str (pa_cons pe_str (pa_cons pe_str pa_nil)))))))))))))))))))
      (pss_cons (ps_par (i := 3) (j := 4) (by rfl) sc__law_bent.nd rfl rfl (by decide) rfl rfl (pa_cons (pe_cal cDraw hr1 rfl (pa_cons (pv 0) (pa_cons pe_int pa_nil))) (pa_cons (pe_cal cDraw hr1 rfl (pa_cons (pv 0) (pa_cons (pe_op op_add (pe_callB call_len_str (by rfl) T.len PySem.boot_len (pa_cons (pv 1) pa_nil)) pe_int) pa_nil))) pa_nil)) (by rfl))
      (pss_cons (ps_if (pt_cmpR op_eq (pv 3) pe_int (nomark _))
        (pss_one (ps_ret (pe_op op_add_str (pe_slice sl_str (pv 1) po_none (po_some (pv 4))) (pe_slice sl_str (pv 1) (po_some (pe_op op_add (pv 4) pe_int)) po_none))))
        pss_nil)
      (pss_cons (ps_if (pt_cmpR op_eq (pv 3) pe_int (nomark _))
        (pss_one (ps_ret (pe_op op_add_str (pe_op op_add_str (pe_slice sl_str (pv 1) po_none (po_some (pv 4))) (pe_cal cPick hr2 rfl (pa_cons (pv 0) (pa_cons (pv 2) pa_nil)))) (pe_slice sl_str (pv 1) (po_some (pv 4)) po_none))))
        pss_nil)
      (pss_cons (ps_if (pt_cmpR op_eq (pv 3) pe_int (nomark _))
        (pss_one (ps_ret (pe_op op_add_str (pe_op op_add_str (pe_slice sl_str (pv 1) po_none (po_some (pv 4))) (pe_slice sl_str (pv 1) (po_some (pv 4)) (po_some (pe_op op_add (pv 4) pe_int)))) (pe_slice sl_str (pv 1) (po_some (pv 4)) po_none))))
        pss_nil)
      (pss_one (ps_ret (pe_op op_add_str (pe_op op_add_str (pe_slice sl_str (pv 1) po_none (po_some (pv 4))) (pe_cal cPick hr2 rfl (pa_cons (pv 0) (pa_cons (pv 2) pa_nil)))) (pe_slice sl_str (pv 1) (po_some (pe_op op_add (pv 4) pe_int)) po_none))))))))), ?_⟩
    have sz : ∀ {n : Nat}, n ≤ 100000 → n ≤ sizeLine := fun h => Evl.sz_of h
    have cl := fun a b => cutS_length t a b
    have ml : ∀ y ∈ (["a", "z", "A", "0", "7", "-", "1", " ", "  ", "+", "\n", ".", "_", ">", " to ", "zone", "  day -> keep"] : List Str), y.length ≤ 20 := by decide +kernel
    refine ⟨(by show 17 ≤ sizeLine; decide), fun l hl => ?_⟩
    have hP0 := hP.same (Same.new (o := .lst ((["a", "z", "A", "0", "7", "-", "1", " ", "  ", "+", "\n", ".", "_", ">", " to ", "zone", "  day -> keep"] : List Str).map V.str)) hl)
    refine ⟨_, rfl, p, c, 4, B, rfl, hP0, by decide, by decide, by omega, fun n H1 n0 n1 hP1 b1 => ?_⟩
    refine ⟨_, rfl, _, rfl, _, rfl, sz (by omega), _, _, rfl, rfl, ?_⟩
    refine ⟨p, c, _, B + 1, rfl, hP1, by omega, by omega, by omega, fun n' H2 n0' n1' hP2 b2 => ?_⟩
    refine ⟨_, _, rfl, ?_⟩
    have hz : t.length ≤ sizeLine := sz (by omega)
    have hl2 : H2 l = some (.lst ((["a", "z", "A", "0", "7", "-", "1", " ", "  ", "+", "\n", ".", "_", ">", " to ", "zone", "  day -> keep"] : List Str).map V.str)) := b2 _ _ (b1 _ _ upd_same (hP.ne hl).symm) (hP.ne hl).symm
    have hb : But p H H2 := (But.after (Same.new hl) b1).trans b2
    refine ⟨_, rfl, rfl, _, rfl, ite2 (fun _ => ?_) (fun _ => ⟨_, rfl, rfl, _, rfl, ite2 (fun _ => ?_) (fun _ => ⟨_, rfl, rfl, _, rfl, ite2 (fun _ => ?_) (fun _ => ?_)⟩)⟩)⟩
    · refine ⟨_, rfl, _, rfl, _, rfl, _, rfl, hz, _, rfl, _, rfl, _, _, rfl, rfl, _, rfl, _, rfl, hz, _, _, rfl, rfl, sz ?_, k _ _ ?_ (hP2.mono (by omega)) hb⟩
      · have h1 := cl none (some n'); have h2 := cl (some (n' + 1)) none; omega
      · have h1 := cl none (some n'); have h2 := cl (some (n' + 1)) none; rw [len_app]; omega
    · refine ⟨_, rfl, _, rfl, _, rfl, _, rfl, hz, _, rfl, _, rfl, p, c, _, B + 1 + 1, rfl, hP2, by omega, .inl ⟨l, _, rfl, hl2, by decide, by decide, fun i x H3 hx hP3 b3 => ?_⟩⟩
      obtain ⟨y, rfl, hy⟩ := pickStr _ ml hx
      have h1 := cl none (some n'); have h2 := cl (some n') none
      refine ⟨_, _, rfl, rfl, sz (by omega), _, rfl, _, rfl, _, rfl, _, rfl, hz, _, _, rfl, rfl, sz (by rw [len_app]; omega), k _ _ (by simp only [len_app]; omega) (hP3.mono (by omega)) (hb.trans b3)⟩
    · have h1 := cl none (some n'); have h2 := cl (some n') none; have h3 := cl (some n') (some (n' + 1))
      refine ⟨_, rfl, _, rfl, _, rfl, _, rfl, hz, _, rfl, _, rfl, _, rfl, _, rfl, _, _, rfl, rfl, _, rfl, _, rfl, hz, _, _, rfl, rfl, sz (by omega), ?_⟩
      refine ⟨_, rfl, _, rfl, _, rfl, _, rfl, hz, _, _, rfl, rfl, sz (by rw [len_app]; omega), k _ _ (by simp only [len_app]; omega) (hP2.mono (by omega)) hb⟩
    · refine ⟨_, rfl, _, rfl, _, rfl, _, rfl, hz, _, rfl, _, rfl, p, c, _, B + 1 + 1, rfl, hP2, by omega, .inl ⟨l, _, rfl, hl2, by decide, by decide, fun i x H3 hx hP3 b3 => ?_⟩⟩
      obtain ⟨y, rfl, hy⟩ := pickStr _ ml hx
      have h1 := cl none (some n'); have h2 := cl (some (n' + 1)) none
      refine ⟨_, _, rfl, rfl, sz (by omega), _, rfl, _, rfl, _, _, rfl, rfl, _, rfl, _, rfl, hz, _, _, rfl, rfl, sz (by rw [len_app]; omega), k _ _ (by simp only [len_app]; omega) (hP3.mono (by omega)) (hb.trans b3)⟩
end
end Toy

set_option Elab.async false
set_option linter.all false
set_option maxRecDepth 100000
set_option maxHeartbeats 4000000
namespace Toy
open PySem L2 TL EM
section
variable {P : Program} {w : World} {K : PySem.W.Frag} {mg : Str → Option Value} {base : Heap}
theorem canon_le {k : List Nat} {a b : Int} {z : Option (List Nat)} {m n : Nat} (hk : k.length ≤ m) (hn : 0 < n) (ha : a.natAbs < 10 ^ n) (hb : b.natAbs < 10 ^ n) (hz : ∀ y, z = some y → y.length ≤ m) : (canon k a b z).length ≤ 2 * m + 2 * n + 10 := by
  have h1 := intOf_len hn ha
  have h2 := intOf_len hn hb
  have h3 : kTo.length = 2 := rfl
  cases z with
  | none =>
    show (k ++ ([32] ++ (intOf a ++ ([32] ++ (kTo ++ ([32] ++ intOf b)))))).length ≤ _
    simp only [List.length_append, List.length_cons, List.length_nil]
    omega
  | some y =>
    have h4 := hz y rfl
    show (k ++ ([32] ++ (intOf a ++ ([32] ++ (kTo ++ ([32] ++ (intOf b ++ ([32] ++ y)))))))).length ≤ _
    simp only [List.length_append, List.length_cons, List.length_nil]
    omega
theorem pickInt {n : Int} (ws : List Int) (hw : ∀ y ∈ ws, 0 ≤ y ∧ y ≤ n) {i : Nat} {x : V} (h : (ws.map V.int)[i]? = some x) : ∃ t : Int, x = .int t ∧ 0 ≤ t ∧ t ≤ n := by
  rw [List.getElem?_map] at h
  cases e : ws[i]? with
  | none => rw [e] at h; cases h
  | some y =>
    rw [e] at h
    cases h
    exact ⟨y, rfl, hw y (List.mem_of_getElem? e)⟩
abbrev s__law_right_text : Stmt := top 30
theorem sc__law_right_text : FnScope ["_law_pen_here", "_law_kind", "_law_first", "_law_last"] ["_law_pen_here"] (defScope s__law_right_text) := ⟨rfl, rfl, rfl, by decide +kernel, rfl, by decide +kernel, by decide +kernel⟩

theorem ok_right {f : Addr} {fd : FuncData} (F : Fun K "_law_right_text" "_law_right_text" s__law_right_text f fd) (T : TB mg)
    (cPick : Cal P w K mg base 2 "_law_pick" ["_law_pen_here", "_law_some"] spPick) (cFar : Cal P w K mg base 3 "_law_far_number" ["_law_pen_here"] spFar) (cAny : Cal P w K mg base 3 "_law_any_name" ["_law_pen_here"] (spDrawn 20 20 1000000000))
    (cText : Cal P w K mg base 1 "_law_entry_text" ["_law_entry"] spText) : FnOk P w K mg base CX0 4 f fd ["_law_pen_here"] (spDrawn 1000 80 100000000) := by
  refine F.ok sc__law_right_text (fun vs H Q E h => ?_) (fun cdv A outer s H vs Q E hr h => ?_)
  · obtain ⟨p, c, B, rfl, _⟩ := h
    rfl
  · obtain ⟨p, c, B, rfl, hP, hB, k⟩ := h
    have hr3 : Room 3 _ := hr
    have hr2 : Room 2 _ := hr3.mono (by decide)
    have hr1 : Room 1 _ := hr3.mono (by decide)
    refine ⟨_, (pss_cons (ps_set (i := 1) sc__law_right_text.nd rfl (Or.inl rfl) (pe_cal cPick hr2 rfl (pa_cons (pv 0) (pa_cons (pe_lst (pa_cons pe_str (pa_cons pe_str (pa_cons pe_str (pa_cons pe_str pa_nil))))) pa_nil))))
      (pss_cons (ps_asg (pe_callB cr_sortedI (by rfl) T.sorted (by decide +kernel) (pa_cons (pe_lst (pa_cons (pe_cal cFar hr3 rfl (pa_cons (pv 0) pa_nil)) (pa_cons (pe_cal cFar hr3 rfl (pa_cons (pv 0) pa_nil)) pa_nil))) pa_nil)) (pg_lst rfl (pgs_cons (pg_name (i := 2) sc__law_right_text.nd rfl (Or.inl rfl)) (pgs_cons (pg_name (i := 3) sc__law_right_text.nd rfl (Or.inl rfl)) pgs_nil))))
      (pss_one (ps_ret (pe_cal cText hr1 rfl (pa_cons (pe_tup (pa_cons (pv 1) (pa_cons (pv 2) (pa_cons (pv 3) (pa_cons (pe_ifExp (pt_cmpR op_eq (pv 1) pe_str (nomark _)) (pe_cal cAny hr3 rfl (pa_cons (pv 0) pa_nil)) pe_non) pa_nil))))) pa_nil)))))), ?_⟩
    have ml : ∀ y ∈ (["day", "float", "zoned", "fixed"] : List Str), y.length ≤ 20 := by decide +kernel
    refine ⟨_, rfl, (by show 4 ≤ sizeLine; decide), fun l hl => ⟨p, c, _, B, rfl, hP.same (Same.new hl), by omega, .inl ⟨l, _, rfl, upd_same, by show 0 < 4; decide, by show 4 < _; decide, fun i x H1 hx hP1 b1 => ?_⟩⟩⟩
    obtain ⟨kd, rfl, hkd⟩ := pickStr _ ml hx
    have bb1 : But p H H1 := But.after (Same.new hl) b1
    refine ⟨_, rfl, p, c, B + 1, rfl, hP1, by omega, fun n1 H2 hn1 hP2 b2 => ?_⟩
    refine ⟨_, rfl, p, c, B + 1 + 25, rfl, hP2, by omega, fun n2 H3 hn2 hP3 b3 => ?_⟩
    refine ⟨(by show 2 ≤ sizeLine; decide), fun q hq => ⟨q, [n1, n2], rfl, SqL.of upd_same, fun ns' u hperm hsrt hu => ?_⟩⟩
    have bb3 : But p H H3 := (bb1.trans b2).trans b3
    obtain ⟨a, b, rfl⟩ : ∃ a b, ns' = [a, b] := by
      have := hperm.length_eq
      match ns', this with
      | [a, b], _ => exact ⟨a, b, rfl⟩
    have ha : a.natAbs < 10 ^ 30 := by
      rcases List.mem_cons.mp (hperm.mem_iff.mp (List.mem_cons_self (a := a))) with e | e
      · rw [e]; exact hn1
      · rw [List.mem_singleton.mp e]; exact hn2
    have hb : b.natAbs < 10 ^ 30 := by
      rcases List.mem_cons.mp (hperm.mem_iff.mp (List.mem_cons_of_mem a (List.mem_cons_self (a := b)))) with e | e
      · rw [e]; exact hn1
      · rw [List.mem_singleton.mp e]; exact hn2
    refine ⟨u, _, rfl, SqL.of upd_same, rfl, _, _, rfl, _, _, rfl, rfl, ?_⟩
    have s4 : Same H3 (upd (upd H3 q (.lst [V.int n1, V.int n2])) u (.lst [V.int a, V.int b])) := (Same.new hq).trans (Same.new hu)
    have hP4 := hP3.same s4
    have bb4 := bb3.then s4
    have e4 : (upd (upd H3 q (.lst [V.int n1, V.int n2])) u (.lst (List.map V.int [a, b]))) = upd (upd H3 q (.lst [V.int n1, V.int n2])) u (.lst [V.int a, V.int b]) := rfl
    rw [e4]
    clear hP hP1 hP2 hP3 b1 b2 b3 bb1 bb3 s4 e4 hu hq hl
    generalize upd (upd H3 q (.lst [V.int n1, V.int n2])) u (.lst [V.int a, V.int b]) = H4 at hP4 bb4 ⊢
    have la : a.natAbs < 10 ^ 100 := Nat.lt_of_lt_of_le ha (by decide +kernel)
    have lb : b.natAbs < 10 ^ 100 := Nat.lt_of_lt_of_le hb (by decide +kernel)
    have fin : ∀ (z : Option (List Nat)) (H5 : Hp), (∀ y, z = some y → y.length ≤ 20) → PenAt H5 p c (B + 80) → But p H H5 → ∀ tq, H5 tq = none → spText ([V.ref tq] ++ []) (upd H5 tq (.tup [.str kd, .int a, .int b, optZ z])) Q E0 := by
      intro z H5 hz hP5 bb5 tq htq
      refine ⟨tq, tl kd, a, b, z, rfl, by rw [upd_same, strOf_tl], by rw [← len_tl]; omega, la, lb, fun y e => by have := hz y e; omega, ?_⟩
      refine k _ _ ?_ (hP5.same (Same.new htq)) (bb5.then (Same.new htq))
      rw [len_strOf]
      have := canon_le (k := tl kd) (z := z) (m := 20) (n := 30) (by rw [← len_tl]; exact hkd) (by decide) ha hb hz
      omega
    refine ⟨_, rfl, _, rfl, _, rfl, _, rfl, rfl, _, rfl, ite2 (fun _ => ?_) (fun _ => ?_)⟩
    · refine ⟨_, rfl, p, c, B + 1 + 25 + 25, rfl, hP4, by omega, fun t H5 ht hP5 b5 => ?_⟩
      refine ⟨(by show 4 ≤ sizeLine; decide), fun tq htq => ?_⟩
      have := fin (some (tl t)) H5 (fun y e => by cases e; rw [← len_tl]; exact ht) (hP5.mono (by omega)) (bb4.trans b5) tq htq
      exact this
    · exact ⟨(by show 4 ≤ sizeLine; decide), fun tq htq => fin none H4 (fun y e => by cases e) (hP4.mono (by omega)) bb4 tq htq⟩
abbrev s__law_odd_number : Stmt := top 31
theorem sc__law_odd_number : FnScope ["_law_pen_here", "_law_way"] ["_law_pen_here"] (defScope s__law_odd_number) := ⟨rfl, rfl, rfl, by decide +kernel, rfl, by decide +kernel, by decide +kernel⟩

theorem ok_oddn {f : Addr} {fd : FuncData} (F : Fun K "_law_odd_number" "_law_odd_number" s__law_odd_number f fd) (T : TB mg) (cDraw : Cal P w K mg base 1 "_law_draw" ["_law_pen_here", "_law_many"] spDraw)
    (cPick : Cal P w K mg base 2 "_law_pick" ["_law_pen_here", "_law_some"] spPick) (cFar : Cal P w K mg base 3 "_law_far_number" ["_law_pen_here"] spFar) : FnOk P w K mg base CX0 4 f fd ["_law_pen_here"] (spDrawn 1000 30 1000000000) := by
  refine F.ok sc__law_odd_number (fun vs H Q E h => ?_) (fun cdv A outer s H vs Q E hr h => ?_)
  · obtain ⟨p, c, B, rfl, _⟩ := h
    rfl
  · obtain ⟨p, c, B, rfl, hP, hB, k⟩ := h
    have hr3 : Room 3 _ := hr
    have hr2 : Room 2 _ := hr3.mono (by decide)
    have hr1 : Room 1 _ := hr3.mono (by decide)
    refine ⟨_, (pss_cons (ps_set (i := 1) sc__law_odd_number.nd rfl (Or.inl rfl) (pe_cal cDraw hr1 rfl (pa_cons (pv 0) (pa_cons pe_int pa_nil))))
      (pss_cons (ps_if (pt_cmpR op_eq (pv 1) pe_int (nomark _))
        (pss_one (ps_ret (pe_cal cPick hr2 rfl (pa_cons (pv 0) (pa_cons (pe_lst (pa_cons pe_str (pa_cons pe_str (pa_cons pe_str (pa_cons pe_str (pa_cons pe_str (pa_cons pe_str (pa_cons pe_str (pa_cons pe_str (pa_cons pe_str (pa_cons pe_str (pa_cons pe_str pa_nil)))))))))))) pa_nil)))))
        pss_nil)
      (pss_cons (ps_if (pt_cmpR op_eq (pv 1) pe_int (nomark _))
        (pss_one (ps_ret (pe_op op_add_str (pe_cal cPick hr2 rfl (pa_cons (pv 0) (pa_cons (pe_lst (pa_cons pe_str (pa_cons pe_str pa_nil))) pa_nil))) (pe_op op_mul_str pe_str (pe_cal cPick hr2 rfl (pa_cons (pv 0) (pa_cons (pe_lst (pa_cons pe_int (pa_cons pe_int (pa_cons pe_int (pa_cons pe_int pa_nil))))) pa_nil)))))))
        pss_nil)
      (pss_one (ps_ret (pe_callTy call_str_int (by rfl) T.str (by decide +kernel) (pa_cons (pe_cal cFar hr3 rfl (pa_cons (pv 0) pa_nil)) pa_nil))))))), ?_⟩
    have ml : ∀ y ∈ (["0", "-0", "00", "007", "+5", "", "-", "--3", "1_0", "5.0", "1e3"] : List Str), y.length ≤ 20 := by decide +kernel
    have ml2 : ∀ y ∈ (["", "-"] : List Str), y.length ≤ 20 := by decide +kernel
    have ml3 : ∀ y ∈ ([29, 30, 31, 60] : List Int), 0 ≤ y ∧ y ≤ 60 := by decide
    refine ⟨_, rfl, p, c, 4, B, rfl, hP, by decide, by decide, by omega, fun n H1 n0 n1 hP1 b1 => ⟨_, rfl, rfl, _, rfl, ?_⟩⟩
    refine ite2 (fun _ => ?_) (fun _ => ⟨_, rfl, rfl, _, rfl, ite2 (fun _ => ?_) (fun _ => ?_)⟩)
    · refine ⟨_, rfl, (by show 11 ≤ sizeLine; decide), fun l hl => ⟨p, c, _, B + 1, rfl, hP1.same (Same.new hl), by omega, .inl ⟨l, _, rfl, upd_same, by show 0 < 11; decide, by show 11 < _; decide, fun i x H2 hx hP2 b2 => ?_⟩⟩⟩
      obtain ⟨y, rfl, hy⟩ := pickStr _ ml hx
      exact k _ _ (by omega) (hP2.mono (by omega)) (b1.trans (But.after (Same.new hl) b2))
    · refine ⟨_, rfl, (by show 2 ≤ sizeLine; decide), fun l hl => ⟨p, c, _, B + 1, rfl, hP1.same (Same.new hl), by omega, .inl ⟨l, _, rfl, upd_same, by show 0 < 2; decide, by show 2 < _; decide, fun i x H2 hx hP2 b2 => ?_⟩⟩⟩
      obtain ⟨y, rfl, hy⟩ := pickStr _ ml2 hx
      refine ⟨_, rfl, (by show 4 ≤ sizeLine; decide), fun l' hl' => ⟨p, c, _, B + 1 + 1, rfl, hP2.same (Same.new hl'), by omega, .inl ⟨l', _, rfl, upd_same, by show 0 < 4; decide, by show 4 < _; decide, fun i' x' H3 hx' hP3 b3 => ?_⟩⟩⟩
      obtain ⟨m, rfl, m0, m1⟩ := pickInt _ ml3 hx'
      refine ⟨_, m, rfl, rfl, by decide +kernel, m0, by omega, fun z hz => ?_⟩
      have l9 : (Str.ofString "9").length = 1 := by decide +kernel
      rw [l9, Nat.one_mul] at hz
      refine ⟨_, _, rfl, rfl, Evl.sz_of (by omega), ?_⟩
      exact k _ _ (by rw [len_app]; omega) (hP3.mono (by omega)) ((b1.trans (But.after (Same.new hl) b2)).trans (But.after (Same.new hl') b3))
    · refine ⟨_, rfl, p, c, B + 1, rfl, hP1, by omega, fun n2 H2 hn hP2 b2 => ?_⟩
      have hn' : n2.natAbs < 10 ^ 100 := Nat.lt_of_lt_of_le hn (by decide +kernel)
      refine ⟨_, rfl, log_ok hn', ?_⟩
      have := len_int hn'
      exact k _ _ (by omega) (hP2.mono (by omega)) (b1.trans b2)
abbrev s__law_odd_text : Stmt := top 32
theorem sc__law_odd_text : FnScope ["_law_pen_here", "_law_kind", "_law_text"] ["_law_pen_here"] (defScope s__law_odd_text) := ⟨rfl, rfl, rfl, by decide +kernel, rfl, by decide +kernel, by decide +kernel⟩

theorem ok_oddt {f : Addr} {fd : FuncData} (F : Fun K "_law_odd_text" "_law_odd_text" s__law_odd_text f fd) (T : TB mg)
    (cPick : Cal P w K mg base 2 "_law_pick" ["_law_pen_here", "_law_some"] spPick) (cOdd : Cal P w K mg base 4 "_law_odd_number" ["_law_pen_here"] (spDrawn 1000 30 1000000000)) (cAny : Cal P w K mg base 3 "_law_any_name" ["_law_pen_here"] (spDrawn 20 20 1000000000)) : FnOk P w K mg base CX0 5 f fd ["_law_pen_here"] (spDrawn 3000 90 100000000) := by
  refine F.ok sc__law_odd_text (fun vs H Q E h => ?_) (fun cdv A outer s H vs Q E hr h => ?_)
  · obtain ⟨p, c, B, rfl, _⟩ := h
    rfl
  · obtain ⟨p, c, B, rfl, hP, hB, k⟩ := h
    have hr4 : Room 4 _ := hr
    have hr3 : Room 3 _ := hr4.mono (by decide)
    have hr2 : Room 2 _ := hr4.mono (by decide)
    refine ⟨_, (pss_cons (ps_set (i := 1) sc__law_odd_text.nd rfl (Or.inl rfl) (pe_cal cPick hr2 rfl (pa_cons (pv 0) (pa_cons (pe_lst (pa_cons pe_str (pa_cons pe_str (pa_cons pe_str (pa_cons pe_str (pa_cons pe_str (pa_cons pe_str (pa_cons pe_str (pa_cons pe_str pa_nil))))))))) pa_nil))))
      (pss_cons (ps_set (i := 2) sc__law_odd_text.nd rfl (Or.inl rfl) (pe_op op_add_str (pe_op op_add_str (pe_op op_add_str (pv 1) pe_str) (pe_cal cOdd hr4 rfl (pa_cons (pv 0) pa_nil))) (pe_cal cPick hr2 rfl (pa_cons (pv 0) (pa_cons (pe_lst (pa_cons pe_str (pa_cons pe_str (pa_cons pe_str (pa_cons pe_str (pa_cons pe_str pa_nil)))))) pa_nil)))))
      (pss_one (ps_ret (pe_op op_add_str (pe_op op_add_str (pv 2) (pe_cal cOdd hr4 rfl (pa_cons (pv 0) pa_nil))) (pe_cal cPick hr2 rfl (pa_cons (pv 0) (pa_cons (pe_lst (pa_cons pe_str (pa_cons (pe_op op_add_str pe_str (pe_cal cAny hr3 rfl (pa_cons (pv 0) pa_nil))) (pa_cons pe_str (pa_cons pe_str pa_nil))))) pa_nil)))))))), ?_⟩
    have ml : ∀ y ∈ (["day", "float", "zoned", "fixed", "zoned", "days", "Float", ""] : List Str), y.length ≤ 20 := by decide +kernel
    have ml2 : ∀ y ∈ ([" to ", " to ", " to ", " ", " for "] : List Str), y.length ≤ 20 := by decide +kernel
    have sz : ∀ {n : Nat}, n ≤ 100000 → n ≤ sizeLine := fun h => Evl.sz_of h
    have l1 : (Str.ofString " ").length = 1 := by decide +kernel
    refine ⟨_, rfl, (by show 8 ≤ sizeLine; decide), fun l hl => ⟨p, c, _, B, rfl, hP.same (Same.new hl), by omega, .inl ⟨l, _, rfl, upd_same, by show 0 < 8; decide, by show 8 < _; decide, fun i x H1 hx hP1 b1 => ?_⟩⟩⟩
    obtain ⟨kd, rfl, hkd⟩ := pickStr _ ml hx
    have bb1 : But p H H1 := But.after (Same.new hl) b1
    refine ⟨_, rfl, _, _, rfl, rfl, sz (by omega), _, rfl, p, c, B + 1, rfl, hP1, by omega, fun t1 H2 ht1 hP2 b2 => ?_⟩
    refine ⟨_, _, rfl, rfl, sz (by rw [len_app]; omega), ?_⟩
    refine ⟨_, rfl, (by show 5 ≤ sizeLine; decide), fun l' hl' => ⟨p, c, _, B + 1 + 30, rfl, hP2.same (Same.new hl'), by omega, .inl ⟨l', _, rfl, upd_same, by show 0 < 5; decide, by show 5 < _; decide, fun i' x' H3 hx' hP3 b3 => ?_⟩⟩⟩
    obtain ⟨tt, rfl, htt⟩ := pickStr _ ml2 hx'
    have bb3 : But p H H3 := (bb1.trans b2).trans (But.after (Same.new hl') b3)
    refine ⟨_, _, rfl, rfl, sz (by simp only [len_app]; omega), ?_⟩
    refine ⟨_, rfl, _, rfl, p, c, B + 1 + 30 + 1, rfl, hP3, by omega, fun t2 H4 ht2 hP4 b4 => ?_⟩
    refine ⟨_, _, rfl, rfl, sz (by simp only [len_app]; omega), ?_⟩
    refine ⟨_, rfl, _, rfl, p, c, B + 1 + 30 + 1 + 30, rfl, hP4, by omega, fun t3 H5 ht3 hP5 b5 => ?_⟩
    refine ⟨_, _, rfl, rfl, sz (by omega), (by show 4 ≤ sizeLine; decide), fun l2 hl2 => ?_⟩
    refine ⟨p, c, _, B + 1 + 30 + 1 + 30 + 20, rfl, hP5.same (Same.new hl2), by omega, .inl ⟨l2, _, rfl, upd_same, by show 0 < 4; decide, by show 4 < _; decide, fun i2 x2 H6 hx2 hP6 b6 => ?_⟩⟩
    obtain ⟨y, rfl, hy⟩ := pickStr (n := 21) ["", " " ++ t3, " Q", " "] (by
      intro y hy
      simp only [List.mem_cons, List.not_mem_nil, or_false] at hy
      rcases hy with rfl | rfl | rfl | rfl
      · decide +kernel
      · rw [len_app]; omega
      · decide +kernel
      · decide +kernel) hx2
    refine ⟨_, _, rfl, rfl, sz (by simp only [len_app]; omega), ?_⟩
    exact k _ _ (by simp only [len_app]; omega) (hP6.mono (by omega)) (((bb3.trans b4).trans b5).trans (But.after (Same.new hl2) b6))
end
end Toy

set_option Elab.async false
set_option linter.all false
set_option maxRecDepth 100000
set_option maxHeartbeats 4000000
namespace Toy
open PySem L2 TL EM
section
variable {P : Program} {w : World} {K : PySem.W.Frag} {mg : Str → Option Value} {base : Heap}
def refV : List V := [.str "refused", .int 1, .bl true, .bl true]
def dueV (t : Str) : List V := match parts (tl t) with
  | none => refV
  | some (k, a, b, z) => [.str t, .str (strOf k), .int a, .int b, optZ z, .bl true]
def spDue : Sp := fun vs H Q _ => ∃ t : Str, vs = [.str t] ∧ t.length ≤ 90000 ∧ ∀ p H', H p = none → Same H H' → H' p = some (.tup (dueV t)) → Q (.ref p) H'
abbrev s__law_entry_due : Stmt := top 29
theorem sc__law_entry_due : FnScope ["_law_text", "_law_words", "_law_many", "_law_refusal", "_law_first", "_law_last"] ["_law_text"] (defScope s__law_entry_due) := ⟨rfl, rfl, rfl, by decide +kernel, rfl, by decide +kernel, by decide +kernel⟩

theorem ok_due {f : Addr} {fd : FuncData} (F : Fun K "_law_entry_due" "_law_entry_due" s__law_entry_due f fd) (T : TB mg) (cNum : Cal P w K mg base 1 "_law_number" ["_law_text"] spNum) (cNam : Cal P w K mg base 1 "_law_is_name" ["_law_text"] spLName) : FnOk P w K mg base CX0 2 f fd ["_law_text"] spDue := by
  refine F.ok sc__law_entry_due (fun vs H Q E h => ?_) (fun cdv A outer s H vs Q E hr h => ?_)
  · obtain ⟨t, rfl, _⟩ := h
    rfl
  · obtain ⟨t, rfl, ht, k1⟩ := h
    have hr1 : Room 1 _ := hr
    refine ⟨_, (pss_cons (ps_set (i := 1) sc__law_entry_due.nd rfl (Or.inl rfl) (pe_split (pv 0) pe_str))
      (Evl.pss_cut (ps_set (i := 2) sc__law_entry_due.nd rfl (Or.inl rfl) (pe_ifExp (pt_cmpR op_eq (pe_ix ix_list (pv 1) pe_int (fun _ _ => rfl)) pe_str (nomark _)) pe_int pe_int))
      (pss_cons (ps_set (i := 3) sc__law_entry_due.nd rfl (Or.inl rfl) (pe_tup (pa_cons pe_str (pa_cons pe_int (pa_cons pe_bl (pa_cons pe_bl pa_nil))))))
      (pss_cons (ps_if (PW.pt (pw_or (pt_cmpR op_notIn_seq (pe_ix ix_list (pv 1) pe_int (fun _ _ => rfl)) (pe_tup (pa_cons pe_str (pa_cons pe_str (pa_cons pe_str (pa_cons pe_str pa_nil))))) rfl) (pw_or (pt_cmpR op_ne (pe_callB call_len_seq (by rfl) T.len PySem.boot_len (pa_cons (pv 1) pa_nil)) (pv 2) (nomark _)) (pw_or1 (pt_cmpR op_ne (pe_ix ix_list (pv 1) pe_int (fun _ _ => rfl)) pe_str (nomark _))))))
        (pss_one (ps_ret (pv 3)))
        pss_nil)
      (pss_cons (ps_par (i := 4) (j := 5) (by rfl) sc__law_entry_due.nd rfl rfl (by decide) rfl rfl (pa_cons (pe_cal cNum hr1 rfl (pa_cons (pe_ix ix_list (pv 1) pe_int (fun _ _ => rfl)) pa_nil)) (pa_cons (pe_cal cNum hr1 rfl (pa_cons (pe_ix ix_list (pv 1) pe_int (fun _ _ => rfl)) pa_nil)) pa_nil)) (by rfl))
      (pss_cons (ps_if (PW.pt (pw_or (pt_cmpR op_isN (pv 4) pe_non (nomark _)) (pw_or (pt_cmpR op_isN (pv 5) pe_non (nomark _)) (pw_or1 (pt_cmpR op_gt (pv 4) (pv 5) (nomark _))))))
        (pss_one (ps_ret (pv 3)))
        pss_nil)
      (pss_cons (ps_if (pt_cmpR op_eq (pv 2) pe_int (nomark _))
        (pss_one (ps_ret (pe_tup (pa_cons (pv 0) (pa_cons (pe_ix ix_list (pv 1) pe_int (fun _ _ => rfl)) (pa_cons (pv 4) (pa_cons (pv 5) (pa_cons pe_non (pa_cons pe_bl pa_nil)))))))))
        pss_nil)
      (pss_one (ps_ret (pe_ifExp (pt_val (pe_cal cNam hr1 rfl (pa_cons (pe_ix ix_list (pv 1) pe_int (fun _ _ => rfl)) pa_nil))) (pe_tup (pa_cons (pv 0) (pa_cons (pe_ix ix_list (pv 1) pe_int (fun _ _ => rfl)) (pa_cons (pv 4) (pa_cons (pv 5) (pa_cons (pe_ix ix_list (pv 1) pe_int (fun _ _ => rfl)) (pa_cons pe_bl pa_nil))))))) (pv 3))))))))))), ?_⟩
    refine ⟨_, rfl, ⟨_, rfl⟩, _, _, rfl, rfl, rfl, (Nat.le_trans (show t.length + 2 ≤ 100000 by omega) (by decide)), fun p hp => ?_⟩
    have hsp : (Txt.split t " ").map tl = spl [32] 0 [] (tl t) := by
      have e : tl (Str.ofString " ") = [32] := by decide +kernel
      rw [split_spl t " " (by rw [e]; simp) (kind_ok (by decide +kernel)), e]
    have hp1 : (upd H p (.lst ((Txt.split t " ").map V.str))) p = some (.lst ((Txt.split t " ").map V.str)) := upd_same
    have s1 : Same H (upd H p (.lst ((Txt.split t " ").map V.str))) := Same.new hp
    have hpar : parts (tl t) = partsW ((Txt.split t " ").map tl) := by unfold parts; rw [hsp]
    have k0' : parts (tl t) = none → ∀ p H', H p = none → Same H H' → H' p = some (.tup refV) → Q (.ref p) H' := fun e p H' h1 h2 h3 => k1 p H' h1 h2 (by unfold dueV; rw [e]; exact h3)
    have k1' : ∀ k a b z, parts (tl t) = some (k, a, b, z) → ∀ p H', H p = none → Same H H' → H' p = some (.tup [.str t, .str (strOf k), .int a, .int b, optZ z, .bl true]) → Q (.ref p) H' := fun k a b z e p H' h1 h2 h3 => k1 p H' h1 h2 (by unfold dueV; rw [e]; exact h3)
    rw [hpar] at k0' k1'
    generalize upd H p (.lst ((Txt.split t " ").map V.str)) = H1 at hp1 s1 ⊢
    have hne : Txt.split t " " ≠ [] := by
      intro z
      rw [z] at hsp
      exact spl_ne 32 _ _ hsp.symm
    have hlen : ∀ w ∈ Txt.split t " ", w.length ≤ 100000 := fun w hw => by
      have h1 : tl w ∈ spl [32] 0 [] (tl t) := by rw [← hsp]; exact List.mem_map_of_mem hw
      have h2 := spl_len 32 _ _ _ h1
      rw [← len_tl, ← len_tl] at h2
      simp at h2
      omega
    generalize Txt.split t " " = ws at hp1 hne hlen k0' k1'
    clear hsp hpar hp k1
    cases ws with
    | nil => exact absurd rfl hne
    | cons w0 r =>
      have ix0 : atI ((w0 :: r).map V.str) 0 = some (.str w0) := atI_nat (j := 0) rfl
      have kin : inV (.str w0) [.str "day", .str "float", .str "zoned", .str "fixed"] = isKind (tl w0) := kinds_in w0
      refine ⟨fun σ' H' => H' = H1 ∧ σ' = [some (.str t), some (.ref p), some (.int (if tl w0 = kZoned then 5 else 4)), none, none, none], ?_, ?_⟩
      · refine ⟨_, rfl, p, _, _, _, rfl, rfl, SqL.of hp1, ix0, rfl, _, rfl, ?_⟩
        rw [str_dec, kZoned_eq]
        by_cases hz : tl w0 = kZoned
        · rw [decide_eq_true hz, if_pos hz]
          exact iteT ⟨rfl, rfl⟩
        · rw [decide_eq_false hz, if_neg hz]
          exact iteF ⟨rfl, rfl⟩
      · rintro σ' H' ⟨rfl, rfl⟩
        refine ⟨(by show 4 ≤ sizeLine; decide), fun rf hrf => ?_⟩
        have s2 : Same H' (upd H' rf (.tup refV)) := Same.new hrf
        have hp2 := s2 _ _ hp1
        have hrf2 : (upd H' rf (.tup refV)) rf = some (.tup refV) := upd_same
        have nrf : H rf = none := s1.free hrf
        have s02 := s1.trans s2
        show tSeq _ _ _ _ (upd H' rf (.tup refV))
        clear s1 hp1 hrf
        generalize upd H' rf (.tup refV) = H2 at s2 hp2 hrf2 s02 ⊢
        have fail : partsW ((w0 :: r).map tl) = none → ∀ H', Same H2 H' → Q (.ref rf) H' := fun e H' s' => k0' e rf H' nrf (s02.trans s') (s' _ _ hrf2)
        refine ⟨_, rfl, p, _, _, _, rfl, rfl, SqL.of hp2, ix0, (by show 4 ≤ sizeLine; decide), fun kt hkt => ?_⟩
        have s3 : Same H2 (upd H2 kt (.tup [.str "day", .str "float", .str "zoned", .str "fixed"])) := Same.new hkt
        refine ⟨kt, [.str "day", .str "float", .str "zoned", .str "fixed"], rfl, .inr (SqT.of upd_same), rfl, rfl, _, rfl, ?_⟩
        have hp3 := s3 _ _ hp2
        generalize upd H2 kt (.tup [.str "day", .str "float", .str "zoned", .str "fixed"]) = H3 at s3 hp3 ⊢
        show if (!inV (.str w0) [.str "day", .str "float", .str "zoned", .str "fixed"]) = true then _ else _
        rw [kin]
        by_cases hk : isKind (tl w0) = true
        · rw [hk]
          refine iteF ?_
          refine ⟨_, rfl, p, _, rfl, .inl (SqL.of hp3), _, rfl, rfl, _, rfl, ?_⟩
          by_cases hz : tl w0 = kZoned
          · rw [if_pos hz]
            by_cases hl : ((w0 :: r).map V.str).length = 5
            · rw [hl]
              refine iteF ?_
              obtain ⟨a, tt, b, z, rfl⟩ : ∃ a tt b z, r = [a, tt, b, z] := by
                rw [List.length_map, List.length_cons] at hl
                match r, hl with
                | [a, tt, b, z], _ => exact ⟨_, _, _, _, rfl⟩
              have ix1 : atI ((w0 :: [a, tt, b, z]).map V.str) 1 = some (.str a) := atI_nat (j := 1) rfl
              have ix2 : atI ((w0 :: [a, tt, b, z]).map V.str) 2 = some (.str tt) := atI_nat (j := 2) rfl
              have ix3 : atI ((w0 :: [a, tt, b, z]).map V.str) 3 = some (.str b) := atI_nat (j := 3) rfl
              have ix4 : atI ((w0 :: [a, tt, b, z]).map V.str) 4 = some (.str z) := atI_nat (j := 4) rfl
              have la : a.length ≤ 100000 := hlen a (by simp)
              have lb : b.length ≤ 100000 := hlen b (by simp)
              have lz : z.length ≤ 100000 := hlen z (by simp)
              refine ⟨_, rfl, p, _, _, _, rfl, rfl, SqL.of hp3, ix2, rfl, _, rfl, ?_⟩
              rw [str_dec, kTo_eq]
              by_cases ht2 : tl tt = kTo
              · rw [decide_eq_true ht2]
                refine iteF ?_
                have pw : partsW ((w0 :: [a, tt, b, z]).map tl) = (match numberOf (tl a), numberOf (tl b) with | some x, some y => if x ≤ y ∧ isName (tl z) = true then some (tl w0, x, y, some (tl z)) else none | _, _ => none) := if_pos ⟨hz, ht2⟩
                refine ⟨_, rfl, p, _, _, _, rfl, rfl, SqL.of hp3, ix1, a, rfl, la, fun H4 s4 => ?_⟩
                have hp4 := s4 _ _ hp3
                refine ⟨_, rfl, p, _, _, _, rfl, rfl, SqL.of hp4, ix3, b, rfl, lb, fun H5 s5 => ⟨_, _, rfl, ?_⟩⟩
                have hp5 := s5 _ _ hp4
                have s25 : Same H2 H5 := s3.trans (s4.trans s5)
                cases ea : numberOf (tl a) with
                | none => exact ⟨_, rfl, rfl, _, rfl, iteT (iteT ⟨_, rfl, fail (by rw [pw, ea]) H5 s25⟩)⟩
                | some x =>
                  cases eb : numberOf (tl b) with
                  | none => exact ⟨_, rfl, rfl, _, rfl, iteF ⟨_, rfl, rfl, _, rfl, iteT (iteT ⟨_, rfl, fail (by rw [pw, ea, eb]) H5 s25⟩)⟩⟩
                  | some y =>
                    refine ⟨_, rfl, rfl, _, rfl, iteF ⟨_, rfl, rfl, _, rfl, iteF ⟨_, rfl, _, rfl, _, _, rfl, rfl, _, rfl, ?_⟩⟩⟩
                    by_cases hxy : x ≤ y
                    · rw [decide_eq_false (show ¬ y < x by omega)]
                      refine iteF ⟨_, rfl, rfl, _, rfl, iteF ?_⟩
                      refine ⟨_, rfl, p, _, _, _, rfl, rfl, SqL.of hp5, ix4, z, rfl, lz, fun H6 s6 => ⟨_, rfl, ?_⟩⟩
                      have hp6 := s6 _ _ hp5
                      by_cases hn : isName (tl z) = true
                      · rw [hn]
                        refine iteT ⟨_, rfl, _, rfl, p, _, _, _, rfl, rfl, SqL.of hp6, ix0, _, rfl, _, rfl, _, rfl, p, _, _, _, rfl, rfl, SqL.of hp6, ix4, (by show 6 ≤ sizeLine; decide), fun q hq => ?_⟩
                        have s06 : Same H H6 := s02.trans (s25.trans s6)
                        have := k1' (tl w0) x y (some (tl z)) (by rw [pw, ea, eb]; exact if_pos ⟨hxy, hn⟩) q (upd H6 q (.tup [.str t, .str w0, .int x, .int y, .str z, .bl true])) (s06.free hq) (s06.trans (Same.new hq))
                        unfold optZ at this
                        simp only [strOf_tl] at this
                        exact this upd_same
                      · have hn' : isName (tl z) = false := by simpa using hn
                        rw [hn']
                        exact iteF ⟨_, rfl, fail (by rw [pw, ea, eb]; exact if_neg (fun q => hn q.2)) H6 (s25.trans s6)⟩
                    · rw [decide_eq_true (show y < x by omega)]
                      exact iteT ⟨_, rfl, fail (by rw [pw, ea, eb]; exact if_neg (fun q => hxy q.1)) H5 s25⟩
              · rw [decide_eq_false ht2]
                refine iteT ⟨_, rfl, fail ?_ H3 s3⟩
                exact if_neg (fun q => ht2 q.2)
            · have hl' : ¬ V.int (((w0 :: r).map V.str).length : Int) = V.int 5 := fun q => hl (by injection q with q; omega)
              rw [decide_eq_false hl']
              refine iteT (iteT ⟨_, rfl, fail ?_ H3 s3⟩)
              rw [List.length_map] at hl
              match r, hl with
              | [], _ => rfl
              | [_], _ => rfl
              | [_, _], _ => rfl
              | [_, _, _], _ => exact if_neg (fun q => q.2.1 hz)
              | [_, _, _, _], h => exact absurd rfl h
              | _ :: _ :: _ :: _ :: _ :: _, _ => rfl
          · rw [if_neg hz]
            by_cases hl : ((w0 :: r).map V.str).length = 4
            · rw [hl]
              refine iteF ?_
              obtain ⟨a, tt, b, rfl⟩ : ∃ a tt b, r = [a, tt, b] := by
                rw [List.length_map, List.length_cons] at hl
                match r, hl with
                | [a, tt, b], _ => exact ⟨_, _, _, rfl⟩
              have ix1 : atI ((w0 :: [a, tt, b]).map V.str) 1 = some (.str a) := atI_nat (j := 1) rfl
              have ix2 : atI ((w0 :: [a, tt, b]).map V.str) 2 = some (.str tt) := atI_nat (j := 2) rfl
              have ix3 : atI ((w0 :: [a, tt, b]).map V.str) 3 = some (.str b) := atI_nat (j := 3) rfl
              have la : a.length ≤ 100000 := hlen a (by simp)
              have lb : b.length ≤ 100000 := hlen b (by simp)
              refine ⟨_, rfl, p, _, _, _, rfl, rfl, SqL.of hp3, ix2, rfl, _, rfl, ?_⟩
              rw [str_dec, kTo_eq]
              by_cases ht2 : tl tt = kTo
              · rw [decide_eq_true ht2]
                refine iteF ?_
                have pw : partsW ((w0 :: [a, tt, b]).map tl) = (match numberOf (tl a), numberOf (tl b) with | some x, some y => if x ≤ y then some (tl w0, x, y, none) else none | _, _ => none) := if_pos ⟨hk, hz, ht2⟩
                refine ⟨_, rfl, p, _, _, _, rfl, rfl, SqL.of hp3, ix1, a, rfl, la, fun H4 s4 => ?_⟩
                have hp4 := s4 _ _ hp3
                refine ⟨_, rfl, p, _, _, _, rfl, rfl, SqL.of hp4, ix3, b, rfl, lb, fun H5 s5 => ⟨_, _, rfl, ?_⟩⟩
                have hp5 := s5 _ _ hp4
                have s25 : Same H2 H5 := s3.trans (s4.trans s5)
                cases ea : numberOf (tl a) with
                | none => exact ⟨_, rfl, rfl, _, rfl, iteT (iteT ⟨_, rfl, fail (by rw [pw, ea]) H5 s25⟩)⟩
                | some x =>
                  cases eb : numberOf (tl b) with
                  | none => exact ⟨_, rfl, rfl, _, rfl, iteF ⟨_, rfl, rfl, _, rfl, iteT (iteT ⟨_, rfl, fail (by rw [pw, ea, eb]) H5 s25⟩)⟩⟩
                  | some y =>
                    refine ⟨_, rfl, rfl, _, rfl, iteF ⟨_, rfl, rfl, _, rfl, iteF ⟨_, rfl, _, rfl, _, _, rfl, rfl, _, rfl, ?_⟩⟩⟩
                    by_cases hxy : x ≤ y
                    · rw [decide_eq_false (show ¬ y < x by omega)]
                      refine iteF ⟨_, rfl, rfl, _, rfl, iteT ?_⟩
                      refine ⟨_, rfl, _, rfl, p, _, _, _, rfl, rfl, SqL.of hp5, ix0, _, rfl, _, rfl, (by show 6 ≤ sizeLine; decide), fun q hq => ?_⟩
                      have s05 : Same H H5 := s02.trans s25
                      have := k1' (tl w0) x y none (by rw [pw, ea, eb]; exact if_pos hxy) q (upd H5 q (.tup [.str t, .str w0, .int x, .int y, .non, .bl true])) (s05.free hq) (s05.trans (Same.new hq))
                      unfold optZ at this
                      simp only [strOf_tl] at this
                      exact this upd_same
                    · rw [decide_eq_true (show y < x by omega)]
                      exact iteT ⟨_, rfl, fail (by rw [pw, ea, eb]; exact if_neg (fun q => hxy q)) H5 s25⟩
              · rw [decide_eq_false ht2]
                refine iteT ⟨_, rfl, fail ?_ H3 s3⟩
                exact if_neg (fun q => ht2 q.2.2)
            · have hl' : ¬ V.int (((w0 :: r).map V.str).length : Int) = V.int 4 := fun q => hl (by injection q with q; omega)
              rw [decide_eq_false hl']
              refine iteT (iteT ⟨_, rfl, fail ?_ H3 s3⟩)
              rw [List.length_map] at hl
              match r, hl with
              | [], _ => rfl
              | [_], _ => rfl
              | [_, _], _ => rfl
              | [_, _, _], h => exact absurd rfl h
              | [_, _, _, _], _ => exact if_neg (fun q => hz q.1)
              | _ :: _ :: _ :: _ :: _ :: _, _ => rfl
        · have hk' : isKind (tl w0) = false := by simpa using hk
          rw [hk']
          refine iteT (iteT ⟨_, rfl, fail ?_ H3 s3⟩)
          match r with
          | [] => rfl
          | [_] => rfl
          | [_, _] => rfl
          | [_, _, _] => exact if_neg (fun q => hk q.1)
          | [_, _, _, _] => exact if_neg (fun q => hk (by rw [show tl w0 = kZoned from q.1]; decide))
          | _ :: _ :: _ :: _ :: _ :: _ => rfl
end
end Toy

set_option Elab.async false
set_option linter.all false
set_option maxRecDepth 100000
set_option maxHeartbeats 4000000
namespace Toy
open PySem L2 TL EM
section
variable {P : Program} {w : World} {K : PySem.W.Frag} {mg : Str → Option Value} {base : Heap}
/-- what the error's class must say -/
structure BT (K : PySem.W.Frag) (mg : Str → Option Value) (CB CW : Addr) : Prop where
  gB : mg "BadText" = some (.ref CB)
  gW : mg "WhosedayError" = some (.ref CW)
  gV : mg "ValueError" = none
  xf : XfC K CB
  no : PySem.W.findIn K (.ref CB) "line" = some none
  xi : ExiC K CB
  ex : PySem.W.exmOne K (.ref CB) (.ref CB) = some true
  kW : PySem.W.kitOne K (.ref CB) (.ref CW) = some true
  kV : PySem.W.kitOne K (.ref CB) (.type "ValueError") = some true
def spRead (K : PySem.W.Frag) : Sp := fun vs H Q _ => ∃ v : V, vs = [v] ∧ ((∃ t : Str, v = .str t ∧ t.length ≤ 90000 ∧ ∀ p H', H p = none → Same H H' → H' p = some (.tup (dueV t)) → Q (.ref p) H') ∨
  (∃ ty, TyX K H v ty ∧ PySem.W.kitOne K ty (.type "str") = some false ∧ (∀ H', Same H H' → TyX K H' v ty) ∧ ∀ p H', H p = none → Same H H' → H' p = some (.tup refV) → Q (.ref p) H'))
abbrev s__law_read : Stmt := top 28
theorem sc__law_read : FnScope ["_law_text", "_law_entry", "e", "_law_whole_here"] ["_law_text"] (defScope s__law_read) := ⟨rfl, rfl, rfl, by decide +kernel, rfl, by decide +kernel, by decide +kernel⟩

theorem ok_read {f CE CT CB CW fE : Addr} {fd fdE : FuncData} (F : Fun K "_law_read" "_law_read" s__law_read f fd) (T : TB mg) (C : EC K mg CE CT) (ME : Mk K CE fE) (GE : FnOk P w K mg base (L2.CX P w) 3 fE fdE ["self", "text"] (spEInit K CB)) (bE : Binds K fdE ["self", "text"] [])
    (BT : BT K mg CB CW) (cWhole : Cal P w K mg base 1 "_law_whole" ["_law_number_here"] spWhole) : FnOk P w K mg base CX0 5 f fd ["_law_text"] (spRead K) := by
  refine F.ok sc__law_read (fun vs H Q E h => ?_) (fun cdv A outer s H vs Q E hr h => ?_)
  · obtain ⟨v, rfl, _⟩ := h
    rfl
  · obtain ⟨v, rfl, h⟩ := h
    have hr4 : Room 4 _ := hr
    have hr1 : Room 1 _ := hr4.mono (by decide)
    refine ⟨_, (pss_cons (ps_try_as (i := 2) rfl rfl sc__law_read.nd rfl rfl ⟨rfl, by decide, Or.inl BT.gB⟩ takes_none5 (fun W pn xe tk _ => pss_one (ps_set (i := 1) sc__law_read.nd rfl (Or.inl rfl) (by exact (pe_makeS (E := WE W) ME GE hr4 rfl C.gE bE (fun σ => passAt tk σ) (by exact (pa_cons (pv 0) pa_nil)))))) (fun a oe cls d pn hz hf => pss_one (ps_ret (by exact (pe_tup (pa_cons pe_str (pa_cons (pe_xf (cls := cls) (d := d) BT.xf BT.no hz hf (pv 2)) (pa_cons (pe_callB (call_isXE (cls := cls) (d := d) hz hf) (by rfl) T.isinstance (by decide +kernel) (pa_cons (pv 2) (pa_cons (pe_glob (v := .ref CW) rfl BT.gW rfl) pa_nil))) (pa_cons (pe_callB (call_isXE (cls := cls) (d := d) hz hf) (by rfl) T.isinstance (by decide +kernel) (pa_cons (pv 2) (pa_cons (pe_bltn (v := .ty "ValueError") (by rfl) BT.gV (by decide +kernel) rfl) pa_nil))) pa_nil)))))))))
      (pss_cons (ps_set (i := 3) sc__law_read.nd rfl (Or.inl rfl) (pe_and (pe_cal cWhole hr1 rfl (pa_cons (pe_fld (pv 1) rfl) pa_nil)) (pe_one (pe_cal cWhole hr1 rfl (pa_cons (pe_fld (pv 1) rfl) pa_nil)))))
      (pss_one (ps_ret (pe_tup (pa_cons (pe_fld (pv 1) rfl) (pa_cons (pe_fld (pv 1) rfl) (pa_cons (pe_fld (pv 1) rfl) (pa_cons (pe_fld (pv 1) rfl) (pa_cons (pe_fld (pv 1) rfl) (pa_cons (pv 3) pa_nil))))))))))), ?_⟩
    refine ⟨_, rfl, fun x dx nx ndx ne => ?_⟩
    have s1 : Same H (upd (upd H dx (.own x)) x (.ins CE dx [])) := (Same.new ndx).trans (Same.new (by rw [upd_ne ne.symm]; exact nx))
    refine ⟨x, CE, dx, v, rfl, C.iE.cl, C.nE, upd_same, ?_⟩
    have hx1 : (upd (upd H dx (.own x)) x (.ins CE dx [])) x = some (.ins CE dx []) := upd_same
    generalize upd (upd H dx (.own x)) x (.ins CE dx []) = H1 at s1 hx1 ⊢
    rcases h with ⟨t, rfl, ht, k⟩ | ⟨ty, hty, hkt, hst, k⟩
    · refine .inl ⟨t, rfl, ht, fun kd a b z hp H' sb hx' => ⟨rfl, ?_⟩, fun hn d H' s' hd => ⟨true, BT.ex, fun _ a ha => ?_, fun z => by cases z⟩⟩
      · have s2 : Same H H' := fun b' o e => sb b' o (s1 _ _ e) (ne_of_none e nx)
        refine ⟨_, rfl, x, CE, dx, _, _, rfl, hx', C.iE.cl, C.nE.n3, rfl, a, rfl, _, rfl, iteT ?_⟩
        refine ⟨_, rfl, x, CE, dx, _, _, rfl, hx', C.iE.cl, C.nE.n4, rfl, b, rfl, ?_⟩
        refine ⟨_, rfl, x, CE, dx, _, _, rfl, hx', C.iE.cl, C.nE.n1, rfl, _, rfl, x, CE, dx, _, _, rfl, hx', C.iE.cl, C.nE.n2, rfl, _, rfl, x, CE, dx, _, _, rfl, hx', C.iE.cl, C.nE.n3, rfl, _, rfl, x, CE, dx, _, _, rfl, hx', C.iE.cl, C.nE.n4, rfl, _, rfl, x, CE, dx, _, _, rfl, hx', C.iE.cl, C.nE.n5, rfl, _, rfl, (by show 6 ≤ sizeLine; decide), fun p hp2 => ?_⟩
        refine k p _ (s2.free hp2) (s2.trans (Same.new hp2)) ?_
        rw [upd_same]
        unfold dueV
        rw [hp]
      · refine ⟨_, rfl, rfl, rfl, d, _, _, rfl, upd_same, rfl, ?_⟩
        refine ⟨_, rfl, .ref CW, .ref CW, true, CB, d, _, rfl, rfl, BT.xi, rfl, upd_same, fun u r => r, BT.kW, ?_⟩
        refine ⟨_, rfl, .ty "ValueError", .type "ValueError", true, CB, d, _, rfl, rfl, BT.xi, rfl, upd_same, fun u r => r, BT.kV, (by show 4 ≤ sizeLine; decide), fun p hp => ?_⟩
        have s2 : Same H (upd H' d (.xd [("line", .int 1)])) := (s1.trans s').trans (Same.new hd)
        refine k p _ (s2.free hp) (s2.trans (Same.new hp)) ?_
        rw [upd_same]
        unfold dueV
        rw [hn]
        rfl
    · refine .inr ⟨ty, hst _ s1, hkt, fun d hd => ⟨true, BT.ex, fun _ a ha => ?_, fun z => by cases z⟩⟩
      refine ⟨_, rfl, rfl, rfl, d, _, _, rfl, upd_same, rfl, ?_⟩
      refine ⟨_, rfl, .ref CW, .ref CW, true, CB, d, _, rfl, rfl, BT.xi, rfl, upd_same, fun u r => r, BT.kW, ?_⟩
      refine ⟨_, rfl, .ty "ValueError", .type "ValueError", true, CB, d, _, rfl, rfl, BT.xi, rfl, upd_same, fun u r => r, BT.kV, (by show 4 ≤ sizeLine; decide), fun p hp => ?_⟩
      have s2 : Same H (upd H1 d (.xd [("line", .int 1)])) := s1.trans (Same.new hd)
      refine k p _ (s2.free hp) (s2.trans (Same.new hp)) ?_
      rw [upd_same]
      rfl
end
end Toy

set_option Elab.async false
set_option linter.all false
set_option maxRecDepth 100000
set_option maxHeartbeats 4000000
namespace Toy
open PySem L2 TL EM
section
variable {P : Program} {w : World} {K : PySem.W.Frag} {mg : Str → Option Value} {base : Heap}
/-- the operators of entries as the top has written them -/
structure EO (K : PySem.W.Frag) (CE CT fA fS fQ : Addr) : Prop where
  aE : BinI K CE fA .Add
  aT : BinI K CT fA .Add
  sE : BinI K CE fS .Sub
  sT : BinI K CT fS .Sub
  qE : PySem.W.findIn K (.ref CE) "__eq__" = some (some (.ref fQ))
  qT : PySem.W.findIn K (.ref CT) "__eq__" = some (some (.ref fQ))
  fn : PySem.W.isFn K (.ref fQ) = true
  neE : PySem.W.findIn K (.ref CE) "__ne__" = some (some (.builtin "object.__ne__"))
  mE : PySem.W.mroIn K CE (.type "object") = some true
  nTE : PySem.W.notFirst K CT (.ref CE) = true
  nEE : PySem.W.notFirst K CE (.ref CE) = true
  nES : PySem.W.notFirst K CE (.type "str") = true
  kS : PySem.W.kitOne K (.type "str") (.ref CE) = some false
theorem strOk_of {l : List Nat} (h : ∀ c ∈ l, c < 1114112) : PySem.PyData.strOk (strOf l) = true := by
  unfold PySem.PyData.strOk strOf
  simp only [List.all_toArray, List.all_eq_true, decide_eq_true_eq]
  exact h
theorem intOf_small (n : Int) : ∀ c ∈ intOf n, c < 1114112 := fun c hc => by
  by_cases h : c < 1114112
  · exact h
  · exact absurd hc (intOf_free (by omega) (by omega))
theorem kind_small {k : List Nat} (h : isKind k = true) : ∀ c ∈ k, c < 1114112 := by
  have h := of_decide_eq_true h
  simp only [List.mem_cons, List.not_mem_nil, or_false] at h
  rcases h with rfl | rfl | rfl | rfl <;> decide
theorem name_small {y : List Nat} (h : isName y = true) : ∀ c ∈ y, c < 1114112 := fun c hc => by
  by_cases hh : c < 1114112
  · exact hh
  · exact absurd hc (isName_free h (by omega))
theorem canon_small {k : List Nat} {a b : Int} {z : Option (List Nat)} (w : Well k a b z) : ∀ c ∈ canon k a b z, c < 1114112 := by
  have h1 := kind_small w.kind
  have h2 := intOf_small a
  have h3 := intOf_small b
  have h4 : ∀ c ∈ kTo, c < 1114112 := by decide
  have h5 : ∀ c ∈ ([32] : List Nat), c < 1114112 := by decide
  have zz : ∀ y, z = some y → ∀ c ∈ y, c < 1114112 := fun y hy => by
    rcases w.zone with ⟨_, y', e, hn⟩ | ⟨_, e⟩
    · rw [e] at hy; cases hy; exact name_small hn
    · rw [e] at hy; cases hy
  intro c hc
  cases z with
  | none =>
    have hc : c ∈ k ++ ([32] ++ (intOf a ++ ([32] ++ (kTo ++ ([32] ++ intOf b))))) := hc
    simp only [List.mem_append] at hc
    rcases hc with h | h | h | h | h | h | h
    · exact h1 c h
    · exact h5 c h
    · exact h2 c h
    · exact h5 c h
    · exact h4 c h
    · exact h5 c h
    · exact h3 c h
  | some y =>
    have hc : c ∈ k ++ ([32] ++ (intOf a ++ ([32] ++ (kTo ++ ([32] ++ (intOf b ++ ([32] ++ y))))))) := hc
    simp only [List.mem_append] at hc
    rcases hc with h | h | h | h | h | h | h | h | h
    · exact h1 c h
    · exact h5 c h
    · exact h2 c h
    · exact h5 c h
    · exact h4 c h
    · exact h5 c h
    · exact h3 c h
    · exact h5 c h
    · exact zz y rfl c h
def zD : Option (List Nat) → PyData
  | none => .none
  | some y => .str (strOf y)
theorem dp_z (K : PySem.W.Frag) (H : Hp) : ∀ z, Dp K H (optZ z) (zD z)
  | none => .non
  | some y => .str _
theorem layZ {k : List Nat} {a b : Int} {z : Option (List Nat)} (w : Well k a b z) : (zD z).canLay0 = true := by
  rcases w.zone with ⟨_, y, rfl, hn⟩ | ⟨_, rfl⟩
  · exact strOk_of (name_small hn)
  · rfl
theorem dep_z : ∀ z, (zD z).depth = 0
  | none => rfl
  | some y => rfl
theorem kind_len {k : List Nat} (h : isKind k = true) : k.length ≤ 5 := by
  have h := of_decide_eq_true h
  simp only [List.mem_cons, List.not_mem_nil, or_false] at h
  rcases h with rfl | rfl | rfl | rfl <;> decide
theorem zone_len {k : List Nat} {a b : Int} {z : Option (List Nat)} (w : Well k a b z) : ∀ y, z = some y → y.length ≤ 12 := fun y hy => by
  rcases w.zone with ⟨_, y', e, hn⟩ | ⟨_, e⟩
  · rw [e] at hy
    cases hy
    unfold isName at hn
    simp only [Bool.and_eq_true, decide_eq_true_eq] at hn
    exact hn.1.2
  · rw [e] at hy; cases hy
theorem gap_small {k : List Nat} {n : Int} (h : n.natAbs < 10 ^ 30) : (gapOf k n).natAbs < 10 ^ 34 := by
  unfold gapOf
  split <;> omega
theorem neSelf (x : V) : (!decide (x = x)) = false := by rw [decide_eq_true rfl]; rfl
def entV (t : Str) (k : List Nat) (a b : Int) (z : Option (List Nat)) : List V := [.str t, .str (strOf k), .int a, .int b, optZ z, .bl true]
theorem dueV_of {t : Str} {k : List Nat} {a b : Int} {z : Option (List Nat)} (h : parts (tl t) = some (k, a, b, z)) : dueV t = entV t k a b z := by unfold dueV; rw [h]; rfl
def spLater (CE : Addr) : Sp := fun vs H Q _ => ∃ (e du : Addr) (n : Int) (t : Str) (k : List Nat) (a b : Int) (z : Option (List Nat)), vs = [.ref e, .ref du, .int n] ∧ EntAt CE H e t k a b z ∧ H du = some (.tup (entV t k a b z)) ∧
  parts (tl t) = some (k, a, b, z) ∧ n.natAbs < 10 ^ 30 ∧ ∀ H', Same H H' → Q (.bl true) H'
abbrev s__law_later_right : Stmt := top 33
theorem sc__law_later_right : FnScope ["_law_entry", "_law_due", "_law_many", "_law_text", "_law_kind", "_law_first", "_law_last", "_law_zone", "_law_whole_here", "_law_gap", "_law_later", "_law_earlier"] ["_law_entry", "_law_due", "_law_many"] (defScope s__law_later_right) := ⟨rfl, rfl, rfl, by decide +kernel, rfl, by decide +kernel, by decide +kernel⟩

theorem ok_later {f CE CT fA fS fQ : Addr} {fd fdA fdS fdQ : FuncData} (F : Fun K "_law_later_right" "_law_later_right" s__law_later_right f fd) (T : TB mg) (C : EC K mg CE CT) (O : EO K CE CT fA fS fQ)
    (GA : FnOk P w K mg base CX0 3 fA fdA ["self", "many"] (spShift CE CT (fun a g => a + g))) (bA : Binds K fdA ["self", "many"] [])
    (GS : FnOk P w K mg base CX0 3 fS fdS ["self", "many"] (spShift CE CT (fun a g => a - g))) (bS : Binds K fdS ["self", "many"] [])
    (GQ : FnOk P w K mg base CX0 1 fQ fdQ ["self", "other"] (spEq K CE CT)) (bQ : Binds K fdQ ["self", "other"] [])
    (cText : Cal P w K mg base 1 "_law_entry_text" ["_law_entry"] spText) : FnOk P w K mg base CX0 4 f fd ["_law_entry", "_law_due", "_law_many"] (spLater CE) := by
  refine F.ok sc__law_later_right (fun vs H Q E h => ?_) (fun cdv A outer s H vs Q E hr h => ?_)
  · obtain ⟨e, du, n, t, k, a, b, z, rfl, _⟩ := h
    rfl
  · obtain ⟨e, du, n, t, k, a, b, z, rfl, ⟨dx, he⟩, hd, hpar, hn, q⟩ := h
    have hr3 : Room 3 _ := hr
    have hr1 : Room 1 _ := hr3.mono (by decide)
    refine ⟨_, (pss_cons (ps_asg (pv 1) (pg_tup rfl (pgs_cons (pg_name (i := 3) sc__law_later_right.nd rfl (Or.inl rfl)) (pgs_cons (pg_name (i := 4) sc__law_later_right.nd rfl (Or.inl rfl)) (pgs_cons (pg_name (i := 5) sc__law_later_right.nd rfl (Or.inl rfl)) (pgs_cons (pg_name (i := 6) sc__law_later_right.nd rfl (Or.inl rfl)) (pgs_cons (pg_name (i := 7) sc__law_later_right.nd rfl (Or.inl rfl)) (pgs_cons (pg_name (i := 8) sc__law_later_right.nd rfl (Or.inl rfl)) pgs_nil))))))))
      (Evl.pss_cut (ps_set (i := 9) sc__law_later_right.nd rfl (Or.inl rfl) (pe_ifExp (pt_cmpR op_eq (pv 4) pe_str (nomark _)) (pv 2) (pe_op op_mul pe_int (pv 2))))
      (pss_cons (ps_par (i := 10) (j := 11) (by rfl) sc__law_later_right.nd rfl rfl (by decide) rfl rfl (pa_cons (pe_op (op_binI O.aE GA hr3 bA pass0) (pv 0) (pv 2)) (pa_cons (pe_op (op_binI O.sE GS hr3 bS pass0) (pv 0) (pv 2)) pa_nil)) (by rfl))
      (pss_cons (ps_if (PW.pt (pw_or (pt_not (pt_val (pe_callB call_isi (by rfl) T.isinstance (by decide +kernel) (pa_cons (pv 10) (pa_cons (pe_glob (v := .ref CE) rfl C.gE rfl) pa_nil))))) (pw_or1 (pt_cmpR op_ne (pe_fld (pv 10) rfl) (pe_cal cText hr1 rfl (pa_cons (pe_tup (pa_cons (pv 4) (pa_cons (pe_op op_add (pv 5) (pv 9)) (pa_cons (pe_op op_add (pv 6) (pv 9)) (pa_cons (pv 7) pa_nil))))) pa_nil)) (nomark _)))))
        (pss_one (ps_ret pe_bl))
        pss_nil)
      (pss_cons (ps_if (pt_cmpR (op_neD hr.units) (pe_tup (pa_cons (pe_fld (pv 10) rfl) (pa_cons (pe_fld (pv 10) rfl) (pa_cons (pe_fld (pv 10) rfl) (pa_cons (pe_fld (pv 10) rfl) pa_nil))))) (pe_tup (pa_cons (pv 4) (pa_cons (pe_op op_add (pv 5) (pv 9)) (pa_cons (pe_op op_add (pv 6) (pv 9)) (pa_cons (pv 7) pa_nil))))) (nomark _))
        (pss_one (ps_ret pe_bl))
        pss_nil)
      (pss_cons (ps_if (PW.pt (pw_or (pt_cmpR op_ne (pe_fld (pv 11) rfl) (pe_cal cText hr1 rfl (pa_cons (pe_tup (pa_cons (pv 4) (pa_cons (pe_op op_sub (pv 5) (pv 9)) (pa_cons (pe_op op_sub (pv 6) (pv 9)) (pa_cons (pv 7) pa_nil))))) pa_nil)) (nomark _)) (pw_or1 (pt_cmpR op_ne (pe_fld (pv 0) rfl) (pv 3) (nomark _)))))
        (pss_one (ps_ret pe_bl))
        pss_nil)
      (pss_one (ps_ret (pe_and (pe_cmpR (op_eqO O.qT O.fn GQ hr1 bQ pass0) (pe_op (op_binI O.sT GS hr3 bS pass0) (pv 10) (pv 2)) (pv 0) (nomark _)) (pe_and (pe_cmpR (op_eqO O.qT O.fn GQ hr1 bQ pass0) (pe_op (op_binI O.aT GA hr3 bA pass0) (pv 11) (pv 2)) (pv 0) (nomark _)) (pe_one (pe_cmpR op_eq (pe_cmpR (op_eqO O.qT O.fn GQ hr1 bQ pass0) (pv 10) (pv 0) (nomark _)) (pe_cmpR op_eq (pv 2) pe_int (nomark _)) (nomark _))))))))))))), ?_⟩
    obtain ⟨hct, wl, hab, ha, hb⟩ := parts_back hpar
    have hg := gap_small (k := k) hn
    have hk5 := kind_len wl.kind
    have hz12 := zone_len wl
    have hk : k.length ≤ 1000 := by omega
    have hz : ∀ y, z = some y → y.length ≤ 1000 := fun y e => by have := hz12 y e; omega
    have la : (a + gapOf k n).natAbs < 10 ^ 100 := by omega
    have lb : (b + gapOf k n).natAbs < 10 ^ 100 := by omega
    have ma : (a - gapOf k n).natAbs < 10 ^ 100 := by omega
    have mb : (b - gapOf k n).natAbs < 10 ^ 100 := by omega
    refine ⟨_, rfl, du, _, rfl, SqT.of hd, rfl, _, _, rfl, _, _, rfl, _, _, rfl, _, _, rfl, _, _, rfl, _, _, rfl, rfl, ?_⟩
    refine ⟨fun σ' H' => H' = H ∧ σ' = [some (.ref e), some (.ref du), some (.int n), some (.str t), some (.str (strOf k)), some (.int a), some (.int b), some (optZ z), some (.bl true), some (.int (gapOf k n)), none, none], ?_, ?_⟩
    · refine ⟨_, rfl, rfl, _, rfl, ?_⟩
      rw [str_dec, kDay_eq, tl_strOf]
      unfold gapOf
      by_cases hd : k = kDay
      · rw [decide_eq_true hd, if_pos hd]
        exact iteT ⟨_, rfl, rfl, rfl⟩
      · rw [decide_eq_false hd, if_neg hd, Int.mul_comm n 1440]
        exact iteF ⟨_, rfl, _, _, rfl, rfl, .inl ⟨by decide, by decide⟩, rfl, rfl⟩
    · rintro σ' H' ⟨rfl, rfl⟩
      generalize hG : gapOf k n = g at la lb ma mb hg
      have zero_iff : g = 0 ↔ n = 0 := by
        rw [← hG]
        unfold gapOf
        split <;> omega
      have hGn : gapOf k n = g := hG
      refine ⟨_, rfl, _, rfl, e, dx, _, n, rfl, rfl, he, e, CE, n, t, k, a, b, z, rfl, .inl rfl, ⟨dx, he⟩, hk, by rw [hGn]; exact la, by rw [hGn]; exact lb, hz, fun p1 H1 np1 s1 e1 => ?_⟩
      rw [hGn] at e1
      have he1 := s1 _ _ he
      refine ⟨_, rfl, _, rfl, e, dx, _, n, rfl, rfl, he1, e, CE, n, t, k, a, b, z, rfl, .inl rfl, ⟨dx, he1⟩, hk, by rw [hGn]; exact ma, by rw [hGn]; exact mb, hz, fun p2 H2 np2 s2 e2 => ⟨_, _, rfl, ?_⟩⟩
      rw [hGn] at e2
      obtain ⟨d1, h1⟩ := e1.same s2
      obtain ⟨d2, h2⟩ := e2
      have he2 := s2 _ _ he1
      have s02 := s1.trans s2
      clear e1 he1
      -- later is an entry, with its text
      refine ⟨_, rfl, _, _, _, _, true, rfl, .own CE, (C.ic (.inr rfl)).ty h1, C.kit (.inr rfl), _, rfl, iteF ?_⟩
      refine ⟨_, rfl, p1, CT, d1, _, _, rfl, h1, C.iT.cl, C.nT.n1, rfl, _, rfl, _, rfl, _, rfl, _, _, rfl, rfl, _, rfl, _, rfl, _, _, rfl, rfl, _, rfl, (by show 4 ≤ sizeLine; decide), fun q3 n3 => ?_⟩
      refine ⟨q3, k, a + g, b + g, z, rfl, upd_same, hk, la, lb, hz, rfl, _, rfl, ?_⟩
      have s3 : Same H2 (upd H2 q3 (.tup [.str (strOf k), .int (a + g), .int (b + g), optZ z])) := Same.new n3
      generalize upd H2 q3 (.tup [.str (strOf k), .int (a + g), .int (b + g), optZ z]) = H3 at s3 ⊢
      rw [neSelf]
      refine iteF ?_
      have h1 := s3 _ _ h1
      have h2 := s3 _ _ h2
      have he3 := s3 _ _ he2
      have s03 := s02.trans s3
      -- its parts
      refine ⟨_, rfl, p1, CT, d1, _, _, rfl, h1, C.iT.cl, C.nT.n2, rfl, _, rfl, p1, CT, d1, _, _, rfl, h1, C.iT.cl, C.nT.n3, rfl, _, rfl, p1, CT, d1, _, _, rfl, h1, C.iT.cl, C.nT.n4, rfl, _, rfl, p1, CT, d1, _, _, rfl, h1, C.iT.cl, C.nT.n5, rfl, (by show 4 ≤ sizeLine; decide), fun q4 n4 => ?_⟩
      have s4 : Same H3 (upd H3 q4 (.tup [.str (strOf k), .int (a + g), .int (b + g), optZ z])) := Same.new n4
      have hq4 : (upd H3 q4 (.tup [.str (strOf k), .int (a + g), .int (b + g), optZ z])) q4 = some (.tup [.str (strOf k), .int (a + g), .int (b + g), optZ z]) := upd_same
      refine ⟨_, rfl, _, rfl, _, rfl, _, _, rfl, rfl, _, rfl, _, rfl, _, _, rfl, rfl, _, rfl, (by show 4 ≤ sizeLine; decide), fun q5 n5 => ?_⟩
      change (upd H3 q4 (.tup [.str (strOf k), .int (a + g), .int (b + g), optZ z])) q5 = none at n5
      generalize upd H3 q4 (.tup [.str (strOf k), .int (a + g), .int (b + g), optZ z]) = H4 at s4 hq4 n5 ⊢
      have s5 : Same H4 (upd H4 q5 (.tup [.str (strOf k), .int (a + g), .int (b + g), optZ z])) := Same.new n5
      have hq5 : (upd H4 q5 (.tup [.str (strOf k), .int (a + g), .int (b + g), optZ z])) q5 = some (.tup [.str (strOf k), .int (a + g), .int (b + g), optZ z]) := upd_same
      have hq4 := s5 _ _ hq4
      have s35 := s4.trans s5
      generalize upd H4 q5 (.tup [.str (strOf k), .int (a + g), .int (b + g), optZ z]) = H5 at s35 hq5 hq4 ⊢
      have lay : PyData.canLay0 (.tuple [.str (strOf k), .int (a + g), .int (b + g), zD z]) = true := by
        show (PySem.PyData.strOk (strOf k) && (true && (true && ((zD z).canLay0 && true)))) = true
        rw [strOk_of (kind_small wl.kind), layZ wl]; rfl
      have shp : SeqAt.shaped (.tuple [.str (strOf k), .int (a + g), .int (b + g), zD z]) = true := by
        unfold SeqAt.shaped
        rw [lay]
        have : PyData.depth (.tuple [.str (strOf k), .int (a + g), .int (b + g), zD z]) = 1 := by
          show max 0 (max 0 (max 0 (max (zD z).depth 0))) + 1 = 1
          rw [dep_z]; rfl
        rw [this]; rfl
      refine ⟨_, _, .tup (SqT.of hq4) (.cons (.str _) (.cons (.int _) (.cons (.int _) (.cons (dp_z _ _ z) .nil)))), .tup (SqT.of hq5) (.cons (.str _) (.cons (.int _) (.cons (.int _) (.cons (dp_z _ _ z) .nil)))), shp, shp, _, rfl, ?_⟩
      rw [PySem.SeqAt.eqv_refl _ lay]
      refine iteF ?_
      have h1 := s35 _ _ h1
      have h2 := s35 _ _ h2
      have he5 := s35 _ _ he3
      have s05 := s03.trans s35
      clear s3 s35 s4 s5 hq4 hq5 n3 n4 n5 he3 he2 s03 s02 np1 np2 s1 s2
      -- earlier
      refine ⟨_, rfl, p2, CT, d2, _, _, rfl, h2, C.iT.cl, C.nT.n1, rfl, _, rfl, _, rfl, _, rfl, _, _, rfl, rfl, _, rfl, _, rfl, _, _, rfl, rfl, _, rfl, (by show 4 ≤ sizeLine; decide), fun q6 n6 => ?_⟩
      refine ⟨q6, k, a - g, b - g, z, rfl, upd_same, hk, ma, mb, hz, rfl, _, rfl, ?_⟩
      have s6 : Same H5 (upd H5 q6 (.tup [.str (strOf k), .int (a - g), .int (b - g), optZ z])) := Same.new n6
      generalize upd H5 q6 (.tup [.str (strOf k), .int (a - g), .int (b - g), optZ z]) = H6 at s6 ⊢
      rw [neSelf]
      have h1 := s6 _ _ h1
      have h2 := s6 _ _ h2
      have he6 := s6 _ _ he5
      have s06 := s05.trans s6
      refine iteF ⟨_, rfl, e, CE, dx, _, _, rfl, he6, C.iE.cl, C.nE.n1, rfl, _, rfl, rfl, _, rfl, ?_⟩
      rw [neSelf]
      refine iteF ?_
      clear s6 n6 he5 s05
      -- and back
      have et : t = strOf (canon k a b z) := by rw [← hct, strOf_tl]
      have back1 : ∀ x y : Int, x + y - y = x := fun x y => by omega
      have back2 : ∀ x y : Int, x - y + y = x := fun x y => by omega
      refine ⟨_, rfl, _, rfl, p1, d1, _, n, rfl, rfl, h1, p1, CT, n, _, k, a + g, b + g, z, rfl, .inr rfl, ⟨d1, h1⟩, hk, by rw [hGn]; show (a + g - g).natAbs < _; omega, by rw [hGn]; show (b + g - g).natAbs < _; omega, hz, fun p7 H7 np7 s7 e7 => ?_⟩
      simp only [hGn, back1] at e7
      obtain ⟨d7, h7⟩ := e7
      have h1 := s7 _ _ h1
      have h2 := s7 _ _ h2
      have he7 := s7 _ _ he6
      refine ⟨_, rfl, p7, d7, _, .ref CE, rfl, h7, (C.ic (.inl rfl)).ty he7, O.nTE, p7, CT, _, _, k, a, b, z, rfl, .inr rfl, ⟨d7, h7⟩, .inl ⟨e, CE, t, k, a, b, z, rfl, .inl rfl, ⟨dx, he7⟩, _, rfl, ?_⟩⟩
      rw [tl_strOf, hct, decide_eq_true rfl]
      refine iteT ?_
      refine ⟨_, rfl, _, rfl, p2, d2, _, n, rfl, rfl, h2, p2, CT, n, _, k, a - g, b - g, z, rfl, .inr rfl, ⟨d2, h2⟩, hk, by rw [hGn]; show (a - g + g).natAbs < _; omega, by rw [hGn]; show (b - g + g).natAbs < _; omega, hz, fun p8 H8 np8 s8 e8 => ?_⟩
      simp only [hGn, back2] at e8
      obtain ⟨d8, h8⟩ := e8
      have h1 := s8 _ _ h1
      have he8 := s8 _ _ he7
      refine ⟨_, rfl, p8, d8, _, .ref CE, rfl, h8, (C.ic (.inl rfl)).ty he8, O.nTE, p8, CT, _, _, k, a, b, z, rfl, .inr rfl, ⟨d8, h8⟩, .inl ⟨e, CE, t, k, a, b, z, rfl, .inl rfl, ⟨dx, he8⟩, _, rfl, ?_⟩⟩
      rw [tl_strOf, hct, decide_eq_true rfl]
      refine iteT ?_
      have s08 := (s06.trans s7).trans s8
      refine ⟨_, rfl, _, rfl, p1, d1, _, .ref CE, rfl, h1, (C.ic (.inl rfl)).ty he8, O.nTE, p1, CT, _, _, k, a + g, b + g, z, rfl, .inr rfl, ⟨d1, h1⟩, .inl ⟨e, CE, t, k, a, b, z, rfl, .inl rfl, ⟨dx, he8⟩, ?_⟩⟩
      refine ⟨_, rfl, rfl, rfl, ?_⟩
      have e1 : decide (tl (strOf (canon k ((fun a g => a + g) a g) ((fun a g => a + g) b g) z)) = tl t) = decide (n = 0) := by
        rw [tl_strOf, hct]
        show decide (canon k (a + g) (b + g) z = canon k a b z) = _
        have w2 : Well k (a + g) (b + g) z := ⟨wl.kind, wl.zone⟩
        by_cases h0 : n = 0
        · have hg0 : g = 0 := zero_iff.mpr h0
          rw [decide_eq_true h0, hg0, Int.add_zero, Int.add_zero, decide_eq_true rfl]
        · rw [decide_eq_false h0, decide_eq_false]
          intro hc
          have := (canon_inj w2 wl hc).2.1
          exact h0 (zero_iff.mp (by omega))
      have e2 : decide (V.int n = V.int 0) = decide (n = 0) := by
        by_cases h0 : n = 0
        · rw [decide_eq_true h0, h0]; rfl
        · rw [decide_eq_false h0, decide_eq_false]
          intro hc; injection hc; exact h0 (by assumption)
      have fin := q H8 s08
      rw [e1, e2, decide_eq_true (show V.bl (decide (n = 0)) = V.bl (decide (n = 0)) from rfl)]
      exact fin
end
end Toy

set_option Elab.async false
set_option linter.all false
set_option maxRecDepth 100000
set_option maxHeartbeats 4000000
namespace Toy
open PySem L2 TL EM
section
variable {P : Program} {w : World} {K : PySem.W.Frag} {mg : Str → Option Value} {base : Heap}
abbrev Rw := List Nat × Int × Int × Option (List Nat)
def rowV (r : Rw) : List V := [.str (strOf r.1), .int r.2.1, .int r.2.2.1, optZ r.2.2.2]
def canonR (r : Rw) : List Nat := canon r.1 r.2.1 r.2.2.1 r.2.2.2
structure RowOk (o r : Rw) : Prop where
  wl : Well r.1 r.2.1 r.2.2.1 r.2.2.2
  le : r.2.1 ≤ r.2.2.1
  la : r.2.1.natAbs < 10 ^ 30
  lb : r.2.2.1.natAbs < 10 ^ 30
  ne : r ≠ o
inductive RowsIn (H : Hp) : List V → List Rw → Prop
  | nil : RowsIn H [] []
  | cons {q : Addr} {vs : List V} {r : Rw} {rs : List Rw} : H q = some (.tup (rowV r)) → RowsIn H vs rs → RowsIn H (.ref q :: vs) (r :: rs)
theorem RowsIn.mono {H H' : Hp} {vs : List V} {rs : List Rw} (h : RowsIn H vs rs) (t : ∀ b xs, H b = some (.tup xs) → H' b = some (.tup xs)) : RowsIn H' vs rs := by
  induction h with
  | nil => exact .nil
  | cons e _ ih => exact .cons (t _ _ e) ih
theorem RowsIn.snoc {H : Hp} {vs : List V} {rs : List Rw} {q : Addr} {r : Rw} (h : RowsIn H vs rs) (e : H q = some (.tup (rowV r))) : RowsIn H (vs ++ [.ref q]) (rs ++ [r]) := by
  induction h with
  | nil => exact .cons e .nil
  | cons e' _ ih => exact .cons e' ih
theorem RowsIn.len {H : Hp} {vs : List V} {rs : List Rw} (h : RowsIn H vs rs) : vs.length = rs.length := by
  induction h with
  | nil => rfl
  | cons _ _ ih => rw [List.length_cons, List.length_cons, ih]
theorem RowsIn.get {H : Hp} {vs : List V} {rs : List Rw} (h : RowsIn H vs rs) : ∀ (i : Nat) (v : V), vs[i]? = some v → ∃ q r, v = .ref q ∧ rs[i]? = some r ∧ H q = some (.tup (rowV r)) := by
  induction h with
  | nil => intro i v e; cases e
  | @cons q vs r rs e _ ih =>
    intro i v ev
    cases i with
    | zero => cases ev; exact ⟨q, r, rfl, rfl, e⟩
    | succ i => exact ih i v ev
inductive EntsIn (C : Addr) (H : Hp) : List V → List Rw → Prop
  | nil : EntsIn C H [] []
  | cons {q : Addr} {vs : List V} {r : Rw} {rs : List Rw} : EntAt C H q (strOf (canonR r)) r.1 r.2.1 r.2.2.1 r.2.2.2 → EntsIn C H vs rs → EntsIn C H (.ref q :: vs) (r :: rs)
theorem EntsIn.mono {C : Addr} {H H' : Hp} {vs : List V} {rs : List Rw} (h : EntsIn C H vs rs) (t : ∀ b D dx fs, H b = some (.ins D dx fs) → H' b = some (.ins D dx fs)) : EntsIn C H' vs rs := by
  induction h with
  | nil => exact .nil
  | cons e _ ih =>
    obtain ⟨dx, e⟩ := e
    exact .cons ⟨dx, t _ _ _ _ e⟩ ih
theorem EntsIn.snoc {C : Addr} {H : Hp} {vs : List V} {rs : List Rw} {q : Addr} {r : Rw} (h : EntsIn C H vs rs) (e : EntAt C H q (strOf (canonR r)) r.1 r.2.1 r.2.2.1 r.2.2.2) : EntsIn C H (vs ++ [.ref q]) (rs ++ [r]) := by
  induction h with
  | nil => exact .cons e .nil
  | cons e' _ ih => exact .cons e' ih
theorem EntsIn.len {C : Addr} {H : Hp} {vs : List V} {rs : List Rw} (h : EntsIn C H vs rs) : vs.length = rs.length := by
  induction h with
  | nil => rfl
  | cons _ _ ih => rw [List.length_cons, List.length_cons, ih]
theorem EntsIn.get {C : Addr} {H : Hp} {vs : List V} {rs : List Rw} (h : EntsIn C H vs rs) : ∀ (i : Nat) (v : V), vs[i]? = some v → ∃ q r, v = .ref q ∧ rs[i]? = some r ∧ EntAt C H q (strOf (canonR r)) r.1 r.2.1 r.2.2.1 r.2.2.2 := by
  induction h with
  | nil => intro i v e; cases e
  | @cons q vs r rs e _ ih =>
    intro i v ev
    cases i with
    | zero => cases ev; exact ⟨q, r, rfl, rfl, e⟩
    | succ i => exact ih i v ev
theorem take_snoc {α : Type} {l : List α} {i : Nat} {x : α} (h : l[i]? = some x) : l.take (i + 1) = l.take i ++ [x] := by
  rw [List.take_add_one, h]; rfl
/-- rows stand at l -/
def RowsAt (H0 : Hp) (o : Rw) (n : Nat) (l : Addr) (H : Hp) : Prop := ∃ vs rs, H l = some (.lst vs) ∧ RowsIn H vs rs ∧ (∀ r ∈ rs, RowOk o r) ∧ vs.length ≤ n ∧ Same H0 H ∧ H0 l = none
theorem RowsAt.snoc {H0 H H' : Hp} {o : Rw} {n : Nat} {l q : Addr} {vs : List V} {rs : List Rw} {r : Rw} (hl : H l = some (.lst vs)) (hr : RowsIn H vs rs) (ho : ∀ r ∈ rs, RowOk o r) (hn : vs.length ≤ n) (s0 : Same H0 H) (nl : H0 l = none)
    (s : Same H H') (hq : H' q = some (.tup (rowV r))) (ok : RowOk o r) : RowsAt H0 o (n + 1) l (upd H' l (.lst (vs ++ [.ref q]))) := by
  have nt : ∀ b xs, H' b = some (.tup xs) → b ≠ l := fun b xs e => ne_of e (s _ _ hl) (by intro z; cases z)
  refine ⟨vs ++ [.ref q], rs ++ [r], upd_same, ?_, ?_, ?_, ?_, nl⟩
  · refine ((hr.mono fun b xs e => s _ _ e).snoc hq).mono fun b xs e => ?_
    rw [upd_ne (nt b xs e)]
    exact e
  · intro x hx
    rcases List.mem_append.mp hx with h | h
    · exact ho x h
    · rw [List.mem_singleton.mp h]; exact ok
  · rw [List.length_append]; exact Nat.add_le_add_right hn 1
  · exact Same.mut (s0.trans s) nl
theorem float_in (k : List Nat) : inV (.str (strOf k)) [.str "float", .str "fixed"] = decide (k = kFloat ∨ k = kFixed) := by
  have e : ∀ a b : Str, eqV (.str a) (.str b) = decide (tl b = tl a) := fun a b => by
    show (a == b) = _
    by_cases h : tl b = tl a
    · rw [decide_eq_true h, ext_tl h]; exact beq_self_eq_true _
    · rw [decide_eq_false h]
      exact beq_eq_false_iff_ne.mpr (fun z => h (by rw [z]))
  unfold inV
  simp only [List.any_cons, List.any_nil, Bool.or_false, e, kFloat_eq, kFixed_eq, tl_strOf]
  by_cases h1 : k = kFloat <;> by_cases h2 : k = kFixed <;> simp [h1, h2]
theorem neRow {o r : Rw} {a : Nat} (wo : Well o.1 o.2.1 o.2.2.1 o.2.2.2) (h : RowOk o r) : canonR r ≠ canonR o := fun e => by
  obtain ⟨h1, h2, h3, h4⟩ := canon_inj h.wl wo e
  apply h.ne
  obtain ⟨r1, r2, r3, r4⟩ := r
  obtain ⟨o1, o2, o3, o4⟩ := o
  simp only at h1 h2 h3 h4
  rw [h1, h2, h3, h4]
def spUnlike (CE : Addr) : Sp := fun vs H Q _ => ∃ (e du : Addr) (t : Str) (k : List Nat) (a b : Int) (z : Option (List Nat)), vs = [.ref e, .ref du] ∧ EntAt CE H e t k a b z ∧ H du = some (.tup (entV t k a b z)) ∧
  parts (tl t) = some (k, a, b, z) ∧ ∀ H', Same H H' → Q (.bl true) H'
abbrev s__law_unlike_right : Stmt := top 34
theorem sc__law_unlike_right : FnScope ["_law_entry", "_law_due", "_law_text", "_law_kind", "_law_first", "_law_last", "_law_zone", "_law_whole_here", "_law_rows", "_law_others", "_law_row", "_law_other"] ["_law_entry", "_law_due"] (defScope s__law_unlike_right) := ⟨rfl, rfl, rfl, by decide +kernel, rfl, by decide +kernel, by decide +kernel⟩

theorem ok_unlike {f CE CT CB fA fS fQ fE : Addr} {fd fdQ fdE : FuncData} (F : Fun K "_law_unlike_right" "_law_unlike_right" s__law_unlike_right f fd) (T : TB mg) (C : EC K mg CE CT) (O : EO K CE CT fA fS fQ)
    (GQ : FnOk P w K mg base CX0 1 fQ fdQ ["self", "other"] (spEq K CE CT)) (bQ : Binds K fdQ ["self", "other"] [])
    (ME : Mk K CE fE) (GE : FnOk P w K mg base (L2.CX P w) 3 fE fdE ["self", "text"] (spEInit K CB)) (bE : Binds K fdE ["self", "text"] [])
    (cText : Cal P w K mg base 1 "_law_entry_text" ["_law_entry"] spText) : FnOk P w K mg base CX0 5 f fd ["_law_entry", "_law_due"] (spUnlike CE) := by
  refine F.ok sc__law_unlike_right (fun vs H Q E h => ?_) (fun cdv A outer s H vs Q E hr h => ?_)
  · obtain ⟨e, du, t, k, a, b, z, rfl, _⟩ := h
    rfl
  · obtain ⟨e, du, t, k, a, b, z, rfl, ⟨dx, he⟩, hd, hpar, q⟩ := h
    have hu := hu_of hr
    have hr4 : Room 4 _ := hr
    have hr2 : Room 2 _ := hr4.mono (by decide)
    have hr1 : Room 1 _ := hr4.mono (by decide)
    refine ⟨_, (pss_cons (ps_asg (pv 1) (pg_tup rfl (pgs_cons (pg_name (i := 2) sc__law_unlike_right.nd rfl (Or.inl rfl)) (pgs_cons (pg_name (i := 3) sc__law_unlike_right.nd rfl (Or.inl rfl)) (pgs_cons (pg_name (i := 4) sc__law_unlike_right.nd rfl (Or.inl rfl)) (pgs_cons (pg_name (i := 5) sc__law_unlike_right.nd rfl (Or.inl rfl)) (pgs_cons (pg_name (i := 6) sc__law_unlike_right.nd rfl (Or.inl rfl)) (pgs_cons (pg_name (i := 7) sc__law_unlike_right.nd rfl (Or.inl rfl)) pgs_nil))))))))
      (Evl.pss_cut (ps_set (i := 8) sc__law_unlike_right.nd rfl (Or.inl rfl) (pe_lst pa_nil))
      (Evl.pss_cut (ps_if (pt_cmpR op_lt (pv 4) (pv 5) (nomark _))
        (pss_one (ps_set (i := 8) sc__law_unlike_right.nd rfl (Or.inl rfl) (pe_lst (pa_cons (pe_tup (pa_cons (pv 3) (pa_cons (pv 4) (pa_cons (pe_op op_sub (pv 5) pe_int) (pa_cons (pv 6) pa_nil))))) (pa_cons (pe_tup (pa_cons (pv 3) (pa_cons (pe_op op_add (pv 4) pe_int) (pa_cons (pv 5) (pa_cons (pv 6) pa_nil))))) pa_nil)))))
        (pss_one (ps_if (pt_cmpR op_lt (pe_callB call_abs (by rfl) T.abs (by decide +kernel) (pa_cons (pv 4) pa_nil)) (pe_op op_pow pe_int pe_int) (nomark _))
        (pss_one (ps_set (i := 8) sc__law_unlike_right.nd rfl (Or.inl rfl) (pe_lst (pa_cons (pe_tup (pa_cons (pv 3) (pa_cons (pe_op op_sub (pv 4) pe_int) (pa_cons (pv 5) (pa_cons (pv 6) pa_nil))))) (pa_cons (pe_tup (pa_cons (pv 3) (pa_cons (pv 4) (pa_cons (pe_op op_add (pv 5) pe_int) (pa_cons (pv 6) pa_nil))))) pa_nil)))))
        pss_nil)))
      (Evl.pss_cut (ps_if (pt_cmpR op_in_seq (pv 3) (pe_tup (pa_cons pe_str (pa_cons pe_str pa_nil))) rfl)
        (pss_one (ps_expr (pe_bm PySem.F.plainAttrs_list PySem.F.slot_list_append PySem.F.type_list_append mt_append (pv 8) (pa_cons (pe_tup (pa_cons (pe_dget hu (pe_disp (pps_cons pe_str pe_str (pps_cons pe_str pe_str pps_nil)) (by rfl) (by rfl) (fun z => by cases z) (by decide)) (pv 3) (fun _ _ => rfl)) (pa_cons (pv 4) (pa_cons (pv 5) (pa_cons (pv 6) pa_nil))))) pa_nil))))
        pss_nil)
      (Evl.pss_cut (ps_if (PW.pt (pw_and (pt_cmpR op_notN (pv 6) pe_non (nomark _)) (pw_and1 (pt_cmpR op_lt (pe_callB call_len_str (by rfl) T.len PySem.boot_len (pa_cons (pv 6) pa_nil)) pe_int (nomark _)))))
        (pss_one (ps_expr (pe_bm PySem.F.plainAttrs_list PySem.F.slot_list_append PySem.F.type_list_append mt_append (pv 8) (pa_cons (pe_tup (pa_cons (pv 3) (pa_cons (pv 4) (pa_cons (pv 5) (pa_cons (pe_op op_add_str (pv 6) pe_str) pa_nil))))) pa_nil))))
        pss_nil)
      (Evl.pss_cut (ps_setLc (i := 9) (own := [("_law_row", 10)]) (g := gName 10) (by rfl) sc__law_unlike_right.nd rfl rfl (sw_true rfl rfl rfl (by decide +kernel)) (pi_list (pv 8)) (blkOk_by (own := [("_law_row", 10)]) (N := ["_law_entry", "_law_due", "_law_text", "_law_kind", "_law_first", "_law_last", "_law_zone", "_law_whole_here", "_law_rows", "_law_others", "_law_row", "_law_other"]) (sc := defScope s__law_unlike_right) (by decide +kernel)) (fun _ _ _ _ _ => pg_name (i := 10) sc__law_unlike_right.nd rfl (Or.inl rfl)) (fun _ _ _ _ _ => pts_nil) (fun _ _ _ _ _ => (pe_make ME GE hr4 rfl C.gE bE .nil passE0 (pa_cons (pe_cal cText hr1 rfl (pa_cons (pv 10) pa_nil)) pa_nil))))
      (pss_cons (ps_if (PW.pt (pw_or (pt_val (pe_callB (cr_any rfl) (by rfl) T.any (by decide +kernel) (pa_cons (pe_lc (own := [("_law_other", 11)]) (g := gName 11) (by rfl) sc__law_unlike_right.nd (pi_list (pv 9)) (blkOk_by (own := [("_law_other", 11)]) (N := ["_law_entry", "_law_due", "_law_text", "_law_kind", "_law_first", "_law_last", "_law_zone", "_law_whole_here", "_law_rows", "_law_others", "_law_row", "_law_other"]) (sc := defScope s__law_unlike_right) (by decide +kernel)) (fun _ _ _ _ _ => pg_name (i := 11) sc__law_unlike_right.nd rfl (Or.inl rfl)) (fun _ _ _ _ _ => pts_nil) (fun _ _ _ _ _ => (pe_or (pe_cmpR (op_eqK (K := K) rfl O.qE O.fn GQ hr1 bQ pass0) (pv 0) (pv 11) (nomark _)) (pe_one (pe_cmpR (op_eqK (K := K) rfl O.qE O.fn GQ hr1 bQ pass0) (pv 11) (pv 0) (nomark _)))))) pa_nil))) (pw_or1 (pt_not (pt_val (pe_callB (cr_all rfl) (by rfl) T.all (by decide +kernel) (pa_cons (pe_lc (own := [("_law_other", 11)]) (g := gName 11) (by rfl) sc__law_unlike_right.nd (pi_list (pv 9)) (blkOk_by (own := [("_law_other", 11)]) (N := ["_law_entry", "_law_due", "_law_text", "_law_kind", "_law_first", "_law_last", "_law_zone", "_law_whole_here", "_law_rows", "_law_others", "_law_row", "_law_other"]) (sc := defScope s__law_unlike_right) (by decide +kernel)) (fun _ _ _ _ _ => pg_name (i := 11) sc__law_unlike_right.nd rfl (Or.inl rfl)) (fun _ _ _ _ _ => pts_nil) (fun _ _ _ _ _ => (pe_cmpR (op_neK (K := K) rfl O.neE O.qE O.fn O.mE GQ hr2 bQ pass0) (pv 0) (pv 11) (nomark _)))) pa_nil)))))))
        (pss_one (ps_ret pe_bl))
        pss_nil)
      (pss_one (ps_ret (pe_and (pe_cmpR (op_eqK (K := K) rfl O.qE O.fn GQ hr1 bQ pass0) (pv 0) (pe_make ME GE hr4 rfl C.gE bE .nil passE0 (pa_cons (pv 2) pa_nil)) (nomark _)) (pe_one (pe_not (pe_cmpR (op_neK (K := K) rfl O.neE O.qE O.fn O.mE GQ hr2 bQ pass0) (pv 0) (pe_make ME GE hr4 rfl C.gE bE .nil passE0 (pa_cons (pv 2) pa_nil)) (nomark _)))))))))))))), ?_⟩
    obtain ⟨hct, wl, hab, ha, hb⟩ := parts_back hpar
    have hk5 := kind_len wl.kind
    have hz12 := zone_len wl
    have o0 : Rw := (k, a, b, z)
    have strF : strOf kFloat = Str.ofString "float" := ext_tl (by rw [tl_strOf]; decide +kernel)
    have strX : strOf kFixed = Str.ofString "fixed" := ext_tl (by rw [tl_strOf]; decide +kernel)
    refine ⟨_, rfl, du, _, rfl, SqT.of hd, rfl, _, _, rfl, _, _, rfl, _, _, rfl, _, _, rfl, _, _, rfl, _, _, rfl, rfl, ?_⟩
    -- rows = []
    refine ⟨fun σ' H' => ∃ l, σ' = [some (.ref e), some (.ref du), some (.str t), some (.str (strOf k)), some (.int a), some (.int b), some (optZ z), some (.bl true), some (.ref l), none, none, none] ∧ RowsAt H (k, a, b, z) 0 l H', ?_, ?_⟩
    · refine ⟨(by show 0 ≤ sizeLine; decide), fun l hl => ⟨l, rfl, [], [], upd_same, .nil, (fun r hr => by cases hr), Nat.le_refl _, Same.new hl, hl⟩⟩
    rintro σ' H1 ⟨l0, rfl, vs0, rs0, hl0, hr0, ho0, hn0, s01, nl0⟩
    refine ⟨fun σ' H' => ∃ l, σ' = [some (.ref e), some (.ref du), some (.str t), some (.str (strOf k)), some (.int a), some (.int b), some (optZ z), some (.bl true), some (.ref l), none, none, none] ∧ RowsAt H (k, a, b, z) 2 l H', ?_, ?_⟩
    · refine ⟨_, rfl, _, rfl, _, _, rfl, rfl, _, rfl, ?_⟩
      have two : ∀ (r1 r2 : Rw), RowOk (k, a, b, z) r1 → RowOk (k, a, b, z) r2 → ∀ q1, H1 q1 = none → ∀ q2, (upd H1 q1 (.tup (rowV r1))) q2 = none → ∀ l, (upd (upd H1 q1 (.tup (rowV r1))) q2 (.tup (rowV r2))) l = none →
          RowsAt H (k, a, b, z) 2 l (upd (upd (upd H1 q1 (.tup (rowV r1))) q2 (.tup (rowV r2))) l (.lst [.ref q1, .ref q2])) := by
        intro r1 r2 k1 k2 q1 n1 q2 n2 l nl
        have s1 : Same H1 (upd H1 q1 (.tup (rowV r1))) := Same.new n1
        have s2 := s1.trans (Same.new (o := .tup (rowV r2)) n2)
        have s3 : Same (upd (upd H1 q1 (.tup (rowV r1))) q2 (.tup (rowV r2))) (upd (upd (upd H1 q1 (.tup (rowV r1))) q2 (.tup (rowV r2))) l (.lst [.ref q1, .ref q2])) := Same.new nl
        have e1 := s3 _ _ (Same.new (o := .tup (rowV r2)) n2 _ _ (upd_same (H := H1) (a := q1) (o := .tup (rowV r1))))
        have e2 := s3 _ _ (upd_same (H := upd H1 q1 (.tup (rowV r1))) (a := q2) (o := .tup (rowV r2)))
        refine ⟨[.ref q1, .ref q2], [r1, r2], upd_same, .cons e1 (.cons e2 .nil), ?_, Nat.le_refl _, (s01.trans s2).trans s3, (s01.trans s2).free nl⟩
        intro r hr
        rcases List.mem_cons.mp hr with rfl | hr
        · exact k1
        · rw [List.mem_singleton.mp hr]; exact k2
      by_cases h1 : a < b
      · rw [decide_eq_true h1]
        refine iteT ⟨_, rfl, _, rfl, _, rfl, _, _, rfl, rfl, _, rfl, (by show 4 ≤ sizeLine; decide), fun q1 n1 => ⟨_, rfl, _, rfl, _, _, rfl, rfl, _, rfl, _, rfl, (by show 4 ≤ sizeLine; decide), fun q2 n2 => ⟨(by show 2 ≤ sizeLine; decide), fun l nl => ⟨l, rfl, ?_⟩⟩⟩⟩
        refine two (k, a, b - 1, z) (k, a + 1, b, z) ⟨⟨wl.kind, wl.zone⟩, by show a ≤ b - 1; omega, ha, by show (b - 1).natAbs < _; omega, ?_⟩ ⟨⟨wl.kind, wl.zone⟩, by show a + 1 ≤ b; omega, by show (a + 1).natAbs < _; omega, hb, ?_⟩ q1 n1 q2 n2 l nl
        · intro z; simp only [Prod.mk.injEq] at z; omega
        · intro z; simp only [Prod.mk.injEq] at z; omega
      · rw [decide_eq_false h1]
        have eab : a = b := by omega
        refine iteF ⟨_, rfl, _, rfl, _, _, rfl, rfl, ⟨by decide, by decide, by decide⟩, _, _, rfl, rfl, _, rfl, ?_⟩
        have e20 : (10 : Int) ^ (20 : Int).toNat = 10 ^ 20 := rfl
        rw [e20]
        by_cases h2 : (if a < 0 then -a else a) < 10 ^ 20
        · rw [decide_eq_true h2]
          have h3 : a.natAbs < 10 ^ 20 := by
            split at h2 <;> omega
          refine iteT ⟨_, rfl, _, rfl, _, _, rfl, rfl, _, rfl, _, rfl, (by show 4 ≤ sizeLine; decide), fun q1 n1 => ⟨_, rfl, _, rfl, _, rfl, _, _, rfl, rfl, _, rfl, (by show 4 ≤ sizeLine; decide), fun q2 n2 => ⟨(by show 2 ≤ sizeLine; decide), fun l nl => ⟨l, rfl, ?_⟩⟩⟩⟩
          refine two (k, a - 1, b, z) (k, a, b + 1, z) ⟨⟨wl.kind, wl.zone⟩, by show a - 1 ≤ b; omega, by show (a - 1).natAbs < _; omega, hb, ?_⟩ ⟨⟨wl.kind, wl.zone⟩, by show a ≤ b + 1; omega, ha, by show (b + 1).natAbs < _; omega, ?_⟩ q1 n1 q2 n2 l nl
          · intro z; simp only [Prod.mk.injEq] at z; omega
          · intro z; simp only [Prod.mk.injEq] at z; omega
        · rw [decide_eq_false h2]
          exact iteF ⟨l0, rfl, vs0, rs0, hl0, hr0, ho0, by omega, s01, nl0⟩
    clear hl0 hr0 ho0 hn0 s01 nl0
    rintro σ' H2 ⟨l, rfl, vs, rs, hl, hrs, ho, hn, s02, nl⟩
    -- the other kind
    refine ⟨fun σ' H' => σ' = [some (.ref e), some (.ref du), some (.str t), some (.str (strOf k)), some (.int a), some (.int b), some (optZ z), some (.bl true), some (.ref l), none, none, none] ∧ RowsAt H (k, a, b, z) 3 l H', ?_, ?_⟩
    · refine ⟨_, rfl, (by show 2 ≤ sizeLine; decide), fun kt hkt => ?_⟩
      have s3 : Same H2 (upd H2 kt (.tup [.str "float", .str "fixed"])) := Same.new hkt
      refine ⟨kt, [.str "float", .str "fixed"], rfl, .inr (SqT.of upd_same), rfl, rfl, _, rfl, ?_⟩
      generalize upd H2 kt (.tup [.str "float", .str "fixed"]) = H3 at s3 ⊢
      show if (inV (.str (strOf k)) [.str "float", .str "fixed"]) = true then _ else _
      rw [float_in]
      by_cases hk : k = kFloat ∨ k = kFixed
      · rw [decide_eq_true hk]
        have hl3 := s3 _ _ hl
        refine iteT ⟨_, rfl, .inl ⟨rfl, _, SqL.of hl3⟩, fun dd ndd => ?_⟩
        have zn : k ≠ kZoned ∧ z = none := by
          rcases wl.zone with ⟨h1, _⟩ | h
          · rcases hk with h | h <;> rw [h1] at h <;> exact absurd h (by decide)
          · exact h
        refine ⟨upd_same, [(.inr "float", .str "fixed"), (.inr "fixed", .str "float")], rfl, (by show 2 ≤ 15; decide), ?_⟩
        have s4 : Same H3 (upd (upd H3 dd (.dK [])) dd (.dK (mergeK [] [(.inr "float", .str "fixed"), (.inr "fixed", .str "float")]))) := Same.mut (Same.new ndd) ndd
        have hdd : (upd (upd H3 dd (.dK [])) dd (.dK (mergeK [] [(.inr "float", .str "fixed"), (.inr "fixed", .str "float")]))) dd = some (.dK [(.inr "float", .str "fixed"), (.inr "fixed", .str "float")]) := upd_same
        generalize upd (upd H3 dd (.dK [])) dd (.dK (mergeK [] [(.inr "float", .str "fixed"), (.inr "fixed", .str "float")])) = H4 at s4 hdd ⊢
        obtain ⟨k', hg, hk', hne⟩ : ∃ k', DGet H4 dd (.str (strOf k)) (some (.str (strOf k'))) ∧ (k' = kFloat ∨ k' = kFixed) ∧ k' ≠ k := by
          rcases hk with rfl | rfl
          · refine ⟨kFixed, ?_, .inr rfl, by decide⟩
            rw [strF, strX]
            exact DGet.k (k := Sum.inr "float") hdd
          · refine ⟨kFloat, ?_, .inl rfl, by decide⟩
            rw [strF, strX]
            exact DGet.k (k := Sum.inr "fixed") hdd
        refine ⟨_, rfl, dd, _, rfl, hg, _, rfl, _, rfl, _, rfl, (by show 4 ≤ sizeLine; decide), fun q nq => ?_⟩
        have s5 := (s3.trans s4).trans (Same.new (o := .tup [.str (strOf k'), .int a, .int b, optZ z]) nq)
        refine ⟨l, vs, _, rfl, rfl, s5 _ _ hl, Nat.lt_of_le_of_lt hn (by decide), rfl, ?_⟩
        refine RowsAt.snoc (r := (k', a, b, z)) hl hrs ho hn s02 nl s5 upd_same ⟨⟨?_, .inr ⟨?_, zn.2⟩⟩, hab, ha, hb, ?_⟩
        · show isKind k' = true
          rcases hk' with h | h <;> rw [h] <;> decide
        · show k' ≠ kZoned
          rcases hk' with h | h <;> rw [h] <;> decide
        · intro z; simp only [Prod.mk.injEq] at z; exact hne z.1
      · rw [decide_eq_false hk]
        exact iteF ⟨rfl, vs, rs, s3 _ _ hl, hrs.mono fun b xs e => s3 _ _ e, ho, by omega, s02.trans s3, nl⟩
    clear hl hrs ho hn s02 nl
    rintro σ' H3 ⟨rfl, vs, rs, hl, hrs, ho, hn, s03, nl⟩
    -- one letter more
    refine ⟨fun σ' H' => σ' = [some (.ref e), some (.ref du), some (.str t), some (.str (strOf k)), some (.int a), some (.int b), some (optZ z), some (.bl true), some (.ref l), none, none, none] ∧ RowsAt H (k, a, b, z) 4 l H', ?_, ?_⟩
    · cases z with
      | none => exact ⟨_, rfl, rfl, _, rfl, iteF (iteF ⟨rfl, vs, rs, hl, hrs, ho, by omega, s03, nl⟩)⟩
      | some y =>
        have ly := hz12 y rfl
        have ly' := len_strOf y
        refine ⟨_, rfl, rfl, _, rfl, iteT ⟨_, rfl, _, rfl, Evl.sz_of (by omega), _, _, rfl, rfl, _, rfl, ?_⟩⟩
        by_cases h12 : ((strOf y).length : Int) < 12
        · rw [decide_eq_true h12]
          have l1 : (Str.ofString "a").length = 1 := by decide +kernel
          refine iteT ⟨_, rfl, .inl ⟨rfl, _, SqL.of hl⟩, _, rfl, _, rfl, _, rfl, _, rfl, _, _, rfl, rfl, Evl.sz_of (by omega), (by show 4 ≤ sizeLine; decide), fun q nq => ?_⟩
          have ey : strOf y ++ Str.ofString "a" = strOf (y ++ [97]) := by
            refine ext_tl ?_
            rw [tl_append, tl_strOf, tl_strOf]
            have : tl (Str.ofString "a") = [97] := by decide +kernel
            rw [this]
          rw [ey] at *
          have s5 : Same H3 (upd H3 q (.tup [.str (strOf k), .int a, .int b, .str (strOf (y ++ [97]))])) := Same.new nq
          refine ⟨l, vs, _, rfl, rfl, s5 _ _ hl, Nat.lt_of_le_of_lt hn (by decide), rfl, ?_⟩
          have zn : k = kZoned ∧ isName y = true := by
            rcases wl.zone with ⟨h1, y', e, hn⟩ | ⟨_, h⟩
            · cases e; exact ⟨h1, hn⟩
            · cases h
          refine RowsAt.snoc (r := (k, a, b, some (y ++ [97]))) hl hrs ho hn s03 nl s5 upd_same ⟨⟨wl.kind, .inl ⟨zn.1, _, rfl, ?_⟩⟩, hab, ha, hb, ?_⟩
          · have := zn.2
            unfold isName at this ⊢
            simp only [Bool.and_eq_true, decide_eq_true_eq, List.all_append, List.length_append, List.length_cons, List.length_nil] at this ⊢
            exact ⟨⟨by omega, by omega⟩, this.2, by decide⟩
          · intro z
            simp only [Prod.mk.injEq, Option.some.injEq] at z
            have := congrArg List.length z.2.2.2
            simp at this
        · rw [decide_eq_false h12]
          exact iteF ⟨rfl, vs, rs, hl, hrs, ho, by omega, s03, nl⟩
    clear hl hrs ho hn s03 nl
    rintro σ' H4 ⟨rfl, vs, rs, hl, hrs, ho, hn, s04, nl⟩
    have hrl : rs.length ≤ 4 := by rw [← hrs.len]; exact hn
    -- the others
    refine ⟨fun σ' H' => ∃ lo es, σ' = [some (.ref e), some (.ref du), some (.str t), some (.str (strOf k)), some (.int a), some (.int b), some (optZ z), some (.bl true), some (.ref l), some (.ref lo), none, none] ∧ H' lo = some (.lst es) ∧ EntsIn CE H' es rs ∧ Same H H', ?_, ?_⟩
    · refine ⟨_, rfl, l, rfl, ⟨_, SqL.of hl⟩, fun D hD => ?_⟩
      refine lc_it (walk_list (xs := vs)) (fun i H' => Same H4 H' ∧ ∃ es, H' D = some (.lst es) ∧ EntsIn CE H' es (rs.take i)) ⟨Same.new hD, [], upd_same, .nil⟩ (fun i H' _ p => SqL.of (p.1 _ _ hl)) ?_ ?_
      · rintro i x Ha Hb hi ⟨sa, es, hes, hin⟩ ⟨rfl, hx⟩
        obtain ⟨q, r, rfl, hr, hq⟩ := hrs.get i x hx
        have ok := ho r (List.mem_of_getElem? hr)
        have hq' := sa _ _ hq
        refine ⟨rfl, ?_⟩
        unfold tYes
        dsimp only
        rw [if_pos rfl]
        have lk := kind_len ok.wl.kind
        have lz := zone_len ok.wl
        refine ⟨_, rfl, q, r.1, r.2.1, r.2.2.1, r.2.2.2, rfl, hq', by omega, Nat.lt_of_lt_of_le ok.la (by decide +kernel), Nat.lt_of_lt_of_le ok.lb (by decide +kernel), fun y ey => by have := lz y ey; omega, fun x dx' nx ndx ne' => ?_⟩
        have s1 : Same Hb (upd (upd Hb dx' (.own x)) x (.ins CE dx' [])) := (Same.new ndx).trans (Same.new (by rw [upd_ne ne'.symm]; exact nx))
        refine ⟨x, CE, dx', _, rfl, C.iE.cl, C.nE, upd_same, .inl ⟨_, rfl, ?_, ?_, ?_⟩⟩
        · have := canon_len ok.wl (n := 30) (by decide) ok.la ok.lb
          rw [len_strOf]; omega
        · intro k' a' b' z' hp' H' sb hx'
          rw [tl_strOf, parts_canon ok.wl ok.le ok.la ok.lb] at hp'
          cases hp'
          have s2 : Same Hb H' := fun b' o e => sb b' o (s1 _ _ e) (ne_of_none e nx)
          refine ⟨rfl, es, s2 _ _ hes, ?_, Same.mut (sa.trans s2) hD, es ++ [.ref x], upd_same, ?_⟩
          · rw [hin.len]
            exact Nat.lt_of_le_of_lt (List.length_take_le _ _) (Nat.lt_of_lt_of_le (show i < 100000 by omega) (by decide))
          · rw [take_snoc hr]
            have nD : ∀ b' D' dx fs, H' b' = some (.ins D' dx fs) → b' ≠ D := fun b' D' dx fs e => ne_of e (s2 _ _ hes) (by intro z; cases z)
            refine ((hin.mono fun b' D' dx fs e => s2 _ _ e).snoc ⟨dx', hx'⟩).mono fun b' D' dx fs e => ?_
            rw [upd_ne (nD _ _ _ _ e)]
            exact e
        · intro hp'
          rw [tl_strOf, parts_canon ok.wl ok.le ok.la ok.lb] at hp'
          cases hp'
      · rintro H' ⟨sa, es, hes, hin⟩
        have e1 : rs.take vs.length = rs := by rw [hrs.len]; exact List.take_length
        rw [e1] at hin
        exact ⟨D, es, rfl, hes, hin, s04.trans sa⟩
    clear hl hrs hn s04 nl
    rintro σ' H5 ⟨lo, es, rfl, hlo, hes, s05⟩
    have he5 := s05 _ _ he
    have hlen : es.length ≤ 1000000 := by
      rw [hes.len]; omega
    have wo : Well ((k, a, b, z) : Rw).1 ((k, a, b, z) : Rw).2.1 ((k, a, b, z) : Rw).2.2.1 ((k, a, b, z) : Rw).2.2.2 := wl
    refine ⟨_, rfl, lo, rfl, ⟨_, SqL.of hlo⟩, fun D1 hD1 => ?_⟩
    refine lc_map (walk_list (xs := es)) hlen (fun i => .bl false) hD1 (fun H' s' => SqL.of (s' _ _ hlo)) (fun i H x H' _ y => by rw [y.1]; exact Same.refl _) (fun x => rfl) ?_ ?_
    · rintro i x Ha Hb hi sa ⟨rfl, hx⟩ Hc Q' sc qc
      obtain ⟨q', r, rfl, hr, he'⟩ := hes.get i x hx
      have ok := ho r (List.mem_of_getElem? hr)
      have scc := sa.trans sc
      obtain ⟨dy, hy⟩ := he'.same scc
      have hee := scc _ _ he5
      have ne1 : ¬ tl t = tl (strOf (canonR r)) := fun z => neRow (a := 0) wo ok (by rw [tl_strOf, hct] at z; exact z.symm)
      have ne2 : ¬ tl (strOf (canonR r)) = tl t := fun z => ne1 z.symm
      refine ⟨_, rfl, _, rfl, e, dx, _, .ref CE, rfl, hee, (C.ic (.inl rfl)).ty hy, O.nEE, e, CE, _, t, k, a, b, z, rfl, .inl rfl, ⟨dx, hee⟩, .inl ⟨q', CE, _, _, _, _, _, rfl, .inl rfl, ⟨dy, hy⟩, _, rfl, ?_⟩⟩
      rw [decide_eq_false ne1]
      refine iteF ⟨_, rfl, _, rfl, q', dy, _, .ref CE, rfl, hy, (C.ic (.inl rfl)).ty hee, O.nEE, q', CE, _, _, _, _, _, _, rfl, .inl rfl, ⟨dy, hy⟩, .inl ⟨e, CE, t, k, a, b, z, rfl, .inl rfl, ⟨dx, hee⟩, ?_⟩⟩
      rw [decide_eq_false ne2]
      exact qc Hc (Same.refl _)
    · intro H6 s6 hD6
      have e1 : (List.range es.length).map (fun _ => V.bl false) = (es.map (fun _ => false)).map V.bl := by
        rw [List.map_map]
        exact range_mapX (fun _ => V.bl false) _ es (fun i x hx => rfl)
      rw [e1] at hD6
      refine ⟨D1, _, rfl, SqL.of hD6, _, rfl, ?_⟩
      rw [bls_any]
      have e2 : es.any (fun _ => false) = false := by
        rw [List.any_eq_false]; intro x _; exact Bool.false_ne_true
      rw [e2]
      refine iteF ?_
      have hlo6 := s6 _ _ hlo
      have he6 := s6 _ _ he5
      refine ⟨_, rfl, lo, rfl, ⟨_, SqL.of hlo6⟩, fun D2 hD2 => ?_⟩
      refine lc_map (walk_list (xs := es)) hlen (fun i => .bl true) hD2 (fun H' s' => SqL.of (s' _ _ hlo6)) (fun i H x H' _ y => by rw [y.1]; exact Same.refl _) (fun x => rfl) ?_ ?_
      · rintro i x Ha Hb hi sa ⟨rfl, hx⟩ Hc Q' sc qc
        obtain ⟨q', r, rfl, hr, he'⟩ := hes.get i x hx
        have ok := ho r (List.mem_of_getElem? hr)
        have scc := sa.trans sc
        obtain ⟨dy, hy⟩ := he'.same (s6.trans scc)
        have hee := scc _ _ he6
        have ne1 : ¬ tl t = tl (strOf (canonR r)) := fun z => neRow (a := 0) wo ok (by rw [tl_strOf, hct] at z; exact z.symm)
        refine ⟨_, rfl, _, rfl, e, dx, _, .ref CE, rfl, hee, (C.ic (.inl rfl)).ty hy, O.nEE, e, CE, _, t, k, a, b, z, rfl, .inl rfl, ⟨dx, hee⟩, .inl ⟨q', CE, _, _, _, _, _, rfl, .inl rfl, ⟨dy, hy⟩, _, rfl, ?_⟩⟩
        rw [decide_eq_false ne1]
        exact qc Hc (Same.refl _)
      · intro H7 s7 hD7
        have e3 : (List.range es.length).map (fun _ => V.bl true) = (es.map (fun _ => true)).map V.bl := by
          rw [List.map_map]
          exact range_mapX (fun _ => V.bl true) _ es (fun i x hx => rfl)
        rw [e3] at hD7
        refine ⟨D2, _, rfl, SqL.of hD7, _, rfl, ?_⟩
        rw [bls_all]
        have e4 : es.all (fun _ => true) = true := by
          rw [List.all_eq_true]; intro x _; rfl
        rw [e4]
        refine iteF ?_
        have s07 := (s05.trans s6).trans s7
        have he7 := s07 _ _ he
        have lt : t.length ≤ 90000 := by
          have := canon_len wl (n := 30) (by decide) ha hb
          rw [len_tl, hct]; omega
        -- the same text again
        have mk : ∀ {Hx : Hp} {x dx' : Addr} {QQ : VK} , Same H Hx → Hx x = none → Hx dx' = none → dx' ≠ x → (∀ H', Same Hx H' → EntAt CE H' x t k a b z → QQ .non H') →
            spEInit K CB (.ref x :: ([V.str t] ++ [])) (upd (upd Hx dx' (.own x)) x (.ins CE dx' [])) QQ E0 := by
          intro Hx x dx' QQ sx nx ndx ne' qq
          have s1 : Same Hx (upd (upd Hx dx' (.own x)) x (.ins CE dx' [])) := (Same.new ndx).trans (Same.new (by rw [upd_ne ne'.symm]; exact nx))
          refine ⟨x, CE, dx', _, rfl, C.iE.cl, C.nE, upd_same, .inl ⟨t, rfl, lt, fun k' a' b' z' hp' H' sb hx' => ?_, fun hp' => by rw [hpar] at hp'; cases hp'⟩⟩
          rw [hpar] at hp'
          cases hp'
          exact qq H' (fun b' o e => sb b' o (s1 _ _ e) (ne_of_none e nx)) ⟨dx', hx'⟩
        refine ⟨_, rfl, _, rfl, fun x dx' nx ndx ne' => mk s07 nx ndx ne' fun H8 s8 e8 => ⟨rfl, ?_⟩⟩
        obtain ⟨dy, hy⟩ := e8
        have he8 := s8 _ _ he7
        refine ⟨e, dx, _, .ref CE, rfl, he8, (C.ic (.inl rfl)).ty hy, O.nEE, e, CE, _, t, k, a, b, z, rfl, .inl rfl, ⟨dx, he8⟩, .inl ⟨x, CE, t, k, a, b, z, rfl, .inl rfl, ⟨dy, hy⟩, _, rfl, ?_⟩⟩
        rw [decide_eq_true rfl]
        refine iteT ⟨_, rfl, _, rfl, fun x2 dx2 nx2 ndx2 ne2 => mk (s07.trans s8) nx2 ndx2 ne2 fun H9 s9 e9 => ⟨rfl, ?_⟩⟩
        obtain ⟨dz, hz⟩ := e9
        have he9 := s9 _ _ he8
        refine ⟨e, dx, _, .ref CE, rfl, he9, (C.ic (.inl rfl)).ty hz, O.nEE, e, CE, _, t, k, a, b, z, rfl, .inl rfl, ⟨dx, he9⟩, .inl ⟨x2, CE, t, k, a, b, z, rfl, .inl rfl, ⟨dz, hz⟩, _, rfl, _, rfl, ?_⟩⟩
        rw [decide_eq_true rfl]
        exact q H9 ((s07.trans s8).trans s9)
end
end Toy

set_option Elab.async false
set_option linter.all false
set_option maxRecDepth 100000
set_option maxHeartbeats 4000000
namespace Toy
open PySem L2 TL EM
section
variable {P : Program} {w : World} {K : PySem.W.Frag} {mg : Str → Option Value} {base : Heap}
theorem parts_refused : parts (tl (Str.ofString "refused")) = none := by decide +kernel
theorem parts_day : parts (tl (Str.ofString "day 1 to 2")) = some (kDay, 1, 2, none) := by
  have e : tl (Str.ofString "day 1 to 2") = canon kDay 1 2 none := by decide +kernel
  rw [e]
  exact parts_canon ⟨by decide, .inr ⟨by decide, rfl⟩⟩ (by decide) (by decide) (by decide)
theorem parts_float : parts (tl (Str.ofString "float 1 to 2")) = some (kFloat, 1, 2, none) := by
  have e : tl (Str.ofString "float 1 to 2") = canon kFloat 1 2 none := by decide +kernel
  rw [e]
  exact parts_canon ⟨by decide, .inr ⟨by decide, rfl⟩⟩ (by decide) (by decide) (by decide)
def refD : List PyData := [.str "refused", .int 1, .bool true, .bool true]
def dueD (t : Str) : List PyData := match parts (tl t) with
  | none => refD
  | some (k, a, b, z) => [.str t, .str (strOf k), .int a, .int b, zD z, .bool true]
theorem dp_ref (K : PySem.W.Frag) (H : Hp) : DpAll K H refV refD := .cons (.str _) (.cons (.int _) (.cons (.bl _) (.cons (.bl _) .nil)))
theorem dp_due (K : PySem.W.Frag) (H : Hp) (t : Str) : DpAll K H (dueV t) (dueD t) := by
  unfold dueV dueD
  cases parts (tl t) with
  | none => exact dp_ref K H
  | some r =>
    obtain ⟨k, a, b, z⟩ := r
    exact .cons (.str _) (.cons (.str _) (.cons (.int _) (.cons (.int _) (.cons (dp_z _ _ _) (.cons (.bl _) .nil)))))
theorem lay_ref : PyData.canLay0 (.tuple refD) = true := by decide +kernel
theorem sh_ref : SeqAt.shaped (.tuple refD) = true := by decide +kernel
theorem lay_due (t : Str) : PyData.canLay0 (.tuple (dueD t)) = true := by
  unfold dueD
  split
  · exact lay_ref
  · rename_i k a b z h
    obtain ⟨hct, wl, hab, ha, hb⟩ := parts_back h
    have h1 : PySem.PyData.strOk t = true := by
      have := strOk_of (canon_small wl)
      rw [← hct, strOf_tl] at this
      exact this
    show (PySem.PyData.strOk t && (PySem.PyData.strOk (strOf k) && (true && (true && ((zD z).canLay0 && (true && true)))))) = true
    rw [h1, strOk_of (kind_small wl.kind), layZ wl]; rfl
theorem sh_due (t : Str) : SeqAt.shaped (.tuple (dueD t)) = true := by
  unfold SeqAt.shaped
  rw [lay_due]
  have : PyData.depth (.tuple (dueD t)) = 1 := by
    unfold dueD
    split
    · rfl
    · rename_i k a b z h
      show max 0 (max 0 (max 0 (max 0 (max (zD z).depth (max 0 0))))) + 1 = 1
      rw [dep_z]; rfl
  rw [this]; rfl
def spLaw (K : PySem.W.Frag) : Sp := fun vs H Q _ => ∃ (a : Addr) (ns : List Int), vs = [.ref a] ∧ SqL K H a (ns.map V.int) ∧ ∀ H', Q (.bl true) H'
abbrev s_law : Stmt := top 35
theorem sc_law : FnScope ["_law_script", "_law_pen_here", "_law_lap", "_law_text", "_law_some", "_law_due", "_law_odd"] ["_law_script"] (defScope s_law) := ⟨rfl, rfl, rfl, by decide +kernel, rfl, by decide +kernel, by decide +kernel⟩

theorem ok_law {f CE CT CB CW fA fS fQ fE : Addr} {fd fdQ fdE : FuncData} (F : Fun K "law" "law" s_law f fd) (T : TB mg) (C : EC K mg CE CT) (O : EO K CE CT fA fS fQ)
    (GQ : FnOk P w K mg base CX0 1 fQ fdQ ["self", "other"] (spEq K CE CT)) (bQ : Binds K fdQ ["self", "other"] [])
    (ME : Mk K CE fE) (GE : FnOk P w K mg base (L2.CX P w) 3 fE fdE ["self", "text"] (spEInit K CB)) (bE : Binds K fdE ["self", "text"] [])
    (cPen : Cal P w K mg base 1 "_law_pen" ["_law_script"] (spPen K)) (cRight : Cal P w K mg base 4 "_law_right_text" ["_law_pen_here"] (spDrawn 1000 80 100000000))
    (cBent : Cal P w K mg base 3 "_law_bent" ["_law_pen_here", "_law_text"] spBent) (cOdd : Cal P w K mg base 5 "_law_odd_text" ["_law_pen_here"] (spDrawn 3000 90 100000000))
    (cDue : Cal P w K mg base 2 "_law_entry_due" ["_law_text"] spDue) (cRead : Cal P w K mg base 5 "_law_read" ["_law_text"] (spRead K)) (cFar : Cal P w K mg base 3 "_law_far_number" ["_law_pen_here"] spFar)
    (cLater : Cal P w K mg base 4 "_law_later_right" ["_law_entry", "_law_due", "_law_many"] (spLater CE)) (cUnlike : Cal P w K mg base 5 "_law_unlike_right" ["_law_entry", "_law_due"] (spUnlike CE))
    (cPick : Cal P w K mg base 2 "_law_pick" ["_law_pen_here", "_law_some"] spPick) : FnOk P w K mg base CX0 6 f fd ["_law_script"] (spLaw K) := by
  refine F.ok sc_law (fun vs H Q E h => ?_) (fun cdv A outer s H vs Q E hr h => ?_)
  · obtain ⟨a, ns, rfl, _⟩ := h
    rfl
  · obtain ⟨a, ns, rfl, hS, q⟩ := h
    have hr5 : Room 5 _ := hr
    have hr4 : Room 4 _ := hr5.mono (by decide)
    have hr3 : Room 3 _ := hr5.mono (by decide)
    have hr2 : Room 2 _ := hr5.mono (by decide)
    have hr1 : Room 1 _ := hr5.mono (by decide)
    refine ⟨_, (pss_cons (ps_set (i := 1) sc_law.nd rfl (Or.inl rfl) (pe_cal cPen hr1 rfl (pa_cons (pv 0) pa_nil)))
      (pss_cons (ps_for PassesOwn.never rfl (pi_range1 rfl T.range (pa_cons pe_int pa_nil)) (pg_name (i := 2) sc_law.nd rfl (Or.inl rfl))
        (pss_cons (ps_set (i := 3) sc_law.nd rfl (Or.inl rfl) (pe_cal cRight hr4 rfl (pa_cons (pv 1) pa_nil)))
      (pss_one (ps_for PassesOwn.never rfl (pi_tup (pe_tup (pa_cons (pv 3) (pa_cons (pe_cal cBent hr3 rfl (pa_cons (pv 1) (pa_cons (pv 3) pa_nil))) (pa_cons (pe_cal cOdd hr5 rfl (pa_cons (pv 1) pa_nil)) pa_nil))))) (pg_name (i := 4) sc_law.nd rfl (Or.inl rfl))
        (pss_cons (ps_set (i := 5) sc_law.nd rfl (Or.inl rfl) (pe_cal cDue hr2 rfl (pa_cons (pv 4) pa_nil)))
      (pss_cons (ps_if (pt_cmpR (op_neD hr.units) (pe_cal cRead hr5 rfl (pa_cons (pv 4) pa_nil)) (pv 5) (nomark _))
        (pss_one (ps_ret pe_bl))
        pss_nil)
      (pss_cons (ps_if (PW.pt (pw_and (pt_cmpR op_ne (pe_ix ix_tup (pv 5) pe_int (fun _ _ => rfl)) pe_str (nomark _)) (pw_and1 (pt_not (pt_val (pe_cal cLater hr4 rfl (pa_cons (pe_make ME GE hr4 rfl C.gE bE .nil passE0 (pa_cons (pv 4) pa_nil)) (pa_cons (pv 5) (pa_cons (pe_cal cFar hr3 rfl (pa_cons (pv 1) pa_nil)) pa_nil)))))))))
        (pss_one (ps_ret pe_bl))
        pss_nil)
      (pss_one (ps_if (PW.pt (pw_and (pt_cmpR op_ne (pe_ix ix_tup (pv 5) pe_int (fun _ _ => rfl)) pe_str (nomark _)) (pw_and1 (pt_not (pt_val (pe_cal cUnlike hr5 rfl (pa_cons (pe_make ME GE hr4 rfl C.gE bE .nil passE0 (pa_cons (pv 4) pa_nil)) (pa_cons (pv 5) pa_nil))))))))
        (pss_one (ps_ret pe_bl))
        pss_nil)))))))))
      (pss_cons (ps_set (i := 6) sc_law.nd rfl (Or.inl rfl) (pe_cal cPick hr2 rfl (pa_cons (pv 1) (pa_cons (pe_lst (pa_cons pe_non (pa_cons pe_int (pa_cons pe_bl (pa_cons (pe_lst (pa_cons pe_str pa_nil)) (pa_cons (pe_tup (pa_cons pe_str pa_nil)) (pa_cons (pe_op op_pow pe_int pe_int) pa_nil))))))) pa_nil))))
      (pss_cons (ps_if (PW.pt (pw_or (pt_cmpR (op_neD hr.units) (pe_cal cRead hr5 rfl (pa_cons (pv 6) pa_nil)) (pe_tup (pa_cons pe_str (pa_cons pe_int (pa_cons pe_bl (pa_cons pe_bl pa_nil))))) (nomark _)) (pw_or1 (pt_cmpR (op_eqK (K := K) rfl O.qE O.fn GQ hr1 bQ pass0) (pe_make ME GE hr4 rfl C.gE bE .nil passE0 (pa_cons pe_str pa_nil)) pe_str (nomark _)))))
        (pss_one (ps_ret pe_bl))
        pss_nil)
      (pss_one (ps_ret (pe_and (pe_cmpR (op_eqK (K := K) rfl O.qE O.fn GQ hr1 bQ pass0) (pe_make ME GE hr4 rfl C.gE bE .nil passE0 (pa_cons pe_str pa_nil)) (pe_make ME GE hr4 rfl C.gE bE .nil passE0 (pa_cons pe_str pa_nil)) (nomark _)) (pe_one (pe_not (pe_cmpR (op_eqK (K := K) rfl O.qE O.fn GQ hr1 bQ pass0) (pe_make ME GE hr4 rfl C.gE bE .nil passE0 (pa_cons pe_str pa_nil)) (pe_make ME GE hr4 rfl C.gE bE .nil passE0 (pa_cons pe_str pa_nil)) (nomark _))))))))))), ?_⟩
    -- Entry(text), as it must be
    have mk : ∀ {t : Str} {k : List Nat} {a b : Int} {z : Option (List Nat)}, parts (tl t) = some (k, a, b, z) → t.length ≤ 90000 → ∀ {Hx : Hp} {x dx' : Addr} {QQ : VK}, Hx x = none → Hx dx' = none → dx' ≠ x → (∀ H', Same Hx H' → EntAt CE H' x t k a b z → QQ .non H') →
        spEInit K CB (.ref x :: ([V.str t] ++ [])) (upd (upd Hx dx' (.own x)) x (.ins CE dx' [])) QQ E0 := by
      intro t k a b z hpar lt Hx x dx' QQ nx ndx ne' qq
      have s1 : Same Hx (upd (upd Hx dx' (.own x)) x (.ins CE dx' [])) := (Same.new ndx).trans (Same.new (by rw [upd_ne ne'.symm]; exact nx))
      refine ⟨x, CE, dx', _, rfl, C.iE.cl, C.nE, upd_same, .inl ⟨t, rfl, lt, fun k' a' b' z' hp' H' sb hx' => ?_, fun hp' => by rw [hpar] at hp'; cases hp'⟩⟩
      rw [hpar] at hp'
      cases hp'
      exact qq H' (fun b' o e => sb b' o (s1 _ _ e) (ne_of_none e nx)) ⟨dx', hx'⟩
    refine ⟨_, rfl, a, ns, rfl, hS, fun p c H1 np s1 hP1 => ?_⟩
    refine ⟨_, rfl, by decide, by decide, ?_⟩
    refine for_it walk_range (fun i σ H' => ∃ o2 o3 o4 o5, σ = [some (.ref a), some (.ref p), o2, o3, o4, o5, none] ∧ PenAt H' p c (i * 300)) ⟨_, _, _, _, rfl, hP1⟩ (fun _ _ _ _ _ => trivial) ?_ ?_
    · rintro i x σ H2 H3 hi ⟨o2, o3, o4, o5, rfl, hP2⟩ ⟨rfl, rfl⟩
      have hi5 : i < 5 := hi
      refine ⟨_, rfl, p, c, i * 300, rfl, hP2, by omega, fun t0 H4 lt0 hP4 b4 => ?_⟩
      refine ⟨_, rfl, _, rfl, _, rfl, p, c, t0, i * 300 + 80, rfl, by omega, hP4, by omega, fun t1 H5 lt1 hP5 b5 => ?_⟩
      refine ⟨_, rfl, p, c, i * 300 + 80 + 5, rfl, hP5, by omega, fun t2 H6 lt2 hP6 b6 => ?_⟩
      refine ⟨(by show 3 ≤ sizeLine; decide), fun tp ntp => ⟨tp, rfl, ⟨_, SqT.of upd_same⟩, ?_⟩⟩
      have hP7 := hP6.same (Same.new (o := .tup [V.str t0, V.str t1, V.str t2]) ntp)
      have htp : (upd H6 tp (.tup [V.str t0, V.str t1, V.str t2])) tp = some (.tup [V.str t0, V.str t1, V.str t2]) := upd_same
      clear hP2 hP4 hP5 hP6 b4 b5 b6 ntp
      generalize upd H6 tp (.tup [V.str t0, V.str t1, V.str t2]) = H7 at hP7 htp ⊢
      have big : ∀ (j : Nat) (v : V), ([V.str t0, V.str t1, V.str t2] : List V)[j]? = some v → ∃ t : Str, v = V.str t ∧ t.length ≤ 90000 := by
        intro j v h
        match j, h with
        | 0, h => cases h; exact ⟨_, rfl, by omega⟩
        | 1, h => cases h; exact ⟨_, rfl, by omega⟩
        | 2, h => cases h; exact ⟨_, rfl, by omega⟩
        | j + 3, h => cases h
      refine for_it (walk_tup (xs := [V.str t0, V.str t1, V.str t2])) (fun j σ H' => ∃ o4 o5, σ = [some (.ref a), some (.ref p), some (.int (0 + i)), some (.str t0), o4, o5, none] ∧ PenAt H' p c (i * 300 + 200 + j * 25) ∧ H' tp = some (.tup [V.str t0, V.str t1, V.str t2])) ⟨_, _, rfl, hP7.mono (by omega), htp⟩ (fun _ _ _ _ h => by obtain ⟨_, _, _, _, h⟩ := h; exact SqT.of h) ?_ ?_
      · clear hP7 htp
        rintro j v σ Ha Hb hj ⟨o4, o5, rfl, hPa, htp⟩ ⟨rfl, hv⟩
        have hj3 : j < 3 := hj
        obtain ⟨t, rfl, lt⟩ := big j v hv
        refine ⟨_, rfl, t, rfl, lt, fun du Hc ndu sc hdu => ?_⟩
        refine ⟨_, rfl, _, rfl, .inl ⟨t, rfl, lt, fun rd Hd nrd sd hrd => ?_⟩⟩
        have hdu := sd _ _ hdu
        refine ⟨_, rfl, _, _, .tup (SqT.of hrd) (dp_due _ _ t), .tup (SqT.of hdu) (dp_due _ _ t), sh_due t, sh_due t, _, rfl, ?_⟩
        rw [PySem.SeqAt.eqv_refl _ (lay_due t)]
        refine iteF ?_
        have sad := sc.trans sd
        have hPd := hPa.same sad
        have htp := sad _ _ htp
        clear sc sd ndu nrd hrd hPa sad
        cases hpar : parts (tl t) with
        | none =>
          have hdu : Hd du = some (.tup refV) := by rw [hdu]; unfold dueV; rw [hpar]
          refine ⟨_, rfl, du, _, _, _, rfl, rfl, SqT.of hdu, at_of (j := 0) (by rfl) rfl, rfl, _, rfl, ?_⟩
          rw [neSelf]
          refine iteF (iteF ?_)
          refine ⟨_, rfl, du, _, _, _, rfl, rfl, SqT.of hdu, at_of (j := 0) (by rfl) rfl, rfl, _, rfl, ?_⟩
          rw [neSelf]
          exact iteF (iteF ⟨_, _, rfl, hPd.mono (by omega), htp⟩)
        | some r =>
          obtain ⟨k, ka, kb, kz⟩ := r
          rw [dueV_of hpar] at hdu
          have nref : (!decide (V.str t = V.str (Str.ofString "refused"))) = true := by
            rw [decide_eq_false]
            · rfl
            · intro e
              have e := str_eq.mp e
              rw [e, parts_refused] at hpar
              cases hpar
          refine ⟨_, rfl, du, _, _, _, rfl, rfl, SqT.of hdu, at_of (j := 0) (by rfl) rfl, rfl, _, rfl, ?_⟩
          rw [nref]
          refine iteT ⟨_, rfl, fun x dx' nx ndx ne' => mk hpar lt nx ndx ne' fun He se ee => ⟨rfl, ?_⟩⟩
          have hPe := hPd.same se
          have htp := se _ _ htp
          have hdu := se _ _ hdu
          refine ⟨_, rfl, _, rfl, p, c, _, rfl, hPe, by omega, fun n Hf hn hPf bf => ?_⟩
          have npt : ∀ {q : Addr} {xs : List V}, He q = some (.tup xs) → q ≠ p := fun h => by
            obtain ⟨_, _, _, h1, _⟩ := hPe
            exact ne_of h h1 (by intro z; cases z)
          have npx : x ≠ p := by
            obtain ⟨_, _, _, h1, _⟩ := hPe
            obtain ⟨_, h2⟩ := ee
            exact ne_of h2 h1 (by intro z; cases z)
          have hduf := bf _ _ hdu (npt hdu)
          have htpf := bf _ _ htp (npt htp)
          obtain ⟨dx2, ee⟩ := ee
          have eef : EntAt CE Hf x t k ka kb kz := ⟨dx2, bf _ _ ee npx⟩
          refine ⟨x, du, n, t, k, ka, kb, kz, rfl, eef, hduf, hpar, hn, fun Hg sg => ⟨_, rfl, iteF ?_⟩⟩
          have hPg := hPf.same sg
          have hdug := sg _ _ hduf
          have htpg := sg _ _ htpf
          refine ⟨_, rfl, du, _, _, _, rfl, rfl, SqT.of hdug, at_of (j := 0) (by rfl) rfl, rfl, _, rfl, ?_⟩
          rw [nref]
          refine iteT ⟨_, rfl, fun x2 dx2' nx2 ndx2 ne2 => mk hpar lt nx2 ndx2 ne2 fun Hh sh eh => ⟨rfl, ?_⟩⟩
          refine ⟨_, rfl, x2, du, t, k, ka, kb, kz, rfl, eh, sh _ _ hdug, hpar, fun Hi si => ⟨_, rfl, iteF ?_⟩⟩
          exact ⟨_, _, rfl, (((hPg.same sh).same si).mono (by omega)), si _ _ (sh _ _ htpg)⟩
      · rintro σ H' ⟨o4, o5, rfl, hP', _⟩
        exact ⟨_, _, _, _, rfl, hP'.mono (show i * 300 + 200 + 3 * 25 ≤ (i + 1) * 300 by omega)⟩
    · rintro σ H2 ⟨o2, o3, o4, o5, rfl, hP2⟩
      have c40 : CPow 10 40 := ⟨by decide, by decide, by decide⟩
      refine ⟨_, rfl, (by show 1 ≤ sizeLine; decide), fun q1 n1 => ⟨(by show 1 ≤ sizeLine; decide), fun q2 n2 => ⟨_, _, rfl, rfl, c40, (by show 6 ≤ sizeLine; decide), fun l nl => ?_⟩⟩⟩
      have s1' : Same H2 (upd H2 q1 (.lst [.str "day 1 to 2"])) := Same.new n1
      have hq1 : (upd H2 q1 (.lst [.str "day 1 to 2"])) q1 = some (.lst [.str "day 1 to 2"]) := upd_same
      have s2' : Same (upd H2 q1 (.lst [.str "day 1 to 2"])) (upd (upd H2 q1 (.lst [.str "day 1 to 2"])) q2 (.tup [.str "day 1 to 2"])) := Same.new n2
      have hq2 : (upd (upd H2 q1 (.lst [.str "day 1 to 2"])) q2 (.tup [.str "day 1 to 2"])) q2 = some (.tup [.str "day 1 to 2"]) := upd_same
      have hq1 := s2' _ _ hq1
      have s12 := s1'.trans s2'
      change (upd (upd H2 q1 (.lst [.str "day 1 to 2"])) q2 (.tup [.str "day 1 to 2"])) l = none at nl
      generalize upd (upd H2 q1 (.lst [.str "day 1 to 2"])) q2 (.tup [.str "day 1 to 2"]) = H3 at s12 hq1 hq2 nl ⊢
      have s3 := s12.trans (Same.new (o := .lst [.non, .int 5, .bl true, .ref q1, .ref q2, .int (10 ^ (40 : Int).toNat)]) nl)
      have hq1 := (Same.new (o := .lst [.non, .int 5, .bl true, .ref q1, .ref q2, .int (10 ^ (40 : Int).toNat)]) nl) _ _ hq1
      have hq2 := (Same.new (o := .lst [.non, .int 5, .bl true, .ref q1, .ref q2, .int (10 ^ (40 : Int).toNat)]) nl) _ _ hq2
      have hP3 := hP2.same s3
      refine ⟨p, c, _, 5 * 300, rfl, hP3, by omega, .inl ⟨l, _, rfl, upd_same, by show 0 < 6; decide, by show 6 < _; decide, fun i x H4 hx hP4 b4 => ?_⟩⟩
      have np1 : q1 ≠ p := hP3.nel hq1
      have np2 : q2 ≠ p := by
        obtain ⟨_, _, _, h1, _⟩ := hP3
        exact ne_of hq2 h1 (by intro z; cases z)
      have hq1 := b4 _ _ hq1 np1
      have hq2 := b4 _ _ hq2 np2
      have odd : ∃ ty, TyX K H4 x ty ∧ PySem.W.kitOne K ty (.type "str") = some false ∧ ∀ H', Same H4 H' → TyX K H' x ty := by
        match i, hx with
        | 0, hx => cases hx; exact ⟨_, .base .non, kit_ty (by decide +kernel), fun _ _ => .base .non⟩
        | 1, hx => cases hx; exact ⟨_, .base (.int _), kit_ty (by decide +kernel), fun _ _ => .base (.int _)⟩
        | 2, hx => cases hx; exact ⟨_, .base (.bl _), kit_ty (by decide +kernel), fun _ _ => .base (.bl _)⟩
        | 3, hx => cases hx; exact ⟨_, .base (.lst hq1), kit_ty (by decide +kernel), fun H' s' => .base (.lst (s' _ _ hq1))⟩
        | 4, hx => cases hx; exact ⟨_, .base (.tup hq2), kit_ty (by decide +kernel), fun H' s' => .base (.tup (s' _ _ hq2))⟩
        | 5, hx => cases hx; exact ⟨_, .base (.int _), kit_ty (by decide +kernel), fun _ _ => .base (.int _)⟩
        | i + 6, hx => cases hx
      obtain ⟨ty, t1, t2, t3⟩ := odd
      refine ⟨_, rfl, _, rfl, .inr ⟨ty, t1, t2, t3, fun rd H5 nrd s5 hrd => ?_⟩⟩
      refine ⟨(by show 4 ≤ sizeLine; decide), fun rf nrf => ?_⟩
      have s6 : Same H5 (upd H5 rf (.tup refV)) := Same.new nrf
      have hrd := s6 _ _ hrd
      refine ⟨_, _, .tup (SqT.of hrd) (dp_ref _ _), .tup (SqT.of (xs := refV) upd_same) (dp_ref _ _), sh_ref, sh_ref, _, rfl, ?_⟩
      rw [PySem.SeqAt.eqv_refl _ lay_ref]
      refine iteF ?_
      have ld : (Str.ofString "day 1 to 2").length ≤ 90000 := by decide +kernel
      have lf : (Str.ofString "float 1 to 2").length ≤ 90000 := by decide +kernel
      refine fun x1 d1 nx1 nd1 ne1 => mk parts_day ld nx1 nd1 ne1 fun H7 s7 e7 => ⟨rfl, ?_⟩
      obtain ⟨g1, e7⟩ := e7
      refine ⟨x1, g1, _, .type "str", rfl, e7, .base (.str _), O.nES, x1, CE, _, _, _, _, _, _, rfl, .inl rfl, ⟨g1, e7⟩, .inr ⟨.type "str", .base (.str _), O.kS, _, rfl, iteF ?_⟩⟩
      refine fun x2 d2 nx2 nd2 ne2 => mk parts_day ld nx2 nd2 ne2 fun H8 s8 e8 => ⟨rfl, ?_⟩
      refine fun x3 d3 nx3 nd3 ne3 => mk parts_day ld nx3 nd3 ne3 fun H9 s9 e9 => ⟨rfl, ?_⟩
      obtain ⟨g2, e8⟩ := e8.same s9
      obtain ⟨g3, e9⟩ := e9
      refine ⟨x2, g2, _, .ref CE, rfl, e8, (C.ic (.inl rfl)).ty e9, O.nEE, x2, CE, _, _, _, _, _, _, rfl, .inl rfl, ⟨g2, e8⟩, .inl ⟨x3, CE, _, _, _, _, _, rfl, .inl rfl, ⟨g3, e9⟩, _, rfl, ?_⟩⟩
      rw [decide_eq_true rfl]
      refine iteT fun x4 d4 nx4 nd4 ne4 => mk parts_day ld nx4 nd4 ne4 fun Ha sa ea => ⟨rfl, ?_⟩
      refine fun x5 d5 nx5 nd5 ne5 => mk parts_float lf nx5 nd5 ne5 fun Hb sb eb => ⟨rfl, ?_⟩
      obtain ⟨g4, ea⟩ := ea.same sb
      obtain ⟨g5, eb⟩ := eb
      refine ⟨x4, g4, _, .ref CE, rfl, ea, (C.ic (.inl rfl)).ty eb, O.nEE, x4, CE, _, _, _, _, _, _, rfl, .inl rfl, ⟨g4, ea⟩, .inl ⟨x5, CE, _, _, _, _, _, rfl, .inl rfl, ⟨g5, eb⟩, _, rfl, ?_⟩⟩
      have nd : ¬ tl (Str.ofString "day 1 to 2") = tl (Str.ofString "float 1 to 2") := by decide +kernel
      rw [decide_eq_false nd]
      exact q _
end
end Toy

set_option Elab.async false
set_option linter.all false
set_option maxRecDepth 100000
set_option maxHeartbeats 4000000
namespace Toy
open PySem L2 TL EM
/-- a def as the top has written it -/
def FunK (K : PySem.W.Frag) (x qual : Str) (st : Stmt) (f : Addr) : Prop := ∃ (oc : Value) (od : Option Addr) (kV doc pm : Value) (an : Option Addr) (cdv ct : Value) (osl : Array (Option Value)),
  K.lookup f = some ⟨oc, od, .func (PySem.W.fnOf x qual (defArgs st) (defBody st) (defScope st) .none kV doc pm an cdv ct), osl⟩ ∧ PySem.W.codeIn K cdv qual = true ∧ PySem.W.keepIn K (.ref f) = true
structure NoneK (K : PySem.W.Frag) : Prop where
  nint : PySem.W.nsIn K mainGlobals "int" = some none
  nlen : PySem.W.nsIn K mainGlobals "len" = some none
  nall : PySem.W.nsIn K mainGlobals "all" = some none
  nisinstance : PySem.W.nsIn K mainGlobals "isinstance" = some none
  nstr : PySem.W.nsIn K mainGlobals "str" = some none
  nlist : PySem.W.nsIn K mainGlobals "list" = some none
  nrange : PySem.W.nsIn K mainGlobals "range" = some none
  nany : PySem.W.nsIn K mainGlobals "any" = some none
  nabs : PySem.W.nsIn K mainGlobals "abs" = some none
  nsorted : PySem.W.nsIn K mainGlobals "sorted" = some none
  nbool : PySem.W.nsIn K mainGlobals "bool" = some none
  nValueError : PySem.W.nsIn K mainGlobals "ValueError" = some none
  nsuper : PySem.W.nsIn K mainGlobals "super" = some none
theorem funk {K : PySem.W.Frag} {x qual : Str} {st : Stmt} {f : Addr} {oc : Value} {od : Option Addr} {kV doc pm : Value} {an : Option Addr} {cdv ct : Value} {osl : Array (Option Value)}
    (l : K.lookup f = some ⟨oc, od, .func (PySem.W.fnOf x qual (defArgs st) (defBody st) (defScope st) .none kV doc pm an cdv ct), osl⟩) (c : PySem.W.codeIn K cdv qual = true) (k : PySem.W.keepIn K (.ref f) = true) : FunK K x qual st f := ⟨_, _, _, _, _, _, _, _, _, l, c, k⟩
theorem bink {K : PySem.W.Frag} {C f : Addr} {op : Operator} {fo ro : Option Value} (a : PySem.W.selfFirst K C = true) (b : PySem.W.findIn K (.ref C) (PySem.dunder op.info.2) = some (some (.ref f))) (c : PySem.W.isFn K (.ref f) = true)
    (d : PySem.W.findIn K (.ref C) (dunderR op.info.2) = some none) (e : PySem.W.findIn K (.type "int") (PySem.dunder op.info.2) = some fo) (g : PySem.W.findIn K (.type "int") (dunderR op.info.2) = some ro) (u : PySem.W.subIn K (.type "int") (.ref C) = some false) : BinI K C f op := ⟨a, b, c, d, ⟨_, e⟩, ⟨_, g⟩, u⟩
theorem supk {K : PySem.W.Frag} {mg : Str → Option Value} {P : Program} {C fI : Addr} {nm q : Str} {N : Addr} {bs bm : List Value} {sn : List Str} {sub : List Value} {ab : Bool} {col : Option Bool} {dd : Option Addr} {m0 m1 m2 m3 m5 : Option Value}
    {oc doc pm ct ccl cl : Value} {od an cdd cld : Option Addr} {qual : Str} {ar : Arguments} {bd : List Stmt} {sc : Scope} {cda cc : Addr} {osl ccs csl : Array (Option Value)} {vs : Array Value} {file : Str} {tf : Tok}
    (x1 : K.lookup C = some (PySem.excClassObj nm q C N bs bm true sn sub ab col dd m0 m1 m2 m3 m5 "ValueError.__new__")) (x2 : PySem.HandSPX.refsVE bm = true) (x3 : PySem.W.findIn K (.ref C) "__setattr__" = some (some (.builtin "object.__setattr__"))) (x4 : PySem.W.findIn K (.ref C) "line" = some none)
    (x5 : PySem.W.findIn K (.ref C) "__init__" = some (some (.ref fI))) (x6 : PySem.W.typeIn K (.ref fI) = some (.type "function")) (x7 : PySem.W.keepIn K (.ref C) = true) (x8 : PySem.W.subIn K (.ref C) (.type "BaseException") = some true) (x9 : PySem.W.subIn K (.ref C) (.type "ValueError") = some true)
    (xa : PySem.W.typeIn K (.ref C) = some (.type "type")) (xb : PySem.W.ks_superIn K C C "__init__" = some (some (.builtin "ValueError.__init__"))) (xc : PySem.W.nsIn K cStatics "thirdparty.any" = some none) (xd : PySem.W.mroIn K C (.ref C) = some true) (hs : mg "super" = none)
    (xe : (P.main.scope.names.lookup ("super" : Str)).isSome = false) (y1 : K.lookup fI = some ⟨oc, od, .func (PySem.W.ksFn "__init__" qual ar bd sc .none .none doc pm an (.ref cda) ct cc), osl⟩) (y2 : PySem.W.codeIn K (.ref cda) qual = true) (y3 : PySem.SupX.IsI "line" ar bd sc)
    (y4 : K.lookup cda = some ⟨ccl, cdd, .fields vs, ccs⟩) (y5 : vs[2]? = some (.str file tf)) (y6 : ((P.main.file : Str) == file) = true) (y7 : K.lookup cc = some ⟨cl, cld, .cell (some (.ref C)), csl⟩) : PySem.SupX.SupTxt K mg P "line" C fI :=
  { cls := ⟨_, _, _, _, _, _, _, _, _, _, _, _, _, _, _, x1, x2⟩, sa := x3, noN := x4, iC := x5, tC := x6, kC := x7, exC := x8, veC := x9, tyC := xa, sup := xb, opq := xc, own := xd, nos := hs, top := xe,
    fn := ⟨_, _, _, _, _, _, _, _, _, _, _, _, _, _, _, _, _, _, _, _, _, _, y1, y2, y3, y4, y5, y6, y7⟩, nsf := by decide, ndb := by decide, nsp := by decide, ncl := by decide }
theorem kitR {K : PySem.W.Frag} {t : Value} {C : Addr} {b : Bool} (h1 : PySem.W.isClsIn K C = true) (h2 : PySem.W.typeIn K (.ref C) = some (.type "type")) (h3 : (t == .ref C) = false) (h4 : PySem.W.subIn K t (.ref C) = some b) : PySem.W.kitOne K t (.ref C) = some b := by
  unfold PySem.W.isClsIn at h1
  unfold PySem.W.kitOne PySem.W.kitCls
  simp only [h3, h1, h2, h4, Bool.false_eq_true, if_false, beq_self_eq_true, Bool.and_self, if_true]
theorem kitT {K : PySem.W.Frag} {t : Value} {T : String} {b : Bool} (h1 : PySem.W.kitMeta T = true) (h3 : (t == .type T) = false) (h4 : PySem.W.subIn K t (.type T) = some b) : PySem.W.kitOne K t (.type T) = some b := by
  unfold PySem.W.kitOne PySem.W.kitCls
  simp only [h3, h1, h4, Bool.false_eq_true, if_false, if_true]
theorem kinds_at {K : PySem.W.Frag} {a : Addr} {t1 t2 t3 t4 : Tok} {od : Option Addr} {n : Nat} {sl : Array (Option Value)} (h : K.lookup a = some ⟨.type "tuple", od, .seq #[.str "day" t1, .str "float" t2, .str "zoned" t3, .str "fixed" t4] n, sl⟩) :
    ∀ H, SqT K H a [.str "day", .str "float", .str "zoned", .str "fixed"] := fun H => .inr ⟨_, _, n, h, rfl, rfl, by show 4 ≤ sizeLine; decide, .cons ⟨_, rfl⟩ (.cons ⟨_, rfl⟩ (.cons ⟨_, rfl⟩ (.cons ⟨_, rfl⟩ .nil)))⟩
theorem all_mk {l : PySem.W.OpenLaw} {w : World} {K : PySem.W.Frag} {h : Heap} {mg : Str → Option Value} {fa f_law CE CT CB CW fB fE fQ fA fS fT aK f_number_of f_is_name f_parts_of f__law_draw f__law_pen f__law_pick f__law_big f__law_far_number f__law_entry_text f__law_number f__law_is_name f__law_whole f__law_any_name f__law_bent f__law_right_text f__law_odd_number f__law_odd_text f__law_entry_due f__law_read f__law_later_right f__law_unlike_right : Addr} {t1 t2 t3 t4 t5 k1 k2 k3 k4 : Tok} {kod : Option Addr} {kn : Nat} {ksl : Array (Option Value)}
    (X : K.In h) (G : h.Ns mainGlobals mg) (hfa : mg "law" = some (.ref fa))
    (pE : PySem.W.nsIn K mainGlobals "Entry" = some (some (.ref CE)))
    (pT : PySem.W.nsIn K mainGlobals "ToldEntry" = some (some (.ref CT)))
    (pB : PySem.W.nsIn K mainGlobals "BadText" = some (some (.ref CB)))
    (pW : PySem.W.nsIn K mainGlobals "WhosedayError" = some (some (.ref CW)))
    (gl : PySem.W.nsIn K mainGlobals "law" = some (some (.ref f_law)))
    (g_number_of : PySem.W.nsIn K mainGlobals "number_of" = some (some (.ref f_number_of)))
    (g_is_name : PySem.W.nsIn K mainGlobals "is_name" = some (some (.ref f_is_name)))
    (g_parts_of : PySem.W.nsIn K mainGlobals "parts_of" = some (some (.ref f_parts_of)))
    (g__law_draw : PySem.W.nsIn K mainGlobals "_law_draw" = some (some (.ref f__law_draw)))
    (g__law_pen : PySem.W.nsIn K mainGlobals "_law_pen" = some (some (.ref f__law_pen)))
    (g__law_pick : PySem.W.nsIn K mainGlobals "_law_pick" = some (some (.ref f__law_pick)))
    (g__law_big : PySem.W.nsIn K mainGlobals "_law_big" = some (some (.ref f__law_big)))
    (g__law_far_number : PySem.W.nsIn K mainGlobals "_law_far_number" = some (some (.ref f__law_far_number)))
    (g__law_entry_text : PySem.W.nsIn K mainGlobals "_law_entry_text" = some (some (.ref f__law_entry_text)))
    (g__law_number : PySem.W.nsIn K mainGlobals "_law_number" = some (some (.ref f__law_number)))
    (g__law_is_name : PySem.W.nsIn K mainGlobals "_law_is_name" = some (some (.ref f__law_is_name)))
    (g__law_whole : PySem.W.nsIn K mainGlobals "_law_whole" = some (some (.ref f__law_whole)))
    (g__law_any_name : PySem.W.nsIn K mainGlobals "_law_any_name" = some (some (.ref f__law_any_name)))
    (g__law_bent : PySem.W.nsIn K mainGlobals "_law_bent" = some (some (.ref f__law_bent)))
    (g__law_right_text : PySem.W.nsIn K mainGlobals "_law_right_text" = some (some (.ref f__law_right_text)))
    (g__law_odd_number : PySem.W.nsIn K mainGlobals "_law_odd_number" = some (some (.ref f__law_odd_number)))
    (g__law_odd_text : PySem.W.nsIn K mainGlobals "_law_odd_text" = some (some (.ref f__law_odd_text)))
    (g__law_entry_due : PySem.W.nsIn K mainGlobals "_law_entry_due" = some (some (.ref f__law_entry_due)))
    (g__law_read : PySem.W.nsIn K mainGlobals "_law_read" = some (some (.ref f__law_read)))
    (g__law_later_right : PySem.W.nsIn K mainGlobals "_law_later_right" = some (some (.ref f__law_later_right)))
    (g__law_unlike_right : PySem.W.nsIn K mainGlobals "_law_unlike_right" = some (some (.ref f__law_unlike_right)))
    (mE : PySem.W.findIn K (.ref CE) "__init__" = some (some (.ref fE)))
    (mQ : PySem.W.findIn K (.ref CE) "__eq__" = some (some (.ref fQ)))
    (mA : PySem.W.findIn K (.ref CE) "__add__" = some (some (.ref fA)))
    (mS : PySem.W.findIn K (.ref CE) "__sub__" = some (some (.ref fS)))
    (mT : PySem.W.findIn K (.ref CT) "__init__" = some (some (.ref fT)))
    (mB : PySem.W.findIn K (.ref CB) "__init__" = some (some (.ref fB)))
    (cD : PySem.W.nsIn K mainGlobals "DIGITS" = some (some (.str "0123456789" t1)))
    (cM : PySem.W.nsIn K mainGlobals "MOST_DIGITS" = some (some (.int 30 t2)))
    (cL : PySem.W.nsIn K mainGlobals "LETTERS" = some (some (.str "abcdefghijklmnopqrstuvwxyz" t3)))
    (cN : PySem.W.nsIn K mainGlobals "LONGEST_NAME" = some (some (.int 12 t4)))
    (cI : PySem.W.nsIn K mainGlobals "MINUTES" = some (some (.int 1440 t5)))
    (cK : PySem.W.nsIn K mainGlobals "KINDS" = some (some (.ref aK)))
    (oK : K.lookup aK = some ⟨.type "tuple", kod, .seq #[.str "day" k1, .str "float" k2, .str "zoned" k3, .str "fixed" k4] kn, ksl⟩)
    (N : NoneK K)
    (ul : FunK K "law" "law" s_law f_law)
    (u_number_of : FunK K "number_of" "number_of" s_number_of f_number_of)
    (u_is_name : FunK K "is_name" "is_name" s_is_name f_is_name)
    (u_parts_of : FunK K "parts_of" "parts_of" s_parts_of f_parts_of)
    (u__law_draw : FunK K "_law_draw" "_law_draw" s__law_draw f__law_draw)
    (u__law_pen : FunK K "_law_pen" "_law_pen" s__law_pen f__law_pen)
    (u__law_pick : FunK K "_law_pick" "_law_pick" s__law_pick f__law_pick)
    (u__law_big : FunK K "_law_big" "_law_big" s__law_big f__law_big)
    (u__law_far_number : FunK K "_law_far_number" "_law_far_number" s__law_far_number f__law_far_number)
    (u__law_entry_text : FunK K "_law_entry_text" "_law_entry_text" s__law_entry_text f__law_entry_text)
    (u__law_number : FunK K "_law_number" "_law_number" s__law_number f__law_number)
    (u__law_is_name : FunK K "_law_is_name" "_law_is_name" s__law_is_name f__law_is_name)
    (u__law_whole : FunK K "_law_whole" "_law_whole" s__law_whole f__law_whole)
    (u__law_any_name : FunK K "_law_any_name" "_law_any_name" s__law_any_name f__law_any_name)
    (u__law_bent : FunK K "_law_bent" "_law_bent" s__law_bent f__law_bent)
    (u__law_right_text : FunK K "_law_right_text" "_law_right_text" s__law_right_text f__law_right_text)
    (u__law_odd_number : FunK K "_law_odd_number" "_law_odd_number" s__law_odd_number f__law_odd_number)
    (u__law_odd_text : FunK K "_law_odd_text" "_law_odd_text" s__law_odd_text f__law_odd_text)
    (u__law_entry_due : FunK K "_law_entry_due" "_law_entry_due" s__law_entry_due f__law_entry_due)
    (u__law_read : FunK K "_law_read" "_law_read" s__law_read f__law_read)
    (u__law_later_right : FunK K "_law_later_right" "_law_later_right" s__law_later_right f__law_later_right)
    (u__law_unlike_right : FunK K "_law_unlike_right" "_law_unlike_right" s__law_unlike_right f__law_unlike_right)
    (uE : FunK K "__init__" "Entry.__init__" s_Entry___init__ fE)
    (uQ : FunK K "__eq__" "Entry.__eq__" s_Entry___eq__ fQ)
    (uA : FunK K "__add__" "Entry.__add__" s_Entry___add__ fA)
    (uS : FunK K "__sub__" "Entry.__sub__" s_Entry___sub__ fS)
    (uT : FunK K "__init__" "ToldEntry.__init__" s_ToldEntry___init__ fT)
    (iE : PySem.W.makesIn K CE = true ∧ PySem.W.isFn K (.ref fE) = true ∧ PySem.W.keepIn K (.ref CE) = true)
    (iT : PySem.W.makesIn K CT = true ∧ PySem.W.isFn K (.ref fT) = true ∧ PySem.W.keepIn K (.ref CT) = true)
    (kE : IsC K CE)
    (kT : IsC K CT)
    (nE : NoE K CE)
    (nT : NoE K CT)
    (kTE : PySem.W.kitOne K (.ref CT) (.ref CE) = some true)
    (O : EO K CE CT fA fS fQ)
    (xf : XfC K CB)
    (xn : PySem.W.findIn K (.ref CB) "line" = some none)
    (xi : ExiC K CB)
    (e3 : PySem.W.typeIn K (.ref CB) = some (.type "type"))
    (e4 : PySem.W.subIn K (.ref CB) (.ref CB) = some true)
    (kW : PySem.W.kitOne K (.ref CB) (.ref CW) = some true)
    (kV : PySem.W.kitOne K (.ref CB) (.type "ValueError") = some true)
    (TS0 : mg "super" = none → PySem.SupX.SupTxt K mg l.prog "line" CB fB)
    : ∃ fd : FuncData, (∀ (s : Shared) (v : Value), BindsTo s fd ⟨[v], []⟩ [("_law_script", v)]) ∧ ∀ base : Heap, K.In base → base.Ns mainGlobals mg → FnOk l.prog w K mg base CX0 6 fa fd ["_law_script"] (spLaw K) := by
  have e := hfa.symm.trans (PySem.W.mg_of X G gl)
  cases e
  have T : TB mg := ⟨PySem.W.mg_none_of X G N.nint, PySem.W.mg_none_of X G N.nlen, PySem.W.mg_none_of X G N.nall, PySem.W.mg_none_of X G N.nisinstance, PySem.W.mg_none_of X G N.nstr, PySem.W.mg_none_of X G N.nlist, PySem.W.mg_none_of X G N.nrange, PySem.W.mg_none_of X G N.nany, PySem.W.mg_none_of X G N.nabs, PySem.W.mg_none_of X G N.nsorted, PySem.W.mg_none_of X G N.nbool⟩
  have TS := TS0 (PySem.W.mg_none_of X G N.nsuper)
  have C : EC K mg CE CT := ⟨PySem.W.mg_of X G pE, PySem.W.mg_of X G pT, kE, kT, nE, nT, kTE⟩
  have BTx : BT K mg CB CW := ⟨PySem.W.mg_of X G pB, PySem.W.mg_of X G pW, PySem.W.mg_none_of X G N.nValueError, xf, xn, xi, PySem.W.exm_ref xf.exC xf.hdC e3 e4, kW, kV⟩
  have hDIG : ∃ t, mg "DIGITS" = some (.str "0123456789" t) := ⟨_, PySem.W.mg_of X G cD⟩
  have hMOST : ∃ t, mg "MOST_DIGITS" = some (.int 30 t) := ⟨_, PySem.W.mg_of X G cM⟩
  have hLET : ∃ t, mg "LETTERS" = some (.str "abcdefghijklmnopqrstuvwxyz" t) := ⟨_, PySem.W.mg_of X G cL⟩
  have hLONG : ∃ t, mg "LONGEST_NAME" = some (.int 12 t) := ⟨_, PySem.W.mg_of X G cN⟩
  have hMIN : ∃ t, mg "MINUTES" = some (.int 1440 t) := ⟨_, PySem.W.mg_of X G cI⟩
  have hKIND : ∃ a, mg "KINDS" = some (.ref a) ∧ ∀ H, SqT K H a [.str "day", .str "float", .str "zoned", .str "fixed"] := ⟨_, PySem.W.mg_of X G cK, kinds_at oK⟩
  have ME : Mk K CE fE := ⟨iE.1, mE, iE.2.1, iE.2.2⟩
  have MT : Mk K CT fT := ⟨iT.1, mT, iT.2.1, iT.2.2⟩
  obtain ⟨_, _, _, _, _, _, _, _, _, l1, c1, k1⟩ := u_number_of
  have F_number_of := fun_mk (st := s_number_of) l1 c1 k1
  have b_number_of := F_number_of.binds (ps := ["text"]) fun _ _ _ _ _ _ us hl => match us, hl with | [_], _ => rfl
  obtain ⟨_, _, _, _, _, _, _, _, _, l1, c1, k1⟩ := u_is_name
  have F_is_name := fun_mk (st := s_is_name) l1 c1 k1
  have b_is_name := F_is_name.binds (ps := ["word"]) fun _ _ _ _ _ _ us hl => match us, hl with | [_], _ => rfl
  obtain ⟨_, _, _, _, _, _, _, _, _, l1, c1, k1⟩ := u_parts_of
  have F_parts_of := fun_mk (st := s_parts_of) l1 c1 k1
  have b_parts_of := F_parts_of.binds (ps := ["text"]) fun _ _ _ _ _ _ us hl => match us, hl with | [_], _ => rfl
  obtain ⟨_, _, _, _, _, _, _, _, _, l1, c1, k1⟩ := u__law_draw
  have F__law_draw := fun_mk (st := s__law_draw) l1 c1 k1
  have b__law_draw := F__law_draw.binds (ps := ["_law_pen_here", "_law_many"]) fun _ _ _ _ _ _ us hl => match us, hl with | [_, _], _ => rfl
  obtain ⟨_, _, _, _, _, _, _, _, _, l1, c1, k1⟩ := u__law_pen
  have F__law_pen := fun_mk (st := s__law_pen) l1 c1 k1
  have b__law_pen := F__law_pen.binds (ps := ["_law_script"]) fun _ _ _ _ _ _ us hl => match us, hl with | [_], _ => rfl
  obtain ⟨_, _, _, _, _, _, _, _, _, l1, c1, k1⟩ := u__law_pick
  have F__law_pick := fun_mk (st := s__law_pick) l1 c1 k1
  have b__law_pick := F__law_pick.binds (ps := ["_law_pen_here", "_law_some"]) fun _ _ _ _ _ _ us hl => match us, hl with | [_, _], _ => rfl
  obtain ⟨_, _, _, _, _, _, _, _, _, l1, c1, k1⟩ := u__law_big
  have F__law_big := fun_mk (st := s__law_big) l1 c1 k1
  have b__law_big := F__law_big.binds (ps := ["_law_pen_here", "_law_many"]) fun _ _ _ _ _ _ us hl => match us, hl with | [_, _], _ => rfl
  obtain ⟨_, _, _, _, _, _, _, _, _, l1, c1, k1⟩ := u__law_far_number
  have F__law_far_number := fun_mk (st := s__law_far_number) l1 c1 k1
  have b__law_far_number := F__law_far_number.binds (ps := ["_law_pen_here"]) fun _ _ _ _ _ _ us hl => match us, hl with | [_], _ => rfl
  obtain ⟨_, _, _, _, _, _, _, _, _, l1, c1, k1⟩ := u__law_entry_text
  have F__law_entry_text := fun_mk (st := s__law_entry_text) l1 c1 k1
  have b__law_entry_text := F__law_entry_text.binds (ps := ["_law_entry"]) fun _ _ _ _ _ _ us hl => match us, hl with | [_], _ => rfl
  obtain ⟨_, _, _, _, _, _, _, _, _, l1, c1, k1⟩ := u__law_number
  have F__law_number := fun_mk (st := s__law_number) l1 c1 k1
  have b__law_number := F__law_number.binds (ps := ["_law_text"]) fun _ _ _ _ _ _ us hl => match us, hl with | [_], _ => rfl
  obtain ⟨_, _, _, _, _, _, _, _, _, l1, c1, k1⟩ := u__law_is_name
  have F__law_is_name := fun_mk (st := s__law_is_name) l1 c1 k1
  have b__law_is_name := F__law_is_name.binds (ps := ["_law_text"]) fun _ _ _ _ _ _ us hl => match us, hl with | [_], _ => rfl
  obtain ⟨_, _, _, _, _, _, _, _, _, l1, c1, k1⟩ := u__law_whole
  have F__law_whole := fun_mk (st := s__law_whole) l1 c1 k1
  have b__law_whole := F__law_whole.binds (ps := ["_law_number_here"]) fun _ _ _ _ _ _ us hl => match us, hl with | [_], _ => rfl
  obtain ⟨_, _, _, _, _, _, _, _, _, l1, c1, k1⟩ := u__law_any_name
  have F__law_any_name := fun_mk (st := s__law_any_name) l1 c1 k1
  have b__law_any_name := F__law_any_name.binds (ps := ["_law_pen_here"]) fun _ _ _ _ _ _ us hl => match us, hl with | [_], _ => rfl
  obtain ⟨_, _, _, _, _, _, _, _, _, l1, c1, k1⟩ := u__law_bent
  have F__law_bent := fun_mk (st := s__law_bent) l1 c1 k1
  have b__law_bent := F__law_bent.binds (ps := ["_law_pen_here", "_law_text"]) fun _ _ _ _ _ _ us hl => match us, hl with | [_, _], _ => rfl
  obtain ⟨_, _, _, _, _, _, _, _, _, l1, c1, k1⟩ := u__law_right_text
  have F__law_right_text := fun_mk (st := s__law_right_text) l1 c1 k1
  have b__law_right_text := F__law_right_text.binds (ps := ["_law_pen_here"]) fun _ _ _ _ _ _ us hl => match us, hl with | [_], _ => rfl
  obtain ⟨_, _, _, _, _, _, _, _, _, l1, c1, k1⟩ := u__law_odd_number
  have F__law_odd_number := fun_mk (st := s__law_odd_number) l1 c1 k1
  have b__law_odd_number := F__law_odd_number.binds (ps := ["_law_pen_here"]) fun _ _ _ _ _ _ us hl => match us, hl with | [_], _ => rfl
  obtain ⟨_, _, _, _, _, _, _, _, _, l1, c1, k1⟩ := u__law_odd_text
  have F__law_odd_text := fun_mk (st := s__law_odd_text) l1 c1 k1
  have b__law_odd_text := F__law_odd_text.binds (ps := ["_law_pen_here"]) fun _ _ _ _ _ _ us hl => match us, hl with | [_], _ => rfl
  obtain ⟨_, _, _, _, _, _, _, _, _, l1, c1, k1⟩ := u__law_entry_due
  have F__law_entry_due := fun_mk (st := s__law_entry_due) l1 c1 k1
  have b__law_entry_due := F__law_entry_due.binds (ps := ["_law_text"]) fun _ _ _ _ _ _ us hl => match us, hl with | [_], _ => rfl
  obtain ⟨_, _, _, _, _, _, _, _, _, l1, c1, k1⟩ := u__law_read
  have F__law_read := fun_mk (st := s__law_read) l1 c1 k1
  have b__law_read := F__law_read.binds (ps := ["_law_text"]) fun _ _ _ _ _ _ us hl => match us, hl with | [_], _ => rfl
  obtain ⟨_, _, _, _, _, _, _, _, _, l1, c1, k1⟩ := u__law_later_right
  have F__law_later_right := fun_mk (st := s__law_later_right) l1 c1 k1
  have b__law_later_right := F__law_later_right.binds (ps := ["_law_entry", "_law_due", "_law_many"]) fun _ _ _ _ _ _ us hl => match us, hl with | [_, _, _], _ => rfl
  obtain ⟨_, _, _, _, _, _, _, _, _, l1, c1, k1⟩ := u__law_unlike_right
  have F__law_unlike_right := fun_mk (st := s__law_unlike_right) l1 c1 k1
  have b__law_unlike_right := F__law_unlike_right.binds (ps := ["_law_entry", "_law_due"]) fun _ _ _ _ _ _ us hl => match us, hl with | [_, _], _ => rfl
  obtain ⟨_, _, _, _, _, _, _, _, _, l1, c1, k1⟩ := uE
  have FE := fun_mk (st := s_Entry___init__) l1 c1 k1
  have bE := FE.binds (ps := ["self", "text"]) fun _ _ _ _ _ _ us hl => match us, hl with | [_, _], _ => rfl
  obtain ⟨_, _, _, _, _, _, _, _, _, l1, c1, k1⟩ := uQ
  have FQ := fun_mk (st := s_Entry___eq__) l1 c1 k1
  have bQ := FQ.binds (ps := ["self", "other"]) fun _ _ _ _ _ _ us hl => match us, hl with | [_, _], _ => rfl
  obtain ⟨_, _, _, _, _, _, _, _, _, l1, c1, k1⟩ := uA
  have FA := fun_mk (st := s_Entry___add__) l1 c1 k1
  have bA := FA.binds (ps := ["self", "many"]) fun _ _ _ _ _ _ us hl => match us, hl with | [_, _], _ => rfl
  obtain ⟨_, _, _, _, _, _, _, _, _, l1, c1, k1⟩ := uS
  have FS := fun_mk (st := s_Entry___sub__) l1 c1 k1
  have bS := FS.binds (ps := ["self", "many"]) fun _ _ _ _ _ _ us hl => match us, hl with | [_, _], _ => rfl
  obtain ⟨_, _, _, _, _, _, _, _, _, l1, c1, k1⟩ := uT
  have FT := fun_mk (st := s_ToldEntry___init__) l1 c1 k1
  have bT := FT.binds (ps := ["self", "kind", "first", "last", "zone"]) fun _ _ _ _ _ _ us hl => match us, hl with | [_, _, _, _, _], _ => rfl
  obtain ⟨oc, od, kV, dc, pm, an, cd, ct, sl, l1, c1, k1⟩ := ul
  have Fl := fun_mk (st := s_law) l1 c1 k1
  refine ⟨PySem.W.fnOf "law" "law" (defArgs s_law) (defBody s_law) (defScope s_law) .none kV dc pm an cd ct, fun s v => .of_eq rfl, fun base _ _ => ?_⟩
  have c_number_of : Cal l.prog w K mg base 1 "number_of" ["text"] spNum := ⟨_, _, ok_number_of F_number_of T hDIG hMOST, PySem.W.mg_of X G g_number_of, F_number_of.kp, b_number_of⟩
  have c_is_name : Cal l.prog w K mg base 1 "is_name" ["word"] (spIsName K) := ⟨_, _, ok_is_name F_is_name T hLET hLONG, PySem.W.mg_of X G g_is_name, F_is_name.kp, b_is_name⟩
  have c_parts_of : Cal l.prog w K mg base 2 "parts_of" ["text"] spParts := ⟨_, _, ok_parts_of F_parts_of T c_number_of c_is_name hKIND, PySem.W.mg_of X G g_parts_of, F_parts_of.kp, b_parts_of⟩
  have GE := ok_EInit (P := l.prog) (w := w) (base := base) FE T c_parts_of TS (PySem.W.mg_of X G pB)
  have GQ := ok_Eq (P := l.prog) (w := w) (base := base) FQ T C
  have GT := ok_TInit (P := l.prog) (w := w) (mg := mg) (base := base) FT
  have GA := ok_Add FA C MT GT bT hMIN
  have GS := ok_Sub FS C MT GT bT hMIN
  have c__law_draw : Cal l.prog w K mg base 1 "_law_draw" ["_law_pen_here", "_law_many"] spDraw := ⟨_, _, ok_draw F__law_draw T, PySem.W.mg_of X G g__law_draw, F__law_draw.kp, b__law_draw⟩
  have c__law_pen : Cal l.prog w K mg base 1 "_law_pen" ["_law_script"] (spPen K) := ⟨_, _, ok_pen F__law_pen T, PySem.W.mg_of X G g__law_pen, F__law_pen.kp, b__law_pen⟩
  have c__law_pick : Cal l.prog w K mg base 2 "_law_pick" ["_law_pen_here", "_law_some"] spPick := ⟨_, _, ok_pick F__law_pick T c__law_draw, PySem.W.mg_of X G g__law_pick, F__law_pick.kp, b__law_pick⟩
  have c__law_big : Cal l.prog w K mg base 2 "_law_big" ["_law_pen_here", "_law_many"] spBig := ⟨_, _, ok_big F__law_big T c__law_draw, PySem.W.mg_of X G g__law_big, F__law_big.kp, b__law_big⟩
  have c__law_far_number : Cal l.prog w K mg base 3 "_law_far_number" ["_law_pen_here"] spFar := ⟨_, _, ok_far F__law_far_number T c__law_draw c__law_pick c__law_big, PySem.W.mg_of X G g__law_far_number, F__law_far_number.kp, b__law_far_number⟩
  have c__law_entry_text : Cal l.prog w K mg base 1 "_law_entry_text" ["_law_entry"] spText := ⟨_, _, ok_text F__law_entry_text T, PySem.W.mg_of X G g__law_entry_text, F__law_entry_text.kp, b__law_entry_text⟩
  have c__law_number : Cal l.prog w K mg base 1 "_law_number" ["_law_text"] spNum := ⟨_, _, ok_lnum F__law_number T, PySem.W.mg_of X G g__law_number, F__law_number.kp, b__law_number⟩
  have c__law_is_name : Cal l.prog w K mg base 1 "_law_is_name" ["_law_text"] spLName := ⟨_, _, ok_lname F__law_is_name T, PySem.W.mg_of X G g__law_is_name, F__law_is_name.kp, b__law_is_name⟩
  have c__law_whole : Cal l.prog w K mg base 1 "_law_whole" ["_law_number_here"] spWhole := ⟨_, _, ok_whole F__law_whole T, PySem.W.mg_of X G g__law_whole, F__law_whole.kp, b__law_whole⟩
  have c__law_any_name : Cal l.prog w K mg base 3 "_law_any_name" ["_law_pen_here"] (spDrawn 20 20 1000000000) := ⟨_, _, ok_any F__law_any_name T c__law_draw c__law_pick, PySem.W.mg_of X G g__law_any_name, F__law_any_name.kp, b__law_any_name⟩
  have c__law_bent : Cal l.prog w K mg base 3 "_law_bent" ["_law_pen_here", "_law_text"] spBent := ⟨_, _, ok_bent F__law_bent T c__law_draw c__law_pick, PySem.W.mg_of X G g__law_bent, F__law_bent.kp, b__law_bent⟩
  have c__law_right_text : Cal l.prog w K mg base 4 "_law_right_text" ["_law_pen_here"] (spDrawn 1000 80 100000000) := ⟨_, _, ok_right F__law_right_text T c__law_pick c__law_far_number c__law_any_name c__law_entry_text, PySem.W.mg_of X G g__law_right_text, F__law_right_text.kp, b__law_right_text⟩
  have c__law_odd_number : Cal l.prog w K mg base 4 "_law_odd_number" ["_law_pen_here"] (spDrawn 1000 30 1000000000) := ⟨_, _, ok_oddn F__law_odd_number T c__law_draw c__law_pick c__law_far_number, PySem.W.mg_of X G g__law_odd_number, F__law_odd_number.kp, b__law_odd_number⟩
  have c__law_odd_text : Cal l.prog w K mg base 5 "_law_odd_text" ["_law_pen_here"] (spDrawn 3000 90 100000000) := ⟨_, _, ok_oddt F__law_odd_text T c__law_pick c__law_odd_number c__law_any_name, PySem.W.mg_of X G g__law_odd_text, F__law_odd_text.kp, b__law_odd_text⟩
  have c__law_entry_due : Cal l.prog w K mg base 2 "_law_entry_due" ["_law_text"] spDue := ⟨_, _, ok_due F__law_entry_due T c__law_number c__law_is_name, PySem.W.mg_of X G g__law_entry_due, F__law_entry_due.kp, b__law_entry_due⟩
  have c__law_read : Cal l.prog w K mg base 5 "_law_read" ["_law_text"] (spRead K) := ⟨_, _, ok_read F__law_read T C ME GE bE BTx c__law_whole, PySem.W.mg_of X G g__law_read, F__law_read.kp, b__law_read⟩
  have c__law_later_right : Cal l.prog w K mg base 4 "_law_later_right" ["_law_entry", "_law_due", "_law_many"] (spLater CE) := ⟨_, _, ok_later F__law_later_right T C O GA bA GS bS GQ bQ c__law_entry_text, PySem.W.mg_of X G g__law_later_right, F__law_later_right.kp, b__law_later_right⟩
  have c__law_unlike_right : Cal l.prog w K mg base 5 "_law_unlike_right" ["_law_entry", "_law_due"] (spUnlike CE) := ⟨_, _, ok_unlike F__law_unlike_right T C O GQ bQ ME GE bE c__law_entry_text, PySem.W.mg_of X G g__law_unlike_right, F__law_unlike_right.kp, b__law_unlike_right⟩
  exact ok_law (CW := CW) Fl T C O GQ bQ ME GE bE c__law_pen c__law_right_text c__law_bent c__law_odd_text c__law_entry_due c__law_read c__law_far_number c__law_later_right c__law_unlike_right c__law_pick
theorem walk {l : PySem.W.OpenLaw} {q : Program} {loose : List Str} {XP : (Str → Option Value) → Heap → Prop} {YP : World → Heap → Prop} {d : DefRec} {K : Params → PySem.W.Frag} (hn : l.most = some 63) (hdf : d.params.defaults = [])
    (hY : ∀ (w : World) (h : Heap), YP w h → (K w.params).In h)
    (F : ∀ (w : World) (mg : Str → Option Value) (fa : Addr) (h : Heap), (K w.params).In h → h.Ns mainGlobals mg → mg d.name = some (.ref fa) →
      ∃ fd : FuncData, (∀ (s : Shared) (u : Value), BindsTo s fd ⟨[u], []⟩ [("_law_script", u)]) ∧ ∀ base : Heap, (K w.params).In base → base.Ns mainGlobals mg → FnOk l.prog w (K w.params) mg base CX0 6 fa fd ["_law_script"] (spLaw (K w.params))) :
    PySem.W.WalkO q loose XP YP l.row.toRowW d [] (fun f vs => PySem.call f vs) :=
  L2.walk_of (n := 63) (k := 6) (x := "_law_script") (CX := fun _ => CX0) (sp := fun w => spLaw (K w.params)) hn (by decide) hdf ⟨rfl, by decide, by decide⟩ hY F (fun _ _ a ns _ _ hS => ⟨a, ns, rfl, hS, fun _ => rfl⟩) fun _ _ _ _ _ z => z
end Toy

open PySem PySem.W PyProof.Rows
set_option Elab.async false
set_option maxRecDepth 100000
set_option maxHeartbeats 0
open_top hd for PySem.Challenge.rw_whoseday_k01_entries_are_read
theorem PySem.Challenge.cw_whoseday_k01_entries_are_read_holds : PySem.Challenge.rw_whoseday_k01_entries_are_read.Holds := by
  refine hd ?walk
  refine Toy.walk (l := PySem.Challenge.rw_whoseday_k01_entries_are_read) rfl rfl (fun w h Y => PySem.W.kIn_of Y) ?F
  case F =>
    intro w mg fa h KX G hmg
    refine' Toy.all_mk KX G hmg ?pE ?pT ?pB ?pW ?gl ?g_number_of ?g_is_name ?g_parts_of ?g__law_draw ?g__law_pen ?g__law_pick ?g__law_big ?g__law_far_number ?g__law_entry_text ?g__law_number ?g__law_is_name ?g__law_whole ?g__law_any_name ?g__law_bent ?g__law_right_text ?g__law_odd_number ?g__law_odd_text ?g__law_entry_due ?g__law_read ?g__law_later_right ?g__law_unlike_right ?mE ?mQ ?mA ?mS ?mT ?mB ?cD ?cM ?cL ?cN ?cI ?cK ?oK ?N ?ul ?u_number_of ?u_is_name ?u_parts_of ?u__law_draw ?u__law_pen ?u__law_pick ?u__law_big ?u__law_far_number ?u__law_entry_text ?u__law_number ?u__law_is_name ?u__law_whole ?u__law_any_name ?u__law_bent ?u__law_right_text ?u__law_odd_number ?u__law_odd_text ?u__law_entry_due ?u__law_read ?u__law_later_right ?u__law_unlike_right ?uE ?uQ ?uA ?uS ?uT ?iE ?iT ?kE ?kT ?nE ?nT ?kTE ?O ?xf ?xn ?xi ?e3 ?e4 ?kW ?kV ?TS0
    (case pE => k_is)
    (case pT => k_is)
    (case pB => k_is)
    (case pW => k_is)
    (case gl => k_is)
    (case g_number_of => k_is)
    (case g_is_name => k_is)
    (case g_parts_of => k_is)
    (case g__law_draw => k_is)
    (case g__law_pen => k_is)
    (case g__law_pick => k_is)
    (case g__law_big => k_is)
    (case g__law_far_number => k_is)
    (case g__law_entry_text => k_is)
    (case g__law_number => k_is)
    (case g__law_is_name => k_is)
    (case g__law_whole => k_is)
    (case g__law_any_name => k_is)
    (case g__law_bent => k_is)
    (case g__law_right_text => k_is)
    (case g__law_odd_number => k_is)
    (case g__law_odd_text => k_is)
    (case g__law_entry_due => k_is)
    (case g__law_read => k_is)
    (case g__law_later_right => k_is)
    (case g__law_unlike_right => k_is)
    (case mE => k_is)
    (case mQ => k_is)
    (case mA => k_is)
    (case mS => k_is)
    (case mT => k_is)
    (case mB => k_is)
    (case cD => k_is)
    (case cM => k_is)
    (case cL => k_is)
    (case cN => k_is)
    (case cI => k_is)
    (case cK => k_is)
    (case oK => k_is)
    (case N => (refine' ⟨?_, ?_, ?_, ?_, ?_, ?_, ?_, ?_, ?_, ?_, ?_, ?_, ?_⟩ <;> k_is))
    (case ul => (refine' Toy.funk ?l ?c ?k; (case l => k_is); (case c => k_is); (case k => k_is)))
    (case u_number_of => (refine' Toy.funk ?l ?c ?k; (case l => k_is); (case c => k_is); (case k => k_is)))
    (case u_is_name => (refine' Toy.funk ?l ?c ?k; (case l => k_is); (case c => k_is); (case k => k_is)))
    (case u_parts_of => (refine' Toy.funk ?l ?c ?k; (case l => k_is); (case c => k_is); (case k => k_is)))
    (case u__law_draw => (refine' Toy.funk ?l ?c ?k; (case l => k_is); (case c => k_is); (case k => k_is)))
    (case u__law_pen => (refine' Toy.funk ?l ?c ?k; (case l => k_is); (case c => k_is); (case k => k_is)))
    (case u__law_pick => (refine' Toy.funk ?l ?c ?k; (case l => k_is); (case c => k_is); (case k => k_is)))
    (case u__law_big => (refine' Toy.funk ?l ?c ?k; (case l => k_is); (case c => k_is); (case k => k_is)))
    (case u__law_far_number => (refine' Toy.funk ?l ?c ?k; (case l => k_is); (case c => k_is); (case k => k_is)))
    (case u__law_entry_text => (refine' Toy.funk ?l ?c ?k; (case l => k_is); (case c => k_is); (case k => k_is)))
    (case u__law_number => (refine' Toy.funk ?l ?c ?k; (case l => k_is); (case c => k_is); (case k => k_is)))
    (case u__law_is_name => (refine' Toy.funk ?l ?c ?k; (case l => k_is); (case c => k_is); (case k => k_is)))
    (case u__law_whole => (refine' Toy.funk ?l ?c ?k; (case l => k_is); (case c => k_is); (case k => k_is)))
    (case u__law_any_name => (refine' Toy.funk ?l ?c ?k; (case l => k_is); (case c => k_is); (case k => k_is)))
    (case u__law_bent => (refine' Toy.funk ?l ?c ?k; (case l => k_is); (case c => k_is); (case k => k_is)))
    (case u__law_right_text => (refine' Toy.funk ?l ?c ?k; (case l => k_is); (case c => k_is); (case k => k_is)))
    (case u__law_odd_number => (refine' Toy.funk ?l ?c ?k; (case l => k_is); (case c => k_is); (case k => k_is)))
    (case u__law_odd_text => (refine' Toy.funk ?l ?c ?k; (case l => k_is); (case c => k_is); (case k => k_is)))
    (case u__law_entry_due => (refine' Toy.funk ?l ?c ?k; (case l => k_is); (case c => k_is); (case k => k_is)))
    (case u__law_read => (refine' Toy.funk ?l ?c ?k; (case l => k_is); (case c => k_is); (case k => k_is)))
    (case u__law_later_right => (refine' Toy.funk ?l ?c ?k; (case l => k_is); (case c => k_is); (case k => k_is)))
    (case u__law_unlike_right => (refine' Toy.funk ?l ?c ?k; (case l => k_is); (case c => k_is); (case k => k_is)))
    (case uE => (refine' Toy.funk ?l ?c ?k; (case l => k_is); (case c => k_is); (case k => k_is)))
    (case uQ => (refine' Toy.funk ?l ?c ?k; (case l => k_is); (case c => k_is); (case k => k_is)))
    (case uA => (refine' Toy.funk ?l ?c ?k; (case l => k_is); (case c => k_is); (case k => k_is)))
    (case uS => (refine' Toy.funk ?l ?c ?k; (case l => k_is); (case c => k_is); (case k => k_is)))
    (case uT => (refine' Toy.funk ?l ?c ?k; (case l => k_is); (case c => k_is); (case k => k_is)))
    (case iE => (refine' ⟨?_, ?_, ?_⟩ <;> k_is))
    (case iT => (refine' ⟨?_, ?_, ?_⟩ <;> k_is))
    (case kE => (refine' ⟨⟨?_, ?_, ?_, ?_⟩, ?_, ?_, ?_, ?_⟩ <;> k_is))
    (case kT => (refine' ⟨⟨?_, ?_, ?_, ?_⟩, ?_, ?_, ?_, ?_⟩ <;> k_is))
    (case nE => (refine' ⟨?_, ?_, ?_, ?_, ?_⟩ <;> (show PySem.W.findIn _ _ _ = _; k_is)))
    (case nT => (refine' ⟨?_, ?_, ?_, ?_, ?_⟩ <;> (show PySem.W.findIn _ _ _ = _; k_is)))
    (case kTE => (refine' Toy.kitR ?za ?zb ?zc ?zd; (case za => k_is); (case zb => k_is); (case zc => rfl); (case zd => k_is)))
    (case O => (refine' ⟨Toy.bink ?o0a ?o0b ?o0c ?o0d ?o0e ?o0f ?o0g, Toy.bink ?o1a ?o1b ?o1c ?o1d ?o1e ?o1f ?o1g, Toy.bink ?o2a ?o2b ?o2c ?o2d ?o2e ?o2f ?o2g, Toy.bink ?o3a ?o3b ?o3c ?o3d ?o3e ?o3f ?o3g, ?p1, ?p2, ?p3, ?p4, ?p5, ?p6, ?p7, ?p8, ?p9⟩; (case o0a => k_is); (case o0b => k_is); (case o0c => k_is); (case o0d => k_is); (case o0e => k_is); (case o0f => k_is); (case o0g => k_is); (case o1a => k_is); (case o1b => k_is); (case o1c => k_is); (case o1d => k_is); (case o1e => k_is); (case o1f => k_is); (case o1g => k_is); (case o2a => k_is); (case o2b => k_is); (case o2c => k_is); (case o2d => k_is); (case o2e => k_is); (case o2f => k_is); (case o2g => k_is); (case o3a => k_is); (case o3b => k_is); (case o3c => k_is); (case o3d => k_is); (case o3e => k_is); (case o3f => k_is); (case o3g => k_is); (case p1 => k_is); (case p2 => k_is); (case p3 => k_is); (case p4 => k_is); (case p5 => k_is); (case p6 => k_is); (case p7 => k_is); (case p8 => k_is); (case p9 => (refine' Toy.kitR ?za ?zb ?zc ?zd; (case za => k_is); (case zb => k_is); (case zc => rfl); (case zd => k_is)))))
    (case xf => (refine' ⟨?_, ?_, ?_, ?_⟩ <;> k_is))
    (case xn => k_is)
    (case xi => (refine' ⟨?h0, ?_, ?_, ?_, ?_, ?_, ?_, ?_⟩; (case h0 => show PySem.W.isClsIn _ _ = true; k_is); all_goals k_is))
    (case e3 => k_is)
    (case e4 => k_is)
    (case kW => (refine' Toy.kitR ?za ?zb ?zc ?zd; (case za => k_is); (case zb => k_is); (case zc => rfl); (case zd => k_is)))
    (case kV => (refine' Toy.kitT ?za ?zb ?zc; (case za => decide +kernel); (case zb => rfl); (case zc => k_is)))
    (case TS0 => (intro hs; refine' Toy.supk ?x1 ?x2 ?x3 ?x4 ?x5 ?x6 ?x7 ?x8 ?x9 ?xa ?xb ?xc ?xd hs ?xe ?y1 ?y2 ?y3 ?y4 ?y5 ?y6 ?y7; (case x1 => k_is); (case x2 => decide +kernel); (case x3 => k_is); (case x4 => k_is); (case x5 => k_is); (case x6 => k_is); (case x7 => k_is); (case x8 => k_is); (case x9 => k_is); (case xa => k_is); (case xb => rfl); (case xc => k_is); (case xd => k_is); (case xe => rfl); (case y1 => k_is); (case y2 => k_is); (case y3 => exact ⟨_, _, _, _, _, _, _, _, _, _, _, _, _, rfl, rfl, rfl, rfl, fun _ _ _ _ _ _ _ _ _ => rfl⟩); (case y4 => k_is); (case y5 => rfl); (case y6 => rfl); (case y7 => k_is)))
#print axioms PySem.Challenge.cw_whoseday_k01_entries_are_read_holds

