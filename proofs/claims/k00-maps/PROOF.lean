import PyProof.Rows.All
import Wide.All
import OpenK.AllK
import Wide.FinOn
import KE.KStateDown
import KE.KExcSuper
import KE.KLam
import HandS.ForMost
import HandS.ForExc
import HandS.Defaults
import HandS.ExcValue
import HandS.ExcIs
import HandS.ExcSuper
import HandS.IsInst
import HandS.Lambda
import HandS.HeadWalk
import KE.KExcIs
import KE.GoesEnum
import KE.GoesMore
import HandS.Conv
import HandS.Property
import HandS.Head0
import HandS.Head1
import HandS.Head2
import HandS.HeadEnd
import HandS.HeadHook1
import HandS.HeadHook2
import HandS.HeadHook3
import HandS.HeadHook4
import HandS.Deep
import HandS.TupAny
import HandS.TupMul
import HandS.Dict
import KE.KDictDisplayH
import HandS.DictTup
import HandS.TupLen
import HandS.Star
import HandS.DictEq
import HandS.Walk
import HandS.Style
import PyProof.ReprRoads
import HandS.TupLe
import PySem.Challenge.RW_rowmaps_k00_maps_of_rows
set_option Elab.async false
set_option linter.all false
set_option maxRecDepth 100000
set_option maxHeartbeats 0
/-! Exceptions of the package: an __init__ that says super().__init__(text) and keeps one attribute -/
namespace RM
open PySem PySem.W PySem.Calls PyProof.Rows PySem.HandSPX
/-- the text of such an __init__ -/
def xA (f : Str) (p1 p2 : Pos) : Arguments := { posonlyargs := [], args := [{ arg := "self", annotation := none, pos := p1 }, { arg := f, annotation := none, pos := p2 }], vararg := none, kwonlyargs := [], kw_defaults := [], kwarg := none, defaults := [] }
def xB (f msg : Str) (j : Nat) (p0 p1 p2 p3 p4 p5 q1 q2 q3 q4 : Pos) : List Stmt :=
  [.Expr (.Call (.Attribute (.Call (.Name "super" p0) [] [] p1) "__init__" p2) [.Constant (.str msg) j p3] [] p4) p5,
   .Assign [.Attribute (.Name "self" q1) f q2] (.Name f q3) q4]
def xS (f : Str) : Scope := { kind := .function, names := [(PySem.Str.ofString "self", .local), (f, .local), (PySem.Str.ofString "__class__", .free), (PySem.Str.ofString "super", .globalImplicit)], isGenerator := false, isCoroutine := false, more := [] }
/-- what the written part says of the __init__ at fI, made in the class at D, for the attribute f -/
structure PInit (P : Program) (K : Frag) (mg : Str → Option Value) (fI D : Addr) (f : Str) : Prop where
  fn : ∃ (oc : Value) (od : Option Addr) (osl : Array (Option Value)) (qual msg : Str) (j : Nat) (p1 p2 r0 r1 r2 r3 r4 r5 q1 q2 q3 q4 : Pos) (kV doc pm ct : Value) (an : Option Addr) (cc cda : Addr),
    K.lookup fI = some ⟨oc, od, .func { name := "__init__", qualname := qual, params := xA f p1 p2, body := .stmts (xB f msg j r0 r1 r2 r3 r4 r5 q1 q2 q3 q4), scope := xS f, globals := mainGlobals, closure := [("__class__", cc)], defaults := .none, kwdefaults := kV, doc := doc, pyModule := pm, annotations := an, code := .ref cda, closureTuple := ct, builtins := builtinsNs }, osl⟩ ∧
    (r2.endLine == r4.line) = true ∧ codeIn K (.ref cda) qual = true ∧
    (∃ cl cld csl, K.lookup cc = some ⟨cl, cld, .cell (some (.ref D)), csl⟩) ∧
    (∃ ccl cdd vs ccs file tf, K.lookup cda = some ⟨ccl, cdd, .fields vs, ccs⟩ ∧ vs[2]? = some (.str file tf) ∧ ((P.main.file : Str) == file) = true)
  clsD : ∃ cdD, clsIn K D = some cdD
  gS : mg "super" = none
  top : (P.main.scope.names.lookup ("super" : Str)).isSome = false
  fk : f = "part" ∨ f = "index" ∨ f = "most"
/-- what it says of a class C that has this __init__ (its own or D's) -/
structure PCls (K : Frag) (C fI D : Addr) (f : Str) : Prop where
  cls : ∃ nm q N bs bm sn sub ab col dd k0 k1 k2 k3 k5, K.lookup C = some (excClassObj nm q C N bs bm true sn sub ab col dd k0 k1 k2 k3 k5 "ValueError.__new__") ∧ refsVE bm = true
  sa : findIn K (.ref C) "__setattr__" = some (some (.builtin "object.__setattr__"))
  noF : findIn K (.ref C) f = some none
  iC : findIn K (.ref C) "__init__" = some (some (.ref fI))
  tI : typeIn K (.ref fI) = some (.type "function")
  sub : mroIn K C (.ref D) = some true
  sup : ks_superIn K C D "__init__" = some (some (.builtin "ValueError.__init__"))
  ve : subIn K (.ref C) (.type "ValueError") = some true
  opq : nsIn K cStatics "thirdparty.any" = some none
structure InitEnd (h h' : Heap) (x C dx t1 : Addr) (f : Str) (v : Value) : Prop where
  keep : ∀ b o, b ≠ x → h.get? b = some o → h'.get? b = some o
  obj : h'.get? x = some { cls := .ref C, dict := some dx, data := .fields #[.ref t1, .none, .none, .none, .bool false, .none] }
  dbig : h.objs.size ≤ dx
  dne : dx ≠ x
  ns : h'.Ns1 dx (fun y => if y = f then some v else none)
structure OwnMade (h h' : Heap) (e C d : Addr) (f : Str) (v : Value) : Prop where
  keep : ∀ b o, h.get? b = some o → h'.get? b = some o
  new : h.objs.size ≤ e
  obj : ∃ oe vs, h'.get? e = some oe ∧ oe.cls = .ref C ∧ oe.dict = some d ∧ oe.data = .fields vs ∧ vs[1]? = some .none
  dbig : h.objs.size ≤ d
  dne : d ≠ e
  ns : h'.Ns1 d (fun y => if y = f then some v else none)
section
variable {prog : Program} {w : World} {A : Around} {E : Value → Shared → Prop} {R : Result → Shared → Prop} {s : Shared} {K : Frag} {mg : Str → Option Value} {C fI D : Addr} {f : Str}
/-- Exception.__init__ bound to the instance, called -/
theorem call_mw {h : Heap} {g : Array GenState} {d : Drawn} {t : Nat} {os : OsState} {nm q : Str} {N : Addr} {bs bm : List Value} {hdct : Bool} {sn : List Str} {sub : List Value} {ab : Bool} {col : Option Bool} {dd : Option Addr} {k0 k1 k2 k3 k5 : Option Value} {u e t0 : Addr} {rest : List Value} {Q : Value → Shared → Prop}
    (hC : h.get? C = some (excClassObj nm q C N bs bm hdct sn sub ab col dd k0 k1 k2 k3 k5 "ValueError.__new__")) (he : h.get? e = some (excO C t0)) (hu : h.get? u = some (kxs_mw "ValueError.__init__" e)) (hrest : rest.length ≤ sizeLine)
    (hq : ∀ h' t1, (∀ b o, b ≠ e → h.get? b = some o → h'.get? b = some o) → h.objs.size ≤ h'.objs.size → h'.get? e = some (excO C t1) → Q .none ⟨h', g, d, t, os⟩) :
    wpAny (model prog w) A (call (.ref u) rest) Q E ⟨h, g, d, t, os⟩ := by
  refine wpAny_call (codeAny_of_tree ?_)
  show wpAny _ A.in1 (callAny (.ref u) ⟨rest, []⟩) _ _ _
  simp only [callAny]
  refine wpAny_bind (wpAny_load hu ?_)
  simp only [kxs_mw, show (Value.type "method-wrapper" == Value.type "method" || Value.type "method-wrapper" == Value.type "builtin_function_or_method" || Value.type "method-wrapper" == Value.type "method-wrapper") = true by decide, if_true]
  refine KFB.if_so (by decide) ?_
  refine wpAny_bind (ESX.check_bound F.excBase_ValueError hC he rfl ?_)
  refine wpAny_bind (wpAny_pure (wpAny_pure ?_))
  refine ⟨Code.quiet_builtin _ (by decide +kernel), codeAny_builtin F.excBase_ValueError.initEntry ?_⟩
  rw [Around.under_plainId F.excBase_ValueError.init.plain _]
  wp_walk
  refine hq _ h.objs.size (fun b o hb ho => ?_) ?_ ?_
  · rw [Heap.get?_update_other _ _ (Ne.symm hb)]
    exact Heap.get?_push_of_some _ ho
  · simp [Heap.update, Heap.push]
  · rw [Heap.get?_update_self _ (Heap.get?_push_of_some _ he) rfl]
    rfl
theorem super_line {env : Env} {r0 r1 r2 r3 r4 : Pos} {msg : Str} {j : Nat} (hl : (r2.endLine == r4.line) = true) :
    eval (.Call (.Attribute (.Call (.Name "super" r0) [] [] r1) "__init__" r2) [.Constant (.str msg) j r3] [] r4) env = (do
      let ov ← attributeBase (.Call (.Name "super" r0) [] [] r1) "__init__" env (eval (.Call (.Name "super" r0) [] [] r1) env)
      standAt r2.atName
      let (f, first) ← holding [ov] (getMethod ov "__init__" (L2.plainOf (.Call (.Name "super" r0) [] [] r1) env))
      callWith r4 f first (backTo r4 (starEach [.Constant (.str msg) j r3] env)) []) := by
  rw [arm_eval_Call]
  simp only [L2.mcall_line (show methodCallForm (List.length [Expr.Constant (Const.str msg) j r3] + List.length ([] : List Keyword)) (backTo r4 (starEach [Expr.Constant (Const.str msg) j r3] env)) (backToKw r4 (keywordEach [] env)) = true from rfl) hl]
  rfl
/-- self.f = f behind super().__init__(..) -/
theorem part_init (T : PInit prog K mg fI D f) (TC : PCls K C fI D f) {x t0 : Addr} {v : Value} (X : K.In s.heap) (hlim : s.heap.NoLimit) (Gm : s.heap.Ns mainGlobals mg) (Bm : ∃ mb, s.heap.Ns builtinsNs mb ∧ ∀ x : Str, x ≠ "__name__" → mb x = bootBuiltins x)
    (hx : s.heap.get? x = some (excO C t0)) (hnx : K.lookup x = none) (hroom : A.depth < recursionLimit)
    (hq : ∀ h' tk dx t1, InitEnd s.heap h' x C dx t1 f v → R (.ok (.ret .none)) { s with heap := h', toks := tk }) :
    codeAny (model prog w) A (.call (.ref fI) ⟨[.ref x, v], []⟩) R s := by
  obtain ⟨oc, od, osl, qual, msg, j, p1, p2, r0, r1, r2, r3, r4, r5, q1, q2, q3, q4, kV, doc, pm, ct, an, cc, cda, ho, hln, hcd, ⟨ccl, cld, csl, hcell⟩, ⟨cdl, cdd, vs, ccs, file, tf, hcode, hvs, hfile⟩⟩ := T.fn
  obtain ⟨nm, q, N, bs, bm, sn, sub, ab, col, dd, k0, k1, k2, k3, k5, hC, hbm⟩ := TC.cls
  obtain ⟨cdD, hD⟩ := T.clsD
  have hcl : clsIn K C = some { name := nm, bases := bs, mro := .ref C :: bm, ns := N, qualname := q, hasDict := true, slotNames := sn, subclasses := sub, abstract := ab, collection := col, hasDel := false } := by unfold clsIn; rw [hC] <;> rfl
  have fne : (f == ("self" : Str)) = false := by rcases T.fk with rfl | rfl | rfl <;> decide +kernel
  have fne' : (("self" : Str) == f) = false := by rcases T.fk with rfl | rfl | rfl <;> decide +kernel
  have fdb : (f == ("__debug__" : Str)) = false := by rcases T.fk with rfl | rfl | rfl <;> decide +kernel
  refine ks_codeAny_call_defAt (binds := [("self", .ref x), (f, v)]) hroom (X _ _ ho) rfl hlim (codeRec_of X hcd) rfl (BindsTo.of_eq ?_) ?_ ?_ fun h₁ hns k => ?_
  · rcases T.fk with rfl | rfl | rfl <;> with_unfolding_all rfl
  · intro y hy
    simp only [xS, List.mem_cons, List.not_mem_nil, or_false] at hy
    rcases hy with rfl | rfl | rfl | rfl <;> simp
  · intro y hy
    simp only [List.mem_cons, List.not_mem_nil, or_false] at hy
    rcases hy with rfl | rfl
    · rfl
    · show List.lookup f [(("self" : Str), NameKind.local), (f, .local), _, _] = _
      rw [List.lookup_cons]
      split
      · rfl
      · rw [List.lookup_cons_self]
  · have X₁ : K.In h₁ := X.keeps k
    have hx₁ := k _ _ hx
    have Gm₁ := Gm.keeps k
    obtain ⟨mb, Bm0, Bm1⟩ := Bm
    have Bm₁ := Bm0.keeps k
    have hvS : List.lookup ("self" : Str) ([(("self" : Str), Value.ref x), (f, v)] : List (Str × Value)).reverse = some (.ref x) := by
      show List.lookup ("self" : Str) [(f, v), (("self" : Str), Value.ref x)] = _
      rw [List.lookup_cons, fne']
      rfl
    have hvF : List.lookup f ([(("self" : Str), Value.ref x), (f, v)] : List (Str × Value)).reverse = some v := by
      show List.lookup f [(f, v), (("self" : Str), Value.ref x)] = _
      rw [List.lookup_cons_self]
    obtain ⟨oD, hD1, hD2⟩ : ∃ oD, h₁.get? D = some oD ∧ oD.data = .cls cdD := by
      unfold clsIn at hD
      split at hD
      · rename_i c d cd' sl ho
        cases hD
        exact ⟨_, X₁ _ _ ho, rfl⟩
      · cases hD
    have hkS : (xS f).names.lookup ("super" : Str) = some .globalImplicit := by rcases T.fk with rfl | rfl | rfl <;> decide +kernel
    have hkC : (xS f).names.lookup ("__class__" : Str) = some .free := by rcases T.fk with rfl | rfl | rfl <;> decide +kernel
    have hkF : (xS f).names.lookup f = some .local := by rcases T.fk with rfl | rfl | rfl <;> decide +kernel
    have hkV : (xS f).names.lookup ("self" : Str) = some .local := by rcases T.fk with rfl | rfl | rfl <;> decide +kernel
    show _root_.PySem.wpAt _ _ _ (execs (_ :: _) _) _ _ _
    refine ks_wpAt_execs_cons (ks_wpAt_Expr_any ?_)
    refine ks_wpAt_MethodCall ?_ (he := super_line hln)
    refine ks_wpAt_super_base (f := fI) (cc := cda) hkS hkC rfl rfl (X₁ _ _ ho) rfl rfl rfl (X₁ _ _ hcode) rfl hvs hfile T.top ?_
    · refine ks_loadName_global rfl hkS (loadGlobal_builtin Gm₁ T.gS Bm₁ ((Bm1 _ (by decide +kernel)).trans (by decide +kernel)) ⟨rfl, ?_⟩)
      refine wpAny_loadName_free rfl hkC rfl ⟨_, X₁ _ _ hcell, rfl⟩ ?_
      refine wpAny_loadName_local rfl hkV hns hvS ?_
      refine ks_wpAny_isType_cls hD1 hD2 ⟨rfl, ?_⟩
      refine ks_wpAny_call_super hD1 hD2 hx₁ rfl (fun c e => by cases e) (looks_mroIn X₁ TC.sub) (fun h2 e2 k2 => ?_)
      have X2 : K.In h2 := X₁.keeps k2
      have hx2 := k2 _ _ hx₁
      have I2 : InstAt h2 x (excO C t0) C none := ⟨hx2, rfl, rfl, trivial⟩
      have hsup : alongIn K "__init__" ((((.ref C :: bm) : List Value).dropWhile (· != .ref D)).drop 1) = some (some (.builtin "ValueError.__init__")) := by
        have z := TC.sup
        unfold ks_superIn at z
        rw [hcl] at z
        exact z
      refine kxs_getMethod kxs_ValueError e2 (looks_opaque X2 TC.opq) (l₀ := .ref C :: bm) (fun A Q E s k q => wpAny_bind ((looks_clsIn X2 hcl) A _ E s k (wpAny_pure q))) rfl X2 hsup (I2.type.andThen (looks_subIn X2 TC.ve)) (ks_ne X2 I2 hcl) rfl ?_
      have k3 : ∀ b o, h2.get? b = some o → (h2.push (kxs_mw "ValueError.__init__" x)).get? b = some o := fun b o e => Heap.get?_push_of_some _ e
      have e3 : (h2.push (kxs_mw "ValueError.__init__" x)).get? h2.objs.size = some (kxs_mw "ValueError.__init__" x) := Heap.get?_push_at rfl rfl
      refine kxs_callWith (i := "ValueError.__init__") (x := x) rfl (evalArgs_plain ?_)
      show wpAny _ _ (spliced ((false, eval (.Constant (.str msg) j r3) _) :: [])) _ _ _
      refine Calls.spliced_cons (Calls.Constant_str (Calls.spliced_nil ⟨e3, ?_⟩))
      refine call_mw (k3 _ _ (X2 _ _ hC)) (k3 _ _ hx2) e3 (by rw [sizeLine_eq]; exact (by decide : 1 ≤ 16777216)) fun h4 t4 k4 s4 hx4 => ?_
      have kA : ∀ b o, b ≠ x → h₁.get? b = some o → h4.get? b = some o := fun b o hb e => k4 b o hb (k3 _ _ (k2 _ _ e))
      have xnL : s.heap.objs.size ≠ x := Nat.ne_of_gt (Heap.lt_size hx)
      have hn4 : h4.Ns s.heap.objs.size (fun y => List.lookup y ([(("self" : Str), Value.ref x), (f, v)] : List (Str × Value)).reverse) := by
        obtain ⟨ob, es, ep, q1, q2⟩ := hns
        exact ⟨ob, es, ep, kA _ _ xnL q1, q2⟩
      have X4 : K.In h4 := fun b o e => kA b o (fun z => by rw [z, hnx] at e; cases e) (X₁ b o e)
      show _root_.PySem.wpAt _ _ _ (execs (_ :: _) _) _ _ _
      refine wpAt_of_wpAny (wpAny_execs_cons (plainObj_wpAny_Assign_Attribute ?_))
      refine wpAny_Name (wpAny_loadName_local rfl hkF hn4 hvF ?_) fdb
      refine wpAny_Name (wpAny_loadName_local rfl hkV hn4 hvS ?_)
      refine set_plain X4 (ox := excO C t4) (od := none) ⟨hx4, rfl, rfl, trivial⟩ TC.sa ?_
      refine exc_osa X4 hx4 hcl (show refsVE (.ref C :: bm) = true from hbm) rfl TC.noF (fun h5 tk5 dx k5 dn dne hx5 hn5 => ?_)
      refine wpAny_execs_nil (hq h5 tk5 dx t4 ⟨fun b o hb e => k5 b o hb (kA b o hb (k b o e)), hx5, Nat.le_of_lt (Nat.lt_of_lt_of_le hn4.lt dn), dne, hn5⟩)
/-- C(v) -/
theorem part_made (T : PInit prog K mg fI D f) (TC : PCls K C fI D f) {v : Value} (X : K.In s.heap) (hlim : s.heap.NoLimit) (Gm : s.heap.Ns mainGlobals mg) (Bm : ∃ mb, s.heap.Ns builtinsNs mb ∧ ∀ x : Str, x ≠ "__name__" → mb x = bootBuiltins x) (hroom : A.depth + 1 < recursionLimit)
    (hq : ∀ h' tk e d, OwnMade s.heap h' e C d f v → R (.ok (.ret (.ref e))) { s with heap := h', toks := tk }) :
    codeAny (model prog w) A (.call (.ref C) ⟨[v], []⟩) R s := by
  obtain ⟨nm, q, N, bs, bm, sn, sub, ab, col, dd, k0, k1, k2, k3, k5, hC, hbm⟩ := TC.cls
  obtain ⟨hp, g, dr, tk, os⟩ := s
  have k : ∀ b o, hp.get? b = some o → ((hp.push (kdv_tup [v])).push (excO C hp.objs.size)).get? b = some o := fun b o e => Heap.get?_push_of_some _ (Heap.get?_push_of_some _ e)
  have hget : ((hp.push (kdv_tup [v])).push (excO C hp.objs.size)).get? (hp.objs.size + 1) = some (excO C hp.objs.size) := by heap_get
  have hnx : K.lookup (hp.objs.size + 1) = none := by
    cases e : K.lookup (hp.objs.size + 1) with
    | none => rfl
    | some o =>
      have z : hp.get? (hp.objs.size + 1) = some o := X _ _ e
      exact absurd (Nat.lt_of_succ_lt (Heap.lt_size z)) (Nat.lt_irrefl _)
  refine call_own F.excBase_ValueError (fun X => refsVE_contains X bm hbm) (X _ _ hC) (looks_findIn X TC.iC) (fun self => bind_fn X self TC.tI) (by rw [sizeLine_eq]; exact (by decide : 1 ≤ 16777216)) ?_
  obtain ⟨mb, Bm0, Bm1⟩ := Bm
  refine part_init (s := ⟨(hp.push (kdv_tup [v])).push (excO C hp.objs.size), g, dr, tk, os⟩) T TC (X.keeps k) (hlim.keeps k) (Gm.keeps k) ⟨mb, Bm0.keeps k, Bm1⟩ hget hnx ?_ fun h' tk' dx t1 ⟨k', hx, dn, dne, hns⟩ => ?_
  · show A.depth + 1 < recursionLimit
    exact hroom
  · have old : ∀ b o, hp.get? b = some o → h'.get? b = some o := fun b o e => k' b o (Nat.ne_of_lt (Nat.lt_succ_of_lt (Heap.lt_size e))) (k b o e)
    have z : hp.objs.size + 1 + 1 ≤ dx := by
      first
        | (simpa only [Heap.size_push] using dn)
        | exact dn
        | (have q := dn; rw [Heap.size_push, Heap.size_push] at q; exact q)
    exact ⟨rfl, hq h' tk' (hp.objs.size + 1) dx ⟨old, Nat.le_succ _, ⟨_, _, hx, rfl, rfl, rfl, rfl⟩, Nat.le_trans (Nat.le_trans (Nat.le_succ _) (Nat.le_succ _)) z, dne, hns⟩⟩
end
end RM
namespace RM
open PySem PySem.Spec L2
open PyProof.Rows hiding St
/-! ### raise C(e) -/
theorem relO_one {f : Str} {v : V} {v' : Value} (r : RelV v v') (g : Str) : RelO (List.lookup g [(f, v)]) (if g = f then some v' else none) := by
  by_cases hw : g = f
  · subst hw
    rw [if_pos rfl]
    have q : List.lookup g [(g, v)] = some v := by simp [List.lookup]
    rw [q]
    exact r
  · rw [if_neg hw]
    have qw : (g == f) = false := by simpa using hw
    have q2 : List.lookup g [(f, v)] = none := by simp [List.lookup, qw]
    rw [q2]
    trivial
/-- what is asked of a class whose instances are raised -/
structure RaiseC (P : Program) (K : PySem.W.Frag) (mg : Str → Option Value) (x : Str) (C fI D : Addr) (f : Str) : Prop where
  init : PInit P K mg fI D f
  cls : PCls K C fI D f
  gC : mg x = some (.ref C)
  kC : PySem.W.keepIn K (.ref C) = true
  exC : PySem.W.subIn K (.ref C) (.type "BaseException") = some true
  tyC : PySem.W.typeIn K (.ref C) = some (.type "type")
section
variable {X : Cx} {C fI D : Addr} {f : Str}
def tMkP (C : Addr) (f : Str) (ta : TA) : St → Hp → XK → Prop := fun σ H Q => ta σ H fun vs H1 => ∃ v, vs = [v] ∧ ∀ d, H1 d = none → Q (.ref C) (some d) (upd H1 d (.xd [(f, v)]))
theorem pmk_part {x : Str} {a : Expr} {ta : TA} {p pos : Pos} {k : Nat} (T : RaiseC X.prog X.K X.mg x C fI D f) (hr : Room k X.A) (ha : PA X [a] ta) (hg : Gl X x) (hdb : (x == ("__debug__" : Str)) = false := by decide)
    (he : starEach (a :: []) X.env = (false, eval a X.env) :: starEach [] X.env := by rfl) (hpl : (backTo pos (starEach [] X.env)).any (·.1) = false := by rfl) :
    PMk X (.Call (.Name x p) [a] [] pos) (tMkP C f ta) := by
  intro pins s σ H Q I h
  refine wpAny_Call_Name_kw (ld_glob I hg T.gC ?_ hdb)
  refine PySem.W.callWith_K (h₀ := X.base) I.ok.mod.kin T.kC (thn (ha.run pos pins s σ H _ I h) fun us s1 hh => ?_) he hpl
  obtain ⟨vs, H1, I1, r1, v, ev, q1⟩ := hh
  subst ev
  refine ⟨I1.kIn, ?_⟩
  cases r1 with
  | cons rv rn =>
    rename_i v' us'
    cases rn
    show wpAny _ _ (call (.ref C) [v']) _ _ _
    have hlim := I1.nolimit
    have hGm := I1.mod.glob.keeps I1.bk
    have hBm : ∃ mb, s1.heap.Ns builtinsNs mb ∧ ∀ x : Str, x ≠ "__name__" → mb x = bootBuiltins x := by
      obtain ⟨mb, h1, h2⟩ := I1.mod.blt
      exact ⟨mb, h1.keeps I1.bk, h2⟩
    obtain ⟨hp, g, dr, tk, os⟩ := s1
    refine wpAny_call (part_made T.init T.cls I1.kIn hlim hGm hBm (by have := hr.dp; omega) fun h' tk' e d M => ?_)
    show MkP X pins σ Q (.ref e) ⟨h', g, dr, tk', os⟩
    obtain ⟨oe, fv, hoe, hc, hd, hdat, h1⟩ := M.obj
    have hns := M.ns
    obtain ⟨G', g1, g2⟩ := restrict h' fun b => decide (b ≠ e)
    have gk : ∀ b, b ≠ e → G'.get? b = h'.get? b := fun b hb => g1 b (decide_eq_true hb)
    have ge : G'.get? e = none := g2 e (by simp)
    have old : ∀ b o, hp.get? b = some o → G'.get? b = some o := fun b o q => (gk b (Nat.ne_of_lt (Nat.lt_of_lt_of_le (Heap.lt_size q) M.new))).trans (M.keep b o q)
    have ob : ObjOk X.prog X.w (upd H1 d (.xd [(f, v)])) G' d (.xd [(f, v)]) :=
      ⟨_, hns.at (fun o q => (gk d M.dne).trans q), fun g => relO_one rv g⟩
    have J : Inv X pins σ (upd H1 d (.xd [(f, v)])) ⟨G', g, dr, tk', os⟩ := I1.laid (t' := tk') old M.dbig ob
    refine ⟨e, oe, fv, ⟨G', g, dr, tk', os⟩, _, .ref C, some d, rfl, J, fun b o q => ?_, ge, hoe, ⟨hc, hd⟩, hdat, h1, ?_, rfl, I1.bare, raises_own T.exC T.tyC, q1 d (I1.hok.fresh M.dbig)⟩
    · by_cases hb : b = e
      · have q' : G'.get? b = some o := q
        rw [hb, ge] at q'; cases q'
      · exact (gk b hb).symm.trans q
    · rw [upd_ne (Ne.symm M.dne)]
      exact I1.hok.fresh M.new
def tRaiseP (C : Addr) (f : Str) (W : WX) (ta : TA) : TS := fun _ σ H => tMkP C f ta σ H fun cls d H' => W cls d σ H'
theorem ps_raiseP {x : Str} {a : Expr} {ta : TA} {W : WX} {p pos pos2 : Pos} {k : Nat} (hc : X.calm = true) (T : RaiseC X.prog X.K X.mg x C fI D f) (hr : Room k X.A) (tk : Takes X W) (ha : PA X [a] ta) (hg : Gl X x) (hdb : (x == ("__debug__" : Str)) = false := by decide)
    (he : starEach (a :: []) X.env = (false, eval a X.env) :: starEach [] X.env := by rfl) (hpl : (backTo pos (starEach [] X.env)).any (·.1) = false := by rfl) :
    PS X (.Raise (some (.Call (.Name x p) [a] [] pos)) none pos2) (tRaiseP C f W ta) := ps_raise hc tk (pmk_part T hr ha hg hdb he hpl)
end
/-! ### a caught exception, kept -/
/-- an exception object of the class cls, its dict d, at a -/
def ExcO (cls : Value) (d : Option Addr) (a : Addr) : HO := .ext fun h => ∃ (oe : Obj) (vs : Array Value), h.get? a = some oe ∧ Zc cls d oe ∧ oe.data = .fields vs
theorem excO_ok {P : Program} {w : World} {H : Hp} {h : Heap} {a : Addr} {cls : Value} {d : Option Addr} {oe : Obj} {vs : Array Value} (e : h.get? a = some oe) (z : Zc cls d oe) (hd : oe.data = .fields vs) : ObjOk P w H h a (ExcO cls d a) :=
  ⟨⟨oe, vs, e, z, hd⟩, ⟨oe, e⟩, fun _ _ ⟨o, v, q, r⟩ k => ⟨o, v, k o q, r⟩⟩
theorem excO_of {P : Program} {w : World} {H : Hp} {h : Heap} {a : Addr} {cls : Value} {d : Option Addr} (x : ObjOk P w H h a (ExcO cls d a)) : ∃ (oe : Obj) (vs : Array Value), h.get? a = some oe ∧ Zc cls d oe ∧ oe.data = .fields vs := x.1
section
variable {X : Cx} {pins : List (Addr × Obj)} {σ : St} {H : Hp} {s : Shared}
theorem inv_track {a : Addr} {oe : Obj} {vs : Array Value} {cls : Value} {d : Option Addr} (I : Inv X pins σ H s) (ha : s.heap.get? a = some oe) (hz : Zc cls d oe) (hd : oe.data = .fields vs) (na : H a = none) (nL : a ≠ X.env.locals)
    (hnew : X.s_0.heap.get? a = none) (npin : ∀ p ∈ X.pn ++ pins, p.1 ≠ a) : Inv X pins σ (upd H a (ExcO cls d a)) s := by
  have ne0 : ∀ b o, X.s_0.heap.get? b = some o → b ≠ a := fun b o e z => by rw [z, hnew] at e; cases e
  refine ⟨I.ok, I.os, I.bare, ⟨I.base.keep, I.base.slot, fun b o e n hx => ?_, I.base.there, fun b xs e => ?_, fun b o u e => ?_, fun b ps e => ?_⟩, I.loc, I.cell, ?_, fun x c e => ?_, fun p hp => ?_, fun b u e => ?_, I.len⟩
  · rw [upd_ne (ne0 b o e)]
    exact I.base.free b o e n hx
  · have q := I.base.tups b xs e
    rw [upd_ne (ne_of_none q na)]
    exact q
  · have q := I.base.frzs b o u e
    rw [upd_ne (ne_of_none q na)]
    exact q
  · obtain ⟨more, q⟩ := I.base.tbls b ps e
    exact ⟨more, by rw [upd_ne (ne_of_none q na)]; exact q⟩
  · rw [upd_ne (Ne.symm nL)]
    exact I.free
  · obtain ⟨v, o, ho, hdc⟩ := I.cell x c e
    rw [upd_ne]
    · exact I.freeC x c e
    · intro z
      rw [z, ha] at ho
      cases ho
      rw [hd] at hdc
      cases hdc
  · obtain ⟨e, n, r⟩ := I.pin p hp
    exact ⟨e, by rw [upd_ne (npin p hp)]; exact n, r⟩
  · by_cases hb : b = a
    · subst hb
      rw [upd_same] at e
      cases e
      exact excO_ok ha hz hd
    · rw [upd_ne hb] at e
      exact (I.hok b u e).stay (fun c v _ q => q) (fun c q => by rw [upd_ne (ne_of_none q na)]; exact q) fun c xs q => by rw [upd_ne (ne_of_none q na)]; exact q
theorem inv_suiteT {a : Addr} (I : Inv X pins σ H s) : Inv (X.suite a (X.pn ++ pins)) [] σ H s :=
  ⟨I.ok.suite _ _, I.os, I.bare, I.base, I.loc, I.cell, I.free, I.freeC, fun p hp => I.pin p (by rw [List.append_nil] at hp; exact hp), I.hok, I.len⟩
theorem inv_unsuiteT {a : Addr} {pn' : List (Addr × Obj)} (I : Inv (X.suite a (X.pn ++ pins)) pn' σ H s) (ok : X.Ok) : Inv X pins σ H s :=
  ⟨ok, I.os, I.bare, I.base, I.loc, I.cell, I.free, I.freeC, fun p hp => I.pin p (List.mem_append_left _ hp), I.hok, I.len⟩
end
/-- what «except x as n: suite» wishes, the exception being tracked in the suite -/
def wTrk (K : PySem.W.Frag) (c : Value) (i : Nat) (ts : TS) (Wout : WX) (D : Ends) : WX := fun cls d σ H =>
  ∃ b, PySem.W.exmOne K cls c = some b ∧ (b = true → ∀ a, H a = none → ts { nx := fun σ' H' => D.nx (σ'.set i none) H', rt := D.rt, bk := fun σ' H' => D.bk (σ'.set i none) H', ct := fun σ' H' => D.ct (σ'.set i none) H' } (σ.set i (some (.ref a))) (upd H a (ExcO cls d a))) ∧
    (b = false → Wout cls d σ H)
section
variable {X : Cx} {x n : Str} {c : Value} {i : Nat} {body suite : List Stmt} {b₀ : Stmt} {np pos pos' : Pos} {tb : WX → TS} {ts : TS} {Wout : WX}
theorem ps_try_trk (hs : X.stack = X.env :: X.outer) (hf : X.env.frame = some X.env.locals) (hN : X.N.Nodup) (hi : X.N[i]? = some n) (hln : X.env.kindOf n = some .local) (hc : Names X x c) (tk : Takes X Wout) (hex : X.ex = [])
    (hb : ∀ (W : WX) (pn : List (Addr × Obj)) (xe : Value → Shared → Prop), Takes (X.tr pn xe) W → PassesOwn (model X.prog X.w) X.A X.env xe → PSs (X.tr pn xe) body (tb W))
    (hsu : ∀ (a : Addr) (pn : List (Addr × Obj)), PSs (X.suite a pn) (b₀ :: suite) ts) :
    PS X (.Try body [.ExceptHandler (some (.Name x np)) (some n) (b₀ :: suite) pos'] [] [] pos) (fun D σ H => tb (wTrk X.K c i ts Wout D) D σ H) := by
  refine ⟨fun pins s σ H D I h => ?_⟩
  have ok := I.ok
  have hfr : X.A.frames = some (X.env :: X.outer) := by rw [ok.frames, hs]
  have hloc : Loc X.env.scope n := .inl hln
  refine wpAny_Try_except ?_
  refine wpAny_mono ((hb (wTrk X.K c i ts Wout D) (X.pn ++ pins) (fun e s₁ => wpAny (model X.prog X.w) X.A (noteFrame e X.env) (fun _ s₂ => wpAny (model X.prog X.w) X.A (setFlight e none) (fun _ s₃ =>
    wpAny (model X.prog X.w) X.A (handleBy e X.env [.ExceptHandler (some (.Name x np)) (some n) (b₀ :: suite) pos']) (SP X pins D) X.xe s₃) X.xe s₂) X.xe s₁) (fun u s' xx => ?_) PassesOwn.looking).run [] s σ H D (I.toTry _) h) (fun f s1 hsp => ?_) (fun e s1 he => he)
  · -- the catch
    obtain ⟨a, B, sI, pins', σ', H', cls, d, rfl, J', nb, up, sky, na, os, ag, b, hb1, hyes, hno⟩ := xx
    have J : Inv X pins σ' H' sI := J'.ofTry ok
    have sky' : Sky B (X.env :: X.outer) a (Zc cls d) X.env.locals s'.heap := by rw [← hs]; exact sky
    show wpAny (model X.prog X.w) X.A (noteFrame (.ref a) X.env) _ _ _
    refine Sky.land Zc.steady hfr hf sky' fun h3 fl3 up3 => ?_
    have J3 : Inv X pins σ' H' { s' with heap := h3 } := J.landed nb fl3.1 (up.trans up3) os ag
    obtain ⟨oe3, vs3, he3, hz3, hd3⟩ := fl3.there
    have notFr : ∀ {h : Heap} {o : Obj} {vs : Array Value}, h.FunFrames B (X.env :: X.outer) → h.get? a = some o → o.data = .fields vs → a ∉ frs (X.env :: X.outer) := fun {h o vs} ff e dd hm => by
      obtain ⟨_, o', e', hnf⟩ := ff.mem hm
      rw [e] at e'; cases e'
      exact hnf _ dd
    have nfr := notFr fl3.2.2.1 he3 hd3
    have nL : a ≠ X.env.locals := fun z => nfr (List.mem_filterMap.mpr ⟨X.env, List.mem_cons_self, by rw [hf, z]⟩)
    have nF : a ∉ X.fs := fun hm => by
      obtain ⟨e, he, q⟩ := List.mem_filterMap.mp hm
      exact nfr (List.mem_filterMap.mpr ⟨e, List.mem_cons_of_mem _ he, q⟩)
    have nfr' : a ∉ frs X.stack := by rw [hs]; exact nfr
    have sIn : sI.heap.get? a = none := by
      cases q : sI.heap.get? a with
      | none => rfl
      | some o =>
        have z := nb a o q nfr'
        rw [fl3.2.1] at z; cases z
    have hnew : X.s_0.heap.get? a = none := by
      cases q : X.s_0.heap.get? a with
      | none => rfl
      | some o =>
        obtain ⟨o', z⟩ := J.base.there a o q (by rw [hex]; simp)
        rw [sIn] at z; cases z
    have npin : ∀ p ∈ X.pn ++ pins, p.1 ≠ a := fun p hp z => by
      have q := (J.pin p hp).1
      rw [z, sIn] at q; cases q
    have S3 := inv_suiteT (a := a) J3
    refine wpAny_handleBy_cons (codeAny_handlers_test ?_) (by intro q; cases q)
    have LT : PySem.W.Looks (model X.prog X.w) h3 (typeOf (.ref a)) cls := fun A Q E s k q => wpAny_typeOf_ref (k _ _ he3) (by rw [hz3.1]; exact q)
    have LM := PySem.W.exm_one (M := model X.prog X.w) (J3.kIn) LT hb1
    have test : ∀ {Q : Value → Shared → Prop} {E : Value → Shared → Prop}, Q c { s' with heap := h3 } → wpAny (model X.prog X.w) (X.A.mark (some (.ref a))) (eval (.Name x np) X.env) Q E { s' with heap := h3 } := fun {Q E} q => by
      obtain ⟨hg, hdbg, hm | ⟨hm, hv, hnn⟩⟩ := hc
      · exact ld_glob (X := X.suite a (X.pn ++ pins)) S3 hg hm q hdbg
      · exact ld_blt (X := X.suite a (X.pn ++ pins)) S3 hg hm hv q hnn hdbg
    refine test (LM.here ?_)
    cases b with
    | true =>
      refine codeAny_handlers_suite_as ?_
      refine HandSPX.lands_againZ fl3 fun h4 fl4 up4 => ?_
      have J4 : Inv X pins σ' H' { s' with heap := h4 } := J.landed nb fl4.1 ((up.trans up3).trans up4) os ag
      obtain ⟨oe4, vs4, he4, hz4, hd4⟩ := fl4.there
      have S4 := inv_suiteT (a := a) (inv_track J4 he4 hz4 hd4 na nL hnew npin)
      refine store_ok (X := X.suite a (X.pn ++ pins)) (v := .ref a) S4 hN hi hloc rfl (fun s5 S5 => ?_) (.inr hln)
      refine wpAny_mono ((hsu a (X.pn ++ pins)).run [] s5 _ _ _ S5 (hyes rfl a na)) (fun f s6 hsp => ?_) (fun _ _ z => False.elim z)
      have end_ : ∀ {σ6 : St} {H6 : Hp} {Q : Shared → Prop}, Inv (X.suite a (X.pn ++ pins)) [] σ6 H6 s6 → (∀ s7, Inv X pins (σ6.set i none) H6 s7 → Q s7) →
          wpAny (model X.prog X.w) X.A (do bindName X.env n .none; unbindBehindTheSuite X.env n pos') (fun _ s7 => Q s7) X.xe s6 := fun {σ6 H6 Q} S6 hq => gone_ok (inv_unsuiteT S6 ok) hN hi hln hq
      cases f with
      | next =>
        obtain ⟨σ6, H6, S6, q6⟩ := hsp
        exact end_ S6 fun s7 J7 => ⟨_, _, J7, q6⟩
      | brk =>
        obtain ⟨σ6, H6, S6, q6⟩ := hsp
        exact end_ S6 fun s7 J7 => ⟨_, _, J7, q6⟩
      | cont =>
        obtain ⟨σ6, H6, S6, q6⟩ := hsp
        exact end_ S6 fun s7 J7 => ⟨_, _, J7, q6⟩
      | ret u =>
        obtain ⟨v6, σ6, H6, S6, r6, q6⟩ := hsp
        exact end_ S6 fun s7 J7 => ⟨_, _, _, J7, r6, q6⟩
    | false =>
      show wpAny _ X.A (handleBy (.ref a) X.env []) _ _ _
      refine wpAny_handleBy_nil ?_
      obtain ⟨k1, k2, k3, oe, vs, T, oT, ts', he, hz, hd, h1, hr⟩ := id fl3
      unfold PySem.passOn
      refine wpAny_bind (wpAny_field he hd h1 ?_)
      rw [if_neg (show ¬ ((Value.ref T == Value.none) = true) from by simp)]
      have fin : wpAny (model X.prog X.w) X.A (setFlight (.ref a) X.env.frame) (fun _ s4 => wpAny (model X.prog X.w) X.A (throw (.ref a) : Sem Flow) (SP X pins D) X.xe s4) X.xe { s' with heap := h3 } := by
        rw [hf]
        refine HandSPX.setFlight_upZ fl3 fun h4 hh4 up4 => wpAny_throw (tk _ _ ?_)
        exact ⟨a, B, sI, pins, σ', H', cls, d, rfl, J, nb, (up.trans up3).trans up4, .inr (.inr (by rw [hs]; exact hh4)), na, os, ag, hno rfl⟩
      first
        | exact wpAny_bind (wpAny_pure (wpAny_bind fin))
        | exact wpAny_bind fin
  · cases f with
    | next =>
      obtain ⟨σ', H', J', q⟩ := hsp
      exact wpAny_execs_nil ⟨σ', H', J'.ofTry ok, q⟩
    | brk =>
      obtain ⟨σ', H', J', q⟩ := hsp
      exact ⟨σ', H', J'.ofTry ok, q⟩
    | cont =>
      obtain ⟨σ', H', J', q⟩ := hsp
      exact ⟨σ', H', J'.ofTry ok, q⟩
    | ret u =>
      obtain ⟨v, σ', H', J', r, q⟩ := hsp
      exact ⟨v, σ', H', J'.ofTry ok, r, q⟩
end
end RM
namespace RM
open PySem PySem.Spec L2
open PyProof.Rows hiding St
/-- what isinstance and attributes ask of an exception class -/
structure ExcK (K : PySem.W.Frag) (D : Addr) : Prop where
  hc : (PySem.W.clsIn K D).isSome = true
  hg : PySem.W.findIn K (.ref D) "__getattribute__" = some (some (.builtin "BaseException.__getattribute__"))
  hk : PySem.W.findIn K (.ref D) "__getattr__" = some none
  hs : PySem.W.subIn K (.ref D) (.type "BaseException") = some true
  hd : PySem.W.hasDictIn K D = true
  ha : PySem.W.findIn K (.ref D) "__class__" = some (some (.builtin "object.__class__"))
  hn : PySem.W.specialIn K (.builtin "object.__class__") "__get__" = some (some (.builtin "getset_descriptor.__get__"))
  ht : PySem.W.takesIn K (.builtin "object.__class__") = some true
  hm : PySem.W.mroIn K D (.type "object") = some true
/-- a tracked exception of the class at D, with one attribute or none -/
def ExcAt (H : Hp) (a D : Addr) (fs : List (Str × V)) : Prop := ∃ dd, H a = some (ExcO (.ref D) (some dd) a) ∧ H dd = some (.xd fs)
inductive TyZ (K : PySem.W.Frag) (H : Hp) : V → Value → Prop where
  | base {x : V} {t : Value} (h : TyX K H x t) : TyZ K H x t
  | exc {a D : Addr} {fs : List (Str × V)} (e : ExcAt H a D fs) (k : ExcK K D) : TyZ K H (.ref a) (.ref D)
section
variable {X : Cx} {pins : List (Addr × Obj)} {σ : St} {H : Hp} {s : Shared}
theorem excAt_inst {a D : Addr} {fs : List (Str × V)} (I : Inv X pins σ H s) (e : ExcAt H a D fs) : ∃ (oe od : Obj) (mA : Str → Option Value), PySem.W.InstAt s.heap a oe D (some od) ∧ (∀ name, PySem.W.lookIn name od = some (mA name)) ∧ ∀ f, RelO (fs.lookup f) (mA f) := by
  obtain ⟨dd, h1, h2⟩ := e
  obtain ⟨oe, vs, ho, hz, hd⟩ := excO_of (I.hok a _ h1)
  have hx : ObjOk X.prog X.w H s.heap dd (.xd fs) := I.hok dd _ h2
  obtain ⟨mA, hns, hr⟩ := hx
  obtain ⟨od, hod, hl⟩ := lookIn_ns hns
  exact ⟨oe, od, mA, ⟨ho, hz.1, by unfold PySem.W.notCls; rw [hd] <;> rfl, by rw [hz.2]; exact hod⟩, hl, hr⟩
def rIsiZ (K : PySem.W.Frag) : List V → Hp → VK → Prop := fun xs H Q => ∃ (x c : V) (t u : Value) (b : Bool), xs = [x, c] ∧ ClsV c u ∧ TyZ K H x t ∧ PySem.W.kitOne K t u = some b ∧ Q (.bl b) H
theorem call_isiZ : CallR X (.builtin "isinstance") (rIsiZ X.K) := by
  intro pins s σ H xs us Q I r h
  obtain ⟨x, c, t, u, b, rfl, k, ty, e, q⟩ := h
  cases ty with
  | base ty => exact call_isi pins s σ H _ us Q I r ⟨x, c, t, u, b, rfl, k, ty, e, q⟩
  | @exc a D fs ea kk =>
    obtain ⟨u1, u2, rfl, r1, r2⟩ := vals2 r
    have e2 := k.eq r2
    subst e2
    cases (show u1 = Value.ref a from r1)
    obtain ⟨oe, od, mA, J, _, _⟩ := excAt_inst I ea
    exact PySem.W.kia_one (PySem.W.kitx_exc (od := some od) kk.hc kk.hg kk.hk kk.hs kk.ha kk.hn kk.ht kk.hm) I.kIn J e (fun z => nomatch z) fun tk => ⟨.bl b, H, I.tok tk, rfl, q⟩
/-- e.f, e a tracked exception -/
def tExF (K : PySem.W.Frag) (f : Str) (te : TE) : TE := fun σ H Q => te σ H fun x H1 => ∃ (a D : Addr) (fs : List (Str × V)) (v : V), x = .ref a ∧ ExcAt H1 a D fs ∧ ExcK K D ∧ PySem.W.findIn K (.ref D) f = some none ∧ fs.lookup f = some v ∧ Q v H1
theorem pe_exf {e : Expr} {te : TE} {pos : Pos} {f : Str} (he : PE X e te) (hb : attributeBase e f X.env (eval e X.env) = eval e X.env := by rfl) : PE X (.Attribute e f pos) (tExF X.K f te) := by
  refine ⟨fun pins s σ H Q I h => ?_⟩
  refine attr_of hb (thn (he.run pins s σ H _ I h) fun u s1 hh => ?_)
  obtain ⟨x, H1, I1, rx, a, D, fs, v, ex, ea, kk, hno, l, q⟩ := hh
  subst ex
  obtain rfl : u = Value.ref a := rx
  obtain ⟨oe, od, mA, J, hl, hr⟩ := excAt_inst I1 ea
  obtain ⟨u, hu, ru⟩ := RelO.some_of (v := v) (o := mA f) (by rw [← l]; exact hr f)
  exact HandSPX.exc_get I1.kIn J kk.hg kk.hk kk.hs (PySem.W.findObj_own kk.hd hno rfl (by rw [hl, hu])) (handed_of ru) ⟨v, H1, I1.tok _, ru, q⟩
end
end RM
namespace RM
open PySem PySem.Spec L2 LamX
open PyProof.Rows hiding St
theorem lookup_of_nodup {y : Str} {u : Value} : ∀ {l : List (Str × Value)}, (l.map (·.1)).Nodup → (y, u) ∈ l → l.lookup y = some u
  | (z, v) :: r, nd, h => by
    rw [List.map_cons, List.nodup_cons] at nd
    rcases List.mem_cons.mp h with e | h
    · cases e
      rw [List.lookup_cons_self]
    · have ne : (y == z) = false := by
        have : y ≠ z := fun e => nd.1 (e ▸ List.mem_map.mpr ⟨_, h, rfl⟩)
        simpa using this
      rw [List.lookup_cons, ne]
      exact lookup_of_nodup nd.2 h
/-! ### a lambda with parameters: its names -/
structure LamP (sc scope : Scope) (ps N : List Str) : Prop where
  kind : scope.kind = .function
  co : scope.isCoroutine = false
  gen : scope.isGenerator = false
  noc : ∀ y ∈ scope.names, y.2 ≠ .cell
  loc : ∀ y ∈ scope.names, y.2 = .local → y.1 ∈ ps
  par : ∀ p ∈ ps, scope.names.lookup p = some .local
  nd : ps.Nodup
  free : ∀ y ∈ scope.names, y.2 = .free → sc.names.lookup y.1 = some .cell ∨ sc.names.lookup y.1 = some .free
  dis : ∀ p ∈ ps, p ∉ N
def lamPB (sc scope : Scope) (ps N : List Str) : Bool :=
  decide (scope.kind = .function) && !scope.isCoroutine && !scope.isGenerator && (scope.names.all fun y => !decide (y.2 = .cell) && (!decide (y.2 = .local) || decide (y.1 ∈ ps)) && (!decide (y.2 = .free) || decide (sc.names.lookup y.1 = some .cell) || decide (sc.names.lookup y.1 = some .free))) &&
  (ps.all fun p => decide (scope.names.lookup p = some .local) && decide (p ∉ N)) && decide ps.Nodup
theorem lamP_by {sc scope : Scope} {ps N : List Str} (h : lamPB sc scope ps N = true) : LamP sc scope ps N := by
  unfold lamPB at h
  simp only [Bool.and_eq_true, Bool.or_eq_true, Bool.not_eq_true', decide_eq_true_eq, decide_eq_false_iff_not, List.all_eq_true] at h
  obtain ⟨⟨⟨⟨⟨h1, h2⟩, h3⟩, h4⟩, h5⟩, h6⟩ := h
  refine ⟨h1, h2, h3, fun y hy => (h4 y hy).1.1, fun y hy e => ?_, fun p hp => (h5 p hp).1, h6, fun y hy e => ?_, fun p hp => (h5 p hp).2⟩
  · rcases (h4 y hy).1.2 with z | z
    · exact absurd e z
    · exact z
  · rcases (h4 y hy).2 with (z | z) | z
    · exact absurd e z
    · exact .inl z
    · exact .inr z
abbrev lamEnvP (qual : Str) (cells : List (Str × Addr)) (scope : Scope) (L f c' : Addr) : Env := PySem.W.envX (qual ++ "<lambda>") scope L f (.ref c') (cloFrom cells scope.names [])
/-- the context of such a lambda's body -/
def lamCxP (CX : CXT) (P : Program) (w : World) (K : PySem.W.Frag) (mg : Str → Option Value) (base : Heap) (N : List Str) (qual : Str) (cells : List (Str × Addr)) (A : Around) (outer : List Env) (s : Shared) (H : Hp) (E : XK) (scope : Scope) (f c' : Addr) : Cx where
  prog := P
  w := w
  K := K
  mg := mg
  base := base
  A := A.deeper (lamEnvP qual cells scope s.heap.objs.size f c')
  N := N
  s_0 := s
  H_0 := H
  env := lamEnvP qual cells scope s.heap.objs.size f c'
  outer := outer
  stack := lamEnvP qual cells scope s.heap.objs.size f c' :: outer
  ex := []
  fn := fun _ => false
  calm := true
  pn := []
  xe := fun e s' => wpAny (model P w) (A.deeper (lamEnvP qual cells scope s.heap.objs.size f c')) (leaving (lamEnvP qual cells scope s.heap.objs.size f c') e) (fun _ s'' => CX outer H s E e s'') (fun e' s'' => CX outer H s E e' s'') s'
/-- what a base says of the maker's cells: their names' values as they stand while the maker waits -/
structure Clo (B : Heap) (cells : List (Str × Addr)) (N : List Str) (σ : St) (sc : Scope) : Prop where
  inj : ∀ x y c, cells.lookup x = some c → cells.lookup y = some c → x = y
  has : ∀ x, (sc.names.lookup x = some .cell ∨ sc.names.lookup x = some .free) → ∃ c, cells.lookup x = some c
  cell : ∀ x c, cells.lookup x = some c → ∃ v, B.IsCell c v
  val : ∀ (i : Nat) (x : Str) (v : V), N[i]? = some x → σ[i]? = some (some v) → (sc.names.lookup x = some .cell ∨ sc.names.lookup x = some .free) → ∃ u c, RelV v u ∧ cells.lookup x = some c ∧ B.IsCell c (some u)
  len : σ.length = N.length
section
variable {CX : CXT} {P : Program} {w : World} {K : PySem.W.Frag} {mg : Str → Option Value} {B : Heap} {N ps : List Str} {qual : Str} {cells : List (Str × Addr)} {σ : St} {sc scope : Scope} {f c' : Addr} {params : Arguments} {body : Expr} {pm ctv : Value} {k : Nat}
/-- the promise of a lambda whose body reads tb, made where the slots were σ -/
def lamSp (c' : Addr) (q : Str) (n : Nat) (σ : St) (tb : XK → TE) : Sp := fun vs H Q E => vs.length = n ∧ H c' = some (CodeO c' q) ∧ tb E (vs.map some ++ σ) H Q
theorem lam_ok (L : LamP sc scope ps N) (C : Clo B cells N σ sc) (hf : B.get? f = some (PySem.W.kla_obj "<lambda>" (qual ++ "<lambda>") params body scope (cloFrom cells scope.names []) pm c' ctv)) {tb : XK → TE}
    (hbody : ∀ (A : Around) (outer : List Env) (s : Shared) (H : Hp) (E : XK), Room k (A.deeper (lamEnvP qual cells scope s.heap.objs.size f c')) → PE (lamCxP CX P w K mg B (ps ++ N) qual cells A outer s H E scope f c') body (tb E)) :
    FnOk P w K mg B CX (k + 1) f (PySem.W.kla_fn "<lambda>" (qual ++ "<lambda>") params body scope (cloFrom cells scope.names []) pm (.ref c') ctv) ps (lamSp c' (qual ++ "<lambda>") ps.length σ tb) := by
  have hfree : ∀ y ∈ scope.names, y.2 = .free → ∃ c, cells.lookup y.1 = some c := fun y hy e => C.has _ (L.free y hy e)
  have cm : ∀ {y c}, (cloFrom cells scope.names []).lookup y = some c → cells.lookup y = some c := fun {y c} e => by
    rcases cloFrom_mem (PySem.mem_of_lookup e) with hm | ⟨h1, h2⟩
    · cases hm
    · obtain ⟨c1, hc⟩ := hfree _ h1 rfl
      have hc : cells.lookup y = some c1 := hc
      have e2 : c = c1 := by
        rw [h2, hc] <;> rfl
      rw [e2]
      exact hc
  have look : ∀ {y}, scope.names.lookup y = some .free → ∃ c, (cloFrom cells scope.names []).lookup y = some c := fun {y} hl => by
    have hy : (y, NameKind.free) ∈ scope.names := PySem.mem_of_lookup hl
    exact mem_lookup (cloFrom_has (cells := cells) (acc := []) hy)
  refine ⟨fun vs H Q E h => h.1, fun A outer s H args us vs Q E hr e0 hb rv hsp => ?_⟩
  obtain ⟨hlen, hc', ht⟩ := hsp
  have of1 := (e0.bs _ _ hf).1
  obtain ⟨⟨oc, cvs, ct, hoc, hdc, hvc⟩, _, _⟩ := e0.hok c' _ hc'
  have lim : s.heap.NoLimit := e0.mod.nolimit.keeps fun b o e => (e0.bs b o e).1
  have hul : us.length = ps.length := rv.length.symm.trans hlen
  refine PySem.W.kla_callFunE hr.depth of1 rfl L.co L.gen rfl ⟨c', oc, cvs, ct, rfl, hoc, hdc, hvc⟩ (hb _ _ _ _ ?_)
  refine wpAny_newFunctionEnv (fun y hy => L.noc y hy) (fun ⟨n, v⟩ hy => L.par n (List.of_mem_zip hy).1) (fun h₁ hns hsb => ⟨lim.fresh _ hsb, ?_⟩) L.kind
  show codeAny _ _ (.expr body (lamEnvP qual cells scope s.heap.objs.size f c')) _ _
  have kp : ∀ b o, s.heap.get? b = some o → h₁.get? b = some o := fun b o e => hsb.extBut b o (Nat.ne_of_lt (Heap.lt_size e)) (Heap.get?_push_of_some _ e)
  have noA : ∀ b : Addr, b ∉ (lamCxP CX P w K mg B (ps ++ N) qual cells A outer s H E scope f c').ex := fun b z => absurd (show b ∈ ([] : List Addr) from z) (by simp)
  have J : Inv (lamCxP CX P w K mg B (ps ++ N) qual cells A outer s H E scope f c') [] (vs.map some ++ σ) H { s with heap := h₁, toks := s.toks + (ps.zip us).length } := by
    refine ⟨⟨e0.mod, L.kind, rfl, rfl, Nat.le_refl _, fun y z c e1 e2 => C.inj y z c (cm e1) (cm e2), fun y hy => ?_, fun y c z _ => ?_, fun _ => hr.hd, Around.frames_deeper e0.frames, .inr ⟨rfl, rfl⟩, fun b z => absurd z (noA b), e0.bs, e0.bsz, fun b _ _ => noA b,
        fun b z => absurd z (noA b), e0.funs, e0.frf⟩,
      rfl, e0.bare, Un.kept kp, ⟨_, hns, fun i y v e1 e2 e3 => ?_⟩, fun y c e => ?_, e0.hok.fresh (Nat.le_refl _), fun y c e => ?_, fun q hq => absurd (show q ∈ ([] : List (Addr × Obj)) ++ [] from hq) (by simp), e0.hok.kept kp, ?_⟩
    · have hy : scope.names.lookup y = some .cell ∨ scope.names.lookup y = some .free := hy
      rcases hy with hy | hy
      · exact absurd rfl (L.noc _ (PySem.mem_of_lookup hy))
      · exact look hy
    · have z : false = true := z
      cases z
    · have e1 : (ps ++ N)[i]? = some y := e1
      have e3 : Vis scope y := e3
      by_cases hi : i < ps.length
      · rw [List.getElem?_append_left hi] at e1
        rw [List.getElem?_append_left (by rw [List.length_map]; omega), List.getElem?_map] at e2
        cases ev : vs[i]? with
        | none => rw [ev] at e2; cases e2
        | some v0 =>
          rw [ev] at e2
          cases e2
          obtain ⟨u, hu, r⟩ := rv.get ev
          have hl := L.par y (List.mem_of_getElem? e1)
          refine ⟨u, r, .inl ⟨hl, ?_⟩⟩
          have q := bindL_get (kindOf := fun x => scope.names.lookup x) (m := fun _ => none) L.nd e1 hu hl
          show List.lookup y (ps.zip us).reverse = some u
          have hz : (y, u) ∈ (ps.zip us).reverse := by
            rw [List.mem_reverse]
            refine List.mem_iff_getElem?.mpr ⟨i, ?_⟩
            rw [List.getElem?_zip_eq_some]
            exact ⟨e1, hu⟩
          have hnd : ((ps.zip us).reverse.map (·.1)).Nodup := by
            rw [List.map_reverse, List.map_fst_zip (by omega)]
            exact List.pairwise_reverse.mpr (L.nd.imp fun h => Ne.symm h)
          exact lookup_of_nodup hnd hz
      · rw [List.getElem?_append_right (by omega)] at e1
        rw [List.getElem?_append_right (by rw [List.length_map]; omega), List.length_map, hlen] at e2
        rcases e3 with k1 | k1 | k1
        · exact absurd (List.mem_of_getElem? e1) (L.dis y (L.loc _ (PySem.mem_of_lookup k1) rfl))
        · exact absurd rfl (L.noc _ (PySem.mem_of_lookup k1))
        · obtain ⟨u, c, r, hcl, hcell⟩ := C.val _ y v e1 e2 (L.free _ (PySem.mem_of_lookup k1) rfl)
          obtain ⟨c2, h2⟩ := look k1
          have c1 := cm h2
          rw [hcl] at c1
          cases c1
          refine ⟨u, r, .inr ⟨.inr k1, c, h2, ?_⟩⟩
          obtain ⟨o, ho, hd⟩ := hcell
          exact ⟨o, kp _ _ (e0.bs _ _ ho).1, hd⟩
    · obtain ⟨v, o, ho, hd⟩ := C.cell y c (cm e)
      exact ⟨v, o, kp _ _ (e0.bs _ _ ho).1, hd⟩
    · obtain ⟨v, o, ho, hd⟩ := C.cell y c (cm e)
      exact (e0.bs _ _ ho).2
    · show (vs.map some ++ σ).length = (ps ++ N).length
      rw [List.length_append, List.length_append, List.length_map, hlen, C.len]
  refine PySem.W.kla_codeExpr (wpAny_mono ((hbody A outer s H E (hr.deeper _)).run [] _ _ H Q J ht) (fun v s' hq => ?_) fun e s' hq => hq)
  obtain ⟨w', H', J', rv', q⟩ := hq
  exact ⟨w', H', J'.os, J'.bare, J'.base, J'.hok, rv', q⟩
end
end RM
namespace RM
open PySem PySem.Spec L2 LamX
open PyProof.Rows hiding St
section
variable {X : Cx} {pins : List (Addr × Obj)} {σ : St} {H : Hp} {s : Shared}
/-- the base that a lambda made here stands in: what stood, the lambda, the maker's cells -/
theorem lam_base (I : Inv X pins σ H s) (hfn : ∀ x, X.fn x = true) {f : Addr} {o : Obj} (hf : s.heap.get? f = some o) (nH : H f = none) (nf : f ∉ frs X.stack) :
    ∃ B : Heap, (∀ b o, X.base.get? b = some o → B.get? b = some o) ∧ Env0 X.prog X.w X.K X.mg B X.A X.stack s H ∧ B.get? f = some o ∧ Clo B X.env.cells X.N σ X.env.scope := by
  let p : Addr → Bool := fun b => (X.base.get? b).isSome || decide (b = f) || X.env.cells.any fun q => decide (X.env.cells.lookup q.1 = some b)
  let l : List Addr := (List.range s.heap.objs.size).filter fun b => !p b
  have m1 : ∀ b, b ∈ l → p b = false := fun b hb => by
    have z := (List.mem_filter.mp hb).2
    simpa using z
  have m2 : ∀ b, b < s.heap.objs.size → p b = false → b ∈ l := fun b h1 h2 => List.mem_filter.mpr ⟨List.mem_range.mpr h1, by simp [h2]⟩
  have gY : ∀ b o, p b = true → s.heap.get? b = some o → (PySem.W.hideAll s.heap l).get? b = some o := fun b o hb e => PySem.W.hideAll_get l e fun hm => by rw [m1 b hm] at hb; cases hb
  have gN : ∀ b, p b = false → (PySem.W.hideAll s.heap l).get? b = none := fun b hb => by
    cases q : (PySem.W.hideAll s.heap l).get? b with
    | none => rfl
    | some o =>
      have z := PySem.W.of_hideAll l q
      rw [PySem.W.hideAll_none l (m2 b (Heap.lt_size z) hb)] at q; cases q
  have ext : ∀ b o, X.base.get? b = some o → (PySem.W.hideAll s.heap l).get? b = some o := fun b o e => gY b o (by simp [p, e]) (I.bk b o e)
  have cellIn : ∀ {x c}, X.env.cells.lookup x = some c → p c = true := fun {x c} e => by
    have : (X.env.cells.any fun q => decide (X.env.cells.lookup q.1 = some c)) = true := List.any_eq_true.mpr ⟨(x, c), PySem.mem_of_lookup e, decide_eq_true e⟩
    simp only [p, this, Bool.or_true]
  have cellNotFr : ∀ {x c}, X.env.cells.lookup x = some c → c ∉ frs X.stack := fun {x c} e hm => by
    rcases List.mem_cons.mp (I.stkSub _ hm) with z | z
    · exact I.cne x c e z
    · obtain ⟨_, o', e', _⟩ := I.ok.funs.mem z
      exact absurd (Nat.lt_of_lt_of_le (Heap.lt_size e') (I.ok.cab x c (hfn x) e)) (Nat.lt_irrefl _)
  refine ⟨PySem.W.hideAll s.heap l, ext, ⟨I.ok.frames, ⟨I.ok.mod.kin.keeps ext, I.ok.mod.glob.keeps ext, ?_, I.ok.mod.nolimit.keeps ext⟩, fun b o e => ?_, Nat.le_of_eq (PySem.W.hideAll_size _ _), ?_, I.stkFree, I.hok, I.bare⟩, gY f o (by simp [p]) hf, ⟨I.ok.inj, I.ok.has, fun x c e => ?_, fun i x v e1 e2 e3 => ?_, I.len⟩⟩
  · obtain ⟨mb, h1, h2⟩ := I.ok.mod.blt
    exact ⟨mb, h1.keeps ext, h2⟩
  · have z := PySem.W.of_hideAll l e
    refine ⟨z, ?_⟩
    cases hp : p b with
    | false => rw [gN b hp] at e; cases e
    | true =>
      simp only [p, Bool.or_eq_true, decide_eq_true_eq] at hp
      rcases hp with (hp | hp) | hp
      · obtain ⟨o', q⟩ := Option.isSome_iff_exists.mp hp
        exact (I.bs b o' q).2
      · rw [hp]; exact nH
      · obtain ⟨q, _, hq⟩ := List.any_eq_true.mp hp
        exact I.freeC q.1 b (of_decide_eq_true hq)
  · refine funFrames_none I.stack fun L hL => gN L ?_
    have h1 := (I.stack.mem hL).1
    have h2 : L ≠ f := fun z => nf (z ▸ hL)
    have h3 : (X.env.cells.any fun q => decide (X.env.cells.lookup q.1 = some L)) = false := by
      cases z : X.env.cells.any fun q => decide (X.env.cells.lookup q.1 = some L) with
      | false => rfl
      | true =>
        obtain ⟨q, _, hq⟩ := List.any_eq_true.mp z
        exact absurd hL (cellNotFr (of_decide_eq_true hq))
    simp only [p, h1, h2, h3, Option.isSome_none, decide_false, Bool.or_self]
  · obtain ⟨v, o', ho, hd⟩ := I.cell x c e
    exact ⟨v, o', gY c o' (cellIn e) ho, hd⟩
  · obtain ⟨m, hn, hl⟩ := I.loc
    have hv : Vis X.env.scope x := e3.elim (fun z => .inr (.inl z)) fun z => .inr (.inr z)
    obtain ⟨u, r, q⟩ := hl i x v e1 e2 hv
    rcases q with ⟨hk, _⟩ | ⟨_, c, hc, o', ho, hd⟩
    · have hk : X.env.scope.names.lookup x = some .local := hk
      rcases e3 with z | z <;> rw [hk] at z <;> cases z
    · exact ⟨u, c, r, hc, o', gY c o' (cellIn hc) ho, hd⟩
/-- x(e, .., lambda): the callee's promise, given the lambda's -/
def tCL (T : List (Addr × Str)) (ta : TA) (spG : Addr → Sp → Sp) (q : Str) (n : Nat) (tb : XK → TE) (E : XK) : TE := fun σ H Q => ta σ H fun vs H1 => Tabs T H1 ∧
  ∀ H2 f c', ExtN H1 H2 → Tabs T H2 → H2 f = none → H2 c' = some (CodeO c' q) → spG f (lamSp c' q n σ tb) (vs ++ [.ref f]) H2 Q E
section
variable {T : List (Addr × Str)} {c P : Addr} {x : Str} {g : Addr} {fdG : FuncData} {psG psL : List Str} {spG : Addr → Sp → Sp} {CXG CXL : CXT} {kG kL : Nat} {params : Arguments} {body : Expr} {scope : Scope} {E : XK} {tb : XK → TE} {p lpos pos : Pos}
/-- what is asked of a def that takes a def as its last argument -/
def TakesFn (X : Cx) (CXL : CXT) (psL : List Str) (kL : Nat) (CXG : CXT) (kG : Nat) (g : Addr) (fdG : FuncData) (psG : List Str) (spG : Addr → Sp → Sp) : Prop :=
  ∀ (B : Heap) (f : Addr) (fdL : FuncData) (spL : Sp), X.K.In B → B.Ns mainGlobals X.mg → FnOk X.prog X.w X.K X.mg B CXL kL f fdL psL spL → PySem.W.FnAt f B → (∀ (s : Shared) (us : List Value), us.length = psL.length → BindsTo s fdL ⟨us, []⟩ (psL.zip us)) →
    FnOk X.prog X.w X.K X.mg B CXG kG g fdG psG (spG f spL)
theorem pe_callLam (hfn : ∀ y, X.fn y = true) (G : TakesFn X CXL psL (kL + 1) CXG kG g fdG psG spG) (hr : Room kG X.A) (hg : Gl X x) (hm : X.mg x = some (.ref g)) (hk : PySem.W.keepIn X.K (.ref g) = true) (hb : Binds X.K fdG psG []) (hx : Passes CXG X E)
    (TB : TabB X.base X.mg c P) (hcode : X.env.code = .ref c) (hmT : (P, X.env.qual ++ "<lambda>") ∈ T) (hu : ∀ p ∈ T, p.1 = P → p.2 = X.env.qual ++ "<lambda>") (L : LamP X.env.scope scope psL X.N) (hdef : defaultsOf params X.env = ([], []))
    (hbind : ∀ (q : Str) (cl : List (Str × Addr)) (pm cv ctv : Value) (us : List Value), us.length = psL.length → bindArgs (PySem.W.kla_fn "<lambda>" q params body scope cl pm cv ctv) ⟨us, []⟩ = pure (psL.zip us))
    (hbody : ∀ (B : Heap) (f c' : Addr) (A : Around) (outer : List Env) (s : Shared) (H : Hp) (E : XK), X.K.In B → B.Ns mainGlobals X.mg → (∀ b o, X.base.get? b = some o → B.get? b = some o) → Room kL (A.deeper (lamEnvP X.env.qual X.env.cells scope s.heap.objs.size f c')) → PE (lamCxP CXL X.prog X.w X.K X.mg B (psL ++ X.N) X.env.qual X.env.cells A outer s H E scope f c') body (tb E))
    (hdb : (x == ("__debug__" : Str)) = false := by decide) :
    PE X (.Call (.Name x p) [.Lambda params body scope lpos] [] pos) (tCL T tNil spG (X.env.qual ++ "<lambda>") psL.length tb E) := by
  refine ⟨fun pins s σ H Q I h => ?_⟩
  obtain ⟨hT, h⟩ := h
  refine wpAny_Call_Name_kw (ld_glob I hg hm ?_ hdb)
  refine PySem.W.callWith_K (h₀ := X.base) I.ok.mod.kin hk ?_ (by rfl) (by rfl)
  show wpAny _ _ (spliced ((false, eval (.Lambda params body scope lpos) X.env) :: backTo pos (starEach [] X.env))) _ _ s
  refine Calls.spliced_cons (lam_make2 I TB hcode hmT hu hT hdef (fun y hy e => I.ok.has _ (L.free y hy e)) fun f c' pm' ctv H1 s' I1 eN T1 hf hfn' hfr hco => ?_)
  refine Calls.spliced_nil ⟨I1.kIn, ?_⟩
  obtain ⟨B, hext, e0, hBf, C⟩ := lam_base I1 hfn hf hfn' hfr
  have FL := lam_ok (CX := CXL) (K := X.K) (mg := X.mg) (P := X.prog) (w := X.w) (k := kL) L C hBf (tb := tb) (fun A outer s H E hr => hbody B f c' A outer s H E e0.mod.kin e0.mod.glob hext hr)
  have FG := G B f _ _ e0.mod.kin e0.mod.glob FL ⟨_, _, _, _, hBf⟩ (fun s us hl => .of_eq (hbind _ _ _ _ _ us hl))
  have hsp := h H1 f c' eN T1 hfn' hco
  have hl : ([Value.ref f] : List Value).length = psG.length := (FG.len _ _ _ _ hsp)
  refine wpAny_call (codeAny_mono (FG.run X.A X.stack s' H1 ⟨[.ref f], []⟩ [.ref f] [.ref f] Q E hr e0 (hb s' [.ref f] I1.kIn hl) (.cons rfl .nil) hsp) fun r s2 hq => ?_)
  cases r with
  | error e => exact hx pins σ H1 s' e s2 I1 hq
  | ok fl =>
    cases fl with
    | ret u => exact I1.after hq
    | next => exact False.elim hq
    | brk => exact False.elim hq
    | cont => exact False.elim hq
theorem pe_callLam2 {e1 : Expr} {te : TE} (he : PE X e1 te) (hfn : ∀ y, X.fn y = true) (G : TakesFn X CXL psL (kL + 1) CXG kG g fdG psG spG) (hr : Room kG X.A) (hg : Gl X x) (hm : X.mg x = some (.ref g)) (hk : PySem.W.keepIn X.K (.ref g) = true) (hb : Binds X.K fdG psG []) (hx : Passes CXG X E)
    (TB : TabB X.base X.mg c P) (hcode : X.env.code = .ref c) (hmT : (P, X.env.qual ++ "<lambda>") ∈ T) (hu : ∀ p ∈ T, p.1 = P → p.2 = X.env.qual ++ "<lambda>") (L : LamP X.env.scope scope psL X.N) (hdef : defaultsOf params X.env = ([], []))
    (hbind : ∀ (q : Str) (cl : List (Str × Addr)) (pm cv ctv : Value) (us : List Value), us.length = psL.length → bindArgs (PySem.W.kla_fn "<lambda>" q params body scope cl pm cv ctv) ⟨us, []⟩ = pure (psL.zip us))
    (hbody : ∀ (B : Heap) (f c' : Addr) (A : Around) (outer : List Env) (s : Shared) (H : Hp) (E : XK), X.K.In B → B.Ns mainGlobals X.mg → (∀ b o, X.base.get? b = some o → B.get? b = some o) → Room kL (A.deeper (lamEnvP X.env.qual X.env.cells scope s.heap.objs.size f c')) → PE (lamCxP CXL X.prog X.w X.K X.mg B (psL ++ X.N) X.env.qual X.env.cells A outer s H E scope f c') body (tb E))
    (hdb : (x == ("__debug__" : Str)) = false := by decide) (hs : starEach (e1 :: [.Lambda params body scope lpos]) X.env = (false, eval e1 X.env) :: starEach [.Lambda params body scope lpos] X.env := by rfl) :
    PE X (.Call (.Name x p) [e1, .Lambda params body scope lpos] [] pos) (tCL T (tCons te tNil) spG (X.env.qual ++ "<lambda>") psL.length tb E) := by
  refine ⟨fun pins s σ H Q I h => ?_⟩
  refine wpAny_Call_Name_kw (ld_glob I hg hm ?_ hdb)
  refine PySem.W.callWith_K (h₀ := X.base) I.ok.mod.kin hk ?_ hs (by rfl)
  rw [hs]
  show wpAny _ _ (spliced ((false, eval e1 X.env) :: (false, eval (.Lambda params body scope lpos) X.env) :: backTo pos (starEach [] X.env))) _ _ s
  refine Calls.spliced_cons (thn (he.run pins s σ H _ I h) fun u1 s1 ⟨v1, H0, I0, r1, hT, h⟩ => ?_)
  refine Calls.spliced_cons (lam_make2 I0 TB hcode hmT hu hT hdef (fun y hy e => I.ok.has _ (L.free y hy e)) fun f c' pm' ctv H1 s' I1 eN T1 hf hfn' hfr hco => ?_)
  refine Calls.spliced_nil ⟨I1.kIn, ?_⟩
  obtain ⟨B, hext, e0, hBf, C⟩ := lam_base I1 hfn hf hfn' hfr
  have FL := lam_ok (CX := CXL) (K := X.K) (mg := X.mg) (P := X.prog) (w := X.w) (k := kL) L C hBf (tb := tb) (fun A outer s H E hr => hbody B f c' A outer s H E e0.mod.kin e0.mod.glob hext hr)
  have FG := G B f _ _ e0.mod.kin e0.mod.glob FL ⟨_, _, _, _, hBf⟩ (fun s us hl => .of_eq (hbind _ _ _ _ _ us hl))
  have hsp := h H1 f c' eN T1 hfn' hco
  have hl : ([u1, Value.ref f] : List Value).length = psG.length := (FG.len _ _ _ _ hsp)
  refine wpAny_call (codeAny_mono (FG.run X.A X.stack s' H1 ⟨[u1, .ref f], []⟩ [u1, .ref f] [v1, .ref f] Q E hr e0 (hb s' [u1, .ref f] I1.kIn hl) (.cons r1 (.cons rfl .nil)) hsp) fun r s2 hq => ?_)
  cases r with
  | error e => exact hx pins σ H1 s' e s2 I1 hq
  | ok fl =>
    cases fl with
    | ret u => exact I1.after hq
    | next => exact False.elim hq
    | brk => exact False.elim hq
    | cont => exact False.elim hq
/-- a(e, ..), a a parameter that holds a def of the base -/
def tCF (i : Nat) (f : Addr) (sp : Sp) (E : St → XK) (t : TA) : TE := fun σ H Q => σ[i]? = some (some (.ref f)) ∧ t σ H fun vs H1 => sp vs H1 Q (E σ)
theorem pe_callF1 {CX : CXT} {k : Nat} {f : Addr} {fd : FuncData} {ps : List Str} {sp : Sp} {E : St → XK} {a : Str} {i : Nat} {e : Expr} {es : List Expr} {t : TA} (F : FnOk X.prog X.w X.K X.mg X.base CX k f fd ps sp) (hr : Room k X.A) (hN : X.N[i]? = some a) (hv : Vis X.env.scope a)
    (hf : PySem.W.FnAt f X.base) (hb : ∀ (s : Shared) (us : List Value), us.length = ps.length → BindsTo s fd ⟨us, []⟩ (ps.zip us)) (hx : ∀ σ, PassesAt CX X σ (E σ)) (ha : PA X (e :: es) t)
    (hd : (a == ("__debug__" : Str)) = false := by decide) (hcd : (a == ("__classdict__" : Str)) = false := by decide) (he : starEach (e :: es) X.env = (false, eval e X.env) :: starEach es X.env := by rfl) (hpl : (backTo pos (starEach es X.env)).any (·.1) = false := by rfl) :
    PE X (.Call (.Name a p) (e :: es) [] pos) (tCF i f sp E t) := by
  refine ⟨fun pins s σ H Q I h => ?_⟩
  obtain ⟨hs, h⟩ := h
  refine wpAny_Call_Name_kw (thn ((pe_var (pos := p) (i := i) hN hv hd hcd).run pins s σ H (fun v H1 => v = .ref f ∧ H1 = H) I ⟨.ref f, hs, rfl, rfl⟩) fun u s1 ⟨v, H1, I1, r1, q1⟩ => ?_)
  obtain ⟨ev, eH⟩ := q1
  subst ev
  rw [eH] at I1
  obtain rfl : u = Value.ref f := r1
  have at_ : ∀ {pins σ H s}, Inv X pins σ H s → PySem.W.FnAt f s.heap := fun {pins σ H s} I => by
    obtain ⟨oc, od, fd, sl, e⟩ := hf
    exact ⟨oc, od, fd, sl, I.bk _ _ e⟩
  refine PySem.W.callWith_F (at_ I1) (thn (ha.run pos pins s1 σ H _ I1 h) fun us s2 ⟨vs, H2, I2, rv, q⟩ => ⟨at_ I2, ?_⟩) he hpl
  have hl : us.length = ps.length := rv.length.symm.trans (F.len _ _ _ _ q)
  refine wpAny_call (codeAny_mono (F.run X.A X.stack s2 H2 ⟨us, []⟩ us vs Q (E σ) hr I2.env0 (hb s2 us hl) rv q) fun r s' hq => ?_)
  cases r with
  | error e => exact hx σ pins H2 s2 e s' I2 hq
  | ok fl =>
    cases fl with
    | ret u => exact I2.after hq
    | next => exact False.elim hq
    | brk => exact False.elim hq
    | cont => exact False.elim hq
theorem pe_callF0 {CX : CXT} {k : Nat} {f : Addr} {fd : FuncData} {sp : Sp} {E : St → XK} {a : Str} {i : Nat} (F : FnOk X.prog X.w X.K X.mg X.base CX k f fd [] sp) (hr : Room k X.A) (hN : X.N[i]? = some a) (hv : Vis X.env.scope a)
    (hf : PySem.W.FnAt f X.base) (hb : ∀ (s : Shared) (us : List Value), us.length = ([] : List Str).length → BindsTo s fd ⟨us, []⟩ (([] : List Str).zip us)) (hx : ∀ σ, PassesAt CX X σ (E σ))
    (hd : (a == ("__debug__" : Str)) = false := by decide) (hcd : (a == ("__classdict__" : Str)) = false := by decide) :
    PE X (.Call (.Name a p) [] [] pos) (tCF i f sp E tNil) := by
  refine ⟨fun pins s σ H Q I h => ?_⟩
  obtain ⟨hs, h⟩ := h
  refine wpAny_Call_Name_kw (thn ((pe_var (pos := p) (i := i) hN hv hd hcd).run pins s σ H (fun v H1 => v = .ref f ∧ H1 = H) I ⟨.ref f, hs, rfl, rfl⟩) fun u s1 ⟨v, H1, I1, r1, q1⟩ => ?_)
  obtain ⟨ev, eH⟩ := q1
  subst ev
  rw [eH] at I1
  obtain rfl : u = Value.ref f := r1
  have at_ : PySem.W.FnAt f s1.heap := by
    obtain ⟨oc, od, fd, sl, e⟩ := hf
    exact ⟨oc, od, fd, sl, I1.bk _ _ e⟩
  refine PySem.W.callWith_F0 at_ ?_
  refine wpAny_call (codeAny_mono (F.run X.A X.stack s1 H ⟨[], []⟩ [] [] Q (E σ) hr I1.env0 (hb s1 [] rfl) .nil h) fun r s' hq => ?_)
  cases r with
  | error e => exact hx σ pins H s1 e s' I1 hq
  | ok fl =>
    cases fl with
    | ret u => exact I1.after hq
    | next => exact False.elim hq
    | brk => exact False.elim hq
    | cont => exact False.elim hq
end
end
end RM
namespace PySem
open Sem (wp)
open AutoSeq1 (wpAny_loadPart')
set_option maxHeartbeats 1000000 in
theorem rm_enum_newB {v : Value} {o : Obj} {H : Heap → Prop} (B : Begins v o H) :
    Meets (Builtin.«enumerate.__new__» ⟨[.type "enumerate", v], []⟩) (fun _ R s => H s.heap ∧
      R (.ok (.ret (.ref (s.heap.push o).objs.size))) { s with heap := (s.heap.push o).push { cls := .type "enumerate", data := .fields #[.none, .bool false, .ref s.heap.objs.size, rawInt 0, .none, .none] } }) :=
  .of_wp fun prog w A R s h => by
    obtain ⟨hp, g, d, tk, os⟩ := s; obtain ⟨h1, h⟩ := h
    have hsub := sub_enumerate
    have q1 : ∀ {A' : Around} {E : Value → Shared → Prop} {Q : Value → Shared → Prop}, Q (.ref hp.objs.size) ⟨hp.push o, g, d, tk, os⟩ → wpAny (model prog w) A' (pyIter v) Q E ⟨hp, g, d, tk, os⟩ :=
      fun q => B.iter prog w _ _ ⟨hp, g, d, tk, os⟩ _ h1 q
    wp_walk using q1
    refine wpAny_stack_any fun st => wpAny_pure ?_
    split
    · rename_i c _ _ _ _ _
      cases (c == Value.type "enumerate")
      · wp_walk using q1
        exact ⟨_, rfl, h⟩
      · wp_walk using q1
        exact ⟨_, rfl, h⟩
    · wp_walk using q1
      exact ⟨_, rfl, h⟩
section
variable {prog : Program} {w : World} {A : Around} {E : Value → Shared → Prop} {s : Shared}
theorem rm_enum_begins {v : Value} {o : Obj} {H : Heap → Prop} {Q : Value → Shared → Prop} (B : Begins v o H) (h1 : H s.heap)
    (h : ∀ h', IsEnum h' (s.heap.objs.size + 1) s.heap.objs.size 0 .none → h'.get? s.heap.objs.size = some o → h'.objs.size = s.heap.objs.size + 2 →
      (∀ b o, s.heap.get? b = some o → h'.get? b = some o) → Q (.ref (s.heap.objs.size + 1)) { s with heap := h' }) :
    wpAny (model prog w) A (call (.type "enumerate") [v]) Q E s := by
  refine callType_new F.called_enumerate (by decide) (F.typeCall_enumerate_1 _) (F.newCall_enumerate_1 _) (fun obj => F.args_object_init_2 obj _) F.entry_enumerate_new
    (rm_enum_newB B) ⟨h1, ?_⟩
  have hz : (s.heap.push o).objs.size = s.heap.objs.size + 1 := Heap.size_push ..
  show _ ∧ _
  rw [hz]
  have he : IsEnum ((s.heap.push o).push { cls := .type "enumerate", data := .fields #[.none, .bool false, .ref s.heap.objs.size, rawInt 0, .none, .none] }) (s.heap.objs.size + 1) s.heap.objs.size 0 .none := by
    have := Heap.get?_push_size (s.heap.push o) (o := { cls := .type "enumerate", data := .fields #[.none, .bool false, .ref s.heap.objs.size, rawInt 0, .none, .none] }) rfl
    rw [hz] at this; exact this
  refine ⟨⟨_, he, rfl⟩, h _ he (Heap.get?_push_of_some _ (Heap.get?_push_size _ B.free)) (by rw [Heap.size_push, hz]) fun b o x => Heap.get?_push_of_some _ (Heap.get?_push_of_some _ x)⟩
theorem rm_enum_endT {e it l : Addr} {i : Nat} {items : Array Value} {old : Value} {Q : Option Value → Shared → Prop} (hh : A.handled = none)
    (he : IsEnum s.heap e it i old) (hit : s.heap.IsTupleIter it l i) (hl : s.heap.IsTuple l items) (hx : items[i]? = none)
    (hQ : ∀ h', Heap.ExtBut it s.heap h' → Q none { s with heap := h' }) : wpAny (model prog w) A (pyNext (.ref e)) Q E s := by
  have hT : s.TypeIs (.ref e) "enumerate" := ⟨_, he, rfl⟩
  unfold pyNext
  refine wpAny_bind (wpAny_attempt (wpAny_callSpecial?_slot (name := Str.ofString "__next__") hT F.slot_enumerate_next
    (wpAny_call_entry F.slot_enumerate_next hT F.entry_enumerate_next ?_ (F.args_enumerate_next_1 _))))
  show wpAny _ _ (field (.ref e) 2 >>= _) _ _ _
  refine wpAny_bind (wpAny_field he rfl (x := .ref it) rfl ?_)
  refine wpAny_bind (wpAny_nextOf_tuple_end hh hit hl hx fun h' x he' hx' => ?_)
  obtain ⟨o, ho, hc⟩ := hx'
  refine wpAny_bind (wpAny_isInstance (T := "StopIteration") (b := true) ⟨o, ho, hc⟩ isSubtype_stop ?_)
  exact wpAny_pure (hQ _ he')
end
end PySem
namespace RM
open PySem PySem.Spec L2
open PyProof.Rows hiding St
/-! ### lists and tuples alike -/
def SqS (K : PySem.W.Frag) (H : Hp) (a : Addr) (xs : List V) : Prop := SqL K H a xs ∨ SqT K H a xs
/-- over a list or a tuple -/
def iSeq (K : PySem.W.Frag) (tl : TE) : TI := fun σ H R => tl σ H fun x H1 => ∃ a, x = .ref a ∧ (((∃ xs, SqL K H1 a xs) ∧ R (Itl K a) H1) ∨ ((∃ xs, SqT K H1 a xs) ∧ R (Itt K a) H1))
theorem pi_seq {X : Cx} {tg l : Expr} {tl : TE} (hl : PE X l tl) : PI X tg l (iSeq X.K tl) := by
  refine ⟨fun pins s σ H R I h => ?_⟩
  refine thn (hl.run pins s σ H _ I h) fun v s1 ⟨x, H1, I1, r1, q1⟩ => ?_
  obtain ⟨a, e, ⟨⟨xs, hq⟩, q⟩ | ⟨⟨xs, hq⟩, q⟩⟩ := q1
  · subst e
    cases r1
    obtain ⟨its, rv, p, hz⟩ := I1.list hq
    refine wpAny_pyIter_list p.isList ?_
    refine ⟨s1.heap.objs.size, [s1.heap.objs.size], _, _, H1, rfl, I1.kept (t' := s1.toks) fun b o e => Heap.get?_push_of_some _ e, turn_list a _, ⟨_, Heap.get?_push_size _ rfl, rfl, rfl⟩, fun b hb => ?_, q⟩
    have e : b = s1.heap.objs.size := by simpa using hb
    subst e
    exact I1.fpOk (Nat.le_refl _) (I1.hok.fresh (Nat.le_refl _))
  · subst e
    cases r1
    obtain ⟨its, rv, p, hz⟩ := I1.tuple hq
    refine wpAny_pyIter_tuple (show s1.heap.IsTuple a its.toArray from p) ?_
    refine ⟨s1.heap.objs.size, [s1.heap.objs.size], _, _, H1, rfl, I1.kept (t' := s1.toks) fun b o e => Heap.get?_push_of_some _ e, turn_tuple a _, ⟨_, Heap.get?_push_size _ rfl, rfl, rfl⟩, fun b hb => ?_, q⟩
    have e : b = s1.heap.objs.size := by simpa using hb
    subst e
    exact I1.fpOk (Nat.le_refl _) (I1.hok.fresh (Nat.le_refl _))
/-! ### enumerate over either -/
def Itet (K : PySem.W.Frag) (a : Addr) : It :=
  ⟨fun i H => ∃ (xs : List V) (x : V), SqT K H a xs ∧ xs[i]? = some x, fun i H v H' => ∃ T x, v = .ref T ∧ H T = none ∧ H' = upd H T (.tup [.int (i : Nat), x]) ∧ ∀ xs, SqT K H a xs → xs[i]? = some x, fun i H => ∃ xs : List V, SqT K H a xs ∧ xs.length ≤ i⟩
theorem turn_enumT {P : Program} {w : World} {K : PySem.W.Frag} {elts : List Expr} {kk : Nat} {tpos : Pos} (a e it : Addr) :
    Turn P w K (.Tuple elts kk tpos) (Itet K a) [e, it] e (fun i h => (∃ old, IsEnum h e it ((i : Nat) : Int) old) ∧ h.IsTupleIter it a i ∧ e ≠ it) where
  mem := by simp
  obj := fun i h st b hb => by
    obtain ⟨⟨old, he⟩, ⟨o, ho, hc, hd⟩, _⟩ := st
    have e' : b = e ∨ b = it := by simpa using hb
    rcases e' with z | z
    · rw [z]; exact ⟨_, he, fun v q => nomatch q⟩
    · rw [z]; exact ⟨o, ho, fun v q => by rw [hd] at q; cases q⟩
  keep := fun i h h' st k => let ⟨⟨old, he⟩, hi, hne⟩ := st; ⟨⟨old, k e (by simp) _ he⟩, hi.at fun o q => k it (by simp) o q, hne⟩
  item := by
    intro X hP hw hK hc i pins s σ H E I hf st hg
    subst hP hw hK
    obtain ⟨⟨old, he⟩, hit, hne⟩ := st
    obtain ⟨xs, x, hq, hx⟩ := hg
    obtain ⟨its, rv, p, hz⟩ := I.tuple hq
    obtain ⟨u, hu, ru⟩ := rv.get hx
    have hel : e < s.heap.objs.size := Heap.lt_size he
    have hil : it < s.heap.objs.size := by obtain ⟨_, q, _⟩ := hit; exact Heap.lt_size q
    have p' : s.heap.IsTuple a its.toArray := p
    have hait : a ≠ it := fun z => by
      obtain ⟨o1, q1, c1, d1⟩ := hit
      obtain ⟨o2, q2, c2, n2, d2⟩ := p'
      rw [z, q1] at q2
      cases q2
      rw [d1] at d2
      cases d2
    have hae : e ≠ a := fun z => by
      obtain ⟨o2, q2, c2, n2, d2⟩ := p'
      have he' : s.heap.get? e = some _ := he
      rw [z, q2] at he'
      cases he'
      cases d2
    have hlt : i < its.toArray.size := by
      have := (List.getElem?_eq_some_iff.mp hu).1
      simpa using this
    refine wpAny_pyNext_enum_itemD (Draws.tuple (by exact I.ok.hd hc) it a hait its.toArray) he ⟨hit, p'⟩ hlt hne (by simp [hne, hae]) fun x' h' tk hx' ho hit' hT hsz hk => ?_
    have ex : x' = u := by
      have h2 : its.toArray[i]? = some x' := hx'
      rw [List.getElem?_toArray, hu] at h2
      exact (Option.some.inj h2).symm
    subst ex
    refine ⟨_, rfl, wpAny_letOwnedTupleGo_enum (s := { s with heap := h', toks := tk + 1 }) ho fun h'' he' sb => ?_⟩
    have hT2 : h''.get? s.heap.objs.size = some { cls := .type "tuple", data := .seq #[.int i tk, x'] } := (sb.2 _ (Nat.ne_of_gt hel)).trans hT
    have new : ObjOk X.prog X.w (upd H s.heap.objs.size (.tup [.int (i : Nat), x])) h'' s.heap.objs.size (.tup [.int (i : Nat), x]) :=
      ⟨by show 2 ≤ sizeLine; decide, [.int i tk, x'], .cons ⟨_, rfl⟩ (.cons ru .nil), ⟨_, hT2, rfl, _, rfl⟩⟩
    have I1 : Inv X pins σ (upd H s.heap.objs.size (.tup [.int (i : Nat), x])) { s with heap := h'', toks := tk + 1 } :=
      I.turnedNew (ch := [e, it]) (fun b ob hb q => (sb.2 b (fun z => hb (by simp [z]))).trans (hk b ob (fun z => hb (by simp [z])) (fun z => hb (by simp [z])) q)) hf (Nat.le_refl _) new
    refine ⟨.ref s.heap.objs.size, _, I1, rfl, ⟨_, x, rfl, I.hok.fresh (Nat.le_refl _), rfl, fun ys hy => by rw [I.tuple_inj hy hq]; exact hx⟩, ⟨⟨x', ?_⟩, hit'.1.at fun o q => (sb.2 it (Ne.symm hne)).trans q, hne⟩, fun b hb => ?_⟩
    · have e1 : ((i + 1 : Nat) : Int) = (i : Int) + 1 := by omega
      rw [e1]; exact he'
    · have hb' : b < s.heap.objs.size := by
        have e' : b = e ∨ b = it := by simpa using hb
        rcases e' with z | z
        · rw [z]; exact hel
        · rw [z]; exact hil
      rw [upd_ne (Nat.ne_of_lt hb')]
      exact (hf b hb).1
  done := by
    intro X hP hw hK hc i pins s σ H E I hf st hg
    subst hP hw hK
    obtain ⟨⟨old, he⟩, hit, hne⟩ := st
    obtain ⟨xs, hq, hx⟩ := hg
    obtain ⟨its, rv, p, hz⟩ := I.tuple hq
    obtain ⟨f0, f1, f2, f3, f4, f5⟩ := hf it (by simp)
    have hl := rv.length
    have p' : s.heap.IsTuple a its.toArray := p
    exact rm_enum_endT (I.ok.hd hc) he hit p' (by simp; omega) fun h' eb => ⟨rfl, I.turned (t' := s.toks) (fun b o hb q => eb b o hb q) f0 f1 f3 f4 f5⟩
  self := fun A i s Q E st h => let ⟨⟨_, he⟩, _⟩ := st; wpAny_pyIter_enum he h
def iEnumS (K : PySem.W.Frag) (ta : TA) : TI := fun σ H R => ta σ H fun vs H1 => ∃ a, vs = [.ref a] ∧ (((∃ xs, SqL K H1 a xs) ∧ R (Ite K a) H1) ∨ ((∃ xs, SqT K H1 a xs) ∧ R (Itet K a) H1))
theorem pi_enumS {X : Cx} {e : Expr} {ta : TA} {p pos tpos : Pos} {elts : List Expr} {kk : Nat} (hg : Gl X "enumerate") (hm : X.mg "enumerate" = none) (ha : PA X [e] ta) (hs : starEach [e] X.env = [(false, eval e X.env)] := by rfl) :
    PI X (.Tuple elts kk tpos) (.Call (.Name "enumerate" p) [e] [] pos) (iEnumS X.K ta) := by
  refine ⟨fun pins s σ H R I h => ?_⟩
  refine Call_ (ld_blt I hg hm boot_enumerate (PyProof.Rows.callWith_type1 (thn (ha.run pos pins s σ H _ I h) fun us s1 ⟨vs, H1, I1, r1, q1⟩ => ?_) hs rfl))
  obtain ⟨a, ex, ⟨⟨xs, hq⟩, q⟩ | ⟨⟨xs, hq⟩, q⟩⟩ := q1
  · subst ex
    cases r1 with
    | cons r rr =>
      cases rr
      cases r
      obtain ⟨its, rv, p', hz⟩ := I1.list hq
      refine call_enumerate_list p'.isList fun h' he hit hsz hk => wpAny_pyIter_enum he ?_
      have I2 : Inv X pins σ H1 { s1 with heap := h' } := I1.kept (t' := s1.toks) hk
      refine ⟨s1.heap.objs.size + 1, [s1.heap.objs.size + 1, s1.heap.objs.size], _, _, H1, rfl, I2, turn_enum a (s1.heap.objs.size + 1) s1.heap.objs.size, ⟨⟨.none, he⟩, hit, Nat.succ_ne_self _⟩, fun b hb => ?_, q⟩
      have e' : b = s1.heap.objs.size + 1 ∨ b = s1.heap.objs.size := by simpa using hb
      have hle : s1.heap.objs.size ≤ b := by
        rcases e' with z | z
        · rw [z]; exact Nat.le_add_right _ _
        · rw [z]; exact Nat.le_refl _
      exact I1.fpOk hle (I1.hok.fresh hle)
  · subst ex
    cases r1 with
    | cons r rr =>
      cases rr
      cases r
      obtain ⟨its, rv, p', hz⟩ := I1.tuple hq
      have p'' : s1.heap.IsTuple a its.toArray := p'
      refine rm_enum_begins (begins_tuple a its.toArray) p'' fun h' he hit hsz hk => wpAny_pyIter_enum he ?_
      have I2 : Inv X pins σ H1 { s1 with heap := h' } := I1.kept (t' := s1.toks) hk
      refine ⟨s1.heap.objs.size + 1, [s1.heap.objs.size + 1, s1.heap.objs.size], _, _, H1, rfl, I2, turn_enumT a (s1.heap.objs.size + 1) s1.heap.objs.size, ⟨⟨.none, he⟩, ⟨_, hit, rfl, rfl⟩, Nat.succ_ne_self _⟩, fun b hb => ?_, q⟩
      have e' : b = s1.heap.objs.size + 1 ∨ b = s1.heap.objs.size := by simpa using hb
      have hle : s1.heap.objs.size ≤ b := by
        rcases e' with z | z
        · rw [z]; exact Nat.le_add_right _ _
        · rw [z]; exact Nat.le_refl _
      exact I1.fpOk hle (I1.hok.fresh hle)
end RM
namespace RM
open PySem PySem.Spec L2 LamX
open PyProof.Rows hiding St
/-! ### heaps that go on -/
/-- all that is tracked stays, but at S; the tables of code objects may grow -/
structure Le (T : List (Addr × Str)) (S : List Addr) (H H' : Hp) : Prop where
  ext : ∀ b o, H b = some o → b ∉ S → (∀ ps, o ≠ .tbl ps) → H' b = some o
  tab : Tabs T H → Tabs T H'
section
variable {T : List (Addr × Str)} {S S' : List Addr} {H H' H1 H2 : Hp} {K : PySem.W.Frag} {a p : Addr} {o : HO} {xs : List V}
theorem Le.refl : Le T S H H := ⟨fun _ _ h _ _ => h, id⟩
theorem Le.trans (a : Le T S H H1) (b : Le T S H1 H2) : Le T S H H2 := ⟨fun c o h n m => b.ext c o (a.ext c o h n m) n m, fun t => b.tab (a.tab t)⟩
theorem Le.mono (a : Le T S H H1) (h : ∀ s ∈ S, s ∈ S') : Le T S' H H1 := ⟨fun c o e n m => a.ext c o e (fun z => n (h c z)) m, a.tab⟩
theorem Le.up (a : Le T [] H H1) : Le T S H H1 := a.mono fun s z => absurd z (by simp)
theorem Le.same (e : ∀ b o, H b = some o → H' b = some o) : Le T S H H' := ⟨fun b o h _ _ => e b o h, fun t => t.ext e⟩
theorem Le.new (h : H p = none) : Le T S H (upd H p o) := .same fun b u e => by rw [upd_ne (ne_of_none e h)]; exact e
/-- a further new object -/
theorem Le.add (e : Le T S H H') (h : H' p = none) : Le T S H (upd H' p o) := e.trans (.new h)
theorem codeO_nl {c : Addr} {q : Str} : CodeO c q ≠ .lst xs := fun z => by unfold CodeO at z; cases z
theorem codeO_nd {c : Addr} {q : Str} {kvs : List (Key × V)} : CodeO c q ≠ .dK kvs := fun z => by unfold CodeO at z; cases z
theorem codeO_nt {c : Addr} {q : Str} {kvs : List (List Key × V)} : CodeO c q ≠ .dT kvs := fun z => by unfold CodeO at z; cases z
theorem tabs_put (t : Tabs T H) {u : HO} (hl : H p = some o) (h1 : ∀ ps, o ≠ .tbl ps) (h2 : ∀ c q, o ≠ CodeO c q) : Tabs T (upd H p u) := fun x hx => by
  obtain ⟨ps, a1, a2, a3⟩ := t x hx
  refine ⟨ps, by rw [upd_ne]; exact a1; intro z; rw [z, hl] at a1; exact h1 ps (Option.some.inj a1), a2, fun pos cv hc => ?_⟩
  obtain ⟨c, e1, e2⟩ := a3 pos cv hc
  exact ⟨c, e1, by rw [upd_ne]; exact e2; intro z; rw [z, hl] at e2; exact h2 p x.2 (Option.some.inj e2)⟩
/-- an object that S names is changed -/
theorem Le.put (e : Le T S H H') {u : HO} (hl : H' p = some o) (hp : p ∈ S ∨ H p = none) (h1 : ∀ ps, o ≠ .tbl ps) (h2 : ∀ c q, o ≠ CodeO c q) : Le T S H (upd H' p u) := by
  refine ⟨fun b w hb n m => ?_, fun t => tabs_put (e.tab t) hl h1 h2⟩
  have ne : b ≠ p := by
    intro z
    rcases hp with z1 | z1
    · exact n (z ▸ z1)
    · rw [z, z1] at hb; cases hb
  rw [upd_ne ne]
  exact e.ext b w hb n m
theorem Le.putL (e : Le T S H H') {u : HO} (hl : H' p = some (.lst xs)) (hp : p ∈ S ∨ H p = none) : Le T S H (upd H' p u) := e.put hl hp (fun ps z => by cases z) fun c q z => (codeO_nl z.symm)
theorem Le.putD (e : Le T S H H') {u : HO} {kvs : List (Key × V)} (hl : H' p = some (.dK kvs)) (hp : p ∈ S ∨ H p = none) : Le T S H (upd H' p u) := e.put hl hp (fun ps z => by cases z) fun c q z => (codeO_nd z.symm)
theorem Le.free (e : Le T [] H H') (h : H' p = none) : H p = none ∨ ∃ ps, H p = some (.tbl ps) := by
  cases q : H p with
  | none => exact .inl rfl
  | some o =>
    by_cases ht : ∃ ps, o = .tbl ps
    · obtain ⟨ps, rfl⟩ := ht
      exact .inr ⟨ps, rfl⟩
    · rw [e.ext p o q (by simp) fun ps z => ht ⟨ps, z⟩] at h; cases h
theorem Le.extN (e : ExtN H H') (t : Tabs T H → Tabs T H') : Le T [] H H' := ⟨fun b o h _ n => e b o h n, t⟩
theorem Le.at (e : Le T S H H') (h : H a = some o) (n : a ∉ S) (ht : ∀ ps, o ≠ .tbl ps) : H' a = some o := e.ext a o h n ht
theorem Le.lst (e : Le T S H H') (h : H a = some (.lst xs)) (n : a ∉ S) : H' a = some (.lst xs) := e.ext a _ h n fun ps z => by cases z
theorem Le.sqL (e : Le T S H H') (h : SqL K H a xs) (n : a ∉ S) : SqL K H' a xs := by
  rcases h with (h | ⟨o, h⟩) | h
  · exact .inl (.inl (e.ext _ _ h n fun ps z => by cases z))
  · exact .inl (.inr ⟨o, e.ext _ _ h n fun ps z => by cases z⟩)
  · exact .inr h
theorem Le.sqT (e : Le T S H H') (h : SqT K H a xs) (n : a ∉ S) : SqT K H' a xs := by
  rcases h with (h | ⟨o, h⟩) | h
  · exact .inl (.inl (e.ext _ _ h n fun ps z => by cases z))
  · exact .inl (.inr ⟨o, e.ext _ _ h n fun ps z => by cases z⟩)
  · exact .inr h
theorem Le.sqS (e : Le T S H H') (h : SqS K H a xs) (n : a ∉ S) : SqS K H' a xs := h.elim (fun z => .inl (e.sqL z n)) fun z => .inr (e.sqT z n)
end
/-! ### data -/
mutual
theorem Le.dp {T : List (Addr × Str)} {H H' : Hp} {K : PySem.W.Frag} (e : Le T [] H H') : ∀ {d : PyData} {v : V}, Dp K H v d → Dp K H' v d
  | .none, _, h => by cases h; exact .non
  | .bool b, _, h => by cases h; exact .bl b
  | .int i, _, h => by cases h; exact .int i
  | .str x, _, h => by cases h; exact .str x
  | .list ds, _, h => by
    cases h with
    | lst hs ha => exact .lst (e.sqL hs (by simp)) (e.dpAll ha)
  | .tuple ds, _, h => by
    cases h with
    | tup hs ha => exact .tup (e.sqT hs (by simp)) (e.dpAll ha)
  | .dict _, _, h => by cases h
theorem Le.dpAll {T : List (Addr × Str)} {H H' : Hp} {K : PySem.W.Frag} (e : Le T [] H H') : ∀ {ds : List PyData} {vs : List V}, DpAll K H vs ds → DpAll K H' vs ds
  | [], _, h => by cases h; exact .nil
  | d :: ds, _, h => by
    cases h with
    | cons h1 h2 => exact .cons (e.dp h1) (e.dpAll h2)
end
mutual
/-- no list in it -/
def noL : PyData → Bool
  | .list _ | .dict _ => false
  | .tuple ds => noLs ds
  | _ => true
def noLs : List PyData → Bool
  | [] => true
  | d :: ds => noL d && noLs ds
end
/-- at S no tuples stand -/
def NoTup (H : Hp) (S : List Addr) : Prop := ∀ s ∈ S, (∀ xs, H s ≠ some (.tup xs)) ∧ ∀ o xs, H s ≠ some (.frz o (.tup xs))
theorem Le.sqT' {T : List (Addr × Str)} {S : List Addr} {H H' : Hp} {K : PySem.W.Frag} {a : Addr} {xs : List V} (e : Le T S H H') (hS : NoTup H S) (h : SqT K H a xs) : SqT K H' a xs := by
  rcases h with (h | ⟨o, h⟩) | h
  · exact .inl (.inl (e.ext _ _ h (fun z => (hS a z).1 _ h) fun ps z => by cases z))
  · exact .inl (.inr ⟨o, e.ext _ _ h (fun z => (hS a z).2 _ _ h) fun ps z => by cases z⟩)
  · exact .inr h
mutual
theorem Le.dpT {T : List (Addr × Str)} {S : List Addr} {H H' : Hp} {K : PySem.W.Frag} (e : Le T S H H') (hS : NoTup H S) : ∀ {d : PyData} {v : V}, noL d = true → Dp K H v d → Dp K H' v d
  | .none, _, _, h => by cases h; exact .non
  | .bool b, _, _, h => by cases h; exact .bl b
  | .int i, _, _, h => by cases h; exact .int i
  | .str x, _, _, h => by cases h; exact .str x
  | .list ds, _, n, h => by simp [noL] at n
  | .tuple ds, _, n, h => by
    cases h with
    | tup hs ha => exact .tup (e.sqT' hS hs) (e.dpTs hS (by simpa [noL] using n) ha)
  | .dict _, _, _, h => by cases h
theorem Le.dpTs {T : List (Addr × Str)} {S : List Addr} {H H' : Hp} {K : PySem.W.Frag} (e : Le T S H H') (hS : NoTup H S) : ∀ {ds : List PyData} {vs : List V}, noLs ds = true → DpAll K H vs ds → DpAll K H' vs ds
  | [], _, _, h => by cases h; exact .nil
  | d :: ds, _, n, h => by
    have n' : noL d = true ∧ noLs ds = true := by simpa [noLs] using n
    cases h with
    | cons h1 h2 => exact .cons (e.dpT hS n'.1 h1) (e.dpTs hS n'.2 h2)
end
section
variable {K : PySem.W.Frag} {H : Hp}
theorem dpa_len : ∀ {vs : List V} {ds : List PyData}, DpAll K H vs ds → vs.length = ds.length
  | _, _, .nil => rfl
  | _, _, .cons _ h => congrArg Nat.succ (dpa_len h)
theorem dpa_get : ∀ {vs : List V} {ds : List PyData} {i : Nat} {d : PyData}, DpAll K H vs ds → ds[i]? = some d → ∃ v, vs[i]? = some v ∧ Dp K H v d
  | _, _, _, _, .nil, e => by simp at e
  | _, _, 0, _, .cons h _, e => by simp at e; subst e; exact ⟨_, rfl, h⟩
  | _, _, i + 1, d, .cons _ t, e => by
    obtain ⟨v, h1, h2⟩ := dpa_get (i := i) (d := d) t (by simpa using e)
    exact ⟨v, by simpa using h1, h2⟩
theorem dpa_get' : ∀ {vs : List V} {ds : List PyData} {i : Nat} {v : V}, DpAll K H vs ds → vs[i]? = some v → ∃ d, ds[i]? = some d ∧ Dp K H v d
  | _, _, _, _, .nil, e => by simp at e
  | _, _, 0, _, .cons h _, e => by simp at e; subst e; exact ⟨_, rfl, h⟩
  | _, _, i + 1, d, .cons _ t, e => by
    obtain ⟨v, h1, h2⟩ := dpa_get' (i := i) t (by simpa using e)
    exact ⟨v, by simpa using h1, h2⟩
theorem dpa_app : ∀ {vs ws : List V} {ds es : List PyData}, DpAll K H vs ds → DpAll K H ws es → DpAll K H (vs ++ ws) (ds ++ es)
  | _, _, _, _, .nil, s => s
  | _, _, _, _, .cons r t, s => .cons r (dpa_app t s)
theorem dpa_snoc {vs : List V} {ds : List PyData} {v : V} {d : PyData} (h : DpAll K H vs ds) (g : Dp K H v d) : DpAll K H (vs ++ [v]) (ds ++ [d]) := dpa_app h (.cons g .nil)
theorem dp_int_of {v : V} {i : Int} (h : Dp K H v (.int i)) : v = .int i := by cases h; rfl
theorem dp_tup_of {v : V} {ds : List PyData} (h : Dp K H v (.tuple ds)) : ∃ a xs, v = .ref a ∧ SqT K H a xs ∧ DpAll K H xs ds := by cases h with | tup a b => exact ⟨_, _, rfl, a, b⟩
theorem dp_lst_of {v : V} {ds : List PyData} (h : Dp K H v (.list ds)) : ∃ a xs, v = .ref a ∧ SqL K H a xs ∧ DpAll K H xs ds := by cases h with | lst a b => exact ⟨_, _, rfl, a, b⟩
theorem dpa_ints : ∀ (ns : List Int), DpAll K H (ns.map V.int) (ns.map PyData.int)
  | [] => .nil
  | n :: ns => .cons (.int n) (dpa_ints ns)
theorem dpa_ints_of : ∀ {ns : List Int} {vs : List V}, DpAll K H vs (ns.map PyData.int) → vs = ns.map V.int
  | [], _, .nil => rfl
  | n :: ns, _, .cons h t => by cases h; rw [dpa_ints_of t]; rfl
/-- a list or a tuple of these -/
def seqD (b : Bool) (ds : List PyData) : PyData := if b then .tuple ds else .list ds
theorem dp_seq_of {v : V} {b : Bool} {ds : List PyData} (h : Dp K H v (seqD b ds)) : ∃ a xs, v = .ref a ∧ SqS K H a xs ∧ DpAll K H xs ds := by
  cases b with
  | true => obtain ⟨a, xs, e, s, r⟩ := dp_tup_of h; exact ⟨a, xs, e, .inr s, r⟩
  | false => obtain ⟨a, xs, e, s, r⟩ := dp_lst_of h; exact ⟨a, xs, e, .inl s, r⟩
theorem dp_tup {p : Addr} {xs : List V} {ds : List PyData} (h : H p = some (.tup xs)) (r : DpAll K H xs ds) : Dp K H (.ref p) (.tuple ds) := .tup (SqT.of h) r
theorem dp_lst {p : Addr} {xs : List V} {ds : List PyData} (h : H p = some (.lst xs)) (r : DpAll K H xs ds) : Dp K H (.ref p) (.list ds) := .lst (SqL.of h) r
end
/-! ### the type of a value -/
def tyD : PyData → String
  | .none => "NoneType"
  | .bool _ => "bool"
  | .int _ => "int"
  | .str _ => "str"
  | .list _ => "list"
  | .tuple _ => "tuple"
  | .dict _ => "dict"
theorem sqL_ty {K : PySem.W.Frag} {H : Hp} {a : Addr} {xs : List V} (h : SqL K H a xs) : TyX K H (.ref a) (.type "list") := by
  rcases h with (h | ⟨o, h⟩) | ⟨o, its, n, h, hc, _⟩
  · exact .base (.lst h)
  · exact .base (.frz h)
  · exact .kList h hc
theorem sqT_ty {K : PySem.W.Frag} {H : Hp} {a : Addr} {xs : List V} (h : SqT K H a xs) : TyX K H (.ref a) (.type "tuple") := by
  rcases h with (h | ⟨o, h⟩) | ⟨o, its, n, h, hc, _⟩
  · exact .base (.tup h)
  · exact .fTuple h
  · exact .kTuple h hc
theorem dp_ty {K : PySem.W.Frag} {H : Hp} {v : V} {d : PyData} (h : Dp K H v d) : TyX K H v (.type (tyD d)) := by
  cases h with
  | non => exact .base .non
  | bl b => exact .base (.bl b)
  | int i => exact .base (.int i)
  | str x => exact .base (.str x)
  | lst hs _ => exact sqL_ty hs
  | tup hs _ => exact sqT_ty hs
/-! ### loops -/
section
variable {K : PySem.W.Frag} {a : Addr} {xs : List V} {g : TG} {tb : TS} {D : Ends} {σ : St} {H : Hp}
def ForW (J : It) (g : TG) (tb : TS) (D : Ends) (σ : St) (H : Hp) : Prop := ∃ W : Nat → Nat → St → Hp → Prop, (∃ m, W 0 m σ H) ∧ ∀ i m σ H, W i m σ H →
      (J.stop i H ∧ D.nx σ H) ∨ (J.go i H ∧ ∃ N : St → Hp → Prop, (∀ σ' H', N σ' H' → ∃ m', m' < m ∧ W (i + 1) m' σ' H') ∧ ∀ x H', J.yld i H x H' → g x σ H' fun σ2 H2 => tb { D with nx := N, ct := N, bk := D.nx } σ2 H2)
theorem for_J {J : It} {n : Nat} (Pv : Nat → St → Hp → Prop) (h0 : Pv 0 σ H) (hgo : ∀ i σ H, i < n → Pv i σ H → J.go i H) (hst : ∀ σ H, Pv n σ H → J.stop n H)
    (hs : ∀ i σ H x H', i < n → Pv i σ H → J.yld i H x H' → g x σ H' fun σ2 H2 => tb { D with nx := Pv (i + 1), ct := Pv (i + 1), bk := D.nx } σ2 H2) (hd : ∀ σ H, Pv n σ H → D.nx σ H) : ForW J g tb D σ H := by
  refine ⟨fun i m σ H => m = n - i ∧ i ≤ n ∧ Pv i σ H, ⟨n, by simp, Nat.zero_le _, h0⟩, ?_⟩
  rintro i m σ H ⟨rfl, hi, p⟩
  by_cases hlt : i < n
  · exact .inr ⟨hgo i σ H hlt p, Pv (i + 1), fun σ' H' p' => ⟨n - (i + 1), by omega, rfl, hlt, p'⟩, fun x H' y => hs i σ H x H' hlt p y⟩
  · have e : i = n := by omega
    subst e
    exact .inl ⟨hst σ H p, hd σ H p⟩
theorem for_seq (hS : SqS K H a xs) (Pv : Nat → St → Hp → Prop) (h0 : Pv 0 σ H) (keep : ∀ i σ' H', i ≤ xs.length → Pv i σ' H' → (SqL K H a xs → SqL K H' a xs) ∧ (SqT K H a xs → SqT K H' a xs))
    (hs : ∀ i x σ H, xs[i]? = some x → Pv i σ H → g x σ H fun σ2 H2 => tb { D with nx := Pv (i + 1), ct := Pv (i + 1), bk := D.nx } σ2 H2) (hd : ∀ σ H, Pv xs.length σ H → D.nx σ H) :
    ((∃ xs, SqL K H a xs) ∧ ForW (Itl K a) g tb D σ H) ∨ ((∃ xs, SqT K H a xs) ∧ ForW (Itt K a) g tb D σ H) := by
  rcases hS with h | h
  · exact .inl ⟨⟨xs, h⟩, for_list (xs := xs) Pv h0 (fun i σ' H' hi p => (keep i σ' H' hi p).1 h) hs hd⟩
  · exact .inr ⟨⟨xs, h⟩, for_tup (xs := xs) Pv h0 (fun i σ' H' hi p => (keep i σ' H' hi p).2 h) hs hd⟩
theorem for_enumS (hS : SqS K H a xs) (Pv : Nat → St → Hp → Prop) (h0 : Pv 0 σ H) (keep : ∀ i σ' H', i ≤ xs.length → Pv i σ' H' → (SqL K H a xs → SqL K H' a xs) ∧ (SqT K H a xs → SqT K H' a xs))
    (hs : ∀ (i : Nat) x p σ H, xs[i]? = some x → H p = none → Pv i σ H → g (.ref p) σ (upd H p (.tup [.int i, x])) fun σ2 H2 => tb { D with nx := Pv (i + 1), ct := Pv (i + 1), bk := D.nx } σ2 H2) (hd : ∀ σ H, Pv xs.length σ H → D.nx σ H) :
    ((∃ xs, SqL K H a xs) ∧ ForW (Ite K a) g tb D σ H) ∨ ((∃ xs, SqT K H a xs) ∧ ForW (Itet K a) g tb D σ H) := by
  rcases hS with h | h
  · refine .inl ⟨⟨xs, h⟩, for_J (n := xs.length) Pv h0 (fun i σ' H' hi p => ⟨xs, xs[i], (keep i σ' H' (Nat.le_of_lt hi) p).1 h, by simp [hi]⟩) (fun σ' H' p => ⟨xs, (keep _ σ' H' (Nat.le_refl _) p).1 h, Nat.le_refl _⟩) (fun i σ' H' x H2 hi p y => ?_) hd⟩
    obtain ⟨q, z, rfl, hq, rfl, hz⟩ := y
    exact hs i z q σ' H' (hz xs ((keep i σ' H' (Nat.le_of_lt hi) p).1 h)) hq p
  · refine .inr ⟨⟨xs, h⟩, for_J (n := xs.length) Pv h0 (fun i σ' H' hi p => ⟨xs, xs[i], (keep i σ' H' (Nat.le_of_lt hi) p).2 h, by simp [hi]⟩) (fun σ' H' p => ⟨xs, (keep _ σ' H' (Nat.le_refl _) p).2 h, Nat.le_refl _⟩) (fun i σ' H' x H2 hi p y => ?_) hd⟩
    obtain ⟨q, z, rfl, hq, rfl, hz⟩ := y
    exact hs i z q σ' H' (hz xs ((keep i σ' H' (Nat.le_of_lt hi) p).2 h)) hq p
end
end RM
namespace RM
open PySem PySem.Spec L2 LamX He
open PyProof.Rows hiding St
/-! ### the head's facts: defs by where they stand, further facts as Bools -/
abbrev FnR : Type := Option (Str × Str × Arguments × FuncBody × Scope × Addr × List Str × Addr)
def fnR (K : PySem.W.Frag) (a : Addr) : FnR := match K.lookup a with
  | some ⟨_, _, .func fd, _⟩ => some (fd.name, fd.qualname, fd.params, fd.body, fd.scope, fd.globals, fd.closure.map (·.1), fd.builtins)
  | _ => none
structure DefR where
  at_ : PySem.W.Frag → Addr
  name : Str
  qual : Str
  params : Arguments
  body : List Stmt
  scope : Scope
  clo : List Str := []
  dfl : List Dv := []
def DefR.val (d : DefR) : FnR := some (d.name, d.qual, d.params, .stmts d.body, d.scope, mainGlobals, d.clo, builtinsNs)
def DefR.dvs (K : PySem.W.Frag) (d : DefR) : List V := d.dfl.map (Dv.v K)
def DefR.ok (K : PySem.W.Frag) (d : DefR) : Bool := PySem.W.keepIn K (.ref (d.at_ K)) && (match K.lookup (d.at_ K) with
  | some ⟨_, _, .func fd, _⟩ => PySem.W.codeIn K fd.code d.qual && dflB K fd.defaults (d.dvs K)
  | _ => false)
/-- what is known of such a def's object -/
structure FunR (K : PySem.W.Frag) (d : DefR) (fd : FuncData) : Prop where
  ex : ∃ (oc : Value) (od : Option Addr) (dV kV doc pm : Value) (an : Option Addr) (cdv ct : Value) (osl : Array (Option Value)) (cl : List (Str × Addr)),
    fd = { name := d.name, qualname := d.qual, params := d.params, body := .stmts d.body, scope := d.scope, globals := mainGlobals, closure := cl, defaults := dV, kwdefaults := kV, doc := doc, pyModule := pm, annotations := an, code := cdv, closureTuple := ct, builtins := builtinsNs } ∧
    cl.map (·.1) = d.clo ∧ K.lookup (d.at_ K) = some ⟨oc, od, .func fd, osl⟩ ∧ PySem.W.codeIn K cdv d.qual = true ∧ DflV K dV (d.dvs K)
  kp : PySem.W.keepIn K (.ref (d.at_ K)) = true
theorem DefR.funR {K : PySem.W.Frag} {d : DefR} (e : fnR K (d.at_ K) = d.val) (c : d.ok K = true) : ∃ fd, FunR K d fd := by
  obtain ⟨kp, c2⟩ := ba c
  unfold fnR at e
  cases q : K.lookup (d.at_ K) with
  | none =>
    rw [q] at c2
    cases c2
  | some o =>
    obtain ⟨oc, od, dt, osl⟩ := o
    rw [q] at c2 e
    cases dt with
    | func fd =>
      obtain ⟨n1, n2, n3, n4, n5, n6, n7, n8, n9, n10, n11, n12, n13, n14, n15⟩ := fd
      have e2 : (some (n1, n2, n3, n4, n5, n6, n7.map (·.1), n15) : FnR) = some (d.name, d.qual, d.params, .stmts d.body, d.scope, mainGlobals, d.clo, builtinsNs) := e
      simp only [Option.some.injEq, Prod.mk.injEq] at e2
      obtain ⟨h1, h2, h3, h4, h5, h6, h7, h8⟩ := e2
      subst h1 h2 h3 h4 h5 h6 h8
      have c3 : (PySem.W.codeIn K n13 d.qual && dflB K n8 (d.dvs K)) = true := c2
      obtain ⟨k1, k3⟩ := ba c3
      exact ⟨_, ⟨oc, od, n8, n9, n10, n11, n12, n13, n14, osl, n7, rfl, h7, q, k1, dflB_ok k3⟩, kp⟩
    | _ => cases c2
theorem FunR.funD {K : PySem.W.Frag} {d : DefR} {fd : FuncData} (F : FunR K d fd) (h : d.clo = []) : FunD K d.name d.qual d.params d.body d.scope (d.dvs K) [] (d.at_ K) fd := by
  obtain ⟨⟨oc, od, dV, kV, doc, pm, an, cdv, ct, osl, cl, rfl, hcl, lk, k1, k2⟩, kp⟩ := F
  rw [h] at hcl
  obtain rfl : cl = [] := List.map_eq_nil_iff.mp hcl
  exact ⟨⟨oc, od, dV, kV, doc, pm, an, cdv, ct, osl, rfl, lk, k1, k2, .inl rfl⟩, kp⟩
abbrev AlR : Type := List FnR × Bool
def asR (g : Addr → Option Obj) (n : Nat) : List Addr := cStatics :: asD g n
def obsR (n : Nat) (fb : List (PySem.W.Frag → Bool)) (fn : List DefR) (tf : List Defn) (g : Addr → Option Obj) : AlR :=
  (fn.map (fun d => fnR (frT g (asR g n)) (d.at_ (frT g (asR g n)))), (fb.all (fun f => f (frT g (asR g n))) && fn.all (fun d => d.ok (frT g (asR g n)))) && tabsB g tf (frT g (asR g n)))
def valR (fn : List DefR) : AlR := (fn.map DefR.val, true)
structure SaysR (fb : List (PySem.W.Frag → Bool)) (fn : List DefR) (tf : List Defn) (h : Heap) (K : PySem.W.Frag) : Prop where
  defs : fn.map (fun d => fnR K (d.at_ K)) = fn.map DefR.val
  facts : ∀ f ∈ fb, f K = true
  oks : ∀ d ∈ fn, d.ok K = true
  hd : ∀ p ∈ tf, PySem.W.codeHdIn K (cT K p).1 (cT K p).2 = true
  out : ∀ p ∈ tf, K.lookup (cT K p).2 = none
  empty : ∀ p ∈ tf, h.get? (cT K p).2 = some { cls := .none, data := .fields #[] }
theorem saysR_of {n : Nat} {fb : List (PySem.W.Frag → Bool)} {fn : List DefR} {tf : List Defn} {h : Heap} (e : obsR n fb fn tf h.get? = valR fn) : SaysR fb fn tf h (frT h.get? (asR h.get? n)) := by
  have e1 : fn.map (fun d => fnR (frT h.get? (asR h.get? n)) (d.at_ (frT h.get? (asR h.get? n)))) = fn.map DefR.val := congrArg (fun z : AlR => z.1) e
  have e2 : ((fb.all (fun f => f (frT h.get? (asR h.get? n))) && fn.all (fun d => d.ok (frT h.get? (asR h.get? n)))) && tabsB h.get? tf (frT h.get? (asR h.get? n))) = true := congrArg (fun z : AlR => z.2) e
  obtain ⟨h1, h2⟩ := ba e2
  obtain ⟨h3, h4⟩ := ba h1
  have key : ∀ p ∈ tf, PySem.W.codeHdIn (frT h.get? (asR h.get? n)) (cT (frT h.get? (asR h.get? n)) p).1 (cT (frT h.get? (asR h.get? n)) p).2 = true ∧ ∃ o, h.get? (cT (frT h.get? (asR h.get? n)) p).2 = some o ∧ emptyTab o = true := fun p hp => by
    obtain ⟨h3, h4⟩ := ba (List.all_eq_true.mp h2 p hp)
    refine ⟨h3, ?_⟩
    cases q : h.get? (cT (frT h.get? (asR h.get? n)) p).2 with
    | none =>
      rw [q] at h4
      cases h4
    | some o =>
      rw [q] at h4
      exact ⟨o, rfl, h4⟩
  exact ⟨e1, fun f hf => List.all_eq_true.mp h3 f hf, fun d hd => List.all_eq_true.mp h4 d hd, fun p hp => (key p hp).1, fun p hp => by
    obtain ⟨_, o, q, z⟩ := key p hp
    exact frT_none q z, fun p hp => by
    obtain ⟨_, o, q, z⟩ := key p hp
    rw [q, emptyTab_eq z]⟩
def hookR (n : Nat) (fb : List (PySem.W.Frag → Bool)) (fn : List DefR) (tf : List Defn) : PySem.W.Hook where
  α := AlR
  obs := fun s => obsR n fb fn tf s.heap.get?
  val := fun _ => valR fn
  says := fun _ h => ∃ K : PySem.W.Frag, K.In h ∧ SaysR fb fn tf h K
  of := fun _ _ e => ⟨_, frT_in, saysR_of e⟩
  keeps := fun _ _ _ ⟨K, hK, c⟩ k => ⟨K, PySem.W.Frag.In.keeps hK k, ⟨c.defs, c.facts, c.oks, c.hd, c.out, fun p hp => k _ _ (c.empty p hp)⟩⟩
theorem obsR_eq {n : Nat} {fb : List (PySem.W.Frag → Bool)} {fn : List DefR} {tf : List Defn} {g : Addr → Option Obj} {s : Shared} (h : ∀ a, g a = s.heap.get? a) : obsR n fb fn tf g = (hookR n fb fn tf).obs s := by
  have e : g = s.heap.get? := funext h
  rw [e] <;> rfl
section
variable {fb : List (PySem.W.Frag → Bool)} {fn : List DefR} {tf : List Defn} {h : Heap} {K : PySem.W.Frag}
theorem SaysR.def_ (c : SaysR fb fn tf h K) (i : Nat) {d : DefR} (e : fn[i]? = some d) : ∃ fd, FunR K d fd := by
  have e2 : (fn.map (fun d => fnR K (d.at_ K)))[i]? = (fn.map DefR.val)[i]? := by rw [c.defs]
  rw [List.getElem?_map, List.getElem?_map, e] at e2
  exact DefR.funR (Option.some.inj e2) (c.oks d (List.mem_of_getElem? e))
theorem SaysR.fact (c : SaysR fb fn tf h K) (i : Nat) {f : PySem.W.Frag → Bool} (e : fb[i]? = some f) : f K = true := c.facts f (List.mem_of_getElem? e)
end
/-! ### facts as Bools -/
def gloB (x : Str) (K : PySem.W.Frag) : Bool := (Fa.glo x).ok K
def freeB (x : Str) (K : PySem.W.Frag) : Bool := (Fa.free x).ok K
def intB (x : Str) (i : Int) (K : PySem.W.Frag) : Bool := (Fa.int x i).ok K
def clsB (x : Str) (K : PySem.W.Frag) : Bool := (Fa.cls x).ok K
def noatB (x f : Str) (K : PySem.W.Frag) : Bool := (Fa.noat x f).ok K
def methB (x m : Str) (K : PySem.W.Frag) : Bool := (Fa.meth x m).ok K
def mkrB (x : Str) (K : PySem.W.Frag) : Bool := (Fa.mkr x).ok K
def exmB (x y : Str) (b : Bool) (K : PySem.W.Frag) : Bool := (Fa.exm x y b).ok K
def eqOB {α : Type} [DecidableEq α] (a : Option α) (b : α) : Bool := decide (a = some b)
/-- a property -/
def propAd (x f : Str) (K : PySem.W.Frag) : Addr := ma K (ga K x) f
def propGet (x f : Str) (K : PySem.W.Frag) : Addr := match PySem.W.recIn K (propAd x f K) "property" with
  | some (.ref g :: _) => g
  | _ => 0
def propB (x f : Str) (K : PySem.W.Frag) : Bool := eqO (PySem.W.findIn K (.ref (ga K x)) f) (some (some (.ref (propAd x f K)))) && (eqO (PySem.W.specialIn K (.ref (propAd x f K)) "__get__") (some (some (.builtin "property.__get__"))) &&
  (decide (PySem.W.takesIn K (.ref (propAd x f K)) = some true) && (match PySem.W.recIn K (propAd x f K) "property" with
    | some (.ref _ :: _) => true
    | _ => false)))
theorem propB_ok {x f : Str} {K : PySem.W.Frag} (h : propB x f K = true) : PropOf K (ga K x) f (propAd x f K) (propGet x f K) := by
  obtain ⟨h1, h⟩ := ba h
  obtain ⟨h2, h⟩ := ba h
  obtain ⟨h3, h4⟩ := ba h
  refine ⟨eqO_ok h1, eqO_ok h2, of_decide_eq_true h3, ?_⟩
  unfold propGet
  cases q : PySem.W.recIn K (propAd x f K) "property" with
  | none => rw [q] at h4; cases h4
  | some l =>
    rw [q] at h4
    cases l with
    | nil => cases h4
    | cons v r =>
      cases v with
      | ref g => exact ⟨r, rfl⟩
      | _ => cases h4
/-- isinstance's answers of an own class -/
def insKB (x : Str) (K : PySem.W.Frag) : Bool := eqO (PySem.W.findIn K (.ref (ga K x)) "__class__") (some (some (.builtin "object.__class__"))) && (eqO (PySem.W.specialIn K (.builtin "object.__class__") "__get__") (some (some (.builtin "getset_descriptor.__get__"))) &&
  (decide (PySem.W.takesIn K (.builtin "object.__class__") = some true) && decide (PySem.W.mroIn K (ga K x) (.type "object") = some true)))
theorem insKB_ok {x : Str} {K : PySem.W.Frag} (h : insKB x K = true) (c : Cls K (ga K x)) {H : Hp} {a dx : Addr} {fs : List (Str × V)} (e : H a = some (.ins (ga K x) dx fs)) : TyX K H (.ref a) (.ref (ga K x)) := by
  obtain ⟨h1, h⟩ := ba h
  obtain ⟨h2, h⟩ := ba h
  obtain ⟨h3, h4⟩ := ba h
  exact .base (.ins e c (eqO_ok h1) (eqO_ok h2) (of_decide_eq_true h3) (of_decide_eq_true h4))
def kitB2 (x y : Value) (b : Bool) (K : PySem.W.Frag) : Bool := decide (PySem.W.kitOne K x y = some b)
/-- an exception class that is made by an __init__ with super(): at x, its __init__ at D's (the class that wrote it) -/
def excKB (x : Str) (K : PySem.W.Frag) : Bool := (PySem.W.clsIn K (ga K x)).isSome && (eqO (PySem.W.findIn K (.ref (ga K x)) "__getattribute__") (some (some (.builtin "BaseException.__getattribute__"))) && (eqO (PySem.W.findIn K (.ref (ga K x)) "__getattr__") (some none) &&
  (decide (PySem.W.subIn K (.ref (ga K x)) (.type "BaseException") = some true) && (PySem.W.hasDictIn K (ga K x) && insKB x K))))
theorem excKB_ok {x : Str} {K : PySem.W.Frag} (h : excKB x K = true) : ExcK K (ga K x) := by
  obtain ⟨h1, h⟩ := ba h
  obtain ⟨h2, h⟩ := ba h
  obtain ⟨h3, h⟩ := ba h
  obtain ⟨h4, h⟩ := ba h
  obtain ⟨h5, h⟩ := ba h
  obtain ⟨h6, h⟩ := ba h
  obtain ⟨h7, h⟩ := ba h
  obtain ⟨h8, h9⟩ := ba h
  exact ⟨h1, eqO_ok h2, eqO_ok h3, of_decide_eq_true h4, h5, eqO_ok h6, eqO_ok h7, of_decide_eq_true h8, of_decide_eq_true h9⟩
def clsVB (K : PySem.W.Frag) (C : Addr) : Bool := match K.lookup C with
  | some ⟨.type "type", _, .cls cd, sl⟩ => (match cd.mro, sl.toList with
    | .ref C' :: bm, [_, _, _, _, some (.builtin n), _] => C' == C && n == "ValueError.__new__" && !cd.hasDel && cd.hasDict && PySem.HandSPX.refsVE bm
    | _, _ => false)
  | _ => false
theorem clsVB_ok {K : PySem.W.Frag} {C : Addr} (q : clsVB K C = true) : ∃ nm q N bs bm sn sub ab col dd k0 k1 k2 k3 k5, K.lookup C = some (excClassObj nm q C N bs bm true sn sub ab col dd k0 k1 k2 k3 k5 "ValueError.__new__") ∧ PySem.HandSPX.refsVE bm = true := by
  unfold clsVB at q
  split at q
  · rename_i dd cd sl ho
    split at q
    · rename_i C' bm k0 k1 k2 k3 n k5 hm hs
      simp only [Bool.and_eq_true, beq_iff_eq, Bool.not_eq_true'] at q
      obtain ⟨⟨⟨⟨rfl, rfl⟩, hdel⟩, hdi⟩, hr⟩ := q
      obtain ⟨nm, bs, mro, ns, qn, hd, sn, sub, ab, col, del⟩ := cd
      dsimp only at hm hdel hdi
      subst hm hdel hdi
      have hsl : sl = #[k0, k1, k2, k3, some (.builtin "ValueError.__new__"), k5] := by
        obtain ⟨l⟩ := sl
        simp only at hs
        rw [hs]
      subst hsl
      exact ⟨nm, qn, ns, bs, bm, sn, sub, ab, col, dd, k0, k1, k2, k3, k5, ho, hr⟩
    · cases q
  · cases q
/-- an exception class at x whose __init__ is D's (the class that wrote it), for the attribute f -/
def pclsB (x d f : Str) (K : PySem.W.Frag) : Bool := clsVB K (ga K x) && (eqO (PySem.W.findIn K (.ref (ga K x)) "__setattr__") (some (some (.builtin "object.__setattr__"))) && (eqO (PySem.W.findIn K (.ref (ga K x)) f) (some none) &&
  (eqO (PySem.W.findIn K (.ref (ga K x)) "__init__") (some (some (.ref (ma K (ga K d) "__init__")))) && (decide (PySem.W.typeIn K (.ref (ma K (ga K d) "__init__")) = some (.type "function")) && (decide (PySem.W.mroIn K (ga K x) (.ref (ga K d)) = some true) &&
  (eqO (PySem.W.ks_superIn K (ga K x) (ga K d) "__init__") (some (some (.builtin "ValueError.__init__"))) && (decide (PySem.W.subIn K (.ref (ga K x)) (.type "ValueError") = some true) && (eqO (PySem.W.nsIn K cStatics "thirdparty.any") (some none) &&
  (PySem.W.keepIn K (.ref (ga K x)) && (decide (PySem.W.subIn K (.ref (ga K x)) (.type "BaseException") = some true) && decide (PySem.W.typeIn K (.ref (ga K x)) = some (.type "type"))))))))))))
theorem pclsB_ok {x d f : Str} {K : PySem.W.Frag} (h : pclsB x d f K = true) : PCls K (ga K x) (ma K (ga K d) "__init__") (ga K d) f ∧ PySem.W.keepIn K (.ref (ga K x)) = true ∧ PySem.W.subIn K (.ref (ga K x)) (.type "BaseException") = some true ∧
    PySem.W.typeIn K (.ref (ga K x)) = some (.type "type") := by
  obtain ⟨h1, h⟩ := ba h
  obtain ⟨h2, h⟩ := ba h
  obtain ⟨h3, h⟩ := ba h
  obtain ⟨h4, h⟩ := ba h
  obtain ⟨h5, h⟩ := ba h
  obtain ⟨h6, h⟩ := ba h
  obtain ⟨h7, h⟩ := ba h
  obtain ⟨h8, h⟩ := ba h
  obtain ⟨h9, h⟩ := ba h
  obtain ⟨h10, h⟩ := ba h
  obtain ⟨h11, h12⟩ := ba h
  exact ⟨⟨clsVB_ok h1, eqO_ok h2, eqO_ok h3, eqO_ok h4, of_decide_eq_true h5, of_decide_eq_true h6, eqO_ok h7, of_decide_eq_true h8, eqO_ok h9⟩, h10, of_decide_eq_true h11, of_decide_eq_true h12⟩
/-- the __init__ of the class d: its cell, its code's file -/
def initB (file : Str) (d : Str) (K : PySem.W.Frag) : Bool := (PySem.W.clsIn K (ga K d)).isSome && (match K.lookup (ma K (ga K d) "__init__") with
  | some ⟨_, _, .func fd, _⟩ => (match fd.closure, fd.code with
    | [(_, cc)], .ref cda => (match K.lookup cc with
      | some ⟨_, _, .cell (some (.ref D')), _⟩ => decide (D' = ga K d)
      | _ => false) && (match K.lookup cda with
      | some ⟨_, _, .fields vs, _⟩ => (match vs[2]? with
        | some (Value.str fl _) => (file == fl)
        | _ => false)
      | _ => false)
    | _, _ => false)
  | _ => false)
theorem pinit_of {P : Program} {K : PySem.W.Frag} {mg : Str → Option Value} {d : DefR} {fd : FuncData} {x f msg : Str} {j : Nat} {p1 p2 r0 r1 r2 r3 r4 r5 q1 q2 q3 q4 : Pos} (F : FunR K d fd) (b : initB P.main.file x K = true)
    (ha : d.at_ K = ma K (ga K x) "__init__") (hn : d.name = "__init__") (hp : d.params = xA f p1 p2) (hb : d.body = xB f msg j r0 r1 r2 r3 r4 r5 q1 q2 q3 q4) (hs : d.scope = xS f) (hd : d.dfl = []) (hc : d.clo = [("__class__" : Str)])
    (hl : (r2.endLine == r4.line) = true) (gS : mg "super" = none) (top : (P.main.scope.names.lookup ("super" : Str)).isSome = false) (fk : f = "part" ∨ f = "index" ∨ f = "most") : PInit P K mg (ma K (ga K x) "__init__") (ga K x) f := by
  obtain ⟨⟨oc, od, dV, kV, doc, pm, an, cdv, ct, osl, cl, e, hcl, lk, k1, k2⟩, kp⟩ := F
  obtain ⟨b1, b2⟩ := ba b
  rw [ha] at lk
  rw [lk] at b2
  rw [hc] at hcl
  unfold DefR.dvs at k2
  rw [hd] at k2
  subst e
  rw [hn, hp, hb, hs] at lk
  rw [hn, hp, hb, hs] at b2
  dsimp only at b2
  obtain ⟨c, rfl⟩ : ∃ c, cl = [(("__class__" : Str), c)] := by
    cases cl with
    | nil => cases hcl
    | cons u r =>
      obtain ⟨n, c⟩ := u
      rw [List.map_cons] at hcl
      obtain ⟨h1, h2⟩ := List.cons.inj hcl
      dsimp only at h1
      subst h1
      obtain rfl := List.map_eq_nil_iff.mp h2
      exact ⟨c, rfl⟩
  cases cdv with
  | ref cda =>
    dsimp only at b2
    obtain ⟨b3, b4⟩ := ba b2
    obtain rfl : dV = .none := by
      rcases k2 with ⟨_, e⟩ | ⟨e, _⟩
      · exact e
      · exact absurd rfl e
    refine ⟨⟨oc, od, osl, d.qual, msg, j, p1, p2, r0, r1, r2, r3, r4, r5, q1, q2, q3, q4, kV, doc, pm, ct, an, c, cda, lk, hl, k1, ?_, ?_⟩, Option.isSome_iff_exists.mp b1, gS, top, fk⟩
    · revert b3
      split
      · rename_i cl cld D' csl hk
        intro b3
        rw [of_decide_eq_true b3] at hk
        exact ⟨_, _, _, hk⟩
      · intro b3
        cases b3
    · revert b4
      split
      · rename_i ccl cdd vs ccs hk
        split
        · rename_i fl tf hv
          intro b4
          exact ⟨_, _, _, _, _, _, hk, hv, b4⟩
        · intro b4
          cases b4
      · intro b4
        cases b4
  | _ => cases b2
end RM
/-! Walking by what expressions and statements come to: the weakest readings -/
namespace RM
open PySem PySem.Spec L2 LamX
open PyProof.Rows hiding St
def WpE (X : Cx) (e : Expr) : TE := fun σ H Q => ∀ pins s, Inv X pins σ H s → _root_.PySem.wpAny (model X.prog X.w) X.A (eval e X.env) (EP X pins σ Q) X.xe s
def WpT (X : Cx) (e : Expr) : TT := fun σ H Q => ∀ pins s, Inv X pins σ H s → wpAny (model X.prog X.w) X.A (isTrue e X.env (eval e X.env)) (TP X pins σ Q) X.xe s
def WpW (X : Cx) (e : Expr) : TT := fun σ H Q => ∀ (whole : Sem Value) pins s, Inv X pins σ H s → wpAny (model X.prog X.w) X.A (isTrue e X.env whole) (TP X pins σ Q) X.xe s
def WpA (X : Cx) (es : List Expr) : TA := fun σ H Q => ∀ (pos : Pos) pins s, Inv X pins σ H s → wpAny (model X.prog X.w) X.A (spliced (backTo pos (starEach es X.env))) (AP X pins σ Q) X.xe s
def WpS (X : Cx) (st : Stmt) : TS := fun D σ H => ∀ pins s, Inv X pins σ H s → wpAny (model X.prog X.w) X.A (exec st X.env) (SP X pins D) X.xe s
def WpSs (X : Cx) (st : List Stmt) : TS := fun D σ H => ∀ pins s, Inv X pins σ H s → wpAny (model X.prog X.w) X.A (execs st X.env) (SP X pins D) X.xe s
section
variable {X : Cx} {T : List (Addr × Str)} {e a b c : Expr} {es rest : List Expr} {st : Stmt} {sts : List Stmt} {σ : St} {H H1 : Hp} {pos p p' : Pos}
theorem we_pe : PE X e (WpE X e) := ⟨fun pins s σ H Q I h => h pins s I⟩
theorem we_pt : PT X e (WpT X e) := ⟨fun pins s σ H Q I h => h pins s I⟩
theorem we_pw : PW X e (WpW X e) := ⟨fun wh pins s σ H Q I h => h wh pins s I⟩
theorem we_pa : PA X es (WpA X es) := ⟨fun pos pins s σ H Q I h => h pos pins s I⟩
theorem we_ps : PS X st (WpS X st) := ⟨fun pins s σ H Q I h => h pins s I⟩
theorem we_pss : PSs X sts (WpSs X sts) := ⟨fun pins s σ H Q I h => h pins s I⟩
theorem pe_we {t : TE} {Q : VK} (p : PE X e t) (h : t σ H Q) : WpE X e σ H Q := fun pins s I => p.run pins s σ H Q I h
theorem pt_we {t : TT} {Q : Bool → Hp → Prop} (p : PT X e t) (h : t σ H Q) : WpT X e σ H Q := fun pins s I => p.run pins s σ H Q I h
theorem pw_we {t : TT} {Q : Bool → Hp → Prop} (p : PW X e t) (h : t σ H Q) : WpW X e σ H Q := fun wh pins s I => p.run wh pins s σ H Q I h
theorem pa_we {t : TA} {Q : List V → Hp → Prop} (p : PA X es t) (h : t σ H Q) : WpA X es σ H Q := fun pos pins s I => p.run pos pins s σ H Q I h
theorem ps_we {t : TS} {D : Ends} (p : PS X st t) (h : t D σ H) : WpS X st D σ H := fun pins s I => p.run pins s σ H D I h
theorem pss_we {t : TS} {D : Ends} (p : PSs X sts t) (h : t D σ H) : WpSs X sts D σ H := fun pins s I => p.run pins s σ H D I h
/-! ### what an expression comes to -/
abbrev VP := V → Hp → Prop
def Stab (T : List (Addr × Str)) (R : VP) : Prop := ∀ (v : V) (H H' : Hp), Le T [] H H' → R v H → R v H'
abbrev dP (K : PySem.W.Frag) (d : PyData) : VP := fun v H => Dp K H v d
abbrev eqP (u : V) : VP := fun v _ => v = u
theorem stab_d {K : PySem.W.Frag} {d : PyData} : Stab T (dP K d) := fun v H H' l h => l.dp h
theorem stab_e {u : V} : Stab T (eqP u) := fun _ _ _ _ h => h
def Er (X : Cx) (T : List (Addr × Str)) (e : Expr) (σ : St) (H : Hp) (R : VP) : Prop := ∀ H1, Le T [] H H1 → ∀ Q : VK, (∀ v H2, Le T [] H1 H2 → R v H2 → Q v H2) → WpE X e σ H1 Q
abbrev Ed (X : Cx) (T : List (Addr × Str)) (e : Expr) (σ : St) (H : Hp) (d : PyData) : Prop := Er X T e σ H (dP X.K d)
def Et (X : Cx) (T : List (Addr × Str)) (e : Expr) (σ : St) (H : Hp) (b : Bool) : Prop := ∀ H1, Le T [] H H1 → ∀ Q : Bool → Hp → Prop, (∀ H2, Le T [] H1 H2 → Q b H2) → WpT X e σ H1 Q
def EtW (X : Cx) (T : List (Addr × Str)) (e : Expr) (σ : St) (H : Hp) (b : Bool) : Prop := ∀ H1, Le T [] H H1 → ∀ Q : Bool → Hp → Prop, (∀ H2, Le T [] H1 H2 → Q b H2) → WpW X e σ H1 Q
def AllP : List VP → List V → Hp → Prop
  | [], [], _ => True
  | R :: Rs, v :: vs, H => R v H ∧ AllP Rs vs H
  | _, _, _ => False
def Ea (X : Cx) (T : List (Addr × Str)) (es : List Expr) (σ : St) (H : Hp) (Rs : List VP) : Prop := ∀ H1, Le T [] H H1 → ∀ Q : List V → Hp → Prop, (∀ vs H2, Le T [] H1 H2 → AllP Rs vs H2 → Q vs H2) → WpA X es σ H1 Q
variable {R R' : VP} {Rs : List VP} {d d' : PyData}
theorem Er.mono (l : Le T [] H H1) (h : Er X T e σ H R) : Er X T e σ H1 R := fun H2 l2 Q q => h H2 (l.trans l2) Q q
theorem Et.mono {b : Bool} (l : Le T [] H H1) (h : Et X T e σ H b) : Et X T e σ H1 b := fun H2 l2 Q q => h H2 (l.trans l2) Q q
theorem Er.imp (h : Er X T e σ H R) (i : ∀ v H', Le T [] H H' → R v H' → R' v H') : Er X T e σ H R' := fun H1 l Q q => h H1 l Q fun v H2 l2 r => q v H2 l2 (i v H2 (l.trans l2) r)
theorem Er.run {Q : VK} (h : Er X T e σ H R) (q : ∀ v H2, Le T [] H H2 → R v H2 → Q v H2) : WpE X e σ H Q := h H .refl Q q
theorem Et.run {b : Bool} {Q : Bool → Hp → Prop} (h : Et X T e σ H b) (q : ∀ H2, Le T [] H H2 → Q b H2) : WpT X e σ H Q := h H .refl Q q
theorem Et.eq {b b' : Bool} (h : Et X T e σ H b) (q : b = b') : Et X T e σ H b' := q ▸ h
theorem Er.eq (h : Ed X T e σ H d) (q : d = d') : Ed X T e σ H d' := q ▸ h
theorem er_val {u : V} (h : ∀ H1, Le T [] H H1 → ∀ Q : VK, Q u H1 → WpE X e σ H1 Q) (r : ∀ H1, Le T [] H H1 → R u H1) : Er X T e σ H R := fun H1 l Q q => h H1 l Q (q u H1 .refl (r H1 l))
/-! names, constants -/
theorem er_var {i : Nat} {x : Str} {v : V} (hs : σ[i]? = some (some v)) (r : R v H) (st : Stab T R) (hN : X.N[i]? = some x := by rfl) (hv : Vis X.env.scope x := by first | exact .inl rfl | exact .inr (.inl rfl) | exact .inr (.inr rfl)) (hd : (x == ("__debug__" : Str)) = false := by decide) (hcd : (x == ("__classdict__" : Str)) = false := by decide) : Er X T (.Name x pos) σ H R :=
  fun H1 l Q q => pe_we (pe_var hN hv hd hcd) ⟨v, hs, q v H1 .refl (st v H H1 l r)⟩
theorem ed_var {i : Nat} {x : Str} {v : V} (hs : σ[i]? = some (some v)) (r : Dp X.K H v d) (hN : X.N[i]? = some x := by rfl) (hv : Vis X.env.scope x := by first | exact .inl rfl | exact .inr (.inl rfl) | exact .inr (.inr rfl)) (hd : (x == ("__debug__" : Str)) = false := by decide) (hcd : (x == ("__classdict__" : Str)) = false := by decide) : Ed X T (.Name x pos) σ H d :=
  er_var hs r stab_d hN hv hd hcd
theorem ed_int {i : Int} {j : Nat} : Ed X T (.Constant (.int i) j pos) σ H (.int i) := fun H1 l Q q => pe_we pe_int (q _ H1 .refl (.int i))
theorem ed_bl {b : Bool} {j : Nat} : Ed X T (.Constant (.bool b) j pos) σ H (.bool b) := fun H1 l Q q => pe_we pe_bl (q _ H1 .refl (.bl b))
theorem ed_non {j : Nat} : Ed X T (.Constant .none j pos) σ H .none := fun H1 l Q q => pe_we pe_non (q _ H1 .refl .non)
theorem ed_str {x : Str} {j : Nat} : Ed X T (.Constant (.str x) j pos) σ H (.str x) := fun H1 l Q q => pe_we pe_str (q _ H1 .refl (.str x))
theorem ed_gint {x : Str} {i : Int} (hm : ∃ t, X.mg x = some (.int i t)) (hg : Gl X x := by rfl) (hd : (x == ("__debug__" : Str)) = false := by decide) : Ed X T (.Name x pos) σ H (.int i) := fun H1 l Q q => by
  obtain ⟨t, ht⟩ := hm
  exact pe_we (pe_glob hg ht (v := .int i) ⟨t, rfl⟩ hd) (q _ H1 .refl (.int i))
theorem er_gref {x : Str} {f : Addr} (hm : X.mg x = some (.ref f)) (hg : Gl X x := by rfl) (hd : (x == ("__debug__" : Str)) = false := by decide) : Er X T (.Name x pos) σ H (eqP (.ref f)) := fun H1 l Q q => pe_we (pe_glob hg hm (v := .ref f) rfl hd) (q _ H1 .refl rfl)
theorem er_bty {x : Str} {n : String} (hm : X.mg x = none) (hv : bootBuiltins x = some (.type n)) (hg : Gl X x := by rfl) (hn : x ≠ "__name__" := by decide) (hd : (x == ("__debug__" : Str)) = false := by decide) : Er X T (.Name x pos) σ H (eqP (.ty n)) :=
  fun H1 l Q q => pe_we (pe_bltn hg hm hv (v := .ty n) rfl hn hd) (q _ H1 .refl rfl)
/-! argument lists -/
theorem ea_nil : Ea X T [] σ H [] := fun H1 l Q q => pa_we pa_nil (q [] H1 .refl trivial)
theorem ea_cons (h : Er X T e σ H R) (hr : Ea X T es σ H Rs) (st : Stab T R) (hs : starEach (e :: es) X.env = (false, eval e X.env) :: starEach es X.env := by rfl) : Ea X T (e :: es) σ H (R :: Rs) := fun H1 l Q q => by
  refine pa_we (pa_cons we_pe we_pa hs) ?_
  exact h H1 l _ fun v H2 l2 r => hr H2 (l.trans l2) _ fun vs H3 l3 r3 => q (v :: vs) H3 (l2.trans l3) ⟨st v H2 H3 l3 r, r3⟩
theorem ed_cons (h : Ed X T e σ H d) (hr : Ea X T es σ H Rs) (hs : starEach (e :: es) X.env = (false, eval e X.env) :: starEach es X.env := by rfl) : Ea X T (e :: es) σ H (dP X.K d :: Rs) := ea_cons h hr stab_d hs
theorem allP1 {R1 : VP} {vs : List V} (h : AllP [R1] vs H) : ∃ v, vs = [v] ∧ R1 v H := by
  cases vs with
  | nil => exact h.elim
  | cons v r => cases r with
    | nil => exact ⟨v, rfl, h.1⟩
    | cons _ _ => exact h.2.elim
theorem allP2 {R1 R2 : VP} {vs : List V} (h : AllP [R1, R2] vs H) : ∃ v u, vs = [v, u] ∧ R1 v H ∧ R2 u H := by
  cases vs with
  | nil => exact h.elim
  | cons v r =>
    obtain ⟨u, e, q⟩ := allP1 h.2
    exact ⟨v, u, by rw [e], h.1, q⟩
theorem allP3 {R1 R2 R3 : VP} {vs : List V} (h : AllP [R1, R2, R3] vs H) : ∃ v u w, vs = [v, u, w] ∧ R1 v H ∧ R2 u H ∧ R3 w H := by
  cases vs with
  | nil => exact h.elim
  | cons v r =>
    obtain ⟨u, w, e, q⟩ := allP2 h.2
    exact ⟨v, u, w, by rw [e], h.1, q⟩
theorem allP4 {R1 R2 R3 R4 : VP} {vs : List V} (h : AllP [R1, R2, R3, R4] vs H) : ∃ v u w y, vs = [v, u, w, y] ∧ R1 v H ∧ R2 u H ∧ R3 w H ∧ R4 y H := by
  cases vs with
  | nil => exact h.elim
  | cons v r =>
    obtain ⟨u, w, y, e, q⟩ := allP3 h.2
    exact ⟨v, u, w, y, by rw [e], h.1, q⟩
theorem allP_d {K : PySem.W.Frag} : ∀ {ds : List PyData} {vs : List V}, AllP (ds.map (dP K)) vs H → DpAll K H vs ds
  | [], [], _ => .nil
  | d :: ds, v :: vs, h => .cons h.1 (allP_d h.2)
/-! operations -/
theorem ed_op2 {op : Operator} {r : R2} (ho : OpR X (binaryOp op) r) (ha : Ed X T a σ H d) (hb : Ed X T b σ H d') (hr : ∀ x y H1, Le T [] H H1 → Dp X.K H1 x d → Dp X.K H1 y d' → ∀ Q : VK, (∀ v H2, Le T [] H1 H2 → R v H2 → Q v H2) → r x y H1 Q) : Er X T (.BinOp a op b pos) σ H R := fun H1 l Q q => by
  refine pe_we (pe_op ho we_pe we_pe) ?_
  exact ha H1 l _ fun x H2 l2 rx => hb H2 (l.trans l2) _ fun y H3 l3 ry => hr x y H3 ((l.trans l2).trans l3) (l3.dp rx) ry Q fun v H4 l4 rv => q v H4 ((l2.trans l3).trans l4) rv
theorem ed_cmp2 {op : CmpOp} {r : R2} {R1 R2' : VP} (st : Stab T R1) (ho : OpR X (compareOp op) r) (ha : Er X T a σ H R1) (hb : Er X T b σ H R2') (hm : behindInMarks op b = false) (hr : ∀ x y H1, Le T [] H H1 → R1 x H1 → R2' y H1 → ∀ Q : VK, (∀ v H2, Le T [] H1 H2 → R v H2 → Q v H2) → r x y H1 Q) : Er X T (.Compare a [op] [b] pos) σ H R := fun H1 l Q q => by
  refine pe_we (pe_cmpR ho we_pe we_pe hm) ?_
  exact ha H1 l _ fun x H2 l2 rx => hb H2 (l.trans l2) _ fun y H3 l3 ry => hr x y H3 ((l.trans l2).trans l3) (st _ _ _ l3 rx) ry Q fun v H4 l4 rv => q v H4 ((l2.trans l3).trans l4) rv
theorem et_cmp2 {op : CmpOp} {r : R2} {R1 R2' : VP} {k : Bool} (st : Stab T R1) (ho : OpR X (compareOp op) r) (ha : Er X T a σ H R1) (hb : Er X T b σ H R2') (hm : behindInMarks op b = false) (hr : ∀ x y H1, Le T [] H H1 → R1 x H1 → R2' y H1 → ∀ Q : VK, Q (.bl k) H1 → r x y H1 Q) : Et X T (.Compare a [op] [b] pos) σ H k := fun H1 l Q q => by
  refine pt_we (pt_cmpR ho we_pe we_pe hm) ?_
  exact ha H1 l _ fun x H2 l2 rx => hb H2 (l.trans l2) _ fun y H3 l3 ry => hr x y H3 ((l.trans l2).trans l3) (st _ _ _ l3 rx) ry _ ⟨k, rfl, q H3 (l2.trans l3)⟩
theorem ed_bin {op : Operator} {C : Int → Int → Prop} {g : Int → Int → Int} {i j : Int} (ho : OpR X (binaryOp op) (rI C fun i j => .int (g i j))) (ha : Ed X T a σ H (.int i)) (hb : Ed X T b σ H (.int j)) (hc : C i j) : Ed X T (.BinOp a op b pos) σ H (.int (g i j)) :=
  ed_op2 ho ha hb fun x y H1 _ rx ry Q q => by
    cases rx; cases ry
    exact ⟨i, j, rfl, rfl, hc, q _ _ .refl (.int _)⟩
theorem ed_bin0 {op : Operator} {g : Int → Int → Int} {i j : Int} (ho : OpR X (binaryOp op) (rI0 fun i j => .int (g i j))) (ha : Ed X T a σ H (.int i)) (hb : Ed X T b σ H (.int j)) : Ed X T (.BinOp a op b pos) σ H (.int (g i j)) :=
  ed_op2 ho ha hb fun x y H1 _ rx ry Q q => by
    cases rx; cases ry
    exact ⟨i, j, rfl, rfl, q _ _ .refl (.int _)⟩
theorem ed_neg {i : Int} (ha : Ed X T a σ H (.int i)) : Ed X T (.UnaryOp .USub a pos) σ H (.int (-i)) := fun H1 l Q q => by
  refine pe_we (pe_un un_neg we_pe) ?_
  refine ha H1 l _ fun x H2 l2 rx => ?_
  cases rx
  exact ⟨i, rfl, q _ H2 l2 (.int _)⟩
theorem ed_cmpI {op : CmpOp} {g : Int → Int → Bool} {i j : Int} (ho : OpR X (compareOp op) (rI0 fun i j => .bl (g i j))) (ha : Ed X T a σ H (.int i)) (hb : Ed X T b σ H (.int j)) (hm : behindInMarks op b = false := by exact nomark _) : Ed X T (.Compare a [op] [b] pos) σ H (.bool (g i j)) :=
  ed_cmp2 stab_d ho ha hb hm fun x y H1 _ rx ry Q q => by
    cases rx; cases ry
    exact ⟨i, j, rfl, rfl, q _ _ .refl (.bl _)⟩
theorem et_cmpI {op : CmpOp} {g : Int → Int → Bool} {i j : Int} (ho : OpR X (compareOp op) (rI0 fun i j => .bl (g i j))) (ha : Ed X T a σ H (.int i)) (hb : Ed X T b σ H (.int j)) (hm : behindInMarks op b = false := by exact nomark _) : Et X T (.Compare a [op] [b] pos) σ H (g i j) :=
  et_cmp2 stab_d ho ha hb hm fun x y H1 _ rx ry Q q => by
    cases rx; cases ry
    exact ⟨i, j, rfl, rfl, q⟩
theorem et_eq (hu : X.A.units + 64 < cLine) (ha : Ed X T a σ H d) (hb : Ed X T b σ H d') (hd : SeqAt.shaped d = true := by decide +kernel) (hd' : SeqAt.shaped d' = true := by decide +kernel) (hm : behindInMarks .Eq b = false := by exact nomark _) : Et X T (.Compare a [.Eq] [b] pos) σ H (PyData.eqv d d') :=
  et_cmp2 stab_d (op_eqD hu) ha hb hm fun x y H1 _ rx ry Q q => ⟨d, d', rx, ry, hd, hd', q⟩
theorem et_ne (hu : X.A.units + 64 < cLine) (ha : Ed X T a σ H d) (hb : Ed X T b σ H d') (hd : SeqAt.shaped d = true := by decide +kernel) (hd' : SeqAt.shaped d' = true := by decide +kernel) (hm : behindInMarks .NotEq b = false := by exact nomark _) : Et X T (.Compare a [.NotEq] [b] pos) σ H (!PyData.eqv d d') :=
  et_cmp2 stab_d (op_neD hu) ha hb hm fun x y H1 _ rx ry Q q => ⟨d, d', rx, ry, hd, hd', q⟩
theorem ed_eq (hu : X.A.units + 64 < cLine) (ha : Ed X T a σ H d) (hb : Ed X T b σ H d') (hd : SeqAt.shaped d = true := by decide +kernel) (hd' : SeqAt.shaped d' = true := by decide +kernel) (hm : behindInMarks .Eq b = false := by exact nomark _) : Ed X T (.Compare a [.Eq] [b] pos) σ H (.bool (PyData.eqv d d')) :=
  ed_cmp2 stab_d (op_eqD hu) ha hb hm fun x y H1 _ rx ry Q q => ⟨d, d', rx, ry, hd, hd', q _ _ .refl (.bl _)⟩
theorem ed_ne (hu : X.A.units + 64 < cLine) (ha : Ed X T a σ H d) (hb : Ed X T b σ H d') (hd : SeqAt.shaped d = true := by decide +kernel) (hd' : SeqAt.shaped d' = true := by decide +kernel) (hm : behindInMarks .NotEq b = false := by exact nomark _) : Ed X T (.Compare a [.NotEq] [b] pos) σ H (.bool (!PyData.eqv d d')) :=
  ed_cmp2 stab_d (op_neD hu) ha hb hm fun x y H1 _ rx ry Q q => ⟨d, d', rx, ry, hd, hd', q _ _ .refl (.bl _)⟩
/-- is (not) None -/
theorem et_isN {k : Bool} (st : Stab T R) (ha : Er X T a σ H R) (hk : ∀ v H, R v H → decide (v = V.non) = k) {j : Nat} {p2 : Pos} (hm : behindInMarks .Is (.Constant .none j p2) = false := by exact nomark _) : Et X T (.Compare a [.Is] [.Constant .none j p2] pos) σ H k :=
  et_cmp2 st op_isN ha (R2' := eqP .non) (fun H1 l Q q => pe_we pe_non (q _ H1 .refl rfl)) hm fun x y H1 _ rx ry Q q => ⟨ry, by rw [hk x H1 rx]; exact q⟩
theorem et_notN {k : Bool} (st : Stab T R) (ha : Er X T a σ H R) (hk : ∀ v H, R v H → (!decide (v = V.non)) = k) {j : Nat} {p2 : Pos} (hm : behindInMarks .IsNot (.Constant .none j p2) = false := by exact nomark _) : Et X T (.Compare a [.IsNot] [.Constant .none j p2] pos) σ H k :=
  et_cmp2 st op_notN ha (R2' := eqP .non) (fun H1 l Q q => pe_we pe_non (q _ H1 .refl rfl)) hm fun x y H1 _ rx ry Q q => ⟨ry, by rw [hk x H1 rx]; exact q⟩
theorem ed_isN {k : Bool} (st : Stab T R) (ha : Er X T a σ H R) (hk : ∀ v H, R v H → decide (v = V.non) = k) {j : Nat} {p2 : Pos} (hm : behindInMarks .Is (.Constant .none j p2) = false := by exact nomark _) : Ed X T (.Compare a [.Is] [.Constant .none j p2] pos) σ H (.bool k) :=
  ed_cmp2 st op_isN ha (R2' := eqP .non) (fun H1 l Q q => pe_we pe_non (q _ H1 .refl rfl)) hm fun x y H1 _ rx ry Q q => ⟨ry, by rw [hk x H1 rx]; exact q _ _ .refl (.bl _)⟩
/-- i op x op' j, whole numbers -/
theorem et_chainI {op op' : CmpOp} {g g' : Int → Int → Bool} {i j k : Int} (ho : OpR X (compareOp op) (rI0 fun i j => .bl (g i j))) (ho' : OpR X (compareOp op') (rI0 fun i j => .bl (g' i j))) (ha : Ed X T a σ H (.int i)) (hb : Ed X T b σ H (.int j)) (hc : Ed X T c σ H (.int k))
    (hm : lastMarks [op, op'] [b, c] = false := by with_unfolding_all rfl) : Et X T (.Compare a [op, op'] [b, c] pos) σ H (g i j && g' j k) := fun H1 l Q q => by
  refine pt_we (pt_chain ho ho' we_pe we_pe we_pe hm) ?_
  refine ha H1 l _ fun x H2 l2 rx => hb H2 (l.trans l2) _ fun y H3 l3 ry => ?_
  cases rx; cases ry
  refine ⟨i, j, rfl, rfl, g i j, rfl, ?_⟩
  cases e : g i j with
  | false =>
    rw [if_neg (by simp)]
    have q := q H3 (l2.trans l3)
    rw [e] at q
    exact ⟨false, rfl, q⟩
  | true =>
    rw [if_pos rfl]
    refine hc H3 ((l.trans l2).trans l3) _ fun z H4 l4 rz => ?_
    cases rz
    have q := q H4 ((l2.trans l3).trans l4)
    rw [e, Bool.true_and] at q
    exact ⟨j, k, rfl, rfl, _, rfl, q⟩
theorem ed_chainI {op op' : CmpOp} {g g' : Int → Int → Bool} {i j k : Int} (ho : OpR X (compareOp op) (rI0 fun i j => .bl (g i j))) (ho' : OpR X (compareOp op') (rI0 fun i j => .bl (g' i j))) (ha : Ed X T a σ H (.int i)) (hb : Ed X T b σ H (.int j)) (hc : Ed X T c σ H (.int k))
    (hm : lastMarks [op, op'] [b, c] = false := by with_unfolding_all rfl) : Ed X T (.Compare a [op, op'] [b, c] pos) σ H (.bool (g i j && g' j k)) := fun H1 l Q q => by
  refine pe_we (pe_chain ho ho' we_pe we_pe we_pe hm) ?_
  refine ha H1 l _ fun x H2 l2 rx => hb H2 (l.trans l2) _ fun y H3 l3 ry => ?_
  cases rx; cases ry
  refine ⟨i, j, rfl, rfl, g i j, rfl, ?_⟩
  cases e : g i j with
  | false =>
    rw [if_neg (by simp)]
    have q := q (.bl (g i j && g' j k)) H3 (l2.trans l3) (.bl _)
    rw [e] at q
    exact q
  | true =>
    rw [if_pos rfl]
    refine hc H3 ((l.trans l2).trans l3) _ fun z H4 l4 rz => ?_
    cases rz
    have q := q (.bl (g i j && g' j k)) H4 ((l2.trans l3).trans l4) (.bl _)
    rw [e, Bool.true_and] at q
    exact ⟨j, k, rfl, rfl, q⟩
/-! tests -/
theorem et_val {k : Bool} (h : Ed X T e σ H (.bool k)) (he : ∀ whole, isTrue e X.env whole = (do let v ← whole; standAt e.pos; holding [v] (truthy v)) := by intro _; rfl) : Et X T e σ H k := fun H1 l Q q => by
  refine pt_we (pt_val we_pe he) ?_
  refine h H1 l _ fun x H2 l2 rx => ?_
  cases rx
  exact ⟨k, rfl, q H2 l2⟩
theorem et_not {k : Bool} (h : Et X T a σ H k) : Et X T (.UnaryOp .Not a pos) σ H (!k) := fun H1 l Q q => pt_we (pt_not we_pt) (h H1 l _ fun H2 l2 => q H2 l2)
theorem ew_and1 {k : Bool} (h : Et X T a σ H k) : EtW X T (.BoolOp .And [a] pos) σ H k := fun H1 l Q q => pw_we (pw_and1 we_pt) (h H1 l _ q)
theorem ew_or1 {k : Bool} (h : Et X T a σ H k) : EtW X T (.BoolOp .Or [a] pos) σ H k := fun H1 l Q q => pw_we (pw_or1 we_pt) (h H1 l _ q)
theorem ew_and {k j : Bool} (h : Et X T a σ H k) (h2 : k = true → EtW X T (.BoolOp .And (b :: rest) pos) σ H j) : EtW X T (.BoolOp .And (a :: b :: rest) pos) σ H (k && j) := fun H1 l Q q => by
  refine pw_we (pw_and we_pt we_pw) (h H1 l _ fun H2 l2 => ?_)
  cases k with
  | true =>
    rw [if_pos rfl]
    exact h2 rfl H2 (l.trans l2) Q fun H3 l3 => q H3 (l2.trans l3)
  | false =>
    rw [if_neg (by simp)]
    exact q H2 l2
theorem ew_or {k j : Bool} (h : Et X T a σ H k) (h2 : k = false → EtW X T (.BoolOp .Or (b :: rest) pos) σ H j) : EtW X T (.BoolOp .Or (a :: b :: rest) pos) σ H (k || j) := fun H1 l Q q => by
  refine pw_we (pw_or we_pt we_pw) (h H1 l _ fun H2 l2 => ?_)
  cases k with
  | false =>
    rw [if_neg (by simp)]
    exact h2 rfl H2 (l.trans l2) Q fun H3 l3 => q H3 (l2.trans l3)
  | true =>
    rw [if_pos rfl]
    exact q H2 l2
theorem et_w {k : Bool} (h : EtW X T e σ H k) : Et X T e σ H k := fun H1 l Q q => pt_we (we_pw.pt) (h H1 l Q q)
/-! and, or, not as values -/
theorem ed_one {op : BoolOp} (h : Ed X T a σ H d) : Ed X T (.BoolOp op [a] pos) σ H d := fun H1 l Q q => pe_we (pe_one we_pe) (h H1 l Q q)
end
end RM
namespace RM
open PySem PySem.Spec L2 LamX
open PyProof.Rows hiding St
section
variable {X : Cx} {T : List (Addr × Str)} {e a b c : Expr} {es rest : List Expr} {st : Stmt} {sts : List Stmt} {σ : St} {H H1 : Hp} {pos p p' : Pos} {R R' : VP} {Rs : List VP} {d d' : PyData} {ds : List PyData}
/-! and, or, not as values; one or the other -/
theorem ed_and {k j : Bool} (h : Ed X T a σ H (.bool k)) (h2 : k = true → Ed X T (.BoolOp .And (b :: rest) pos) σ H (.bool j)) : Ed X T (.BoolOp .And (a :: b :: rest) pos) σ H (.bool (k && j)) := fun H1 l Q q => by
  refine pe_we (pe_and we_pe we_pe) (h H1 l _ fun v H2 l2 r => ?_)
  cases r
  refine ⟨k, rfl, ?_⟩
  cases k with
  | true =>
    rw [if_pos rfl]
    exact h2 rfl H2 (l.trans l2) Q fun v H3 l3 r => q v H3 (l2.trans l3) r
  | false =>
    rw [if_neg (by simp)]
    exact q _ H2 l2 (.bl _)
theorem ed_or {k j : Bool} (h : Ed X T a σ H (.bool k)) (h2 : k = false → Ed X T (.BoolOp .Or (b :: rest) pos) σ H (.bool j)) : Ed X T (.BoolOp .Or (a :: b :: rest) pos) σ H (.bool (k || j)) := fun H1 l Q q => by
  refine pe_we (pe_or we_pe we_pe) (h H1 l _ fun v H2 l2 r => ?_)
  cases r
  refine ⟨k, rfl, ?_⟩
  cases k with
  | false =>
    rw [if_neg (by simp)]
    exact h2 rfl H2 (l.trans l2) Q fun v H3 l3 r => q v H3 (l2.trans l3) r
  | true =>
    rw [if_pos rfl]
    exact q _ H2 l2 (.bl _)
theorem ed_not {k : Bool} (h : Ed X T a σ H (.bool k)) : Ed X T (.UnaryOp .Not a pos) σ H (.bool (!k)) := fun H1 l Q q => by
  refine pe_we (pe_not we_pe) (h H1 l _ fun v H2 l2 r => ?_)
  cases r
  exact ⟨k, rfl, q _ H2 l2 (.bl _)⟩
theorem er_if {k : Bool} (hc : Et X T c σ H k) (ha : k = true → Er X T a σ H R) (hb : k = false → Er X T b σ H R) : Er X T (.IfExp c a b pos) σ H R := fun H1 l Q q => by
  refine pe_we (pe_ifExp we_pt we_pe we_pe) (hc H1 l _ fun H2 l2 => ?_)
  cases k with
  | true =>
    rw [if_pos rfl]
    exact ha rfl H2 (l.trans l2) Q fun v H3 l3 r => q v H3 (l2.trans l3) r
  | false =>
    rw [if_neg (by simp)]
    exact hb rfl H2 (l.trans l2) Q fun v H3 l3 r => q v H3 (l2.trans l3) r
/-! builtins -/
theorem er_blt {x : Str} {id : String} {r : List V → Hp → VK → Prop} (hc : CallR X (.builtin id) r) (hm : X.mg x = none) (ha : Ea X T (e :: es) σ H Rs) (hr : ∀ vs H1, Le T [] H H1 → AllP Rs vs H1 → ∀ Q : VK, (∀ v H2, Le T [] H1 H2 → R v H2 → Q v H2) → r vs H1 Q)
    (hg : Gl X x := by rfl) (hv : bootBuiltins x = some (.builtin id) := by rfl) (hn : x ≠ "__name__" := by decide) (hdb : (x == ("__debug__" : Str)) = false := by decide)
    (he : starEach (e :: es) X.env = (false, eval e X.env) :: starEach es X.env := by rfl) (hpl : (backTo pos (starEach es X.env)).any (·.1) = false := by rfl) : Er X T (.Call (.Name x p) (e :: es) [] pos) σ H R := fun H1 l Q q => by
  refine pe_we (pe_callB hc hg hm hv we_pa hn hdb he hpl) ?_
  exact ha H1 l _ fun vs H2 l2 r => hr vs H2 (l.trans l2) r Q fun v H3 l3 r3 => q v H3 (l2.trans l3) r3
theorem er_ty {x : Str} {id : String} {r : List V → Hp → VK → Prop} (hc : CallR X (.type id) r) (hm : X.mg x = none) (ha : Ea X T (e :: es) σ H Rs) (hr : ∀ vs H1, Le T [] H H1 → AllP Rs vs H1 → ∀ Q : VK, (∀ v H2, Le T [] H1 H2 → R v H2 → Q v H2) → r vs H1 Q)
    (hg : Gl X x := by rfl) (hv : bootBuiltins x = some (.type id) := by rfl) (hn : x ≠ "__name__" := by decide) (hdb : (x == ("__debug__" : Str)) = false := by decide)
    (he : starEach (e :: es) X.env = (false, eval e X.env) :: starEach es X.env := by rfl) (hpl : (backTo pos (starEach es X.env)).any (·.1) = false := by rfl) : Er X T (.Call (.Name x p) (e :: es) [] pos) σ H R := fun H1 l Q q => by
  refine pe_we (pe_callTy hc hg hm hv we_pa hn hdb he hpl) ?_
  exact ha H1 l _ fun vs H2 l2 r => hr vs H2 (l.trans l2) r Q fun v H3 l3 r3 => q v H3 (l2.trans l3) r3
def IsSeq (d : PyData) (ds : List PyData) : Prop := d = .tuple ds ∨ d = .list ds
theorem dp_sq {K : PySem.W.Frag} {v : V} (h : Dp K H v d) (hs : IsSeq d ds) : ∃ a xs, v = .ref a ∧ SqS K H a xs ∧ DpAll K H xs ds := by
  rcases hs with rfl | rfl
  · obtain ⟨a, xs, e, s, r⟩ := dp_tup_of h
    exact ⟨a, xs, e, .inr s, r⟩
  · obtain ⟨a, xs, e, s, r⟩ := dp_lst_of h
    exact ⟨a, xs, e, .inl s, r⟩
theorem ed_len (hm : X.mg "len" = none) (h : Ed X T e σ H d) (hs : IsSeq d ds) (hg : Gl X "len" := by rfl) (he : starEach [e] X.env = (false, eval e X.env) :: starEach [] X.env := by rfl) : Ed X T (.Call (.Name "len" p) [e] [] pos) σ H (.int ds.length) :=
  er_blt call_len_seq hm (ed_cons h ea_nil he) (fun vs H1 l ra Q q => by
    obtain ⟨v, rfl, r⟩ := allP1 ra
    obtain ⟨a, xs, rfl, s, rr⟩ := dp_sq r hs
    have e := dpa_len rr
    refine ⟨a, xs, rfl, s, ?_⟩
    rw [e]
    exact q _ H1 .refl (.int _)) hg rfl (by decide) (by decide) he
theorem dpa_atI {K : PySem.W.Frag} {vs : List V} {i : Int} (h : DpAll K H vs ds) (hi : atI ds i = some d) : ∃ v, atI vs i = some v ∧ Dp K H v d := by
  unfold atI at hi ⊢
  rw [dpa_len h]
  cases q : ixN ds.length i with
  | none => rw [q] at hi; cases hi
  | some j =>
    rw [q] at hi
    exact dpa_get h hi
theorem ed_ix {i : Int} {d0 : PyData} (ha : Ed X T a σ H d0) (hs : IsSeq d0 ds) (hb : Ed X T b σ H (.int i)) (hi : atI ds i = some d) (hpl : PlainIx b := by exact fun _ _ => rfl) : Ed X T (.Subscript a b pos) σ H d := fun H1 l Q q => by
  refine pe_we (pe_ix ix_seq we_pe we_pe hpl) ?_
  refine ha H1 l _ fun x H2 l2 rx => hb H2 (l.trans l2) _ fun y H3 l3 ry => ?_
  cases ry
  obtain ⟨p, xs, rfl, s, rr⟩ := dp_sq (l3.dp rx) hs
  obtain ⟨v, hv, rv⟩ := dpa_atI rr hi
  rcases s with s | s
  · exact .inl ⟨p, xs, i, v, rfl, rfl, s, hv, q v H3 (l2.trans l3) rv⟩
  · exact .inr (.inl ⟨p, xs, i, v, rfl, rfl, s, hv, q v H3 (l2.trans l3) rv⟩)
theorem ed_tup {x1 : _} (h : Ea X T es σ H (ds.map (dP X.K))) (hl : ds.length ≤ 100000) : Ed X T (.Tuple es x1 pos) σ H (.tuple ds) := fun H1 l Q q => by
  refine pe_we (pe_tup we_pa) (h H1 l _ fun vs H2 l2 r => ?_)
  have r := allP_d r
  refine ⟨by rw [dpa_len r, sizeLine_eq]; omega, fun p hp => q _ _ (l2.add hp) (dp_tup upd_same ((Le.new (T := T) hp).dpAll r))⟩
theorem ed_lst (h : Ea X T es σ H (ds.map (dP X.K))) (hl : ds.length ≤ 100000) : Ed X T (.List es pos) σ H (.list ds) := fun H1 l Q q => by
  refine pe_we (pe_lst we_pa) (h H1 l _ fun vs H2 l2 r => ?_)
  have r := allP_d r
  refine ⟨by rw [dpa_len r, sizeLine_eq]; omega, fun p hp => q _ _ (l2.add hp) (dp_lst upd_same ((Le.new (T := T) hp).dpAll r))⟩
/-- tuple(e), list(e) of a list or tuple -/
theorem ed_tuple (hm : X.mg "tuple" = none) (h : Ed X T e σ H d) (hs : IsSeq d ds) (hg : Gl X "tuple" := by rfl) (he : starEach [e] X.env = (false, eval e X.env) :: starEach [] X.env := by rfl) : Ed X T (.Call (.Name "tuple" p) [e] [] pos) σ H (.tuple ds) :=
  er_ty call_tuple_of hm (ed_cons h ea_nil he) (fun vs H1 l ra Q q => by
    obtain ⟨v, rfl, r⟩ := allP1 ra
    obtain ⟨a, xs, rfl, s, rr⟩ := dp_sq r hs
    rcases s with s | s
    · exact ⟨a, xs, rfl, .inl ⟨s, fun l hl => q _ _ (.new hl) (dp_tup upd_same ((Le.new (T := T) hl).dpAll rr))⟩⟩
    · exact ⟨a, xs, rfl, .inr ⟨s, q _ H1 .refl (.tup s rr)⟩⟩) hg rfl (by decide) (by decide) he
/-- list(e): the list is new -/
def FreshL (K : PySem.W.Frag) (H : Hp) (ds : List PyData) : VP := fun v H' => ∃ a xs, v = .ref a ∧ (H a = none ∨ ∃ ps, H a = some (.tbl ps)) ∧ H' a = some (.lst xs) ∧ DpAll K H' xs ds
theorem er_list (hm : X.mg "list" = none) (h : Ed X T e σ H d) (hs : IsSeq d ds) (hg : Gl X "list" := by rfl) (he : starEach [e] X.env = (false, eval e X.env) :: starEach [] X.env := by rfl) : Er X T (.Call (.Name "list" p) [e] [] pos) σ H (FreshL X.K H ds) :=
  er_ty call_list_of hm (ed_cons h ea_nil he) (fun vs H1 l ra Q q => by
    obtain ⟨v, rfl, r⟩ := allP1 ra
    obtain ⟨a, xs, rfl, s, rr⟩ := dp_sq r hs
    exact ⟨a, xs, rfl, s, fun p hp => q _ _ (.new hp) ⟨p, xs, rfl, l.free hp, upd_same, (Le.new (T := T) hp).dpAll rr⟩⟩) hg rfl (by decide) (by decide) he
theorem freshL_d {K : PySem.W.Frag} {H0 : Hp} {v : V} (h : FreshL K H0 ds v H) : Dp K H v (.list ds) := by
  obtain ⟨a, xs, rfl, _, h1, h2⟩ := h
  exact dp_lst h1 h2
theorem ed_list (hm : X.mg "list" = none) (h : Ed X T e σ H d) (hs : IsSeq d ds) (hg : Gl X "list" := by rfl) (he : starEach [e] X.env = (false, eval e X.env) :: starEach [] X.env := by rfl) : Ed X T (.Call (.Name "list" p) [e] [] pos) σ H (.list ds) :=
  (er_list hm h hs hg he).imp fun v H' _ r => freshL_d r
theorem ed_all {bs : List Bool} (hc : X.calm = true) (hm : X.mg "all" = none) (h : Ed X T e σ H (.list (bs.map PyData.bool))) (hg : Gl X "all" := by rfl) (he : starEach [e] X.env = (false, eval e X.env) :: starEach [] X.env := by rfl) : Ed X T (.Call (.Name "all" p) [e] [] pos) σ H (.bool (bs.all id)) :=
  er_blt (cr_all hc) hm (ed_cons h ea_nil he) (fun vs H1 l ra Q q => by
    obtain ⟨v, rfl, r⟩ := allP1 ra
    obtain ⟨a, xs, rfl, s, rr⟩ := dp_lst_of r
    have ex : ∀ {bs : List Bool} {xs : List V}, DpAll X.K H1 xs (bs.map PyData.bool) → xs = bs.map V.bl := fun {bs} => by
      induction bs with
      | nil => intro xs h; cases h; rfl
      | cons b bs ih => intro xs h; cases h with | cons h1 h2 => cases h1; rw [ih h2]; rfl
    rw [ex rr] at s
    exact ⟨a, bs, rfl, s, q _ H1 .refl (.bl _)⟩) hg rfl (by decide) (by decide) he
theorem ed_int1 {i : Int} (hm : X.mg "int" = none) (h : Ed X T e σ H (.int i)) (hg : Gl X "int" := by rfl) (he : starEach [e] X.env = (false, eval e X.env) :: starEach [] X.env := by rfl) : Ed X T (.Call (.Name "int" p) [e] [] pos) σ H (.int i) :=
  er_ty call_int1 hm (ed_cons h ea_nil he) (fun vs H1 l ra Q q => by
    obtain ⟨v, rfl, r⟩ := allP1 ra
    cases r
    exact .inl ⟨i, rfl, q _ H1 .refl (.int _)⟩) hg rfl (by decide) (by decide) he
theorem ed_abs {i : Int} (hm : X.mg "abs" = none) (h : Ed X T e σ H (.int i)) (hg : Gl X "abs" := by rfl) (he : starEach [e] X.env = (false, eval e X.env) :: starEach [] X.env := by rfl) : Ed X T (.Call (.Name "abs" p) [e] [] pos) σ H (.int (if i < 0 then -i else i)) :=
  er_blt call_abs hm (ed_cons h ea_nil he) (fun vs H1 l ra Q q => by
    obtain ⟨v, rfl, r⟩ := allP1 ra
    cases r
    exact ⟨i, rfl, q _ H1 .refl (.int _)⟩) hg rfl (by decide) (by decide) he
theorem ed_min {i j : Int} (hc : X.calm = true) (hm : X.mg "min" = none) (h : Ed X T a σ H (.int i)) (h2 : Ed X T b σ H (.int j)) (hg : Gl X "min" := by rfl) (he : starEach [a, b] X.env = (false, eval a X.env) :: starEach [b] X.env := by rfl) (he2 : starEach [b] X.env = (false, eval b X.env) :: starEach [] X.env := by rfl) (hpl : (backTo pos (starEach [b] X.env)).any (·.1) = false := by rfl) : Ed X T (.Call (.Name "min" p) [a, b] [] pos) σ H (.int (if j < i then j else i)) :=
  er_blt (call_min2 hc) hm (ed_cons h (ed_cons h2 ea_nil he2) he) (fun vs H1 l ra Q q => by
    obtain ⟨v, u, rfl, r, r2⟩ := allP2 ra
    cases r
    cases r2
    exact ⟨i, j, rfl, q _ H1 .refl (.int _)⟩) hg rfl (by decide) (by decide) he hpl
/-- tuple(range(n)), list(range(n)) -/
def natD (n : Nat) : List PyData := (List.range n).map fun i => PyData.int (i : Nat)
theorem rgV_nat {K : PySem.W.Frag} {n : Nat} : DpAll K H (rgV 0 n) (natD n) := by
  have e : rgV 0 n = (List.range n).map fun i => V.int ((i : Nat) : Int) := by
    unfold rgV
    simp
  rw [e]
  unfold natD
  have : ∀ l : List Nat, DpAll K H (l.map fun i => V.int ((i : Nat) : Int)) (l.map fun i => PyData.int ((i : Nat) : Int)) := fun l => by
    induction l with
    | nil => exact .nil
    | cons a l ih => exact .cons (.int _) ih
  exact this _
theorem ed_tupRg {n : Nat} {p2 pos2 : Pos} (hc : X.calm = true) (hm : X.mg "tuple" = none) (hm2 : X.mg "range" = none) (h : Ed X T e σ H (.int n)) (hn : n ≤ 100000) (hg : Gl X "tuple" := by rfl) (hg2 : Gl X "range" := by rfl) (he : starEach [e] X.env = (false, eval e X.env) :: starEach [] X.env := by rfl) :
    Ed X T (.Call (.Name "tuple" p) [.Call (.Name "range" p2) [e] [] pos2] [] pos) σ H (.tuple (natD n)) := fun H1 l Q q => by
  refine pe_we (pe_tupRg hc hg hm (prg_1 hg2 hm2 we_pe he)) (h H1 l _ fun v H2 l2 r => ?_)
  cases r
  exact ⟨n, rfl, by unfold RgOk; have := sizeLine_eq; omega, fun p hp => q _ _ (l2.add hp) (dp_tup upd_same rgV_nat)⟩
theorem ed_lstRg {n : Nat} {p2 pos2 : Pos} (hc : X.calm = true) (hm : X.mg "list" = none) (hm2 : X.mg "range" = none) (h : Ed X T e σ H (.int n)) (hn : n ≤ 100000) (hg : Gl X "list" := by rfl) (hg2 : Gl X "range" := by rfl) (he : starEach [e] X.env = (false, eval e X.env) :: starEach [] X.env := by rfl) :
    Ed X T (.Call (.Name "list" p) [.Call (.Name "range" p2) [e] [] pos2] [] pos) σ H (.list (natD n)) := fun H1 l Q q => by
  refine pe_we (pe_listRg hc hg hm (prg_1 hg2 hm2 we_pe he)) (h H1 l _ fun v H2 l2 r => ?_)
  cases r
  exact ⟨n, rfl, by unfold RgOk; have := sizeLine_eq; omega, fun p hp => q _ _ (l2.add hp) (dp_lst upd_same rgV_nat)⟩
/-! isinstance -/
theorem ed_isi {n : String} {t : Value} {k : Bool} (hm : X.mg "isinstance" = none) (stR : Stab T R) (ha : Er X T a σ H R) (hty : ∀ v H', Le T [] H H' → R v H' → TyX X.K H' v t) (hb : Er X T b σ H (eqP (.ty n))) (hk : PySem.W.kitOne X.K t (.type n) = some k) (hg : Gl X "isinstance" := by rfl) (he : starEach [a, b] X.env = (false, eval a X.env) :: starEach [b] X.env := by rfl) (he2 : starEach [b] X.env = (false, eval b X.env) :: starEach [] X.env := by rfl) (hpl : (backTo pos (starEach [b] X.env)).any (·.1) = false := by rfl) : Ed X T (.Call (.Name "isinstance" p) [a, b] [] pos) σ H (.bool k) :=
  er_blt call_isi hm (ea_cons ha (ea_cons hb ea_nil stab_e he2) stR he) (fun vs H1 l ra Q q => by
    obtain ⟨v, u, rfl, r, rfl⟩ := allP2 ra
    exact ⟨v, .ty n, t, .type n, k, rfl, .ty n, hty v H1 l r, hk, q _ H1 .refl (.bl _)⟩) hg rfl (by decide) (by decide) he hpl
theorem ed_isiC {C : Addr} {t : Value} {k : Bool} (hm : X.mg "isinstance" = none) (stR : Stab T R) (ha : Er X T a σ H R) (hty : ∀ v H', Le T [] H H' → R v H' → TyX X.K H' v t) (hb : Er X T b σ H (eqP (.ref C))) (hk : PySem.W.kitOne X.K t (.ref C) = some k) (hg : Gl X "isinstance" := by rfl) (he : starEach [a, b] X.env = (false, eval a X.env) :: starEach [b] X.env := by rfl) (he2 : starEach [b] X.env = (false, eval b X.env) :: starEach [] X.env := by rfl) (hpl : (backTo pos (starEach [b] X.env)).any (·.1) = false := by rfl) : Ed X T (.Call (.Name "isinstance" p) [a, b] [] pos) σ H (.bool k) :=
  er_blt call_isi hm (ea_cons ha (ea_cons hb ea_nil stab_e he2) stR he) (fun vs H1 l ra Q q => by
    obtain ⟨v, u, rfl, r, rfl⟩ := allP2 ra
    exact ⟨v, .ref C, t, .ref C, k, rfl, .own C, hty v H1 l r, hk, q _ H1 .refl (.bl _)⟩) hg rfl (by decide) (by decide) he hpl
/-- isinstance(x, (T1, T2)) -/
theorem ed_isi2 {n1 n2 : String} {t : Value} {k : Bool} {b1 b2 : Expr} {x1 : _} {pt : Pos} (hm : X.mg "isinstance" = none) (stR : Stab T R) (ha : Er X T a σ H R) (hty : ∀ v H', Le T [] H H' → R v H' → TyX X.K H' v t) (hb1 : Er X T b1 σ H (eqP (.ty n1))) (hb2 : Er X T b2 σ H (eqP (.ty n2))) (hk : PySem.W.kitAny X.K t [.type n1, .type n2] = some k) (hg : Gl X "isinstance" := by rfl)
    (he : starEach [a, .Tuple [b1, b2] x1 pt] X.env = (false, eval a X.env) :: starEach [.Tuple [b1, b2] x1 pt] X.env := by rfl) (he1 : starEach [b1, b2] X.env = (false, eval b1 X.env) :: starEach [b2] X.env := by rfl) (he2 : starEach [b2] X.env = (false, eval b2 X.env) :: starEach [] X.env := by rfl) : Ed X T (.Call (.Name "isinstance" p) [a, .Tuple [b1, b2] x1 pt] [] pos) σ H (.bool k) := by
  have hb : Er X T (.Tuple [b1, b2] x1 pt) σ H (fun v H' => ∃ tp, v = .ref tp ∧ H' tp = some (.tup [.ty n1, .ty n2])) := fun H1 l Q q => by
    refine pe_we (pe_tup we_pa) ((ea_cons hb1 (ea_cons hb2 ea_nil stab_e he2) stab_e he1) H1 l _ fun vs H2 l2 ra => ?_)
    obtain ⟨v, u, rfl, rfl, rfl⟩ := allP2 ra
    exact ⟨by rw [sizeLine_eq]; exact (by decide : 2 ≤ 16777216), fun p hp => q _ _ (l2.add hp) ⟨p, rfl, upd_same⟩⟩
  exact er_blt call_isiT hm (ea_cons ha (ea_cons hb ea_nil (fun v H H' l ⟨tp, h1, h2⟩ => ⟨tp, h1, l.at h2 (by simp) fun _ z => nomatch z⟩) rfl) stR he) (fun vs H1 l ra Q q => by
    obtain ⟨v, u, rfl, r, tp, rfl, h2⟩ := allP2 ra
    exact ⟨v, tp, [.ty n1, .ty n2], t, [.type n1, .type n2], k, rfl, h2, .cons (.ty n1) (.cons (.ty n2) .nil), hty v H1 l r, hk, q _ H1 .refl (.bl _)⟩) hg rfl (by decide) (by decide) he rfl
/-! own defs -/
theorem er_call {k : Nat} {f : Addr} {fd : FuncData} {ps : List Str} {sp : Sp} {x : Str} {dvs : List V} {vs0 : List Value} (F : FnOk X.prog X.w X.K X.mg X.base (L2.CX X.prog X.w) k f fd ps sp) (hr : Room k X.A) (hm : X.mg x = some (.ref f)) (hk : PySem.W.keepIn X.K (.ref f) = true) (hb : Binds X.K fd ps vs0) (hd : Vals dvs vs0) (ha : Ea X T (e :: es) σ H Rs)
    (hsp : ∀ vs H1, Le T [] H H1 → AllP Rs vs H1 → ∀ Q : VK, (∀ v H2, Le T [] H1 H2 → R v H2 → Q v H2) → sp (vs ++ dvs) H1 Q E0) (hg : Gl X x := by rfl) (hdb : (x == ("__debug__" : Str)) = false := by decide)
    (he : starEach (e :: es) X.env = (false, eval e X.env) :: starEach es X.env := by rfl) (hpl : (backTo pos (starEach es X.env)).any (·.1) = false := by rfl) : Er X T (.Call (.Name x p) (e :: es) [] pos) σ H R := fun H1 l Q q => by
  refine pe_we (pe_call F hr hg hm hk hb hd passL we_pa hdb he hpl) ?_
  exact ha H1 l _ fun vs H2 l2 r => hsp vs H2 (l.trans l2) r Q fun v H3 l3 r3 => q v H3 (l2.trans l3) r3
/-- a call that may raise -/
theorem we_callW {k : Nat} {f : Addr} {fd : FuncData} {ps : List Str} {sp : Sp} {W : WX} {x : Str} {Q : VK} (F : FnOk X.prog X.w X.K X.mg X.base (L2.CX X.prog X.w) k f fd ps sp) (hr : Room k X.A) (hm : X.mg x = some (.ref f)) (hk : PySem.W.keepIn X.K (.ref f) = true) (hb : Binds X.K fd ps []) (tk : Takes X W) (ha : Ea X T (e :: es) σ H Rs)
    (hsp : ∀ vs H1, Le T [] H H1 → AllP Rs vs H1 → sp vs H1 Q (WE W σ)) (hg : Gl X x := by rfl) (hdb : (x == ("__debug__" : Str)) = false := by decide)
    (he : starEach (e :: es) X.env = (false, eval e X.env) :: starEach es X.env := by rfl) (hpl : (backTo pos (starEach es X.env)).any (·.1) = false := by rfl) : WpE X (.Call (.Name x p) (e :: es) [] pos) σ H Q := by
  refine pe_we (pe_callS F hr hg hm hk hb (passAt tk) we_pa hdb he hpl) ?_
  exact ha H .refl _ fun vs H2 l2 r => hsp vs H2 l2 r
/-- .. with defaults -/
theorem run_fnSD {k : Nat} {f : Addr} {fd : FuncData} {ps : List Str} {sp : Sp} {CX : CXT} {E : St → XK} {dvs : List V} {ws : List Value} {pins : List (Addr × Obj)} {s : Shared} {Q : VK} {us : List Value} {vs : List V} (F : FnOk X.prog X.w X.K X.mg X.base CX k f fd ps sp) (hr : Room k X.A) (hb : Binds X.K fd ps ws) (hd : Vals dvs ws) (hx : PassesAt CX X σ (E σ))
    (I : Inv X pins σ H s) (r : Vals vs us) (h : sp (vs ++ dvs) H Q (E σ)) : wpAny (model X.prog X.w) X.A (call (.ref f) us) (EP X pins σ Q) X.xe s := by
  have r2 : Vals (vs ++ dvs) (us ++ ws) := r.append hd
  have hl : (us ++ ws).length = ps.length := by rw [← r2.length]; exact F.len _ _ _ _ h
  refine wpAny_call (codeAny_mono (F.run X.A X.stack s H ⟨us, []⟩ (us ++ ws) (vs ++ dvs) Q (E σ) hr I.env0 (hb s us I.kIn hl) r2 h) fun r s' hq => ?_)
  cases r with
  | error e => exact hx pins H s e s' I hq
  | ok fl =>
    cases fl with
    | ret u => exact I.after hq
    | next => exact False.elim hq
    | brk => exact False.elim hq
    | cont => exact False.elim hq
theorem we_callWD {k : Nat} {f : Addr} {fd : FuncData} {ps : List Str} {sp : Sp} {W : WX} {x : Str} {Q : VK} {dvs : List V} {ws : List Value} (F : FnOk X.prog X.w X.K X.mg X.base (L2.CX X.prog X.w) k f fd ps sp) (hr : Room k X.A) (hm : X.mg x = some (.ref f)) (hk : PySem.W.keepIn X.K (.ref f) = true) (hb : Binds X.K fd ps ws) (hd : Vals dvs ws) (tk : Takes X W) (ha : Ea X T (e :: es) σ H Rs)
    (hsp : ∀ vs H1, Le T [] H H1 → AllP Rs vs H1 → sp (vs ++ dvs) H1 Q (WE W σ)) (hg : Gl X x := by rfl) (hdb : (x == ("__debug__" : Str)) = false := by decide)
    (he : starEach (e :: es) X.env = (false, eval e X.env) :: starEach es X.env := by rfl) (hpl : (backTo pos (starEach es X.env)).any (·.1) = false := by rfl) : WpE X (.Call (.Name x p) (e :: es) [] pos) σ H Q := by
  refine fun pins s I => wpAny_Call_Name_kw (ld_glob I hg hm ?_ hdb)
  refine PySem.W.callWith_K (h₀ := X.base) I.ok.mod.kin hk (thn (ha H .refl (fun vs H2 => Le T [] H H2 ∧ AllP Rs vs H2) (fun vs H2 l2 r => ⟨l2, r⟩) pos pins s I) fun us s1 ⟨vs, H1, I1, r, l2, q⟩ => ⟨I1.kIn, ?_⟩) he hpl
  exact run_fnSD (E := WE W) F hr hb hd (passAt tk σ) I1 r (hsp vs H1 l2 q)
end
end RM
namespace RM
open PySem PySem.Spec L2 LamX
open PyProof.Rows hiding St
/-- what is known of a body's context -/
structure Bd (X : Cx) (k : Nat) (E : XK) : Prop where
  calm : X.calm = true
  nd : X.N.Nodup
  own : PassesOwn (model X.prog X.w) X.A X.env X.xe
  tk : Takes X (fun cls d _ H => E cls d H)
  room : Room k X.A
  fn : ∀ y, X.fn y = true
section
variable {P : Program} {w : World} {K : PySem.W.Frag} {mg : Str → Option Value} {base : Heap} {x qual : Str} {params : Arguments} {body : List Stmt} {scope : Scope} {dvs : List V} {kws : List (Str × V)} {f : Addr} {fd : FuncData}
theorem ok_def {N ps : List Str} {k : Nat} {sp : Sp} (Fu : FunD K x qual params body scope dvs kws f fd) (S : FnScope N ps scope) (len : ∀ vs H Q E, sp vs H Q E → vs.length = ps.length)
    (hbody : ∀ (cdv : Value) (A : Around) (outer : List Env) (s : Shared) (H : Hp) (vs : List V) (Q : VK) (E : XK), Bd (cxOf (L2.CX P w) P w K mg base N qual scope f cdv A outer s H E) k E → sp vs H Q E →
      WpSs (cxOf (L2.CX P w) P w K mg base N qual scope f cdv A outer s H E) body { nx := fun _ H' => Q .non H', rt := Q } (start N vs) H) : FnOk P w K mg base (L2.CX P w) (k + 1) f fd ps sp :=
  Fu.ok S len fun cdv A outer s H vs Q E hr hsp => ⟨_, we_pss, hbody cdv A outer s H vs Q E ⟨rfl, S.nd, passes_of rfl, takes_of rfl rfl rfl rfl, hr, fun _ => rfl⟩ hsp⟩
/-- the same where the code object is named (for lambdas) -/
theorem ok_defC {N ps : List Str} {k : Nat} {sp : Sp} {c : Addr} (hco : ∃ (oc : Value) (od : Option Addr) (osl : Array (Option Value)), K.lookup f = some ⟨oc, od, .func fd, osl⟩ ∧ fd.code = .ref c) (Fu : FunD K x qual params body scope dvs kws f fd) (S : FnScope N ps scope) (len : ∀ vs H Q E, sp vs H Q E → vs.length = ps.length)
    (hbody : ∀ (A : Around) (outer : List Env) (s : Shared) (H : Hp) (vs : List V) (Q : VK) (E : XK), Bd (cxOf (L2.CX P w) P w K mg base N qual scope f (.ref c) A outer s H E) k E → sp vs H Q E →
      WpSs (cxOf (L2.CX P w) P w K mg base N qual scope f (.ref c) A outer s H E) body { nx := fun _ H' => Q .non H', rt := Q } (start N vs) H) : FnOk P w K mg base (L2.CX P w) (k + 1) f fd ps sp := by
  obtain ⟨oc, od, dV, kV, doc, pm, an, cdv, ct, osl, rfl, lk, hcd, _, _⟩ := Fu.ex
  obtain ⟨oc2, od2, osl2, lk2, e⟩ := hco
  obtain rfl : cdv = .ref c := e
  exact fn_of lk hcd S len fun A outer s H vs Q E hr hsp => ⟨_, we_pss, hbody A outer s H vs Q E ⟨rfl, S.nd, passes_of rfl, takes_of rfl rfl rfl rfl, hr, fun _ => rfl⟩ hsp⟩
end
section
variable {X : Cx} {T : List (Addr × Str)} {e a b c : Expr} {es : List Expr} {st : Stmt} {sts rest : List Stmt} {σ : St} {H H1 : Hp} {pos p p' : Pos} {R R' : VP} {Rs : List VP} {d d' d0 : PyData} {ds : List PyData} {D : Ends} {k : Nat} {E : XK} {body orelse : List Stmt}
/-! ### statements -/
theorem ss_nil (h : D.nx σ H) : WpSs X [] D σ H := pss_we pss_nil h
theorem ss_cons (h : WpS X st { D with nx := fun σ' H' => WpSs X rest D σ' H' } σ H) : WpSs X (st :: rest) D σ H := pss_we (pss_cons we_ps we_pss) h
theorem ss_one (h : WpS X st D σ H) : WpSs X [st] D σ H := pss_we (pss_one we_ps) h
theorem s_doc {x : Str} {j : Nat} (h : D.nx σ H) : WpS X (.Expr (.Constant (.str x) j p) pos) D σ H := ps_we ps_doc h
theorem s_pass (h : D.nx σ H) : WpS X (.Pass pos) D σ H := ps_we ps_pass h
theorem s_set0 {i : Nat} {x : Str} (B : Bd X k E) (h : WpE X e σ H (fun v H1 => D.nx (σ.set i (some v)) H1)) (hi : X.N[i]? = some x := by rfl) (hx : Loc X.env.scope x := by first | exact .inl rfl | exact .inr rfl) (hs : swapsWith e (some (.Name x p)) pos.line X.env = pure false := by rfl) : WpS X (.Assign [.Name x p] e pos) D σ H :=
  ps_we (ps_set B.nd hi hx we_pe hs (.inl (B.fn x))) h
theorem s_set {i : Nat} {x : Str} (B : Bd X k E) (he : Er X T e σ H R) (h : ∀ v H1, Le T [] H H1 → R v H1 → D.nx (σ.set i (some v)) H1) (hi : X.N[i]? = some x := by rfl) (hx : Loc X.env.scope x := by first | exact .inl rfl | exact .inr rfl) (hs : swapsWith e (some (.Name x p)) pos.line X.env = pure false := by rfl) : WpS X (.Assign [.Name x p] e pos) D σ H :=
  s_set0 B (he.run h) hi hx hs
theorem s_ret0 (h : WpE X e σ H D.rt) : WpS X (.Return (some e) pos) D σ H := ps_we (ps_ret we_pe) h
theorem s_ret (he : Er X T e σ H R) (h : ∀ v H1, Le T [] H H1 → R v H1 → D.rt v H1) : WpS X (.Return (some e) pos) D σ H := s_ret0 (he.run h)
theorem s_retN (h : D.rt .non H) : WpS X (.Return none pos) D σ H := ps_we ps_retN h
theorem s_if {q : Bool} (hc : Et X T c σ H q) (ha : q = true → ∀ H1, Le T [] H H1 → WpSs X body D σ H1) (hb : q = false → ∀ H1, Le T [] H H1 → WpSs X orelse D σ H1) : WpS X (.If c body orelse pos) D σ H := by
  refine ps_we (ps_if we_pt we_pss we_pss) (hc.run fun H1 l => ?_)
  cases q with
  | true => rw [if_pos rfl]; exact ha rfl H1 l
  | false => rw [if_neg (by simp)]; exact hb rfl H1 l
theorem s_expr0 (h : WpE X e σ H (fun _ H1 => D.nx σ H1)) (hs : swapsWith e none pos.line X.env = pure false := by rfl) : WpS X (.Expr e pos) D σ H := ps_we (ps_expr we_pe hs) h
theorem s_expr (he : Er X T e σ H R) (h : ∀ H1, Le T [] H H1 → D.nx σ H1) (hs : swapsWith e none pos.line X.env = pure false := by rfl) : WpS X (.Expr e pos) D σ H := s_expr0 (he.run fun _ H1 l _ => h H1 l) hs
/-- a, b = x, y -/
theorem s_par {i j : Nat} {x y : Str} {px py pt : Pos} {kt k2 pt2} {R1 R2 : VP} (B : Bd X k E) (st : Stab T R1) (ha : Er X T a σ H R1) (hb : Er X T b σ H R2) (h : ∀ v u H1, Le T [] H H1 → R1 v H1 → R2 u H1 → D.nx ((σ.set i (some v)).set j (some u)) H1)
    (hi : X.N[i]? = some x := by rfl) (hj : X.N[j]? = some y := by rfl) (hij : i ≠ j := by decide) (hx : X.env.scope.names.lookup x = some .local := by rfl) (hy : X.env.scope.names.lookup y = some .local := by rfl)
    (hw : swappedStores [.Tuple [.Name x px, .Name y py] kt pt] (.Tuple [a, b] k2 pt2) X.env = pure (some [x, y]) := by rfl)
    (hs : swapsWithSole [.Tuple [.Name x px, .Name y py] kt pt] (.Tuple [a, b] k2 pt2) pos.line X.env = pure false := by rfl)
    (he : starEach [a, b] X.env = (false, eval a X.env) :: starEach [b] X.env := by rfl) (he2 : starEach [b] X.env = (false, eval b X.env) :: starEach [] X.env := by rfl) :
    WpS X (.Assign [.Tuple [.Name x px, .Name y py] kt pt] (.Tuple [a, b] k2 pt2) pos) D σ H := by
  refine ps_we (ps_par B.calm B.nd hi hj hij hx hy we_pa hw hs) ?_
  refine pa_we (pa_cons we_pe (pa_cons we_pe pa_nil he2) he) ?_ 
  exact ha.run fun v H1 l r => hb H1 l _ fun u H2 l2 r2 => ⟨v, u, rfl, h v u H2 (l.trans l2) (st _ _ _ l2 r) r2⟩
/-! ### loops -/
theorem s_forS {j : Nat} {x : Str} {iter : Expr} (B : Bd X k E) (hi : Ed X T iter σ H d0) (hs : IsSeq d0 ds)
    (h : ∀ v H1, Le T [] H H1 → Dp X.K H1 v d0 → ∃ I : Nat → St → Hp → Prop, I 0 σ H1 ∧ (∀ i σ' H', I i σ' H' → Le T [] H1 H') ∧ (∀ i d u σ' H', ds[i]? = some d → I i σ' H' → Dp X.K H' u d → WpSs X body { D with nx := I (i + 1), ct := I (i + 1), bk := D.nx } (σ'.set j (some u)) H') ∧ ∀ σ' H', I ds.length σ' H' → D.nx σ' H')
    (hj : X.N[j]? = some x := by rfl) (hx : Loc X.env.scope x := by first | exact .inl rfl | exact .inr rfl) (hf : ∀ y, foldedSetIterable iter X.env y = pure y := by intro _; rfl) : WpS X (.For (.Name x p) iter body [] pos) D σ H := by
  refine ps_we (ps_for B.own B.calm (pi_seq we_pe) (pg_name B.nd hj hx (.inl (B.fn x))) we_pss hf) ?_
  refine hi.run fun v H1 l r => ?_
  obtain ⟨I, h0, hk, hb, hd⟩ := h v H1 l r
  obtain ⟨a, xs, rfl, s, rr⟩ := dp_sq r hs
  have el := dpa_len rr
  refine ⟨a, rfl, for_seq s I h0 (fun i σ' H' _ q => ⟨fun z => (hk i σ' H' q).sqL z (by simp), fun z => (hk i σ' H' q).sqT z (by simp)⟩) (fun i u σ' H' hu q => ?_) (fun σ' H' q => hd σ' H' (el ▸ q))⟩
  obtain ⟨d, hd2, rd⟩ := dpa_get' rr hu
  exact hb i d u σ' H' hd2 q ((hk i σ' H' q).dp rd)
theorem s_forE {j1 j2 : Nat} {x1 x2 : Str} {e : Expr} {p1 p2 pt : Pos} {kk : Nat} (B : Bd X k E) (hi : Ed X T e σ H d0) (hs : IsSeq d0 ds) (hm : X.mg "enumerate" = none)
    (h : ∀ v H1, Le T [] H H1 → Dp X.K H1 v d0 → ∃ I : Nat → St → Hp → Prop, I 0 σ H1 ∧ (∀ i σ' H', I i σ' H' → Le T [] H1 H') ∧ (∀ i d u σ' H', ds[i]? = some d → I i σ' H' → ∀ H2, Le T [] H' H2 → Dp X.K H2 u d → WpSs X body { D with nx := I (i + 1), ct := I (i + 1), bk := D.nx } ((σ'.set j1 (some (.int i))).set j2 (some u)) H2) ∧ ∀ σ' H', I ds.length σ' H' → D.nx σ' H')
    (hj1 : X.N[j1]? = some x1 := by rfl) (hj2 : X.N[j2]? = some x2 := by rfl) (hx1 : Loc X.env.scope x1 := by first | exact .inl rfl | exact .inr rfl) (hx2 : Loc X.env.scope x2 := by first | exact .inl rfl | exact .inr rfl)
    (hg : Gl X "enumerate" := by rfl) (he : starEach [e] X.env = (false, eval e X.env) :: starEach [] X.env := by rfl) (hf : ∀ y, foldedSetIterable (.Call (.Name "enumerate" p) [e] [] p') X.env y = pure y := by intro _; rfl)
    (ha1 : (assignEach [.Name x1 p1, .Name x2 p2] X.env).map (·.2) = assign (.Name x1 p1) X.env :: (assignEach [.Name x2 p2] X.env).map (·.2) := by rfl) (ha2 : (assignEach [.Name x2 p2] X.env).map (·.2) = assign (.Name x2 p2) X.env :: (assignEach [] X.env).map (·.2) := by rfl)
    (hn : (assignEach [.Name x1 p1, .Name x2 p2] X.env).length = 2 := by rfl) (hst : (assignEach [.Name x1 p1, .Name x2 p2] X.env).findIdx? (·.1) = none := by rfl) :
    WpS X (.For (.Tuple [.Name x1 p1, .Name x2 p2] kk pt) (.Call (.Name "enumerate" p) [e] [] p') body [] pos) D σ H := by
  refine ps_we (ps_for B.own B.calm (pi_enumS hg hm (pa_cons we_pe pa_nil he) he) (pg_tup B.calm (pgs_cons (pg_name B.nd hj1 hx1 (.inl (B.fn x1))) (pgs_cons (pg_name B.nd hj2 hx2 (.inl (B.fn x2))) pgs_nil ha2) ha1) hn hst) we_pss hf) ?_
  refine hi.run fun v H1 l r => ?_
  obtain ⟨I, h0, hk, hb, hd⟩ := h v H1 l r
  obtain ⟨a, xs, rfl, s, rr⟩ := dp_sq r hs
  have el := dpa_len rr
  refine ⟨a, rfl, for_enumS s I h0 (fun i σ' H' _ q => ⟨fun z => (hk i σ' H' q).sqL z (by simp), fun z => (hk i σ' H' q).sqT z (by simp)⟩) (fun i u q σ' H' hu hq qq => ?_) (fun σ' H' q => hd σ' H' (el ▸ q))⟩
  obtain ⟨d, hd2, rd⟩ := dpa_get' rr hu
  refine ⟨q, [.int i, u], rfl, SqT.of upd_same, rfl, .int i, [u], rfl, u, [], rfl, rfl, ?_⟩
  exact hb i d u σ' H' hd2 qq _ (.new hq) ((Le.new (T := T) hq).dp ((hk i σ' H' qq).dp rd))
theorem s_forR {j : Nat} {x : Str} {e : Expr} {n : Nat} (B : Bd X k E) (hi : Ed X T e σ H (.int n)) (hn : n < 2 ^ 60) (hm : X.mg "range" = none)
    (h : ∀ H1, Le T [] H H1 → ∃ I : Nat → St → Hp → Prop, I 0 σ H1 ∧ (∀ i σ' H', i < n → I i σ' H' → WpSs X body { D with nx := I (i + 1), ct := I (i + 1), bk := D.nx } (σ'.set j (some (.int i))) H') ∧ ∀ σ' H', I n σ' H' → D.nx σ' H')
    (hj : X.N[j]? = some x := by rfl) (hx : Loc X.env.scope x := by first | exact .inl rfl | exact .inr rfl) (hg : Gl X "range" := by rfl) (he : starEach [e] X.env = (false, eval e X.env) :: starEach [] X.env := by rfl) (hf : ∀ y, foldedSetIterable (.Call (.Name "range" p) [e] [] p') X.env y = pure y := by intro _; rfl) :
    WpS X (.For (.Name x pos) (.Call (.Name "range" p) [e] [] p') body [] pos) D σ H := by
  refine ps_we (ps_for B.own B.calm (pi_range1 hg hm (pa_cons we_pe pa_nil he) he) (pg_name B.nd hj hx (.inl (B.fn x))) we_pss hf) ?_
  refine hi.run fun v H1 l r => ?_
  cases r
  obtain ⟨I, h0, hb, hd⟩ := h H1 l
  refine ⟨n, rfl, by omega, by omega, for_range I h0 (fun i σ' H' hi q => ?_) fun σ' H' q => hd σ' H' q⟩
  rw [Int.zero_add]
  exact hb i σ' H' hi q
theorem s_forR2 {j : Nat} {x : Str} {e1 e : Expr} {lo n : Nat} (B : Bd X k E) (hi1 : Ed X T e1 σ H (.int lo)) (hi : Ed X T e σ H (.int (lo + n : Nat))) (hn : lo + n < 2 ^ 60) (hm : X.mg "range" = none)
    (h : ∀ H1, Le T [] H H1 → ∃ I : Nat → St → Hp → Prop, I 0 σ H1 ∧ (∀ i σ' H', i < n → I i σ' H' → WpSs X body { D with nx := I (i + 1), ct := I (i + 1), bk := D.nx } (σ'.set j (some (.int (lo + i : Nat)))) H') ∧ ∀ σ' H', I n σ' H' → D.nx σ' H')
    (hj : X.N[j]? = some x := by rfl) (hx : Loc X.env.scope x := by first | exact .inl rfl | exact .inr rfl) (hg : Gl X "range" := by rfl) (he : starEach [e1, e] X.env = (false, eval e1 X.env) :: starEach [e] X.env := by rfl) (he2 : starEach [e] X.env = (false, eval e X.env) :: starEach [] X.env := by rfl) (hf : ∀ y, foldedSetIterable (.Call (.Name "range" p) [e1, e] [] p') X.env y = pure y := by intro _; rfl) :
    WpS X (.For (.Name x pos) (.Call (.Name "range" p) [e1, e] [] p') body [] pos) D σ H := by
  refine ps_we (ps_for B.own B.calm (pi_range2 hg hm (pa_cons we_pe (pa_cons we_pe pa_nil he2) he) (by rw [he, he2]; rfl) he2) (pg_name B.nd hj hx (.inl (B.fn x))) we_pss hf) ?_
  refine hi1.run fun v1 H0 l0 r0 => ?_
  refine hi H0 l0 _ fun v H1 l r => ?_
  cases r
  cases r0
  obtain ⟨I, h0, hb, hd⟩ := h H1 (l0.trans l)
  have e1 : (((lo + n : Nat) : Int) - (lo : Int)).toNat = n := by omega
  refine ⟨lo, (lo + n : Nat), rfl, ⟨by omega, by omega, by omega, by omega⟩, ?_⟩
  rw [e1]
  refine for_range I h0 (fun i σ' H' hi q => ?_) fun σ' H' q => hd σ' H' q
  have e2 : ((lo : Int) + (i : Int)) = ((lo + i : Nat) : Int) := by omega
  rw [e2]
  exact hb i σ' H' hi q
/-- while: I by a measure, the test decided by q -/
theorem s_while (B : Bd X k E) {α : Type} (I : α → St → Hp → Prop) (m : α → Nat) (a0 : α) (h0 : I a0 σ H) (h : ∀ a σ' H', I a σ' H' → ∃ q : Bool, Et X T c σ' H' q ∧ (q = true → ∀ H1, Le T [] H' H1 → WpSs X body { D with nx := fun σ2 H2 => ∃ a', m a' < m a ∧ I a' σ2 H2, ct := fun σ2 H2 => ∃ a', m a' < m a ∧ I a' σ2 H2, bk := D.nx } σ' H1) ∧ (q = false → ∀ H1, Le T [] H' H1 → D.nx σ' H1)) :
    WpS X (.While c body [] pos) D σ H := by
  refine ps_we (ps_while B.own we_pt we_pss) ⟨fun n σ' H' => ∃ a, m a = n ∧ I a σ' H', ⟨m a0, a0, rfl, h0⟩, ?_⟩
  rintro n σ' H' ⟨a, rfl, ha⟩
  obtain ⟨q, hc, ht, hf⟩ := h a σ' H' ha
  refine hc.run fun H1 l => ?_
  cases q with
  | true =>
    rw [if_pos rfl]
    exact ⟨fun σ2 H2 => ∃ a', m a' < m a ∧ I a' σ2 H2, fun σ2 H2 ⟨a', h1, h2⟩ => ⟨m a', h1, a', rfl, h2⟩, ht rfl H1 l⟩
  | false =>
    rw [if_neg (by simp)]
    exact hf rfl H1 l
/-! ### list comprehensions of one name -/
def DpN (S : List Addr) (K : PySem.W.Frag) (H : Hp) (v : V) (d : PyData) : Prop := Dp K H v d ∧ (noL d = true ∨ ∃ a xs ds, v = .ref a ∧ d = .list ds ∧ a ∉ S ∧ SqL K H a xs ∧ DpAll K H xs ds ∧ noLs ds = true)
theorem DpN.to {S : List Addr} {K : PySem.W.Frag} {H H' : Hp} {v : V} (e : Le T S H H') (hS : NoTup H S) (h : DpN S K H v d) : DpN S K H' v d := by
  obtain ⟨h1, h2 | ⟨a, xs, ds, rfl, rfl, h3, h4, h5, h6⟩⟩ := h
  · exact ⟨e.dpT hS h2 h1, .inl h2⟩
  · have q1 := e.sqL h4 h3
    have q2 := e.dpTs hS h6 h5
    exact ⟨.lst q1 q2, .inr ⟨a, xs, ds, rfl, rfl, h3, q1, q2, h6⟩⟩
theorem DpN.up {S : List Addr} {K : PySem.W.Frag} {H H' : Hp} {v : V} (e : Le T [] H H') (h : DpN S K H v d) : DpN S K H' v d := by
  obtain ⟨h1, h2 | ⟨a, xs, ds, rfl, rfl, h3, h4, h5, h6⟩⟩ := h
  · exact ⟨e.dp h1, .inl h2⟩
  · exact ⟨e.dp h1, .inr ⟨a, xs, ds, rfl, rfl, h3, e.sqL h4 (by simp), e.dpAll h5, h6⟩⟩
inductive AllN (S : List Addr) (K : PySem.W.Frag) (H : Hp) : List V → List PyData → Prop
  | nil : AllN S K H [] []
  | cons {v : V} {vs : List V} {d : PyData} {ds : List PyData} : DpN S K H v d → AllN S K H vs ds → AllN S K H (v :: vs) (d :: ds)
theorem AllN.dpa {S : List Addr} {K : PySem.W.Frag} {H : Hp} {vs : List V} {ds : List PyData} (h : AllN S K H vs ds) : DpAll K H vs ds := by
  induction h with
  | nil => exact .nil
  | cons a _ ih => exact .cons a.1 ih
theorem AllN.to {S : List Addr} {K : PySem.W.Frag} {H H' : Hp} {vs : List V} {ds : List PyData} (e : Le T S H H') (hS : NoTup H S) (h : AllN S K H vs ds) : AllN S K H' vs ds := by
  induction h with
  | nil => exact .nil
  | cons a _ ih => exact .cons (a.to e hS) ih
theorem AllN.up {S : List Addr} {K : PySem.W.Frag} {H H' : Hp} {vs : List V} {ds : List PyData} (e : Le T [] H H') (h : AllN S K H vs ds) : AllN S K H' vs ds := by
  induction h with
  | nil => exact .nil
  | cons a _ ih => exact .cons (a.up e) ih
theorem AllN.snoc {S : List Addr} {K : PySem.W.Frag} {H : Hp} {vs : List V} {ds : List PyData} {v : V} {d : PyData} (h : AllN S K H vs ds) (g : DpN S K H v d) : AllN S K H (vs ++ [v]) (ds ++ [d]) := by
  induction h with
  | nil => exact .cons g .nil
  | cons a _ ih => exact .cons a ih
theorem noTup_lst {H : Hp} {a : Addr} {xs : List V} (h : H a = some (.lst xs)) : NoTup H [a] := fun s hs => by
  obtain rfl : s = a := by simpa using hs
  rw [h]
  exact ⟨fun ys z => (nomatch z), fun o ys z => (nomatch z)⟩
/-- the accumulator at a: its items -/
def Acc (T : List (Addr × Str)) (K : PySem.W.Frag) (a : Addr) (ds : List PyData) (H : Hp) : Prop := ∃ xs, H a = some (.lst xs) ∧ AllN [a] K H xs ds
theorem Acc.up {K : PySem.W.Frag} {a : Addr} (h : Acc T K a ds H) (e : Le T [] H H1) : Acc T K a ds H1 := by
  obtain ⟨xs, h1, h2⟩ := h
  exact ⟨xs, e.lst h1 (by simp), h2.up e⟩
theorem Acc.dp {K : PySem.W.Frag} {a : Addr} (h : Acc T K a ds H) : Dp K H (.ref a) (.list ds) := by
  obtain ⟨xs, h1, h2⟩ := h
  exact dp_lst h1 h2.dpa
theorem Acc.push {K : PySem.W.Frag} {a : Addr} {xs : List V} {v : V} (h1 : H a = some (.lst xs)) (h2 : AllN [a] K H xs ds) (h : DpN [a] K H v d) : Acc T K a (ds ++ [d]) (upd H a (.lst (xs ++ [v]))) := by
  have l : Le T [a] H (upd H a (.lst (xs ++ [v]))) := Le.refl.putL h1 (.inl (by simp))
  exact ⟨_, upd_same, (h2.to l (noTup_lst h1)).snoc (h.to l (noTup_lst h1))⟩
theorem alln_len {S : List Addr} {K : PySem.W.Frag} {H : Hp} {vs : List V} {ds : List PyData} (h : AllN S K H vs ds) : vs.length = ds.length := dpa_len h.dpa
abbrev BlkE (X : Cx) (T : List (Addr × Str)) (elt : Expr) (scope : Scope) (σ : St) (H : Hp) (R : VP) : Prop := ∀ (s : Shared) (H0 : Hp) (C : Addr) (cl : List (Str × Addr)) (fp : List Addr), Er (X.blk s H0 scope (compEnvC scope cl C X.env) fp) T elt σ H R
def blkTe (X : Cx) (scope : Scope) (elt : Expr) : TE := fun σ H Q => ∀ (s : Shared) (H0 : Hp) (C : Addr) (cl : List (Str × Addr)) (fp : List Addr), WpE (X.blk s H0 scope (compEnvC scope cl C X.env) fp) elt σ H Q
theorem wipe_back {σ : St} {j : Nat} {u : V} : wipe ((wipe σ [j]).set j (some u)) [j] = wipe σ [j] := by
  show ((σ.set j none).set j (some u)).set j none = σ.set j none
  rw [List.set_set, List.set_set]
theorem er_lcS {elt iter : Expr} {x : Str} {px : Pos} {scope : Scope} {j : Nat} {f : PyData → PyData} (hc : X.calm = true) (hN : X.N.Nodup) (hi : Ed X T iter σ H d0) (hs : IsSeq d0 ds) (hz : ds.length ≤ 100000) (hok : blkC X.N X.env.scope scope [(x, j)] = true)
    (he : ∀ (i : Nat) d u H1 a, ds[i]? = some d → Le T [] H H1 → Dp X.K H1 u d → (∃ ys, H1 a = some (HO.lst ys)) → BlkE X T elt scope ((σ.set j none).set j (some u)) H1 (fun v H' => DpN [a] X.K H' v (f d)))
    (hj : X.N[j]? = some x := by rfl) (hl : (relS scope X.env.scope).names.lookup x = some .local := by rfl) (hf : ∀ y, foldedSetIterable iter X.env y = pure y := by intro _; rfl) :
    Ed X T (.ListComp elt [⟨.Name x px, iter, [], 0⟩] scope pos) σ H (.list (ds.map f)) := fun H1 l Q q => by
  refine pe_we (pe_lc (g := gName j) (tt := tYes) (own := [(x, j)]) (te := blkTe X scope elt) hc hN (pi_seq we_pe) (blkOk_by hok) (fun _ _ _ _ _ => pg_name hN hj (.inl hl) (.inr hl)) (fun _ _ _ _ _ => pts_nil) (fun s H0 C cl fp => ⟨fun pins s1 σ H Q I h => h s H0 C cl fp pins s1 I⟩) hf) ?_
  refine hi H1 l _ fun v H2 l2 r => ?_
  obtain ⟨a, xs, rfl, sq, rr⟩ := dp_sq r hs
  have el := dpa_len rr
  have key : ∀ D, H2 D = none → ∀ {i : Nat} {u : V} {H3 : Hp}, xs[i]? = some u → (Acc T X.K D ((ds.take i).map f) H3 ∧ Le T [] H2 H3) → gName j u (wipe σ [j]) H3 fun σ2 H4 => wipe σ2 [j] = wipe σ [j] ∧ tYes σ2 H4 fun b H5 =>
      if b = true then (blkTe X scope elt σ2 H5 fun y H6 => ∃ acc, H6 D = some (.lst acc) ∧ acc.length < sizeLine ∧ (Acc T X.K D ((ds.take (i + 1)).map f) (upd H6 D (.lst (acc ++ [y]))) ∧ Le T [] H2 (upd H6 D (.lst (acc ++ [y]))))) else (Acc T X.K D ((ds.take (i + 1)).map f) H5 ∧ Le T [] H2 H5) := fun D hD i u H3 hu ⟨hA, l3⟩ => by
    obtain ⟨d, hd, rd⟩ := dpa_get' rr hu
    refine ⟨wipe_back, ?_⟩
    change blkTe X scope elt ((wipe σ [j]).set j (some u)) H3 _
    intro s H0 C cl fp
    obtain ⟨ys, hy1, hy2⟩ := hA
    refine he i d u H3 D hd (l.trans (l2.trans l3)) (l3.dp rd) ⟨ys, hy1⟩ s H0 C cl fp H3 .refl _ fun v H6 l6 rv => ?_
    have hy6 := l6.lst hy1 (by simp)
    have hlt : i < ds.length := (List.getElem?_eq_some_iff.mp hd).1
    have e2 : (ds.take (i + 1)).map f = (ds.take i).map f ++ [f d] := by
      rw [List.take_add_one, hd, List.map_append] <;> rfl
    refine ⟨ys, hy6, ?_, ?_, (l3.trans l6).putL hy6 (.inr hD)⟩
    · rw [alln_len hy2, List.length_map, List.length_take, sizeLine_eq]; omega
    · rw [e2]
      exact Acc.push hy6 (hy2.up l6) rv
  have start : ∀ D, H2 D = none → Acc T X.K D ((ds.take 0).map f) (upd H2 D (.lst [])) ∧ Le T [] H2 (upd H2 D (.lst [])) := fun D hD => ⟨⟨[], upd_same, .nil⟩, .new hD⟩
  have fin : ∀ D H3, (Acc T X.K D ((ds.take xs.length).map f) H3 ∧ Le T [] H2 H3) → Q (.ref D) H3 := fun D H3 ⟨hA, l3⟩ => q _ _ (l2.trans l3) (by
    have := hA.dp
    rw [el, List.take_length] at this
    exact this)
  rcases sq with s | s
  · exact ⟨a, rfl, .inl ⟨⟨xs, s⟩, fun D hD => lc_list (g := gName j) (tt := tYes) (te := blkTe X scope elt) (σ := σ) (vs := [j]) (xs := xs) (fun i H3 => Acc T X.K D ((ds.take i).map f) H3 ∧ Le T [] H2 H3) (start D hD) (fun i H3 _ h3 => h3.2.sqL s (by simp)) (fun i u H3 hu h3 => key D hD hu h3) (fin D)⟩⟩
  · exact ⟨a, rfl, .inr ⟨⟨xs, s⟩, fun D hD => lc_tup (g := gName j) (tt := tYes) (te := blkTe X scope elt) (σ := σ) (vs := [j]) (xs := xs) (fun i H3 => Acc T X.K D ((ds.take i).map f) H3 ∧ Le T [] H2 H3) (start D hD) (fun i H3 _ h3 => h3.2.sqT s (by simp)) (fun i u H3 hu h3 => key D hD hu h3) (fin D)⟩⟩
end
end RM
namespace RM
open PySem PySem.Spec L2 LamX
open PyProof.Rows hiding St
section
variable {X : Cx} {T : List (Addr × Str)} {e a b c : Expr} {es : List Expr} {st : Stmt} {sts rest : List Stmt} {σ : St} {H H1 : Hp} {pos p p' : Pos} {R R' : VP} {Rs : List VP} {d d' d0 : PyData} {ds : List PyData} {D : Ends} {k : Nat} {E : XK} {body orelse : List Stmt}
theorem er_lcR {elt e : Expr} {x : Str} {px : Pos} {scope : Scope} {j : Nat} {n : Nat} {f : Nat → PyData} (hc : X.calm = true) (hN : X.N.Nodup) (hm : X.mg "range" = none) (hi : Ed X T e σ H (.int n)) (hz : n ≤ 100000) (hok : blkC X.N X.env.scope scope [(x, j)] = true)
    (he : ∀ (i : Nat) H1 a, i < n → Le T [] H H1 → (∃ ys, H1 a = some (HO.lst ys)) → BlkE X T elt scope ((σ.set j none).set j (some (.int i))) H1 (fun v H' => DpN [a] X.K H' v (f i)))
    (hj : X.N[j]? = some x := by rfl) (hl : (relS scope X.env.scope).names.lookup x = some .local := by rfl) (hg : Gl X "range" := by rfl) (hst : starEach [e] X.env = (false, eval e X.env) :: starEach [] X.env := by rfl) (hf : ∀ y, foldedSetIterable (.Call (.Name "range" p) [e] [] p') X.env y = pure y := by intro _; rfl) :
    Ed X T (.ListComp elt [⟨.Name x px, .Call (.Name "range" p) [e] [] p', [], 0⟩] scope pos) σ H (.list ((List.range n).map f)) := fun H1 l Q q => by
  refine pe_we (pe_lc (g := gName j) (tt := tYes) (own := [(x, j)]) (te := blkTe X scope elt) hc hN (pi_range1 hg hm (pa_cons we_pe pa_nil hst) hst) (blkOk_by hok) (fun _ _ _ _ _ => pg_name hN hj (.inl hl) (.inr hl)) (fun _ _ _ _ _ => pts_nil) (fun s H0 C cl fp => ⟨fun pins s1 σ H Q I h => h s H0 C cl fp pins s1 I⟩) hf) ?_
  refine hi H1 l _ fun v H2 l2 r => ?_
  cases r
  refine ⟨n, rfl, by omega, by omega, fun D hD => ?_⟩
  refine lc_range (g := gName j) (tt := tYes) (te := blkTe X scope elt) (σ := σ) (vs := [j]) (n := n) (lo := 0) (fun i H3 => Acc T X.K D ((List.range i).map f) H3 ∧ Le T [] H2 H3) ⟨⟨[], upd_same, .nil⟩, .new hD⟩ (fun i H3 hi ⟨hA, l3⟩ => ?_) fun H3 ⟨hA, l3⟩ => q _ _ (l2.trans l3) hA.dp
  refine ⟨wipe_back, ?_⟩
  change blkTe X scope elt ((wipe σ [j]).set j (some _)) H3 _
  intro s H0 C cl fp
  obtain ⟨ys, hy1, hy2⟩ := hA
  rw [Int.zero_add]
  refine he i H3 D hi (l.trans (l2.trans l3)) ⟨ys, hy1⟩ s H0 C cl fp H3 .refl _ fun v H6 l6 rv => ?_
  have hy6 := l6.lst hy1 (by simp)
  refine ⟨ys, hy6, ?_, ?_, (l3.trans l6).putL hy6 (.inr hD)⟩
  · rw [alln_len hy2, List.length_map, List.length_range, sizeLine_eq]; omega
  · rw [List.range_succ, List.map_append]
    exact Acc.push hy6 (hy2.up l6) rv
/-- elements without lists -/
theorem BlkE.of {scope : Scope} {a : Addr} {elt : Expr} (hn : noL d = true) (h : BlkE X T elt scope σ H (dP X.K d)) : BlkE X T elt scope σ H (fun v H' => DpN [a] X.K H' v d) := fun s H0 C cl fp => (h s H0 C cl fp).imp fun v H' _ r => ⟨r, .inl hn⟩
/-- elements that are new lists -/
theorem BlkE.fresh {scope : Scope} {a : Addr} {elt : Expr} (hn : noLs ds = true) (ha : ∃ ys, H a = some (HO.lst ys)) (h : BlkE X T elt scope σ H (FreshL X.K H ds)) : BlkE X T elt scope σ H (fun v H' => DpN [a] X.K H' v (.list ds)) := fun s H0 C cl fp => (h s H0 C cl fp).imp fun v H' _ r => by
  obtain ⟨ys, ha⟩ := ha
  obtain ⟨b, xs, rfl, h1, h2, h3⟩ := r
  refine ⟨dp_lst h2 h3, .inr ⟨b, xs, ds, rfl, rfl, fun z => ?_, SqL.of h2, h3, hn⟩⟩
  obtain rfl : b = a := by simpa using z
  rw [ha] at h1
  rcases h1 with h1 | ⟨ps, h1⟩ <;> cases h1
theorem dec_int {i j : Int} : decide (V.int i = V.int j) = decide (i = j) := decide_eq_decide.mpr ⟨fun h => by cases h; rfl, fun h => by rw [h]⟩
theorem et_eqI {i j : Int} (ha : Ed X T a σ H (.int i)) (hb : Ed X T b σ H (.int j)) (hm : behindInMarks .Eq b = false := by exact nomark _) : Et X T (.Compare a [.Eq] [b] pos) σ H (decide (i = j)) :=
  et_cmp2 stab_d op_eq ha hb hm fun x y H1 _ rx ry Q q => by
    cases rx; cases ry
    rw [← dec_int] at q
    exact ⟨rfl, q⟩
theorem et_neI {i j : Int} (ha : Ed X T a σ H (.int i)) (hb : Ed X T b σ H (.int j)) (hm : behindInMarks .NotEq b = false := by exact nomark _) : Et X T (.Compare a [.NotEq] [b] pos) σ H (!decide (i = j)) :=
  et_cmp2 stab_d op_ne ha hb hm fun x y H1 _ rx ry Q q => by
    cases rx; cases ry
    rw [← dec_int] at q
    exact ⟨rfl, q⟩
/-! ### raising -/
theorem s_raise {x f : Str} {C fI D0 : Addr} {a : Expr} {p2 : Pos} (B : Bd X k E) (TC : RaiseC X.prog X.K X.mg x C fI D0 f) (ha : Er X T a σ H R) (h : ∀ v dd H1, Le T [] H H1 → R v H1 → H1 dd = none → E (.ref C) (some dd) (upd H1 dd (.xd [(f, v)])))
    (hg : Gl X x := by rfl) (hdb : (x == ("__debug__" : Str)) = false := by decide) (he : starEach [a] X.env = (false, eval a X.env) :: starEach [] X.env := by rfl) (hpl : (backTo pos (starEach [] X.env)).any (·.1) = false := by rfl) : WpS X (.Raise (some (.Call (.Name x p) [a] [] pos)) none p2) D σ H := by
  refine ps_we (ps_raiseP B.calm TC B.room B.tk (pa_cons we_pe pa_nil he) hg hdb he hpl) ?_
  exact ha.run fun v H1 l r => ⟨v, rfl, fun dd hdd => h v dd H1 l r hdd⟩
/-! ### watches -/
def nsD (l : List Nat) : PyData := .tuple (l.map fun n => PyData.int (n : Nat))
def movesD (m : List (List Nat)) : PyData := .tuple (m.map nsD)
def WatchAt (K : PySem.W.Frag) (H : Hp) (C a : Addr) (m : List (List Nat)) (ws : List Nat) : Prop := ∃ dx v1 v2, H a = some (.ins C dx [("own_moves", v1), ("own_words", v2)]) ∧ Dp K H v1 (movesD m) ∧ Dp K H v2 (nsD ws)
theorem WatchAt.up {K : PySem.W.Frag} {C a : Addr} {m : List (List Nat)} {ws : List Nat} (l : Le T [] H H1) (h : WatchAt K H C a m ws) : WatchAt K H1 C a m ws := by
  obtain ⟨dx, v1, v2, h1, h2, h3⟩ := h
  exact ⟨dx, v1, v2, l.at h1 (by simp) (fun _ z => nomatch z), l.dp h2, l.dp h3⟩
abbrev wP (K : PySem.W.Frag) (C : Addr) (m : List (List Nat)) (ws : List Nat) : VP := fun v H => ∃ a, v = .ref a ∧ WatchAt K H C a m ws
theorem stab_w {K : PySem.W.Frag} {C : Addr} {m : List (List Nat)} {ws : List Nat} : Stab T (wP K C m ws) := fun v H H' l ⟨a, h1, h2⟩ => ⟨a, h1, h2.up l⟩
def fldSp (T : List (Addr × Str)) (K : PySem.W.Frag) (C : Addr) (f : List (List Nat) → List Nat → PyData) : Sp := fun vs H Q _ => ∃ a m ws, vs = [.ref a] ∧ WatchAt K H C a m ws ∧ m ≠ [] ∧ ∀ v H', Le T [] H H' → Dp K H' v (f m ws) → Q v H'
theorem er_prop {C pr g : Addr} {f : Str} {fd : FuncData} {fv : List (List Nat) → List Nat → PyData} {m : List (List Nat)} {ws : List Nat} (he : Er X T e σ H (wP X.K C m ws)) (c : Cls X.K C) (hp : PropOf X.K C f pr g) (F : FnOk X.prog X.w X.K X.mg X.base (L2.CX X.prog X.w) k g fd ["self"] (fldSp T X.K C fv)) (hr : Room (k + 1) X.A) (hb : Binds X.K fd ["self"] []) (hm : m ≠ [])
    (hab : attributeBase e f X.env (eval e X.env) = eval e X.env := by rfl) : Ed X T (.Attribute e f pos) σ H (fv m ws) := fun H1 l Q q => by
  refine pe_we (pe_prop we_pe c hp F hr hb .nil passL hab) ?_
  refine he H1 l _ fun v H2 l2 ⟨a, e, hw⟩ => ?_
  have hw' := hw
  obtain ⟨dx, v1, v2, h1, h2, h3⟩ := hw'
  exact ⟨a, dx, _, e, h1, a, m, ws, rfl, hw, hm, fun v H' l3 r => q v H' (l2.trans l3) r⟩
end
end RM
namespace RM
open PySem PySem.Spec L2 LamX
open PyProof.Rows hiding St
def fdOf (K : PySem.W.Frag) (a : Addr) : FuncData := match K.lookup a with
  | some ⟨_, _, .func fd, _⟩ => fd
  | _ => { name := "", qualname := "", params := { posonlyargs := [], args := [], vararg := none, kwonlyargs := [], kw_defaults := [], kwarg := none, defaults := [] }, body := .stmts [], scope := { kind := .function, names := [], isGenerator := false, isCoroutine := false }, globals := 0, closure := [], defaults := .none, kwdefaults := .none, doc := .none, pyModule := .none, annotations := none, code := .none, closureTuple := .none, builtins := 0 }
theorem fdOf_eq {K : PySem.W.Frag} {a : Addr} {oc : Value} {od : Option Addr} {fd : FuncData} {sl : Array (Option Value)} (h : K.lookup a = some ⟨oc, od, .func fd, sl⟩) : fdOf K a = fd := by unfold fdOf; rw [h]
def tyNames : List String := ["NoneType", "bool", "int", "str", "list", "tuple", "dict"]
def kitTyB (x : Str) (K : PySem.W.Frag) : Bool := tyNames.all fun t => decide (PySem.W.kitOne K (.type t) (.ref (He.ga K x)) = some false)
theorem kitTy_ok {x : Str} {K : PySem.W.Frag} (h : kitTyB x K = true) (d : PyData) : PySem.W.kitOne K (.type (tyD d)) (.ref (He.ga K x)) = some false := by
  have := List.all_eq_true.mp h (tyD d) (by cases d <;> simp [tyD, tyNames])
  exact of_decide_eq_true this
def distB (tf : List He.Defn) (K : PySem.W.Frag) : Bool := decide ((tf.map fun p => (He.cT K p).2).Nodup) && (tf.all fun p => decide (K.lookup (He.cT K p).2 = none))
theorem hu_of {T : List (Addr × Str)} {P : Addr} {q : Str} (nd : (T.map (·.1)).Nodup) (h : (P, q) ∈ T) : ∀ p ∈ T, p.1 = P → p.2 = q := by
  induction T with
  | nil => cases h
  | cons a r ih =>
    rw [List.map_cons, List.nodup_cons] at nd
    intro p hp e
    rcases List.mem_cons.mp hp with rfl | hp
    · rcases List.mem_cons.mp h with e2 | h
      · rw [← e2]
      · exact absurd (List.mem_map.mpr ⟨_, h, e.symm⟩) nd.1
    · rcases List.mem_cons.mp h with e2 | h
      · have e3 : a.1 = P := by rw [← e2]
        exact absurd (List.mem_map.mpr ⟨p, hp, e.trans e3.symm⟩) nd.1
      · exact ih nd.2 h p hp e
structure TxG (fb : List (PySem.W.Frag → Bool)) (fn : List DefR) (tf : List He.Defn) (PR P : Program) (K : PySem.W.Frag) (mg : Str → Option Value) : Prop where
  eqP : P = PR
  ex : ∃ h : Heap, K.In h ∧ h.Ns mainGlobals mg ∧ SaysR fb fn tf h K
section
variable {fb : List (PySem.W.Frag → Bool)} {fn : List DefR} {tf : List He.Defn} {PR P : Program} {K : PySem.W.Frag} {mg : Str → Option Value}
theorem TxG.fact (t : TxG fb fn tf PR P K mg) (i : Nat) {f : PySem.W.Frag → Bool} (e : fb[i]? = some f) : f K = true := by
  obtain ⟨_, _, _, s⟩ := t.ex
  exact s.fact i e
theorem TxG.glo (t : TxG fb fn tf PR P K mg) (i : Nat) {x : Str} (e : fb[i]? = some (gloB x)) : mg x = some (.ref (He.ga K x)) := by
  obtain ⟨_, h1, h2, s⟩ := t.ex
  exact He.glo_ok h1 h2 (s.fact i e)
theorem TxG.free (t : TxG fb fn tf PR P K mg) (i : Nat) {x : Str} (e : fb[i]? = some (freeB x)) : mg x = none := by
  obtain ⟨_, h1, h2, s⟩ := t.ex
  exact He.free_ok h1 h2 (s.fact i e)
theorem TxG.int (t : TxG fb fn tf PR P K mg) (i : Nat) {x : Str} {n : Int} (e : fb[i]? = some (intB x n)) : ∃ t, mg x = some (.int n t) := by
  obtain ⟨_, h1, h2, s⟩ := t.ex
  exact He.int_ok h1 h2 (s.fact i e)
theorem TxG.fnc (t : TxG fb fn tf PR P K mg) (i : Nat) {d : DefR} (e : fn[i]? = some d) : FunR K d (fdOf K (d.at_ K)) := by
  obtain ⟨_, _, _, s⟩ := t.ex
  obtain ⟨fd, F⟩ := s.def_ i e
  obtain ⟨oc, od, dV, kV, doc, pm, an, cdv, ct, osl, cl, e1, e2, e3, e4⟩ := F.ex
  rw [fdOf_eq e3]
  exact F
theorem TxG.raiseC (t : TxG fb fn tf PR P K mg) (ki k : Nat) {d : DefR} {x ow f msg : Str} {j : Nat} {p1 p2 r0 r1 r2 r3 r4 r5 q1 q2 q3 q4 : Pos} (F : FunR K d (fdOf K (d.at_ K))) (e1 : fb[ki]? = some (initB PR.main.file ow)) (e2 : fb[k]? = some (pclsB x ow f))
    (ha : d.at_ K = He.ma K (He.ga K ow) "__init__") (hn : d.name = "__init__") (hp : d.params = xA f p1 p2) (hb : d.body = xB f msg j r0 r1 r2 r3 r4 r5 q1 q2 q3 q4) (hs : d.scope = xS f) (hd : d.dfl = []) (hc : d.clo = [("__class__" : Str)])
    (gx : mg x = some (.ref (He.ga K x))) (gS : mg "super" = none) (hl : (r2.endLine == r4.line) = true) (top : (PR.main.scope.names.lookup ("super" : Str)).isSome = false) (fk : f = "part" ∨ f = "index" ∨ f = "most") : RaiseC P K mg x (He.ga K x) (He.ma K (He.ga K ow) "__init__") (He.ga K ow) f := by
  have e := t.eqP
  subst e
  obtain ⟨h1, h2, h3, h4⟩ := pclsB_ok (t.fact k e2)
  exact ⟨pinit_of F (t.fact ki e1) ha hn hp hb hs hd hc hl gS top fk, h1, gx, h2, h3, h4⟩
end
structure WdG (fb : List (PySem.W.Frag → Bool)) (fn : List DefR) (tf : List He.Defn) (PR P : Program) (K : PySem.W.Frag) (mg : Str → Option Value) (base : Heap) : Prop where
  tx : TxG fb fn tf PR P K mg
  tab : ∀ p ∈ tf, TabB base mg (He.cT K p).1 (He.cT K p).2
theorem tabB_ext {base B : Heap} {mg : Str → Option Value} {c P : Addr} (t : TabB base mg c P) (h : ∀ b o, base.get? b = some o → B.get? b = some o) : TabB B mg c P := ⟨t.code.keeps h, t.bm.keeps h, t.gP⟩
theorem WdG.ext {fb : List (PySem.W.Frag → Bool)} {fn : List DefR} {tf : List He.Defn} {PR P : Program} {K : PySem.W.Frag} {mg : Str → Option Value} {base B : Heap} (W : WdG fb fn tf PR P K mg base) (h : ∀ b o, base.get? b = some o → B.get? b = some o) : WdG fb fn tf PR P K mg B :=
  ⟨W.tx, fun p hp => tabB_ext (W.tab p hp) h⟩
end RM
namespace RM
open PySem PySem.Spec L2 LamX
open PyProof.Rows hiding St
theorem FunR.co {K : PySem.W.Frag} {d : DefR} {p : He.Defn} (F : FunR K d (fdOf K (d.at_ K))) (h : d.at_ K = He.fAd K p) : ∃ (oc : Value) (od : Option Addr) (osl : Array (Option Value)), K.lookup (d.at_ K) = some ⟨oc, od, .func (fdOf K (d.at_ K)), osl⟩ ∧ (fdOf K (d.at_ K)).code = .ref (He.cT K p).1 := by
  obtain ⟨oc, od, dV, kV, doc, pm, an, cdv, ct, osl, cl, e, hcl, lk, k1, k2⟩ := F.ex
  obtain ⟨c, rfl⟩ := He.codeIn_ref k1
  refine ⟨oc, od, osl, lk, ?_⟩
  have hc : (fdOf K (d.at_ K)).code = .ref c := by rw [e]
  rw [hc]
  have lk2 := lk
  rw [h] at lk2
  have := He.codeOf_eq (p := p) lk2 (by rw [← h]; exact hc)
  show Value.ref c = Value.ref (He.codeOf K p)
  rw [this]
theorem codeO_nb {c : Addr} {q : Str} : ∀ ps, CodeO c q ≠ .tbl ps := fun ps z => by unfold CodeO at z; cases z
/-- the reading of a lambda's body: in every context in which it may run -/
def lamT (X : Cx) (ps : List Str) (scope : Scope) (body : Expr) (kL : Nat) : XK → TE := fun E σ H Q => ∀ (B : Heap) (f c' : Addr) (A : Around) (outer : List Env) (s : Shared) (H0 : Hp), X.K.In B → B.Ns mainGlobals X.mg → (∀ b o, X.base.get? b = some o → B.get? b = some o) →
  Room kL (A.deeper (lamEnvP X.env.qual X.env.cells scope s.heap.objs.size f c')) → WpE (lamCxP (L2.CX X.prog X.w) X.prog X.w X.K X.mg B (ps ++ X.N) X.env.qual X.env.cells A outer s H0 E scope f c') body σ H Q
section
variable {X : Cx} {T : List (Addr × Str)} {a : Expr} {σ : St} {H : Hp} {p lpos pos : Pos} {R R1 : VP} {k kL kG : Nat} {E : XK} {c PT : Addr} {x : Str} {g : Addr} {fdG : FuncData} {psG psL : List Str} {spG : Addr → Sp → Sp} {params : Arguments} {body : Expr} {scope : Scope}
theorem er_lam2 (B : Bd X k E) (he : Er X T a σ H R1) (hT : Tabs T H) (G : TakesFn X (L2.CX X.prog X.w) psL (kL + 1) (L2.CX X.prog X.w) kG g fdG psG spG) (hr : kG ≤ k) (hm : X.mg x = some (.ref g)) (hk : PySem.W.keepIn X.K (.ref g) = true) (hb : Binds X.K fdG psG [])
    (TB : TabB X.base X.mg c PT) (hcode : X.env.code = .ref c) (hmT : (PT, X.env.qual ++ "<lambda>") ∈ T) (nd : (T.map (·.1)).Nodup) (L : lamPB X.env.scope scope psL X.N = true)
    (hsp : ∀ v H2 f c', Le T [] H H2 → R1 v H2 → H2 c' = some (CodeO c' (X.env.qual ++ "<lambda>")) → ∀ Q : VK, (∀ u H3, Le T [] H2 H3 → R u H3 → Q u H3) → spG f (lamSp c' (X.env.qual ++ "<lambda>") psL.length σ (lamT X psL scope body kL)) [v, .ref f] H2 Q E0)
    (stR : Stab T R1) (hdef : defaultsOf params X.env = ([], []) := by rfl) (hg : Gl X x := by rfl)
    (hbind : ∀ (q : Str) (cl : List (Str × Addr)) (pm cv ctv : Value) (us : List Value), us.length = psL.length → bindArgs (PySem.W.kla_fn "<lambda>" q params body scope cl pm cv ctv) ⟨us, []⟩ = pure (psL.zip us) := by exact fun _ _ _ _ _ us hl => match us, hl with | [_], _ => rfl)
    (hdb : (x == ("__debug__" : Str)) = false := by decide) (hs : starEach (a :: [.Lambda params body scope lpos]) X.env = (false, eval a X.env) :: starEach [.Lambda params body scope lpos] X.env := by rfl) :
    Er X T (.Call (.Name x p) [a, .Lambda params body scope lpos] [] pos) σ H R := fun H1 l Q q => by
  refine pe_we (pe_callLam2 (T := T) (c := c) (P := PT) (kL := kL) (tb := lamT X psL scope body kL) (CXL := L2.CX X.prog X.w) we_pe B.fn G (B.room.mono hr) hg hm hk hb passL TB hcode hmT (hu_of nd hmT) (lamP_by L) hdef hbind (fun B f c' A outer s H E h1 h2 h3 h4 => ⟨fun pins s1 σ H1 Q I h => h B f c' A outer s H h1 h2 h3 h4 pins s1 I⟩) hdb hs) ?_
  refine he H1 l _ fun v H2 l2 r => ⟨(l.trans l2).tab hT, fun H3 f c' ex t3 hf hc => ?_⟩
  have l3 : Le T [] H2 H3 := Le.extN ex fun _ => t3
  exact hsp v H3 f c' (l.trans (l2.trans l3)) (stR _ _ _ l3 r) hc Q fun u H4 l4 r4 => q u H4 (l2.trans (l3.trans l4)) r4
theorem er_lam1 (B : Bd X k E) (hT : Tabs T H) (G : TakesFn X (L2.CX X.prog X.w) psL (kL + 1) (L2.CX X.prog X.w) kG g fdG psG spG) (hr : kG ≤ k) (hm : X.mg x = some (.ref g)) (hk : PySem.W.keepIn X.K (.ref g) = true) (hb : Binds X.K fdG psG [])
    (TB : TabB X.base X.mg c PT) (hcode : X.env.code = .ref c) (hmT : (PT, X.env.qual ++ "<lambda>") ∈ T) (nd : (T.map (·.1)).Nodup) (L : lamPB X.env.scope scope psL X.N = true)
    (hsp : ∀ H2 f c', Le T [] H H2 → H2 c' = some (CodeO c' (X.env.qual ++ "<lambda>")) → ∀ Q : VK, (∀ u H3, Le T [] H2 H3 → R u H3 → Q u H3) → spG f (lamSp c' (X.env.qual ++ "<lambda>") psL.length σ (lamT X psL scope body kL)) [.ref f] H2 Q E0)
    (hdef : defaultsOf params X.env = ([], []) := by rfl) (hg : Gl X x := by rfl)
    (hbind : ∀ (q : Str) (cl : List (Str × Addr)) (pm cv ctv : Value) (us : List Value), us.length = psL.length → bindArgs (PySem.W.kla_fn "<lambda>" q params body scope cl pm cv ctv) ⟨us, []⟩ = pure (psL.zip us) := by exact fun _ _ _ _ _ us hl => match us, hl with | [], _ => rfl)
    (hdb : (x == ("__debug__" : Str)) = false := by decide) :
    Er X T (.Call (.Name x p) [.Lambda params body scope lpos] [] pos) σ H R := fun H1 l Q q => by
  refine pe_we (pe_callLam (T := T) (c := c) (P := PT) (kL := kL) (tb := lamT X psL scope body kL) (CXL := L2.CX X.prog X.w) B.fn G (B.room.mono hr) hg hm hk hb passL TB hcode hmT (hu_of nd hmT) (lamP_by L) hdef hbind (fun B f c' A outer s H E h1 h2 h3 h4 => ⟨fun pins s1 σ H1 Q I h => h B f c' A outer s H h1 h2 h3 h4 pins s1 I⟩) hdb) ?_
  refine ⟨l.tab hT, fun H3 f c' ex t3 hf hc => ?_⟩
  have l3 : Le T [] H1 H3 := Le.extN ex fun _ => t3
  exact hsp H3 f c' (l.trans l3) hc Q fun u H4 l4 r4 => q u H4 (l3.trans l4) r4
end
end RM
namespace RM
open PySem PySem.Spec L2 LamX
open PyProof.Rows hiding St
theorem Le.drop {T : List (Addr × Str)} {S : List Addr} {H H' : Hp} (e : Le T S H H') (h : ∀ s ∈ S, H s = none) : Le T [] H H' := ⟨fun b o hb _ n => e.ext b o hb (fun z => by rw [h b z] at hb; cases hb) n, e.tab⟩
/-- at S neither lists nor tuples stand -/
def NoSeq (H : Hp) (S : List Addr) : Prop := ∀ s ∈ S, (∀ xs, H s ≠ some (.tup xs)) ∧ (∀ xs, H s ≠ some (.lst xs)) ∧ ∀ o u, H s ≠ some (.frz o u)
theorem NoSeq.noTup {H : Hp} {S : List Addr} (h : NoSeq H S) : NoTup H S := fun s hs => ⟨(h s hs).1, fun o xs => (h s hs).2.2 o _⟩
theorem Le.sqLS {T : List (Addr × Str)} {S : List Addr} {H H' : Hp} {K : PySem.W.Frag} {a : Addr} {xs : List V} (e : Le T S H H') (hS : NoSeq H S) (h : SqL K H a xs) : SqL K H' a xs := by
  rcases h with (h | ⟨o, h⟩) | h
  · exact .inl (.inl (e.ext _ _ h (fun z => (hS a z).2.1 _ h) fun ps z => by cases z))
  · exact .inl (.inr ⟨o, e.ext _ _ h (fun z => (hS a z).2.2 _ _ h) fun ps z => by cases z⟩)
  · exact .inr h
mutual
theorem Le.dpS {T : List (Addr × Str)} {S : List Addr} {H H' : Hp} {K : PySem.W.Frag} (e : Le T S H H') (hS : NoSeq H S) : ∀ {d : PyData} {v : V}, Dp K H v d → Dp K H' v d
  | _, _, .non => .non
  | _, _, .bl b => .bl b
  | _, _, .int i => .int i
  | _, _, .str x => .str x
  | _, _, .lst h r => .lst (e.sqLS hS h) (e.dpAS hS r)
  | _, _, .tup h r => .tup (e.sqT' hS.noTup h) (e.dpAS hS r)
theorem Le.dpAS {T : List (Addr × Str)} {S : List Addr} {H H' : Hp} {K : PySem.W.Frag} (e : Le T S H H') (hS : NoSeq H S) : ∀ {ds : List PyData} {vs : List V}, DpAll K H vs ds → DpAll K H' vs ds
  | _, _, .nil => .nil
  | _, _, .cons h r => .cons (e.dpS hS h) (e.dpAS hS r)
end
theorem noSeq_ins {H : Hp} {a C dx : Addr} {fs : List (Str × V)} (h : H a = some (.ins C dx fs)) : NoSeq H [a] := fun s hs => by
  obtain rfl : s = a := by simpa using hs
  rw [h]
  exact ⟨fun ys z => (nomatch z), fun ys z => (nomatch z), fun o u z => (nomatch z)⟩
theorem codeO_ni {c : Addr} {q : Str} {C dx : Addr} {fs : List (Str × V)} : CodeO c q ≠ .ins C dx fs := fun z => by unfold CodeO at z; cases z
section
variable {X : Cx} {T : List (Addr × Str)} {e a b c : Expr} {es : List Expr} {st : Stmt} {sts rest : List Stmt} {σ : St} {H H1 : Hp} {pos p p' : Pos} {R R' : VP} {Rs : List VP} {d d' d0 : PyData} {ds : List PyData} {D : Ends} {k : Nat} {E : XK} {body orelse : List Stmt}
theorem Le.putI {C dx a : Addr} {fs : List (Str × V)} {u : HO} {S : List Addr} {H' : Hp} (e : Le T S H H') (hl : H' a = some (.ins C dx fs)) (ha : a ∈ S) : Le T S H (upd H' a u) := e.put hl (.inl ha) (fun ps z => by cases z) fun c q z => codeO_ni z.symm
/-- self.f = e -/
theorem s_fld {i : Nat} {x f : Str} {ad C : Addr} {po : Pos} (hv : Er X T e σ H R) (hs : σ[i]? = some (some (.ref ad))) (c : Cls X.K C) (n : NoAttr X.K C f) (h : ∀ v H1, Le T [] H H1 → R v H1 → ∃ dx fs, H1 ad = some (.ins C dx fs) ∧ fs.length < 1000 ∧ D.nx σ (upd H1 ad (.ins C dx (putF f v fs))))
    (hN : X.N[i]? = some x := by rfl) (hvs : Vis X.env.scope x := by first | exact .inl rfl | exact .inr (.inl rfl) | exact .inr (.inr rfl)) (hd : (x == ("__debug__" : Str)) = false := by decide) (hcd : (x == ("__classdict__" : Str)) = false := by decide)
    (hsw : swapsWith e (some (.Attribute (.Name x p) f po)) pos.line X.env = pure false := by rfl) : WpS X (.Assign [.Attribute (.Name x p) f po] e pos) D σ H := by
  refine ps_we (ps_fld (pe_var hN hvs hd hcd) we_pe hsw) ?_
  refine hv.run fun v H1 l r => ?_
  obtain ⟨dx, fs, h1, h2, h3⟩ := h v H1 l r
  exact ⟨.ref ad, hs, ad, C, dx, fs, rfl, h1, c, n, h2, h3⟩
/-- e.f, an attribute -/
theorem er_fld {C : Addr} {f : Str} (c : Cls X.K C) (n : NoAttr X.K C f) (he : Er X T e σ H (fun v H' => ∃ a dx fs u, v = .ref a ∧ H' a = some (.ins C dx fs) ∧ fs.lookup f = some u ∧ R u H')) (hab : attributeBase e f X.env (eval e X.env) = eval e X.env := by rfl) : Er X T (.Attribute e f pos) σ H R := fun H1 l Q q => by
  refine pe_we (pe_fld we_pe hab) ?_
  refine he H1 l _ fun v H2 l2 ⟨a, dx, fs, u, h1, h2, h3, h4⟩ => ?_
  exact ⟨a, C, dx, fs, u, h1, h2, c, n, h3, q u H2 l2 h4⟩
theorem own_moves {C : Addr} {K : PySem.W.Frag} {m : List (List Nat)} {ws : List Nat} {v : V} (h : wP K C m ws v H) : ∃ a dx fs u, v = .ref a ∧ H a = some (.ins C dx fs) ∧ fs.lookup ("own_moves" : Str) = some u ∧ Dp K H u (movesD m) := by
  obtain ⟨a, rfl, dx, v1, v2, h1, h2, h3⟩ := h
  exact ⟨a, dx, _, v1, rfl, h1, rfl, h2⟩
theorem own_words {C : Addr} {K : PySem.W.Frag} {m : List (List Nat)} {ws : List Nat} {v : V} (h : wP K C m ws v H) : ∃ a dx fs u, v = .ref a ∧ H a = some (.ins C dx fs) ∧ fs.lookup ("own_words" : Str) = some u ∧ Dp K H u (nsD ws) := by
  obtain ⟨a, rfl, dx, v1, v2, h1, h2, h3⟩ := h
  exact ⟨a, dx, _, v2, rfl, h1, by rw [List.lookup_cons]; rfl, h3⟩
end
end RM
/-! maps of places, plain -/
namespace RM
def stepW (m : List (List Nat)) (p k : Nat) : Nat := (m.getD p []).getD k 0
def ledFrom (m : List (List Nat)) (p : Nat) (row : List Nat) : Nat := row.foldl (stepW m) p
def mapBy (m : List (List Nat)) (row : List Nat) : List Nat := (List.range m.length).map fun p => ledFrom m p row
def thenM (one other : List Nat) : List Nat := one.map fun p => other.getD p 0
def powM (f : List Nat) : Nat → List Nat
  | 0 => List.range f.length
  | n + 1 => thenM (powM f n) f
structure VM (m : List (List Nat)) : Prop where
  ne : 1 ≤ m.length
  most : m.length ≤ 6
  row : ∀ r ∈ m, r.length = (m.getD 0 []).length
  kinds : 1 ≤ (m.getD 0 []).length ∧ (m.getD 0 []).length ≤ 4
  goal : ∀ r ∈ m, ∀ x ∈ r, x < m.length
def kindsM (m : List (List Nat)) : Nat := (m.getD 0 []).length
/-- a map of L places -/
structure Val (L : Nat) (f : List Nat) : Prop where
  len : f.length = L
  lt : ∀ x ∈ f, x < L
theorem getD_mem {l : List Nat} {i : Nat} (h : i < l.length) : l.getD i 0 ∈ l := by
  rw [List.getD_eq_getElem?_getD, List.getElem?_eq_getElem h]
  exact List.getElem_mem h
theorem Val.get {L : Nat} {f : List Nat} (h : Val L f) {i : Nat} (hi : i < L) : f.getD i 0 < L := h.lt _ (getD_mem (by rw [h.len]; exact hi))
theorem val_range {L : Nat} : Val L (List.range L) := ⟨List.length_range, fun x hx => List.mem_range.mp hx⟩
theorem val_then {L : Nat} {f g : List Nat} (hf : Val L f) (hg : Val L g) : Val L (thenM f g) := ⟨by unfold thenM; rw [List.length_map]; exact hf.len, fun x hx => by
  unfold thenM at hx
  obtain ⟨p, hp, rfl⟩ := List.mem_map.mp hx
  exact hg.get (hf.lt p hp)⟩
theorem then_assoc {L : Nat} {f g h : List Nat} (hf : Val L f) (hg : Val L g) : thenM (thenM f g) h = thenM f (thenM g h) := by
  unfold thenM
  rw [List.map_map]
  refine List.map_congr_left fun p hp => ?_
  have := hf.lt p hp
  rw [← hg.len] at this
  simp only [Function.comp]
  rw [List.getD_eq_getElem?_getD (l := List.map _ g), List.getElem?_map, List.getD_eq_getElem?_getD (l := g), List.getElem?_eq_getElem this]
  rfl
theorem id_then {L : Nat} {f : List Nat} (hf : Val L f) : thenM (List.range L) f = f := by
  unfold thenM
  refine List.ext_getElem (by rw [List.length_map, List.length_range, hf.len]) fun i h1 h2 => ?_
  rw [List.getElem_map, List.getElem_range, List.getD_eq_getElem?_getD, List.getElem?_eq_getElem h2]
  rfl
theorem then_id {L : Nat} {f : List Nat} (hf : Val L f) : thenM f (List.range L) = f := by
  unfold thenM
  have : ∀ p ∈ f, (List.range L).getD p 0 = p := fun p hp => by
    have := hf.lt p hp
    rw [List.getD_eq_getElem?_getD, List.getElem?_eq_getElem (by rw [List.length_range]; exact this), List.getElem_range]
    rfl
  rw [List.map_congr_left this, List.map_id']
theorem val_pow {L : Nat} {f : List Nat} (hf : Val L f) : ∀ n, Val L (powM f n)
  | 0 => by unfold powM; rw [hf.len]; exact val_range
  | n + 1 => by unfold powM; exact val_then (val_pow hf n) hf
theorem pow_add {L : Nat} {f : List Nat} (hf : Val L f) (a : Nat) : ∀ b, powM f (a + b) = thenM (powM f a) (powM f b)
  | 0 => by
    rw [Nat.add_zero]
    show _ = thenM _ (List.range f.length)
    rw [hf.len, then_id (val_pow hf a)]
  | b + 1 => by
    rw [← Nat.add_assoc]
    show thenM (powM f (a + b)) f = thenM (powM f a) (thenM (powM f b) f)
    rw [pow_add hf a b, then_assoc (val_pow hf a) (val_pow hf b)]
theorem pow_one {L : Nat} {f : List Nat} (hf : Val L f) : powM f 1 = f := by
  show thenM (List.range f.length) f = f
  rw [hf.len]; exact id_then hf
theorem pow_mul {L : Nat} {f : List Nat} (hf : Val L f) (a : Nat) : ∀ b, powM (powM f a) b = powM f (a * b)
  | 0 => by
    show List.range (powM f a).length = List.range f.length
    rw [(val_pow hf a).len, hf.len]
  | b + 1 => by
    show thenM (powM (powM f a) b) (powM f a) = _
    rw [pow_mul hf a b, Nat.mul_succ, pow_add hf]
/-! ### rows -/
theorem VM.step {m : List (List Nat)} (h : VM m) {p k : Nat} (hp : p < m.length) (hk : k < kindsM m) : ∃ r, m[p]? = some r ∧ r[k]? = some (stepW m p k) ∧ stepW m p k < m.length := by
  have e1 : m[p]? = some m[p] := List.getElem?_eq_getElem hp
  have hr : m[p] ∈ m := List.getElem_mem hp
  have hl : k < m[p].length := by rw [h.row _ hr]; exact hk
  have e2 : stepW m p k = m[p][k] := by
    unfold stepW
    rw [List.getD_eq_getElem?_getD (l := m), e1]
    show m[p].getD k 0 = _
    rw [List.getD_eq_getElem?_getD, List.getElem?_eq_getElem hl]
    rfl
  refine ⟨_, e1, ?_, ?_⟩
  · rw [e2, List.getElem?_eq_getElem hl]
  · rw [e2]
    exact h.goal _ hr _ (List.getElem_mem hl)
theorem VM.led {m : List (List Nat)} (h : VM m) : ∀ {row : List Nat} {p : Nat}, p < m.length → (∀ k ∈ row, k < kindsM m) → ledFrom m p row < m.length
  | [], p, hp, _ => hp
  | k :: r, p, hp, hk => h.led (row := r) (h.step hp (hk k List.mem_cons_self)).choose_spec.2.2 fun x hx => hk x (List.mem_cons_of_mem _ hx)
theorem VM.map {m : List (List Nat)} (h : VM m) {row : List Nat} (hk : ∀ k ∈ row, k < kindsM m) : Val m.length (mapBy m row) := ⟨by unfold mapBy; rw [List.length_map, List.length_range], fun x hx => by
  unfold mapBy at hx
  obtain ⟨p, hp, rfl⟩ := List.mem_map.mp hx
  exact h.led (List.mem_range.mp hp) hk⟩
theorem led_app {m : List (List Nat)} {p : Nat} {a b : List Nat} : ledFrom m p (a ++ b) = ledFrom m (ledFrom m p a) b := by unfold ledFrom; rw [List.foldl_append]
theorem map_app {m : List (List Nat)} (h : VM m) {a b : List Nat} (ha : ∀ k ∈ a, k < kindsM m) : mapBy m (a ++ b) = thenM (mapBy m a) (mapBy m b) := by
  unfold thenM
  show (List.range m.length).map _ = ((List.range m.length).map fun p => ledFrom m p a).map _
  rw [List.map_map]
  refine List.map_congr_left fun p hp => ?_
  simp only [Function.comp]
  rw [led_app]
  have hq := h.led (List.mem_range.mp hp) ha
  show _ = (mapBy m b).getD _ 0
  unfold mapBy
  rw [List.getD_eq_getElem?_getD, List.getElem?_map, List.getElem?_eq_getElem (by rw [List.length_range]; exact hq), List.getElem_range]
  rfl
theorem map_nil {m : List (List Nat)} : mapBy m [] = List.range m.length := by
  unfold mapBy ledFrom
  simp
/-- a row so many times over -/
def repR (row : List Nat) : Nat → List Nat
  | 0 => []
  | n + 1 => repR row n ++ row
theorem repR_lt {row : List Nat} {k : Nat} (h : ∀ x ∈ row, x < k) : ∀ n, ∀ x ∈ repR row n, x < k
  | 0, x, hx => by simp [repR] at hx
  | n + 1, x, hx => by
    rcases List.mem_append.mp hx with hx | hx
    · exact repR_lt h n x hx
    · exact h x hx
theorem map_rep {m : List (List Nat)} (h : VM m) {row : List Nat} (hk : ∀ k ∈ row, k < kindsM m) : ∀ n, mapBy m (repR row n) = powM (mapBy m row) n
  | 0 => by
    show mapBy m [] = List.range (mapBy m row).length
    rw [map_nil, (h.map hk).len]
  | n + 1 => by
    show mapBy m (repR row n ++ row) = thenM _ _
    rw [map_app h (repR_lt hk n), map_rep h hk n]
/-! ### coming round -/
/-- from index on, behind period more, for the first time -/
structure Round (f : List Nat) (i p : Nat) : Prop where
  pos : 1 ≤ p
  eq : powM f i = powM f (i + p)
  dis : ∀ a b, a < b → b < i + p → powM f a ≠ powM f b
theorem Round.more {L : Nat} {f : List Nat} (hf : Val L f) {i p : Nat} (h : powM f i = powM f (i + p)) (n : Nat) : powM f (i + n) = powM f (i + p + n) := by
  rw [pow_add hf i n, pow_add hf (i + p) n, h]
theorem Round.mul {L : Nat} {f : List Nat} (hf : Val L f) {i p : Nat} (h : powM f i = powM f (i + p)) (n : Nat) : ∀ q, powM f (i + n) = powM f (i + n + p * q)
  | 0 => rfl
  | q + 1 => by
    rw [Round.mul hf h n q, Nat.mul_succ]
    have := Round.more hf h (n + p * q)
    rw [← Nat.add_assoc] at this
    rw [this]
    congr 1
    omega
theorem Round.far {L : Nat} {f : List Nat} (hf : Val L f) {i p : Nat} (h : powM f i = powM f (i + p)) {n : Nat} (hn : i ≤ n) : powM f n = powM f (i + (n - i) % p) := by
  have e : n = i + (n - i) % p + p * ((n - i) / p) := by
    have := Nat.mod_add_div (n - i) p
    omega
  rw [Round.mul hf h ((n - i) % p) ((n - i) / p), ← e]
theorem Round.uniq {L : Nat} {f : List Nat} (hf : Val L f) {i p a b : Nat} (h : Round f i p) (hab : a < b) (e : powM f a = powM f b) : i ≤ a ∧ p ≤ b - a := by
  have hi : i ≤ a := by
    rcases Nat.lt_or_ge a i with z | z
    · exfalso
      rcases Nat.lt_or_ge b (i + p) with y | y
      · exact h.dis a b hab y e
      · rw [Round.far hf h.eq (n := b) (by omega)] at e
        have := Nat.mod_lt (b - i) h.pos
        exact h.dis a (i + (b - i) % p) (by omega) (by omega) e
    · exact z
  refine ⟨hi, ?_⟩
  rcases Nat.lt_or_ge (b - a) p with z | z
  · exfalso
    have e1 := Round.far hf h.eq (n := a) hi
    have e2 := Round.far hf h.eq (n := b) (by omega)
    have m1 := Nat.mod_lt (a - i) h.pos
    have m2 := Nat.mod_lt (b - i) h.pos
    have ne : (a - i) % p ≠ (b - i) % p := fun z2 => by
      have : (b - i) = (a - i) + (b - a) := by omega
      rw [this] at z2
      have h1 := Nat.mod_add_div (a - i) p
      have h3 := Nat.mod_add_div (a - i + (b - a)) p
      rw [← z2] at h3
      have h5 : p * ((a - i + (b - a)) / p) = p * ((a - i) / p) + (b - a) := by omega
      have hlt : p * ((a - i) / p) < p * ((a - i + (b - a)) / p) := by omega
      have := Nat.lt_of_mul_lt_mul_left hlt
      have h6 : p * ((a - i) / p + 1) ≤ p * ((a - i + (b - a)) / p) := Nat.mul_le_mul_left p this
      rw [Nat.mul_succ] at h6
      omega
    rcases Nat.lt_or_gt_of_ne ne with y | y
    · exact h.dis (i + (a - i) % p) (i + (b - i) % p) (by omega) (by omega) (by rw [← e1, ← e2, e])
    · exact h.dis (i + (b - i) % p) (i + (a - i) % p) (by omega) (by omega) (by rw [← e1, ← e2, e])
  · exact z
/-! within so many steps -/
theorem pigeon : ∀ (L : Nat) (g : Nat → Nat), (∀ i, i ≤ L → g i < L) → ∃ a b, a < b ∧ b ≤ L ∧ g a = g b
  | 0, g, h => absurd (h 0 (Nat.le_refl _)) (by omega)
  | L + 1, g, h => by
    by_cases hx : ∃ a, a < L + 1 ∧ g a = g (L + 1)
    · obtain ⟨a, h1, h2⟩ := hx
      exact ⟨a, L + 1, h1, Nat.le_refl _, h2⟩
    · have hx : ∀ a, a < L + 1 → g a ≠ g (L + 1) := fun a ha e => hx ⟨a, ha, e⟩
      obtain ⟨a, b, h1, h2, h3⟩ := pigeon L (fun i => if g i = L then g (L + 1) else g i) fun i hi => by
        have := h i (by omega)
        have h4 := h (L + 1) (Nat.le_refl _)
        have h5 := hx i (by omega)
        show (if g i = L then g (L + 1) else g i) < L
        split <;> omega
      refine ⟨a, b, h1, by omega, ?_⟩
      have ha := hx a (by omega)
      have hb := hx b (by omega)
      split at h3 <;> split at h3 <;> omega
theorem get_then {f g : List Nat} {x : Nat} (h : x < f.length) : (thenM f g).getD x 0 = g.getD (f.getD x 0) 0 := by
  unfold thenM
  rw [List.getD_eq_getElem?_getD, List.getElem?_map, List.getD_eq_getElem?_getD (l := f), List.getElem?_eq_getElem h]
  rfl
theorem pow_60 {L : Nat} {f : List Nat} (hf : Val L f) (hL : L ≤ 6) : powM f L = powM f (L + 60) := by
  have key : ∀ x, x < L → (powM f L).getD x 0 = (powM f (L + 60)).getD x 0 := fun x hx => by
    obtain ⟨a, b, h1, h2, h3⟩ := pigeon L (fun i => (powM f i).getD x 0) fun i _ => (val_pow hf i).get hx
    have h3 : (powM f a).getD x 0 = (powM f b).getD x 0 := h3
    have go : ∀ n, (powM f (a + n)).getD x 0 = (powM f (b + n)).getD x 0 := fun n => by
      rw [pow_add hf, pow_add hf, get_then (by rw [(val_pow hf a).len]; exact hx), get_then (by rw [(val_pow hf b).len]; exact hx), h3]
    have rep : ∀ q n, (powM f (a + n)).getD x 0 = (powM f (a + n + (b - a) * q)).getD x 0 := fun q => by
      induction q with
      | zero => intro n; rfl
      | succ q ih =>
        intro n
        rw [ih n, Nat.mul_succ]
        have := go (n + (b - a) * q)
        rw [show a + n + (b - a) * q = a + (n + (b - a) * q) by omega, this]
        congr 2
        omega
    have hd : (b - a) * (60 / (b - a)) = 60 := by
      have : b - a ≤ 6 := by omega
      have h0 : 1 ≤ b - a := by omega
      have : b - a = 1 ∨ b - a = 2 ∨ b - a = 3 ∨ b - a = 4 ∨ b - a = 5 ∨ b - a = 6 := by omega
      rcases this with z | z | z | z | z | z <;> rw [z]
    have := rep (60 / (b - a)) (L - a)
    rw [hd, show a + (L - a) = L by omega] at this
    exact this
  refine List.ext_getElem (by rw [(val_pow hf _).len, (val_pow hf _).len]) fun i h1 h2 => ?_
  have := key i (by rw [(val_pow hf _).len] at h1; exact h1)
  rw [List.getD_eq_getElem?_getD, List.getElem?_eq_getElem h1, List.getD_eq_getElem?_getD, List.getElem?_eq_getElem h2] at this
  exact this
theorem round_le {L : Nat} {f : List Nat} (hf : Val L f) (hL : L ≤ 6) {i p : Nat} (h : Round f i p) : i ≤ 6 ∧ p ≤ 60 := by
  obtain ⟨h1, h2⟩ := h.uniq hf (a := L) (b := L + 60) (by omega) (pow_60 hf hL)
  omega
theorem least_of {P : Nat → Prop} : ∀ n, P n → ∃ k, P k ∧ ∀ j, j < k → ¬ P j := fun n => by
  induction n using Nat.strongRecOn with
  | ind n ih =>
    intro h
    by_cases hx : ∃ j, j < n ∧ P j
    · obtain ⟨j, h1, h2⟩ := hx
      exact ih j h1 h2
    · exact ⟨n, h, fun j hj hp => hx ⟨j, hj, hp⟩⟩
theorem round_ex {L : Nat} {f : List Nat} (hf : Val L f) (hL : L ≤ 6) : ∃ i p, Round f i p := by
  obtain ⟨n, ⟨i, hi, e⟩, hmin⟩ := least_of (P := fun n => ∃ i, i < n ∧ powM f i = powM f n) (L + 60) ⟨L, by omega, pow_60 hf hL⟩
  refine ⟨i, n - i, by omega, by rw [show i + (n - i) = n by omega]; exact e, fun a b hab hb z => hmin b (by omega) ⟨a, hab, z⟩⟩
theorem round_uniq {L : Nat} {f : List Nat} (hf : Val L f) {i p i' p' : Nat} (h : Round f i p) (h' : Round f i' p') : i = i' ∧ p = p' := by
  have a := h.uniq hf (a := i') (b := i' + p') (by have := h'.pos; omega) h'.eq
  have b := h'.uniq hf (a := i) (b := i + p) (by have := h.pos; omega) h.eq
  omega
theorem round_id {L : Nat} : Round (List.range L) 0 1 := ⟨Nat.le_refl _, by
  have := pow_one (val_range (L := L))
  show List.range (List.range L).length = powM (List.range L) 1
  rw [this, List.length_range], fun a b h1 h2 => by omega⟩
theorem rep_flat {row : List Nat} : ∀ k, (List.replicate k row).flatten = repR row k
  | 0 => rfl
  | k + 1 => by
    rw [List.replicate_succ', List.flatten_append, rep_flat k]
    simp [repR]
end RM
namespace RM
open PySem PySem.Spec L2 LamX
open PyProof.Rows hiding St
section
variable {T : List (Addr × Str)} {H H1 : Hp} {K : PySem.W.Frag}
theorem Le.dropT {S : List Addr} {H' : Hp} (e : Le T S H H') (h : ∀ s ∈ S, H s = none ∨ ∃ ps, H s = some (.tbl ps)) : Le T [] H H' := ⟨fun b o hb _ n => e.ext b o hb (fun z => by
  rcases h b z with q | ⟨ps, q⟩
  · rw [q] at hb; cases hb
  · rw [q] at hb; cases hb; exact n ps rfl) n, e.tab⟩
theorem stab_fr {ds : List PyData} : Stab T (FreshL K H ds) := fun v H1 H2 l ⟨a, xs, e, h1, h2, h3⟩ => ⟨a, xs, e, h1, l.lst h2 (by simp), l.dpAll h3⟩
end
section
variable {X : Cx} {T : List (Addr × Str)} {e a b c : Expr} {es : List Expr} {st : Stmt} {sts rest : List Stmt} {σ : St} {H H1 : Hp} {pos p p' : Pos} {R R' : VP} {Rs : List VP} {d d' d0 : PyData} {ds : List PyData} {D : Ends} {k : Nat} {E : XK} {body orelse : List Stmt} {M : St → Hp → Prop}
theorem er_lst0 : Er X T (.List [] pos) σ H (FreshL X.K H []) := fun H1 l Q q => by
  refine pe_we (pe_lst (es := []) pa_nil) ⟨by simp, fun p hp => ?_⟩
  exact q _ _ (.new hp) ⟨p, [], rfl, l.free hp, upd_same, .nil⟩
theorem s_nx (h : WpS X st { D with nx := M } σ H) (hm : ∀ σ' H', M σ' H' → D.nx σ' H') : WpS X st D σ H := fun pins s I => wpAny_mono (h pins s I) (fun f s' q => by
  cases f with
  | next => obtain ⟨σ', H', I', q⟩ := q; exact ⟨σ', H', I', hm _ _ q⟩
  | brk => exact q
  | cont => exact q
  | ret u => exact q) fun _ _ z => z
/-- if with one end for both ways -/
theorem s_ifM {q : Bool} (M : St → Hp → Prop) (hc : Et X T c σ H q) (ha : q = true → ∀ H1, Le T [] H H1 → WpSs X body { D with nx := M } σ H1) (hb : q = false → ∀ H1, Le T [] H H1 → WpSs X orelse { D with nx := M } σ H1) (hm : ∀ σ' H', M σ' H' → D.nx σ' H') : WpS X (.If c body orelse pos) D σ H :=
  s_nx (M := M) (s_if hc ha hb) hm
/-- x.append(e) -/
theorem s_append {i : Nat} {x : Str} {ad : Addr} {ap : Pos} (he : Er X T e σ H R) (hs : σ[i]? = some (some (.ref ad))) (hl : ∃ xs, H ad = some (.lst xs)) (h : ∀ v H1, Le T [] H H1 → R v H1 → ∃ xs, H1 ad = some (.lst xs) ∧ xs.length < sizeLine ∧ D.nx σ (upd H1 ad (.lst (xs ++ [v]))))
    (hN : X.N[i]? = some x := by rfl) (hvs : Vis X.env.scope x := by first | exact .inl rfl | exact .inr (.inl rfl) | exact .inr (.inr rfl)) (hd : (x == ("__debug__" : Str)) = false := by decide) (hcd : (x == ("__classdict__" : Str)) = false := by decide)
    (hbase : attributeBase (.Name x p) "append" X.env (eval (.Name x p) X.env) = eval (.Name x p) X.env := by rfl)
    (hfew : ((backTo p' (starEach [e] X.env)).all (fun x => !x.1) && (backToKw p' (keywordEach [] X.env)).all (fun x => x.1.isSome) && decide ([e].length + ([] : List Keyword).length + (if ([] : List Keyword).isEmpty then 0 else 1) < 30)) = true := by rfl)
    (hline : (ap.endLine == p'.line) = true := by rfl) (hst : starEach [e] X.env = (false, eval e X.env) :: starEach [] X.env := by rfl)
    (hsw : swapsWith (.Call (.Attribute (.Name x p) "append" ap) [e] [] p') none pos.line X.env = pure false := by rfl) : WpS X (.Expr (.Call (.Attribute (.Name x p) "append" ap) [e] [] p') pos) D σ H := by
  refine s_expr0 (pe_we (pe_bm PySem.F.plainAttrs_list PySem.F.slot_list_append PySem.F.type_list_append mt_append (pe_var hN hvs hd hcd) (pa_cons we_pe pa_nil hst) hbase hfew hline hst) ?_) hsw
  obtain ⟨xs0, hl⟩ := hl
  refine ⟨.ref ad, hs, .inl ⟨rfl, xs0, SqL.of hl⟩, he.run fun v H1 l r => ?_⟩
  obtain ⟨xs, h1, h2, h3⟩ := h v H1 l r
  exact ⟨ad, xs, v, rfl, rfl, h1, h2, h3⟩
/-- x.index(e) -/
theorem ed_index {i j : Nat} {x : Str} {ad : Addr} {ap : Pos} {z : PyData} (hu : X.A.units + 65 < cLine) (he : Ed X T e σ H d) (hs : σ[i]? = some (some (.ref ad))) (hl : Dp X.K H (.ref ad) (.list ds)) (s1 : SeqAt.shaped (.list ds) = true) (s2 : SeqAt.shaped d = true) (hz : ds[j]? = some z) (hj : PyData.eqv z d = true) (hno : ∀ (m : Nat) (z' : PyData), m < j → ds[m]? = some z' → PyData.eqv z' d = false)
    (hN : X.N[i]? = some x := by rfl) (hvs : Vis X.env.scope x := by first | exact .inl rfl | exact .inr (.inl rfl) | exact .inr (.inr rfl)) (hd : (x == ("__debug__" : Str)) = false := by decide) (hcd : (x == ("__classdict__" : Str)) = false := by decide)
    (hbase : attributeBase (.Name x p) "index" X.env (eval (.Name x p) X.env) = eval (.Name x p) X.env := by rfl)
    (hfew : ((backTo p' (starEach [e] X.env)).all (fun x => !x.1) && (backToKw p' (keywordEach [] X.env)).all (fun x => x.1.isSome) && decide ([e].length + ([] : List Keyword).length + (if ([] : List Keyword).isEmpty then 0 else 1) < 30)) = true := by rfl)
    (hline : (ap.endLine == p'.line) = true := by rfl) (hst : starEach [e] X.env = (false, eval e X.env) :: starEach [] X.env := by rfl) : Ed X T (.Call (.Attribute (.Name x p) "index" ap) [e] [] p') σ H (.int (j : Nat)) := fun H1 l Q q => by
  refine pe_we (pe_bm PySem.F.plainAttrs_list PySem.F.slot_list_index PySem.F.type_list_index (mt_indexD hu) (pe_var hN hvs hd hcd) (pa_cons we_pe pa_nil hst) hbase hfew hline hst) ?_
  obtain ⟨a, xs, e1, h1, h2⟩ := dp_lst_of (l.dp hl)
  cases e1
  refine ⟨.ref ad, hs, .inl ⟨rfl, xs, h1⟩, he H1 l _ fun v H2 l2 r => ?_⟩
  exact ⟨ad, v, d, ds, j, z, rfl, rfl, l2.dp (l.dp hl), r, s1, s2, hz, hj, hno, q _ H2 l2 (.int _)⟩
theorem et_notIn (hu : X.A.units + 65 < cLine) (ha : Ed X T a σ H d) (hb : Ed X T b σ H (.list ds)) (hd : SeqAt.shaped d = true) (hd' : SeqAt.shaped (.list ds) = true) (hm : behindInMarks .NotIn b = false := by rfl) : Et X T (.Compare a [.NotIn] [b] pos) σ H (!ds.any fun z => PyData.eqv z d) :=
  et_cmp2 stab_d (op_notInD hu) ha hb hm fun x y H1 _ rx ry Q q => ⟨d, ds, rx, ry, hd, hd', q⟩
end
/-! ### the data of maps -/
def OkD (n : Nat) (d : PyData) : Prop := PyData.canLay0 d = true ∧ PyData.depth d ≤ n
theorem OkD.shaped {n : Nat} {d : PyData} (h : OkD n d) (hn : n ≤ 64) : SeqAt.shaped d = true := by
  have : PyData.depth d ≤ 64 := Nat.le_trans h.2 hn
  show (PyData.canLay0 d && decide (PyData.depth d ≤ 64)) = true
  rw [h.1, Bool.true_and]
  exact decide_eq_true this
theorem okD_int {n : Nat} {i : Int} : OkD n (.int i) := ⟨by simp [PyData.canLay0], by simp [PyData.depth]⟩
theorem okD_bool {n : Nat} {i : Bool} : OkD n (.bool i) := ⟨by simp [PyData.canLay0], by simp [PyData.depth]⟩
theorem okD_none {n : Nat} : OkD n .none := ⟨by simp [PyData.canLay0], by simp [PyData.depth]⟩
theorem okD_all {n : Nat} : ∀ {ds : List PyData}, (∀ e ∈ ds, OkD n e) → PyData.canLayAll0 ds = true ∧ PyData.depthAll ds ≤ n
  | [], _ => ⟨by simp [PyData.canLayAll0], by simp [PyData.depthAll]⟩
  | d :: ds, h => by
    obtain ⟨h1, h2⟩ := h d List.mem_cons_self
    obtain ⟨h3, h4⟩ := okD_all (n := n) (ds := ds) fun e he => h e (List.mem_cons_of_mem _ he)
    refine ⟨by simp only [PyData.canLayAll0, h1, h3, Bool.and_self], ?_⟩
    simp only [PyData.depthAll]
    omega
theorem okD_tup {n : Nat} {ds : List PyData} (h : ∀ e ∈ ds, OkD n e) : OkD (n + 1) (.tuple ds) := by
  obtain ⟨h1, h2⟩ := okD_all h
  exact ⟨by simp only [PyData.canLay0]; exact h1, by simp only [PyData.depth]; omega⟩
theorem okD_lst {n : Nat} {ds : List PyData} (h : ∀ e ∈ ds, OkD n e) : OkD (n + 1) (.list ds) := by
  obtain ⟨h1, h2⟩ := okD_all h
  exact ⟨by simp only [PyData.canLay0]; exact h1, by simp only [PyData.depth]; omega⟩
theorem okD_ns {n : Nat} {l : List Nat} : OkD (n + 1) (nsD l) := okD_tup fun e he => by
  obtain ⟨x, _, rfl⟩ := List.mem_map.mp he
  exact okD_int
theorem shaped_ns {l : List Nat} : SeqAt.shaped (nsD l) = true := (okD_ns (n := 0)).shaped (by decide)
theorem shaped_nss {l : List (List Nat)} : SeqAt.shaped (.list (l.map nsD)) = true := (okD_lst (n := 1) fun e he => by
  obtain ⟨x, _, rfl⟩ := List.mem_map.mp he
  exact okD_ns).shaped (by decide)
theorem eqvAll_ns : ∀ a b : List Nat, PyData.eqvAll (a.map fun n => PyData.int (n : Nat)) (b.map fun n => PyData.int (n : Nat)) = decide (a = b)
  | [], [] => by simp [PyData.eqvAll]
  | [], _ :: _ => by simp [PyData.eqvAll]
  | _ :: _, [] => by simp [PyData.eqvAll]
  | x :: a, y :: b => by
    simp only [List.map_cons, PyData.eqvAll, PyData.eqv, eqvAll_ns a b]
    by_cases h : x = y
    · subst h; simp
    · have : ¬ ((x : Int) = (y : Int)) := by omega
      simp [h, this]
theorem eqv_ns (a b : List Nat) : PyData.eqv (nsD a) (nsD b) = decide (a = b) := by
  unfold nsD
  simp only [PyData.eqv]
  exact eqvAll_ns a b
end RM
/-! the tape of a law: a dict of draws -/
namespace RM
open PySem PySem.Spec L2 LamX
open PyProof.Rows hiding St
section
variable {X : Cx} {T : List (Addr × Str)} {e a b c : Expr} {es : List Expr} {st : Stmt} {sts rest : List Stmt} {σ : St} {H H1 : Hp} {pos p p2 p' : Pos} {R R' : VP} {Rs : List VP} {d d' d0 : PyData} {ds : List PyData} {D : Ends} {k : Nat} {E : XK} {body orelse : List Stmt} {M : St → Hp → Prop}
/-- t["x"] -/
theorem er_dget {i : Nat} {x key : Str} {t : Addr} {kvs : List (Key × V)} {u : V} {j : Nat} (hu : X.A.units + 1 < cLine) (hs : σ[i]? = some (some (.ref t))) (hd : H t = some (.dK kvs)) (hk : valV kvs (.inr key) = some u) (r : R u H) (st : Stab T R)
    (hN : X.N[i]? = some x := by rfl) (hvs : Vis X.env.scope x := by first | exact .inl rfl | exact .inr (.inl rfl) | exact .inr (.inr rfl)) (hdb : (x == ("__debug__" : Str)) = false := by decide) (hcd : (x == ("__classdict__" : Str)) = false := by decide) :
    Er X T (.Subscript (.Name x p) (.Constant (.str key) j p2) pos) σ H R := fun H1 l Q q => by
  refine pe_we (pe_dget hu (pe_var hN hvs hdb hcd) pe_str (fun _ _ => rfl)) ?_
  have hd1 : H1 t = some (.dK kvs) := l.at hd (by simp) fun _ z => nomatch z
  refine ⟨.ref t, hs, t, u, rfl, ?_, q u H1 .refl (st _ _ _ l r)⟩
  have := DGet.k (k := Sum.inr key) hd1
  rw [hk] at this
  exact this
/-- t["x"] = e -/
theorem s_dput0 {i : Nat} {x key : Str} {t : Addr} {j : Nat} {ps : Pos} (hu : X.A.units + 1 < cLine) (hs : σ[i]? = some (some (.ref t))) (he : WpE X e σ H fun v H1 => ∃ kvs, H1 t = some (.dK kvs) ∧ kvs.length < 1000 ∧ D.nx σ (upd H1 t (.dK (putK kvs (.inr key) v))))
    (hN : X.N[i]? = some x := by rfl) (hvs : Vis X.env.scope x := by first | exact .inl rfl | exact .inr (.inl rfl) | exact .inr (.inr rfl)) (hdb : (x == ("__debug__" : Str)) = false := by decide) (hcd : (x == ("__classdict__" : Str)) = false := by decide)
    (hsw : swapsWith e (some (.Subscript (.Name x p) (.Constant (.str key) j p2) ps)) pos.line X.env = pure false := by rfl) : WpS X (.Assign [.Subscript (.Name x p) (.Constant (.str key) j p2) ps] e pos) D σ H := by
  have h : sDPut (tVar i) (tC (.str key)) (WpE X e) D σ H := by
    have aux : ∀ {Q Q' : VK}, (∀ v H', Q v H' → Q' v H') → WpE X e σ H Q → WpE X e σ H Q' := fun {Q Q'} hq h pins s I => thn (h pins s I) fun u s' ⟨v, H', I', r, q⟩ => ⟨v, H', I', r, hq _ _ q⟩
    refine aux ?_ he
    intro v H1 ⟨kvs, h1, h2, h3⟩
    exact ⟨.ref t, hs, t, _, rfl, DPut.k (k := Sum.inr key) h1 (Nat.lt_of_lt_of_le h2 (by rw [sizeLine_eq]; decide)), h3⟩
  exact ps_we (ps_dput hu (pe_var hN hvs hdb hcd) pe_str we_pe hsw) h
theorem s_dput {i : Nat} {x key : Str} {t : Addr} {j : Nat} {ps : Pos} (hu : X.A.units + 1 < cLine) (hs : σ[i]? = some (some (.ref t))) (he : Er X T e σ H R) (h : ∀ v H1, Le T [] H H1 → R v H1 → ∃ kvs, H1 t = some (.dK kvs) ∧ kvs.length < 1000 ∧ D.nx σ (upd H1 t (.dK (putK kvs (.inr key) v))))
    (hN : X.N[i]? = some x := by rfl) (hvs : Vis X.env.scope x := by first | exact .inl rfl | exact .inr (.inl rfl) | exact .inr (.inr rfl)) (hdb : (x == ("__debug__" : Str)) = false := by decide) (hcd : (x == ("__classdict__" : Str)) = false := by decide)
    (hsw : swapsWith e (some (.Subscript (.Name x p) (.Constant (.str key) j p2) ps)) pos.line X.env = pure false := by rfl) : WpS X (.Assign [.Subscript (.Name x p) (.Constant (.str key) j p2) ps] e pos) D σ H :=
  s_dput0 hu hs (he.run h) hN hvs hdb hcd hsw
/-- a call of a def that lets nothing out, whatever it does to the heap -/
theorem we_callQ {k : Nat} {f : Addr} {fd : FuncData} {ps : List Str} {sp : Sp} {x : Str} {Q : VK} (F : FnOk X.prog X.w X.K X.mg X.base (L2.CX X.prog X.w) k f fd ps sp) (hr : Room k X.A) (hm : X.mg x = some (.ref f)) (hk : PySem.W.keepIn X.K (.ref f) = true) (hb : Binds X.K fd ps []) (ha : Ea X T (e :: es) σ H Rs)
    (hsp : ∀ vs H1, Le T [] H H1 → AllP Rs vs H1 → sp vs H1 Q E0) (hg : Gl X x := by rfl) (hdb : (x == ("__debug__" : Str)) = false := by decide)
    (he : starEach (e :: es) X.env = (false, eval e X.env) :: starEach es X.env := by rfl) (hpl : (backTo pos (starEach es X.env)).any (·.1) = false := by rfl) : WpE X (.Call (.Name x p) (e :: es) [] pos) σ H Q := by
  refine pe_we (pe_call F hr hg hm hk hb .nil passL we_pa hdb he hpl) ?_
  exact ha H .refl _ fun vs H2 l2 r => by rw [List.append_nil]; exact hsp vs H2 l2 r
theorem we_mono {Q Q' : VK} (hq : ∀ v H', Q v H' → Q' v H') (h : WpE X e σ H Q) : WpE X e σ H Q' := fun pins s I => thn (h pins s I) fun u s' ⟨v, H', I', r, q⟩ => ⟨v, H', I', r, hq _ _ q⟩
end
/-- e.pop(0) -/
theorem we_pop0 {ap p0 : Pos} {j : Nat} {l : Addr} {z : Int} {zs : List Int} {Q : VK} (he : Er X T e σ H (eqP (.ref l))) (hl : H l = some (.lst ((z :: zs).map V.int))) (h : ∀ H1, Le T [] H H1 → Q (.int z) (upd H1 l (.lst (zs.map V.int))))
    (hbase : attributeBase e "pop" X.env (eval e X.env) = eval e X.env := by rfl)
    (hfew : ((backTo p' (starEach [.Constant (.int 0) j p0] X.env)).all (fun x => !x.1) && (backToKw p' (keywordEach [] X.env)).all (fun x => x.1.isSome) && decide ([Expr.Constant (.int 0) j p0].length + ([] : List Keyword).length + (if ([] : List Keyword).isEmpty then 0 else 1) < 30)) = true := by rfl)
    (hline : (ap.endLine == p'.line) = true := by rfl) : WpE X (.Call (.Attribute e "pop" ap) [.Constant (.int 0) j p0] [] p') σ H Q := by
  refine pe_we (pe_bm PySem.F.plainAttrs_list PySem.F.slot_list_pop PySem.F.type_list_pop mt_popAt we_pe (pa_cons pe_int pa_nil) hbase hfew hline) ?_
  refine he.run fun v H1 l1 r => ?_
  subst r
  have h1 := l1.lst hl (by simp)
  exact ⟨.inl ⟨rfl, _, SqL.of h1⟩, l, _, 0, 0, .int z, rfl, rfl, h1, by decide, by decide, by rw [List.map_cons, List.length_cons]; unfold seqIndex?; simp, rfl, h H1 l1⟩
/-! ### the tape -/
def tapeK (l c : Addr) (rest turn : Int) : List (Key × V) := [(.inr "large", .ref l), (.inr "rest", .int rest), (.inr "cells", .ref c), (.inr "turn", .int turn)]
def TapeAt (H : Hp) (t l : Addr) : Prop := ∃ (c : Addr) (rest turn : Int) (ls cs : List Int), H t = some (.dK (tapeK l c rest turn)) ∧ H l = some (.lst (ls.map V.int)) ∧ H c = some (.lst (cs.map V.int)) ∧ l ≠ c
section
variable {T : List (Addr × Str)} {H H1 : Hp} {t l : Addr} {K : PySem.W.Frag}
theorem TapeAt.up (h : TapeAt H t l) (e : Le T [] H H1) : TapeAt H1 t l := by
  obtain ⟨c, rest, turn, ls, cs, h1, h2, h3, h4⟩ := h
  exact ⟨c, rest, turn, ls, cs, e.at h1 (by simp) (fun _ z => nomatch z), e.lst h2 (by simp), e.lst h3 (by simp), h4⟩
theorem TapeAt.noTup (h : TapeAt H t l) : NoTup H [t, l] := by
  obtain ⟨c, rest, turn, ls, cs, h1, h2, h3, h4⟩ := h
  intro s hs
  rcases List.mem_cons.mp hs with rfl | hs
  · rw [h1]; exact ⟨fun ys z => (nomatch z), fun o ys z => (nomatch z)⟩
  · obtain rfl : s = l := by simpa using hs
    rw [h2]; exact ⟨fun ys z => (nomatch z), fun o ys z => (nomatch z)⟩
theorem noSeq_dK {kvs : List (Key × V)} (h : H t = some (.dK kvs)) : NoSeq H [t] := fun s hs => by
  obtain rfl : s = t := by simpa using hs
  rw [h]
  exact ⟨fun ys z => (nomatch z), fun ys z => (nomatch z), fun o u z => (nomatch z)⟩
theorem dp_ints {a : Addr} {ls : List Int} (h : H a = some (.lst (ls.map V.int))) : Dp K H (.ref a) (.list (ls.map PyData.int)) := dp_lst h (dpa_ints ls)
def CellsAt (H : Hp) (t c : Addr) : Prop := ∃ (l : Addr) (rest turn : Int), H t = some (.dK (tapeK l c rest turn))
theorem cel_of {l' c : Addr} {r u r' u' : Int} (h1 : H t = some (.dK (tapeK l c r u))) (h2 : H1 t = some (.dK (tapeK l' c r' u'))) : ∀ c', CellsAt H t c' → CellsAt H1 t c' := fun c' ⟨l2, r2, u2, e⟩ => by
  rw [h1] at e
  unfold tapeK at e
  injection e with e
  injection e with e
  simp only [List.cons.injEq, Prod.mk.injEq, V.ref.injEq] at e
  obtain ⟨_, _, ⟨_, rfl⟩, _⟩ := e
  exact ⟨_, _, _, h2⟩
/-- from a state to one behind draws -/
structure TF (T : List (Addr × Str)) (t l : Addr) (H H' : Hp) : Prop where
  le : Le T [t, l] H H'
  t0 : TapeAt H t l
  tape : TapeAt H' t l
  cel : ∀ c, CellsAt H t c → CellsAt H' t c
theorem TF.nt (a : TF T t l H H1) : NoTup H [t, l] := a.t0.noTup
theorem TF.of (h : TapeAt H t l) (e : Le T [] H H1) : TF T t l H H1 := ⟨e.up, h, h.up e, fun c ⟨l, r, u, q⟩ => ⟨l, r, u, e.at q (by simp) (fun _ z => nomatch z)⟩⟩
theorem TF.refl (h : TapeAt H t l) : TF T t l H H := .of h .refl
theorem TF.trans {H2 : Hp} (a : TF T t l H H1) (b : TF T t l H1 H2) : TF T t l H H2 := ⟨a.le.trans b.le, a.t0, b.tape, fun c h => b.cel c (a.cel c h)⟩
theorem TF.up {H2 : Hp} (a : TF T t l H H1) (e : Le T [] H1 H2) : TF T t l H H2 := a.trans (.of a.tape e)
theorem TF.dp {d : PyData} {v : V} (a : TF T t l H H1) (n : noL d = true) (h : Dp K H v d) : Dp K H1 v d := a.le.dpT a.nt n h
theorem TF.watch {C w : Addr} {m : List (List Nat)} {ws : List Nat} (a : TF T t l H H1) (h1 : noL (movesD m) = true) (h2 : noL (nsD ws) = true) (h : WatchAt K H C w m ws) : WatchAt K H1 C w m ws := by
  obtain ⟨dx, v1, v2, e1, e2, e3⟩ := h
  obtain ⟨c, rest, turn, ls, cs, f1, f2, f3, f4⟩ := a.t0
  have n1 : w ≠ t := fun z => by rw [z, f1] at e1; cases e1
  have n2 : w ≠ l := fun z => by rw [z, f2] at e1; cases e1
  exact ⟨dx, v1, v2, a.le.at e1 (by simp [n1, n2]) (fun _ z => nomatch z), a.dp h1 e2, a.dp h2 e3⟩
theorem TF.tabs (a : TF T t l H H1) (h : Tabs T H) : Tabs T H1 := a.le.tab h
end
end RM
namespace RM
open PySem PySem.Spec L2 LamX
open PyProof.Rows hiding St
/-! ### data whose lists stand apart from S -/
mutual
inductive DpA (S : List Addr) (K : PySem.W.Frag) (H : Hp) : V → PyData → Prop
  | non : DpA S K H .non .none
  | bl (b : Bool) : DpA S K H (.bl b) (.bool b)
  | int (i : Int) : DpA S K H (.int i) (.int i)
  | str (x : Str) : DpA S K H (.str x) (.str x)
  | lst {a : Addr} {xs : List V} {ds : List PyData} : a ∉ S → SqL K H a xs → DpAA S K H xs ds → DpA S K H (.ref a) (.list ds)
  | tup {a : Addr} {xs : List V} {ds : List PyData} : SqT K H a xs → DpAA S K H xs ds → DpA S K H (.ref a) (.tuple ds)
inductive DpAA (S : List Addr) (K : PySem.W.Frag) (H : Hp) : List V → List PyData → Prop
  | nil : DpAA S K H [] []
  | cons {v : V} {vs : List V} {d : PyData} {ds : List PyData} : DpA S K H v d → DpAA S K H vs ds → DpAA S K H (v :: vs) (d :: ds)
end
section
variable {S : List Addr} {K : PySem.W.Frag} {H H' : Hp} {T : List (Addr × Str)}
mutual
theorem DpA.dp : ∀ {d : PyData} {v : V}, DpA S K H v d → Dp K H v d
  | _, _, .non => .non
  | _, _, .bl b => .bl b
  | _, _, .int i => .int i
  | _, _, .str x => .str x
  | _, _, .lst _ h r => .lst h r.dpa
  | _, _, .tup h r => .tup h r.dpa
theorem DpAA.dpa : ∀ {ds : List PyData} {vs : List V}, DpAA S K H vs ds → DpAll K H vs ds
  | _, _, .nil => .nil
  | _, _, .cons h r => .cons h.dp r.dpa
end
mutual
theorem DpA.to (e : Le T S H H') (hS : NoTup H S) : ∀ {d : PyData} {v : V}, DpA S K H v d → DpA S K H' v d
  | _, _, .non => .non
  | _, _, .bl b => .bl b
  | _, _, .int i => .int i
  | _, _, .str x => .str x
  | _, _, .lst n h r => .lst n (e.sqL h n) (r.to e hS)
  | _, _, .tup h r => .tup (e.sqT' hS h) (r.to e hS)
theorem DpAA.to (e : Le T S H H') (hS : NoTup H S) : ∀ {ds : List PyData} {vs : List V}, DpAA S K H vs ds → DpAA S K H' vs ds
  | _, _, .nil => .nil
  | _, _, .cons h r => .cons (h.to e hS) (r.to e hS)
end
mutual
theorem DpA.up (e : Le T [] H H') : ∀ {d : PyData} {v : V}, DpA S K H v d → DpA S K H' v d
  | _, _, .non => .non
  | _, _, .bl b => .bl b
  | _, _, .int i => .int i
  | _, _, .str x => .str x
  | _, _, .lst n h r => .lst n (e.sqL h (by simp)) (r.up e)
  | _, _, .tup h r => .tup (e.sqT h (by simp)) (r.up e)
theorem DpAA.up (e : Le T [] H H') : ∀ {ds : List PyData} {vs : List V}, DpAA S K H vs ds → DpAA S K H' vs ds
  | _, _, .nil => .nil
  | _, _, .cons h r => .cons (h.up e) (r.up e)
end
mutual
theorem DpA.of : ∀ {d : PyData} {v : V}, noL d = true → Dp K H v d → DpA S K H v d
  | _, _, _, .non => .non
  | _, _, _, .bl b => .bl b
  | _, _, _, .int i => .int i
  | _, _, _, .str x => .str x
  | _, _, n, .lst h r => by simp [noL] at n
  | _, _, n, .tup h r => .tup h (DpAA.of (by simpa [noL] using n) r)
theorem DpAA.of : ∀ {ds : List PyData} {vs : List V}, noLs ds = true → DpAll K H vs ds → DpAA S K H vs ds
  | _, _, _, .nil => .nil
  | _, _, n, .cons h r => by
    simp only [noLs, Bool.and_eq_true] at n
    exact .cons (DpA.of n.1 h) (DpAA.of n.2 r)
end
theorem DpAA.get : ∀ {ds : List PyData} {vs : List V} {i : Nat} {d : PyData}, DpAA S K H vs ds → ds[i]? = some d → ∃ v, vs[i]? = some v ∧ DpA S K H v d
  | _, _, 0, _, .cons h r, e => by cases e; exact ⟨_, rfl, h⟩
  | _, _, i + 1, _, .cons h r, e => DpAA.get (i := i) r e
/-- S stands -/
def Stood (H : Hp) (S : List Addr) : Prop := ∀ s ∈ S, ∃ o, H s = some o ∧ ∀ ps, o ≠ .tbl ps
theorem TapeAt.stood {t l : Addr} (h : TapeAt H t l) : Stood H [t, l] := by
  obtain ⟨c, rest, turn, ls, cs, h1, h2, h3, h4⟩ := h
  intro s hs
  rcases List.mem_cons.mp hs with rfl | hs
  · exact ⟨_, h1, fun ps z => nomatch z⟩
  · obtain rfl : s = l := by simpa using hs
    exact ⟨_, h2, fun ps z => nomatch z⟩
end
abbrev aP (S : List Addr) (K : PySem.W.Frag) (d : PyData) : VP := fun v H => DpA S K H v d
theorem stab_a {T : List (Addr × Str)} {S : List Addr} {K : PySem.W.Frag} {d : PyData} : Stab T (aP S K d) := fun v H H' l h => h.up l
section
variable {X : Cx} {T : List (Addr × Str)} {e a b c : Expr} {es : List Expr} {σ : St} {H H1 : Hp} {pos p p2 p' : Pos} {R R' : VP} {Rs : List VP} {d d' d0 : PyData} {ds : List PyData} {S : List Addr}
theorem allP_a {K : PySem.W.Frag} : ∀ {ds : List PyData} {vs : List V}, AllP (ds.map (aP S K)) vs H → DpAA S K H vs ds
  | [], [], _ => .nil
  | d :: ds, v :: vs, h => .cons h.1 (allP_a h.2)
theorem er_a (hn : noL d = true) (h : Ed X T e σ H d) : Er X T e σ H (aP S X.K d) := h.imp fun v H' _ r => DpA.of hn r
theorem er_lstA (hS : Stood H S) (h : Ea X T es σ H (ds.map (aP S X.K))) (hl : ds.length ≤ 100000) : Er X T (.List es pos) σ H (aP S X.K (.list ds)) := fun H1 l Q q => by
  refine pe_we (pe_lst we_pa) (h H1 l _ fun vs H2 l2 r => ?_)
  have r := allP_a r
  refine ⟨by rw [dpa_len r.dpa, sizeLine_eq]; omega, fun p hp => q _ _ (l2.add hp) (.lst (fun z => ?_) (SqL.of upd_same) (r.up (Le.new (T := T) hp)))⟩
  obtain ⟨o, ho, nt⟩ := hS p z
  have := (l.trans l2).at ho (by simp) nt
  rw [hp] at this
  cases this
theorem a_cons (h : Er X T e σ H (aP S X.K d)) (hr : Ea X T es σ H (ds.map (aP S X.K))) (hs : starEach (e :: es) X.env = (false, eval e X.env) :: starEach es X.env := by rfl) : Ea X T (e :: es) σ H ((d :: ds).map (aP S X.K)) := ea_cons h hr stab_a hs
/-- try: body except x as n: suite -/
theorem s_try {k : Nat} {E : XK} {D : Ends} {x n : Str} {c : Value} {i : Nat} {body suite : List Stmt} {b₀ : Stmt} {np pos pos' : Pos} (B : Bd X k E) (hs : X.stack = X.env :: X.outer) (hf : X.env.frame = some X.env.locals) (hi : X.N[i]? = some n) (hln : X.env.kindOf n = some .local) (hc : Names X x c) (hex : X.ex = [])
    (h : ∀ (pn : List (Addr × Obj)) (xe : Value → Shared → Prop), Takes (X.tr pn xe) (wTrk X.K c i (fun D σ H => ∀ a pn, WpSs (X.suite a pn) (b₀ :: suite) D σ H) (fun cls d _ H => E cls d H) D) → WpSs (X.tr pn xe) body D σ H) :
    WpS X (.Try body [.ExceptHandler (some (.Name x np)) (some n) (b₀ :: suite) pos'] [] [] pos) D σ H := by
  refine ps_we (ps_try_trk (tb := fun W D σ H => ∀ (pn : List (Addr × Obj)) (xe : Value → Shared → Prop), Takes (X.tr pn xe) W → WpSs (X.tr pn xe) body D σ H) (ts := fun D σ H => ∀ a pn, WpSs (X.suite a pn) (b₀ :: suite) D σ H) hs hf B.nd hi hln hc B.tk hex (fun W pn xe h1 _ => ⟨fun pins s σ H D I h => h pn xe h1 pins s I⟩) (fun a pn => ⟨fun pins s σ H D I h => h a pn pins s I⟩)) h
end
end RM
namespace RM
open PySem PySem.Spec L2 LamX
open PyProof.Rows hiding St
section
variable {X : Cx} {T : List (Addr × Str)} {e a b c : Expr} {es : List Expr} {σ : St} {H H1 : Hp} {pos p p2 p' : Pos} {R R' : VP} {Rs : List VP} {d d' d0 : PyData} {ds : List PyData} {S : List Addr}
/-- [elt for x in range(e)], draws on the way -/
theorem we_lcT {elt e : Expr} {x : Str} {px : Pos} {scope : Scope} {j : Nat} {t l : Addr} {Pe : PyData → Prop} {Pn : Nat → Prop} {Q : VK} (hc : X.calm = true) (hN : X.N.Nodup) (hm : X.mg "range" = none) (hPe : ∀ d, Pe d → noL d = true) (hPn : ∀ n, Pn n → n ≤ 100000) (hta : TapeAt H t l)
    (hi : ∀ Q' : VK, (∀ n H1, Pn n → TF T t l H H1 → Q' (.int (n : Nat)) H1) → WpE X e σ H Q') (hok : blkC X.N X.env.scope scope [(x, j)] = true)
    (step : ∀ (i : Nat) H3, TF T t l H H3 → ∀ (s : Shared) (H0 : Hp) (C : Addr) (cl : List (Str × Addr)) (fp : List Addr) (Q' : VK), (∀ v d H4, TF T t l H3 H4 → Pe d → Dp X.K H4 v d → Q' v H4) → WpE (X.blk s H0 scope (compEnvC scope cl C X.env) fp) elt ((σ.set j none).set j (some (.int i))) H3 Q')
    (fin : ∀ v ds H', Pn ds.length → (∀ d ∈ ds, Pe d) → TF T t l H H' → Dp X.K H' v (.list ds) → Q v H')
    (hj : X.N[j]? = some x := by rfl) (hl : (relS scope X.env.scope).names.lookup x = some .local := by rfl) (hg : Gl X "range" := by rfl) (hst : starEach [e] X.env = (false, eval e X.env) :: starEach [] X.env := by rfl) (hf : ∀ y, foldedSetIterable (.Call (.Name "range" p) [e] [] p') X.env y = pure y := by intro _; rfl) :
    WpE X (.ListComp elt [⟨.Name x px, .Call (.Name "range" p) [e] [] p', [], 0⟩] scope pos) σ H Q := by
  refine pe_we (pe_lc (g := gName j) (tt := tYes) (own := [(x, j)]) (te := blkTe X scope elt) hc hN (pi_range1 hg hm (pa_cons we_pe pa_nil hst) hst) (blkOk_by hok) (fun _ _ _ _ _ => pg_name hN hj (.inl hl) (.inr hl)) (fun _ _ _ _ _ => pts_nil) (fun s H0 C cl fp => ⟨fun pins s1 σ H Q I h => h s H0 C cl fp pins s1 I⟩) hf) ?_
  refine hi _ fun n H2 hn tf2 => ?_
  have hn' := hPn n hn
  refine ⟨n, rfl, by omega, by omega, fun D hD => ?_⟩
  have tt := tf2.tape
  have hDl : D ≠ l := fun z => by
    obtain ⟨c, rest, turn, ls, cs, h1, h2, h3, h4⟩ := tt
    rw [← z, hD] at h2; cases h2
  have hDt : D ≠ t := fun z => by
    obtain ⟨c, rest, turn, ls, cs, h1, h2, h3, h4⟩ := tt
    rw [← z, hD] at h1; cases h1
  refine lc_range (g := gName j) (tt := tYes) (te := blkTe X scope elt) (σ := σ) (vs := [j]) (n := n) (lo := 0) (fun i H3 => ∃ ds vs, ds.length = i ∧ (∀ d ∈ ds, Pe d) ∧ H3 D = some (.lst vs) ∧ DpAll X.K H3 vs ds ∧ TF T t l H2 H3) ⟨[], [], rfl, fun d hd => (by cases hd), upd_same, .nil, .of tt (.new hD)⟩ (fun i H3 hi ⟨ds, vs, h1, h2, h3, h4, tf3⟩ => ?_) fun H3 ⟨ds, vs, h1, h2, h3, h4, tf3⟩ => fin _ ds H3 (h1 ▸ hn) h2 (tf2.trans tf3) (dp_lst h3 h4)
  refine ⟨wipe_back, ?_⟩
  change blkTe X scope elt ((wipe σ [j]).set j (some _)) H3 _
  intro s H0 C cl fp
  rw [Int.zero_add]
  refine step i H3 (tf2.trans tf3) s H0 C cl fp _ fun v d H6 tf6 hd rv => ?_
  have hy6 := tf6.le.lst h3 (by simp [hDl, hDt])
  have nls : noLs ds = true := by
    clear h1 h4
    induction ds with
    | nil => rfl
    | cons a r ih => simp [noLs, hPe a (h2 a List.mem_cons_self), ih fun d hd => h2 d (List.mem_cons_of_mem _ hd)]
  have h6 := tf6.le.dpTs tf6.nt nls h4
  have lp : Le T [D] H6 (upd H6 D (.lst (vs ++ [v]))) := Le.refl.putL hy6 (.inl (by simp))
  have nt := noTup_lst hy6
  refine ⟨vs, hy6, by rw [dpa_len h4, h1, sizeLine_eq]; omega, ds ++ [d], vs ++ [v], by simp [h1], fun z hz => ?_, upd_same, dpa_snoc (lp.dpTs nt nls h6) (lp.dpT nt (hPe d hd) rv), ?_⟩
  · rcases List.mem_append.mp hz with hz | hz
    · exact h2 z hz
    · obtain rfl : z = d := by simpa using hz
      exact hd
  · have tf := tf3.trans tf6
    obtain ⟨c, rest, turn, ls, cs, k1, k2, k3, k4⟩ := tf.tape
    have tt0 := tt
    obtain ⟨c0, rest0, turn0, ls0, cs0, q1, q2, q3, q4⟩ := tt
    have ec : c = c0 := by
      obtain ⟨l2, r2, u2, e2⟩ := tf.cel c0 ⟨_, _, _, q1⟩
      rw [k1] at e2
      unfold tapeK at e2
      injection e2 with e2
      injection e2 with e2
      simp only [List.cons.injEq, Prod.mk.injEq, V.ref.injEq] at e2
      exact e2.2.2.1.2
    subst ec
    have hDc : D ≠ c := fun z => by rw [← z, hD] at q3; cases q3
    have k1' : upd H6 D (.lst (vs ++ [v])) t = some (.dK (tapeK l c rest turn)) := by rw [upd_ne (Ne.symm hDt)]; exact k1
    exact ⟨tf.le.putL hy6 (.inr hD), tt0, ⟨c, rest, turn, ls, cs, k1', by rw [upd_ne (Ne.symm hDl)]; exact k2, by rw [upd_ne (Ne.symm hDc)]; exact k3, k4⟩, cel_of q1 k1'⟩
end
end RM
namespace RM
open PySem PySem.Spec L2 LamX
open PyProof.Rows hiding St
section
variable {X : Cx} {T : List (Addr × Str)} {e a b c : Expr} {es : List Expr} {σ : St} {H H1 : Hp} {pos p p2 p' : Pos} {R R' : VP} {Rs : List VP} {d d' d0 : PyData} {ds : List PyData} {S : List Addr}
/-- a filtered comprehension over a list or tuple: what its reading comes to -/
theorem lcF_core {K : PySem.W.Frag} {j : Nat} {tt : TT} {te : TE} {ti : TE} {f : PyData → PyData} {g : PyData → Bool} {Q : VK} (hz : ds.length ≤ 100000) (hs : IsSeq d0 ds)
    (hi : ∀ Q' : VK, (∀ v H2, Le T [] H H2 → Dp K H2 v d0 → Q' v H2) → ti σ H Q')
    (hc : ∀ (i : Nat) d u H1, ds[i]? = some d → Le T [] H H1 → Dp K H1 u d → ∀ Q' : Bool → Hp → Prop, (∀ H2, Le T [] H1 H2 → Q' (g d) H2) → tt ((σ.set j none).set j (some u)) H1 Q')
    (he : ∀ (i : Nat) d u H1 a, ds[i]? = some d → g d = true → Le T [] H H1 → Dp K H1 u d → (∃ ys, H1 a = some (HO.lst ys)) → ∀ Q' : VK, (∀ v H2, Le T [] H1 H2 → DpN [a] K H2 v (f d) → Q' v H2) → te ((σ.set j none).set j (some u)) H1 Q')
    (q : ∀ v H', Le T [] H H' → FreshL K H ((ds.filter g).map f) v H' → Q v H') : tLc (iSeq K ti) (gName j) tt te [j] σ H Q := by
  refine hi _ fun v H2 l2 r => ?_
  obtain ⟨a, xs, rfl, sq, rr⟩ := dp_sq r hs
  have el := dpa_len rr
  have key : ∀ D, H2 D = none → ∀ {i : Nat} {u : V} {H3 : Hp}, xs[i]? = some u → (Acc T K D (((ds.take i).filter g).map f) H3 ∧ Le T [] H2 H3) → gName j u (wipe σ [j]) H3 fun σ2 H4 => wipe σ2 [j] = wipe σ [j] ∧ tt σ2 H4 fun b H5 =>
      if b = true then (te σ2 H5 fun y H6 => ∃ acc, H6 D = some (.lst acc) ∧ acc.length < sizeLine ∧ (Acc T K D (((ds.take (i + 1)).filter g).map f) (upd H6 D (.lst (acc ++ [y]))) ∧ Le T [] H2 (upd H6 D (.lst (acc ++ [y]))))) else (Acc T K D (((ds.take (i + 1)).filter g).map f) H5 ∧ Le T [] H2 H5) := fun D hD i u H3 hu ⟨hA, l3⟩ => by
    obtain ⟨d, hd, rd⟩ := dpa_get' rr hu
    refine ⟨wipe_back, ?_⟩
    refine hc i d u H3 hd (l2.trans l3) (l3.dp rd) _ fun H5 l5 => ?_
    obtain ⟨ys, hy1, hy2⟩ := hA
    have hy5 := l5.lst hy1 (by simp)
    have hlt : i < ds.length := (List.getElem?_eq_some_iff.mp hd).1
    have e2 : ds.take (i + 1) = ds.take i ++ [d] := by rw [List.take_add_one, hd]; rfl
    cases hg : g d with
    | false =>
      rw [if_neg (by simp), e2, List.filter_append]
      have : [d].filter g = [] := by simp [hg]
      rw [this, List.append_nil]
      exact ⟨⟨ys, hy5, hy2.up l5⟩, l3.trans l5⟩
    | true =>
      rw [if_pos rfl]
      refine he i d u H5 D hd hg (l2.trans (l3.trans l5)) ((l3.trans l5).dp rd) ⟨ys, hy5⟩ _ fun v H6 l6 rv => ?_
      have hy6 := l6.lst hy5 (by simp)
      have e3 : ((ds.take (i + 1)).filter g).map f = ((ds.take i).filter g).map f ++ [f d] := by
        rw [e2, List.filter_append, List.map_append]
        have : [d].filter g = [d] := by simp [hg]
        rw [this] <;> rfl
      refine ⟨ys, hy6, ?_, ?_, ((l3.trans l5).trans l6).putL hy6 (.inr hD)⟩
      · have h1 := List.length_filter_le g (ds.take i)
        rw [alln_len hy2, List.length_map, sizeLine_eq]
        rw [List.length_take] at h1
        omega
      · rw [e3]
        exact Acc.push hy6 (hy2.up (l5.trans l6)) rv
  have start : ∀ D, H2 D = none → Acc T K D (((ds.take 0).filter g).map f) (upd H2 D (.lst [])) ∧ Le T [] H2 (upd H2 D (.lst [])) := fun D hD => ⟨⟨[], upd_same, .nil⟩, .new hD⟩
  have fin : ∀ D, H2 D = none → ∀ H3, (Acc T K D (((ds.take xs.length).filter g).map f) H3 ∧ Le T [] H2 H3) → Q (.ref D) H3 := fun D hD H3 ⟨⟨ys, y1, y2⟩, l3⟩ => q _ _ (l2.trans l3) ⟨D, ys, rfl, l2.free hD, y1, by
    have := y2.dpa
    rw [el, List.take_length] at this
    exact this⟩
  rcases sq with s | s
  · exact ⟨a, rfl, .inl ⟨⟨xs, s⟩, fun D hD => lc_list (g := gName j) (tt := tt) (te := te) (σ := σ) (vs := [j]) (xs := xs) (fun i H3 => Acc T K D (((ds.take i).filter g).map f) H3 ∧ Le T [] H2 H3) (start D hD) (fun i H3 _ h3 => h3.2.sqL s (by simp)) (fun i u H3 hu h3 => key D hD hu h3) (fin D hD)⟩⟩
  · exact ⟨a, rfl, .inr ⟨⟨xs, s⟩, fun D hD => lc_tup (g := gName j) (tt := tt) (te := te) (σ := σ) (vs := [j]) (xs := xs) (fun i H3 => Acc T K D (((ds.take i).filter g).map f) H3 ∧ Le T [] H2 H3) (start D hD) (fun i H3 _ h3 => h3.2.sqT s (by simp)) (fun i u H3 hu h3 => key D hD hu h3) (fin D hD)⟩⟩
/-- [elt for x in iter], the list new -/
theorem er_lcFr {elt iter : Expr} {x : Str} {px : Pos} {scope : Scope} {j : Nat} {f : PyData → PyData} (hc : X.calm = true) (hN : X.N.Nodup) (hi : Ed X T iter σ H d0) (hs : IsSeq d0 ds) (hz : ds.length ≤ 100000) (hok : blkC X.N X.env.scope scope [(x, j)] = true)
    (he : ∀ (i : Nat) d u H1 a, ds[i]? = some d → Le T [] H H1 → Dp X.K H1 u d → (∃ ys, H1 a = some (HO.lst ys)) → BlkE X T elt scope ((σ.set j none).set j (some u)) H1 (fun v H' => DpN [a] X.K H' v (f d)))
    (hj : X.N[j]? = some x := by rfl) (hl : (relS scope X.env.scope).names.lookup x = some .local := by rfl) (hf : ∀ y, foldedSetIterable iter X.env y = pure y := by intro _; rfl) :
    Er X T (.ListComp elt [⟨.Name x px, iter, [], 0⟩] scope pos) σ H (FreshL X.K H (ds.map f)) := fun H1 l Q q => by
  refine pe_we (pe_lc (g := gName j) (tt := tYes) (own := [(x, j)]) (te := blkTe X scope elt) hc hN (pi_seq we_pe) (blkOk_by hok) (fun _ _ _ _ _ => pg_name hN hj (.inl hl) (.inr hl)) (fun _ _ _ _ _ => pts_nil) (fun s H0 C cl fp => ⟨fun pins s1 σ H Q I h => h s H0 C cl fp pins s1 I⟩) hf) ?_
  have ef : ds.filter (fun _ => true) = ds := List.filter_eq_self.mpr fun _ _ => rfl
  refine lcF_core (T := T) (K := X.K) (ds := ds) (f := f) (g := fun _ => true) hz hs (fun Q' q' => hi H1 l _ q') (fun i d u H3 hd l3 r3 Q' q' => q' H3 .refl) (fun i d u H3 a hd _ l3 r3 ha Q' q' => fun s H0 C cl fp => he i d u H3 a hd (l.trans l3) r3 ha s H0 C cl fp H3 .refl _ q') fun v H' l' r => q v H' l' ?_
  rw [ef] at r
  obtain ⟨a, xs, e, h1, h2, h3⟩ := r
  refine ⟨a, xs, e, ?_, h2, h3⟩
  rcases h1 with h1 | ⟨ps, h1⟩
  · exact l.free h1
  · cases h : H a with
    | none => exact .inl rfl
    | some o =>
      right
      by_cases ht : ∃ ps, o = .tbl ps
      · obtain ⟨ps', rfl⟩ := ht
        exact ⟨ps', rfl⟩
      · have := l.at h (by simp) fun ps z => ht ⟨ps, z⟩
        rw [h1] at this
        cases this
        exact absurd ⟨_, rfl⟩ ht
/-- y = [elt for x in iter if c] on one line -/
theorem s_setLcF {k : Nat} {E : XK} {D : Ends} {i : Nat} {y : Str} {py : Pos} {elt iter c : Expr} {x : Str} {px : Pos} {scope : Scope} {j : Nat} {spos : Pos} {f : PyData → PyData} {g : PyData → Bool} (B : Bd X k E) (hi : Ed X T iter σ H d0) (hs : IsSeq d0 ds) (hz : ds.length ≤ 100000) (hok : blkC X.N X.env.scope scope [(x, j)] = true)
    (hsw : swapsWith (.ListComp elt [⟨.Name x px, iter, [c], 0⟩] scope pos) (some (.Name y py)) spos.line X.env = pure true)
    (hcc : ∀ (i : Nat) d u H1, ds[i]? = some d → Le T [] H H1 → Dp X.K H1 u d → ∀ (s : Shared) (H0 : Hp) (C : Addr) (cl : List (Str × Addr)) (fp : List Addr), Et (X.blk s H0 scope (compEnvC scope cl C X.env) fp) T c ((σ.set j none).set j (some u)) H1 (g d))
    (he : ∀ (i : Nat) d u H1 a, ds[i]? = some d → g d = true → Le T [] H H1 → Dp X.K H1 u d → (∃ ys, H1 a = some (HO.lst ys)) → BlkE X T elt scope ((σ.set j none).set j (some u)) H1 (fun v H' => DpN [a] X.K H' v (f d)))
    (h : ∀ v H', Le T [] H H' → FreshL X.K H ((ds.filter g).map f) v H' → D.nx (σ.set i (some v)) H')
    (hy : X.N[i]? = some y := by rfl) (hyl : X.env.scope.names.lookup y = some .local := by rfl) (hj : X.N[j]? = some x := by rfl) (hl : (relS scope X.env.scope).names.lookup x = some .local := by rfl) (hf : ∀ y, foldedSetIterable iter X.env y = pure y := by intro _; rfl) :
    WpS X (.Assign [.Name y py] (.ListComp elt [⟨.Name x px, iter, [c], 0⟩] scope pos) spos) D σ H := by
  refine ps_we (ps_setLc (g := gName j) (tt := fun σ H Q => ∀ (s : Shared) (H0 : Hp) (C : Addr) (cl : List (Str × Addr)) (fp : List Addr), WpT (X.blk s H0 scope (compEnvC scope cl C X.env) fp) c σ H Q) (own := [(x, j)]) (te := blkTe X scope elt) B.calm B.nd hy hyl hsw (pi_seq we_pe) (blkOk_by hok) (fun _ _ _ _ _ => pg_name B.nd hj (.inl hl) (.inr hl)) (fun s H0 C cl fp => pts_one ⟨fun pins s1 σ H Q I h => h s H0 C cl fp pins s1 I⟩) (fun s H0 C cl fp => ⟨fun pins s1 σ H Q I h => h s H0 C cl fp pins s1 I⟩) hf) ?_
  exact lcF_core (T := T) (K := X.K) (ds := ds) (f := f) (g := g) hz hs (fun Q' q' => hi H .refl _ q') (fun i d u H3 hd l3 r3 Q' q' => fun s H0 C cl fp => hcc i d u H3 hd l3 r3 s H0 C cl fp H3 .refl _ q') (fun i d u H3 a hd hg l3 r3 ha Q' q' => fun s H0 C cl fp => he i d u H3 a hd hg l3 r3 ha s H0 C cl fp H3 .refl _ q') h
end
end RM
namespace RM
open PySem PySem.Spec L2 LamX
open PyProof.Rows hiding St
/-! ### an empty tuple, repeated -/
theorem tuple_mul0 (l : Addr) (n : Nat) (dd : Option Addr) (sl : Array (Option Value)) (x : Int) (u : Tok) (c0 : (decide (x < -(2 ^ 63)) || decide (x ≥ 2 ^ 63)) = false) :
    Meets (Builtin.«tuple.__mul__» ⟨[.ref l, .int x u], []⟩) (fun _ R s => s.heap.get? l = some { cls := .type "tuple", dict := dd, data := .seq #[] n, slots := sl } ∧ R (.ok (.ret (Value.ref l))) s) :=
  .of_wp fun prog w A R s h => by
    obtain ⟨hp, g, d, tk, os⟩ := s
    obtain ⟨hl, h⟩ := h
    have f1 := AutoSeq1.idx_int
    wp_walk using AutoSeq1.wpAny_loadPart' hl
    repeat (first
      | (refine wpAny_ite_false (decide_eq_false (by rw [c0]; exact Bool.false_ne_true)) ?_; wp_walk using AutoSeq1.wpAny_loadPart' hl)
      | (refine wpAny_ite_true (decide_eq_true (by rfl)) ?_; wp_walk using AutoSeq1.wpAny_loadPart' hl))
    exact ⟨_, rfl, h⟩
def rRep0 (K : PySem.W.Frag) : R2 := fun x y H Q => ∃ l k, x = .ref l ∧ y = .int k ∧ SqT K H l [] ∧ 0 ≤ k ∧ k ≤ 1000 ∧ Q (.ref l) H
theorem op_rep0 {X : Cx} : OpR X (binaryOp .Mult) (rRep0 X.K) := by
  intro pins s σ H x y v u Q I rx ry h
  obtain ⟨l, k, rfl, rfl, hT, h1, h2, q⟩ := h
  cases rx
  obtain ⟨t, rfl⟩ := ry
  obtain ⟨its, r, ⟨⟨cls, dd, data, sl⟩, ho, hc, n, hd⟩, hs⟩ := I.tuple hT
  simp only at hc hd
  subst hc hd
  obtain rfl : its = [] := by cases r; rfl
  have c0 : (decide (k < -(2 ^ 63)) || decide (k ≥ 2 ^ 63)) = false := by
    rw [decide_eq_false (by omega), decide_eq_false (by omega)] <;> rfl
  refine wpAny_binaryOp_repeat_ref (T := "tuple") (U := "int") (by decide) ⟨_, ho, rfl⟩ (fun s' => typeIs_int s' k t) noFill_tuple_mul F.fills_int_mul F.slot_int_rmul repeat_tuple F.slot_int_index.lookup
    (call_meets F.slot_int_rmul (typeIs_int s k t) F.entry_int_rmul (F.args_int_rmul_2 _ _) (int_rmul_tuple k t l #[] n dd sl)
      ⟨ho, rfl, ⟨_, ho, rfl⟩, call_meets F.slot_tuple_mul ⟨_, ho, rfl⟩ F.entry_tuple_mul (F.args_tuple_mul_2 _ _) (tuple_mul0 l n dd sl k t c0) ⟨ho, ?_⟩⟩)
  exact ⟨.ref l, H, I, rfl, q⟩
theorem OpR.or {X : Cx} {f : Value → Value → Sem Value} {r r' : R2} (h : OpR X f r) (h' : OpR X f r') : OpR X f (fun x y H Q => r x y H Q ∨ r' x y H Q) := by
  intro pins s σ H x y v u Q I rx ry q
  rcases q with q | q
  · exact h pins s σ H x y v u Q I rx ry q
  · exact h' pins s σ H x y v u Q I rx ry q
theorem dpa_rep {K : PySem.W.Frag} {H : Hp} {xs : List V} {ds : List PyData} (h : DpAll K H xs ds) : ∀ k : Nat, DpAll K H (List.replicate k xs).flatten (List.replicate k ds).flatten
  | 0 => .nil
  | k + 1 => by
    rw [List.replicate_succ, List.flatten_cons, List.replicate_succ, List.flatten_cons]
    exact dpa_app h (dpa_rep h k)
section
variable {X : Cx} {T : List (Addr × Str)} {e a b c : Expr} {es : List Expr} {σ : St} {H H1 : Hp} {pos p p2 p' : Pos} {R R' R1 R2 R3 : VP} {Rs : List VP} {d d' d0 : PyData} {ds : List PyData} {S : List Addr}
/-- e * k, e a tuple -/
theorem ed_rep {k : Nat} (ha : Ed X T a σ H (.tuple ds)) (hb : Ed X T b σ H (.int (k : Nat))) (hk : 2 ≤ k ∧ k ≤ 1000) (hl : ds.length ≤ 1000) : Ed X T (.BinOp a .Mult b pos) σ H (.tuple (List.replicate k ds).flatten) :=
  ed_op2 (op_repT.or op_rep0) ha hb fun x y H1 _ rx ry Q q => by
    cases ry
    obtain ⟨l, xs, rfl, s, rr⟩ := dp_tup_of rx
    have el := dpa_len rr
    cases xs with
    | nil =>
      cases rr
      refine .inr ⟨l, k, rfl, rfl, s, by omega, by omega, q _ H1 .refl ?_⟩
      have : (List.replicate k ([] : List PyData)).flatten = [] := by simp
      rw [this]
      exact .tup s .nil
    | cons x xs =>
      refine .inl ⟨l, k, _, rfl, rfl, s, by simp, by omega, by omega, by omega, fun p hp => q _ _ (.new hp) (dp_tup upd_same ((Le.new (T := T) hp).dpAll ?_))⟩
      exact dpa_rep rr k
/-! ### calls by keywords alone -/
def permV {α : Type} (ix : List Nat) (l : List α) : List α := ix.filterMap (l[·]?)
theorem vals_perm {vs : List V} {us : List Value} (r : Vals vs us) : ∀ ix : List Nat, Vals (permV ix vs) (permV ix us)
  | [] => .nil
  | i :: ix => by
    unfold permV
    rw [List.filterMap_cons, List.filterMap_cons]
    cases e : vs[i]? with
    | none =>
      have : us[i]? = none := by
        rw [List.getElem?_eq_none_iff] at e ⊢
        rw [← r.length]; exact e
      rw [this]
      exact vals_perm r ix
    | some v =>
      obtain ⟨u, hu, ru⟩ := r.get e
      rw [hu]
      exact .cons ru (vals_perm r ix)
theorem FunD.bindsKw {K : PySem.W.Frag} {x qual : Str} {params : Arguments} {body : List Stmt} {scope : Scope} {kws : List (Str × V)} {f : Addr} {fd : FuncData} {ps : List Str} (F : FunD K x qual params body scope [] kws f fd) (ks : List Str) (ix : List Nat)
    (h : ∀ (kV doc pm : Value) (an : Option Addr) (cdv ct : Value) (ws : List Value), ws.length = ks.length → bindArgs (PySem.W.fnOf x qual params body scope .none kV doc pm an cdv ct) ⟨[], ks.zip ws⟩ = pure (ps.zip (permV ix ws))) (s : Shared) (ws : List Value) (hl : ws.length = ks.length) : BindsTo s fd ⟨[], ks.zip ws⟩ (ps.zip (permV ix ws)) := by
  obtain ⟨oc, od, dV, kV, doc, pm, an, cdv, ct, osl, rfl, lk, hcd, hD, hK⟩ := F.ex
  rcases hD with ⟨_, rfl⟩ | ⟨e, _⟩
  · exact .of_eq (h kV doc pm an cdv ct ws hl)
  · exact absurd rfl e
theorem we_kw {k : Nat} {f : Addr} {fd : FuncData} {ps ks : List Str} {sp : Sp} {x : Str} {Q : VK} {kws : List Keyword} {tk : TA} (ix : List Nat) (F : FnOk X.prog X.w X.K X.mg X.base (L2.CX X.prog X.w) k f fd ps sp) (hr : Room k X.A) (hm : X.mg x = some (.ref f)) (hk : PySem.W.keepIn X.K (.ref f) = true)
    (hb : ∀ (s : Shared) (ws : List Value), ws.length = ks.length → BindsTo s fd ⟨[], ks.zip ws⟩ (ps.zip (permV ix ws))) (hkw : PK X kws tk) (h : tk σ H fun zs H1 => zs.length = ks.length ∧ sp (permV ix zs) H1 Q E0) (hg : Gl X x := by rfl)
    (hall : (backToKw pos (keywordEach kws X.env)).all (·.1.isSome) = true := by rfl) (hks : (backToKw pos (keywordEach kws X.env)).filterMap (·.1) = ks := by rfl) (hdb : (x == ("__debug__" : Str)) = false := by decide)
    (hpl : ((backTo pos (starEach [] X.env)).any (·.1) || (backToKw pos (keywordEach kws X.env)).any (·.1.isNone)) = false := by rfl) : WpE X (.Call (.Name x p) [] kws pos) σ H Q := by
  intro pins s I
  refine wpAny_Call_Name_kw (ld_glob I hg hm ?_ hdb)
  refine PySem.W.callWith_KW0 (h₀ := X.base) I.ok.mod.kin hk hall (thn (hkw.run pos pins s σ H _ I h) fun ws s2 ⟨zs, H2, I2, rz, hz, q2⟩ => ⟨I2.kIn, ?_⟩) hpl
  rw [hks]
  have r2 := vals_perm rz ix
  show wpAny _ _ (call (.ref f) [] (ks.zip ws)) _ _ _
  refine wpAny_call (codeAny_mono (F.run X.A X.stack s2 H2 ⟨[], ks.zip ws⟩ (permV ix ws) (permV ix zs) Q E0 hr I2.env0 (hb s2 ws (rz.length.symm.trans hz)) r2 q2) fun r s' hq => ?_)
  cases r with
  | error e => exact passL pins σ H2 s2 e s' I2 hq
  | ok fl =>
    cases fl with
    | ret u => exact I2.after hq
    | next => exact False.elim hq
    | brk => exact False.elim hq
    | cont => exact False.elim hq
/-- f(k1 = e1, k2 = e2) -/
theorem er_kw2 {k : Nat} {f : Addr} {fd : FuncData} {ps : List Str} {sp : Sp} {x n1 n2 : Str} {q1 q2 : Pos} (ix : List Nat) (F : FnOk X.prog X.w X.K X.mg X.base (L2.CX X.prog X.w) k f fd ps sp) (hr : Room k X.A) (hm : X.mg x = some (.ref f)) (hk : PySem.W.keepIn X.K (.ref f) = true)
    (hb : ∀ (s : Shared) (ws : List Value), ws.length = [n1, n2].length → BindsTo s fd ⟨[], [n1, n2].zip ws⟩ (ps.zip (permV ix ws))) (st1 : Stab T R1) (h1 : Er X T a σ H R1) (h2 : Er X T b σ H R2)
    (hsp : ∀ v1 v2 H1, Le T [] H H1 → R1 v1 H1 → R2 v2 H1 → ∀ Q : VK, (∀ v H2, Le T [] H1 H2 → R v H2 → Q v H2) → sp (permV ix [v1, v2]) H1 Q E0) (hg : Gl X x := by rfl) (hdb : (x == ("__debug__" : Str)) = false := by decide) :
    Er X T (.Call (.Name x p) [] [⟨some n1, a, q1⟩, ⟨some n2, b, q2⟩] pos) σ H R := fun H1 l Q q => by
  refine we_kw (ks := [n1, n2]) ix F hr hm hk hb (pk_cons we_pe (pk_cons we_pe pk_nil)) ?_ hg rfl rfl hdb rfl
  exact h1 H1 l _ fun v1 H2 l2 r1 => h2 H2 (l.trans l2) _ fun v2 H3 l3 r2 => ⟨rfl, hsp v1 v2 H3 (l.trans (l2.trans l3)) (st1 _ _ _ l3 r1) r2 Q fun v H4 l4 r4 => q v H4 (l2.trans (l3.trans l4)) r4⟩
theorem er_kw3 {k : Nat} {f : Addr} {fd : FuncData} {ps : List Str} {sp : Sp} {x n1 n2 n3 : Str} {q1 q2 q3 : Pos} (ix : List Nat) (F : FnOk X.prog X.w X.K X.mg X.base (L2.CX X.prog X.w) k f fd ps sp) (hr : Room k X.A) (hm : X.mg x = some (.ref f)) (hk : PySem.W.keepIn X.K (.ref f) = true)
    (hb : ∀ (s : Shared) (ws : List Value), ws.length = [n1, n2, n3].length → BindsTo s fd ⟨[], [n1, n2, n3].zip ws⟩ (ps.zip (permV ix ws))) (st1 : Stab T R1) (st2 : Stab T R2) (h1 : Er X T a σ H R1) (h2 : Er X T b σ H R2) (h3 : Er X T c σ H R3)
    (hsp : ∀ v1 v2 v3 H1, Le T [] H H1 → R1 v1 H1 → R2 v2 H1 → R3 v3 H1 → ∀ Q : VK, (∀ v H2, Le T [] H1 H2 → R v H2 → Q v H2) → sp (permV ix [v1, v2, v3]) H1 Q E0) (hg : Gl X x := by rfl) (hdb : (x == ("__debug__" : Str)) = false := by decide) :
    Er X T (.Call (.Name x p) [] [⟨some n1, a, q1⟩, ⟨some n2, b, q2⟩, ⟨some n3, c, q3⟩] pos) σ H R := fun H1 l Q q => by
  refine we_kw (ks := [n1, n2, n3]) ix F hr hm hk hb (pk_cons we_pe (pk_cons we_pe (pk_cons we_pe pk_nil))) ?_ hg rfl rfl hdb rfl
  exact h1 H1 l _ fun v1 H2 l2 r1 => h2 H2 (l.trans l2) _ fun v2 H3 l3 r2 => h3 H3 (l.trans (l2.trans l3)) _ fun v3 H4 l4 r3 => ⟨rfl, hsp v1 v2 v3 H4 (l.trans (l2.trans (l3.trans l4))) (st1 _ _ _ (l3.trans l4) r1) (st2 _ _ _ l4 r2) r3 Q fun v H5 l5 r5 => q v H5 (l2.trans (l3.trans (l4.trans l5))) r5⟩
end
end RM
namespace RM
open PySem PySem.Spec L2 LamX
open PyProof.Rows hiding St
section
variable {X : Cx} {T : List (Addr × Str)} {e a b c : Expr} {es : List Expr} {st : Stmt} {sts rest : List Stmt} {σ : St} {H H1 : Hp} {pos p p' lpos : Pos} {R R' R1 R2 : VP} {Rs : List VP} {d d' d0 : PyData} {ds : List PyData} {D : Ends} {k kL kG : Nat} {E : XK} {body orelse : List Stmt}
/-- over what a list or tuple holds, the iterable as it comes -/
theorem s_forS0 {j : Nat} {x : Str} {iter : Expr} (B : Bd X k E)
    (h : WpE X iter σ H fun v H1 => ∃ d0 ds, Dp X.K H1 v d0 ∧ IsSeq d0 ds ∧ ∃ I : Nat → St → Hp → Prop, I 0 σ H1 ∧ (∀ i σ' H', I i σ' H' → Le T [] H1 H') ∧ (∀ i d u σ' H', ds[i]? = some d → I i σ' H' → Dp X.K H' u d → WpSs X body { D with nx := I (i + 1), ct := I (i + 1), bk := D.nx } (σ'.set j (some u)) H') ∧ ∀ σ' H', I ds.length σ' H' → D.nx σ' H')
    (hj : X.N[j]? = some x := by rfl) (hx : Loc X.env.scope x := by first | exact .inl rfl | exact .inr rfl) (hf : ∀ y, foldedSetIterable iter X.env y = pure y := by intro _; rfl) : WpS X (.For (.Name x p) iter body [] pos) D σ H := by
  refine ps_we (ps_for B.own B.calm (pi_seq we_pe) (pg_name B.nd hj hx (.inl (B.fn x))) we_pss hf) ?_
  show WpE X iter σ H _
  refine we_mono (fun v H1 ⟨d0, ds, r, hs, I, h0, hk, hb, hd⟩ => ?_) h
  obtain ⟨a, xs, rfl, s, rr⟩ := dp_sq r hs
  have el := dpa_len rr
  refine ⟨a, rfl, for_seq s I h0 (fun i σ' H' _ q => ⟨fun z => (hk i σ' H' q).sqL z (by simp), fun z => (hk i σ' H' q).sqT z (by simp)⟩) (fun i u σ' H' hu q => ?_) (fun σ' H' q => hd σ' H' (el ▸ q))⟩
  obtain ⟨d, hd2, rd⟩ := dpa_get' rr hu
  exact hb i d u σ' H' hd2 q ((hk i σ' H' q).dp rd)
/-- x(lambda: ..), as it comes -/
theorem we_lam1 {c PT : Addr} {x : Str} {g : Addr} {fdG : FuncData} {psG : List Str} {spG : Addr → Sp → Sp} {params : Arguments} {body : Expr} {scope : Scope} {Q : VK} (B : Bd X k E) (hT : Tabs T H) (G : TakesFn X (L2.CX X.prog X.w) [] (kL + 1) (L2.CX X.prog X.w) kG g fdG psG spG) (hr : kG ≤ k) (hm : X.mg x = some (.ref g)) (hk : PySem.W.keepIn X.K (.ref g) = true) (hb : Binds X.K fdG psG [])
    (TB : TabB X.base X.mg c PT) (hcode : X.env.code = .ref c) (hmT : (PT, X.env.qual ++ "<lambda>") ∈ T) (nd : (T.map (·.1)).Nodup) (L : lamPB X.env.scope scope [] X.N = true)
    (hsp : ∀ H2 f c', Le T [] H H2 → H2 c' = some (CodeO c' (X.env.qual ++ "<lambda>")) → spG f (lamSp c' (X.env.qual ++ "<lambda>") 0 σ (lamT X [] scope body kL)) [.ref f] H2 Q E0)
    (hdef : defaultsOf params X.env = ([], []) := by rfl) (hg : Gl X x := by rfl)
    (hbind : ∀ (q : Str) (cl : List (Str × Addr)) (pm cv ctv : Value) (us : List Value), us.length = ([] : List Str).length → bindArgs (PySem.W.kla_fn "<lambda>" q params body scope cl pm cv ctv) ⟨us, []⟩ = pure (([] : List Str).zip us) := by exact fun _ _ _ _ _ us hl => match us, hl with | [], _ => rfl)
    (hdb : (x == ("__debug__" : Str)) = false := by decide) :
    WpE X (.Call (.Name x p) [.Lambda params body scope lpos] [] pos) σ H Q := by
  refine pe_we (pe_callLam (T := T) (c := c) (P := PT) (kL := kL) (tb := lamT X [] scope body kL) (CXL := L2.CX X.prog X.w) B.fn G (B.room.mono hr) hg hm hk hb passL TB hcode hmT (hu_of nd hmT) (lamP_by L) hdef hbind (fun B f c' A outer s H E h1 h2 h3 h4 => ⟨fun pins s1 σ H1 Q I h => h B f c' A outer s H h1 h2 h3 h4 pins s1 I⟩) hdb) ?_
  exact ⟨hT, fun H3 f c' ex t3 hf hc => hsp H3 f c' (Le.extN ex fun _ => t3) hc⟩
/-- a new list of some things -/
theorem er_lstF (h : Ea X T es σ H (ds.map (dP X.K))) (hl : ds.length ≤ 100000) : Er X T (.List es pos) σ H (FreshL X.K H ds) := fun H1 l Q q => by
  refine pe_we (pe_lst we_pa) (h H1 l _ fun vs H2 l2 r => ?_)
  have r := allP_d r
  refine ⟨by rw [dpa_len r, sizeLine_eq]; omega, fun p hp => q _ _ (l2.add hp) ⟨p, vs, rfl, (l.trans l2).free hp, upd_same, (Le.new (T := T) hp).dpAll r⟩⟩
theorem s_if0 (h : WpT X c σ H fun q H1 => (q = true → WpSs X body D σ H1) ∧ (q = false → WpSs X orelse D σ H1)) : WpS X (.If c body orelse pos) D σ H := by
  refine ps_we (ps_if we_pt we_pss we_pss) ?_
  have aux : ∀ {Q Q' : Bool → Hp → Prop}, (∀ v H', Q v H' → Q' v H') → WpT X c σ H Q → WpT X c σ H Q' := fun {Q Q'} hq h pins s I => thn (h pins s I) fun u s' ⟨H', I', q⟩ => ⟨H', I', hq _ _ q⟩
  refine aux (fun q H1 ⟨h1, h2⟩ => ?_) h
  cases q with
  | true => rw [if_pos rfl]; exact h1 rfl
  | false => rw [if_neg (by simp)]; exact h2 rfl
/-- a test that comes to no -/
theorem s_ifF (hc : Et X T c σ H false) (hb : ∀ H1, Le T [] H H1 → WpSs X orelse D σ H1) : WpS X (.If c body orelse pos) D σ H := s_if hc (fun e => by cases e) fun _ => hb
theorem ew_orF {rest : List Expr} (h : Et X T a σ H false) (h2 : EtW X T (.BoolOp .Or (b :: rest) pos) σ H false) : EtW X T (.BoolOp .Or (a :: b :: rest) pos) σ H false := ew_or h fun _ => h2
/-- a call of anything, as its arguments come -/
theorem we_callR {f : Addr} {fd : FuncData} {ps : List Str} {sp : Sp} {x : Str} {Q : VK} (F : FnOk X.prog X.w X.K X.mg X.base (L2.CX X.prog X.w) k f fd ps sp) (hr : Room k X.A) (hm : X.mg x = some (.ref f)) (hk : PySem.W.keepIn X.K (.ref f) = true) (hb : Binds X.K fd ps []) (ha : WpA X (e :: es) σ H fun vs H1 => sp vs H1 Q E0) (hg : Gl X x := by rfl) (hdb : (x == ("__debug__" : Str)) = false := by decide)
    (he : starEach (e :: es) X.env = (false, eval e X.env) :: starEach es X.env := by rfl) (hpl : (backTo pos (starEach es X.env)).any (·.1) = false := by rfl) : WpE X (.Call (.Name x p) (e :: es) [] pos) σ H Q := by
  refine pe_we (pe_call F hr hg hm hk hb .nil passL we_pa hdb he hpl) ?_
  have e : (fun vs H1 => sp vs H1 Q E0) = fun vs H1 => sp (vs ++ []) H1 Q E0 := by funext vs H1; rw [List.append_nil]
  show WpA X _ σ H _
  rw [← e]
  exact ha
/-- the same, of one that may raise -/
theorem we_callRW {f : Addr} {fd : FuncData} {ps : List Str} {sp : Sp} {W : WX} {x : Str} {Q : VK} (F : FnOk X.prog X.w X.K X.mg X.base (L2.CX X.prog X.w) k f fd ps sp) (hr : Room k X.A) (hm : X.mg x = some (.ref f)) (hk : PySem.W.keepIn X.K (.ref f) = true) (hb : Binds X.K fd ps []) (tk : Takes X W) (ha : WpA X (e :: es) σ H fun vs H1 => sp vs H1 Q (WE W σ)) (hg : Gl X x := by rfl) (hdb : (x == ("__debug__" : Str)) = false := by decide)
    (he : starEach (e :: es) X.env = (false, eval e X.env) :: starEach es X.env := by rfl) (hpl : (backTo pos (starEach es X.env)).any (·.1) = false := by rfl) : WpE X (.Call (.Name x p) (e :: es) [] pos) σ H Q :=
  pe_we (pe_callS F hr hg hm hk hb (passAt tk) we_pa hdb he hpl) ha
theorem wa_nil {Q : List V → Hp → Prop} (h : Q [] H) : WpA X [] σ H Q := pa_we pa_nil h
theorem wa_cons {Q : List V → Hp → Prop} (h : WpE X e σ H fun v H1 => WpA X es σ H1 fun vs H2 => Q (v :: vs) H2) (hs : starEach (e :: es) X.env = (false, eval e X.env) :: starEach es X.env := by rfl) : WpA X (e :: es) σ H Q := pa_we (pa_cons we_pe we_pa hs) h
theorem wa_er {Q : List V → Hp → Prop} (h : Er X T e σ H R) (q : ∀ v H1, Le T [] H H1 → R v H1 → WpA X es σ H1 fun vs H2 => Q (v :: vs) H2) (hs : starEach (e :: es) X.env = (false, eval e X.env) :: starEach es X.env := by rfl) : WpA X (e :: es) σ H Q := wa_cons (h.run q) hs
/-! caught exceptions -/
def excP (D0 : Addr) (f : Str) (x : PyData) (K : PySem.W.Frag) : VP := fun v H => ∃ e u, v = .ref e ∧ ExcAt H e D0 [(f, u)] ∧ Dp K H u x
theorem codeO_nx {c : Addr} {q : Str} : True := trivial
theorem excAt_up {e D0 : Addr} {fs : List (Str × V)} (l : Le T [] H H1) (h : ExcAt H e D0 fs) : ExcAt H1 e D0 fs := by
  obtain ⟨dd, h1, h2⟩ := h
  exact ⟨dd, l.at h1 (by simp) (fun ps z => by unfold ExcO at z; cases z), l.at h2 (by simp) fun ps z => nomatch z⟩
theorem stab_ex {D0 : Addr} {f : Str} {x : PyData} {K : PySem.W.Frag} : Stab T (excP D0 f x K) := fun v H H' l ⟨e, u, h1, h2, h3⟩ => ⟨e, u, h1, excAt_up l h2, l.dp h3⟩
theorem ed_exf {D0 : Addr} {f : Str} {x : PyData} (he : Er X T e σ H (excP D0 f x X.K)) (hK : ExcK X.K D0) (hn : PySem.W.findIn X.K (.ref D0) f = some none) (hab : attributeBase e f X.env (eval e X.env) = eval e X.env := by rfl) : Ed X T (.Attribute e f pos) σ H x := fun H1 l Q q => by
  refine pe_we (pe_exf we_pe hab) ?_
  refine he H1 l _ fun v H2 l2 ⟨a, u, h1, h2, h3⟩ => ?_
  exact ⟨a, D0, _, u, h1, h2, hK, hn, by rw [List.lookup_cons_self], q u H2 l2 h3⟩
end
end RM
/-! dicts with tuples of whole numbers as keys -/
namespace RM
open PySem PySem.Spec L2 LamX
open PyProof.Rows hiding St
/-- a new dict of one pair, its key a tracked tuple -/
def tDispT (tk tv : TE) : TE := fun σ H Q => ∀ p, H p = none → tk σ (upd H p (.dT [])) fun x H1 => tv σ H1 fun y H2 => H2 p = some (.dT []) ∧ ∃ b k, x = .ref b ∧ H2 b = some (.tup (k.map kV)) ∧ Q (.ref p) (upd H2 p (.dT [(k, y)]))
theorem pe_dispT {X : Cx} {pos : Pos} {a b : Expr} {ta tb : TE} (hu : X.A.units + 1 < cLine) (ha : PE X a ta) (hb : PE X b tb) : PE X (.Dict [some a] [b] pos) (tDispT ta tb) := by
  refine ⟨fun pins s σ H Q I q => ?_⟩
  have hn := I.hok.fresh (Nat.le_refl s.heap.objs.size)
  have I1 := I.laid (a := s.heap.objs.size) (o := .dT []) (h' := s.heap.push { cls := .type "dict", data := .dict #[] }) (t' := s.toks) (fun _ _ q => Heap.get?_push_of_some _ q) (Nat.le_refl _) (dt_empty s.heap I.big)
  have hsh := zip_pairTrees [some a] [b] X.env pos rfl rfl
  rw [arm_eval_Dict, hsh, dictDisplay_pairs (pairTrees [some a] [b] X.env pos) (by intro h; cases h) (by show 1 < 17; decide)]
  refine wpAny_bind (wpAny_standAt (wpAny_bind (wpAny_subDictH (knd := tupleKind (mixKind X.prog X.w)) (Q := fun d s' => wpAny (model X.prog X.w) X.A (pure (Value.ref d)) (EP X pins σ Q) X.xe s') (show X.A.units < cLine by omega) (by show 1 ≤ 15; decide) ?_)))
  refine pairTrees_cons_walk (thn (ha.run pins _ σ _ _ I1 (q _ hn)) fun u s1 ⟨x, H1, I1', rx, q1⟩ => thn (hb.run pins s1 σ H1 _ I1' q1) fun u2 s2 ⟨y, H2, I2, ry, q2⟩ => pairTrees_nil_walk ?_)
  obtain ⟨e, bb, k, rfl, eb, q3⟩ := q2
  cases (show u = Value.ref bb from rx)
  obtain ⟨z, hd, xs, rel, dd⟩ := dt_of I2.hok e
  obtain rfl : xs = [] := by cases rel; rfl
  refine ⟨[(k, bb, u2)], ⟨rfl, rfl, key_of I2.hok eb, trivial⟩, dd, fun h' tk dd' hs => wpAny_pure ⟨.ref s.heap.objs.size, _, ?_, rfl, q3⟩⟩
  obtain ⟨o, es, ep, h1, h2, h3, h4, _, h5⟩ := dd'
  have ne : bb ≠ s.heap.objs.size := ne_of eb e (fun z => nomatch z)
  refine d_write I2 (by rw [e]; exact True.intro) hs ⟨o, h1⟩ ⟨by show 1 ≤ sizeLine; rw [sizeLine_eq]; decide, hd, [(k, bb, u2)], .cons ⟨rfl, by rw [upd_ne ne]; exact eb, ry⟩ .nil, o, es, ep, h1, h2, h3, h4, h5⟩
end RM
namespace RM
open PySem PySem.Spec L2 LamX
open PyProof.Rows hiding St
/-! ### tracked tuples of numbers -/
def tupN (l : List Nat) : List V := l.map fun n => V.int (n : Nat)
abbrev tP (l : List Nat) : VP := fun v H => ∃ b, v = .ref b ∧ H b = some (.tup (tupN l))
def keyN (l : List Nat) : List Key := l.map fun n => (Sum.inl ((n : Nat) : Int) : Key)
theorem keyN_kV (l : List Nat) : (keyN l).map kV = tupN l := by unfold keyN tupN; rw [List.map_map]; rfl
theorem keyN_inj {a b : List Nat} (h : keyN a = keyN b) : a = b := by
  unfold keyN at h
  exact List.map_inj_right (fun x y e => by injection e with e; exact Int.ofNat.inj e) |>.mp h
section
variable {T : List (Addr × Str)} {H H1 : Hp} {K : PySem.W.Frag} {l : List Nat} {v : V}
theorem stab_tP : Stab T (tP l) := fun v H H' e ⟨b, h1, h2⟩ => ⟨b, h1, e.at h2 (by simp) fun _ z => nomatch z⟩
theorem dpa_tupN : DpAll K H (tupN l) (l.map fun n => PyData.int (n : Nat)) := by
  unfold tupN
  induction l with
  | nil => exact .nil
  | cons a r ih => exact .cons (.int _) ih
theorem tP_dp (h : tP l v H) : Dp K H v (nsD l) := by
  obtain ⟨b, rfl, h2⟩ := h
  exact dp_tup h2 dpa_tupN
theorem dpa_tupN_of : ∀ {l : List Nat} {vs : List V}, DpAll K H vs (l.map fun n => PyData.int (n : Nat)) → vs = tupN l
  | [], _, .nil => rfl
  | n :: l, _, .cons h r => by
    cases h
    rw [dpa_tupN_of r]
    rfl
end
/-! ### dicts of maps -/
def zipT (es : List (List Nat × PyData)) (vs : List V) : List (List Key × V) := (es.zip vs).map fun p => (keyN p.1.1, p.2)
def DTat (K : PySem.W.Frag) (H : Hp) (a : Addr) (es : List (List Nat × PyData)) : Prop := ∃ vs, H a = some (.dT (zipT es vs)) ∧ DpAll K H vs (es.map (·.2))
/-- the same, to be read: the dict may be locked -/
def DTr (K : PySem.W.Frag) (H : Hp) (a : Addr) (es : List (List Nat × PyData)) : Prop := ∃ vs, Rd H a (.dT (zipT es vs)) ∧ DpAll K H vs (es.map (·.2))
theorem DTat.r {K : PySem.W.Frag} {H : Hp} {a : Addr} {es : List (List Nat × PyData)} (h : DTat K H a es) : DTr K H a es := let ⟨vs, h1, h2⟩ := h; ⟨vs, .inl h1, h2⟩
def look (es : List (List Nat × PyData)) (l : List Nat) : Option PyData := (es.find? fun e => decide (e.1 = l)).map (·.2)
theorem zip_look {K : PySem.W.Frag} {H : Hp} : ∀ {es : List (List Nat × PyData)} {vs : List V}, DpAll K H vs (es.map (·.2)) → ∀ l, (look es l = none → valV (zipT es vs) (keyN l) = none) ∧ ∀ r, look es l = some r → ∃ v, valV (zipT es vs) (keyN l) = some v ∧ Dp K H v r
  | [], _, .nil, l => ⟨fun _ => rfl, fun r h => by cases h⟩
  | e :: es, v :: vs, .cons h t, l => by
    have ih := zip_look t l
    by_cases q : e.1 = l
    · refine ⟨fun z => ?_, fun r z => ?_⟩
      · simp [look, List.find?_cons, q] at z
      · have : look (e :: es) l = some e.2 := by simp [look, List.find?_cons, q]
        rw [this] at z
        cases z
        refine ⟨v, ?_, h⟩
        show valV ((keyN e.1, v) :: zipT es vs) (keyN l) = some v
        rw [valV_pos (by rw [q])]
    · have q2 : ¬ keyN e.1 = keyN l := fun z => q (keyN_inj z)
      have e1 : look (e :: es) l = look es l := by simp [look, List.find?_cons, q]
      have e2 : valV (zipT (e :: es) (v :: vs)) (keyN l) = valV (zipT es vs) (keyN l) := by
        show valV ((keyN e.1, v) :: zipT es vs) (keyN l) = _
        rw [valV_neg q2]
      rw [e1, e2]
      exact ih
theorem zip_put {es : List (List Nat × PyData)} {vs : List V} {l : List Nat} {r : PyData} {v : V} (hl : vs.length = es.length) (h : valV (zipT es vs) (keyN l) = none) : putK (zipT es vs) (keyN l) v = zipT (es ++ [(l, r)]) (vs ++ [v]) := by
  unfold putK
  rw [valV_any, h]
  show zipT es vs ++ [(keyN l, v)] = _
  unfold zipT
  rw [List.zip_append hl.symm, List.map_append]
  rfl
section
variable {T : List (Addr × Str)} {H H1 : Hp} {K : PySem.W.Frag} {a : Addr} {es : List (List Nat × PyData)}
theorem DTat.up (l : Le T [] H H1) (h : DTat K H a es) : DTat K H1 a es := by
  obtain ⟨vs, h1, h2⟩ := h
  exact ⟨vs, l.at h1 (by simp) (fun _ z => nomatch z), l.dpAll h2⟩
theorem Le.rdT {ps : List (List Key × V)} (l : Le T [] H H1) (h : Rd H a (.dT ps)) : Rd H1 a (.dT ps) := by
  rcases h with h | ⟨o, h⟩
  · exact .inl (l.at h (by simp) fun _ z => nomatch z)
  · exact .inr ⟨o, l.at h (by simp) fun _ z => nomatch z⟩
theorem DTr.up (l : Le T [] H H1) (h : DTr K H a es) : DTr K H1 a es := by
  obtain ⟨vs, h1, h2⟩ := h
  exact ⟨vs, l.rdT h1, l.dpAll h2⟩
end
section
variable {X : Cx} {T : List (Addr × Str)} {e a b c : Expr} {es : List Expr} {σ : St} {H H1 : Hp} {pos p p2 p' : Pos} {R R' : VP} {D : Ends} {l : List Nat} {E : XK} {k : Nat}
theorem er_tupN {l : List Nat} (hm : X.mg "tuple" = none) (h : Ed X T e σ H (.list (l.map fun n => PyData.int (n : Nat)))) (hg : Gl X "tuple" := by rfl) (he : starEach [e] X.env = (false, eval e X.env) :: starEach [] X.env := by rfl) : Er X T (.Call (.Name "tuple" p) [e] [] pos) σ H (tP l) :=
  er_ty call_tuple_of hm (ed_cons h ea_nil he) (fun vs H1 l ra Q q => by
    obtain ⟨v, rfl, r⟩ := allP1 ra
    obtain ⟨a, xs, rfl, s, rr⟩ := dp_lst_of r
    obtain rfl := dpa_tupN_of rr
    exact ⟨a, _, rfl, .inl ⟨s, fun l hl => q _ _ (.new hl) ⟨l, rfl, upd_same⟩⟩⟩) hg rfl (by decide) (by decide) he
theorem rgV_tupN {n : Nat} : rgV 0 n = tupN (List.range n) := by
  unfold rgV tupN
  simp
theorem er_tupRgN {n : Nat} {p2 pos2 : Pos} (hc : X.calm = true) (hm : X.mg "tuple" = none) (hm2 : X.mg "range" = none) (h : Ed X T e σ H (.int n)) (hn : n ≤ 100000) (hg : Gl X "tuple" := by rfl) (hg2 : Gl X "range" := by rfl) (he : starEach [e] X.env = (false, eval e X.env) :: starEach [] X.env := by rfl) :
    Er X T (.Call (.Name "tuple" p) [.Call (.Name "range" p2) [e] [] pos2] [] pos) σ H (tP (List.range n)) := fun H1 l Q q => by
  refine pe_we (pe_tupRg hc hg hm (prg_1 hg2 hm2 we_pe he)) (h H1 l _ fun v H2 l2 r => ?_)
  cases r
  exact ⟨n, rfl, by unfold RgOk; have := sizeLine_eq; omega, fun p hp => q _ _ (l2.add hp) ⟨p, rfl, by rw [rgV_tupN]; exact upd_same⟩⟩
/-- {e1: e2}, a new dict of maps -/
def FreshT (K : PySem.W.Frag) (H : Hp) (es : List (List Nat × PyData)) : VP := fun v H' => ∃ a, v = .ref a ∧ (H a = none ∨ ∃ ps, H a = some (.tbl ps)) ∧ DTat K H' a es
theorem stab_frT {es : List (List Nat × PyData)} {K : PySem.W.Frag} : Stab T (FreshT K H es) := fun v H1 H2 l ⟨a, e, h1, h2⟩ => ⟨a, e, h1, h2.up l⟩
theorem er_disp1 {r : PyData} (hu : X.A.units + 1 < cLine) (h1 : Er X T a σ H (tP l)) (h2 : Ed X T b σ H r) : Er X T (.Dict [some a] [b] pos) σ H (FreshT X.K H [(l, r)]) := fun H1 l1 Q q => by
  refine pe_we (pe_dispT hu we_pe we_pe) ?_
  intro p hp
  have lp : Le T [] H1 (upd H1 p (.dT [])) := .new hp
  refine h1 _ (l1.trans lp) _ fun v H2 l2 r1 => h2 H2 (l1.trans (lp.trans l2)) _ fun u H3 l3 r3 => ?_
  have g3 : H3 p = some (.dT []) := (l2.trans l3).at upd_same (by simp) fun _ z => nomatch z
  obtain ⟨bb, rfl, hb⟩ := stab_tP _ _ _ l3 r1
  refine ⟨g3, bb, keyN l, rfl, by rw [keyN_kV]; exact hb, ?_⟩
  have lw : Le T [p] H3 (upd H3 p (.dT [(keyN l, u)])) := Le.refl.put g3 (.inl (by simp)) (fun ps z => by cases z) fun c q z => by unfold CodeO at z; cases z
  have ns : NoSeq H3 [p] := fun s hs => by
    obtain rfl : s = p := by simpa using hs
    rw [g3]
    exact ⟨fun ys z => (nomatch z), fun ys z => (nomatch z), fun o u z => (nomatch z)⟩
  refine q _ _ (((lp.trans (l2.trans l3)).up.trans lw).dropT fun z hz => ?_) ⟨p, rfl, l1.free hp, [u], upd_same, .cons (lw.dpS ns r3) .nil⟩
  obtain rfl : z = p := by simpa using hz
  exact .inl hp
/-- e in the dict at a -/
theorem ed_inT {es : List (List Nat × PyData)} {ad : Addr} (hu : X.A.units + 1 < cLine) (h1 : Er X T a σ H (tP l)) (h2 : Er X T b σ H (fun v H' => v = .ref ad ∧ DTr X.K H' ad es)) (hm : behindInMarks .In b = false := by rfl) : Ed X T (.Compare a [.In] [b] pos) σ H (.bool (look es l).isSome) := fun H1 l1 Q q => by
  refine pe_we (pe_cmp (pc_din hu we_pe we_pe) hm) ?_
  refine h1 H1 l1 _ fun v H2 l2 r1 => h2 H2 (l1.trans l2) _ fun u H3 l3 e3 => ?_
  obtain ⟨bb, rfl, hb⟩ := stab_tP _ _ _ l3 r1
  obtain ⟨rfl, vs, d1, d2⟩ := e3
  have g : DGet _ ad (.ref bb) (valV (zipT es vs) (keyN l)) := .inr ⟨_, keyN l, bb, d1, rfl, by rw [keyN_kV]; exact hb, rfl⟩
  obtain ⟨z1, z2⟩ := zip_look d2 l
  refine ⟨ad, _, rfl, g, ?_⟩
  have e : (valV (zipT es vs) (keyN l)).isSome = (look es l).isSome := by
    cases q : look es l with
    | none => rw [z1 q]; rfl
    | some r => obtain ⟨w, hw, _⟩ := z2 r q; rw [hw]; rfl
  rw [e]
  exact q _ H3 (l2.trans l3) (.bl _)
/-- e not in the dict at a -/
theorem et_notInT {es : List (List Nat × PyData)} {ad : Addr} (hu : X.A.units + 1 < cLine) (h1 : Er X T a σ H (tP l)) (h2 : Er X T b σ H (eqP (.ref ad))) (hd : DTr X.K H ad es) (hm : behindInMarks .NotIn b = false := by rfl) : Et X T (.Compare a [.NotIn] [b] pos) σ H (decide (look es l = none)) := fun H1 l1 Q q => by
  refine pt_we (pt_cmp (pc_dnotin hu we_pe we_pe) hm) ?_
  refine h1 H1 l1 _ fun v H2 l2 r1 => h2 H2 (l1.trans l2) _ fun u H3 l3 e3 => ?_
  obtain ⟨bb, rfl, hb⟩ := stab_tP _ _ _ l3 r1
  subst e3
  obtain ⟨vs, d1, d2⟩ := hd.up (l1.trans (l2.trans l3))
  have g : DGet _ ad (.ref bb) (valV (zipT es vs) (keyN l)) := .inr ⟨_, keyN l, bb, d1, rfl, by rw [keyN_kV]; exact hb, rfl⟩
  obtain ⟨z1, z2⟩ := zip_look d2 l
  refine ⟨ad, _, rfl, g, _, rfl, ?_⟩
  have e : (!(valV (zipT es vs) (keyN l)).isSome) = decide (look es l = none) := by
    cases q : look es l with
    | none => rw [z1 q]; rfl
    | some r => obtain ⟨w, hw, _⟩ := z2 r q; rw [hw]; rfl
  rw [e]
  exact q H3 (l2.trans l3)
/-- d[e] -/
theorem er_getT {es : List (List Nat × PyData)} {ad : Addr} {r : PyData} (hu : X.A.units + 1 < cLine) (h1 : Er X T a σ H (eqP (.ref ad))) (h2 : Er X T b σ H (tP l)) (hd : DTr X.K H ad es) (hr : look es l = some r) (hs : NoSl b := by exact fun _ _ => rfl)   : Ed X T (.Subscript a b pos) σ H r := fun H1 l1 Q q => by
  refine pe_we (pe_dget hu we_pe we_pe hs) ?_
  refine h1 H1 l1 _ fun v H2 l2 e2 => h2 H2 (l1.trans l2) _ fun u H3 l3 r3 => ?_
  subst e2
  obtain ⟨bb, rfl, hb⟩ := r3
  obtain ⟨vs, d1, d2⟩ := hd.up (l1.trans (l2.trans l3))
  have g : DGet _ ad (.ref bb) (valV (zipT es vs) (keyN l)) := .inr ⟨_, keyN l, bb, d1, rfl, by rw [keyN_kV]; exact hb, rfl⟩
  obtain ⟨w, hw, rw_⟩ := (zip_look d2 l).2 r hr
  rw [hw] at g
  exact ⟨ad, w, rfl, g, q w H3 (l2.trans l3) rw_⟩
end
end RM
/-! == of two dicts of maps that hold the same -/
namespace RM
open PySem PySem.W PySem.Calls PyProof.V PySem.Spec
open PyProof.Rows hiding St
section
variable {prog : Program} {w : World} {Ky : Type} [DecidableEq Ky] {kn : HeapKind prog w Ky} {A : Around} {E : Value → Shared → Prop} {s : Shared}
theorem sameT {nm : String} {c1 c2 : Addr} {xs ys : List (Ky × Addr × Value)} {Q : Bool → Shared → Prop} (hu : kn.room A) (n1 : (c1 == sysModules) = false) (n2 : (c2 == sysModules) = false) (d1 : s.heap.DictOfH kn c1 xs) (d2 : s.heap.DictOfH kn c2 ys) (hl : xs.length = ys.length)
    (hit : ∀ (i : Nat) x, xs[i]? = some x → ∃ y, ys[i]? = some y ∧ y.1 = x.1 ∧ SeqAt.EqP prog w A s x.2.2 y.2.2 true) (h : Q true s) : wpAny (model prog w) A (Builtin.Dict.samePairs nm c1 c2) Q E s := by
  obtain ⟨o1, f1, g1, a1, a2, a3, a4, a5, a6⟩ := d1
  obtain ⟨o2, f2, g2, b1, b2, b3, b4, b5, b6⟩ := d2
  have s1 : f1.size = xs.length := size_of_entries a4
  have s2 : f2.size = ys.length := size_of_entries b4
  have same : f1.size = f2.size := by omega
  unfold Builtin.Dict.samePairs Builtin.Dict.showsAll
  have q1 : ¬ (c1 == sysModules) = true := by rw [n1]; decide
  have q2 : ¬ (c2 == sysModules) = true := by rw [n2]; decide
  rw [if_neg q1, if_neg q2]
  refine wpAny_bind (wpAny_pure (wpAny_bind (wpAny_pure (wpAny_bind (wpAny_dictEntries a1 a3 ?_)))))
  dsimp only
  refine wpAny_bind (wpAny_dictEntries b1 b3 ?_)
  rw [if_neg (by rw [same]; simp)]
  refine wpAny_bind (wpAny_dictEpoch a1 a3 (wpAny_bind ?_))
  rw [Std.Legacy.Range.forIn_eq_forIn_range']
  simp only [Std.Legacy.Range.size, Nat.sub_zero, Nat.add_sub_cancel, Nat.div_one]
  refine wpAny_forIn_list _ (fun left st s' => s' = s ∧ st = (none, ()) ∧ ∃ m, left = List.range' m (f1.size - m) ∧ m ≤ f1.size) _ ?_ ?_ _ _ ⟨rfl, rfl, 0, by simp, Nat.zero_le _⟩
  · rintro z left st s' ⟨rfl, rfl, m, hm, hle⟩
    have hlt : m < f1.size := by
      rcases Nat.lt_or_ge m f1.size with y | y
      · exact y
      · rw [Nat.sub_eq_zero_of_le y] at hm; simp at hm
    rw [show f1.size - m = (f1.size - (m + 1)) + 1 by omega, List.range'_succ] at hm
    injection hm with hz hleft
    subst hz
    refine wpAny_bind (wpAny_dictEntries a1 a3 ?_)
    obtain ⟨x, hx⟩ : ∃ x, xs[z]? = some x := ⟨_, List.getElem?_eq_getElem (by omega)⟩
    obtain ⟨y, hy, ek, ev⟩ := hit z x hx
    have ef : f1[z]? = some (entryOfKey kn x) := by rw [entry_at a4 z, hx]; rfl
    rw [ef]
    show wpAny _ _ (holding [Value.ref x.2.1, x.2.2] _ >>= _) _ _ _
    refine wpAny_bind (wpAny_holding (wpAny_bind (wpAny_dictFind_heap hu (a5 x (List.mem_of_getElem? hx)) b1 b3 b4 b5 b6 (fun no => ?_) fun j pr hj => ?_)))
    · exact absurd (by rw [hy, ← ek]) (no z y.2)
    · have ej : j = z := by
        have h1 : (ys.map (·.1))[j]? = some x.1 := by rw [List.getElem?_map, hj]; rfl
        have h2 : (ys.map (·.1))[z]? = some x.1 := by rw [List.getElem?_map, hy, ← ek]; rfl
        have l1 := (List.getElem?_eq_some_iff.mp h1).1
        exact (List.getElem?_inj l1 b6).mp (h1.trans h2.symm)
      subst ej
      refine wpAny_bind (wpAny_dictEntries b1 b3 ?_)
      have ef2 : f2[j]? = some (entryOfKey kn y) := by rw [entry_at b4 j, hy]; rfl
      rw [ef2]
      refine wpAny_holding (ev _ _ ?_)
      show wpAny _ _ (if (!true) = true then _ else _) _ _ _
      rw [if_neg (by decide)]
      refine wpAny_bind (wpAny_dictEpoch a1 a3 ?_)
      rw [if_neg (by simp)]
      exact wpAny_pure ⟨rfl, rfl, j + 1, hleft, hlt⟩
  · rintro st s' ⟨rfl, rfl, m, hm, hle⟩
    exact wpAny_pure h
theorem eqT {c1 c2 : Addr} {xs ys : List (Ky × Addr × Value)} (hr : kn.room A.in1) (n1 : (c1 == sysModules) = false) (n2 : (c2 == sysModules) = false) (d1 : s.heap.DictOfH kn c1 xs) (d2 : s.heap.DictOfH kn c2 ys) (hu : A.units < cLine) (hl : xs.length = ys.length)
    (hit : ∀ (i : Nat) x, xs[i]? = some x → ∃ y, ys[i]? = some y ∧ y.1 = x.1 ∧ SeqAt.EqP prog w A.in1 s x.2.2 y.2.2 true) (E Q : Value → Shared → Prop) (h : Q (.bool true) s) : wpAny (model prog w) A (richCompare .Eq (.ref c1) (.ref c2)) Q E s := by
  refine wpAny_richCompare_same_room (op := .Eq) d1.typeIs d2.typeIs PySem.F.slot_dict_eq (wpAny_call_entry PySem.F.slot_dict_eq d1.typeIs PySem.F.entry_dict_eq ?_ (PySem.F.args_dict_eq_2 _ _)) hu
  show wpAny _ _ (Builtin.Dict.dictSlotArgs "__eq__" ⟨[.ref c1, .ref c2], []⟩ >>= _) _ _ s
  unfold Builtin.Dict.dictSlotArgs
  refine wpAny_bind (wpAny_bind (wpAny_notOrdered_dict d1.typeIs (show wpAny _ _ (pure (Value.ref c1, Value.ref c2)) _ _ s from wpAny_pure ?_)))
  refine wpAny_bind (wpAny_isInstance d2.typeIs PySem.F.sub_dict_dict ?_)
  rw [if_neg (by decide)]
  refine wpAny_bind (wpAny_pure (wpAny_bind (wpAny_pure (wpAny_bind ?_))))
  exact sameT (A := A.in1) hr n1 n2 d1 d2 hl hit (wpAny_pure ⟨Value.bool true, rfl, (fun x => nomatch x), h⟩)
theorem neT {c1 c2 : Addr} {xs ys : List (Ky × Addr × Value)} (hr : kn.room A.in1) (n1 : (c1 == sysModules) = false) (n2 : (c2 == sysModules) = false) (d1 : s.heap.DictOfH kn c1 xs) (d2 : s.heap.DictOfH kn c2 ys) (hu : A.units < cLine) (hl : xs.length = ys.length)
    (hit : ∀ (i : Nat) x, xs[i]? = some x → ∃ y, ys[i]? = some y ∧ y.1 = x.1 ∧ SeqAt.EqP prog w A.in1 s x.2.2 y.2.2 true) (E Q : Value → Shared → Prop) (h : Q (.bool false) s) : wpAny (model prog w) A (richCompare .NotEq (.ref c1) (.ref c2)) Q E s := by
  refine wpAny_richCompare_same_room (op := .NotEq) d1.typeIs d2.typeIs PySem.F.slot_dict_ne (wpAny_call_entry PySem.F.slot_dict_ne d1.typeIs PySem.F.entry_dict_ne ?_ (PySem.F.args_dict_ne_2 _ _)) hu
  show wpAny _ _ (Builtin.Dict.dictSlotArgs "__ne__" ⟨[.ref c1, .ref c2], []⟩ >>= _) _ _ s
  unfold Builtin.Dict.dictSlotArgs
  refine wpAny_bind (wpAny_bind (wpAny_notOrdered_dict d1.typeIs (show wpAny _ _ (pure (Value.ref c1, Value.ref c2)) _ _ s from wpAny_pure ?_)))
  refine wpAny_bind (wpAny_isInstance d2.typeIs PySem.F.sub_dict_dict ?_)
  rw [if_neg (by decide)]
  refine wpAny_bind (wpAny_pure (wpAny_bind (wpAny_pure (wpAny_bind ?_))))
  exact sameT (A := A.in1) hr n1 n2 d1 d2 hl hit (wpAny_pure ⟨Value.bool false, rfl, (fun x => nomatch x), h⟩)
end
open L2
open PyProof.Rows hiding St
/-- the same maps, in the same sequence -/
def rDT (K : PySem.W.Frag) (r : Bool) : R2 := fun x y H Q => ∃ a b es, x = .ref a ∧ y = .ref b ∧ DTr K H a es ∧ DTr K H b es ∧ (∀ e ∈ es, SeqAt.shaped e.2 = true ∧ PyData.eqv e.2 e.2 = true) ∧ Q (.bl r) H
section
variable {X : Cx} {pins : List (Addr × Obj)} {σ : L2.St} {H : Hp} {s : Shared}
theorem kt_at {K : PySem.W.Frag} {es : List (List Nat × PyData)} {vs : List V} {xs : List (List Key × Addr × Value)} (hv : DpAll K H vs (es.map (·.2))) (h : KT H (zipT es vs) xs) : xs.length = es.length ∧ ∀ (i : Nat) x, xs[i]? = some x → ∃ e v, es[i]? = some e ∧ x.1 = keyN e.1 ∧ Dp K H v e.2 ∧ RelV v x.2.2 := by
  induction es generalizing vs xs with
  | nil =>
    cases hv
    cases h
    exact ⟨rfl, fun i x z => by simp at z⟩
  | cons e es ih =>
    cases hv with
    | cons h1 h2 =>
      cases h with
      | cons g1 g2 =>
        obtain ⟨l, k⟩ := ih h2 g2
        refine ⟨by simp [l], fun i x z => ?_⟩
        cases i with
        | zero =>
          simp at z
          subst z
          exact ⟨e, _, rfl, g1.1.symm, h1, g1.2.2⟩
        | succ i =>
          obtain ⟨e', v, q⟩ := k i x (by simpa using z)
          exact ⟨e', v, by simpa using q⟩
theorem dt_run {a b : Addr} {es : List (List Nat × PyData)} (I : Inv X pins σ H s) (hu : X.A.units + 80 < cLine) (h1 : DTr X.K H a es) (h2 : DTr X.K H b es) (hs : ∀ e ∈ es, SeqAt.shaped e.2 = true ∧ PyData.eqv e.2 e.2 = true) : ∃ xs ys, (a == sysModules) = false ∧ (b == sysModules) = false ∧ s.heap.DictOfH (tupleKind (mixKind X.prog X.w)) a xs ∧ s.heap.DictOfH (tupleKind (mixKind X.prog X.w)) b ys ∧ xs.length = ys.length ∧
    ∀ (i : Nat) x, xs[i]? = some x → ∃ y, ys[i]? = some y ∧ y.1 = x.1 ∧ SeqAt.EqP X.prog X.w X.A.in1 s x.2.2 y.2.2 true := by
  obtain ⟨vs, d1, e1⟩ := h1
  obtain ⟨ws, d2, e2⟩ := h2
  obtain ⟨_, n1, xs, k1, o1⟩ := dt_rd I.hok d1
  obtain ⟨_, n2, ys, k2, o2⟩ := dt_rd I.hok d2
  obtain ⟨l1, p1⟩ := kt_at e1 k1
  obtain ⟨l2, p2⟩ := kt_at e2 k2
  refine ⟨xs, ys, n1, n2, o1, o2, l1.trans l2.symm, fun i x hx => ?_⟩
  obtain ⟨e, v, q1, q2, q3, q4⟩ := p1 i x hx
  have hi : i < ys.length := by
    rw [l2]
    exact (List.getElem?_eq_some_iff.mp q1).1
  obtain ⟨e', v', q1', q2', q3', q4'⟩ := p2 i _ (List.getElem?_eq_getElem hi)
  rw [q1] at q1'
  cases q1'
  obtain ⟨as, r1⟩ := Dp.reads I e.2 v _ q3 q4
  obtain ⟨bs, r2⟩ := Dp.reads I e.2 v' _ q3' q4'
  obtain ⟨s1, s2⟩ := hs e (List.mem_of_getElem? q1)
  refine ⟨_, List.getElem?_eq_getElem hi, q2'.trans q2.symm, ?_⟩
  have := PySem.W.keq_at (A := X.A) r1 r2 s1 s1 (by show X.A.units + 1 + 64 < cLine; omega)
  rw [s2] at this
  exact this.eqP
theorem op_eqT (hu : X.A.units + 80 < cLine) : OpR X (compareOp .Eq) (rDT X.K true) := by
  intro pins s σ H x y v u Q I rx ry h
  obtain ⟨a, b, es, rfl, rfl, d1, d2, hs, q⟩ := h
  obtain rfl : v = Value.ref a := rx
  obtain rfl : u = Value.ref b := ry
  obtain ⟨xs, ys, n1, n2, o1, o2, hl, hit⟩ := dt_run I hu d1 d2 hs
  exact eqT (kn := tupleKind (mixKind X.prog X.w)) (by show X.A.units + 1 < cLine; omega) n1 n2 o1 o2 (by omega) hl hit _ _ ⟨.bl true, H, I, rfl, q⟩
theorem op_neT (hu : X.A.units + 80 < cLine) : OpR X (compareOp .NotEq) (rDT X.K false) := by
  intro pins s σ H x y v u Q I rx ry h
  obtain ⟨a, b, es, rfl, rfl, d1, d2, hs, q⟩ := h
  obtain rfl : v = Value.ref a := rx
  obtain rfl : u = Value.ref b := ry
  obtain ⟨xs, ys, n1, n2, o1, o2, hl, hit⟩ := dt_run I hu d1 d2 hs
  exact neT (kn := tupleKind (mixKind X.prog X.w)) (by show X.A.units + 1 < cLine; omega) n1 n2 o1 o2 (by omega) hl hit _ _ ⟨.bl false, H, I, rfl, q⟩
end
section
variable {X : Cx} {T : List (Addr × Str)} {a b : Expr} {σ : L2.St} {H : Hp} {pos : Pos} {es : List (List Nat × PyData)}
abbrev dtP (K : PySem.W.Frag) (es : List (List Nat × PyData)) : VP := fun v H => ∃ a, v = .ref a ∧ DTr K H a es
theorem stab_dtP {K : PySem.W.Frag} : Stab T (dtP K es) := fun v H1 H2 l ⟨a, e, h⟩ => ⟨a, e, h.up l⟩
theorem et_eqT (hu : X.A.units + 80 < cLine) (ha : Er X T a σ H (dtP X.K es)) (hb : Er X T b σ H (dtP X.K es)) (hs : ∀ e ∈ es, SeqAt.shaped e.2 = true ∧ PyData.eqv e.2 e.2 = true) (hm : behindInMarks .Eq b = false := by exact nomark _) : Et X T (.Compare a [.Eq] [b] pos) σ H true :=
  et_cmp2 stab_dtP (op_eqT hu) ha hb hm fun x y H1 l ⟨c1, e1, r1⟩ ⟨c2, e2, r2⟩ Q q => ⟨c1, c2, es, e1, e2, r1, r2, hs, q⟩
theorem ed_eqT (hu : X.A.units + 80 < cLine) (ha : Er X T a σ H (dtP X.K es)) (hb : Er X T b σ H (dtP X.K es)) (hs : ∀ e ∈ es, SeqAt.shaped e.2 = true ∧ PyData.eqv e.2 e.2 = true) (hm : behindInMarks .Eq b = false := by exact nomark _) : Ed X T (.Compare a [.Eq] [b] pos) σ H (.bool true) :=
  ed_cmp2 stab_dtP (op_eqT hu) ha hb hm fun x y H1 l ⟨c1, e1, r1⟩ ⟨c2, e2, r2⟩ Q q => ⟨c1, c2, es, e1, e2, r1, r2, hs, q _ H1 .refl (.bl true)⟩
theorem et_neT (hu : X.A.units + 80 < cLine) (ha : Er X T a σ H (dtP X.K es)) (hb : Er X T b σ H (dtP X.K es)) (hs : ∀ e ∈ es, SeqAt.shaped e.2 = true ∧ PyData.eqv e.2 e.2 = true) (hm : behindInMarks .NotEq b = false := by exact nomark _) : Et X T (.Compare a [.NotEq] [b] pos) σ H false :=
  et_cmp2 stab_dtP (op_neT hu) ha hb hm fun x y H1 l ⟨c1, e1, r1⟩ ⟨c2, e2, r2⟩ Q q => ⟨c1, c2, es, e1, e2, r1, r2, hs, q⟩
end
end RM
/-! all maps of rows, as they are found, plain -/
namespace RM
abbrev Ent := List Nat × List Nat
def hasK (es : List Ent) (f : List Nat) : Bool := es.any fun e => decide (e.1 = f)
def entF (es : List Ent) (i : Nat) : List Nat := (es.getD i ([], [])).1
def entR (es : List Ent) (i : Nat) : List Nat := (es.getD i ([], [])).2
/-- the first k kinds tried behind the i-th map -/
def runK (st : List (List Nat)) (i : Nat) (es : List Ent) : Nat → List Ent
  | 0 => es
  | k + 1 => if hasK (runK st i es k) (thenM (entF es i) (st.getD k [])) then runK st i es k else runK st i es k ++ [(thenM (entF es i) (st.getD k []), entR es i ++ [k])]
/-- the first i maps gone through -/
def runB (st : List (List Nat)) (n : Nat) : Nat → List Ent
  | 0 => [(List.range n, [])]
  | i + 1 => runK st i (runB st n i) st.length
section
variable {st : List (List Nat)} {es : List Ent} {i k n : Nat} {f : List Nat}
theorem hasK_iff : hasK es f = true ↔ ∃ e ∈ es, e.1 = f := by
  unfold hasK
  rw [List.any_eq_true]
  exact ⟨fun ⟨e, h1, h2⟩ => ⟨e, h1, of_decide_eq_true h2⟩, fun ⟨e, h1, h2⟩ => ⟨e, h1, decide_eq_true h2⟩⟩
theorem hasK_app {t : List Ent} (h : hasK es f = true) : hasK (es ++ t) f = true := by
  obtain ⟨e, h1, h2⟩ := hasK_iff.mp h
  exact hasK_iff.mpr ⟨e, List.mem_append_left _ h1, h2⟩
theorem runK_pre : ∀ k, ∃ t, runK st i es k = es ++ t
  | 0 => ⟨[], by rw [List.append_nil]; rfl⟩
  | k + 1 => by
    obtain ⟨t, h⟩ := runK_pre k
    unfold runK
    split
    · exact ⟨t, h⟩
    · exact ⟨t ++ [(thenM (entF es i) (st.getD k []), entR es i ++ [k])], by rw [h, List.append_assoc]⟩
theorem runK_len (k : Nat) : es.length ≤ (runK st i es k).length := by
  obtain ⟨t, h⟩ := runK_pre (st := st) (i := i) (es := es) k
  rw [h, List.length_append]
  omega
theorem getD_pre {t : List Ent} {j : Nat} (h : j < es.length) : (es ++ t).getD j ([], []) = es.getD j ([], []) := by
  rw [List.getD_eq_getElem?_getD, List.getD_eq_getElem?_getD, List.getElem?_append_left h]
theorem entF_pre {t : List Ent} {j : Nat} (h : j < es.length) : entF (es ++ t) j = entF es j := by unfold entF; rw [getD_pre h]
theorem entR_pre {t : List Ent} {j : Nat} (h : j < es.length) : entR (es ++ t) j = entR es j := by unfold entR; rw [getD_pre h]
theorem ent_at {j : Nat} (h : j < es.length) : es[j]? = some (entF es j, entR es j) := by
  unfold entF entR
  rw [List.getD_eq_getElem?_getD, List.getElem?_eq_getElem h]
  rfl
theorem runB_pre {i j : Nat} (h : i ≤ j) : ∃ t, runB st n j = runB st n i ++ t := by
  induction j with
  | zero =>
    obtain rfl : i = 0 := by omega
    exact ⟨[], by rw [List.append_nil]⟩
  | succ j ih =>
    rcases Nat.lt_or_ge i (j + 1) with q | q
    · obtain ⟨t, h1⟩ := ih (by omega)
      obtain ⟨u, h2⟩ := runK_pre (st := st) (i := j) (es := runB st n j) st.length
      exact ⟨t ++ u, by show runK st j (runB st n j) st.length = _; rw [h2, h1, List.append_assoc]⟩
    · obtain rfl : i = j + 1 := by omega
      exact ⟨[], by rw [List.append_nil]⟩
theorem runB_len {i j : Nat} (h : i ≤ j) : (runB st n i).length ≤ (runB st n j).length := by
  obtain ⟨t, q⟩ := runB_pre (st := st) (n := n) h
  rw [q, List.length_append]
  omega
theorem runK_nodup (h : (es.map (·.1)).Nodup) : ∀ k, ((runK st i es k).map (·.1)).Nodup
  | 0 => h
  | k + 1 => by
    have ih := runK_nodup h k
    unfold runK
    split
    · exact ih
    · rename_i q
      rw [List.map_append, List.nodup_append]
      refine ⟨ih, by simp, fun a ha b hb e => q ?_⟩
      subst e
      simp only [List.map_cons, List.map_nil, List.mem_singleton] at hb
      obtain ⟨x, hx, hx2⟩ := List.mem_map.mp ha
      exact hasK_iff.mpr ⟨x, hx, hx2.trans hb⟩
theorem runB_nodup : ∀ i, ((runB st n i).map (·.1)).Nodup
  | 0 => by simp [runB]
  | i + 1 => runK_nodup (runB_nodup i) _
theorem runK_has : ∀ {k j : Nat}, j < k → hasK (runK st i es k) (thenM (entF es i) (st.getD j [])) = true
  | k + 1, j, h => by
    by_cases e : j = k
    · subst e
      unfold runK
      split
      · assumption
      · exact hasK_iff.mpr ⟨_, List.mem_append_right _ (List.mem_singleton.mpr rfl), rfl⟩
    · have ih := runK_has (show j < k by omega)
      unfold runK
      split
      · exact ih
      · exact hasK_app ih
end
/-- the maps of the kinds -/
def kindMaps (m : List (List Nat)) : List (List Nat) := (List.range (kindsM m)).map fun k => mapBy m [k]
def GoodE (m : List (List Nat)) (e : Ent) : Prop := (∀ k ∈ e.2, k < kindsM m) ∧ e.1 = mapBy m e.2
section
variable {m : List (List Nat)} {es : List Ent} {i k : Nat}
theorem kindMaps_len : (kindMaps m).length = kindsM m := by unfold kindMaps; rw [List.length_map, List.length_range]
theorem kindMaps_at (h : k < kindsM m) : (kindMaps m).getD k [] = mapBy m [k] := by
  unfold kindMaps
  rw [List.getD_eq_getElem?_getD, List.getElem?_map, List.getElem?_eq_getElem (by rw [List.length_range]; exact h), List.getElem_range]
  rfl
theorem good_at (h : ∀ e ∈ es, GoodE m e) (hi : i < es.length) : GoodE m (entF es i, entR es i) := h _ (List.mem_of_getElem? (ent_at hi))
theorem runK_good (hm : VM m) (hi : i < es.length) (h : ∀ e ∈ es, GoodE m e) : ∀ k, k ≤ kindsM m → ∀ e ∈ runK (kindMaps m) i es k, GoodE m e
  | 0, _ => h
  | k + 1, hk => by
    have ih := runK_good hm hi h k (by omega)
    unfold runK
    split
    · exact ih
    · intro e he
      rcases List.mem_append.mp he with he | he
      · exact ih e he
      · obtain rfl := List.mem_singleton.mp he
        obtain ⟨g1, g2⟩ := good_at h hi
        refine ⟨fun x hx => ?_, ?_⟩
        · rcases List.mem_append.mp hx with hx | hx
          · exact g1 x hx
          · obtain rfl := List.mem_singleton.mp hx
            omega
        · show thenM (entF es i) ((kindMaps m).getD k []) = mapBy m (entR es i ++ [k])
          rw [kindMaps_at (by omega), map_app hm g1]
          exact congrArg (fun z => thenM z (mapBy m [k])) g2
abbrev allM (m : List (List Nat)) (i : Nat) : List Ent := runB (kindMaps m) m.length i
/-- each of the first i was there when it was gone through -/
def Goes (m : List (List Nat)) (i : Nat) : Prop := ∀ j, j < i → j < (allM m j).length
theorem Goes.le {i : Nat} (h : Goes m i) : i ≤ (allM m i).length := by
  cases i with
  | zero => exact Nat.zero_le _
  | succ j =>
    have h1 := h j (by omega)
    have h2 := runB_len (st := kindMaps m) (n := m.length) (show j ≤ j + 1 by omega)
    show j + 1 ≤ (runB (kindMaps m) m.length (j + 1)).length
    exact Nat.lt_of_lt_of_le h1 h2
theorem Goes.mono {i j : Nat} (h : Goes m i) (hj : j ≤ i) : Goes m j := fun a ha => h a (by omega)
theorem allM_good (hm : VM m) : ∀ i, Goes m i → ∀ e ∈ allM m i, GoodE m e
  | 0, _ => fun e he => by
    obtain rfl := List.mem_singleton.mp he
    exact ⟨fun k hk => (by simp at hk), map_nil.symm⟩
  | i + 1, h => by
    show ∀ e ∈ runK (kindMaps m) i (allM m i) (kindMaps m).length, GoodE m e
    exact runK_good hm (h i (by omega)) (allM_good hm i (h.mono (by omega))) _ (by rw [kindMaps_len]; omega)
theorem allM_val (hm : VM m) {i : Nat} (h : Goes m i) : ∀ e ∈ allM m i, Val m.length e.1 := fun e he => by
  obtain ⟨g1, g2⟩ := allM_good hm i h e he
  rw [g2]
  exact hm.map g1
theorem allM_closed {i j k : Nat} (h : Goes m i) (hj : j < i) (hk : k < kindsM m) : hasK (allM m i) (thenM (entF (allM m i) j) (mapBy m [k])) = true := by
  obtain ⟨t, e⟩ := runB_pre (st := kindMaps m) (n := m.length) (show j + 1 ≤ i from hj)
  obtain ⟨u, e2⟩ := runB_pre (st := kindMaps m) (n := m.length) (show j ≤ i by omega)
  have h1 := runK_has (st := kindMaps m) (i := j) (es := allM m j) (k := (kindMaps m).length) (j := k) (by rw [kindMaps_len]; exact hk)
  have h2 : entF (allM m i) j = entF (allM m j) j := by
    show entF (runB _ _ i) j = _
    rw [e2, entF_pre (h j hj)]
  rw [h2]
  show hasK (runB _ _ i) _ = true
  rw [e]
  refine hasK_app ?_
  rw [kindMaps_at hk] at h1
  exact h1
/-- all maps are found -/
structure Stop (m : List (List Nat)) (j : Nat) : Prop where
  goes : Goes m j
  all : (allM m j).length ≤ j
theorem Stop.len {j : Nat} (h : Stop m j) : (allM m j).length = j := Nat.le_antisymm h.all h.goes.le
theorem Stop.uniq {i j : Nat} (h : Stop m i) (h' : Stop m j) : i = j := by
  rcases Nat.lt_trichotomy i j with q | q | q
  · have := h'.goes i q
    have := h.all
    omega
  · exact q
  · have := h.goes j q
    have := h'.all
    omega
theorem Stop.has (hm : VM m) {j : Nat} (h : Stop m j) : ∀ {row : List Nat}, (∀ k ∈ row, k < kindsM m) → hasK (allM m j) (mapBy m row) = true := by
  intro row
  induction hl : row.length generalizing row with
  | zero =>
    intro _
    obtain rfl := List.eq_nil_of_length_eq_zero hl
    rw [map_nil]
    obtain ⟨t, e⟩ := runB_pre (st := kindMaps m) (n := m.length) (Nat.zero_le j)
    show hasK (runB _ _ j) _ = true
    rw [e]
    exact hasK_app (hasK_iff.mpr ⟨_, List.mem_singleton.mpr rfl, rfl⟩)
  | succ n ih =>
    intro hk
    have hne : row ≠ [] := fun e => by rw [e] at hl; cases hl
    obtain ⟨r, k, rfl⟩ : ∃ r k, row = r ++ [k] := ⟨row.dropLast, row.getLast hne, (List.dropLast_concat_getLast hne).symm⟩
    have hr : ∀ x ∈ r, x < kindsM m := fun x hx => hk x (List.mem_append_left _ hx)
    have hkk : k < kindsM m := hk k (by simp)
    have := ih (row := r) (by simpa using hl) hr
    obtain ⟨e, he, e1⟩ := hasK_iff.mp this
    obtain ⟨p, hp⟩ := List.getElem?_of_mem he
    have hpl : p < (allM m j).length := (List.getElem?_eq_some_iff.mp hp).1
    have := allM_closed h.goes (j := p) (k := k) (by rw [← h.len]; exact hpl) hkk
    have e2 := ent_at hpl
    rw [hp] at e2
    have e3 : e.1 = entF (allM m j) p := congrArg Prod.fst (Option.some.inj e2)
    rw [map_app hm hr, ← e1, e3]
    exact this
end
/-! ### how many -/
def code (L : Nat) (f : List Nat) : Nat := f.foldl (fun a x => a * L + x) 0
theorem code_app {L : Nat} {f : List Nat} {x : Nat} : code L (f ++ [x]) = code L f * L + x := by unfold code; rw [List.foldl_append]; rfl
theorem code_lt {L : Nat} : ∀ (n : Nat) (f : List Nat), f.length = n → (∀ x ∈ f, x < L) → code L f < L ^ n
  | 0, f, h, _ => by
    obtain rfl := List.eq_nil_of_length_eq_zero h
    exact Nat.one_pos
  | n + 1, f, h, hx => by
    have hne : f ≠ [] := fun e => by rw [e] at h; cases h
    obtain ⟨r, k, rfl⟩ : ∃ r k, f = r ++ [k] := ⟨f.dropLast, f.getLast hne, (List.dropLast_concat_getLast hne).symm⟩
    have ih := code_lt n r (by simpa using h) fun x hr => hx x (List.mem_append_left _ hr)
    have hk := hx k (by simp)
    rw [code_app, Nat.pow_succ]
    calc code L r * L + k < code L r * L + L := by omega
      _ = (code L r + 1) * L := by rw [Nat.succ_mul]
      _ ≤ L ^ n * L := Nat.mul_le_mul_right _ ih
theorem code_inj {L : Nat} : ∀ (n : Nat) (f g : List Nat), f.length = n → g.length = n → (∀ x ∈ f, x < L) → (∀ x ∈ g, x < L) → code L f = code L g → f = g
  | 0, f, g, h, h', _, _, _ => by rw [List.eq_nil_of_length_eq_zero h, List.eq_nil_of_length_eq_zero h']
  | n + 1, f, g, h, h', hx, hx', e => by
    have hne : f ≠ [] := fun e => by rw [e] at h; cases h
    have hne' : g ≠ [] := fun e => by rw [e] at h'; cases h'
    obtain ⟨r, k, rfl⟩ : ∃ r k, f = r ++ [k] := ⟨f.dropLast, f.getLast hne, (List.dropLast_concat_getLast hne).symm⟩
    obtain ⟨r', k', rfl⟩ : ∃ r k, g = r ++ [k] := ⟨g.dropLast, g.getLast hne', (List.dropLast_concat_getLast hne').symm⟩
    rw [code_app, code_app] at e
    have hk := hx k (by simp)
    have hk' := hx' k' (by simp)
    have e1 : code L r = code L r' := by
      have h1 : (code L r * L + k) / L = code L r := by rw [Nat.mul_comm, Nat.mul_add_div (by omega), Nat.div_eq_of_lt hk]; rfl
      have h2 : (code L r' * L + k') / L = code L r' := by rw [Nat.mul_comm, Nat.mul_add_div (by omega), Nat.div_eq_of_lt hk']; rfl
      rw [← h1, ← h2, e]
    have e2 : k = k' := by rw [e1] at e; omega
    rw [code_inj n r r' (by simpa using h) (by simpa using h') (fun x hr => hx x (List.mem_append_left _ hr)) (fun x hr => hx' x (List.mem_append_left _ hr)) e1, e2]
theorem nodup_le {α : Type} [DecidableEq α] {a b : List α} (ha : a.Nodup) (h : ∀ x ∈ a, x ∈ b) : a.length ≤ b.length := by
  rcases Nat.lt_or_ge b.length a.length with q | q
  · obtain ⟨i, j, hij, hj, e⟩ := pigeon b.length (fun i => if hi : i < a.length then b.idxOf a[i] else 0) (fun i hi => by
      show (if hi : i < a.length then b.idxOf a[i] else 0) < b.length
      rw [dif_pos (by omega)]
      exact List.idxOf_lt_length_iff.mpr (h _ (List.getElem_mem _)))
    have hi : i < a.length := by omega
    have hj : j < a.length := by omega
    have e' : b.idxOf a[i] = b.idxOf a[j] := by
      have := e
      simp only [dif_pos hi, dif_pos hj] at this
      exact this
    have m1 : a[i] ∈ b := h _ (List.getElem_mem _)
    have m2 : a[j] ∈ b := h _ (List.getElem_mem _)
    have z1 : b[b.idxOf a[i]]'(List.idxOf_lt_length_iff.mpr m1) = a[i] := List.getElem_idxOf _
    have z2 : b[b.idxOf a[j]]'(List.idxOf_lt_length_iff.mpr m2) = a[j] := List.getElem_idxOf _
    have z3 : a[i] = a[j] := by rw [← z1, ← z2]; congr 1
    exact absurd ((List.getElem_inj ha).mp z3) (by omega)
  · exact q
theorem val_count {L : Nat} {fs : List (List Nat)} (hn : fs.Nodup) (hv : ∀ f ∈ fs, Val L f) : fs.length ≤ L ^ L := by
  have h1 : (fs.map (code L)).Nodup := by
    rw [List.nodup_iff_pairwise_ne] at hn ⊢
    rw [List.pairwise_map]
    exact hn.imp_of_mem fun {a b} ha hb hab e => hab (code_inj L a b (hv a ha).len (hv b hb).len (hv a ha).lt (hv b hb).lt e)
  have h2 := nodup_le (b := List.range (L ^ L)) h1 fun x hx => by
    obtain ⟨f, hf, rfl⟩ := List.mem_map.mp hx
    exact List.mem_range.mpr (code_lt L f (hv f hf).len (hv f hf).lt)
  rw [List.length_map, List.length_range] at h2
  exact h2
theorem allM_most {m : List (List Nat)} (hm : VM m) {i : Nat} (h : Goes m i) : (allM m i).length ≤ m.length ^ m.length := by
  have := val_count (L := m.length) (runB_nodup (st := kindMaps m) (n := m.length) i) fun f hf => by
    obtain ⟨e, he, rfl⟩ := List.mem_map.mp hf
    exact allM_val hm h e he
  rw [List.length_map] at this
  exact this
/-- there is an end -/
theorem stop_ex {m : List (List Nat)} (hm : VM m) : ∃ j, Stop m j := by
  have key : ∀ i, (allM m i).length ≤ i → ∃ j, Stop m j := fun i hi => by
    obtain ⟨j, h1, h2⟩ := least_of (P := fun j => (allM m j).length ≤ j) i hi
    exact ⟨j, fun i hi => Nat.lt_of_not_le (h2 i hi), h1⟩
  by_cases g : Goes m (m.length ^ m.length)
  · exact key _ (allM_most hm g)
  · unfold Goes at g
    obtain ⟨i, hi⟩ := Classical.not_forall.mp g
    obtain ⟨_, h2⟩ := Classical.not_imp.mp hi
    exact key i (Nat.le_of_not_lt h2)
/-- more than so many come -/
structure Over (m : List (List Nat)) (most j : Nat) : Prop where
  goes : Goes m j
  few : ∀ i, i < j → (allM m i).length ≤ most
  many : most < (allM m j).length
theorem no_over {m : List (List Nat)} (hm : VM m) {most : Nat} (h : m.length ^ m.length ≤ most) (j : Nat) : ¬ Over m most j := fun o => by
  have := allM_most hm o.goes
  have := o.many
  omega
end RM
/-! loops that change a dict of maps -/
namespace RM
open PySem PySem.Spec L2 LamX
open PyProof.Rows hiding St
/-! ### lists of tracked tuples -/
def AllT : List (List Nat) → List V → Hp → Prop
  | [], [], _ => True
  | l :: ls, v :: vs, H => tP l v H ∧ AllT ls vs H
  | _, _, _ => False
section
variable {T : List (Addr × Str)} {S : List Addr} {H H1 : Hp} {K : PySem.W.Frag}
theorem Le.tP {l : List Nat} {v : V} (e : Le T S H H1) (hS : NoTup H S) (h : RM.tP l v H) : RM.tP l v H1 := by
  obtain ⟨b, rfl, h2⟩ := h
  exact ⟨b, rfl, e.ext b _ h2 (fun z => (hS b z).1 _ h2) fun ps z => by cases z⟩
theorem Le.allT (e : Le T S H H1) (hS : NoTup H S) : ∀ {ls : List (List Nat)} {vs : List V}, AllT ls vs H → AllT ls vs H1
  | [], [], _ => trivial
  | l :: ls, v :: vs, ⟨h1, h2⟩ => ⟨e.tP hS h1, e.allT hS h2⟩
  | [], _ :: _, h => h.elim
  | _ :: _, [], h => h.elim
theorem AllT.len : ∀ {ls : List (List Nat)} {vs : List V}, AllT ls vs H → vs.length = ls.length
  | [], [], _ => rfl
  | l :: ls, v :: vs, ⟨_, h2⟩ => congrArg Nat.succ h2.len
  | [], _ :: _, h => h.elim
  | _ :: _, [], h => h.elim
theorem AllT.get : ∀ {ls : List (List Nat)} {vs : List V} {i : Nat} {v : V}, AllT ls vs H → vs[i]? = some v → ∃ l, ls[i]? = some l ∧ RM.tP l v H
  | [], [], _, _, _, e => by simp at e
  | l :: ls, v :: vs, 0, _, ⟨h1, _⟩, e => by simp at e; subst e; exact ⟨l, rfl, h1⟩
  | l :: ls, v :: vs, i + 1, _, ⟨_, h2⟩, e => by
    obtain ⟨l', q⟩ := AllT.get (i := i) h2 (by simpa using e)
    exact ⟨l', by simpa using q⟩
  | [], _ :: _, _, _, h, _ => h.elim
  | _ :: _, [], _, _, h, _ => h.elim
theorem AllT.snoc {l : List Nat} {v : V} : ∀ {ls : List (List Nat)} {vs : List V}, AllT ls vs H → RM.tP l v H → AllT (ls ++ [l]) (vs ++ [v]) H
  | [], [], _, h => ⟨h, trivial⟩
  | _ :: _, _ :: _, ⟨h1, h2⟩, h => ⟨h1, h2.snoc h⟩
  | [], _ :: _, h, _ => h.elim
  | _ :: _, [], h, _ => h.elim
theorem AllT.dpa : ∀ {ls : List (List Nat)} {vs : List V}, AllT ls vs H → DpAll K H vs (ls.map nsD)
  | [], [], _ => .nil
  | _ :: _, _ :: _, ⟨h1, h2⟩ => .cons (tP_dp h1) h2.dpa
  | [], _ :: _, h => h.elim
  | _ :: _, [], h => h.elim
/-- a list of maps, each a tracked tuple -/
def LineT (H : Hp) (a : Addr) (ls : List (List Nat)) : Prop := ∃ vs, H a = some (.lst vs) ∧ AllT ls vs H
theorem LineT.to {a : Addr} {ls : List (List Nat)} (h : LineT H a ls) (e : Le T S H H1) (hS : NoTup H S) (ha : a ∉ S) : LineT H1 a ls := by
  obtain ⟨vs, h1, h2⟩ := h
  exact ⟨vs, e.lst h1 ha, e.allT hS h2⟩
theorem LineT.dp {a : Addr} {ls : List (List Nat)} (h : LineT H a ls) : Dp K H (.ref a) (.list (ls.map nsD)) := by
  obtain ⟨vs, h1, h2⟩ := h
  exact dp_lst h1 h2.dpa
theorem noTup_nil : NoTup H [] := fun s hs => by simp at hs
theorem LineT.up {a : Addr} {ls : List (List Nat)} (h : LineT H a ls) (e : Le T [] H H1) : LineT H1 a ls := h.to e noTup_nil (by simp)
theorem noSeq_dT {t : Addr} {kvs : List (List Key × V)} (h : H t = some (.dT kvs)) : NoSeq H [t] := fun s hs => by
  obtain rfl : s = t := by simpa using hs
  rw [h]
  exact ⟨fun ys z => (nomatch z), fun ys z => (nomatch z), fun o u z => (nomatch z)⟩
theorem DTat.noSeq {t : Addr} {es : List (List Nat × PyData)} (h : DTat K H t es) : NoSeq H [t] := by
  obtain ⟨vs, h1, _⟩ := h
  exact noSeq_dT h1
theorem DTat.noTup {t : Addr} {es : List (List Nat × PyData)} (h : DTat K H t es) : NoTup H [t] := h.noSeq.noTup
theorem noTup_app {S' : List Addr} (h : NoTup H S) (h' : NoTup H S') : NoTup H (S ++ S') := fun s hs => (List.mem_append.mp hs).elim (h s) (h' s)
theorem LineT.noTup {a : Addr} {ls : List (List Nat)} (h : LineT H a ls) : NoTup H [a] := by
  obtain ⟨vs, h1, _⟩ := h
  exact noTup_lst h1
/-- a dict of maps whose rows hold no lists stays, where S is changed -/
theorem DTat.to {t : Addr} {es : List (List Nat × PyData)} (h : DTat K H t es) (e : Le T S H H1) (hS : NoTup H S) (ht : t ∉ S) (hn : noLs (es.map (·.2)) = true) : DTat K H1 t es := by
  obtain ⟨vs, h1, h2⟩ := h
  exact ⟨vs, e.at h1 ht (fun _ z => nomatch z), e.dpTs hS hn h2⟩
end
/-- keys and rows -/
def toE (es : List Ent) : List (List Nat × PyData) := es.map fun e => (e.1, nsD e.2)
theorem toE_noL {es : List Ent} : noLs ((toE es).map (·.2)) = true := by
  unfold toE
  induction es with
  | nil => rfl
  | cons e es ih =>
    simp only [List.map_cons, noLs, Bool.and_eq_true]
    refine ⟨?_, ih⟩
    unfold nsD
    simp only [noL]
    induction e.2 with
    | nil => rfl
    | cons a r ih => simp [noLs, noL, ih]
theorem toE_app {a b : List Ent} : toE (a ++ b) = toE a ++ toE b := List.map_append
theorem look_none {es : List Ent} {f : List Nat} (h : hasK es f = false) : look (toE es) f = none := by
  unfold look
  rw [Option.map_eq_none_iff, List.find?_eq_none]
  intro x hx
  unfold toE at hx
  obtain ⟨e, he, rfl⟩ := List.mem_map.mp hx
  intro q
  have := hasK_iff.mpr ⟨e, he, of_decide_eq_true q⟩
  rw [h] at this
  cases this
theorem look_some {es : List Ent} (hn : (es.map (·.1)).Nodup) {i : Nat} (hi : i < es.length) : look (toE es) (entF es i) = some (nsD (entR es i)) := by
  induction es generalizing i with
  | nil => simp at hi
  | cons e es ih =>
    rw [List.map_cons, List.nodup_cons] at hn
    cases i with
    | zero => simp [look, toE, entF, entR]
    | succ i =>
      have hi' : i < es.length := by simpa using hi
      have h1 : entF (e :: es) (i + 1) = entF es i := by simp [entF]
      have h2 : entR (e :: es) (i + 1) = entR es i := by simp [entR]
      rw [h1, h2, ← ih hn.2 hi']
      have ne : ¬ e.1 = entF es i := fun z => hn.1 (by
        rw [z]
        exact List.mem_map.mpr ⟨_, List.mem_of_getElem? (ent_at hi'), rfl⟩)
      simp [look, toE, List.find?_cons, ne]
theorem look_dec {es : List Ent} {f : List Nat} : decide (look (toE es) f = none) = !hasK es f := by
  cases q : hasK es f with
  | false => rw [look_none q]; rfl
  | true =>
    rw [Bool.not_true, decide_eq_false_iff_not]
    intro z
    unfold look at z
    rw [Option.map_eq_none_iff, List.find?_eq_none] at z
    obtain ⟨e, he, e1⟩ := hasK_iff.mp q
    exact z _ (List.mem_map.mpr ⟨e, he, rfl⟩) (decide_eq_true e1)
theorem look_isSome {es : List Ent} {f : List Nat} : (look (toE es) f).isSome = hasK es f := by
  have h := look_dec (es := es) (f := f)
  cases q : look (toE es) f with
  | none => rw [q] at h; simpa using h.symm
  | some r => rw [q] at h; simpa using h.symm
section
variable {X : Cx} {T : List (Addr × Str)} {e a b c : Expr} {es : List Expr} {st : Stmt} {sts rest : List Stmt} {σ : St} {H H1 : Hp} {pos p p2 p' : Pos} {R R' : VP} {d d' d0 : PyData} {ds : List PyData} {D : Ends} {k : Nat} {E : XK} {body : List Stmt} {l : List Nat}
/-- (*e, c) -/
theorem ed_starT {x1 : _} {b : Bool} (he : Ed X T e σ H (seqD b ds)) (hc : Ed X T c σ H d) (hl : ds.length < 100000) (hs : starEach [.Starred e p, c] X.env = (true, eval e X.env) :: starEach [c] X.env := by rfl) (hs2 : starEach [c] X.env = (false, eval c X.env) :: starEach [] X.env := by rfl) : Ed X T (.Tuple [.Starred e p, c] x1 pos) σ H (.tuple (ds ++ [d])) := fun H1 l Q q => by
  refine pe_we (pe_tup (StX.pa_star we_pe (pa_cons we_pe pa_nil hs2) hs)) ?_
  refine he H1 l _ fun v H2 l2 r => ?_
  obtain ⟨a, xs, rfl, s, rr⟩ := dp_seq_of r
  refine ⟨a, xs, rfl, s.symm, hc H2 (l.trans l2) _ fun u H3 l3 r3 => ⟨?_, fun p hp => q _ _ ((l2.trans l3).add hp) (dp_tup upd_same ((Le.new (T := T) hp).dpAll (dpa_snoc (l3.dpAll rr) r3)))⟩⟩
  rw [List.length_append, dpa_len rr, sizeLine_eq]
  simp
  omega
/-- d[k] = e, k new -/
theorem s_putT {es : List (List Nat × PyData)} {ad : Addr} {ps : Pos} (hu : X.A.units + 1 < cLine) (he : Ed X T e σ H d) (ha : Er X T a σ H (eqP (.ref ad))) (hb : Er X T b σ H (tP l)) (hd : DTat X.K H ad es) (hl : look es l = none) (hz : es.length < 100000)
    (h : ∀ H1, Le T [ad] H H1 → DTat X.K H1 ad (es ++ [(l, d)]) → D.nx σ H1) (hsw : swapsWith e (some (.Subscript a b ps)) pos.line X.env = pure false := by rfl) : WpS X (.Assign [.Subscript a b ps] e pos) D σ H := by
  refine ps_we (ps_dput hu we_pe we_pe we_pe hsw) ?_
  refine he.run fun v H1 l1 r1 => ha H1 l1 _ fun u H2 l2 e2 => hb H2 (l1.trans l2) _ fun w H3 l3 r3 => ?_
  subst e2
  obtain ⟨bb, rfl, hbb⟩ := r3
  have l13 := l1.trans (l2.trans l3)
  obtain ⟨vs, d1, d2⟩ := hd.up l13
  have hlen : vs.length = es.length := by rw [dpa_len d2, List.length_map]
  refine ⟨ad, _, rfl, DPut.t (k := keyN l) d1 (by rw [keyN_kV]; exact hbb) (by unfold zipT; rw [List.length_map, List.length_zip, hlen, sizeLine_eq]; omega), ?_⟩
  have lw : Le T [ad] H3 (upd H3 ad (.dT (putK (zipT es vs) (keyN l) v))) := Le.refl.put d1 (.inl (by simp)) (fun ps z => by cases z) fun c q z => by unfold CodeO at z; cases z
  refine h _ (l13.up.trans lw) ⟨vs ++ [v], ?_, ?_⟩
  · rw [zip_put (r := d) hlen ((zip_look d2 l).1 hl)]
    exact upd_same
  · rw [List.map_append]
    exact dpa_snoc (lw.dpAS (noSeq_dT d1) d2) (lw.dpS (noSeq_dT d1) ((l2.trans l3).dp r1))
theorem wa_mono {es : List Expr} {Q Q' : List V → Hp → Prop} (hq : ∀ vs H1, Q vs H1 → Q' vs H1) (h : WpA X es σ H Q) : WpA X es σ H Q' := fun pos pins s I => thn (h pos pins s I) fun u s' ⟨v, H', I', r, q⟩ => ⟨v, H', I', r, hq _ _ q⟩
/-- targets told one by one -/
theorem s_asgT {es : List Expr} {ts : List Expr} {kt k2 : _} {pt pt2 : Pos} {n : Nat} {g : TGs} (B : Bd X k E) (hg : PGs X ts g) (h : WpA X es σ H fun vs H1 => vs.length = n ∧ n ≤ 1000 ∧ ∀ p, H1 p = none → g vs σ (upd H1 p (.tup vs)) D.nx)
    (hn : (assignEach ts X.env).length = n := by rfl) (hst : (assignEach ts X.env).findIdx? (·.1) = none := by rfl)
    (hs : swapsWithSole [.Tuple ts kt pt] (.Tuple es k2 pt2) pos.line X.env = pure false := by rfl) (hw : swappedStores [.Tuple ts kt pt] (.Tuple es k2 pt2) X.env = pure none := by rfl)
    (h1 : (assignEach [.Tuple ts kt pt] X.env).map (·.2) = [assign (.Tuple ts kt pt) X.env] := by rfl) : WpS X (.Assign [.Tuple ts kt pt] (.Tuple es k2 pt2) pos) D σ H := by
  refine ps_we (ps_asg (pe_tup we_pa) (pg_tup B.calm hg hn hst) hs hw h1) ?_
  show WpA X es σ H _
  exact wa_mono (fun vs H1 ⟨z1, z2, z3⟩ => ⟨by rw [z1, sizeLine_eq]; omega, fun p hp => ⟨p, vs, rfl, SqT.of upd_same, z1, z3 p hp⟩⟩) h
end
end RM
namespace RM
open PySem PySem.Spec L2 LamX
open PyProof.Rows hiding St
theorem AllT.at {H : Hp} {ls : List (List Nat)} {vs : List V} (h : AllT ls vs H) {i : Nat} {l : List Nat} (e : ls[i]? = some l) : ∃ v, vs[i]? = some v ∧ tP l v H := by
  have hi : i < vs.length := by rw [h.len]; exact (List.getElem?_eq_some_iff.mp e).1
  obtain ⟨l', q1, q2⟩ := h.get (List.getElem?_eq_getElem hi)
  rw [e] at q1
  cases q1
  exact ⟨_, List.getElem?_eq_getElem hi, q2⟩
section
variable {X : Cx} {T : List (Addr × Str)} {e a b c : Expr} {es : List Expr} {st : Stmt} {sts rest : List Stmt} {σ : St} {H H1 : Hp} {pos p p2 p' : Pos} {R R' : VP} {d d' d0 : PyData} {ds : List PyData} {D : Ends} {k : Nat} {E : XK} {body : List Stmt} {l : List Nat}
/-- for i, x in enumerate(e), whatever the body changes but the list -/
theorem s_forE0 {j1 j2 : Nat} {x1 x2 : Str} {e : Expr} {p1 p2 pt : Pos} {kk : Nat} (B : Bd X k E) (hm : X.mg "enumerate" = none)
    (h : WpE X e σ H fun v H1 => ∃ a xs, v = .ref a ∧ SqS X.K H1 a xs ∧ ∃ I : Nat → St → Hp → Prop, I 0 σ H1 ∧ (∀ i σ' H', I i σ' H' → (SqL X.K H1 a xs → SqL X.K H' a xs) ∧ (SqT X.K H1 a xs → SqT X.K H' a xs)) ∧ (∀ i u σ' H', xs[i]? = some u → I i σ' H' → ∀ H2, Le T [] H' H2 → WpSs X body { D with nx := I (i + 1), ct := I (i + 1), bk := D.nx } ((σ'.set j1 (some (.int i))).set j2 (some u)) H2) ∧ ∀ σ' H', I xs.length σ' H' → D.nx σ' H')
    (hj1 : X.N[j1]? = some x1 := by rfl) (hj2 : X.N[j2]? = some x2 := by rfl) (hx1 : Loc X.env.scope x1 := by first | exact .inl rfl | exact .inr rfl) (hx2 : Loc X.env.scope x2 := by first | exact .inl rfl | exact .inr rfl)
    (hg : Gl X "enumerate" := by rfl) (he : starEach [e] X.env = (false, eval e X.env) :: starEach [] X.env := by rfl) (hf : ∀ y, foldedSetIterable (.Call (.Name "enumerate" p) [e] [] p') X.env y = pure y := by intro _; rfl)
    (ha1 : (assignEach [.Name x1 p1, .Name x2 p2] X.env).map (·.2) = assign (.Name x1 p1) X.env :: (assignEach [.Name x2 p2] X.env).map (·.2) := by rfl) (ha2 : (assignEach [.Name x2 p2] X.env).map (·.2) = assign (.Name x2 p2) X.env :: (assignEach [] X.env).map (·.2) := by rfl)
    (hn : (assignEach [.Name x1 p1, .Name x2 p2] X.env).length = 2 := by rfl) (hst : (assignEach [.Name x1 p1, .Name x2 p2] X.env).findIdx? (·.1) = none := by rfl) :
    WpS X (.For (.Tuple [.Name x1 p1, .Name x2 p2] kk pt) (.Call (.Name "enumerate" p) [e] [] p') body [] pos) D σ H := by
  refine ps_we (ps_for B.own B.calm (pi_enumS hg hm (pa_cons we_pe pa_nil he) he) (pg_tup B.calm (pgs_cons (pg_name B.nd hj1 hx1 (.inl (B.fn x1))) (pgs_cons (pg_name B.nd hj2 hx2 (.inl (B.fn x2))) pgs_nil ha2) ha1) hn hst) we_pss hf) ?_
  show WpE X e σ H _
  refine we_mono (fun v H1 ⟨a, xs, ev, s, I, h0, hk, hb, hd⟩ => ?_) h
  subst ev
  refine ⟨a, rfl, for_enumS s I h0 (fun i σ' H' _ q => hk i σ' H' q) (fun i u q σ' H' hu hq qq => ?_) hd⟩
  exact ⟨q, [.int i, u], rfl, SqT.of upd_same, rfl, .int i, [u], rfl, u, [], rfl, rfl, hb i u σ' H' hu qq _ (.new hq)⟩
/-- for x in e, whatever the body changes but the list -/
theorem s_forV0 {j : Nat} {x : Str} {iter : Expr} (B : Bd X k E)
    (h : WpE X iter σ H fun v H1 => ∃ a xs, v = .ref a ∧ SqS X.K H1 a xs ∧ ∃ I : Nat → St → Hp → Prop, I 0 σ H1 ∧ (∀ i σ' H', I i σ' H' → (SqL X.K H1 a xs → SqL X.K H' a xs) ∧ (SqT X.K H1 a xs → SqT X.K H' a xs)) ∧ (∀ i u σ' H', xs[i]? = some u → I i σ' H' → WpSs X body { D with nx := I (i + 1), ct := I (i + 1), bk := D.nx } (σ'.set j (some u)) H') ∧ ∀ σ' H', I xs.length σ' H' → D.nx σ' H')
    (hj : X.N[j]? = some x := by rfl) (hx : Loc X.env.scope x := by first | exact .inl rfl | exact .inr rfl) (hf : ∀ y, foldedSetIterable iter X.env y = pure y := by intro _; rfl) : WpS X (.For (.Name x p) iter body [] pos) D σ H := by
  refine ps_we (ps_for B.own B.calm (pi_seq we_pe) (pg_name B.nd hj hx (.inl (B.fn x))) we_pss hf) ?_
  show WpE X iter σ H _
  refine we_mono (fun v H1 ⟨a, xs, ev, s, I, h0, hk, hb, hd⟩ => ?_) h
  exact ⟨a, ev, for_seq s I h0 (fun i σ' H' _ q => hk i σ' H' q) hb hd⟩
/-- x += e, whole numbers -/
theorem s_augI {i : Nat} {x : Str} {n m : Int} (B : Bd X k E) (hs : σ[i]? = some (some (.int n))) (he : Ed X T e σ H (.int m)) (h : ∀ H1, Le T [] H H1 → D.nx (σ.set i (some (.int (n + m)))) H1)
    (hi : X.N[i]? = some x := by rfl) (hx : Loc X.env.scope x := by first | exact .inl rfl | exact .inr rfl) : WpS X (.AugAssign (.Name x p) .Add e pos) D σ H := by
  refine ps_we (ps_aug B.nd hi hx we_pe ip_add (.inl (B.fn x))) ⟨.int n, hs, he.run fun v H1 l r => ?_⟩
  cases r
  exact ⟨n, m, rfl, rfl, h H1 l⟩
/-- l[i] of a list of tracked tuples -/
theorem er_ixT {i : Nat} {ad : Addr} {ls : List (List Nat)} {f : List Nat} (ha : Er X T a σ H (eqP (.ref ad))) (hl : LineT H ad ls) (hb : Ed X T b σ H (.int (i : Nat))) (hi : ls[i]? = some f) (hpl : PlainIx b := by exact fun _ _ => rfl) : Er X T (.Subscript a b pos) σ H (tP f) := fun H1 l Q q => by
  refine pe_we (pe_ix ix_seq we_pe we_pe hpl) ?_
  refine ha H1 l _ fun x H2 l2 rx => hb H2 (l.trans l2) _ fun y H3 l3 ry => ?_
  cases ry
  subst rx
  obtain ⟨vs, h1, h2⟩ := (hl.up l).up (l2.trans l3)
  obtain ⟨v, hv, rv⟩ := h2.at hi
  exact .inl ⟨ad, vs, i, v, rfl, rfl, SqL.of h1, atI_nat hv, q v H3 (l2.trans l3) rv⟩
end
end RM
/-! comprehensions whose elements are told by any reading -/
namespace RM
open PySem PySem.Spec L2 LamX
open PyProof.Rows hiding St
/-- stays where a list is changed -/
def StL (T : List (Addr × Str)) (R : VP) : Prop := ∀ a v H H', (∃ ys, H a = some (HO.lst ys)) → Le T [a] H H' → R v H → R v H'
theorem StL.stab {T : List (Addr × Str)} {R : VP} (h : StL T R) (v : V) (H H' : Hp) (a : Addr) (ha : ∃ ys, H a = some (HO.lst ys)) (l : Le T [] H H') (r : R v H) : R v H' := h a v H H' ha l.up r
theorem stL_tP {T : List (Addr × Str)} {l : List Nat} : StL T (tP l) := fun a v H H' ⟨ys, ha⟩ e h => e.tP (noTup_lst ha) h
theorem stL_d {T : List (Addr × Str)} {K : PySem.W.Frag} {d : PyData} (hn : noL d = true) : StL T (dP K d) := fun a v H H' ⟨ys, ha⟩ e h => e.dpT (noTup_lst ha) hn h
theorem allP_snoc {R : VP} {v : V} {H : Hp} : ∀ {Rs : List VP} {vs : List V}, AllP Rs vs H → R v H → AllP (Rs ++ [R]) (vs ++ [v]) H
  | [], [], _, h => ⟨h, trivial⟩
  | _ :: _, _ :: _, ⟨h1, h2⟩, h => ⟨h1, allP_snoc h2 h⟩
  | [], _ :: _, h, _ => h.elim
  | _ :: _, [], h, _ => h.elim
theorem allP_len {H : Hp} : ∀ {Rs : List VP} {vs : List V}, AllP Rs vs H → vs.length = Rs.length
  | [], [], _ => rfl
  | _ :: _, _ :: _, ⟨_, h2⟩ => congrArg Nat.succ (allP_len h2)
  | [], _ :: _, h => h.elim
  | _ :: _, [], h => h.elim
theorem allP_to {H H' : Hp} : ∀ {Rs : List VP} {vs : List V}, (∀ R ∈ Rs, ∀ v, R v H → R v H') → AllP Rs vs H → AllP Rs vs H'
  | [], [], _, h => h
  | R :: Rs, v :: vs, k, ⟨h1, h2⟩ => ⟨k R List.mem_cons_self v h1, allP_to (fun R' hR => k R' (List.mem_cons_of_mem _ hR)) h2⟩
  | [], _ :: _, _, h => h.elim
  | _ :: _, [], _, h => h.elim
/-- a new list of these -/
def FreshP (H : Hp) (Rs : List VP) : VP := fun v H' => ∃ a xs, v = .ref a ∧ (H a = none ∨ ∃ ps, H a = some (.tbl ps)) ∧ H' a = some (.lst xs) ∧ AllP Rs xs H'
section
variable {X : Cx} {T : List (Addr × Str)} {σ : St} {H : Hp} {pos p p' : Pos}
/-- [elt for x in range(e)], the list new -/
theorem er_lcRG {elt e : Expr} {x : Str} {px : Pos} {scope : Scope} {j : Nat} {n : Nat} {P : Nat → VP} (hc : X.calm = true) (hN : X.N.Nodup) (hm : X.mg "range" = none) (hi : Ed X T e σ H (.int n)) (hz : n ≤ 100000) (hok : blkC X.N X.env.scope scope [(x, j)] = true)
    (hP : ∀ i, i < n → StL T (P i)) (he : ∀ (i : Nat) H1, i < n → Le T [] H H1 → BlkE X T elt scope ((σ.set j none).set j (some (.int i))) H1 (P i))
    (hj : X.N[j]? = some x := by rfl) (hl : (relS scope X.env.scope).names.lookup x = some .local := by rfl) (hg : Gl X "range" := by rfl) (hst : starEach [e] X.env = (false, eval e X.env) :: starEach [] X.env := by rfl) (hf : ∀ y, foldedSetIterable (.Call (.Name "range" p) [e] [] p') X.env y = pure y := by intro _; rfl) :
    Er X T (.ListComp elt [⟨.Name x px, .Call (.Name "range" p) [e] [] p', [], 0⟩] scope pos) σ H (FreshP H ((List.range n).map P)) := fun H1 l Q q => by
  refine pe_we (pe_lc (g := gName j) (tt := tYes) (own := [(x, j)]) (te := blkTe X scope elt) hc hN (pi_range1 hg hm (pa_cons we_pe pa_nil hst) hst) (blkOk_by hok) (fun _ _ _ _ _ => pg_name hN hj (.inl hl) (.inr hl)) (fun _ _ _ _ _ => pts_nil) (fun s H0 C cl fp => ⟨fun pins s1 σ H Q I h => h s H0 C cl fp pins s1 I⟩) hf) ?_
  refine hi H1 l _ fun v H2 l2 r => ?_
  cases r
  refine ⟨n, rfl, by omega, by omega, fun D hD => ?_⟩
  refine lc_range (g := gName j) (tt := tYes) (te := blkTe X scope elt) (σ := σ) (vs := [j]) (n := n) (lo := 0) (fun i H3 => i ≤ n → (∃ ys, H3 D = some (.lst ys) ∧ AllP ((List.range i).map P) ys H3) ∧ Le T [] H2 H3) (fun _ => ⟨⟨[], upd_same, trivial⟩, .new hD⟩) (fun i H3 hi hA => ?_) fun H3 hA => ?_
  · obtain ⟨⟨ys, hy1, hy2⟩, l3⟩ := hA (by omega)
    refine ⟨wipe_back, ?_⟩
    change blkTe X scope elt ((wipe σ [j]).set j (some _)) H3 _
    intro s H0 C cl fp
    rw [Int.zero_add]
    refine he i H3 hi (l.trans (l2.trans l3)) s H0 C cl fp H3 .refl _ fun v H6 l6 rv => ?_
    have hy6 := l6.lst hy1 (by simp)
    have hmem : ∀ R ∈ (List.range i).map P, StL T R := fun R hR => by
      obtain ⟨k, hk, rfl⟩ := List.mem_map.mp hR
      have := List.mem_range.mp hk
      exact hP k (by omega)
    have a6 : AllP ((List.range i).map P) ys H6 := allP_to (fun R hR v r => hmem R hR D v H3 H6 ⟨ys, hy1⟩ l6.up r) hy2
    have lw : Le T [D] H6 (upd H6 D (.lst (ys ++ [v]))) := Le.refl.putL hy6 (.inl (by simp))
    refine ⟨ys, hy6, ?_, fun _ => ⟨⟨_, upd_same, ?_⟩, (l3.trans l6).putL hy6 (.inr hD)⟩⟩
    · rw [allP_len hy2, List.length_map, List.length_range, sizeLine_eq]; omega
    · rw [List.range_succ, List.map_append]
      exact allP_snoc (allP_to (fun R hR v r => hmem R hR D v H6 _ ⟨ys, hy6⟩ lw r) a6) (hP i hi D v H6 _ ⟨ys, hy6⟩ lw rv)
  · obtain ⟨⟨ys, hy1, hy2⟩, l3⟩ := hA (Nat.le_refl _)
    have lf := l.trans (l2.trans l3)
    exact q _ _ (l2.trans l3) ⟨D, ys, rfl, (l.trans l2).free hD, hy1, hy2⟩
end
theorem allP_dp {K : PySem.W.Frag} {H : Hp} {α : Type} {f : α → VP} {g : α → PyData} : ∀ {l : List α} {vs : List V}, (∀ x ∈ l, ∀ v, f x v H → Dp K H v (g x)) → AllP (l.map f) vs H → DpAll K H vs (l.map g)
  | [], [], _, _ => .nil
  | x :: l, v :: vs, k, ⟨h1, h2⟩ => .cons (k x List.mem_cons_self v h1) (allP_dp (fun y hy => k y (List.mem_cons_of_mem _ hy)) h2)
  | [], _ :: _, _, h => h.elim
  | _ :: _, [], _, h => h.elim
end RM
/-! new lists of maps -/
namespace RM
open PySem PySem.Spec L2 LamX
open PyProof.Rows hiding St
theorem Le.fr {T : List (Addr × Str)} {H H' : Hp} {p : Addr} (e : Le T [] H H') (h : H' p = none ∨ ∃ ps, H' p = some (.tbl ps)) : H p = none ∨ ∃ ps, H p = some (.tbl ps) := by
  rcases h with h | ⟨ps, h⟩
  · exact e.free h
  · cases q : H p with
    | none => exact .inl rfl
    | some o =>
      by_cases ht : ∃ ps, o = .tbl ps
      · obtain ⟨ps, rfl⟩ := ht
        exact .inr ⟨ps, rfl⟩
      · have := e.ext p o q (by simp) fun ps z => ht ⟨ps, z⟩
        rw [h] at this
        cases this
        exact absurd ⟨ps, rfl⟩ ht
theorem allT_of {H : Hp} : ∀ {ls : List (List Nat)} {vs : List V}, AllP (ls.map tP) vs H → AllT ls vs H
  | [], [], _ => trivial
  | _ :: _, _ :: _, ⟨h1, h2⟩ => ⟨h1, allT_of h2⟩
  | [], _ :: _, h => h.elim
  | _ :: _, [], h => h.elim
/-- a new list of maps -/
def FreshM (H : Hp) (ls : List (List Nat)) : VP := fun v H' => ∃ a, v = .ref a ∧ (H a = none ∨ ∃ ps, H a = some (.tbl ps)) ∧ LineT H' a ls
theorem freshM_of {H H' : Hp} {ls : List (List Nat)} {v : V} (h : FreshP H (ls.map tP) v H') : FreshM H ls v H' := by
  obtain ⟨a, xs, e, h1, h2, h3⟩ := h
  exact ⟨a, e, h1, xs, h2, allT_of h3⟩
section
variable {X : Cx} {T : List (Addr × Str)} {es : List Expr} {σ : St} {H : Hp} {pos : Pos} {Rs : List VP}
theorem allP_up {H' : Hp} {T : List (Addr × Str)} {Rs : List VP} {vs : List V} (hS : ∀ R ∈ Rs, Stab T R) (l : Le T [] H H') (h : AllP Rs vs H) : AllP Rs vs H' := allP_to (fun R hR v r => hS R hR v H H' l r) h
theorem er_lstP (h : Ea X T es σ H Rs) (hS : ∀ R ∈ Rs, Stab T R) (hl : Rs.length ≤ 100000) : Er X T (.List es pos) σ H (FreshP H Rs) := fun H1 l Q q => by
  refine pe_we (pe_lst we_pa) (h H1 l _ fun vs H2 l2 r => ?_)
  refine ⟨by rw [allP_len r, sizeLine_eq]; omega, fun p hp => q _ _ (l2.add hp) ⟨p, vs, rfl, (l.trans l2).free hp, upd_same, allP_up hS (Le.new (T := T) hp) r⟩⟩
theorem er_lst1 {e : Expr} {f : List Nat} (h : Er X T e σ H (tP f)) (he : starEach [e] X.env = (false, eval e X.env) :: starEach [] X.env := by rfl) : Er X T (.List [e] pos) σ H (FreshM H [f]) :=
  (er_lstP (ea_cons h ea_nil stab_tP he) (fun R hR => by obtain rfl := List.mem_singleton.mp hR; exact stab_tP) (by simp)).imp fun v H' _ r => freshM_of (ls := [f]) r
end
end RM
/-! dicts of maps gone through; tuples once over -/
namespace RM
open PySem PySem.Spec L2 LamX
open PyProof.Rows hiding St
/-! ### a tuple, once over -/
theorem tuple_mul1 (l : Addr) (its : Array Value) (n : Nat) (dd : Option Addr) (sl : Array (Option Value)) (u : Tok) :
    Meets (Builtin.«tuple.__mul__» ⟨[.ref l, .int 1 u], []⟩) (fun _ R s => s.heap.get? l = some { cls := .type "tuple", dict := dd, data := .seq its n, slots := sl } ∧ R (.ok (.ret (Value.ref l))) s) :=
  .of_wp fun prog w A R s h => by
    obtain ⟨hp, g, d, tk, os⟩ := s
    obtain ⟨hl, h⟩ := h
    have f1 := AutoSeq1.idx_int
    wp_walk using AutoSeq1.wpAny_loadPart' hl
    repeat (first
      | (refine wpAny_ite_false (decide_eq_false (by decide)) ?_; wp_walk using AutoSeq1.wpAny_loadPart' hl)
      | (refine wpAny_ite_true (decide_eq_true (by simp)) ?_; wp_walk using AutoSeq1.wpAny_loadPart' hl))
    exact ⟨_, rfl, h⟩
def rRep1 (K : PySem.W.Frag) : R2 := fun x y H Q => ∃ l xs, x = .ref l ∧ y = .int 1 ∧ SqT K H l xs ∧ Q (.ref l) H
theorem op_rep1 {X : Cx} : OpR X (binaryOp .Mult) (rRep1 X.K) := by
  intro pins s σ H x y v u Q I rx ry h
  obtain ⟨l, xs, rfl, rfl, hT, q⟩ := h
  cases rx
  obtain ⟨t, rfl⟩ := ry
  obtain ⟨its, r, ⟨⟨cls, dd, data, sl⟩, ho, hc, n, hd⟩, hs⟩ := I.tuple hT
  simp only at hc hd
  subst hc hd
  refine wpAny_binaryOp_repeat_ref (T := "tuple") (U := "int") (by decide) ⟨_, ho, rfl⟩ (fun s' => typeIs_int s' 1 t) noFill_tuple_mul F.fills_int_mul F.slot_int_rmul repeat_tuple F.slot_int_index.lookup
    (call_meets F.slot_int_rmul (typeIs_int s 1 t) F.entry_int_rmul (F.args_int_rmul_2 _ _) (int_rmul_tuple 1 t l _ n dd sl)
      ⟨ho, rfl, ⟨_, ho, rfl⟩, call_meets F.slot_tuple_mul ⟨_, ho, rfl⟩ F.entry_tuple_mul (F.args_tuple_mul_2 _ _) (tuple_mul1 l _ n dd sl t) ⟨ho, ?_⟩⟩)
  exact ⟨.ref l, H, I, rfl, q⟩
section
variable {X : Cx} {T : List (Addr × Str)} {e a b c : Expr} {es : List Expr} {σ : St} {H H1 : Hp} {pos p p2 p' : Pos} {R R' : VP} {d d' : PyData} {ds : List PyData}
/-- e * k, e a tuple, k at least one -/
theorem ed_rep' {k : Nat} (ha : Ed X T a σ H (.tuple ds)) (hb : Ed X T b σ H (.int (k : Nat))) (hk : 1 ≤ k ∧ k ≤ 1000) (hl : ds.length ≤ 1000) : Ed X T (.BinOp a .Mult b pos) σ H (.tuple (List.replicate k ds).flatten) := by
  by_cases h : k = 1
  · subst h
    refine ed_op2 op_rep1 ha hb fun x y H1 _ rx ry Q q => ?_
    cases ry
    obtain ⟨l, xs, rfl, s, rr⟩ := dp_tup_of rx
    refine ⟨l, xs, rfl, rfl, s, q _ H1 .refl ?_⟩
    have : (List.replicate 1 ds).flatten = ds := by simp
    rw [this]
    exact rx
  · exact ed_rep ha hb (by omega) hl
/-- [..] * k, a list -/
theorem ed_repL {k : Nat} (ha : Er X T a σ H (FreshL X.K H ds)) (hb : Ed X T b σ H (.int (k : Nat))) (hk : ds.length * k ≤ 100000) (hk2 : k < 2 ^ 60) : Ed X T (.BinOp a .Mult b pos) σ H (.list (List.replicate k ds).flatten) := fun H1 l Q q => by
  refine pe_we (pe_op op_rep we_pe we_pe) ?_
  refine ha H1 l _ fun x H2 l2 rx => hb H2 (l.trans l2) _ fun y H3 l3 ry => ?_
  cases ry
  obtain ⟨ad, xs, rfl, _, h1, h2⟩ := rx
  have h1' := l3.lst h1 (by simp)
  have h2' := l3.dpAll h2
  refine ⟨ad, k, xs, rfl, rfl, h1', by omega, by omega, by rw [Int.toNat_natCast, dpa_len h2, sizeLine_eq]; omega, fun p hp => q _ _ ((l2.trans l3).add hp) ?_⟩
  rw [Int.toNat_natCast]
  exact dp_lst upd_same ((Le.new (T := T) hp).dpAll (dpa_rep h2' k))
theorem ed_revL {k : Nat} {p1 p3 : Pos} (ha : Ed X T a σ H (.list ds)) : Ed X T (.Subscript a (.Slice none none (some (.UnaryOp .USub (.Constant (.int 1) k p1) p2)) p3) pos) σ H (.list ds.reverse) := fun H1 l Q q => by
  refine pe_we (pe_revL we_pe) ?_
  refine ha H1 l _ fun x H2 l2 rx => ?_
  obtain ⟨ad, xs, rfl, s, rr⟩ := dp_lst_of rx
  refine ⟨ad, xs, rfl, s, fun p hp => q _ _ (l2.add hp) (dp_lst upd_same ((Le.new (T := T) hp).dpAll ?_))⟩
  have key : ∀ {ds : List PyData} {xs : List V}, DpAll X.K H2 xs ds → DpAll X.K H2 xs.reverse ds.reverse := fun {ds} => by
    induction ds with
    | nil => intro xs h; cases h; exact .nil
    | cons d ds ih =>
      intro xs h
      cases h with
      | cons h1 h2 => rw [List.reverse_cons, List.reverse_cons]; exact dpa_snoc (ih h2) h1
  exact key rr
/-- e + f, tuples -/
theorem ed_catT {ds' : List PyData} (ha : Ed X T a σ H (.tuple ds)) (hb : Ed X T b σ H (.tuple ds')) (hl : ds.length + ds'.length ≤ 100000) : Ed X T (.BinOp a .Add b pos) σ H (.tuple (ds ++ ds')) :=
  ed_op2 op_catA ha hb fun x y H1 _ rx ry Q q => by
    obtain ⟨a1, xs, rfl, s, rr⟩ := dp_tup_of rx
    obtain ⟨b1, ys, rfl, s', rr'⟩ := dp_tup_of ry
    refine ⟨a1, b1, xs, ys, rfl, rfl, s, s', by rw [dpa_len rr, dpa_len rr', sizeLine_eq]; omega, fun e => ?_, fun _ e => ?_, fun _ _ p hp => ?_⟩
    · subst e
      cases rr
      exact q _ H1 .refl ry
    · subst e
      cases rr'
      rw [List.append_nil] at q
      exact q _ H1 .refl rx
    · exact q _ _ (.new hp) (dp_tup upd_same ((Le.new (T := T) hp).dpAll (dpa_app rr rr')))
/-- () -/
theorem er_tup0 {x1 : _} : Er X T (.Tuple [] x1 pos) σ H (tP []) := fun H1 l Q q => by
  refine pe_we (pe_tup (es := []) pa_nil) ⟨by simp, fun p hp => ?_⟩
  exact q _ _ (.new hp) ⟨p, rfl, upd_same⟩
/-- a display of whole numbers: a tracked tuple -/
theorem er_tupT {x1 : _} {l : List Nat} (h : Ea X T es σ H (l.map fun n => dP X.K (.int (n : Nat)))) (hl : l.length ≤ 100000) : Er X T (.Tuple es x1 pos) σ H (tP l) := fun H1 lh Q q => by
  refine pe_we (pe_tup we_pa) (h H1 lh _ fun vs H2 l2 r => ?_)
  have r : DpAll X.K H2 vs (l.map fun n => PyData.int (n : Nat)) := allP_d (by rw [List.map_map]; exact r)
  obtain rfl := dpa_tupN_of r
  refine ⟨by unfold tupN; rw [List.length_map, sizeLine_eq]; omega, fun p hp => q _ _ (l2.add hp) ⟨p, rfl, upd_same⟩⟩
end
theorem isKeys_T {H : Hp} : ∀ {es : List (List Nat × PyData)} {vs : List V} {bs : List Addr}, vs.length = es.length → IsKeys H (zipT es vs) bs → AllT (es.map (·.1)) (bs.map V.ref) H
  | [], [], _, _, h => by cases h; trivial
  | e :: es, v :: vs, _, hl, h => by
    cases h with
    | cons h1 h2 => exact ⟨⟨_, rfl, by rw [← keyN_kV]; exact h1⟩, isKeys_T (by simpa using hl) h2⟩
  | [], _ :: _, _, hl, _ => by cases hl
  | _ :: _, [], _, hl, _ => by cases hl
/-- behind a lock -/
theorem Le.unlock {T : List (Addr × Str)} {H H3 : Hp} {ad : Addr} {od : Obj} {ps : List (List Key × V)} (h : H ad = some (.dT ps)) (l : Le T [] (upd H ad (.frz od (.dT ps))) H3) (h3 : H3 ad = some (.frz od (.dT ps))) : Le T [] H (upd H3 ad (.dT ps)) := by
  refine ⟨fun b o hb _ n => ?_, fun t => ?_⟩
  · by_cases e : b = ad
    · subst e
      rw [h] at hb
      cases hb
      exact upd_same
    · rw [upd_ne e]
      exact l.ext b o (by rw [upd_ne e]; exact hb) (by simp) n
  · refine tabs_put (l.tab (tabs_put t h (fun ps z => by cases z) fun c q z => (codeO_nt z.symm))) h3 (fun ps z => by cases z) fun c q z => by unfold CodeO at z; cases z
theorem Le.lock {T : List (Addr × Str)} {H : Hp} {ad : Addr} {od : Obj} {ps : List (List Key × V)} (h : H ad = some (.dT ps)) : Le T [ad] H (upd H ad (.frz od (.dT ps))) := Le.refl.put h (.inl (by simp)) (fun ps z => by cases z) fun c q z => (codeO_nt z.symm)
theorem Le.mixL {T : List (Addr × Str)} {S : List Addr} {H H1 H2 : Hp} (a : Le T S H H1) (b : Le T [] H1 H2) : Le T S H H2 := a.trans b.up
section
variable {X : Cx} {T : List (Addr × Str)} {e a b c : Expr} {σ : St} {H H1 : Hp} {pos p p2 p' : Pos} {R R' : VP}
/-- list(d) -/
theorem er_listT {x : Str} {ad : Addr} {es : List (List Nat × PyData)} (hx : x = "list") (hc : X.calm = true) (hm : X.mg x = none) (he : Er X T e σ H (eqP (.ref ad))) (hd : DTr X.K H ad es) (hg : Gl X x := by rfl) (hst : starEach [e] X.env = (false, eval e X.env) :: starEach [] X.env := by rfl) :
    Er X T (.Call (.Name x p) [e] [] pos) σ H (FreshM H (es.map (·.1))) := by
  subst hx
  refine fun H1 l Q q => er_ty (call_list_dT hc) hm (R := FreshM H1 (es.map (·.1))) (H := H1) (ea_cons (he.mono l) ea_nil stab_e hst) (fun vs H2 l2 ra Q q => ?_) hg rfl (by decide) (by decide) hst rfl H1 .refl Q fun v H' l' r => q v H' l' ?_
  · obtain ⟨v, rfl, rfl⟩ := allP1 ra
    obtain ⟨us, d1, d2⟩ := (hd.up l).up l2
    have hl : us.length = es.length := by rw [dpa_len d2, List.length_map]
    exact ⟨ad, _, rfl, d1, fun p bs hp hk => q _ _ (.new hp) ⟨p, rfl, l2.free hp, _, upd_same, (Le.new (T := T) (S := []) hp).allT noTup_nil (isKeys_T hl hk)⟩⟩
  · obtain ⟨ad', e', f', h'⟩ := r
    exact ⟨ad', e', l.fr f', h'⟩
/-- [.. for x in d if c], d a dict of maps, c never true -/
theorem er_lcKF {elt iter : Expr} {x : Str} {px : Pos} {scope : Scope} {j : Nat} {ad : Addr} {es : List (List Nat × PyData)} (hc : X.calm = true) (hN : X.N.Nodup) (hi : ∀ H', Er X T iter σ H' (eqP (.ref ad))) (hd : DTat X.K H ad es) (hok : blkC X.N X.env.scope scope [(x, j)] = true)
    (ht : ∀ (i : Nat) k u H1, es[i]? = some k → Le T [ad] H H1 → DTr X.K H1 ad es → tP k.1 u H1 → ∀ (s : Shared) (H0 : Hp) (C : Addr) (cl : List (Str × Addr)) (fp : List Addr), Et (X.blk s H0 scope (compEnvC scope cl C X.env) fp) T c ((σ.set j none).set j (some u)) H1 false)
    (hj : X.N[j]? = some x := by rfl) (hl : (relS scope X.env.scope).names.lookup x = some .local := by rfl) (hf : ∀ y, foldedSetIterable iter X.env y = pure y := by intro _; rfl) :
    Er X T (.ListComp elt [⟨.Name x px, iter, [c], 0⟩] scope pos) σ H (FreshL X.K H []) := fun H1 l Q q => by
  have hd1 := hd.up l
  obtain ⟨vs, d1, d2⟩ := hd1
  have ns := noSeq_dT d1
  refine pe_we (pe_lock (pe_lc (g := gName j) (tt := fun σ H Q => ∀ (s : Shared) (H0 : Hp) (C : Addr) (cl : List (Str × Addr)) (fp : List Addr), WpT (X.blk s H0 scope (compEnvC scope cl C X.env) fp) c σ H Q) (own := [(x, j)]) (te := fun _ _ _ => False) hc hN (pi_keys we_pe) (blkOk_by hok) (fun _ _ _ _ _ => pg_name hN hj (.inl hl) (.inr hl)) (fun s H0 C cl fp => pts_one ⟨fun pins s1 σ H Q I h => h s H0 C cl fp pins s1 I⟩) (fun s H0 C cl fp => ⟨fun pins s1 σ H Q I h => h.elim⟩) hf)) ?_
  refine ⟨ad, _, d1, True.intro, fun od => ?_⟩
  have hk : upd H1 ad (.frz od (.dT (zipT es vs))) ad = some (.frz od (.dT (zipT es vs))) := upd_same
  have lk : Le T [ad] H1 (upd H1 ad (.frz od (.dT (zipT es vs)))) := Le.lock d1
  have hun := fun H3 => Le.unlock (T := T) (H3 := H3) (od := od) d1
  generalize upd H1 ad (.frz od (.dT (zipT es vs))) = HL at hk lk hun ⊢
  show WpE X iter σ HL _
  refine hi HL HL .refl _ fun v H2 l2 e2 => ?_
  subst e2
  have hk2 := l2.at hk (by simp) fun _ z => nomatch z
  refine ⟨ad, od, rfl, .inr ⟨_, hk2, fun D hD => ?_⟩⟩
  have hDa : D ≠ ad := fun z => by rw [z, hk2] at hD; cases hD
  refine lc_it (g := gName j) (tt := fun σ H Q => ∀ (s : Shared) (H0 : Hp) (C : Addr) (cl : List (Str × Addr)) (fp : List Addr), WpT (X.blk s H0 scope (compEnvC scope cl C X.env) fp) c σ H Q) (te := fun _ _ _ => False) (σ := σ) (vs := [j]) (walk_keysT (o := od) (d := ad) (kvs := zipT es vs)) (fun i H3 => H3 D = some (.lst []) ∧ Le T [] HL H3) ⟨upd_same, l2.add hD⟩ (fun i H3 _ h => h.2.at hk (by simp) fun _ z => nomatch z) (fun i u H3 H4 hlt h y => ?_) fun H3 h => ?_
  · obtain ⟨rfl, kk, v, q, hkv, rfl, hq⟩ := y
    refine ⟨wipe_back, ?_⟩
    obtain ⟨h1, l3⟩ := h
    have hlen : vs.length = es.length := by rw [dpa_len d2, List.length_map]
    obtain ⟨en, hen, ek⟩ : ∃ en, es[i]? = some en ∧ kk = keyN en.1 := by
      unfold zipT at hkv
      rw [List.getElem?_map] at hkv
      cases hz : (es.zip vs)[i]? with
      | none => rw [hz] at hkv; cases hkv
      | some pr =>
        rw [hz] at hkv
        have := List.getElem?_zip_eq_some.mp hz
        refine ⟨pr.1, this.1, ?_⟩
        have e5 := Option.some.inj hkv
        exact (congrArg Prod.fst e5).symm
    intro s H0 C cl fp
    have ltot : Le T [ad] H H4 := l.up.trans (lk.mixL l3)
    have hdr : DTr X.K H4 ad es := ⟨vs, .inr ⟨od, l3.at hk (by simp) fun _ z => nomatch z⟩, l3.dpAll (lk.dpAS ns d2)⟩
    refine ht i en _ H4 hen ltot hdr ⟨q, rfl, by rw [← keyN_kV, ← ek]; exact hq⟩ s H0 C cl fp H4 .refl _ fun H5 l5 => ?_
    rw [if_neg (by simp)]
    exact ⟨l5.lst h1 (by simp), l3.trans l5⟩
  · obtain ⟨h1, l3⟩ := h
    have hk3 := l3.at hk (by simp) fun _ z => nomatch z
    refine ⟨hk3, q _ _ (hun _ l3 hk3) ⟨D, [], rfl, ?_, by rw [upd_ne hDa]; exact h1, .nil⟩⟩
    have l1D : HL D = none ∨ ∃ ps, HL D = some (.tbl ps) := l2.free hD
    refine l.fr ?_
    rcases l1D with z | ⟨ps, z⟩
    · cases w : H1 D with
      | none => exact .inl rfl
      | some o =>
        by_cases ho : ∃ ps, o = .tbl ps
        · obtain ⟨ps, rfl⟩ := ho; exact .inr ⟨ps, rfl⟩
        · have := lk.ext D o w (by simpa using hDa) fun ps z => ho ⟨ps, z⟩
          rw [z] at this; cases this
    · cases w : H1 D with
      | none => exact .inl rfl
      | some o =>
        by_cases ho : ∃ ps, o = .tbl ps
        · obtain ⟨ps, rfl⟩ := ho; exact .inr ⟨ps, rfl⟩
        · have := lk.ext D o w (by simpa using hDa) fun ps z => ho ⟨ps, z⟩
          rw [z] at this
          cases this
          exact absurd ⟨ps, rfl⟩ ho
/-- e in a dict of maps, whichever -/
theorem ed_inT' {l : List Nat} {es : List (List Nat × PyData)} (hu : X.A.units + 1 < cLine) (h1 : Er X T a σ H (tP l)) (h2 : Er X T b σ H (dtP X.K es)) (hm : behindInMarks .In b = false := by rfl) : Ed X T (.Compare a [.In] [b] pos) σ H (.bool (look es l).isSome) := fun H1 l1 Q q => by
  refine pe_we (pe_cmp (pc_din hu we_pe we_pe) hm) ?_
  refine h1 H1 l1 _ fun v H2 l2 r1 => h2 H2 (l1.trans l2) _ fun u H3 l3 e3 => ?_
  obtain ⟨bb, rfl, hb⟩ := stab_tP _ _ _ l3 r1
  obtain ⟨ad, rfl, vs, d1, d2⟩ := e3
  have g : DGet _ ad (.ref bb) (valV (zipT es vs) (keyN l)) := .inr ⟨_, keyN l, bb, d1, rfl, by rw [keyN_kV]; exact hb, rfl⟩
  obtain ⟨z1, z2⟩ := zip_look d2 l
  refine ⟨ad, _, rfl, g, ?_⟩
  have e : (valV (zipT es vs) (keyN l)).isSome = (look es l).isSome := by
    cases q : look es l with
    | none => rw [z1 q]; rfl
    | some r => obtain ⟨w, hw, _⟩ := z2 r q; rw [hw]; rfl
  rw [e]
  exact q _ H3 (l2.trans l3) (.bl _)
/-- e not in a dict of maps, whichever -/
theorem et_notInT' {l : List Nat} {es : List (List Nat × PyData)} (hu : X.A.units + 1 < cLine) (h1 : Er X T a σ H (tP l)) (h2 : Er X T b σ H (dtP X.K es)) (hm : behindInMarks .NotIn b = false := by rfl) : Et X T (.Compare a [.NotIn] [b] pos) σ H (!(look es l).isSome) := fun H1 l1 Q q => by
  refine pt_we (pt_cmp (pc_dnotin hu we_pe we_pe) hm) ?_
  refine h1 H1 l1 _ fun v H2 l2 r1 => h2 H2 (l1.trans l2) _ fun u H3 l3 e3 => ?_
  obtain ⟨bb, rfl, hb⟩ := stab_tP _ _ _ l3 r1
  obtain ⟨ad, rfl, vs, d1, d2⟩ := e3
  have g : DGet _ ad (.ref bb) (valV (zipT es vs) (keyN l)) := .inr ⟨_, keyN l, bb, d1, rfl, by rw [keyN_kV]; exact hb, rfl⟩
  obtain ⟨z1, z2⟩ := zip_look d2 l
  refine ⟨ad, _, rfl, g, _, rfl, ?_⟩
  have e : (valV (zipT es vs) (keyN l)).isSome = (look es l).isSome := by
    cases q : look es l with
    | none => rw [z1 q]; rfl
    | some r => obtain ⟨w, hw, _⟩ := z2 r q; rw [hw]; rfl
  rw [e]
  exact q H3 (l2.trans l3)
end
end RM
namespace RM
open PySem PySem.Spec L2 LamX
open PyProof.Rows hiding St
section
variable {X : Cx} {T : List (Addr × Str)} {e a b c : Expr} {σ : St} {H H1 : Hp} {pos p p2 p' : Pos} {R R' : VP} {D : Ends} {k : Nat} {E : XK}
/-- y = [elt for x in range(e)] on one line, the list new -/
theorem s_setLcRG {elt e : Expr} {x y : Str} {py px spos : Pos} {scope : Scope} {i j : Nat} {n : Nat} {P : Nat → VP} (B : Bd X k E) (hm : X.mg "range" = none) (hi : Ed X T e σ H (.int n)) (hz : n ≤ 100000) (hok : blkC X.N X.env.scope scope [(x, j)] = true)
    (hsw : swapsWith (.ListComp elt [⟨.Name x px, .Call (.Name "range" p) [e] [] p', [], 0⟩] scope pos) (some (.Name y py)) spos.line X.env = pure true)
    (hP : ∀ i, i < n → StL T (P i)) (he : ∀ (i : Nat) H1, i < n → Le T [] H H1 → BlkE X T elt scope ((σ.set j none).set j (some (.int i))) H1 (P i)) (h : ∀ v H', Le T [] H H' → FreshP H ((List.range n).map P) v H' → D.nx (σ.set i (some v)) H')
    (hy : X.N[i]? = some y := by rfl) (hyl : X.env.scope.names.lookup y = some .local := by rfl) (hj : X.N[j]? = some x := by rfl) (hl : (relS scope X.env.scope).names.lookup x = some .local := by rfl) (hg : Gl X "range" := by rfl) (hst : starEach [e] X.env = (false, eval e X.env) :: starEach [] X.env := by rfl) (hf : ∀ y, foldedSetIterable (.Call (.Name "range" p) [e] [] p') X.env y = pure y := by intro _; rfl) :
    WpS X (.Assign [.Name y py] (.ListComp elt [⟨.Name x px, .Call (.Name "range" p) [e] [] p', [], 0⟩] scope pos) spos) D σ H := by
  refine ps_we (ps_setLc (g := gName j) (tt := tYes) (own := [(x, j)]) (te := blkTe X scope elt) B.calm B.nd hy hyl hsw (pi_range1 hg hm (pa_cons we_pe pa_nil hst) hst) (blkOk_by hok) (fun _ _ _ _ _ => pg_name B.nd hj (.inl hl) (.inr hl)) (fun _ _ _ _ _ => pts_nil) (fun s H0 C cl fp => ⟨fun pins s1 σ H Q I h => h s H0 C cl fp pins s1 I⟩) hf) ?_
  refine hi H .refl _ fun v H2 l2 r => ?_
  cases r
  refine ⟨n, rfl, by omega, by omega, fun D1 hD => ?_⟩
  refine lc_range (g := gName j) (tt := tYes) (te := blkTe X scope elt) (σ := σ) (vs := [j]) (n := n) (lo := 0) (fun i H3 => i ≤ n → (∃ ys, H3 D1 = some (.lst ys) ∧ AllP ((List.range i).map P) ys H3) ∧ Le T [] H2 H3) (fun _ => ⟨⟨[], upd_same, trivial⟩, .new hD⟩) (fun i H3 hi hA => ?_) fun H3 hA => ?_
  · obtain ⟨⟨ys, hy1, hy2⟩, l3⟩ := hA (by omega)
    refine ⟨wipe_back, ?_⟩
    change blkTe X scope elt ((wipe σ [j]).set j (some _)) H3 _
    intro s H0 C cl fp
    rw [Int.zero_add]
    refine he i H3 hi (l2.trans l3) s H0 C cl fp H3 .refl _ fun v H6 l6 rv => ?_
    have hy6 := l6.lst hy1 (by simp)
    have hmem : ∀ R ∈ (List.range i).map P, StL T R := fun R hR => by
      obtain ⟨k, hk, rfl⟩ := List.mem_map.mp hR
      have := List.mem_range.mp hk
      exact hP k (by omega)
    have a6 : AllP ((List.range i).map P) ys H6 := allP_to (fun R hR v r => hmem R hR D1 v H3 H6 ⟨ys, hy1⟩ l6.up r) hy2
    have lw : Le T [D1] H6 (upd H6 D1 (.lst (ys ++ [v]))) := Le.refl.putL hy6 (.inl (by simp))
    refine ⟨ys, hy6, ?_, fun _ => ⟨⟨_, upd_same, ?_⟩, (l3.trans l6).putL hy6 (.inr hD)⟩⟩
    · rw [allP_len hy2, List.length_map, List.length_range, sizeLine_eq]; omega
    · rw [List.range_succ, List.map_append]
      exact allP_snoc (allP_to (fun R hR v r => hmem R hR D1 v H6 _ ⟨ys, hy6⟩ lw r) a6) (hP i hi D1 v H6 _ ⟨ys, hy6⟩ lw rv)
  · obtain ⟨⟨ys, hy1, hy2⟩, l3⟩ := hA (Nat.le_refl _)
    exact h _ _ (l2.trans l3) ⟨D1, ys, rfl, l2.free hD, hy1, hy2⟩
/-- len(d), d a dict of maps -/
theorem ed_lenT {ad : Addr} {es : List (List Nat × PyData)} (hm : X.mg "len" = none) (h : Er X T e σ H (eqP (.ref ad))) (hd : DTat X.K H ad es) (hg : Gl X "len" := by rfl) (he : starEach [e] X.env = (false, eval e X.env) :: starEach [] X.env := by rfl) : Ed X T (.Call (.Name "len" p) [e] [] pos) σ H (.int es.length) :=
  er_blt call_len_dT hm (ea_cons h ea_nil stab_e he) (fun vs H1 l ra Q q => by
    obtain ⟨v, rfl, rfl⟩ := allP1 ra
    obtain ⟨us, d1, d2⟩ := hd.up l
    refine ⟨ad, _, rfl, d1, ?_⟩
    have e : (zipT es us).length = es.length := by
      unfold zipT
      rw [List.length_map, List.length_zip, dpa_len d2, List.length_map, Nat.min_self]
    rw [e]
    exact q _ H1 .refl (.int _)) hg rfl (by decide) (by decide) he
end
theorem eqv_ls_nil {ls : List (List Nat)} : PyData.eqv (.list (ls.map nsD)) (.list []) = decide (ls = []) := by
  cases ls <;> simp [PyData.eqv, PyData.eqvAll]
theorem eqvAll_nss : ∀ ls : List (List Nat), PyData.eqvAll (ls.map nsD) (ls.map nsD) = true
  | [] => by simp [PyData.eqvAll]
  | l :: ls => by simp [PyData.eqvAll, eqv_ns, eqvAll_nss ls]
theorem eqv_nss {ls : List (List Nat)} : PyData.eqv (.list (ls.map nsD)) (.list (ls.map nsD)) = true := by
  simp only [PyData.eqv]
  exact eqvAll_nss ls
/-- new things may be dropped from what is changed -/
theorem Le.dropB {T : List (Addr × Str)} {S S' : List Addr} {H H' : Hp} (e : Le T S H H') (h : ∀ s ∈ S, s ∈ S' ∨ H s = none ∨ ∃ ps, H s = some (.tbl ps)) : Le T S' H H' := ⟨fun b o hb nb n => e.ext b o hb (fun z => by
  rcases h b z with q | q | ⟨ps, q⟩
  · exact nb q
  · rw [q] at hb; cases hb
  · rw [q] at hb; cases hb; exact n ps rfl) n, e.tab⟩
end RM
/-! a law whose def is called where no repr is under way: repr of lists -/
namespace RM
open PySem PySem.Spec L2 LamX
open PyProof.Rows hiding St
/-- FnOk where no repr is under way -/
structure FnOkG (P : Program) (w : World) (K : PySem.W.Frag) (mg : Str → Option Value) (base : Heap) (CX : CXT) (k : Nat) (f : Addr) (fd : FuncData) (ps : List Str) (sp : Sp) : Prop where
  len : ∀ xs H Q E, sp xs H Q E → xs.length = ps.length
  run : ∀ (A : Around) (outer : List Env) (s : Shared) (H : Hp) (args : Args) (us : List Value) (xs : List V) (Q : VK) (E : XK), Room k A → A.guards = some [] → Env0 P w K mg base A outer s H → BindsTo s fd args (ps.zip us) → Vals xs us → sp xs H Q E → codeAny (model P w) A (.call (.ref f) args) (CR CX outer P w H s Q E) s
theorem fn_ofG {CX : CXT} {P : Program} {w : World} {K : PySem.W.Frag} {mg : Str → Option Value} {base : Heap} {k : Nat} {f : Addr} {name qual : Str} {params : Arguments} {body : List Stmt} {scope : Scope} {dV kV doc pm cdv ct oc : Value} {an od : Option Addr}
    {osl : Array (Option Value)} {N ps : List Str} {sp : Sp} (hLk : K.lookup f = some ⟨oc, od, .func (PySem.W.fnOf name qual params body scope dV kV doc pm an cdv ct), osl⟩) (hCd : PySem.W.codeIn K cdv qual = true) (S : FnScope N ps scope)
    (hLen : ∀ ws H Q E, sp ws H Q E → ws.length = ps.length)
    (hBody : ∀ (A : Around) (outer : List Env) (s : Shared) (H : Hp) (ws : List V) (Q : VK) (E : XK), Room k (A.deeper (envOfC qual scope s.heap.objs.size f cdv)) → A.guards = some [] → sp ws H Q E →
      ∃ tB, PSs (cxOf CX P w K mg base N qual scope f cdv A outer s H E) body tB ∧ tB { nx := fun _ H' => Q .non H', rt := Q } (start N ws) H) :
    FnOkG P w K mg base CX (k + 1) f (PySem.W.fnOf name qual params body scope dV kV doc pm an cdv ct) ps sp := by
  refine ⟨hLen, fun A outer s H args us ws Q E hRm hgu env0 hbn res₀ hProm => ?_⟩
  have hLn := hLen _ _ _ _ hProm
  have kIn : K.In s.heap := env0.mod.kin.keeps fun ad ob₀ g => (env0.bs ad ob₀ g).1
  have limN : s.heap.NoLimit := env0.mod.nolimit.keeps fun ad ob₀ g => (env0.bs ad ob₀ g).1
  have hKd : ∀ y ∈ ps.zip us, scope.names.lookup y.1 = some .local ∨ (scope.names.lookup y.1 = some .cell ∧ ((cellsFrom (s.heap.objs.size + 1) scope.names []).lookup y.1).isSome = true) := fun ⟨n, vv⟩ hy => by
    rcases S.par n (List.of_mem_zip hy).1 with r₁ | r₁
    · exact .inl r₁
    · exact .inr ⟨r₁, PySem.W.cellsFrom_some _ _ _ (.inl r₁)⟩
  refine codeAny_call_function hRm.depth (kIn _ _ hLk) rfl S.co S.gen rfl (PySem.W.codeRec_of kIn hCd) (hbn _ _ _ _ ?_)
  refine wpAny_newFunctionEnv_cells S.kind hKd fun en hen s1 nm => ?_
  subst hen
  refine ⟨limN.keeps nm.toInCall.keep, codeAny_func ?_⟩
  obtain ⟨tB, hTs, hQs⟩ := hBody A outer s H ws Q E (hRm.deeper _) hgu hProm
  have I : Inv (cxOf CX P w K mg base N qual scope f cdv A outer s H E) [] (start N ws) H s1 := inv_start S hRm.hd env0 hLn res₀ nm
  refine wpAny_mono (hTs.run [] s1 (start N ws) H _ I hQs) (fun fw₀ s' hs => ?_) fun g s' hs => hs
  have fin₀ : ∀ {σ' : St} {H' : Hp} {vv : V} {uu : Value}, Inv (cxOf CX P w K mg base N qual scope f cdv A outer s H E) [] σ' H' s' → RelV vv uu → Q vv H' → CE outer P w H s Q uu s' :=
    fun {σ' H' vv uu} J rVs r₁ => ⟨vv, H', J.os, J.bare, J.base, J.hok, rVs, r₁⟩
  cases fw₀ with
  | ret uu =>
    obtain ⟨vv, σ', H', J, rVs, r₁⟩ := hs
    exact fin₀ J rVs r₁
  | next =>
    obtain ⟨σ', H', J, r₁⟩ := hs
    exact fin₀ (vv := V.non) (uu := Value.none) J rfl r₁
  | brk =>
    obtain ⟨_, _, _, r₁⟩ := hs
    exact False.elim r₁
  | cont =>
    obtain ⟨_, _, _, r₁⟩ := hs
    exact False.elim r₁
theorem callTG {P : Program} {w : World} {K : PySem.W.Frag} {mg mb : Str → Option Value} {CX : CXT} {k : Nat} {fa a : Addr} {tbs : List (Addr × Addr)} {fd : FuncData} {nm : Str} {sp : Sp} {sA : Shared} {ws : List Value} {nums : List Int}
    (kIn : K.In sA.heap) (hNs : sA.heap.Ns mainGlobals mg) (hbn : sA.heap.Ns builtinsNs mb) (hBb : ∀ nm : Str, nm ≠ "__name__" → mb nm = bootBuiltins nm) (hLim : sA.heap.NoLimit) (hg : sA.gens = #[])
    (hTb : ∀ pr ∈ tbs, sA.heap.get? pr.2 = some { cls := .none, data := .fields #[] }) (noT : ∀ pr ∈ tbs, K.lookup pr.2 = none) (C : ∀ pr ∈ tbs, PySem.W.CodeHd sA.heap pr.1 pr.2)
    (hBm : ∃ (bmod : Addr) (obm : Obj), mg "__builtins__" = some (.ref bmod) ∧ bmod ≠ builtinsNs ∧ sA.heap.get? bmod = some obm ∧ obm.cls = .type "module" ∧ obm.dict = some builtinsNs ∧ obm.data = .plain)
    (hAt : sA.heap.get? a = some { cls := .type "list", data := .seq ws.toArray }) (hIn : IntsAre ws nums) (hLn : nums.length ≤ sizeLine) (hRm : Room k callerA)
    (F : ∀ base : Heap, K.In base → base.Ns mainGlobals mg → (∀ pr ∈ tbs, TabB base mg pr.1 pr.2) → FnOkG P w K mg base CX k fa fd [nm] sp) (hbind : ∀ (s : Shared) (uu : Value), BindsTo s fd ⟨[uu], []⟩ [(nm, uu)])
    (hProm : ∀ H : Hp, (∀ pr ∈ tbs, H pr.2 = some (.tbl #[])) → SqL K H a (nums.map V.int) → sp [.ref a] H (fun vv _ => vv = .bl true) fun _ _ _ => False)
    (hCX : ∀ H g s', CX [] H sA (fun _ _ _ => False) g s' → False) :
    codeAny (model P w) callerA (.call (.ref fa) ⟨[.ref a], []⟩) (fun res₀ s' => res₀ = .ok (.ret (.bool true)) ∧ OldK sA.heap s'.heap ∧ s'.os = sA.os ∧ AllBare s'.gens) sA := by
  have rVs := vals_ints hIn
  have lnV := hIn.length
  have isTb : ∀ ad : Addr, ad ∈ tbs.map (·.2) → sA.heap.get? ad = some { cls := .none, data := .fields #[] } := fun ad hbn => by
    obtain ⟨pr, hpr, g⟩ := List.mem_map.mp hbn
    rw [← g]
    exact hTb pr hpr
  have aNo : a ∉ tbs.map (·.2) := fun y => by
    have r₁ := isTb a y
    rw [hAt] at r₁
    have y₂ : Data.seq ws.toArray _ = Data.fields #[] := congrArg Obj.data (Option.some.inj r₁)
    cases y₂
  have inT : ∀ pr ∈ tbs, pr.2 ∈ tbs.map (·.2) := fun pr hpr => List.mem_map.mpr ⟨pr, hpr, rfl⟩
  -- the call itself
  have main : ∀ H : Hp, (∀ pr ∈ tbs, H pr.2 = some (.tbl #[])) → (∀ ad, H ad = none ∨ ad ∈ tbs.map (·.2) ∨ ∃ ob₀ xz, H ad = some (.frz ob₀ (.lst xz))) → SqL K H a (nums.map V.int) → HOk P w H sA.heap → (∀ ad, H ad ≠ none → ad = a ∨ ad ∈ tbs.map (·.2)) → (H a ≠ none → K.lookup a = none) →
      codeAny (model P w) callerA (.call (.ref fa) ⟨[.ref a], []⟩) (fun res₀ s' => res₀ = .ok (.ret (.bool true)) ∧ OldK sA.heap s'.heap ∧ s'.os = sA.os ∧ AllBare s'.gens) sA := by
    intro H hHp hOf hSq hokA hAd hKn
    have atB : ∀ {ad : Addr} {ob₀ : Obj}, sA.heap.get? ad = some ob₀ → H ad = none → (hidT sA.heap H).get? ad = some ob₀ := fun g n => hidT_get g n
    have noDt : ∀ {ad : Addr} {ob₀ : Obj}, sA.heap.get? ad = some ob₀ → (∀ ws n, ob₀.data ≠ .seq ws n) → ob₀.data ≠ .fields #[] → H ad = none := fun {ad ob₀} g h1 h2 => by
      cases r₁ : H ad with
      | none => rfl
      | some uu =>
        rcases hAd ad (by rw [r₁]; simp) with e' | e'
        · rw [e', hAt] at g
          cases g
          exact (h1 _ _ rfl).elim
        · rw [isTb ad e'] at g
          cases g
          exact (h2 rfl).elim
    have noDc : ∀ {ad : Addr} {ob₀ : Obj} {es : Array DictEntry} {ep : Nat}, sA.heap.get? ad = some ob₀ → ob₀.data = .dict es ep → H ad = none := fun {ad ob₀ es ep} g d => by
      refine noDt g (fun ws n y => ?_) fun y => ?_
      · rw [d] at y
        cases y
      · rw [d] at y
        cases y
    have nsB : ∀ {ad : Addr} {m : Str → Option Value}, sA.heap.Ns ad m → (hidT sA.heap H).Ns ad m := fun {ad m} ⟨ob₀, es, ep, g, d, res₀⟩ => ⟨ob₀, es, ep, atB g (noDc g d), d, res₀⟩
    have hKb : K.In (hidT sA.heap H) := fun ad ob₀ g => atB (kIn ad ob₀ g) (by
      cases r₁ : H ad with
      | none => rfl
      | some uu =>
        rcases hAd ad (by rw [r₁]; simp) with e' | e'
        · rw [e'] at g r₁
          rw [hKn (by rw [r₁]; simp)] at g
          cases g
        · obtain ⟨pr, hpr, ep⟩ := List.mem_map.mp e'
          rw [← ep, noT pr hpr] at g
          cases g)
    have hMd : L2.Mod K mg (hidT sA.heap H) := ⟨hKb, nsB hNs, ⟨mb, nsB hbn, hBb⟩, let ⟨mc, h1, h2⟩ := hLim; ⟨mc, nsB h1, h2⟩⟩
    have tbB : ∀ pr ∈ tbs, TabB (hidT sA.heap H) mg pr.1 pr.2 := fun pr hpr => by
      have hTp := hTb pr hpr
      refine ⟨?_, ?_, fun y => ?_⟩
      · obtain ⟨ob₀, us, file, tf, flags, tg, inF, text, tt, e1, r1, r2, r3, r4, r5, r6, r7, r8, hne⟩ := C pr hpr
        refine ⟨ob₀, us, file, tf, flags, tg, inF, text, tt, atB e1 (noDt e1 (fun ws n y => ?_) fun y => ?_), r1, r2, r3, r4, r5, r6, r7, r8, hne⟩
        · rw [r2] at y
          cases y
        · rw [r2] at y
          cases y
          simp at r3
      · obtain ⟨bmod, obm, b1, b2, b3, b4, b5, b6⟩ := hBm
        have nG : bmod ≠ mainGlobals := fun r₁ => by
          obtain ⟨ob₀, es, ep, g, hd, _⟩ := hNs
          rw [r₁, g] at b3
          cases b3
          rw [hd] at b6
          cases b6
        have nP : bmod ≠ pr.2 := fun r₁ => by
          rw [r₁, hTp] at b3
          cases b3
          cases b6
        refine ⟨bmod, obm, b1, b2, nG, nP, atB b3 (noDt b3 (fun ws n y => ?_) fun y => ?_), b4, b5, b6⟩
        · rw [b6] at y
          cases y
        · rw [b6] at y
          cases y
      · obtain ⟨ob₀, es, ep, g, hd, _⟩ := hNs
        rw [y, hTp] at g
        cases g
        cases hd
    have env0 : Env0 P w K mg (hidT sA.heap H) callerA [] sA H := ⟨rfl, hMd, fun ad ob₀ g => of_hidT g, Nat.le_of_eq (hidT_size _ _), trivial, fun ad hbn => absurd (show ad ∈ ([] : List Addr) from hbn) (by simp), hokA, .of_eq hg⟩
    refine codeAny_mono ((F _ hKb (nsB hNs) tbB).run callerA [] sA H ⟨[.ref a], []⟩ [.ref a] [.ref a] _ _ hRm rfl env0 (hbind sA (.ref a)) (.cons rfl .nil) (hProm H hHp hSq)) fun res₀ s' hh => ?_
    cases res₀ with
    | error g => exact (hCX H g s' hh).elim
    | ok fw₀ =>
      cases fw₀ with
      | next => exact False.elim hh
      | brk => exact False.elim hh
      | cont => exact False.elim hh
      | ret uu =>
        obtain ⟨vv, H', os, bare, un, hokB, r', r₁⟩ := hh
        have q' : vv = .bl true := r₁
        subst q'
        obtain rfl : uu = Value.bool true := r'
        have keep₀ : ∀ ad ob₀, ad ∉ tbs.map (·.2) → sA.heap.get? ad = some ob₀ → s'.heap.get? ad = some ob₀ := fun ad ob₀ nb g => by
          cases r₁ : H ad with
          | none => exact un.keep ad ob₀ g r₁ (by intro y; exact absurd (show ad ∈ ([] : List Addr) from y) (by simp)) (by simp)
          | some uu =>
            rcases hOf ad with y | y | ⟨obm, xz, y⟩
            · rw [r₁] at y; cases y
            · exact absurd y nb
            · have z2 := un.frzs ad obm _ y
              obtain ⟨e1, _⟩ := hokA ad _ y
              obtain ⟨e2, _⟩ := hokB ad _ z2
              rw [g] at e1; cases e1
              exact e2
        have more₀ : ∀ pr ∈ tbs, ∃ more : Array Value, s'.heap.get? pr.2 = some { cls := .none, data := .fields more } := fun pr hpr => by
          obtain ⟨more, y⟩ := un.tbls pr.2 #[] (hHp pr hpr)
          exact ⟨_, hokB pr.2 _ y⟩
        refine ⟨rfl, ⟨fun ad ob₀ g => ?_, fun ad ob₀ g => ?_⟩, os, bare⟩
        · by_cases hbn : ad ∈ tbs.map (·.2)
          · obtain ⟨pr, hpr, ep⟩ := List.mem_map.mp hbn
            obtain ⟨more, hm⟩ := more₀ pr hpr
            rw [← ep] at g ⊢
            rw [hTb pr hpr] at g
            cases g
            exact .inr (.inl ⟨((C pr hpr).tab (hTb pr hpr)).isCodeTable, rfl, #[], more, rfl, by rw [Array.empty_append]; exact hm⟩)
          · exact .inl (keep₀ ad ob₀ hbn g)
        · by_cases hbn : ad ∈ tbs.map (·.2)
          · obtain ⟨pr, hpr, ep⟩ := List.mem_map.mp hbn
            obtain ⟨more, hm⟩ := more₀ pr hpr
            rw [← ep]
            exact ⟨_, hm⟩
          · exact ⟨ob₀, keep₀ ad ob₀ hbn g⟩
  cases hk : K.lookup a with
  | some ob₀ =>
    have g := kIn a ob₀ hk
    rw [hAt] at g
    cases g
    refine main (fun ad => if ad ∈ tbs.map (·.2) then some (.tbl #[]) else none) (fun pr hpr => if_pos (inT pr hpr)) (fun ad => ?_) (.inr ⟨_, ws.toArray, _, hk, rfl, rfl, rfl, by rw [List.size_toArray, lnV]; exact hLn, by simpa using rVs⟩) (fun ad uu y => ?_) (fun ad y => ?_) fun y => absurd (show (if a ∈ tbs.map (·.2) then some (HO.tbl #[]) else none) = none from if_neg aNo) y
    · by_cases hbn : ad ∈ tbs.map (·.2)
      · exact .inr (.inl hbn)
      · exact .inl (if_neg hbn)
    · by_cases hbn : ad ∈ tbs.map (·.2)
      · have y₂ := (if_pos hbn).symm.trans y
        cases y₂
        exact isTb ad hbn
      · have y₂ := (if_neg hbn).symm.trans y
        cases y₂
    · by_cases hbn : ad ∈ tbs.map (·.2)
      · exact .inr hbn
      · exact absurd (if_neg hbn) y
  | none =>
    refine main (fun ad => if ad = a then some (.frz { cls := .type "list", data := .seq ws.toArray } (.lst (nums.map V.int))) else if ad ∈ tbs.map (·.2) then some (.tbl #[]) else none) (fun pr hpr => (if_neg (show ¬ pr.2 = a from fun y => aNo (by rw [← y]; exact inT pr hpr))).trans (if_pos (inT pr hpr))) (fun ad => ?_)
      (.inl (.inr ⟨{ cls := .type "list", data := .seq ws.toArray }, if_pos rfl⟩)) (fun ad uu y => ?_) (fun ad y => ?_) fun _ => hk
    · by_cases hbn : ad = a
      · exact .inr (.inr ⟨_, _, if_pos hbn⟩)
      · by_cases hb2 : ad ∈ tbs.map (·.2)
        · exact .inr (.inl hb2)
        · exact .inl ((if_neg hbn).trans (if_neg hb2))
    · by_cases hbn : ad = a
      · have y₂ := (if_pos hbn).symm.trans y
        cases y₂
        rw [hbn]
        exact ⟨hAt, by rw [List.length_map]; exact hLn, ws, _, rVs, hAt⟩
      · have z1 := (if_neg hbn).symm.trans y
        by_cases hb2 : ad ∈ tbs.map (·.2)
        · have y₂ := (if_pos hb2).symm.trans z1
          cases y₂
          exact isTb ad hb2
        · have y₂ := (if_neg hb2).symm.trans z1
          cases y₂
    · by_cases hbn : ad = a
      · exact .inl hbn
      · by_cases hb2 : ad ∈ tbs.map (·.2)
        · exact .inr hb2
        · exact absurd ((if_neg hbn).trans (if_neg hb2)) y
/-- the law's promise -/
def LawAtG (l : PySem.W.OpenLaw) (w : World) (K : PySem.W.Frag) (CX : CXT) (k n : Nat) (nm : Str) (mg : Str → Option Value) (fa : Addr) (hh : Heap) : Prop :=
  ∃ (fd : FuncData) (tbs : List (Addr × Addr)) (sp : Sp), (∀ pr ∈ tbs, hh.get? pr.2 = some { cls := .none, data := .fields #[] }) ∧ (∀ pr ∈ tbs, K.lookup pr.2 = none) ∧ (∀ pr ∈ tbs, PySem.W.CodeHd hh pr.1 pr.2) ∧ (∀ (s : Shared) (uu : Value), BindsTo s fd ⟨[uu], []⟩ [(nm, uu)]) ∧
    (∀ (H : Hp) (a : Addr) (nums : List Int), nums.length ≤ n → (∀ y ∈ nums, Builtin.Int.intBits y ≤ 1048576) → (∀ pr ∈ tbs, H pr.2 = some (.tbl #[])) → SqL K H a (nums.map V.int) → sp [.ref a] H (fun vv _ => vv = .bl true) fun _ _ _ => False) ∧
    ∀ base : Heap, K.In base → base.Ns mainGlobals mg → (∀ pr ∈ tbs, TabB base mg pr.1 pr.2) → FnOkG l.prog w K mg base CX k fa fd [nm] sp
theorem walkG {l : PySem.W.OpenLaw} {n k : Nat} {r₁ : Program} {loose : List Str} {XP : (Str → Option Value) → Heap → Prop} {YP : World → Heap → Prop} {d : DefRec} {CX : World → CXT} {nm : Str}
    (hn : l.most = some n) (hn2 : n ≤ sizeLine) (hdf : d.params.defaults = []) (hRm : Room k callerA)
    (F : ∀ (w : World) (mg : Str → Option Value) (fa : Addr) (hh : Heap), YP w hh → hh.Ns mainGlobals mg → mg d.name = some (.ref fa) → ∃ K : PySem.W.Frag, K.In hh ∧ LawAtG l w K (CX w) k n nm mg fa hh)
    (hCX : ∀ (w : World) (H : Hp) (s : Shared) (g : Value) (s' : Shared), CX w [] H s (fun _ _ _ => False) g s' → False) :
    PySem.W.WalkO r₁ loose XP YP l.row.toRowW d [] (fun f ws => PySem.call f ws) := by
  refine Att.attach_callB hn hdf fun w s₀ sA mg mb fa ob₀ pm cd doc a ws nums G Y ho hd hCd hmg hobj hints hlen hbits hg => ?_
  obtain ⟨K, kIn, fd, tbs, sp, hTb, noT, C, hbn, hProm, hF⟩ := F w mg fa _ Y G.T.g hmg
  exact callTG kIn G.T.g G.T.b G.T.builtins G.T.nolimit hg hTb noT C G.T.bmain hobj hints (Nat.le_trans hlen hn2) hRm hF hbn (fun H hHp hSq => hProm H a nums hlen hbits hHp hSq) fun H g s' => hCX w H sA g s'

section
variable {X : Cx} {T : List (Addr × Str)} {e a b c : Expr} {σ : St} {H H1 : Hp} {pos p p2 p' : Pos} {ds : List PyData}
theorem call_reprD (hg : X.A.guards = some []) : CallR X (.builtin "repr") (fun xs H Q => ∃ v d, xs = [v] ∧ (∃ ds, d = .list ds) ∧ Dp X.K H v d ∧ d.showable = true ∧ d.hasDict = false ∧ X.A.units + (d.depth + 1) < cLine ∧ d.shown.length ≤ sizeLine ∧ Q (.str d.shown) H) := by
  intro pns s σ H ys us Q I rr h
  obtain ⟨v, d, rfl, ⟨ds, rfl⟩, hd, h1, h2, h3, h4, q⟩ := h
  obtain ⟨u, rfl, rx⟩ := vals1 rr
  obtain ⟨as, rd⟩ := Dp.reads I _ v u hd rx
  obtain ⟨a, xs, rfl, _⟩ := dp_lst_of hd
  cases rx
  exact repr_of_reads' rd h1 (fun z => by rw [h2] at z; cases z) hg h3 (fun _ _ e => e) (fun h' u tk kp => ⟨.str _, H, I.kept (t' := tk) kp, ⟨u, rfl⟩, q⟩) h4
/-- repr(e), e a list -/
theorem ed_repr (hg : X.A.guards = some []) (hm : X.mg "repr" = none) (h : Ed X T e σ H (.list ds)) (h1 : (PyData.list ds).showable = true) (h2 : (PyData.list ds).hasDict = false) (h3 : X.A.units + ((PyData.list ds).depth + 1) < cLine) (h4 : (PyData.list ds).shown.length ≤ sizeLine) (hgl : Gl X "repr" := by rfl) (he : starEach [e] X.env = (false, eval e X.env) :: starEach [] X.env := by rfl) :
    Ed X T (.Call (.Name "repr" p) [e] [] pos) σ H (.str (PyData.list ds).shown) :=
  er_blt (call_reprD hg) hm (ed_cons h ea_nil he) (fun vs H1 l ra Q q => by
    obtain ⟨v, rfl, r⟩ := allP1 ra
    exact ⟨v, _, rfl, ⟨ds, rfl⟩, r, h1, h2, h3, h4, q _ H1 .refl (.str _)⟩) hgl rfl (by decide) (by decide) he
end
section
variable {P : Program} {w : World} {K : PySem.W.Frag} {mg : Str → Option Value} {base : Heap} {x qual : Str} {params : Arguments} {body : List Stmt} {scope : Scope} {dvs : List V} {kws : List (Str × V)} {f : Addr} {fd : FuncData}
/-- ok_defC where no repr is under way -/
theorem ok_defG {N ps : List Str} {k : Nat} {sp : Sp} {c : Addr} (hco : ∃ (oc : Value) (od : Option Addr) (osl : Array (Option Value)), K.lookup f = some ⟨oc, od, .func fd, osl⟩ ∧ fd.code = .ref c) (Fu : FunD K x qual params body scope dvs kws f fd) (S : FnScope N ps scope) (len : ∀ vs H Q E, sp vs H Q E → vs.length = ps.length)
    (hb : ∀ (A : Around) (outer : List Env) (s : Shared) (H : Hp) (vs : List V) (Q : VK) (E : XK), A.guards = some [] → Bd (cxOf (L2.CX P w) P w K mg base N qual scope f (.ref c) A outer s H E) k E → sp vs H Q E →
      WpSs (cxOf (L2.CX P w) P w K mg base N qual scope f (.ref c) A outer s H E) body { nx := fun _ H' => Q .non H', rt := Q } (start N vs) H) : FnOkG P w K mg base (L2.CX P w) (k + 1) f fd ps sp := by
  obtain ⟨oc, od, dV, kV, doc, pm, an, cdv, ct, osl, rfl, lk, hcd, _, _⟩ := Fu.ex
  obtain ⟨oc2, od2, osl2, lk2, e⟩ := hco
  obtain rfl : cdv = .ref c := e
  exact fn_ofG lk hcd S len fun A outer s H vs Q E hr hg hsp => ⟨_, we_pss, hb A outer s H vs Q E hg ⟨rfl, S.nd, passes_of rfl, takes_of rfl rfl rfl rfl, hr, fun _ => rfl⟩ hsp⟩
end
end RM
/-! displays of several pairs whose keys are tuples -/
namespace RM
open PySem PySem.Spec L2 LamX
open PyProof.Rows hiding St
theorem storedH_new {Ky : Type} [DecidableEq Ky] {xs : List (Ky × Addr × Value)} {k : Ky} {a : Addr} {v : Value} (h : k ∉ xs.map (·.1)) : storedH xs k a v = xs ++ [(k, a, v)] := by
  unfold storedH
  rw [if_neg]
  intro z
  unfold atKey at z
  rw [Option.isSome_iff_exists] at z
  obtain ⟨y, hy⟩ := z
  obtain ⟨x, hx, e⟩ := Option.map_eq_some_iff.mp hy
  have h1 := List.mem_of_find?_eq_some hx
  have h2 := List.find?_some hx
  exact h (List.mem_map.mpr ⟨x, h1, by simpa using h2⟩)
theorem storedAll_new {Ky : Type} [DecidableEq Ky] : ∀ (ps xs : List (Ky × Addr × Value)), ((xs ++ ps).map (·.1)).Nodup → storedAllH xs ps = xs ++ ps
  | [], xs, _ => by rw [List.append_nil]; rfl
  | p :: ps, xs, h => by
    have hp : p.1 ∉ xs.map (·.1) := fun z => by
      rw [List.map_append, List.nodup_append] at h
      exact h.2.2 _ z _ (List.mem_map.mpr ⟨p, List.mem_cons_self, rfl⟩) rfl
    show storedAllH (storedH xs p.1 p.2.1 p.2.2) ps = _
    rw [storedH_new hp, storedAll_new ps _ (by rw [List.append_assoc]; exact h), List.append_assoc]
    rfl
def tDispTs (trs : List (TE × TE)) : TE := fun σ H Q => ∀ p, H p = none → tPairs trs σ (upd H p (.dT [])) fun ps H2 => H2 p = some (.dT []) ∧ ∃ kvs : List (List Key × Addr × V), ps = kvs.map (fun x => (.ref x.2.1, x.2.2)) ∧ (∀ x ∈ kvs, H2 x.2.1 = some (.tup (x.1.map kV))) ∧ (kvs.map (·.1)).Nodup ∧ kvs.length ≤ 15 ∧ Q (.ref p) (upd H2 p (.dT (kvs.map fun x => (x.1, x.2.2))))
theorem trip_of {X : Cx} {pins : List (Addr × Obj)} {σ : St} {H : Hp} {s : Shared} (I : Inv X pins σ H s) : ∀ {kvs : List (List Key × Addr × V)} {ws : List (Value × Value)}, VV (kvs.map fun x => (V.ref x.2.1, x.2.2)) ws → (∀ x ∈ kvs, H x.2.1 = some (.tup (x.1.map kV))) →
    ∃ xs : List (List Key × Addr × Value), CarriesH (tupleKind (mixKind X.prog X.w)) s.heap ws xs ∧ xs.map (·.1) = kvs.map (·.1) ∧ xs.length = kvs.length ∧ ∀ {H' : Hp}, (∀ x ∈ kvs, H' x.2.1 = some (.tup (x.1.map kV))) → KT H' (kvs.map fun x => (x.1, x.2.2)) xs
  | [], _, r, _ => by
    cases r
    exact ⟨[], trivial, rfl, rfl, fun _ => .nil⟩
  | x :: kvs, _, r, h => by
    rw [List.map_cons] at r
    cases r with
    | @cons a b as bs h1 h2 =>
      obtain ⟨xs, q1, q2, q3, q4⟩ := trip_of I h2 fun y hy => h y (List.mem_cons_of_mem _ hy)
      obtain ⟨b1, b2⟩ := b
      obtain ⟨r1, r2⟩ := h1
      cases (show b1 = Value.ref x.2.1 from r1)
      exact ⟨(x.1, x.2.1, b2) :: xs, ⟨rfl, rfl, key_of I.hok (h x List.mem_cons_self), q1⟩, by rw [List.map_cons, List.map_cons, q2], by simp [q3], fun hh => .cons ⟨rfl, hh x List.mem_cons_self, r2⟩ (q4 fun y hy => hh y (List.mem_cons_of_mem _ hy))⟩
theorem pe_dispTs {X : Cx} {pos : Pos} {keys : List (Option Expr)} {values : List Expr} {trs : List (TE × TE)} (hu : X.A.units + 1 < cLine) (h : PPs X pos keys values trs) (hall : keys.all (·.isSome) = true) (hl : keys.length = values.length) (h0 : pairTrees keys values X.env pos ≠ []) (h15 : (pairTrees keys values X.env pos).length ≤ 15) : PE X (.Dict keys values pos) (tDispTs trs) := by
  refine ⟨fun pins s σ H Q I q => ?_⟩
  have hn := I.hok.fresh (Nat.le_refl s.heap.objs.size)
  have I1 := I.laid (a := s.heap.objs.size) (o := .dT []) (h' := s.heap.push { cls := .type "dict", data := .dict #[] }) (t' := s.toks) (fun _ _ q => Heap.get?_push_of_some _ q) (Nat.le_refl _) (dt_empty s.heap I.big)
  have hsh := zip_pairTrees keys values X.env pos hall hl
  rw [arm_eval_Dict, hsh, dictDisplay_pairs (pairTrees keys values X.env pos) h0 (by omega)]
  refine wpAny_bind (wpAny_standAt (wpAny_bind (wpAny_subDictH (knd := tupleKind (mixKind X.prog X.w)) (Q := fun d s' => wpAny (model X.prog X.w) X.A (pure (Value.ref d)) (EP X pins σ Q) X.xe s') (show X.A.units < cLine by omega) h15 ?_)))
  refine thn (h.run pins _ σ _ _ I1 (q _ hn)) fun ws s2 ⟨ps, H2, I2, rel, e, kvs, ep, hk, hnd, hlen, q2⟩ => ?_
  subst ep
  obtain ⟨xs, c1, c2, c3, c4⟩ := trip_of I2 rel hk
  obtain ⟨z, hd, xs0, rel0, dd⟩ := dt_of I2.hok e
  obtain rfl : xs0 = [] := by cases rel0; rfl
  refine ⟨xs, c1, dd, fun h' tk dd' hs => wpAny_pure ⟨.ref s.heap.objs.size, _, ?_, rfl, q2⟩⟩
  have hst : storedAllH [] xs = xs := by
    have := storedAll_new xs [] (by rw [List.nil_append, c2]; exact hnd)
    rw [this, List.nil_append]
  rw [hst] at dd'
  have dd0 := dd'
  obtain ⟨o, es, ep, h1, h2, h3, h4, _, h5⟩ := dd'
  refine d_write I2 (by rw [e]; exact True.intro) hs ⟨o, h1⟩ ⟨by rw [List.length_map, sizeLine_eq]; omega, hd, xs, c4 fun x hx => ?_, o, es, ep, h1, h2, h3, h4, h5⟩
  have ne : x.2.1 ≠ s.heap.objs.size := ne_of (hk x hx) e (fun z => nomatch z)
  rw [upd_ne ne]
  exact hk x hx
/-- keys and values told one by one -/
inductive DispOk (X : Cx) (T : List (Addr × Str)) (σ : St) (H : Hp) : List (Option Expr) → List Expr → List (List Nat × PyData) → Prop
  | nil : DispOk X T σ H [] [] []
  | cons {a b : Expr} {ks : List (Option Expr)} {vs : List Expr} {l : List Nat} {d : PyData} {es : List (List Nat × PyData)} : Er X T a σ H (tP l) → Ed X T b σ H d → DispOk X T σ H ks vs es → DispOk X T σ H (some a :: ks) (b :: vs) ((l, d) :: es)
def RelT (K : PySem.W.Frag) (H : Hp) (kvs : List (List Key × Addr × V)) (es : List (List Nat × PyData)) : Prop := kvs.map (·.1) = es.map (fun e => keyN e.1) ∧ (∀ x ∈ kvs, H x.2.1 = some (.tup (x.1.map kV))) ∧ DpAll K H (kvs.map (·.2.2)) (es.map (·.2))
theorem zip_rel {K : PySem.W.Frag} {H : Hp} : ∀ {kvs : List (List Key × Addr × V)} {es : List (List Nat × PyData)}, kvs.map (·.1) = es.map (fun e => keyN e.1) → kvs.map (fun x => (x.1, x.2.2)) = zipT es (kvs.map (·.2.2))
  | [], [], _ => rfl
  | x :: kvs, e :: es, h => by
    rw [List.map_cons, List.map_cons] at h
    injection h with h1 h2
    rw [List.map_cons, zip_rel (K := K) (H := H) h2, h1]
    rfl
  | [], _ :: _, h => by cases h
  | _ :: _, [], h => by cases h
section
variable {X : Cx} {T : List (Addr × Str)} {σ : St} {H : Hp} {pos : Pos} {ks : List (Option Expr)} {vs : List Expr} {es : List (List Nat × PyData)}
theorem disp_pps (h : DispOk X T σ H ks vs es) : ∃ trs, PPs X pos ks vs trs ∧ ∀ H1, Le T [] H H1 → ∀ Q : List (V × V) → Hp → Prop, (∀ kvs H2, Le T [] H1 H2 → RelT X.K H2 kvs es → Q (kvs.map (fun x => (.ref x.2.1, x.2.2))) H2) → tPairs trs σ H1 Q := by
  induction h with
  | nil => exact ⟨[], pps_nil, fun H1 l Q q => q [] H1 .refl ⟨rfl, fun x hx => (by cases hx), .nil⟩⟩
  | @cons a b ks vs l d es h1 h2 h3 ih =>
    obtain ⟨trs, p1, p2⟩ := ih
    refine ⟨(WpE X a, WpE X b) :: trs, pps_cons we_pe we_pe p1, fun H1 lh Q q => ?_⟩
    refine h1 H1 lh _ fun v H2 l2 r2 => h2 H2 (lh.trans l2) _ fun u H3 l3 r3 => p2 H3 (lh.trans (l2.trans l3)) _ fun kvs H4 l4 ⟨q1, q2, q3⟩ => ?_
    obtain ⟨bb, rfl, hb⟩ := stab_tP _ _ _ (l3.trans l4) r2
    refine q ((keyN l, bb, u) :: kvs) H4 (l2.trans (l3.trans l4)) ⟨by rw [List.map_cons, List.map_cons, q1], fun x hx => ?_, .cons (l4.dp r3) q3⟩
    rcases List.mem_cons.mp hx with rfl | hx
    · show H4 bb = some (.tup ((keyN l).map kV))
      rw [keyN_kV]
      exact hb
    · exact q2 x hx
/-- {k: v, ..}, a new dict of maps -/
theorem er_dispTs (hu : X.A.units + 1 < cLine) (h : DispOk X T σ H ks vs es) (hn : (es.map (·.1)).Nodup) (h15 : es.length ≤ 15) (hall : ks.all (·.isSome) = true) (hl : ks.length = vs.length) (h0 : pairTrees ks vs X.env pos ≠ []) (hp : (pairTrees ks vs X.env pos).length ≤ 15) : Er X T (.Dict ks vs pos) σ H (FreshT X.K H es) := fun H1 l1 Q q => by
  obtain ⟨trs, p1, p2⟩ := disp_pps (pos := pos) h
  refine pe_we (pe_dispTs hu p1 hall hl h0 hp) ?_
  intro p hp0
  have lp : Le T [] H1 (upd H1 p (.dT [])) := .new hp0
  refine p2 _ (l1.trans lp) _ fun kvs H2 l2 ⟨q1, q2, q3⟩ => ?_
  have g3 : H2 p = some (.dT []) := l2.at upd_same (by simp) fun _ z => nomatch z
  have hlen : kvs.length = es.length := by
    have := congrArg List.length q1
    rwa [List.length_map, List.length_map] at this
  refine ⟨g3, kvs, rfl, q2, ?_, by omega, ?_⟩
  · rw [q1]
    have e : es.map (fun e => keyN e.1) = (es.map (·.1)).map keyN := by rw [List.map_map]; rfl
    rw [e]
    rw [List.nodup_iff_pairwise_ne] at hn ⊢
    rw [List.pairwise_map]
    exact hn.imp fun h z => h (keyN_inj z)
  · have lw : Le T [p] H2 (upd H2 p (.dT (kvs.map fun x => (x.1, x.2.2)))) := Le.refl.put g3 (.inl (by simp)) (fun ps z => by cases z) fun c q z => by unfold CodeO at z; cases z
    refine q _ _ (((lp.trans l2).up.trans lw).dropT fun z hz => ?_) ⟨p, rfl, l1.free hp0, kvs.map (·.2.2), ?_, lw.dpAS (noSeq_dT g3) q3⟩
    · obtain rfl : z = p := by simpa using hz
      exact .inl hp0
    · rw [upd_same, zip_rel (K := X.K) (H := H2) q1]
theorem disp_len (h : DispOk X T σ H ks vs es) : ks.all (·.isSome) = true ∧ ks.length = vs.length ∧ ks.length = es.length := by
  induction h with
  | nil => exact ⟨rfl, rfl, rfl⟩
  | cons _ _ _ ih => exact ⟨by simpa using ih.1, by simp [ih.2.1], by simp [ih.2.2]⟩
theorem er_dispTL (hu : X.A.units + 1 < cLine) (h : DispOk X T σ H ks vs es) (hn : (es.map (·.1)).Nodup) (h15 : es.length ≤ 15) (h0 : 0 < es.length) : Er X T (.Dict ks vs pos) σ H (FreshT X.K H es) := by
  obtain ⟨l1, l2, l3⟩ := disp_len h
  have l4 := pairTrees_length ks vs X.env pos l1 l2
  exact er_dispTs hu h hn h15 l1 l2 (fun z => by rw [z] at l4; simp at l4; omega) (by omega)
end
end RM
/-! a watch with very many maps: counted by the kernel -/
namespace RM
/-- the maps reached, each counted once, till so many are counted -/
def dfs (st : List (List Nat)) (most : Nat) : Nat → List (List Nat) → Nat → Nat → Bool
  | 0, _, _, _ => false
  | _ + 1, [], _, _ => false
  | k + 1, f :: q, mask, n => if mask.testBit (code 6 f) then dfs st most k q mask n else if n = most then true else dfs st most k (st.map (thenM f ·) ++ q) (mask ||| (1 <<< code 6 f)) (n + 1)
def Rch (m : List (List Nat)) (f : List Nat) : Prop := ∃ row, (∀ k ∈ row, k < kindsM m) ∧ f = mapBy m row
theorem rch_then {m : List (List Nat)} (hm : VM m) {f g : List Nat} (h : Rch m f) (hg : g ∈ kindMaps m) : Rch m (thenM f g) := by
  obtain ⟨row, h1, rfl⟩ := h
  obtain ⟨k, hk, rfl⟩ := List.mem_map.mp hg
  refine ⟨row ++ [k], fun x hx => ?_, (map_app hm h1).symm⟩
  rcases List.mem_append.mp hx with hx | hx
  · exact h1 x hx
  · obtain rfl := List.mem_singleton.mp hx
    exact List.mem_range.mp hk
theorem dfs_ok {m : List (List Nat)} (hm : VM m) {most : Nat} : ∀ (k : Nat) (q : List (List Nat)) (mask n : Nat) (vis : List (List Nat)), (∀ f ∈ q, Rch m f) → (∀ f ∈ vis, Rch m f ∧ mask.testBit (code 6 f) = true) → vis.Nodup → n = vis.length → dfs (kindMaps m) most k q mask n = true →
    ∃ vis' : List (List Nat), (∀ f ∈ vis', Rch m f) ∧ vis'.Nodup ∧ vis'.length = most + 1
  | 0, _, _, _, _, _, _, _, _, h => by cases h
  | _ + 1, [], _, _, _, _, _, _, _, h => by cases h
  | k + 1, f :: q, mask, n, vis, hq, hv, hn, hl, h => by
    have hf := hq f List.mem_cons_self
    have hq' : ∀ g ∈ q, Rch m g := fun g hg => hq g (List.mem_cons_of_mem _ hg)
    unfold dfs at h
    split at h
    · exact dfs_ok hm k q mask n vis hq' hv hn hl h
    · rename_i c
      have hnew : f ∉ vis := fun z => c (hv f z).2
      have hn' : (f :: vis).Nodup := List.nodup_cons.mpr ⟨hnew, hn⟩
      split at h
      · rename_i e
        refine ⟨f :: vis, fun g hg => ?_, hn', by rw [List.length_cons]; omega⟩
        rcases List.mem_cons.mp hg with rfl | hg
        · exact hf
        · exact (hv g hg).1
      · refine dfs_ok hm k _ _ (n + 1) (f :: vis) (fun g hg => ?_) (fun g hg => ?_) hn' (by rw [List.length_cons]; omega) h
        · rcases List.mem_append.mp hg with hg | hg
          · obtain ⟨x, hx, rfl⟩ := List.mem_map.mp hg
            exact rch_then hm hf hx
          · exact hq' g hg
        · rcases List.mem_cons.mp hg with rfl | hg
          · refine ⟨hf, ?_⟩
            rw [Nat.testBit_or, Nat.one_shiftLeft, Nat.testBit_two_pow_self, Bool.or_true]
          · refine ⟨(hv g hg).1, ?_⟩
            rw [Nat.testBit_or, (hv g hg).2, Bool.true_or]
def wideM : List (List Nat) := [[1, 1, 1], [2, 0, 2], [3, 2, 3], [4, 3, 4], [5, 4, 5], [0, 5, 5]]
theorem vm_wide : VM wideM := ⟨by decide, by decide, by decide, by decide, by decide⟩
theorem wide_many : dfs [[1, 2, 3, 4, 5, 0], [1, 0, 2, 3, 4, 5], [1, 2, 3, 4, 5, 5]] 2000 6000 [[0, 1, 2, 3, 4, 5]] 0 0 = true := by decide +kernel
theorem wide_kinds : kindMaps wideM = [[1, 2, 3, 4, 5, 0], [1, 0, 2, 3, 4, 5], [1, 2, 3, 4, 5, 5]] := by decide
theorem wide_stop {j : Nat} (h : Stop wideM j) : ¬ (allM wideM j).length ≤ 2000 := fun hl => by
  obtain ⟨vis, h1, h2, h3⟩ := dfs_ok vm_wide (most := 2000) 6000 [[0, 1, 2, 3, 4, 5]] 0 0 [] (fun f hf => by
    obtain rfl := List.mem_singleton.mp hf
    exact ⟨[], fun k hk => (by cases hk), by decide⟩) (fun f hf => by cases hf) List.nodup_nil rfl (by rw [wide_kinds]; exact wide_many)
  have h4 := nodup_le (b := (allM wideM j).map (·.1)) h2 fun f hf => by
    obtain ⟨row, r1, rfl⟩ := h1 f hf
    obtain ⟨e, he, e1⟩ := hasK_iff.mp (h.has vm_wide r1)
    exact List.mem_map.mpr ⟨e, he, e1⟩
  rw [List.length_map, h3] at h4
  omega
end RM
namespace RM
open PySem PySem.Spec L2 LamX
open PyProof.Rows hiding St
def top (i : Nat) : Stmt := PySem.Challenge.pw_rowmaps_k00_maps_of_rows.main.body.getD i (.Pass ⟨0, 0, 0, 0⟩)
abbrev PR : Program := PySem.Challenge.pw_rowmaps_k00_maps_of_rows
abbrev s_PartError___init__ : Stmt := inClass (top 2) 0
def d_PartError___init__ : DefR := { at_ := fun K => He.ma K (He.ga K ("PartError" : Str)) ("__init__" : Str), name := ("__init__" : Str), qual := ("PartError.__init__" : Str), params := defArgs s_PartError___init__, body := defBody s_PartError___init__, scope := defScope s_PartError___init__, clo := [("__class__" : Str)] }
abbrev s_ItemError___init__ : Stmt := inClass (top 3) 0
def d_ItemError___init__ : DefR := { at_ := fun K => He.ma K (He.ga K ("ItemError" : Str)) ("__init__" : Str), name := ("__init__" : Str), qual := ("ItemError.__init__" : Str), params := defArgs s_ItemError___init__, body := defBody s_ItemError___init__, scope := defScope s_ItemError___init__, clo := [("__class__" : Str)] }
abbrev s_TooMany___init__ : Stmt := inClass (top 4) 0
def d_TooMany___init__ : DefR := { at_ := fun K => He.ma K (He.ga K ("TooMany" : Str)) ("__init__" : Str), name := ("__init__" : Str), qual := ("TooMany.__init__" : Str), params := defArgs s_TooMany___init__, body := defBody s_TooMany___init__, scope := defScope s_TooMany___init__, clo := [("__class__" : Str)] }
abbrev s_is_number : Stmt := top 10
def d_is_number : DefR := { at_ := fun K => He.ga K ("is_number" : Str), name := ("is_number" : Str), qual := ("is_number" : Str), params := defArgs s_is_number, body := defBody s_is_number, scope := defScope s_is_number }
abbrev s_is_between : Stmt := top 11
def d_is_between : DefR := { at_ := fun K => He.ga K ("is_between" : Str), name := ("is_between" : Str), qual := ("is_between" : Str), params := defArgs s_is_between, body := defBody s_is_between, scope := defScope s_is_between }
abbrev s_is_list : Stmt := top 12
def d_is_list : DefR := { at_ := fun K => He.ga K ("is_list" : Str), name := ("is_list" : Str), qual := ("is_list" : Str), params := defArgs s_is_list, body := defBody s_is_list, scope := defScope s_is_list }
abbrev s_first_wrong : Stmt := top 17
def d_first_wrong : DefR := { at_ := fun K => He.ga K ("first_wrong" : Str), name := ("first_wrong" : Str), qual := ("first_wrong" : Str), params := defArgs s_first_wrong, body := defBody s_first_wrong, scope := defScope s_first_wrong }
abbrev s_is_short_list : Stmt := top 18
def d_is_short_list : DefR := { at_ := fun K => He.ga K ("is_short_list" : Str), name := ("is_short_list" : Str), qual := ("is_short_list" : Str), params := defArgs s_is_short_list, body := defBody s_is_short_list, scope := defScope s_is_short_list }
abbrev s_need_row : Stmt := top 19
def d_need_row : DefR := { at_ := fun K => He.ga K ("need_row" : Str), name := ("need_row" : Str), qual := ("need_row" : Str), params := defArgs s_need_row, body := defBody s_need_row, scope := defScope s_need_row }
abbrev s_need_row_of : Stmt := top 20
def d_need_row_of : DefR := { at_ := fun K => He.ga K ("need_row_of" : Str), name := ("need_row_of" : Str), qual := ("need_row_of" : Str), params := defArgs s_need_row_of, body := defBody s_need_row_of, scope := defScope s_need_row_of }
abbrev s_is_word : Stmt := top 21
def d_is_word : DefR := { at_ := fun K => He.ga K ("is_word" : Str), name := ("is_word" : Str), qual := ("is_word" : Str), params := defArgs s_is_word, body := defBody s_is_word, scope := defScope s_is_word }
abbrev s_is_line : Stmt := top 24
def d_is_line : DefR := { at_ := fun K => He.ga K ("is_line" : Str), name := ("is_line" : Str), qual := ("is_line" : Str), params := defArgs s_is_line, body := defBody s_is_line, scope := defScope s_is_line }
abbrev s_need_moves : Stmt := top 25
def d_need_moves : DefR := { at_ := fun K => He.ga K ("need_moves" : Str), name := ("need_moves" : Str), qual := ("need_moves" : Str), params := defArgs s_need_moves, body := defBody s_need_moves, scope := defScope s_need_moves }
abbrev s_need_words : Stmt := top 26
def d_need_words : DefR := { at_ := fun K => He.ga K ("need_words" : Str), name := ("need_words" : Str), qual := ("need_words" : Str), params := defArgs s_need_words, body := defBody s_need_words, scope := defScope s_need_words }
abbrev s_Watch___init__ : Stmt := inClass (top 27) 0
def d_Watch___init__ : DefR := { at_ := fun K => He.ma K (He.ga K ("Watch" : Str)) ("__init__" : Str), name := ("__init__" : Str), qual := ("Watch.__init__" : Str), params := defArgs s_Watch___init__, body := defBody s_Watch___init__, scope := defScope s_Watch___init__ }
abbrev s_Watch_moves : Stmt := inClass (top 27) 1
def d_Watch_moves : DefR := { at_ := fun K => propGet ("Watch" : Str) ("moves" : Str) K, name := ("moves" : Str), qual := ("Watch.moves" : Str), params := defArgs s_Watch_moves, body := defBody s_Watch_moves, scope := defScope s_Watch_moves }
abbrev s_Watch_words : Stmt := inClass (top 27) 2
def d_Watch_words : DefR := { at_ := fun K => propGet ("Watch" : Str) ("words" : Str) K, name := ("words" : Str), qual := ("Watch.words" : Str), params := defArgs s_Watch_words, body := defBody s_Watch_words, scope := defScope s_Watch_words }
abbrev s_Watch_kinds : Stmt := inClass (top 27) 3
def d_Watch_kinds : DefR := { at_ := fun K => propGet ("Watch" : Str) ("kinds" : Str) K, name := ("kinds" : Str), qual := ("Watch.kinds" : Str), params := defArgs s_Watch_kinds, body := defBody s_Watch_kinds, scope := defScope s_Watch_kinds }
abbrev s_Watch___eq__ : Stmt := inClass (top 27) 4
def d_Watch___eq__ : DefR := { at_ := fun K => He.ma K (He.ga K ("Watch" : Str)) ("__eq__" : Str), name := ("__eq__" : Str), qual := ("Watch.__eq__" : Str), params := defArgs s_Watch___eq__, body := defBody s_Watch___eq__, scope := defScope s_Watch___eq__ }
abbrev s_need_watch : Stmt := top 28
def d_need_watch : DefR := { at_ := fun K => He.ga K ("need_watch" : Str), name := ("need_watch" : Str), qual := ("need_watch" : Str), params := defArgs s_need_watch, body := defBody s_need_watch, scope := defScope s_need_watch, dfl := [.non] }
abbrev s_led_from : Stmt := top 29
def d_led_from : DefR := { at_ := fun K => He.ga K ("led_from" : Str), name := ("led_from" : Str), qual := ("led_from" : Str), params := defArgs s_led_from, body := defBody s_led_from, scope := defScope s_led_from }
abbrev s_map_by : Stmt := top 32
def d_map_by : DefR := { at_ := fun K => He.ga K ("map_by" : Str), name := ("map_by" : Str), qual := ("map_by" : Str), params := defArgs s_map_by, body := defBody s_map_by, scope := defScope s_map_by }
abbrev s_map_of : Stmt := top 33
def d_map_of : DefR := { at_ := fun K => He.ga K ("map_of" : Str), name := ("map_of" : Str), qual := ("map_of" : Str), params := defArgs s_map_of, body := defBody s_map_of, scope := defScope s_map_of }
abbrev s_then : Stmt := top 34
def d_then : DefR := { at_ := fun K => He.ga K ("then" : Str), name := ("then" : Str), qual := ("then" : Str), params := defArgs s_then, body := defBody s_then, scope := defScope s_then }
abbrev s_kind_maps : Stmt := top 35
def d_kind_maps : DefR := { at_ := fun K => He.ga K ("kind_maps" : Str), name := ("kind_maps" : Str), qual := ("kind_maps" : Str), params := defArgs s_kind_maps, body := defBody s_kind_maps, scope := defScope s_kind_maps }
abbrev s_maps_by : Stmt := top 36
def d_maps_by : DefR := { at_ := fun K => He.ga K ("maps_by" : Str), name := ("maps_by" : Str), qual := ("maps_by" : Str), params := defArgs s_maps_by, body := defBody s_maps_by, scope := defScope s_maps_by }
abbrev s_map_rows : Stmt := top 37
def d_map_rows : DefR := { at_ := fun K => He.ga K ("map_rows" : Str), name := ("map_rows" : Str), qual := ("map_rows" : Str), params := defArgs s_map_rows, body := defBody s_map_rows, scope := defScope s_map_rows }
abbrev s_is_map : Stmt := top 38
def d_is_map : DefR := { at_ := fun K => He.ga K ("is_map" : Str), name := ("is_map" : Str), qual := ("is_map" : Str), params := defArgs s_is_map, body := defBody s_is_map, scope := defScope s_is_map }
abbrev s__law_begun : Stmt := top 40
def d__law_begun : DefR := { at_ := fun K => He.ga K ("_law_begun" : Str), name := ("_law_begun" : Str), qual := ("_law_begun" : Str), params := defArgs s__law_begun, body := defBody s__law_begun, scope := defScope s__law_begun }
abbrev s__law_blend : Stmt := top 41
def d__law_blend : DefR := { at_ := fun K => He.ga K ("_law_blend" : Str), name := ("_law_blend" : Str), qual := ("_law_blend" : Str), params := defArgs s__law_blend, body := defBody s__law_blend, scope := defScope s__law_blend }
abbrev s__law_draw : Stmt := top 42
def d__law_draw : DefR := { at_ := fun K => He.ga K ("_law_draw" : Str), name := ("_law_draw" : Str), qual := ("_law_draw" : Str), params := defArgs s__law_draw, body := defBody s__law_draw, scope := defScope s__law_draw }
abbrev s__law_pick : Stmt := top 43
def d__law_pick : DefR := { at_ := fun K => He.ga K ("_law_pick" : Str), name := ("_law_pick" : Str), qual := ("_law_pick" : Str), params := defArgs s__law_pick, body := defBody s__law_pick, scope := defScope s__law_pick }
abbrev s__law_caught : Stmt := top 44
def d__law_caught : DefR := { at_ := fun K => He.ga K ("_law_caught" : Str), name := ("_law_caught" : Str), qual := ("_law_caught" : Str), params := defArgs s__law_caught, body := defBody s__law_caught, scope := defScope s__law_caught }
abbrev s__law_watch : Stmt := top 45
def d__law_watch : DefR := { at_ := fun K => He.ga K ("_law_watch" : Str), name := ("_law_watch" : Str), qual := ("_law_watch" : Str), params := defArgs s__law_watch, body := defBody s__law_watch, scope := defScope s__law_watch }
abbrev s__law_made : Stmt := top 46
def d__law_made : DefR := { at_ := fun K => He.ga K ("_law_made" : Str), name := ("_law_made" : Str), qual := ("_law_made" : Str), params := defArgs s__law_made, body := defBody s__law_made, scope := defScope s__law_made }
abbrev s__law_row : Stmt := top 47
def d__law_row : DefR := { at_ := fun K => He.ga K ("_law_row" : Str), name := ("_law_row" : Str), qual := ("_law_row" : Str), params := defArgs s__law_row, body := defBody s__law_row, scope := defScope s__law_row }
abbrev s__law_map : Stmt := top 48
def d__law_map : DefR := { at_ := fun K => He.ga K ("_law_map" : Str), name := ("_law_map" : Str), qual := ("_law_map" : Str), params := defArgs s__law_map, body := defBody s__law_map, scope := defScope s__law_map }
abbrev s__law_then : Stmt := top 49
def d__law_then : DefR := { at_ := fun K => He.ga K ("_law_then" : Str), name := ("_law_then" : Str), qual := ("_law_then" : Str), params := defArgs s__law_then, body := defBody s__law_then, scope := defScope s__law_then }
abbrev s__law_maps : Stmt := top 50
def d__law_maps : DefR := { at_ := fun K => He.ga K ("_law_maps" : Str), name := ("_law_maps" : Str), qual := ("_law_maps" : Str), params := defArgs s__law_maps, body := defBody s__law_maps, scope := defScope s__law_maps }
abbrev s_law : Stmt := top 51
def d_law : DefR := { at_ := fun K => He.ga K ("law" : Str), name := ("law" : Str), qual := ("law" : Str), params := defArgs s_law, body := defBody s_law, scope := defScope s_law }
def fn : List DefR := [d_PartError___init__, d_ItemError___init__, d_TooMany___init__, d_is_number, d_is_between, d_is_list, d_first_wrong, d_is_short_list, d_need_row, d_need_row_of, d_is_word, d_is_line, d_need_moves, d_need_words, d_Watch___init__, d_Watch_moves, d_Watch_words, d_Watch_kinds, d_Watch___eq__, d_need_watch, d_led_from, d_map_by, d_map_of, d_then, d_kind_maps, d_maps_by, d_map_rows, d_is_map, d__law_begun, d__law_blend, d__law_draw, d__law_pick, d__law_caught, d__law_watch, d__law_made, d__law_row, d__law_map, d__law_then, d__law_maps, d_law]
def tf : List He.Defn := [(("need_row_of" : Str), none), (("need_moves" : Str), none), (("law" : Str), none)]
def fb : List (PySem.W.Frag → Bool) := [gloB ("is_number" : Str), gloB ("is_between" : Str), gloB ("is_list" : Str), gloB ("first_wrong" : Str), gloB ("is_short_list" : Str), gloB ("need_row" : Str), gloB ("need_row_of" : Str), gloB ("is_word" : Str), gloB ("is_line" : Str), gloB ("need_moves" : Str), gloB ("need_words" : Str), gloB ("need_watch" : Str), gloB ("led_from" : Str), gloB ("map_by" : Str), gloB ("map_of" : Str), gloB ("then" : Str), gloB ("kind_maps" : Str), gloB ("maps_by" : Str), gloB ("map_rows" : Str), gloB ("is_map" : Str), gloB ("_law_begun" : Str), gloB ("_law_blend" : Str), gloB ("_law_draw" : Str), gloB ("_law_pick" : Str), gloB ("_law_caught" : Str), gloB ("_law_watch" : Str), gloB ("_law_made" : Str), gloB ("_law_row" : Str), gloB ("_law_map" : Str), gloB ("_law_then" : Str), gloB ("_law_maps" : Str), gloB ("law" : Str), gloB ("WatchError" : Str), gloB ("PartError" : Str), gloB ("ItemError" : Str), gloB ("TooMany" : Str), gloB ("NoWatch" : Str), gloB ("BadMoves" : Str), gloB ("BadWords" : Str), gloB ("BadRow" : Str), gloB ("Watch" : Str), freeB ("super" : Str), freeB ("isinstance" : Str), freeB ("int" : Str), freeB ("bool" : Str), freeB ("list" : Str), freeB ("tuple" : Str), freeB ("enumerate" : Str), freeB ("len" : Str), freeB ("all" : Str), freeB ("property" : Str), freeB ("range" : Str), freeB ("abs" : Str), freeB ("min" : Str), freeB ("repr" : Str), intB ("MOST_EVENTS" : Str) 300, intB ("MOST_KINDS" : Str) 4, intB ("MOST_WORD" : Str) 3, intB ("MOST_PLACES" : Str) 6, intB ("MOST_MAPS" : Str) 2000, clsB ("Watch" : Str), mkrB ("Watch" : Str), insKB ("Watch" : Str), kitTyB ("Watch" : Str), noatB ("Watch" : Str) ("own_moves" : Str), noatB ("Watch" : Str) ("own_words" : Str), propB ("Watch" : Str) ("moves" : Str), propB ("Watch" : Str) ("words" : Str), propB ("Watch" : Str) ("kinds" : Str), initB PR.main.file ("PartError" : Str), pclsB ("PartError" : Str) ("PartError" : Str) ("part" : Str), excKB ("PartError" : Str), exmB ("PartError" : Str) ("WatchError" : Str) true, initB PR.main.file ("ItemError" : Str), pclsB ("ItemError" : Str) ("ItemError" : Str) ("index" : Str), excKB ("ItemError" : Str), exmB ("ItemError" : Str) ("WatchError" : Str) true, initB PR.main.file ("TooMany" : Str), pclsB ("TooMany" : Str) ("TooMany" : Str) ("most" : Str), excKB ("TooMany" : Str), exmB ("TooMany" : Str) ("WatchError" : Str) true, pclsB ("NoWatch" : Str) ("PartError" : Str) ("part" : Str), excKB ("NoWatch" : Str), exmB ("NoWatch" : Str) ("WatchError" : Str) true, pclsB ("BadMoves" : Str) ("ItemError" : Str) ("index" : Str), excKB ("BadMoves" : Str), exmB ("BadMoves" : Str) ("WatchError" : Str) true, pclsB ("BadWords" : Str) ("ItemError" : Str) ("index" : Str), excKB ("BadWords" : Str), exmB ("BadWords" : Str) ("WatchError" : Str) true, pclsB ("BadRow" : Str) ("ItemError" : Str) ("index" : Str), excKB ("BadRow" : Str), exmB ("BadRow" : Str) ("WatchError" : Str) true, distB tf]
def TT (K : PySem.W.Frag) : List (Addr × Str) := [((He.cT K (("need_row_of" : Str), none)).2, ("need_row_of.<locals>.<lambda>" : Str)), ((He.cT K (("need_moves" : Str), none)).2, ("need_moves.<locals>.<lambda>" : Str)), ((He.cT K (("law" : Str), none)).2, ("law.<locals>.<lambda>" : Str))]
theorem mT_need_row_of {K : PySem.W.Frag} {x : Str} (h : x = ("need_row_of.<locals>.<lambda>" : Str)) : ((He.cT K (("need_row_of" : Str), none)).2, x) ∈ TT K := by subst h; simp [TT]
theorem mT_need_moves {K : PySem.W.Frag} {x : Str} (h : x = ("need_moves.<locals>.<lambda>" : Str)) : ((He.cT K (("need_moves" : Str), none)).2, x) ∈ TT K := by subst h; simp [TT]
theorem mT_law {K : PySem.W.Frag} {x : Str} (h : x = ("law.<locals>.<lambda>" : Str)) : ((He.cT K (("law" : Str), none)).2, x) ∈ TT K := by subst h; simp [TT]
abbrev Tx (P : Program) (K : PySem.W.Frag) (mg : Str → Option Value) : Prop := TxG fb fn tf PR P K mg
abbrev Wd (P : Program) (K : PySem.W.Frag) (mg : Str → Option Value) (base : Heap) : Prop := WdG fb fn tf PR P K mg base
section
variable {P : Program} {w : World} {K : PySem.W.Frag} {mg : Str → Option Value} {base : Heap} (t : Tx P K mg)
include t
theorem g_is_number : mg ("is_number" : Str) = some (.ref (He.ga K ("is_number" : Str))) := t.glo 0 rfl
theorem g_is_between : mg ("is_between" : Str) = some (.ref (He.ga K ("is_between" : Str))) := t.glo 1 rfl
theorem g_is_list : mg ("is_list" : Str) = some (.ref (He.ga K ("is_list" : Str))) := t.glo 2 rfl
theorem g_first_wrong : mg ("first_wrong" : Str) = some (.ref (He.ga K ("first_wrong" : Str))) := t.glo 3 rfl
theorem g_is_short_list : mg ("is_short_list" : Str) = some (.ref (He.ga K ("is_short_list" : Str))) := t.glo 4 rfl
theorem g_need_row : mg ("need_row" : Str) = some (.ref (He.ga K ("need_row" : Str))) := t.glo 5 rfl
theorem g_need_row_of : mg ("need_row_of" : Str) = some (.ref (He.ga K ("need_row_of" : Str))) := t.glo 6 rfl
theorem g_is_word : mg ("is_word" : Str) = some (.ref (He.ga K ("is_word" : Str))) := t.glo 7 rfl
theorem g_is_line : mg ("is_line" : Str) = some (.ref (He.ga K ("is_line" : Str))) := t.glo 8 rfl
theorem g_need_moves : mg ("need_moves" : Str) = some (.ref (He.ga K ("need_moves" : Str))) := t.glo 9 rfl
theorem g_need_words : mg ("need_words" : Str) = some (.ref (He.ga K ("need_words" : Str))) := t.glo 10 rfl
theorem g_need_watch : mg ("need_watch" : Str) = some (.ref (He.ga K ("need_watch" : Str))) := t.glo 11 rfl
theorem g_led_from : mg ("led_from" : Str) = some (.ref (He.ga K ("led_from" : Str))) := t.glo 12 rfl
theorem g_map_by : mg ("map_by" : Str) = some (.ref (He.ga K ("map_by" : Str))) := t.glo 13 rfl
theorem g_map_of : mg ("map_of" : Str) = some (.ref (He.ga K ("map_of" : Str))) := t.glo 14 rfl
theorem g_then : mg ("then" : Str) = some (.ref (He.ga K ("then" : Str))) := t.glo 15 rfl
theorem g_kind_maps : mg ("kind_maps" : Str) = some (.ref (He.ga K ("kind_maps" : Str))) := t.glo 16 rfl
theorem g_maps_by : mg ("maps_by" : Str) = some (.ref (He.ga K ("maps_by" : Str))) := t.glo 17 rfl
theorem g_map_rows : mg ("map_rows" : Str) = some (.ref (He.ga K ("map_rows" : Str))) := t.glo 18 rfl
theorem g_is_map : mg ("is_map" : Str) = some (.ref (He.ga K ("is_map" : Str))) := t.glo 19 rfl
theorem g__law_begun : mg ("_law_begun" : Str) = some (.ref (He.ga K ("_law_begun" : Str))) := t.glo 20 rfl
theorem g__law_blend : mg ("_law_blend" : Str) = some (.ref (He.ga K ("_law_blend" : Str))) := t.glo 21 rfl
theorem g__law_draw : mg ("_law_draw" : Str) = some (.ref (He.ga K ("_law_draw" : Str))) := t.glo 22 rfl
theorem g__law_pick : mg ("_law_pick" : Str) = some (.ref (He.ga K ("_law_pick" : Str))) := t.glo 23 rfl
theorem g__law_caught : mg ("_law_caught" : Str) = some (.ref (He.ga K ("_law_caught" : Str))) := t.glo 24 rfl
theorem g__law_watch : mg ("_law_watch" : Str) = some (.ref (He.ga K ("_law_watch" : Str))) := t.glo 25 rfl
theorem g__law_made : mg ("_law_made" : Str) = some (.ref (He.ga K ("_law_made" : Str))) := t.glo 26 rfl
theorem g__law_row : mg ("_law_row" : Str) = some (.ref (He.ga K ("_law_row" : Str))) := t.glo 27 rfl
theorem g__law_map : mg ("_law_map" : Str) = some (.ref (He.ga K ("_law_map" : Str))) := t.glo 28 rfl
theorem g__law_then : mg ("_law_then" : Str) = some (.ref (He.ga K ("_law_then" : Str))) := t.glo 29 rfl
theorem g__law_maps : mg ("_law_maps" : Str) = some (.ref (He.ga K ("_law_maps" : Str))) := t.glo 30 rfl
theorem g_law : mg ("law" : Str) = some (.ref (He.ga K ("law" : Str))) := t.glo 31 rfl
theorem g_WatchError : mg ("WatchError" : Str) = some (.ref (He.ga K ("WatchError" : Str))) := t.glo 32 rfl
theorem g_PartError : mg ("PartError" : Str) = some (.ref (He.ga K ("PartError" : Str))) := t.glo 33 rfl
theorem g_ItemError : mg ("ItemError" : Str) = some (.ref (He.ga K ("ItemError" : Str))) := t.glo 34 rfl
theorem g_TooMany : mg ("TooMany" : Str) = some (.ref (He.ga K ("TooMany" : Str))) := t.glo 35 rfl
theorem g_NoWatch : mg ("NoWatch" : Str) = some (.ref (He.ga K ("NoWatch" : Str))) := t.glo 36 rfl
theorem g_BadMoves : mg ("BadMoves" : Str) = some (.ref (He.ga K ("BadMoves" : Str))) := t.glo 37 rfl
theorem g_BadWords : mg ("BadWords" : Str) = some (.ref (He.ga K ("BadWords" : Str))) := t.glo 38 rfl
theorem g_BadRow : mg ("BadRow" : Str) = some (.ref (He.ga K ("BadRow" : Str))) := t.glo 39 rfl
theorem g_Watch : mg ("Watch" : Str) = some (.ref (He.ga K ("Watch" : Str))) := t.glo 40 rfl
theorem n_super : mg ("super" : Str) = none := t.free 41 rfl
theorem n_isinstance : mg ("isinstance" : Str) = none := t.free 42 rfl
theorem n_int : mg ("int" : Str) = none := t.free 43 rfl
theorem n_bool : mg ("bool" : Str) = none := t.free 44 rfl
theorem n_list : mg ("list" : Str) = none := t.free 45 rfl
theorem n_tuple : mg ("tuple" : Str) = none := t.free 46 rfl
theorem n_enumerate : mg ("enumerate" : Str) = none := t.free 47 rfl
theorem n_len : mg ("len" : Str) = none := t.free 48 rfl
theorem n_all : mg ("all" : Str) = none := t.free 49 rfl
theorem n_property : mg ("property" : Str) = none := t.free 50 rfl
theorem n_range : mg ("range" : Str) = none := t.free 51 rfl
theorem n_abs : mg ("abs" : Str) = none := t.free 52 rfl
theorem n_min : mg ("min" : Str) = none := t.free 53 rfl
theorem n_repr : mg ("repr" : Str) = none := t.free 54 rfl
theorem i_MOST_EVENTS : ∃ t, mg ("MOST_EVENTS" : Str) = some (.int 300 t) := t.int 55 rfl
theorem i_MOST_KINDS : ∃ t, mg ("MOST_KINDS" : Str) = some (.int 4 t) := t.int 56 rfl
theorem i_MOST_WORD : ∃ t, mg ("MOST_WORD" : Str) = some (.int 3 t) := t.int 57 rfl
theorem i_MOST_PLACES : ∃ t, mg ("MOST_PLACES" : Str) = some (.int 6 t) := t.int 58 rfl
theorem i_MOST_MAPS : ∃ t, mg ("MOST_MAPS" : Str) = some (.int 2000 t) := t.int 59 rfl
theorem cls_Watch : Cls K (He.ga K ("Watch" : Str)) := He.cls_ok (t.fact 60 rfl)
theorem mkr_Watch : Mk K (He.ga K ("Watch" : Str)) (He.ma K (He.ga K ("Watch" : Str)) "__init__") := He.mkr_ok (t.fact 61 rfl)
theorem insK_Watch : insKB ("Watch" : Str) K = true := t.fact 62 rfl
theorem kitT_Watch : kitTyB ("Watch" : Str) K = true := t.fact 63 rfl
theorem noat_Watch_own_moves : NoAttr K (He.ga K ("Watch" : Str)) ("own_moves" : Str) := He.noat_ok (t.fact 64 rfl)
theorem noat_Watch_own_words : NoAttr K (He.ga K ("Watch" : Str)) ("own_words" : Str) := He.noat_ok (t.fact 65 rfl)
theorem prop_Watch_moves : PropOf K (He.ga K ("Watch" : Str)) ("moves" : Str) (propAd ("Watch" : Str) ("moves" : Str) K) (propGet ("Watch" : Str) ("moves" : Str) K) := propB_ok (t.fact 66 rfl)
theorem prop_Watch_words : PropOf K (He.ga K ("Watch" : Str)) ("words" : Str) (propAd ("Watch" : Str) ("words" : Str) K) (propGet ("Watch" : Str) ("words" : Str) K) := propB_ok (t.fact 67 rfl)
theorem prop_Watch_kinds : PropOf K (He.ga K ("Watch" : Str)) ("kinds" : Str) (propAd ("Watch" : Str) ("kinds" : Str) K) (propGet ("Watch" : Str) ("kinds" : Str) K) := propB_ok (t.fact 68 rfl)
theorem excK_PartError : ExcK K (He.ga K ("PartError" : Str)) := excKB_ok (t.fact 71 rfl)
theorem exm_PartError : PySem.W.exmOne K (.ref (He.ga K ("PartError" : Str))) (.ref (He.ga K "WatchError")) = some true := He.exm_ok (t.fact 72 rfl)
theorem excK_ItemError : ExcK K (He.ga K ("ItemError" : Str)) := excKB_ok (t.fact 75 rfl)
theorem exm_ItemError : PySem.W.exmOne K (.ref (He.ga K ("ItemError" : Str))) (.ref (He.ga K "WatchError")) = some true := He.exm_ok (t.fact 76 rfl)
theorem excK_TooMany : ExcK K (He.ga K ("TooMany" : Str)) := excKB_ok (t.fact 79 rfl)
theorem exm_TooMany : PySem.W.exmOne K (.ref (He.ga K ("TooMany" : Str))) (.ref (He.ga K "WatchError")) = some true := He.exm_ok (t.fact 80 rfl)
theorem excK_NoWatch : ExcK K (He.ga K ("NoWatch" : Str)) := excKB_ok (t.fact 82 rfl)
theorem exm_NoWatch : PySem.W.exmOne K (.ref (He.ga K ("NoWatch" : Str))) (.ref (He.ga K "WatchError")) = some true := He.exm_ok (t.fact 83 rfl)
theorem excK_BadMoves : ExcK K (He.ga K ("BadMoves" : Str)) := excKB_ok (t.fact 85 rfl)
theorem exm_BadMoves : PySem.W.exmOne K (.ref (He.ga K ("BadMoves" : Str))) (.ref (He.ga K "WatchError")) = some true := He.exm_ok (t.fact 86 rfl)
theorem excK_BadWords : ExcK K (He.ga K ("BadWords" : Str)) := excKB_ok (t.fact 88 rfl)
theorem exm_BadWords : PySem.W.exmOne K (.ref (He.ga K ("BadWords" : Str))) (.ref (He.ga K "WatchError")) = some true := He.exm_ok (t.fact 89 rfl)
theorem excK_BadRow : ExcK K (He.ga K ("BadRow" : Str)) := excKB_ok (t.fact 91 rfl)
theorem exm_BadRow : PySem.W.exmOne K (.ref (He.ga K ("BadRow" : Str))) (.ref (He.ga K "WatchError")) = some true := He.exm_ok (t.fact 92 rfl)
theorem ndT : ((TT K).map (·.1)).Nodup := of_decide_eq_true (He.ba (t.fact 93 rfl)).1
theorem fr_PartError___init__ : FunR K d_PartError___init__ (fdOf K (d_PartError___init__.at_ K)) := t.fnc 0 rfl
theorem fr_ItemError___init__ : FunR K d_ItemError___init__ (fdOf K (d_ItemError___init__.at_ K)) := t.fnc 1 rfl
theorem fr_TooMany___init__ : FunR K d_TooMany___init__ (fdOf K (d_TooMany___init__.at_ K)) := t.fnc 2 rfl
theorem fr_is_number : FunR K d_is_number (fdOf K (d_is_number.at_ K)) := t.fnc 3 rfl
theorem f_is_number : FunD K ("is_number" : Str) d_is_number.qual (defArgs s_is_number) (defBody s_is_number) (defScope s_is_number) (d_is_number.dvs K) [] (d_is_number.at_ K) (fdOf K (d_is_number.at_ K)) := (fr_is_number t).funD rfl
theorem k_is_number : PySem.W.keepIn K (.ref (d_is_number.at_ K)) = true := (fr_is_number t).kp
theorem b_is_number : Binds K (fdOf K (d_is_number.at_ K)) [("thing" : Str)] [] := FunD.bindsN (f_is_number t) fun _ _ _ _ _ _ us hl => match us, hl with | [_], _ => rfl
theorem fr_is_between : FunR K d_is_between (fdOf K (d_is_between.at_ K)) := t.fnc 4 rfl
theorem f_is_between : FunD K ("is_between" : Str) d_is_between.qual (defArgs s_is_between) (defBody s_is_between) (defScope s_is_between) (d_is_between.dvs K) [] (d_is_between.at_ K) (fdOf K (d_is_between.at_ K)) := (fr_is_between t).funD rfl
theorem k_is_between : PySem.W.keepIn K (.ref (d_is_between.at_ K)) = true := (fr_is_between t).kp
theorem b_is_between : Binds K (fdOf K (d_is_between.at_ K)) [("thing" : Str), ("low" : Str), ("high" : Str)] [] := FunD.bindsN (f_is_between t) fun _ _ _ _ _ _ us hl => match us, hl with | [_, _, _], _ => rfl
theorem fr_is_list : FunR K d_is_list (fdOf K (d_is_list.at_ K)) := t.fnc 5 rfl
theorem f_is_list : FunD K ("is_list" : Str) d_is_list.qual (defArgs s_is_list) (defBody s_is_list) (defScope s_is_list) (d_is_list.dvs K) [] (d_is_list.at_ K) (fdOf K (d_is_list.at_ K)) := (fr_is_list t).funD rfl
theorem k_is_list : PySem.W.keepIn K (.ref (d_is_list.at_ K)) = true := (fr_is_list t).kp
theorem b_is_list : Binds K (fdOf K (d_is_list.at_ K)) [("thing" : Str)] [] := FunD.bindsN (f_is_list t) fun _ _ _ _ _ _ us hl => match us, hl with | [_], _ => rfl
theorem fr_first_wrong : FunR K d_first_wrong (fdOf K (d_first_wrong.at_ K)) := t.fnc 6 rfl
theorem f_first_wrong : FunD K ("first_wrong" : Str) d_first_wrong.qual (defArgs s_first_wrong) (defBody s_first_wrong) (defScope s_first_wrong) (d_first_wrong.dvs K) [] (d_first_wrong.at_ K) (fdOf K (d_first_wrong.at_ K)) := (fr_first_wrong t).funD rfl
theorem k_first_wrong : PySem.W.keepIn K (.ref (d_first_wrong.at_ K)) = true := (fr_first_wrong t).kp
theorem b_first_wrong : Binds K (fdOf K (d_first_wrong.at_ K)) [("several" : Str), ("fits" : Str)] [] := FunD.bindsN (f_first_wrong t) fun _ _ _ _ _ _ us hl => match us, hl with | [_, _], _ => rfl
theorem fr_is_short_list : FunR K d_is_short_list (fdOf K (d_is_short_list.at_ K)) := t.fnc 7 rfl
theorem f_is_short_list : FunD K ("is_short_list" : Str) d_is_short_list.qual (defArgs s_is_short_list) (defBody s_is_short_list) (defScope s_is_short_list) (d_is_short_list.dvs K) [] (d_is_short_list.at_ K) (fdOf K (d_is_short_list.at_ K)) := (fr_is_short_list t).funD rfl
theorem k_is_short_list : PySem.W.keepIn K (.ref (d_is_short_list.at_ K)) = true := (fr_is_short_list t).kp
theorem b_is_short_list : Binds K (fdOf K (d_is_short_list.at_ K)) [("thing" : Str)] [] := FunD.bindsN (f_is_short_list t) fun _ _ _ _ _ _ us hl => match us, hl with | [_], _ => rfl
theorem fr_need_row : FunR K d_need_row (fdOf K (d_need_row.at_ K)) := t.fnc 8 rfl
theorem f_need_row : FunD K ("need_row" : Str) d_need_row.qual (defArgs s_need_row) (defBody s_need_row) (defScope s_need_row) (d_need_row.dvs K) [] (d_need_row.at_ K) (fdOf K (d_need_row.at_ K)) := (fr_need_row t).funD rfl
theorem k_need_row : PySem.W.keepIn K (.ref (d_need_row.at_ K)) = true := (fr_need_row t).kp
theorem b_need_row : Binds K (fdOf K (d_need_row.at_ K)) [("watch" : Str), ("row" : Str)] [] := FunD.bindsN (f_need_row t) fun _ _ _ _ _ _ us hl => match us, hl with | [_, _], _ => rfl
theorem fr_need_row_of : FunR K d_need_row_of (fdOf K (d_need_row_of.at_ K)) := t.fnc 9 rfl
theorem f_need_row_of : FunD K ("need_row_of" : Str) d_need_row_of.qual (defArgs s_need_row_of) (defBody s_need_row_of) (defScope s_need_row_of) (d_need_row_of.dvs K) [] (d_need_row_of.at_ K) (fdOf K (d_need_row_of.at_ K)) := (fr_need_row_of t).funD rfl
theorem co_need_row_of : ∃ (oc : Value) (od : Option Addr) (osl : Array (Option Value)), K.lookup (d_need_row_of.at_ K) = some ⟨oc, od, .func (fdOf K (d_need_row_of.at_ K)), osl⟩ ∧ (fdOf K (d_need_row_of.at_ K)).code = .ref (He.cT K (("need_row_of" : Str), none)).1 := (fr_need_row_of t).co (p := (("need_row_of" : Str), none)) rfl
theorem k_need_row_of : PySem.W.keepIn K (.ref (d_need_row_of.at_ K)) = true := (fr_need_row_of t).kp
theorem b_need_row_of : Binds K (fdOf K (d_need_row_of.at_ K)) [("kinds" : Str), ("row" : Str)] [] := FunD.bindsN (f_need_row_of t) fun _ _ _ _ _ _ us hl => match us, hl with | [_, _], _ => rfl
theorem fr_is_word : FunR K d_is_word (fdOf K (d_is_word.at_ K)) := t.fnc 10 rfl
theorem f_is_word : FunD K ("is_word" : Str) d_is_word.qual (defArgs s_is_word) (defBody s_is_word) (defScope s_is_word) (d_is_word.dvs K) [] (d_is_word.at_ K) (fdOf K (d_is_word.at_ K)) := (fr_is_word t).funD rfl
theorem k_is_word : PySem.W.keepIn K (.ref (d_is_word.at_ K)) = true := (fr_is_word t).kp
theorem b_is_word : Binds K (fdOf K (d_is_word.at_ K)) [("thing" : Str)] [] := FunD.bindsN (f_is_word t) fun _ _ _ _ _ _ us hl => match us, hl with | [_], _ => rfl
theorem fr_is_line : FunR K d_is_line (fdOf K (d_is_line.at_ K)) := t.fnc 11 rfl
theorem f_is_line : FunD K ("is_line" : Str) d_is_line.qual (defArgs s_is_line) (defBody s_is_line) (defScope s_is_line) (d_is_line.dvs K) [] (d_is_line.at_ K) (fdOf K (d_is_line.at_ K)) := (fr_is_line t).funD rfl
theorem k_is_line : PySem.W.keepIn K (.ref (d_is_line.at_ K)) = true := (fr_is_line t).kp
theorem b_is_line : Binds K (fdOf K (d_is_line.at_ K)) [("thing" : Str), ("kinds" : Str), ("places" : Str)] [] := FunD.bindsN (f_is_line t) fun _ _ _ _ _ _ us hl => match us, hl with | [_, _, _], _ => rfl
theorem fr_need_moves : FunR K d_need_moves (fdOf K (d_need_moves.at_ K)) := t.fnc 12 rfl
theorem f_need_moves : FunD K ("need_moves" : Str) d_need_moves.qual (defArgs s_need_moves) (defBody s_need_moves) (defScope s_need_moves) (d_need_moves.dvs K) [] (d_need_moves.at_ K) (fdOf K (d_need_moves.at_ K)) := (fr_need_moves t).funD rfl
theorem co_need_moves : ∃ (oc : Value) (od : Option Addr) (osl : Array (Option Value)), K.lookup (d_need_moves.at_ K) = some ⟨oc, od, .func (fdOf K (d_need_moves.at_ K)), osl⟩ ∧ (fdOf K (d_need_moves.at_ K)).code = .ref (He.cT K (("need_moves" : Str), none)).1 := (fr_need_moves t).co (p := (("need_moves" : Str), none)) rfl
theorem k_need_moves : PySem.W.keepIn K (.ref (d_need_moves.at_ K)) = true := (fr_need_moves t).kp
theorem b_need_moves : Binds K (fdOf K (d_need_moves.at_ K)) [("moves" : Str)] [] := FunD.bindsN (f_need_moves t) fun _ _ _ _ _ _ us hl => match us, hl with | [_], _ => rfl
theorem fr_need_words : FunR K d_need_words (fdOf K (d_need_words.at_ K)) := t.fnc 13 rfl
theorem f_need_words : FunD K ("need_words" : Str) d_need_words.qual (defArgs s_need_words) (defBody s_need_words) (defScope s_need_words) (d_need_words.dvs K) [] (d_need_words.at_ K) (fdOf K (d_need_words.at_ K)) := (fr_need_words t).funD rfl
theorem k_need_words : PySem.W.keepIn K (.ref (d_need_words.at_ K)) = true := (fr_need_words t).kp
theorem b_need_words : Binds K (fdOf K (d_need_words.at_ K)) [("words" : Str), ("many" : Str)] [] := FunD.bindsN (f_need_words t) fun _ _ _ _ _ _ us hl => match us, hl with | [_, _], _ => rfl
theorem fr_Watch___init__ : FunR K d_Watch___init__ (fdOf K (d_Watch___init__.at_ K)) := t.fnc 14 rfl
theorem f_Watch___init__ : FunD K ("__init__" : Str) d_Watch___init__.qual (defArgs s_Watch___init__) (defBody s_Watch___init__) (defScope s_Watch___init__) (d_Watch___init__.dvs K) [] (d_Watch___init__.at_ K) (fdOf K (d_Watch___init__.at_ K)) := (fr_Watch___init__ t).funD rfl
theorem k_Watch___init__ : PySem.W.keepIn K (.ref (d_Watch___init__.at_ K)) = true := (fr_Watch___init__ t).kp
theorem b_Watch___init__ : Binds K (fdOf K (d_Watch___init__.at_ K)) [("self" : Str), ("moves" : Str), ("words" : Str)] [] := FunD.bindsN (f_Watch___init__ t) fun _ _ _ _ _ _ us hl => match us, hl with | [_, _, _], _ => rfl
theorem fr_Watch_moves : FunR K d_Watch_moves (fdOf K (d_Watch_moves.at_ K)) := t.fnc 15 rfl
theorem f_Watch_moves : FunD K ("moves" : Str) d_Watch_moves.qual (defArgs s_Watch_moves) (defBody s_Watch_moves) (defScope s_Watch_moves) (d_Watch_moves.dvs K) [] (d_Watch_moves.at_ K) (fdOf K (d_Watch_moves.at_ K)) := (fr_Watch_moves t).funD rfl
theorem k_Watch_moves : PySem.W.keepIn K (.ref (d_Watch_moves.at_ K)) = true := (fr_Watch_moves t).kp
theorem b_Watch_moves : Binds K (fdOf K (d_Watch_moves.at_ K)) [("self" : Str)] [] := FunD.bindsN (f_Watch_moves t) fun _ _ _ _ _ _ us hl => match us, hl with | [_], _ => rfl
theorem fr_Watch_words : FunR K d_Watch_words (fdOf K (d_Watch_words.at_ K)) := t.fnc 16 rfl
theorem f_Watch_words : FunD K ("words" : Str) d_Watch_words.qual (defArgs s_Watch_words) (defBody s_Watch_words) (defScope s_Watch_words) (d_Watch_words.dvs K) [] (d_Watch_words.at_ K) (fdOf K (d_Watch_words.at_ K)) := (fr_Watch_words t).funD rfl
theorem k_Watch_words : PySem.W.keepIn K (.ref (d_Watch_words.at_ K)) = true := (fr_Watch_words t).kp
theorem b_Watch_words : Binds K (fdOf K (d_Watch_words.at_ K)) [("self" : Str)] [] := FunD.bindsN (f_Watch_words t) fun _ _ _ _ _ _ us hl => match us, hl with | [_], _ => rfl
theorem fr_Watch_kinds : FunR K d_Watch_kinds (fdOf K (d_Watch_kinds.at_ K)) := t.fnc 17 rfl
theorem f_Watch_kinds : FunD K ("kinds" : Str) d_Watch_kinds.qual (defArgs s_Watch_kinds) (defBody s_Watch_kinds) (defScope s_Watch_kinds) (d_Watch_kinds.dvs K) [] (d_Watch_kinds.at_ K) (fdOf K (d_Watch_kinds.at_ K)) := (fr_Watch_kinds t).funD rfl
theorem k_Watch_kinds : PySem.W.keepIn K (.ref (d_Watch_kinds.at_ K)) = true := (fr_Watch_kinds t).kp
theorem b_Watch_kinds : Binds K (fdOf K (d_Watch_kinds.at_ K)) [("self" : Str)] [] := FunD.bindsN (f_Watch_kinds t) fun _ _ _ _ _ _ us hl => match us, hl with | [_], _ => rfl
theorem fr_Watch___eq__ : FunR K d_Watch___eq__ (fdOf K (d_Watch___eq__.at_ K)) := t.fnc 18 rfl
theorem f_Watch___eq__ : FunD K ("__eq__" : Str) d_Watch___eq__.qual (defArgs s_Watch___eq__) (defBody s_Watch___eq__) (defScope s_Watch___eq__) (d_Watch___eq__.dvs K) [] (d_Watch___eq__.at_ K) (fdOf K (d_Watch___eq__.at_ K)) := (fr_Watch___eq__ t).funD rfl
theorem k_Watch___eq__ : PySem.W.keepIn K (.ref (d_Watch___eq__.at_ K)) = true := (fr_Watch___eq__ t).kp
theorem b_Watch___eq__ : Binds K (fdOf K (d_Watch___eq__.at_ K)) [("self" : Str), ("other" : Str)] [] := FunD.bindsN (f_Watch___eq__ t) fun _ _ _ _ _ _ us hl => match us, hl with | [_, _], _ => rfl
theorem fr_need_watch : FunR K d_need_watch (fdOf K (d_need_watch.at_ K)) := t.fnc 19 rfl
theorem f_need_watch : FunD K ("need_watch" : Str) d_need_watch.qual (defArgs s_need_watch) (defBody s_need_watch) (defScope s_need_watch) (d_need_watch.dvs K) [] (d_need_watch.at_ K) (fdOf K (d_need_watch.at_ K)) := (fr_need_watch t).funD rfl
theorem k_need_watch : PySem.W.keepIn K (.ref (d_need_watch.at_ K)) = true := (fr_need_watch t).kp
theorem fr_led_from : FunR K d_led_from (fdOf K (d_led_from.at_ K)) := t.fnc 20 rfl
theorem f_led_from : FunD K ("led_from" : Str) d_led_from.qual (defArgs s_led_from) (defBody s_led_from) (defScope s_led_from) (d_led_from.dvs K) [] (d_led_from.at_ K) (fdOf K (d_led_from.at_ K)) := (fr_led_from t).funD rfl
theorem k_led_from : PySem.W.keepIn K (.ref (d_led_from.at_ K)) = true := (fr_led_from t).kp
theorem b_led_from : Binds K (fdOf K (d_led_from.at_ K)) [("watch" : Str), ("place" : Str), ("row" : Str)] [] := FunD.bindsN (f_led_from t) fun _ _ _ _ _ _ us hl => match us, hl with | [_, _, _], _ => rfl
theorem fr_map_by : FunR K d_map_by (fdOf K (d_map_by.at_ K)) := t.fnc 21 rfl
theorem f_map_by : FunD K ("map_by" : Str) d_map_by.qual (defArgs s_map_by) (defBody s_map_by) (defScope s_map_by) (d_map_by.dvs K) [] (d_map_by.at_ K) (fdOf K (d_map_by.at_ K)) := (fr_map_by t).funD rfl
theorem k_map_by : PySem.W.keepIn K (.ref (d_map_by.at_ K)) = true := (fr_map_by t).kp
theorem b_map_by : Binds K (fdOf K (d_map_by.at_ K)) [("watch" : Str), ("row" : Str)] [] := FunD.bindsN (f_map_by t) fun _ _ _ _ _ _ us hl => match us, hl with | [_, _], _ => rfl
theorem fr_map_of : FunR K d_map_of (fdOf K (d_map_of.at_ K)) := t.fnc 22 rfl
theorem f_map_of : FunD K ("map_of" : Str) d_map_of.qual (defArgs s_map_of) (defBody s_map_of) (defScope s_map_of) (d_map_of.dvs K) [] (d_map_of.at_ K) (fdOf K (d_map_of.at_ K)) := (fr_map_of t).funD rfl
theorem k_map_of : PySem.W.keepIn K (.ref (d_map_of.at_ K)) = true := (fr_map_of t).kp
theorem b_map_of : Binds K (fdOf K (d_map_of.at_ K)) [("watch" : Str), ("row" : Str)] [] := FunD.bindsN (f_map_of t) fun _ _ _ _ _ _ us hl => match us, hl with | [_, _], _ => rfl
theorem fr_then : FunR K d_then (fdOf K (d_then.at_ K)) := t.fnc 23 rfl
theorem f_then : FunD K ("then" : Str) d_then.qual (defArgs s_then) (defBody s_then) (defScope s_then) (d_then.dvs K) [] (d_then.at_ K) (fdOf K (d_then.at_ K)) := (fr_then t).funD rfl
theorem k_then : PySem.W.keepIn K (.ref (d_then.at_ K)) = true := (fr_then t).kp
theorem b_then : Binds K (fdOf K (d_then.at_ K)) [("one" : Str), ("other" : Str)] [] := FunD.bindsN (f_then t) fun _ _ _ _ _ _ us hl => match us, hl with | [_, _], _ => rfl
theorem fr_kind_maps : FunR K d_kind_maps (fdOf K (d_kind_maps.at_ K)) := t.fnc 24 rfl
theorem f_kind_maps : FunD K ("kind_maps" : Str) d_kind_maps.qual (defArgs s_kind_maps) (defBody s_kind_maps) (defScope s_kind_maps) (d_kind_maps.dvs K) [] (d_kind_maps.at_ K) (fdOf K (d_kind_maps.at_ K)) := (fr_kind_maps t).funD rfl
theorem k_kind_maps : PySem.W.keepIn K (.ref (d_kind_maps.at_ K)) = true := (fr_kind_maps t).kp
theorem b_kind_maps : Binds K (fdOf K (d_kind_maps.at_ K)) [("watch" : Str)] [] := FunD.bindsN (f_kind_maps t) fun _ _ _ _ _ _ us hl => match us, hl with | [_], _ => rfl
theorem fr_maps_by : FunR K d_maps_by (fdOf K (d_maps_by.at_ K)) := t.fnc 25 rfl
theorem f_maps_by : FunD K ("maps_by" : Str) d_maps_by.qual (defArgs s_maps_by) (defBody s_maps_by) (defScope s_maps_by) (d_maps_by.dvs K) [] (d_maps_by.at_ K) (fdOf K (d_maps_by.at_ K)) := (fr_maps_by t).funD rfl
theorem k_maps_by : PySem.W.keepIn K (.ref (d_maps_by.at_ K)) = true := (fr_maps_by t).kp
theorem b_maps_by : Binds K (fdOf K (d_maps_by.at_ K)) [("watch" : Str)] [] := FunD.bindsN (f_maps_by t) fun _ _ _ _ _ _ us hl => match us, hl with | [_], _ => rfl
theorem fr_map_rows : FunR K d_map_rows (fdOf K (d_map_rows.at_ K)) := t.fnc 26 rfl
theorem f_map_rows : FunD K ("map_rows" : Str) d_map_rows.qual (defArgs s_map_rows) (defBody s_map_rows) (defScope s_map_rows) (d_map_rows.dvs K) [] (d_map_rows.at_ K) (fdOf K (d_map_rows.at_ K)) := (fr_map_rows t).funD rfl
theorem k_map_rows : PySem.W.keepIn K (.ref (d_map_rows.at_ K)) = true := (fr_map_rows t).kp
theorem b_map_rows : Binds K (fdOf K (d_map_rows.at_ K)) [("watch" : Str)] [] := FunD.bindsN (f_map_rows t) fun _ _ _ _ _ _ us hl => match us, hl with | [_], _ => rfl
theorem fr_is_map : FunR K d_is_map (fdOf K (d_is_map.at_ K)) := t.fnc 27 rfl
theorem f_is_map : FunD K ("is_map" : Str) d_is_map.qual (defArgs s_is_map) (defBody s_is_map) (defScope s_is_map) (d_is_map.dvs K) [] (d_is_map.at_ K) (fdOf K (d_is_map.at_ K)) := (fr_is_map t).funD rfl
theorem k_is_map : PySem.W.keepIn K (.ref (d_is_map.at_ K)) = true := (fr_is_map t).kp
theorem b_is_map : Binds K (fdOf K (d_is_map.at_ K)) [("watch" : Str), ("thing" : Str)] [] := FunD.bindsN (f_is_map t) fun _ _ _ _ _ _ us hl => match us, hl with | [_, _], _ => rfl
theorem fr__law_begun : FunR K d__law_begun (fdOf K (d__law_begun.at_ K)) := t.fnc 28 rfl
theorem f__law_begun : FunD K ("_law_begun" : Str) d__law_begun.qual (defArgs s__law_begun) (defBody s__law_begun) (defScope s__law_begun) (d__law_begun.dvs K) [] (d__law_begun.at_ K) (fdOf K (d__law_begun.at_ K)) := (fr__law_begun t).funD rfl
theorem k__law_begun : PySem.W.keepIn K (.ref (d__law_begun.at_ K)) = true := (fr__law_begun t).kp
theorem b__law_begun : Binds K (fdOf K (d__law_begun.at_ K)) [("script" : Str)] [] := FunD.bindsN (f__law_begun t) fun _ _ _ _ _ _ us hl => match us, hl with | [_], _ => rfl
theorem fr__law_blend : FunR K d__law_blend (fdOf K (d__law_blend.at_ K)) := t.fnc 29 rfl
theorem f__law_blend : FunD K ("_law_blend" : Str) d__law_blend.qual (defArgs s__law_blend) (defBody s__law_blend) (defScope s__law_blend) (d__law_blend.dvs K) [] (d__law_blend.at_ K) (fdOf K (d__law_blend.at_ K)) := (fr__law_blend t).funD rfl
theorem k__law_blend : PySem.W.keepIn K (.ref (d__law_blend.at_ K)) = true := (fr__law_blend t).kp
theorem b__law_blend : Binds K (fdOf K (d__law_blend.at_ K)) [("tape" : Str)] [] := FunD.bindsN (f__law_blend t) fun _ _ _ _ _ _ us hl => match us, hl with | [_], _ => rfl
theorem fr__law_draw : FunR K d__law_draw (fdOf K (d__law_draw.at_ K)) := t.fnc 30 rfl
theorem f__law_draw : FunD K ("_law_draw" : Str) d__law_draw.qual (defArgs s__law_draw) (defBody s__law_draw) (defScope s__law_draw) (d__law_draw.dvs K) [] (d__law_draw.at_ K) (fdOf K (d__law_draw.at_ K)) := (fr__law_draw t).funD rfl
theorem k__law_draw : PySem.W.keepIn K (.ref (d__law_draw.at_ K)) = true := (fr__law_draw t).kp
theorem b__law_draw : Binds K (fdOf K (d__law_draw.at_ K)) [("tape" : Str), ("size" : Str)] [] := FunD.bindsN (f__law_draw t) fun _ _ _ _ _ _ us hl => match us, hl with | [_, _], _ => rfl
theorem fr__law_pick : FunR K d__law_pick (fdOf K (d__law_pick.at_ K)) := t.fnc 31 rfl
theorem f__law_pick : FunD K ("_law_pick" : Str) d__law_pick.qual (defArgs s__law_pick) (defBody s__law_pick) (defScope s__law_pick) (d__law_pick.dvs K) [] (d__law_pick.at_ K) (fdOf K (d__law_pick.at_ K)) := (fr__law_pick t).funD rfl
theorem k__law_pick : PySem.W.keepIn K (.ref (d__law_pick.at_ K)) = true := (fr__law_pick t).kp
theorem b__law_pick : Binds K (fdOf K (d__law_pick.at_ K)) [("tape" : Str), ("several" : Str)] [] := FunD.bindsN (f__law_pick t) fun _ _ _ _ _ _ us hl => match us, hl with | [_, _], _ => rfl
theorem fr__law_caught : FunR K d__law_caught (fdOf K (d__law_caught.at_ K)) := t.fnc 32 rfl
theorem f__law_caught : FunD K ("_law_caught" : Str) d__law_caught.qual (defArgs s__law_caught) (defBody s__law_caught) (defScope s__law_caught) (d__law_caught.dvs K) [] (d__law_caught.at_ K) (fdOf K (d__law_caught.at_ K)) := (fr__law_caught t).funD rfl
theorem k__law_caught : PySem.W.keepIn K (.ref (d__law_caught.at_ K)) = true := (fr__law_caught t).kp
theorem b__law_caught : Binds K (fdOf K (d__law_caught.at_ K)) [("work" : Str)] [] := FunD.bindsN (f__law_caught t) fun _ _ _ _ _ _ us hl => match us, hl with | [_], _ => rfl
theorem fr__law_watch : FunR K d__law_watch (fdOf K (d__law_watch.at_ K)) := t.fnc 33 rfl
theorem f__law_watch : FunD K ("_law_watch" : Str) d__law_watch.qual (defArgs s__law_watch) (defBody s__law_watch) (defScope s__law_watch) (d__law_watch.dvs K) [] (d__law_watch.at_ K) (fdOf K (d__law_watch.at_ K)) := (fr__law_watch t).funD rfl
theorem k__law_watch : PySem.W.keepIn K (.ref (d__law_watch.at_ K)) = true := (fr__law_watch t).kp
theorem b__law_watch : Binds K (fdOf K (d__law_watch.at_ K)) [("tape" : Str), ("places" : Str), ("kinds" : Str), ("words" : Str)] [] := FunD.bindsN (f__law_watch t) fun _ _ _ _ _ _ us hl => match us, hl with | [_, _, _, _], _ => rfl
theorem fr__law_made : FunR K d__law_made (fdOf K (d__law_made.at_ K)) := t.fnc 34 rfl
theorem f__law_made : FunD K ("_law_made" : Str) d__law_made.qual (defArgs s__law_made) (defBody s__law_made) (defScope s__law_made) (d__law_made.dvs K) [] (d__law_made.at_ K) (fdOf K (d__law_made.at_ K)) := (fr__law_made t).funD rfl
theorem k__law_made : PySem.W.keepIn K (.ref (d__law_made.at_ K)) = true := (fr__law_made t).kp
theorem b__law_made : Binds K (fdOf K (d__law_made.at_ K)) [("watch" : Str)] [] := FunD.bindsN (f__law_made t) fun _ _ _ _ _ _ us hl => match us, hl with | [_], _ => rfl
theorem fr__law_row : FunR K d__law_row (fdOf K (d__law_row.at_ K)) := t.fnc 35 rfl
theorem f__law_row : FunD K ("_law_row" : Str) d__law_row.qual (defArgs s__law_row) (defBody s__law_row) (defScope s__law_row) (d__law_row.dvs K) [] (d__law_row.at_ K) (fdOf K (d__law_row.at_ K)) := (fr__law_row t).funD rfl
theorem k__law_row : PySem.W.keepIn K (.ref (d__law_row.at_ K)) = true := (fr__law_row t).kp
theorem b__law_row : Binds K (fdOf K (d__law_row.at_ K)) [("tape" : Str), ("watch" : Str), ("most" : Str)] [] := FunD.bindsN (f__law_row t) fun _ _ _ _ _ _ us hl => match us, hl with | [_, _, _], _ => rfl
theorem fr__law_map : FunR K d__law_map (fdOf K (d__law_map.at_ K)) := t.fnc 36 rfl
theorem f__law_map : FunD K ("_law_map" : Str) d__law_map.qual (defArgs s__law_map) (defBody s__law_map) (defScope s__law_map) (d__law_map.dvs K) [] (d__law_map.at_ K) (fdOf K (d__law_map.at_ K)) := (fr__law_map t).funD rfl
theorem k__law_map : PySem.W.keepIn K (.ref (d__law_map.at_ K)) = true := (fr__law_map t).kp
theorem b__law_map : Binds K (fdOf K (d__law_map.at_ K)) [("watch" : Str), ("row" : Str)] [] := FunD.bindsN (f__law_map t) fun _ _ _ _ _ _ us hl => match us, hl with | [_, _], _ => rfl
theorem fr__law_then : FunR K d__law_then (fdOf K (d__law_then.at_ K)) := t.fnc 37 rfl
theorem f__law_then : FunD K ("_law_then" : Str) d__law_then.qual (defArgs s__law_then) (defBody s__law_then) (defScope s__law_then) (d__law_then.dvs K) [] (d__law_then.at_ K) (fdOf K (d__law_then.at_ K)) := (fr__law_then t).funD rfl
theorem k__law_then : PySem.W.keepIn K (.ref (d__law_then.at_ K)) = true := (fr__law_then t).kp
theorem b__law_then : Binds K (fdOf K (d__law_then.at_ K)) [("one" : Str), ("other" : Str)] [] := FunD.bindsN (f__law_then t) fun _ _ _ _ _ _ us hl => match us, hl with | [_, _], _ => rfl
theorem fr__law_maps : FunR K d__law_maps (fdOf K (d__law_maps.at_ K)) := t.fnc 38 rfl
theorem f__law_maps : FunD K ("_law_maps" : Str) d__law_maps.qual (defArgs s__law_maps) (defBody s__law_maps) (defScope s__law_maps) (d__law_maps.dvs K) [] (d__law_maps.at_ K) (fdOf K (d__law_maps.at_ K)) := (fr__law_maps t).funD rfl
theorem k__law_maps : PySem.W.keepIn K (.ref (d__law_maps.at_ K)) = true := (fr__law_maps t).kp
theorem b__law_maps : Binds K (fdOf K (d__law_maps.at_ K)) [("watch" : Str), ("most" : Str)] [] := FunD.bindsN (f__law_maps t) fun _ _ _ _ _ _ us hl => match us, hl with | [_, _], _ => rfl
theorem fr_law : FunR K d_law (fdOf K (d_law.at_ K)) := t.fnc 39 rfl
theorem f_law : FunD K ("law" : Str) d_law.qual (defArgs s_law) (defBody s_law) (defScope s_law) (d_law.dvs K) [] (d_law.at_ K) (fdOf K (d_law.at_ K)) := (fr_law t).funD rfl
theorem co_law : ∃ (oc : Value) (od : Option Addr) (osl : Array (Option Value)), K.lookup (d_law.at_ K) = some ⟨oc, od, .func (fdOf K (d_law.at_ K)), osl⟩ ∧ (fdOf K (d_law.at_ K)).code = .ref (He.cT K (("law" : Str), none)).1 := (fr_law t).co (p := (("law" : Str), none)) rfl
theorem k_law : PySem.W.keepIn K (.ref (d_law.at_ K)) = true := (fr_law t).kp
theorem b_law : Binds K (fdOf K (d_law.at_ K)) [("script" : Str)] [] := FunD.bindsN (f_law t) fun _ _ _ _ _ _ us hl => match us, hl with | [_], _ => rfl
theorem rc_PartError : RaiseC P K mg ("PartError" : Str) (He.ga K ("PartError" : Str)) (He.ma K (He.ga K ("PartError" : Str)) "__init__") (He.ga K ("PartError" : Str)) ("part" : Str) := t.raiseC 69 70 (fr_PartError___init__ t) rfl rfl rfl rfl rfl rfl rfl rfl rfl (g_PartError t) (n_super t) (by decide +kernel) (by decide +kernel) (by decide)
theorem rc_ItemError : RaiseC P K mg ("ItemError" : Str) (He.ga K ("ItemError" : Str)) (He.ma K (He.ga K ("ItemError" : Str)) "__init__") (He.ga K ("ItemError" : Str)) ("index" : Str) := t.raiseC 73 74 (fr_ItemError___init__ t) rfl rfl rfl rfl rfl rfl rfl rfl rfl (g_ItemError t) (n_super t) (by decide +kernel) (by decide +kernel) (by decide)
theorem rc_TooMany : RaiseC P K mg ("TooMany" : Str) (He.ga K ("TooMany" : Str)) (He.ma K (He.ga K ("TooMany" : Str)) "__init__") (He.ga K ("TooMany" : Str)) ("most" : Str) := t.raiseC 77 78 (fr_TooMany___init__ t) rfl rfl rfl rfl rfl rfl rfl rfl rfl (g_TooMany t) (n_super t) (by decide +kernel) (by decide +kernel) (by decide)
theorem rc_NoWatch : RaiseC P K mg ("NoWatch" : Str) (He.ga K ("NoWatch" : Str)) (He.ma K (He.ga K ("PartError" : Str)) "__init__") (He.ga K ("PartError" : Str)) ("part" : Str) := t.raiseC 69 81 (fr_PartError___init__ t) rfl rfl rfl rfl rfl rfl rfl rfl rfl (g_NoWatch t) (n_super t) (by decide +kernel) (by decide +kernel) (by decide)
theorem rc_BadMoves : RaiseC P K mg ("BadMoves" : Str) (He.ga K ("BadMoves" : Str)) (He.ma K (He.ga K ("ItemError" : Str)) "__init__") (He.ga K ("ItemError" : Str)) ("index" : Str) := t.raiseC 73 84 (fr_ItemError___init__ t) rfl rfl rfl rfl rfl rfl rfl rfl rfl (g_BadMoves t) (n_super t) (by decide +kernel) (by decide +kernel) (by decide)
theorem rc_BadWords : RaiseC P K mg ("BadWords" : Str) (He.ga K ("BadWords" : Str)) (He.ma K (He.ga K ("ItemError" : Str)) "__init__") (He.ga K ("ItemError" : Str)) ("index" : Str) := t.raiseC 73 87 (fr_ItemError___init__ t) rfl rfl rfl rfl rfl rfl rfl rfl rfl (g_BadWords t) (n_super t) (by decide +kernel) (by decide +kernel) (by decide)
theorem rc_BadRow : RaiseC P K mg ("BadRow" : Str) (He.ga K ("BadRow" : Str)) (He.ma K (He.ga K ("ItemError" : Str)) "__init__") (He.ga K ("ItemError" : Str)) ("index" : Str) := t.raiseC 73 90 (fr_ItemError___init__ t) rfl rfl rfl rfl rfl rfl rfl rfl rfl (g_BadRow t) (n_super t) (by decide +kernel) (by decide +kernel) (by decide)
end
theorem sc_is_number : FnScope [("thing" : Str)] [("thing" : Str)] (defScope s_is_number) := ⟨rfl, rfl, rfl, by decide +kernel, rfl, by decide +kernel, by decide +kernel⟩
theorem sc_is_between : FnScope [("thing" : Str), ("low" : Str), ("high" : Str)] [("thing" : Str), ("low" : Str), ("high" : Str)] (defScope s_is_between) := ⟨rfl, rfl, rfl, by decide +kernel, rfl, by decide +kernel, by decide +kernel⟩
theorem sc_is_list : FnScope [("thing" : Str)] [("thing" : Str)] (defScope s_is_list) := ⟨rfl, rfl, rfl, by decide +kernel, rfl, by decide +kernel, by decide +kernel⟩
theorem sc_first_wrong : FnScope [("several" : Str), ("fits" : Str), ("index" : Str), ("item" : Str)] [("several" : Str), ("fits" : Str)] (defScope s_first_wrong) := ⟨rfl, rfl, rfl, by decide +kernel, rfl, by decide +kernel, by decide +kernel⟩
theorem sc_is_short_list : FnScope [("thing" : Str)] [("thing" : Str)] (defScope s_is_short_list) := ⟨rfl, rfl, rfl, by decide +kernel, rfl, by decide +kernel, by decide +kernel⟩
theorem sc_need_row : FnScope [("watch" : Str), ("row" : Str)] [("watch" : Str), ("row" : Str)] (defScope s_need_row) := ⟨rfl, rfl, rfl, by decide +kernel, rfl, by decide +kernel, by decide +kernel⟩
theorem sc_need_row_of : FnScope [("kinds" : Str), ("row" : Str), ("index" : Str)] [("kinds" : Str), ("row" : Str)] (defScope s_need_row_of) := ⟨rfl, rfl, rfl, by decide +kernel, rfl, by decide +kernel, by decide +kernel⟩
theorem sc_is_word : FnScope [("thing" : Str)] [("thing" : Str)] (defScope s_is_word) := ⟨rfl, rfl, rfl, by decide +kernel, rfl, by decide +kernel, by decide +kernel⟩
theorem sc_is_line : FnScope [("thing" : Str), ("kinds" : Str), ("places" : Str), ("item" : Str)] [("thing" : Str), ("kinds" : Str), ("places" : Str)] (defScope s_is_line) := ⟨rfl, rfl, rfl, by decide +kernel, rfl, by decide +kernel, by decide +kernel⟩
theorem sc_need_moves : FnScope [("moves" : Str), ("index" : Str), ("first" : Str)] [("moves" : Str)] (defScope s_need_moves) := ⟨rfl, rfl, rfl, by decide +kernel, rfl, by decide +kernel, by decide +kernel⟩
theorem sc_need_words : FnScope [("words" : Str), ("many" : Str), ("index" : Str)] [("words" : Str), ("many" : Str)] (defScope s_need_words) := ⟨rfl, rfl, rfl, by decide +kernel, rfl, by decide +kernel, by decide +kernel⟩
theorem sc_Watch___init__ : FnScope [("self" : Str), ("moves" : Str), ("words" : Str), ("line" : Str)] [("self" : Str), ("moves" : Str), ("words" : Str)] (defScope s_Watch___init__) := ⟨rfl, rfl, rfl, by decide +kernel, rfl, by decide +kernel, by decide +kernel⟩
theorem sc_Watch_moves : FnScope [("self" : Str)] [("self" : Str)] (defScope s_Watch_moves) := ⟨rfl, rfl, rfl, by decide +kernel, rfl, by decide +kernel, by decide +kernel⟩
theorem sc_Watch_words : FnScope [("self" : Str)] [("self" : Str)] (defScope s_Watch_words) := ⟨rfl, rfl, rfl, by decide +kernel, rfl, by decide +kernel, by decide +kernel⟩
theorem sc_Watch_kinds : FnScope [("self" : Str)] [("self" : Str)] (defScope s_Watch_kinds) := ⟨rfl, rfl, rfl, by decide +kernel, rfl, by decide +kernel, by decide +kernel⟩
theorem sc_Watch___eq__ : FnScope [("self" : Str), ("other" : Str)] [("self" : Str), ("other" : Str)] (defScope s_Watch___eq__) := ⟨rfl, rfl, rfl, by decide +kernel, rfl, by decide +kernel, by decide +kernel⟩
theorem sc_need_watch : FnScope [("watch" : Str), ("part" : Str)] [("watch" : Str), ("part" : Str)] (defScope s_need_watch) := ⟨rfl, rfl, rfl, by decide +kernel, rfl, by decide +kernel, by decide +kernel⟩
theorem sc_led_from : FnScope [("watch" : Str), ("place" : Str), ("row" : Str), ("kind" : Str)] [("watch" : Str), ("place" : Str), ("row" : Str)] (defScope s_led_from) := ⟨rfl, rfl, rfl, by decide +kernel, rfl, by decide +kernel, by decide +kernel⟩
theorem sc_map_by : FnScope [("watch" : Str), ("row" : Str), ("place" : Str)] [("watch" : Str), ("row" : Str)] (defScope s_map_by) := ⟨rfl, rfl, rfl, by decide +kernel, rfl, by decide +kernel, by decide +kernel⟩
theorem sc_map_of : FnScope [("watch" : Str), ("row" : Str)] [("watch" : Str), ("row" : Str)] (defScope s_map_of) := ⟨rfl, rfl, rfl, by decide +kernel, rfl, by decide +kernel, by decide +kernel⟩
theorem sc_then : FnScope [("one" : Str), ("other" : Str), ("place" : Str)] [("one" : Str), ("other" : Str)] (defScope s_then) := ⟨rfl, rfl, rfl, by decide +kernel, rfl, by decide +kernel, by decide +kernel⟩
theorem sc_kind_maps : FnScope [("watch" : Str), ("kind" : Str)] [("watch" : Str)] (defScope s_kind_maps) := ⟨rfl, rfl, rfl, by decide +kernel, rfl, by decide +kernel, by decide +kernel⟩
theorem sc_maps_by : FnScope [("watch" : Str), ("first" : Str), ("found" : Str), ("line" : Str), ("spot" : Str), ("steps" : Str), ("kind" : Str), ("step" : Str), ("later" : Str)] [("watch" : Str)] (defScope s_maps_by) := ⟨rfl, rfl, rfl, by decide +kernel, rfl, by decide +kernel, by decide +kernel⟩
theorem sc_map_rows : FnScope [("watch" : Str)] [("watch" : Str)] (defScope s_map_rows) := ⟨rfl, rfl, rfl, by decide +kernel, rfl, by decide +kernel, by decide +kernel⟩
theorem sc_is_map : FnScope [("watch" : Str), ("thing" : Str), ("place" : Str)] [("watch" : Str), ("thing" : Str)] (defScope s_is_map) := ⟨rfl, rfl, rfl, by decide +kernel, rfl, by decide +kernel, by decide +kernel⟩
theorem sc__law_begun : FnScope [("script" : Str), ("large" : Str), ("grain" : Str)] [("script" : Str)] (defScope s__law_begun) := ⟨rfl, rfl, rfl, by decide +kernel, rfl, by decide +kernel, by decide +kernel⟩
theorem sc__law_blend : FnScope [("tape" : Str), ("turn" : Str), ("found" : Str), ("great" : Str), ("blended" : Str), ("grain" : Str)] [("tape" : Str)] (defScope s__law_blend) := ⟨rfl, rfl, rfl, by decide +kernel, rfl, by decide +kernel, by decide +kernel⟩
theorem sc__law_draw : FnScope [("tape" : Str), ("size" : Str), ("found" : Str)] [("tape" : Str), ("size" : Str)] (defScope s__law_draw) := ⟨rfl, rfl, rfl, by decide +kernel, rfl, by decide +kernel, by decide +kernel⟩
theorem sc__law_pick : FnScope [("tape" : Str), ("several" : Str)] [("tape" : Str), ("several" : Str)] (defScope s__law_pick) := ⟨rfl, rfl, rfl, by decide +kernel, rfl, by decide +kernel, by decide +kernel⟩
theorem sc__law_caught : FnScope [("work" : Str), ("found" : Str), ("error" : Str)] [("work" : Str)] (defScope s__law_caught) := ⟨rfl, rfl, rfl, by decide +kernel, rfl, by decide +kernel, by decide +kernel⟩
theorem sc__law_watch : FnScope [("tape" : Str), ("places" : Str), ("kinds" : Str), ("words" : Str), ("many" : Str), ("moves" : Str), ("place" : Str), ("kind" : Str)] [("tape" : Str), ("places" : Str), ("kinds" : Str), ("words" : Str)] (defScope s__law_watch) := ⟨rfl, rfl, rfl, by decide +kernel, rfl, by decide +kernel, by decide +kernel⟩
theorem sc__law_made : FnScope [("watch" : Str), ("goals" : Str)] [("watch" : Str)] (defScope s__law_made) := ⟨rfl, rfl, rfl, by decide +kernel, rfl, by decide +kernel, by decide +kernel⟩
theorem sc__law_row : FnScope [("tape" : Str), ("watch" : Str), ("most" : Str), ("item" : Str)] [("tape" : Str), ("watch" : Str), ("most" : Str)] (defScope s__law_row) := ⟨rfl, rfl, rfl, by decide +kernel, rfl, by decide +kernel, by decide +kernel⟩
theorem sc__law_map : FnScope [("watch" : Str), ("row" : Str), ("found" : Str), ("place" : Str), ("kind" : Str)] [("watch" : Str), ("row" : Str)] (defScope s__law_map) := ⟨rfl, rfl, rfl, by decide +kernel, rfl, by decide +kernel, by decide +kernel⟩
theorem sc__law_then : FnScope [("one" : Str), ("other" : Str), ("place" : Str)] [("one" : Str), ("other" : Str)] (defScope s__law_then) := ⟨rfl, rfl, rfl, by decide +kernel, rfl, by decide +kernel, by decide +kernel⟩
theorem sc__law_maps : FnScope [("watch" : Str), ("most" : Str), ("kind" : Str), ("steps" : Str), ("first" : Str), ("found" : Str), ("level" : Str), ("lap" : Str), ("later" : Str), ("one" : Str), ("step" : Str), ("goal" : Str)] [("watch" : Str), ("most" : Str)] (defScope s__law_maps) := ⟨rfl, rfl, rfl, by decide +kernel, rfl, by decide +kernel, by decide +kernel⟩
theorem sc_law : FnScope [("script" : Str), ("lap" : Str), ("watch" : Str), ("one" : Str), ("other" : Str), ("due" : Str), ("told" : Str), ("thing" : Str), ("odd" : Str), ("caught" : Str), ("falls" : Str), ("here" : Str), ("tape" : Str), ("wide" : Str), ("found" : Str)] [("script" : Str)] (defScope s_law) := ⟨rfl, rfl, rfl, by decide +kernel, rfl, by decide +kernel, by decide +kernel⟩
end RM
namespace RM
open PySem PySem.Spec L2 LamX
open PyProof.Rows hiding St
/-! ### plain -/
def isNum : PyData → Bool
  | .int _ => true
  | _ => false
def isBet (d : PyData) (lo hi : Int) : Bool := match d with
  | .int i => decide (lo ≤ i) && decide (i ≤ hi)
  | _ => false
def isIntB : PyData → Bool
  | .int _ | .bool _ => true
  | _ => false
def isBoo : PyData → Bool
  | .bool _ => true
  | _ => false
def isLst : PyData → Bool
  | .list _ | .tuple _ => true
  | _ => false
def isListD : PyData → Bool
  | .list _ => true
  | _ => false
def isTupD : PyData → Bool
  | .tuple _ => true
  | _ => false
theorem kt_int (d : PyData) : kitB (tyD d) "int" = some (isIntB d) := by cases d <;> (simp only [tyD, isIntB]; decide +kernel)
theorem kt_bool (d : PyData) : kitB (tyD d) "bool" = some (isBoo d) := by cases d <;> (simp only [tyD, isBoo]; decide +kernel)
theorem kt_list (d : PyData) : kitB (tyD d) "list" = some (isListD d) := by cases d <;> (simp only [tyD, isListD]; decide +kernel)
theorem kt_tuple (d : PyData) : kitB (tyD d) "tuple" = some (isTupD d) := by cases d <;> (simp only [tyD, isTupD]; decide +kernel)
theorem kit_lst {K : PySem.W.Frag} (d : PyData) : PySem.W.kitAny K (.type (tyD d)) [.type "list", .type "tuple"] = some (isLst d) :=
  kitAny_cons (kit_ty (kt_list d)) (fun z => kitAny_cons (kit_ty (kt_tuple d)) (fun z2 => by cases d <;> first | rfl | (cases z; done) | (cases z2; done)) (fun z2 => by cases d <;> first | rfl | (cases z2; done))) (fun z => by cases d <;> first | rfl | (cases z; done))
/-! ### promises on data -/
def Sp1 (T : List (Addr × Str)) (K : PySem.W.Frag) (dom : PyData → Prop) (f : PyData → PyData) : Sp := fun vs H Q _ => ∃ v d, vs = [v] ∧ Dp K H v d ∧ dom d ∧ ∀ u H', Le T [] H H' → Dp K H' u (f d) → Q u H'
def Sp2 (T : List (Addr × Str)) (K : PySem.W.Frag) (dom : PyData → PyData → Prop) (f : PyData → PyData → PyData) : Sp := fun vs H Q _ => ∃ v1 v2 d1 d2, vs = [v1, v2] ∧ Dp K H v1 d1 ∧ Dp K H v2 d2 ∧ dom d1 d2 ∧ ∀ u H', Le T [] H H' → Dp K H' u (f d1 d2) → Q u H'
def Sp3 (T : List (Addr × Str)) (K : PySem.W.Frag) (dom : PyData → PyData → PyData → Prop) (f : PyData → PyData → PyData → PyData) : Sp := fun vs H Q _ => ∃ v1 v2 v3 d1 d2 d3, vs = [v1, v2, v3] ∧ Dp K H v1 d1 ∧ Dp K H v2 d2 ∧ Dp K H v3 d3 ∧ dom d1 d2 d3 ∧ ∀ u H', Le T [] H H' → Dp K H' u (f d1 d2 d3) → Q u H'
section
variable {X : Cx} {T : List (Addr × Str)} {a b c : Expr} {σ : St} {H : Hp} {p pos : Pos} {x : Str} {k : Nat} {f : Addr} {fd : FuncData} {ps : List Str}
theorem ed_call1 {d' : PyData} {dom : PyData → Prop} {g : PyData → PyData} {d : PyData} (F : FnOk X.prog X.w X.K X.mg X.base (L2.CX X.prog X.w) k f fd ps (Sp1 T X.K dom g)) (hr : Room k X.A) (hm : X.mg x = some (.ref f)) (hk : PySem.W.keepIn X.K (.ref f) = true) (hb : Binds X.K fd ps []) (ha : Ed X T a σ H d) (hd : dom d) (e' : g d = d' := by rfl) (hg : Gl X x := by rfl) (hdb : (x == ("__debug__" : Str)) = false := by decide)
    (he : starEach [a] X.env = (false, eval a X.env) :: starEach [] X.env := by rfl) : Ed X T (.Call (.Name x p) [a] [] pos) σ H d' := by
  subst e'
  exact
  er_call F hr hm hk hb .nil (ed_cons ha ea_nil he) (fun vs H1 l ra Q q => by
    obtain ⟨v, rfl, r⟩ := allP1 ra
    exact ⟨v, d, rfl, r, hd, q⟩) hg hdb he rfl
theorem ed_call2 {d' : PyData} {dom : PyData → PyData → Prop} {g : PyData → PyData → PyData} {d1 d2 : PyData} (F : FnOk X.prog X.w X.K X.mg X.base (L2.CX X.prog X.w) k f fd ps (Sp2 T X.K dom g)) (hr : Room k X.A) (hm : X.mg x = some (.ref f)) (hk : PySem.W.keepIn X.K (.ref f) = true) (hb : Binds X.K fd ps []) (ha : Ed X T a σ H d1) (hb2 : Ed X T b σ H d2) (hd : dom d1 d2) (e' : g d1 d2 = d' := by rfl) (hg : Gl X x := by rfl) (hdb : (x == ("__debug__" : Str)) = false := by decide)
    (he : starEach [a, b] X.env = (false, eval a X.env) :: starEach [b] X.env := by rfl) (he2 : starEach [b] X.env = (false, eval b X.env) :: starEach [] X.env := by rfl) (hpl : (backTo pos (starEach [b] X.env)).any (·.1) = false := by rfl) : Ed X T (.Call (.Name x p) [a, b] [] pos) σ H d' := by
  subst e'
  exact
  er_call F hr hm hk hb .nil (ed_cons ha (ed_cons hb2 ea_nil he2) he) (fun vs H1 l ra Q q => by
    obtain ⟨v, u, rfl, r, r2⟩ := allP2 ra
    exact ⟨v, u, d1, d2, rfl, r, r2, hd, q⟩) hg hdb he hpl
theorem ed_call3 {d' : PyData} {dom : PyData → PyData → PyData → Prop} {g : PyData → PyData → PyData → PyData} {d1 d2 d3 : PyData} (F : FnOk X.prog X.w X.K X.mg X.base (L2.CX X.prog X.w) k f fd ps (Sp3 T X.K dom g)) (hr : Room k X.A) (hm : X.mg x = some (.ref f)) (hk : PySem.W.keepIn X.K (.ref f) = true) (hb : Binds X.K fd ps []) (ha : Ed X T a σ H d1) (hb2 : Ed X T b σ H d2) (hc : Ed X T c σ H d3) (hd : dom d1 d2 d3) (e' : g d1 d2 d3 = d' := by rfl) (hg : Gl X x := by rfl) (hdb : (x == ("__debug__" : Str)) = false := by decide)
    (he : starEach [a, b, c] X.env = (false, eval a X.env) :: starEach [b, c] X.env := by rfl) (he2 : starEach [b, c] X.env = (false, eval b X.env) :: starEach [c] X.env := by rfl) (he3 : starEach [c] X.env = (false, eval c X.env) :: starEach [] X.env := by rfl) (hpl : (backTo pos (starEach [b, c] X.env)).any (·.1) = false := by rfl) : Ed X T (.Call (.Name x p) [a, b, c] [] pos) σ H d' := by
  subst e'
  exact
  er_call F hr hm hk hb .nil (ed_cons ha (ed_cons hb2 (ed_cons hc ea_nil he3) he2) he) (fun vs H1 l ra Q q => by
    obtain ⟨v, u, w, rfl, r, r2, r3⟩ := allP3 ra
    exact ⟨v, u, w, d1, d2, d3, rfl, r, r2, r3, hd, q⟩) hg hdb he hpl
end
def spNum (T : List (Addr × Str)) (K : PySem.W.Frag) : Sp := Sp1 T K (fun _ => True) fun d => .bool (isNum d)
def spBet (T : List (Addr × Str)) (K : PySem.W.Frag) : Sp := Sp3 T K (fun _ d2 d3 => ∃ lo hi, d2 = .int lo ∧ d3 = .int hi) fun d d2 d3 => match d2, d3 with
  | .int lo, .int hi => .bool (isBet d lo hi)
  | _, _ => .none
def spLst (T : List (Addr × Str)) (K : PySem.W.Frag) : Sp := Sp1 T K (fun _ => True) fun d => .bool (isLst d)
section
variable {P : Program} {w : World} {K : PySem.W.Frag} {mg : Str → Option Value} {base : Heap} {T : List (Addr × Str)} (t : Tx P K mg)
include t
theorem ok_is_number : FnOk P w K mg base (L2.CX P w) 1 (d_is_number.at_ K) (fdOf K (d_is_number.at_ K)) ["thing"] (spNum T K) := by
  refine ok_def (f_is_number t) sc_is_number (fun vs H Q E ⟨v, d, e, _⟩ => by rw [e]; rfl) fun cdv A outer s H vs Q E B ⟨v, d, e, hd, _, hq⟩ => ?_
  subst e
  have hv : ∀ {pos}, Ed (cxOf (L2.CX P w) P w K mg base ["thing"] d_is_number.qual (defScope s_is_number) (d_is_number.at_ K) cdv A outer s H E) T (.Name "thing" pos) (start ["thing"] [v]) H d := ed_var (i := 0) rfl hd
  refine ss_one (s_ret (R := dP K (.bool (isNum d))) (T := T) (Er.eq (ed_and (ed_isi (k := isIntB d) (n_isinstance t) stab_d hv (fun v' H' _ r => dp_ty r) (er_bty (n_int t) rfl) ?_) fun _ => ed_one (ed_not (ed_isi (k := isBoo d) (n_isinstance t) stab_d hv (fun v' H' _ r => dp_ty r) (er_bty (n_bool t) rfl) ?_))) ?_) fun u H1 l r => hq u H1 l r)
  · exact kit_ty (kt_int d)
  · exact kit_ty (kt_bool d)
  · cases d <;> rfl
theorem ok_is_between : FnOk P w K mg base (L2.CX P w) 2 (d_is_between.at_ K) (fdOf K (d_is_between.at_ K)) ["thing", "low", "high"] (spBet T K) := by
  refine ok_def (f_is_between t) sc_is_between (fun vs H Q E ⟨v, v2, v3, d, d2, d3, e, _⟩ => by rw [e]; rfl) fun cdv A outer s H vs Q E B ⟨v, v2, v3, d, d2, d3, e, hd, hd2, hd3, ⟨lo, hi, e2, e3⟩, hq⟩ => ?_
  subst e e2 e3
  have hq : ∀ u H', Le T [] H H' → Dp K H' u (.bool (isBet d lo hi)) → Q u H' := hq
  refine ss_one (s_ret (R := dP K (.bool (isBet d lo hi))) (T := T) (Er.eq (ed_and (j := isBet d lo hi) (ed_call1 (ok_is_number t) B.room (g_is_number t) (k_is_number t) (b_is_number t) (ed_var (i := 0) rfl hd) trivial) fun e => ed_one ?_) ?_) fun u H1 l r => hq u H1 l r)
  · cases d with
    | int i => exact ed_chainI op_le op_le (ed_var (i := 1) rfl hd2) (ed_var (i := 0) rfl hd) (ed_var (i := 2) rfl hd3)
    | _ => cases e
  · cases d <;> rfl
theorem ok_is_list : FnOk P w K mg base (L2.CX P w) 1 (d_is_list.at_ K) (fdOf K (d_is_list.at_ K)) ["thing"] (spLst T K) := by
  refine ok_def (f_is_list t) sc_is_list (fun vs H Q E ⟨v, d, e, _⟩ => by rw [e]; rfl) fun cdv A outer s H vs Q E B ⟨v, d, e, hd, _, hq⟩ => ?_
  subst e
  refine ss_one (s_ret (R := dP K (.bool (isLst d))) (T := T) (ed_isi2 (n_isinstance t) stab_d (ed_var (i := 0) rfl hd) (fun v' H' _ r => dp_ty r) (er_bty (n_list t) rfl) (er_bty (n_tuple t) rfl) (kit_lst d)) fun u H1 l r => hq u H1 l r)
end
end RM
namespace RM
open PySem PySem.Spec L2 LamX
open PyProof.Rows hiding St
section
variable {X : Cx} {T : List (Addr × Str)} {a : Expr} {σ : St} {H : Hp} {p pos : Pos} {R R' : VP}
theorem er_callF1 {k : Nat} {f : Addr} {fd : FuncData} {ps : List Str} {sp : Sp} {x : Str} {i : Nat} (F : FnOk X.prog X.w X.K X.mg X.base (L2.CX X.prog X.w) k f fd ps sp) (hr : Room k X.A) (hs : σ[i]? = some (some (.ref f))) (hf : PySem.W.FnAt f X.base) (hb : ∀ (s : Shared) (us : List Value), us.length = ps.length → BindsTo s fd ⟨us, []⟩ (ps.zip us)) (ha : Er X T a σ H R)
    (hsp : ∀ v H1, Le T [] H H1 → R v H1 → ∀ Q : VK, (∀ u H2, Le T [] H1 H2 → R' u H2 → Q u H2) → sp [v] H1 Q E0) (hN : X.N[i]? = some x := by rfl) (hv : Vis X.env.scope x := by first | exact .inl rfl | exact .inr (.inl rfl) | exact .inr (.inr rfl))
    (hd : (x == ("__debug__" : Str)) = false := by decide) (hcd : (x == ("__classdict__" : Str)) = false := by decide) (he : starEach [a] X.env = (false, eval a X.env) :: starEach [] X.env := by rfl) : Er X T (.Call (.Name x p) [a] [] pos) σ H R' := fun H1 l Q q => by
  refine pe_we (pe_callF1 (E := fun _ => E0) F hr hN hv hf hb (fun σ pins H s e s' I c => passL pins σ H s e s' I c) (pa_cons we_pe pa_nil he) hd hcd he rfl) ⟨hs, ?_⟩
  exact ha H1 l _ fun v H2 l2 r => hsp v H2 (l.trans l2) r Q fun u H3 l3 r3 => q u H3 (l2.trans l3) r3
end
def fw (g : PyData → Bool) (ds : List PyData) : Option Nat := ds.findIdx? fun d => !g d
def optD : Option Nat → PyData
  | none => .none
  | some i => .int (i : Nat)
def spFW (T : List (Addr × Str)) (K : PySem.W.Frag) (f : Addr) (spL : Sp) : Sp := fun vs H Q _ => ∃ v d ds g, vs = [v, .ref f] ∧ Dp K H v d ∧ IsSeq d ds ∧ (∀ (i : Nat) e, ds[i]? = some e → ∀ u H', Le T [] H H' → Dp K H' u e → ∀ Q' : VK, (∀ H2, Le T [] H' H2 → Q' (.bl (g e)) H2) → spL [u] H' Q' E0) ∧
  ∀ u H', Le T [] H H' → Dp K H' u (optD (fw g ds)) → Q u H'
section
variable {P : Program} {w : World} {K : PySem.W.Frag} {mg : Str → Option Value} {base : Heap} {T : List (Addr × Str)} (t : Tx P K mg)
include t
theorem ok_first_wrong {kL : Nat} {f : Addr} {fdL : FuncData} {x : Str} {spL : Sp} (FL : FnOk P w K mg base (L2.CX P w) kL f fdL [x] spL) (hf : PySem.W.FnAt f base) (hb : ∀ (s : Shared) (us : List Value), us.length = [x].length → BindsTo s fdL ⟨us, []⟩ ([x].zip us)) :
    FnOk P w K mg base (L2.CX P w) (kL + 1) (d_first_wrong.at_ K) (fdOf K (d_first_wrong.at_ K)) ["several", "fits"] (spFW T K f spL) := by
  refine ok_def (f_first_wrong t) sc_first_wrong (fun vs H Q E ⟨v, d, ds, g, e, _⟩ => by rw [e]; rfl) fun cdv A outer s H vs Q E B ⟨v, d, ds, g, e, hd, hs, hL, hq⟩ => ?_
  subst e
  refine ss_cons (s_forE B (j1 := 2) (j2 := 3) (ed_var (i := 0) (T := T) rfl hd) hs (n_enumerate t) fun v1 H1 l1 r1 => ?_)
  refine ⟨fun i σ' H' => (∃ x y, σ' = [some v, some (.ref f), x, y]) ∧ Le T [] H1 H' ∧ ∀ j d, j < i → ds[j]? = some d → g d = true, ⟨⟨_, _, rfl⟩, .refl, fun j d hj => absurd hj (by omega)⟩, fun i σ' H' q => q.2.1, fun i d' u σ' H' hi ⟨⟨x1, y1, e⟩, l, hp⟩ H2 l2 r2 => ?_, fun σ' H' ⟨⟨x1, y1, e⟩, l, hp⟩ => ?_⟩
  · subst e
    refine ss_one (s_if (q := !g d') (T := T) (et_not (et_val (er_callF1 (i := 1) FL B.room rfl hf hb (er_var (i := 3) (T := T) rfl r2 stab_d) fun u' H3 l3 r3 Q' q' => ?_))) (fun e H3 l3 => ?_) fun e H3 l3 => ss_nil ?_)
    · exact hL i d' hi u' H3 (l1.trans (l.trans (l2.trans l3))) r3 Q' fun H4 l4 => q' _ H4 l4 (.bl _)
    · refine ss_one (s_ret (R := dP K (.int i)) (T := T) (ed_var (i := 2) rfl (.int _)) fun u' H4 l4 r4 => hq u' H4 (l1.trans (l.trans (l2.trans (l3.trans l4)))) ?_)
      have e2 : fw g ds = some i := by
        unfold fw
        rw [List.findIdx?_eq_some_iff_getElem]
        have hlt : i < ds.length := (List.getElem?_eq_some_iff.mp hi).1
        refine ⟨hlt, ?_, fun j hj => ?_⟩
        · have := (List.getElem?_eq_some_iff.mp hi).2
          rw [this]; exact e
        · have hjl : j < ds.length := by omega
          have := hp j ds[j] hj (by simp [hjl])
          simp [this]
      rw [e2]
      exact r4
    · refine ⟨⟨_, _, rfl⟩, l.trans (l2.trans l3), fun j d hj hd => ?_⟩
      rcases Nat.lt_succ_iff_lt_or_eq.mp hj with hj | rfl
      · exact hp j d hj hd
      · rw [hi] at hd
        cases hd
        simpa using e
  · subst e
    refine ss_one (s_ret (T := T) ed_non fun u' H4 l4 r4 => hq u' H4 (l1.trans (l.trans l4)) ?_)
    have e2 : fw g ds = none := by
      unfold fw
      rw [List.findIdx?_eq_none_iff]
      intro z hz
      obtain ⟨j, hj⟩ := List.mem_iff_getElem?.mp hz
      have := hp j z (List.getElem?_eq_some_iff.mp hj).1 hj
      simp [this]
    rw [e2]
    exact r4
end
end RM
namespace RM
open PySem PySem.Spec L2 LamX
open PyProof.Rows hiding St
def seqOf : PyData → List PyData
  | .list ds | .tuple ds => ds
  | _ => []
theorem isSeq_of {d : PyData} (h : isLst d = true) : IsSeq d (seqOf d) := by cases d <;> first | exact .inl rfl | exact .inr rfl | cases h
def isShort (d : PyData) : Bool := isLst d && decide ((seqOf d).length ≤ 300)
def isWord (d : PyData) : Bool := isBet d 0 3
/-- what is wrong with a row of so many kinds -/
def rowErr (k : Int) (d : PyData) : Option PyData := if isShort d then (match fw (fun e => isBet e 0 (k - 1)) (seqOf d) with
  | none => none
  | some i => some (.int (i : Nat))) else some .none
/-- an error that is due -/
def Due (T : List (Addr × Str)) (K : PySem.W.Frag) (C : Addr) (f : Str) (err : Option PyData) (H : Hp) (Q : VK) (E : XK) : Prop := (err = none → ∀ H', Le T [] H H' → Q .non H') ∧
  ∀ x, err = some x → ∀ v dd H', Le T [] H H' → H' dd = some (.xd [(f, v)]) → Dp K H' v x → E (.ref C) (some dd) H'
def spRowOf (T : List (Addr × Str)) (K : PySem.W.Frag) : Sp := fun vs H Q E => ∃ v k d, vs = [.int k, v] ∧ Dp K H v d ∧ Tabs T H ∧ Due T K (He.ga K "BadRow") "index" (rowErr k d) H Q E
section
variable {P : Program} {w : World} {K : PySem.W.Frag} {mg : Str → Option Value} {base : Heap} {T : List (Addr × Str)} (t : Tx P K mg)
include t
theorem ok_is_short_list : FnOk P w K mg base (L2.CX P w) 2 (d_is_short_list.at_ K) (fdOf K (d_is_short_list.at_ K)) ["thing"] (Sp1 T K (fun _ => True) fun d => .bool (isShort d)) := by
  refine ok_def (f_is_short_list t) sc_is_short_list (fun vs H Q E ⟨v, d, e, _⟩ => by rw [e]; rfl) fun cdv A outer s H vs Q E B ⟨v, d, e, hd, _, hq⟩ => ?_
  subst e
  refine ss_one (s_ret (R := dP K (.bool (isShort d))) (T := T) (ed_and (ed_call1 (ok_is_list t) B.room (g_is_list t) (k_is_list t) (b_is_list t) (ed_var (i := 0) rfl hd) trivial) fun e => ed_one (Er.eq (ed_cmpI op_le (ed_len (n_len t) (ed_var (i := 0) rfl hd) (isSeq_of e)) (ed_gint (i_MOST_EVENTS t))) ?_)) fun u H1 l r => hq u H1 l r)
  congr 1
  exact decide_eq_decide.mpr (by omega)
theorem ok_is_word : FnOk P w K mg base (L2.CX P w) 3 (d_is_word.at_ K) (fdOf K (d_is_word.at_ K)) ["thing"] (Sp1 T K (fun _ => True) fun d => .bool (isWord d)) := by
  refine ok_def (f_is_word t) sc_is_word (fun vs H Q E ⟨v, d, e, _⟩ => by rw [e]; rfl) fun cdv A outer s H vs Q E B ⟨v, d, e, hd, _, hq⟩ => ?_
  subst e
  exact ss_one (s_ret (R := dP K (.bool (isWord d))) (T := T) (ed_call3 (ok_is_between t) B.room (g_is_between t) (k_is_between t) (b_is_between t) (ed_var (i := 0) rfl hd) ed_int (ed_gint (i_MOST_WORD t)) ⟨_, _, rfl, rfl⟩) fun u H1 l r => hq u H1 l r)
end
section
variable {P : Program} {w : World} {K : PySem.W.Frag} {mg : Str → Option Value} {base : Heap} (W : Wd P K mg base)
include W
theorem ok_need_row_of : FnOk P w K mg base (L2.CX P w) 5 (d_need_row_of.at_ K) (fdOf K (d_need_row_of.at_ K)) ["kinds", "row"] (spRowOf (TT K) K) := by
  have t := W.tx
  refine ok_defC (co_need_row_of t) (f_need_row_of t) sc_need_row_of (fun vs H Q E ⟨v, k, d, e, _⟩ => by rw [e]; rfl) fun A outer s H vs Q E B ⟨v, k, d, e, hd, hT, hn, he⟩ => ?_
  subst e
  refine ss_cons (s_if (q := !isShort d) (T := TT K) (et_not (et_val (ed_call1 (ok_is_short_list t) (B.room.mono (by decide)) (g_is_short_list t) (k_is_short_list t) (b_is_short_list t) (ed_var (i := 1) rfl hd) trivial))) (fun e H1 l1 => ?_) fun e H1 l1 => ss_nil ?_)
  · refine ss_one (s_raise B (rc_BadRow t) (T := TT K) ed_non fun v dd H2 l2 r hdd => he .none ?_ v dd _ (l1.trans (l2.add hdd)) upd_same ((Le.new (T := TT K) hdd).dp r))
    unfold rowErr
    rw [if_neg (by simpa using e)]
  · have e : isShort d = true := by simpa using e
    have hs := isSeq_of (Bool.and_eq_true_iff.mp e).1
    refine ss_cons (s_set B (i := 2) (T := TT K) (R := dP K (optD (fw (fun e => isBet e 0 (k - 1)) (seqOf d)))) (er_lam2 B (kL := 2) (kG := 4) (psL := ["item"]) (spG := spFW (TT K) K) (ed_var (i := 1) (T := TT K) rfl (l1.dp hd)) (l1.tab hT) (fun B' f fdL spL h1 h2 FL hf hb => ok_first_wrong t FL hf hb) (by decide) (g_first_wrong t) (k_first_wrong t) (b_first_wrong t) (W.tab (("need_row_of" : Str), none) (by simp [tf])) rfl ?_ (ndT t) (by kernel_rfl) ?_ stab_d) ?_)
    · exact mT_need_row_of (by kernel_rfl)
    · intro v H2 f c' l2 r2 hc Q' q'
      refine ⟨v, d, seqOf d, fun e => isBet e 0 (k - 1), rfl, r2, hs, fun i e he u H' l3 r3 Q2 q2 => ⟨rfl, l3.at hc (by simp) codeO_nb, fun B' f' c2 A' outer' s' H0 hK hG ext hr => ?_⟩, q'⟩
      refine Er.run (T := TT K) (ed_call3 (ok_is_between t) hr (g_is_between t) (k_is_between t) (b_is_between t) (ed_var (i := 0) rfl r3) ed_int (ed_bin0 op_sub (ed_var (i := 1) rfl (.int k)) ed_int) ⟨_, _, rfl, rfl⟩) fun v3 H3 l4 r4 => ?_
      cases r4
      exact q2 H3 l4
    · intro v2 H2 l2 r2
      cases hfw : fw (fun e => isBet e 0 (k - 1)) (seqOf d) with
      | none =>
        rw [hfw] at r2
        refine ss_one (s_if (q := false) (T := TT K) (et_notN stab_d (ed_var (i := 2) (T := TT K) rfl r2) fun v H r => by cases r; rfl) (fun e => by cases e) fun _ H3 l3 => ss_nil (hn ?_ H3 (l1.trans (l2.trans l3))))
        unfold rowErr
        rw [if_pos e, hfw]
      | some i =>
        rw [hfw] at r2
        refine ss_one (s_if (q := true) (T := TT K) (et_notN stab_d (ed_var (i := 2) (T := TT K) rfl r2) fun v H r => by cases r; rfl) (fun _ H3 l3 => ss_one (s_raise B (rc_BadRow t) (T := TT K) (ed_var (i := 2) rfl (l3.dp r2)) fun v dd H4 l4 r hdd => he (.int (i : Nat)) ?_ v dd _ (l1.trans (l2.trans (l3.trans (l4.add hdd)))) upd_same ((Le.new (T := TT K) hdd).dp r))) fun e => by cases e)
        unfold rowErr
        rw [if_pos e, hfw]
end
end RM
namespace RM
open PySem PySem.Spec L2 LamX
open PyProof.Rows hiding St
def isLine (d : PyData) (k p : Int) : Bool := isLst d && decide (((seqOf d).length : Int) = k) && (seqOf d).all fun e => isBet e 0 (p - 1)
def movesErr (d : PyData) : Option PyData :=
  if (isLst d && (decide (1 ≤ ((seqOf d).length : Int)) && decide (((seqOf d).length : Int) ≤ 6))) = true then
    if (isLst ((seqOf d).getD 0 .none) && (decide (1 ≤ ((seqOf ((seqOf d).getD 0 .none)).length : Int)) && decide (((seqOf ((seqOf d).getD 0 .none)).length : Int) ≤ 4))) = true then
      (match fw (fun e => isLine e (seqOf ((seqOf d).getD 0 .none)).length (seqOf d).length) (seqOf d) with
      | none => none
      | some i => some (.int (i : Nat)))
    else some (.int 0)
  else some .none
def wordsErr (d : PyData) (n : Int) : Option PyData :=
  if (isLst d && decide (((seqOf d).length : Int) = n)) = true then (match fw isWord (seqOf d) with
    | none => none
    | some i => some (.int (i : Nat)))
  else some .none
def spMoves (T : List (Addr × Str)) (K : PySem.W.Frag) : Sp := fun vs H Q E => ∃ v d, vs = [v] ∧ Dp K H v d ∧ Tabs T H ∧ Due T K (He.ga K "BadMoves") "index" (movesErr d) H Q E
def spWords (T : List (Addr × Str)) (K : PySem.W.Frag) : Sp := fun vs H Q E => ∃ v d n, vs = [v, .int n] ∧ Dp K H v d ∧ Due T K (He.ga K "BadWords") "index" (wordsErr d n) H Q E
section
variable {P : Program} {w : World} {K : PySem.W.Frag} {mg : Str → Option Value} {base : Heap} {T : List (Addr × Str)} (t : Tx P K mg)
include t
theorem ok_is_line : FnOk P w K mg base (L2.CX P w) 3 (d_is_line.at_ K) (fdOf K (d_is_line.at_ K)) ["thing", "kinds", "places"] (Sp3 T K (fun _ d2 d3 => ∃ (k : Nat) (p : Int), k ≤ 1000 ∧ d2 = .int k ∧ d3 = .int p) fun d d2 d3 => match d2, d3 with
    | .int k, .int p => .bool (isLine d k p)
    | _, _ => .none) := by
  refine ok_def (f_is_line t) sc_is_line (fun vs H Q E ⟨v, v2, v3, d, d2, d3, e, _⟩ => by rw [e]; rfl) fun cdv A outer s H vs Q E B ⟨v, v2, v3, d, d2, d3, e, hd, hd2, hd3, ⟨k, p, hk, e2, e3⟩, hq⟩ => ?_
  subst e e2 e3
  have hq : ∀ u H', Le T [] H H' → Dp K H' u (.bool (isLine d k p)) → Q u H' := hq
  refine ss_cons (s_if (q := !(isLst d && decide (((seqOf d).length : Int) = k))) (T := T) (Et.eq (et_w (ew_or (et_not (et_val (ed_call1 (ok_is_list t) (B.room.mono (by decide)) (g_is_list t) (k_is_list t) (b_is_list t) (ed_var (i := 0) rfl hd) trivial))) fun e => ew_or1 (et_neI (ed_len (n_len t) (ed_var (i := 0) rfl hd) (isSeq_of (by simpa using e))) (ed_var (i := 1) rfl hd2)))) (by rw [Bool.not_and])) (fun e H1 l1 => ?_) fun e H1 l1 => ss_nil ?_)
  · refine ss_one (s_ret (T := T) ed_bl fun u H2 l2 r => hq u H2 (l1.trans l2) ?_)
    have e2 : isLine d k p = false := by
      unfold isLine
      cases q : (isLst d && decide (((seqOf d).length : Int) = k)) with
      | false => rw [Bool.false_and]
      | true => rw [q] at e; cases e
    rw [e2]
    exact r
  · have e : (isLst d && decide (((seqOf d).length : Int) = k)) = true := by
      cases q : (isLst d && decide (((seqOf d).length : Int) = k)) with
      | true => rfl
      | false => rw [q] at e; cases e
    obtain ⟨e1, e2⟩ := Bool.and_eq_true_iff.mp e
    have e2 := of_decide_eq_true e2
    refine ss_one (s_ret (T := T) (R := dP K (.bool (isLine d k p))) (Er.eq (ed_all (bs := (seqOf d).map fun e => isBet e 0 (p - 1)) B.calm (n_all t) (Er.eq (er_lcS (x := "item") (j := 3) (f := fun e => .bool (isBet e 0 (p - 1))) B.calm B.nd (ed_var (i := 0) (T := T) rfl (l1.dp hd)) (isSeq_of e1) (by omega) (by kernel_rfl) fun i d u H2 a hi l2 r2 ha => BlkE.of rfl fun s0 H0 C cl fp =>
      ed_call3 (ok_is_between t) (by exact B.room.mono (by decide)) (g_is_between t) (k_is_between t) (b_is_between t) (ed_var (i := 3) rfl r2) ed_int (ed_bin0 op_sub (ed_var (i := 2) rfl ((l1.trans l2).dp hd3)) ed_int) ⟨_, _, rfl, rfl⟩) (by rw [List.map_map]; rfl))) ?_) fun u H2 l2 r => hq u H2 (l1.trans l2) r)
    unfold isLine
    rw [e, Bool.true_and, List.all_map]
    rfl
end
end RM
namespace RM
open PySem PySem.Spec L2 LamX
open PyProof.Rows hiding St
theorem bnot_and {a b : Bool} : (!a || !b) = !(a && b) := by cases a <;> cases b <;> rfl
theorem bnot_t {a : Bool} (h : (!a) = false) : a = true := by cases a <;> first | rfl | cases h
theorem bnot_f {a : Bool} (h : (!a) = true) : ¬ a = true := by cases a <;> first | (intro z; cases z; done) | cases h
section
variable {P : Program} {w : World} {K : PySem.W.Frag} {mg : Str → Option Value} {base : Heap} (W : Wd P K mg base)
include W
theorem ok_need_moves : FnOk P w K mg base (L2.CX P w) 6 (d_need_moves.at_ K) (fdOf K (d_need_moves.at_ K)) ["moves"] (spMoves (TT K) K) := by
  have t := W.tx
  refine ok_defC (co_need_moves t) (f_need_moves t) sc_need_moves (fun vs H Q E ⟨v, d, e, _⟩ => by rw [e]; rfl) fun A outer s H vs Q E B ⟨v, d, e, hd, hT, hn, he⟩ => ?_
  subst e
  refine ss_cons (s_if (q := !(isLst d && (decide (1 ≤ ((seqOf d).length : Int)) && decide (((seqOf d).length : Int) ≤ 6)))) (T := TT K) (Et.eq (et_w (ew_or (et_not (et_val (ed_call1 (ok_is_list t) (B.room.mono (by decide)) (g_is_list t) (k_is_list t) (b_is_list t) (ed_var (i := 0) rfl hd) trivial))) fun e => ew_or1 (et_not (et_chainI op_le op_le ed_int (ed_len (n_len t) (ed_var (i := 0) rfl hd) (isSeq_of (bnot_t e))) (ed_gint (i_MOST_PLACES t)))))) bnot_and) (fun e H1 l1 => ?_) fun e H1 l1 => ss_nil ?_)
  · refine ss_one (s_raise B (rc_BadMoves t) (T := TT K) ed_non fun v dd H2 l2 r hdd => he .none ?_ v dd _ (l1.trans (l2.add hdd)) upd_same ((Le.new (T := TT K) hdd).dp r))
    unfold movesErr
    rw [if_neg (bnot_f e)]
  · have e := bnot_t e
    have es := e
    obtain ⟨e1, e2⟩ := Bool.and_eq_true_iff.mp e
    obtain ⟨e2, e3⟩ := Bool.and_eq_true_iff.mp e2
    have e2 := of_decide_eq_true e2
    have e3 := of_decide_eq_true e3
    have hs := isSeq_of e1
    obtain ⟨d0, hd0⟩ : ∃ d0, (seqOf d).getD 0 .none = d0 := ⟨_, rfl⟩
    have g0 : (seqOf d)[0]? = some d0 := by
      rw [← hd0, List.getD_eq_getElem?_getD]
      cases q : (seqOf d) with
      | nil => rw [q] at e2; simp at e2
      | cons a r => rfl
    refine ss_cons (s_set B (i := 2) (T := TT K) (ed_ix (ed_var (i := 0) rfl (l1.dp hd)) hs ed_int (atI_nat (j := 0) g0)) fun v2 H2 l2 r2 => ?_)
    have hd2 := (l1.trans l2).dp hd
    refine ss_cons (s_if (q := !(isLst d0 && (decide (1 ≤ ((seqOf d0).length : Int)) && decide (((seqOf d0).length : Int) ≤ 4)))) (T := TT K) (Et.eq (et_w (ew_or (et_not (et_val (ed_call1 (ok_is_list t) (B.room.mono (by decide)) (g_is_list t) (k_is_list t) (b_is_list t) (ed_var (i := 2) rfl r2) trivial))) fun e => ew_or1 (et_not (et_chainI op_le op_le ed_int (ed_len (n_len t) (ed_var (i := 2) rfl r2) (isSeq_of (bnot_t e))) (ed_gint (i_MOST_KINDS t)))))) bnot_and) (fun e H3 l3 => ?_) fun e H3 l3 => ss_nil ?_)
    · refine ss_one (s_raise B (rc_BadMoves t) (T := TT K) ed_int fun v dd H4 l4 r hdd => he (.int 0) ?_ v dd _ (l1.trans (l2.trans (l3.trans (l4.add hdd)))) upd_same ((Le.new (T := TT K) hdd).dp r))
      unfold movesErr
      rw [if_pos es, hd0, if_neg (bnot_f e)]
    · have e := bnot_t e
      have es2 := e
      obtain ⟨f1, f2⟩ := Bool.and_eq_true_iff.mp e
      obtain ⟨f2, f3⟩ := Bool.and_eq_true_iff.mp f2
      have f2 := of_decide_eq_true f2
      have f3 := of_decide_eq_true f3
      have hs0 := isSeq_of f1
      have l13 := l1.trans (l2.trans l3)
      refine ss_cons (s_set B (i := 1) (T := TT K) (R := dP K (optD (fw (fun e => isLine e (seqOf d0).length (seqOf d).length) (seqOf d)))) (er_lam2 B (kL := 3) (kG := 5) (psL := ["line"]) (spG := spFW (TT K) K) (ed_var (i := 0) (T := TT K) rfl (l13.dp hd)) (l13.tab hT) (fun B' f fdL spL h1 h2 FL hf hb => ok_first_wrong t FL hf hb) (by decide) (g_first_wrong t) (k_first_wrong t) (b_first_wrong t) (W.tab (("need_moves" : Str), none) (by simp [tf])) rfl (mT_need_moves (by kernel_rfl)) (ndT t) (by kernel_rfl) ?_ stab_d) ?_)
      · intro v4 H4 f c' l4 r4 hc Q' q'
        refine ⟨v4, d, seqOf d, fun e => isLine e (seqOf d0).length (seqOf d).length, rfl, r4, hs, fun i e he u H' l5 r5 Q2 q2 => ⟨rfl, l5.at hc (by simp) codeO_nb, fun B' f' c2 A' outer' s' H0 hK hG ext hr => ?_⟩, q'⟩
        refine Er.run (T := TT K) (ed_call3 (d' := .bool (isLine e (seqOf d0).length (seqOf d).length)) (ok_is_line t) hr (g_is_line t) (k_is_line t) (b_is_line t) (ed_var (i := 0) rfl r5) (ed_len (n_len t) (ed_var (i := 3) rfl ((l3.trans (l4.trans l5)).dp r2)) hs0) (ed_len (n_len t) (ed_var (i := 1) rfl ((l13.trans (l4.trans l5)).dp hd)) hs) ⟨_, _, by omega, rfl, rfl⟩) fun v6 H6 l6 r6 => ?_
        cases r6
        exact q2 H6 l6
      · intro v4 H4 l4 r4
        have l14 := l13.trans l4
        cases hfw : fw (fun e => isLine e (seqOf d0).length (seqOf d).length) (seqOf d) with
        | none =>
          rw [hfw] at r4
          refine ss_one (s_if (q := false) (T := TT K) (et_notN stab_d (ed_var (i := 1) (T := TT K) rfl r4) fun v H r => by cases r; rfl) (fun e => by cases e) fun _ H5 l5 => ss_nil (hn ?_ H5 (l14.trans l5)))
          unfold movesErr
          rw [if_pos es, hd0, if_pos es2, hfw]
        | some i =>
          rw [hfw] at r4
          refine ss_one (s_if (q := true) (T := TT K) (et_notN stab_d (ed_var (i := 1) (T := TT K) rfl r4) fun v H r => by cases r; rfl) (fun _ H5 l5 => ss_one (s_raise B (rc_BadMoves t) (T := TT K) (ed_var (i := 1) rfl (l5.dp r4)) fun v dd H6 l6 r hdd => he (.int (i : Nat)) ?_ v dd _ (l14.trans (l5.trans (l6.add hdd))) upd_same ((Le.new (T := TT K) hdd).dp r))) fun e => by cases e)
          unfold movesErr
          rw [if_pos es, hd0, if_pos es2, hfw]
end
end RM
namespace RM
open PySem PySem.Spec L2 LamX
open PyProof.Rows hiding St
section
variable {X : Cx} {T : List (Addr × Str)} {e : Expr} {σ : St} {H : Hp} {R : VP}
theorem er_kin (h : X.K.In X.base → Er X T e σ H R) : Er X T e σ H R := fun H1 l Q q pins s I => h I.ok.mod.kin H1 l Q q pins s I
theorem fnAt_of {K : PySem.W.Frag} {base : Heap} {d : DefR} (F : FunR K d (fdOf K (d.at_ K))) (h : K.In base) : PySem.W.FnAt (d.at_ K) base := by
  obtain ⟨oc, od, dV, kV, doc, pm, an, cdv, ct, osl, cl, e, hcl, lk, k1, k2⟩ := F.ex
  exact ⟨_, _, _, _, h _ _ lk⟩
end
/-- a watch, or any other value -/
inductive ArgW (K : PySem.W.Frag) (H : Hp) (C : Addr) : V → Option (List (List Nat) × List Nat) → Prop where
  | watch {a : Addr} {m : List (List Nat)} {ws : List Nat} : WatchAt K H C a m ws → ArgW K H C (.ref a) (some (m, ws))
  | data {v : V} {d : PyData} : Dp K H v d → ArgW K H C v none
def spNeedW (T : List (Addr × Str)) (K : PySem.W.Frag) : Sp := fun vs H Q E => ∃ v pv o pd d, vs = [v, pv] ∧ ArgW K H (He.ga K "Watch") v o ∧ Dp K H pv pd ∧ d = (match o with | some _ => none | none => some pd) ∧ Due T K (He.ga K "NoWatch") "part" d H Q E
section
variable {P : Program} {w : World} {K : PySem.W.Frag} {mg : Str → Option Value} {base : Heap} {T : List (Addr × Str)} (t : Tx P K mg)
include t
theorem ok_need_words : FnOk P w K mg base (L2.CX P w) 5 (d_need_words.at_ K) (fdOf K (d_need_words.at_ K)) ["words", "many"] (spWords T K) := by
  refine ok_def (f_need_words t) sc_need_words (fun vs H Q E ⟨v, d, n, e, _⟩ => by rw [e]; rfl) fun cdv A outer s H vs Q E B ⟨v, d, n, e, hd, hn, he⟩ => ?_
  subst e
  refine ss_cons (s_if (q := !(isLst d && decide (((seqOf d).length : Int) = n))) (T := T) (Et.eq (et_w (ew_or (et_not (et_val (ed_call1 (ok_is_list t) (B.room.mono (by decide)) (g_is_list t) (k_is_list t) (b_is_list t) (ed_var (i := 0) rfl hd) trivial))) fun e => ew_or1 (et_neI (ed_len (n_len t) (ed_var (i := 0) rfl hd) (isSeq_of (bnot_t e))) (ed_var (i := 1) rfl (.int n))))) bnot_and) (fun e H1 l1 => ?_) fun e H1 l1 => ss_nil ?_)
  · refine ss_one (s_raise B (rc_BadWords t) (T := T) ed_non fun v dd H2 l2 r hdd => he .none ?_ v dd _ (l1.trans (l2.add hdd)) upd_same ((Le.new (T := T) hdd).dp r))
    unfold wordsErr
    rw [if_neg (bnot_f e)]
  · have e := bnot_t e
    have hs := isSeq_of (Bool.and_eq_true_iff.mp e).1
    refine ss_cons (s_set B (i := 2) (T := T) (R := dP K (optD (fw isWord (seqOf d)))) (er_kin fun hK => er_call (ok_first_wrong (T := T) t (ok_is_word (T := T) t) (fnAt_of (fr_is_word t) hK) (FunD.bindsA (ps := ["thing"]) (f_is_word t) fun _ _ _ _ _ _ us hl => match us, hl with | [_], _ => rfl)) (by exact B.room) (g_first_wrong t) (k_first_wrong t) (b_first_wrong t) .nil (ed_cons (ed_var (i := 0) rfl (l1.dp hd)) (ea_cons (er_gref (g_is_word t)) ea_nil stab_e)) fun vs H2 l2 ra Q' q' => ?_) fun v2 H2 l2 r2 => ?_)
    · obtain ⟨v, u, rfl, r, rfl⟩ := allP2 ra
      exact ⟨v, d, seqOf d, isWord, rfl, r, hs, fun i e he u H' l3 r3 Q2 q2 => ⟨u, e, rfl, r3, trivial, fun u' H4 l4 r4 => by cases r4; exact q2 H4 l4⟩, q'⟩
    · cases hfw : fw isWord (seqOf d) with
      | none =>
        rw [hfw] at r2
        refine ss_one (s_if (q := false) (T := T) (et_notN stab_d (ed_var (i := 2) (T := T) rfl r2) fun v H r => by cases r; rfl) (fun e => by cases e) fun _ H3 l3 => ss_nil (hn ?_ H3 (l1.trans (l2.trans l3))))
        unfold wordsErr
        rw [if_pos e, hfw]
      | some i =>
        rw [hfw] at r2
        refine ss_one (s_if (q := true) (T := T) (et_notN stab_d (ed_var (i := 2) (T := T) rfl r2) fun v H r => by cases r; rfl) (fun _ H3 l3 => ss_one (s_raise B (rc_BadWords t) (T := T) (ed_var (i := 2) rfl (l3.dp r2)) fun v dd H4 l4 r hdd => he (.int (i : Nat)) ?_ v dd _ (l1.trans (l2.trans (l3.trans (l4.add hdd)))) upd_same ((Le.new (T := T) hdd).dp r))) fun e => by cases e)
        unfold wordsErr
        rw [if_pos e, hfw]
theorem ok_need_watch : FnOk P w K mg base (L2.CX P w) 1 (d_need_watch.at_ K) (fdOf K (d_need_watch.at_ K)) ["watch", "part"] (spNeedW T K) := by
  refine ok_def (f_need_watch t) sc_need_watch (fun vs H Q E ⟨v, pv, o, pd, d, e, _⟩ => by rw [e]; rfl) fun cdv A outer s H vs Q E B ⟨v, pv, o, pd, d, e, ha, hpd, hd, hn, he⟩ => ?_
  subst e
  cases ha with
  | watch hw =>
    subst hd
    exact ss_one (s_if (q := false) (T := T) (et_not (k := true) (et_val (ed_isiC (n_isinstance t) stab_w (er_var (i := 0) rfl ⟨_, rfl, hw⟩ stab_w) (fun v H' l ⟨a, e, hw⟩ => by
      subst e
      obtain ⟨dx, v1, v2, h1, _⟩ := hw
      exact insKB_ok (insK_Watch t) (cls_Watch t) h1) (er_gref (g_Watch t)) (by unfold PySem.W.kitOne; rw [if_pos (by simp)])))) (fun e => by cases e) fun _ H1 l1 => ss_nil (hn rfl H1 l1))
  | data r =>
    subst hd
    refine ss_one (s_if (q := true) (T := T) (et_not (k := false) (et_val (ed_isiC (n_isinstance t) stab_d (ed_var (i := 0) rfl r) (fun v' H' _ r => dp_ty r) (er_gref (g_Watch t)) (kitTy_ok (kitT_Watch t) _)))) (fun _ H1 l1 => ?_) fun e => by cases e)
    exact ss_one (s_raise B (rc_NoWatch t) (T := T) (ed_var (i := 1) rfl (l1.dp hpd)) fun v dd H2 l2 r hdd => he pd rfl v dd _ (l1.trans (l2.add hdd)) upd_same ((Le.new (T := T) hdd).dp r))
end
end RM
namespace RM
open PySem PySem.Spec L2 LamX
open PyProof.Rows hiding St
def tupOf (d : PyData) : PyData := .tuple (seqOf d)
/-- the attributes of a watch made of moves and words -/
def spInit (T : List (Addr × Str)) (K : PySem.W.Frag) : Sp := fun vs H Q E => ∃ a dx vm dm vw dw, vs = [.ref a, vm, vw] ∧ H a = some (.ins (He.ga K "Watch") dx []) ∧ Dp K H vm dm ∧ Dp K H vw dw ∧ Tabs T H ∧ movesErr dm = none ∧ wordsErr dw (seqOf dm).length = none ∧
  ∀ v1 v2 H', Le T [a] H H' → H' a = some (.ins (He.ga K "Watch") dx [("own_moves", v1), ("own_words", v2)]) → Dp K H' v1 (.tuple ((seqOf dm).map tupOf)) → Dp K H' v2 (tupOf dw) → Q .non H'
theorem moves_ok {d : PyData} (h : movesErr d = none) : isLst d = true ∧ (seqOf d).length ≤ 6 ∧ 1 ≤ (seqOf d).length ∧ ∀ e ∈ seqOf d, isLine e (seqOf ((seqOf d).getD 0 .none)).length (seqOf d).length = true := by
  unfold movesErr at h
  split at h
  · rename_i c1
    split at h
    · rename_i c2
      split at h
      · rename_i c3
        simp only [Bool.and_eq_true, decide_eq_true_eq] at c1
        refine ⟨c1.1, by omega, by omega, fun e he => ?_⟩
        unfold fw at c3
        rw [List.findIdx?_eq_none_iff] at c3
        simpa using c3 e he
      · cases h
    · cases h
  · cases h
theorem words_ok {d : PyData} {n : Int} (h : wordsErr d n = none) : isLst d = true ∧ ((seqOf d).length : Int) = n ∧ ∀ e ∈ seqOf d, isWord e = true := by
  unfold wordsErr at h
  split at h
  · rename_i c1
    split at h
    · rename_i c3
      simp only [Bool.and_eq_true, decide_eq_true_eq] at c1
      refine ⟨c1.1, c1.2, fun e he => ?_⟩
      unfold fw at c3
      rw [List.findIdx?_eq_none_iff] at c3
      simpa using c3 e he
    · cases h
  · cases h
theorem line_ok {d : PyData} {k p : Int} (h : isLine d k p = true) : isLst d = true ∧ ((seqOf d).length : Int) = k ∧ ∀ e ∈ seqOf d, isBet e 0 (p - 1) = true := by
  unfold isLine at h
  simp only [Bool.and_eq_true, decide_eq_true_eq, List.all_eq_true] at h
  exact ⟨h.1.1, h.1.2, h.2⟩
theorem noLs_bet {ds : List PyData} {lo hi : Int} (h : ∀ e ∈ ds, isBet e lo hi = true) : noLs ds = true := by
  induction ds with
  | nil => rfl
  | cons a r ih =>
    have ha := h a List.mem_cons_self
    have : noL a = true := by cases a <;> first | rfl | (simp [isBet] at ha)
    simp [noLs, this, ih fun e he => h e (List.mem_cons_of_mem _ he)]
section
variable {P : Program} {w : World} {K : PySem.W.Frag} {mg : Str → Option Value} {base : Heap} {T : List (Addr × Str)} (t : Tx P K mg)
include t
theorem ok_Watch_moves : FnOk P w K mg base (L2.CX P w) 1 (d_Watch_moves.at_ K) (fdOf K (d_Watch_moves.at_ K)) ["self"] (fldSp T K (He.ga K "Watch") fun m _ => movesD m) := by
  refine ok_def (f_Watch_moves t) sc_Watch_moves (fun vs H Q E ⟨a, m, ws, e, _⟩ => by rw [e]; rfl) fun cdv A outer s H vs Q E B ⟨a, m, ws, e, hw, hm, hq⟩ => ?_
  subst e
  exact ss_one (s_ret (T := T) (R := dP K (movesD m)) (er_fld (cls_Watch t) (noat_Watch_own_moves t) ((er_var (i := 0) rfl ⟨a, rfl, hw⟩ (stab_w (T := T))).imp fun v H' _ r => own_moves r)) fun v H1 l r => hq v H1 l r)
theorem ok_Watch_words : FnOk P w K mg base (L2.CX P w) 1 (d_Watch_words.at_ K) (fdOf K (d_Watch_words.at_ K)) ["self"] (fldSp T K (He.ga K "Watch") fun _ ws => nsD ws) := by
  refine ok_def (f_Watch_words t) sc_Watch_words (fun vs H Q E ⟨a, m, ws, e, _⟩ => by rw [e]; rfl) fun cdv A outer s H vs Q E B ⟨a, m, ws, e, hw, hm, hq⟩ => ?_
  subst e
  exact ss_one (s_ret (T := T) (R := dP K (nsD ws)) (er_fld (cls_Watch t) (noat_Watch_own_words t) ((er_var (i := 0) rfl ⟨a, rfl, hw⟩ (stab_w (T := T))).imp fun v H' _ r => own_words r)) fun v H1 l r => hq v H1 l r)
theorem ok_Watch_kinds : FnOk P w K mg base (L2.CX P w) 1 (d_Watch_kinds.at_ K) (fdOf K (d_Watch_kinds.at_ K)) ["self"] (fldSp T K (He.ga K "Watch") fun m _ => .int ((m.getD 0 []).length : Nat)) := by
  refine ok_def (f_Watch_kinds t) sc_Watch_kinds (fun vs H Q E ⟨a, m, ws, e, _⟩ => by rw [e]; rfl) fun cdv A outer s H vs Q E B ⟨a, m, ws, e, hw, hm, hq⟩ => ?_
  subst e
  obtain ⟨r0, m', rfl⟩ : ∃ r0 m', m = r0 :: m' := by
    cases m with
    | nil => exact absurd rfl hm
    | cons a b => exact ⟨a, b, rfl⟩
  refine ss_one (s_ret (T := T) (R := dP K (.int (r0.length : Nat))) (Er.eq (ed_len (ds := r0.map fun n => PyData.int (n : Nat)) (n_len t) (ed_ix (d := nsD r0) (er_fld (cls_Watch t) (noat_Watch_own_moves t) ((er_var (i := 0) rfl ⟨a, rfl, hw⟩ (stab_w (T := T))).imp fun v H' _ r => own_moves r)) (.inl rfl) ed_int (atI_nat (j := 0) rfl)) (.inl rfl)) (by rw [List.length_map])) fun v H1 l r => hq v H1 l r)
end
section
variable {P : Program} {w : World} {K : PySem.W.Frag} {mg : Str → Option Value} {base : Heap} (W : Wd P K mg base)
include W
theorem ok_Watch_init : FnOk P w K mg base (L2.CX P w) 7 (d_Watch___init__.at_ K) (fdOf K (d_Watch___init__.at_ K)) ["self", "moves", "words"] (spInit (TT K) K) := by
  have t := W.tx
  refine ok_def (f_Watch___init__ t) sc_Watch___init__ (fun vs H Q E ⟨a, dx, vm, dm, vw, dw, e, _⟩ => by rw [e]; rfl) fun cdv A outer s H vs Q E B ⟨a, dx, vm, dm, vw, dw, e, ha, hm, hw, hT, em, ew, hq⟩ => ?_
  subst e
  obtain ⟨m1, m2, m3, m4⟩ := moves_ok em
  obtain ⟨w1, w2, w3⟩ := words_ok ew
  refine ss_cons (s_expr0 (we_callW (T := TT K) (ok_need_moves W) (by exact B.room.mono (by decide)) (g_need_moves t) (k_need_moves t) (b_need_moves t) B.tk (ed_cons (ed_var (i := 1) rfl hm) ea_nil) fun vs H1 l1 ra => ?_))
  obtain ⟨v, rfl, r⟩ := allP1 ra
  refine ⟨v, dm, rfl, r, l1.tab hT, fun _ H2 l2 => ?_, fun x e => by rw [em] at e; cases e⟩
  have l12 := l1.trans l2
  refine ss_cons (s_expr0 (we_callW (T := TT K) (ok_need_words (T := TT K) t) (by exact B.room.mono (by decide)) (g_need_words t) (k_need_words t) (b_need_words t) B.tk (ed_cons (ed_var (i := 2) rfl (l12.dp hw)) (ed_cons (ed_len (n_len t) (ed_var (i := 1) rfl (l12.dp hm)) (isSeq_of m1)) ea_nil)) fun vs H3 l3 ra => ?_))
  obtain ⟨v, u, rfl, r, r'⟩ := allP2 ra
  cases r'
  refine ⟨v, dw, _, rfl, r, fun _ H4 l4 => ?_, fun x e => by rw [ew] at e; cases e⟩
  have l14 := l12.trans (l3.trans l4)
  refine ss_cons (s_fld (i := 0) (ad := a) (T := TT K) (R := dP K (.tuple ((seqOf dm).map tupOf))) (ed_tuple (n_tuple t) (er_lcS (x := "line") (j := 3) (f := tupOf) B.calm B.nd (ed_var (i := 1) (T := TT K) rfl (l14.dp hm)) (isSeq_of m1) (by omega) (by kernel_rfl) fun i d u H5 b hi l5 r5 hb => BlkE.of ?_ fun s0 H0 C cl fp => ed_tuple (n_tuple t) (ed_var (i := 3) rfl r5) (isSeq_of (line_ok (m4 d (List.mem_of_getElem? hi))).1)) (.inr rfl)) rfl (cls_Watch t) (noat_Watch_own_moves t) fun v5 H5 l5 r5 => ?_)
  · unfold tupOf
    simp only [noL]
    exact noLs_bet (line_ok (m4 d (List.mem_of_getElem? hi))).2.2
  have l15 := l14.trans l5
  have a5 : H5 a = some (.ins (He.ga K "Watch") dx []) := l15.at ha (by simp) fun _ z => nomatch z
  refine ⟨dx, [], a5, by simp, ?_⟩
  have l6 : Le (TT K) [a] H5 (upd H5 a (.ins (He.ga K "Watch") dx (putF "own_moves" v5 []))) := Le.refl.putI a5 (by simp)
  have a6 : upd H5 a (.ins (He.ga K "Watch") dx (putF "own_moves" v5 [])) a = some (.ins (He.ga K "Watch") dx [("own_moves", v5)]) := upd_same
  have hw6 := l6.dpS (noSeq_ins a5) (l15.dp hw)
  have r6 := l6.dpS (noSeq_ins a5) r5
  refine ss_one (s_fld (i := 0) (ad := a) (T := TT K) (R := dP K (tupOf dw)) (ed_tuple (n_tuple t) (ed_var (i := 2) rfl hw6) (isSeq_of w1)) rfl (cls_Watch t) (noat_Watch_own_words t) fun v7 H7 l7 r7 => ?_)
  have a7 : H7 a = some (.ins (He.ga K "Watch") dx [("own_moves", v5)]) := l7.at a6 (by simp) fun _ z => nomatch z
  refine ⟨dx, _, a7, by simp, ?_⟩
  have l8 : Le (TT K) [a] H7 (upd H7 a (.ins (He.ga K "Watch") dx (putF "own_words" v7 [("own_moves", v5)]))) := Le.refl.putI a7 (by simp)
  refine hq v5 v7 _ (l15.up.trans (l6.trans (l7.up.trans l8))) ?_ (l8.dpS (noSeq_ins a7) (l7.dp r6)) (l8.dpS (noSeq_ins a7) r7)
  rw [upd_same]
  rfl
end
end RM
namespace RM
open PySem PySem.Spec L2 LamX
open PyProof.Rows hiding St
abbrev natsD (l : List Nat) : List PyData := l.map fun n => PyData.int (n : Nat)
theorem natsD_get {l : List Nat} {i x : Nat} (h : l[i]? = some x) : (natsD l)[i]? = some (.int (x : Nat)) := by rw [List.getElem?_map, h]; rfl
theorem natsD_at {l : List Nat} {i x : Nat} (h : l[i]? = some x) : atI (natsD l) (i : Nat) = some (.int (x : Nat)) := atI_nat (natsD_get h)
theorem natsD_of {l : List Nat} {i : Nat} {d : PyData} (h : (natsD l)[i]? = some d) : ∃ x : Nat, l[i]? = some x ∧ d = .int (x : Nat) := by
  rw [List.getElem?_map] at h
  cases e : l[i]? with
  | none => rw [e] at h; cases h
  | some x => rw [e] at h; cases h; exact ⟨x, rfl, rfl⟩
theorem moves_at {m : List (List Nat)} {i : Nat} {r : List Nat} (h : m[i]? = some r) : atI (m.map nsD) (i : Nat) = some (nsD r) := atI_nat (by rw [List.getElem?_map, h]; rfl)
theorem noL_ns {l : List Nat} : noL (nsD l) = true := by
  unfold nsD
  simp only [noL]
  induction l with
  | nil => rfl
  | cons a r ih => simp [noLs, noL, ih]
theorem VMne {m : List (List Nat)} (h : VM m) : m ≠ [] := fun e => by
  have := h.ne
  rw [e] at this
  simp at this
/-- an error, raised -/
def ErrC (T : List (Addr × Str)) (K : PySem.W.Frag) (C : Addr) (f : Str) (x : PyData) (H : Hp) (E : XK) : Prop := ∀ v dd H', Le T [] H H' → H' dd = some (.xd [(f, v)]) → Dp K H' v x → E (.ref C) (some dd) H'
theorem ErrC.up {T : List (Addr × Str)} {K : PySem.W.Frag} {C : Addr} {f : Str} {x : PyData} {H H1 : Hp} {E : XK} (h : ErrC T K C f x H E) (l : Le T [] H H1) : ErrC T K C f x H1 E := fun v dd H' l2 h1 h2 => h v dd H' (l.trans l2) h1 h2
abbrev KW (K : PySem.W.Frag) : Addr := He.ga K ("Watch" : Str)
def spNeedRow (T : List (Addr × Str)) (K : PySem.W.Frag) : Sp := fun vs H Q E => ∃ a m ws v d, vs = [.ref a, v] ∧ WatchAt K H (KW K) a m ws ∧ m ≠ [] ∧ Dp K H v d ∧ Tabs T H ∧ Due T K (He.ga K "BadRow") "index" (rowErr (kindsM m) d) H Q E
def spLed (T : List (Addr × Str)) (K : PySem.W.Frag) : Sp := fun vs H Q _ => ∃ a m ws p v d row, vs = [.ref a, .int (p : Nat), v] ∧ WatchAt K H (KW K) a m ws ∧ VM m ∧ p < m.length ∧ Dp K H v d ∧ IsSeq d (natsD row) ∧ (∀ k ∈ row, k < kindsM m) ∧ ∀ H', Le T [] H H' → Q (.int (ledFrom m p row : Nat)) H'
def spMapBy (T : List (Addr × Str)) (K : PySem.W.Frag) : Sp := fun vs H Q _ => ∃ a m ws v d row, vs = [.ref a, v] ∧ WatchAt K H (KW K) a m ws ∧ VM m ∧ Dp K H v d ∧ IsSeq d (natsD row) ∧ (∀ k ∈ row, k < kindsM m) ∧ ∀ u H', Le T [] H H' → tP (mapBy m row) u H' → Q u H'
def spThen (T : List (Addr × Str)) (K : PySem.W.Frag) : Sp := fun vs H Q _ => ∃ v1 v2 f g L, vs = [v1, v2] ∧ Dp K H v1 (nsD f) ∧ Dp K H v2 (nsD g) ∧ Val L f ∧ Val L g ∧ L ≤ 100000 ∧ ∀ u H', Le T [] H H' → tP (thenM f g) u H' → Q u H'
section
variable {X : Cx} {T : List (Addr × Str)} {e : Expr} {σ : St} {H : Hp} {pos : Pos} {k : Nat} {m : List (List Nat)} {ws : List Nat} (t : Tx X.prog X.K X.mg)
include t
theorem ed_moves (hr : Room 2 X.A) (he : Er X T e σ H (wP X.K (KW X.K) m ws)) (hm : m ≠ []) (hab : attributeBase e "moves" X.env (eval e X.env) = eval e X.env := by rfl) : Ed X T (.Attribute e "moves" pos) σ H (movesD m) :=
  er_prop he (cls_Watch t) (prop_Watch_moves t) (ok_Watch_moves t) hr (b_Watch_moves t) hm hab
theorem ed_words (hr : Room 2 X.A) (he : Er X T e σ H (wP X.K (KW X.K) m ws)) (hm : m ≠ []) (hab : attributeBase e "words" X.env (eval e X.env) = eval e X.env := by rfl) : Ed X T (.Attribute e "words" pos) σ H (nsD ws) :=
  er_prop he (cls_Watch t) (prop_Watch_words t) (ok_Watch_words t) hr (b_Watch_words t) hm hab
theorem ed_kinds (hr : Room 2 X.A) (he : Er X T e σ H (wP X.K (KW X.K) m ws)) (hm : m ≠ []) (hab : attributeBase e "kinds" X.env (eval e X.env) = eval e X.env := by rfl) : Ed X T (.Attribute e "kinds" pos) σ H (.int (kindsM m : Nat)) :=
  er_prop (fv := fun m _ => .int ((m.getD 0 []).length : Nat)) he (cls_Watch t) (prop_Watch_kinds t) (ok_Watch_kinds t) hr (b_Watch_kinds t) hm hab
end
section
variable {P : Program} {w : World} {K : PySem.W.Frag} {mg : Str → Option Value} {base : Heap} {T : List (Addr × Str)} (t : Tx P K mg)
include t
theorem ok_led_from : FnOk P w K mg base (L2.CX P w) 3 (d_led_from.at_ K) (fdOf K (d_led_from.at_ K)) ["watch", "place", "row"] (spLed T K) := by
  refine ok_def (f_led_from t) sc_led_from (fun vs H Q E ⟨a, m, ws, p, v, d, row, e, _⟩ => by rw [e]; rfl) fun cdv A outer s H vs Q E B ⟨a, m, ws, p, v, d, row, e, hw, hm, hp, hd, hs, hk, hq⟩ => ?_
  subst e
  refine ss_cons (s_forS B (j := 3) (T := T) (ed_var (i := 2) rfl hd) hs fun v1 H1 l1 r1 => ?_)
  refine ⟨fun i σ' H' => (∃ x, σ' = [some (.ref a), some (.int (ledFrom m p (row.take i) : Nat)), some v, x]) ∧ Le T [] H1 H', ⟨⟨_, rfl⟩, .refl⟩, fun i σ' H' q => q.2, fun i d' u σ' H' hi ⟨⟨x1, e⟩, l⟩ r2 => ?_, fun σ' H' ⟨⟨x1, e⟩, l⟩ => ?_⟩
  · subst e
    obtain ⟨k, hk1, rfl⟩ := natsD_of hi
    have hkm : k ∈ row := List.mem_of_getElem? hk1
    have hq1 : ledFrom m p (row.take i) < m.length := hm.led hp fun x hx => hk x (List.mem_of_mem_take hx)
    obtain ⟨r, g1, g2, g3⟩ := hm.step hq1 (hk k hkm)
    have ew : WatchAt K H' (KW K) a m ws := (hw.up l1).up l
    refine ss_one (s_set B (i := 1) (T := T) (R := dP K (.int (stepW m (ledFrom m p (row.take i)) k : Nat))) (ed_ix (ds := natsD r) (ed_ix (ed_moves (T := T) (m := m) (ws := ws) t (by exact B.room) (er_var (i := 0) rfl ⟨a, rfl, ew⟩ stab_w) (VMne hm)) (.inl rfl) (ed_var (i := 1) rfl (.int _)) (moves_at g1)) (.inl rfl) (ed_var (i := 3) rfl r2) (natsD_at g2)) fun v3 H3 l3 r3 => ?_)
    cases r3
    refine ⟨⟨some u, ?_⟩, l.trans l3⟩
    have : ledFrom m p (row.take (i + 1)) = stepW m (ledFrom m p (row.take i)) k := by
      rw [List.take_add_one, hk1, led_app]
      rfl
    rw [this]
    rfl
  · subst e
    have el : (natsD row).length = row.length := List.length_map _
    rw [el, List.take_length]
    exact ss_one (s_ret (T := T) (ed_var (i := 1) rfl (.int _)) fun u H4 l4 r4 => by cases r4; exact hq H4 (l1.trans (l.trans l4)))
theorem ok_map_by : FnOk P w K mg base (L2.CX P w) 4 (d_map_by.at_ K) (fdOf K (d_map_by.at_ K)) ["watch", "row"] (spMapBy T K) := by
  refine ok_def (f_map_by t) sc_map_by (fun vs H Q E ⟨a, m, ws, v, d, row, e, _⟩ => by rw [e]; rfl) fun cdv A outer s H vs Q E B ⟨a, m, ws, v, d, row, e, hw, hm, hd, hs, hk, hq⟩ => ?_
  subst e
  have hlen := hm.most
  refine ss_one (s_ret (T := T) (R := tP (mapBy m row)) (er_tupN (n_tuple t) (Er.eq (er_lcR (x := "place") (j := 2) (n := m.length) (f := fun p => .int (ledFrom m p row : Nat)) B.calm B.nd (n_range t) (Er.eq (ed_len (n_len t) (ed_moves (T := T) (m := m) (ws := ws) t (by exact B.room.mono (by decide)) (er_var (i := 0) rfl ⟨a, rfl, hw⟩ stab_w) (VMne hm)) (.inl rfl)) (by rw [List.length_map])) (by omega) (by kernel_rfl) fun i H1 b hi l1 hb => BlkE.of rfl fun s0 H0 C cl fp => ?_) (by unfold mapBy; rw [List.map_map]; rfl))) fun u H1 l r => hq u H1 l r)
  refine er_call (ok_led_from (T := T) t) (by exact B.room) (g_led_from t) (k_led_from t) (b_led_from t) .nil (ea_cons (er_var (i := 0) rfl ⟨a, rfl, hw.up l1⟩ stab_w) (ed_cons (ed_var (i := 2) rfl (.int _)) (ed_cons (ed_var (i := 1) rfl (l1.dp hd)) ea_nil)) stab_w) fun vs H2 l2 ra Q' q' => ?_
  obtain ⟨v1, v2, v3, rfl, ⟨a', rfl, r1⟩, r2, r3⟩ := allP3 ra
  cases r2
  exact ⟨a', m, ws, i, v3, d, row, rfl, r1, hm, hi, r3, hs, hk, fun H3 l3 => q' _ H3 l3 (.int _)⟩
theorem ok_then : FnOk P w K mg base (L2.CX P w) 1 (d_then.at_ K) (fdOf K (d_then.at_ K)) ["one", "other"] (spThen T K) := by
  refine ok_def (f_then t) sc_then (fun vs H Q E ⟨v1, v2, f, g, L, e, _⟩ => by rw [e]; rfl) fun cdv A outer s H vs Q E B ⟨v1, v2, f, g, L, e, h1, h2, hf, hg, hL, hq⟩ => ?_
  subst e
  have e1 := hf.len
  refine ss_one (s_ret (T := T) (R := tP (thenM f g)) (er_tupN (n_tuple t) (Er.eq (er_lcS (x := "place") (j := 2) (ds := natsD f) (f := fun d => match d with | .int i => .int (g.getD i.toNat 0 : Nat) | _ => .none) B.calm B.nd (ed_var (i := 0) (T := T) rfl h1) (.inl rfl) (by rw [List.length_map]; omega) (by kernel_rfl) fun i d u H1 b hi l1 r1 hb => ?_) ?_)) fun u H1 l r => hq u H1 l r)
  · obtain ⟨p, hp, rfl⟩ := natsD_of hi
    have hpL := hf.lt p (List.mem_of_getElem? hp)
    have e2 : g[p]? = some (g.getD p 0) := by rw [List.getD_eq_getElem?_getD, List.getElem?_eq_getElem (by rw [hg.len]; exact hpL)]; rfl
    refine BlkE.of rfl fun s0 H0 C cl fp => Er.eq (ed_ix (ds := natsD g) (ed_var (i := 1) rfl (l1.dp h2)) (.inl rfl) (ed_var (i := 2) rfl r1) (natsD_at e2)) rfl
  · unfold thenM
    rw [List.map_map, List.map_map]
    rfl
end
end RM
namespace RM
open PySem PySem.Spec L2 LamX
open PyProof.Rows hiding St
def spKindMaps (T : List (Addr × Str)) (K : PySem.W.Frag) : Sp := fun vs H Q _ => ∃ a m ws, vs = [.ref a] ∧ WatchAt K H (KW K) a m ws ∧ VM m ∧ ∀ u H', Le T [] H H' → FreshM H (kindMaps m) u H' → Q u H'
/-- all maps are found, or too many -/
def MapsK (T : List (Addr × Str)) (K : PySem.W.Frag) (m : List (List Nat)) (H : Hp) (Q : VK) (E : XK) : Prop := (∀ j, Stop m j → (allM m j).length ≤ 2000 → ∀ u H', Le T [] H H' → FreshT K H (toE (allM m j)) u H' → Q u H') ∧ ∀ j, Over m 2000 j → ErrC T K (He.ga K "TooMany") "most" (.int 2000) H E
def spMapsBy (T : List (Addr × Str)) (K : PySem.W.Frag) : Sp := fun vs H Q E => ∃ a m ws, vs = [.ref a] ∧ WatchAt K H (KW K) a m ws ∧ VM m ∧ MapsK T K m H Q E
theorem runK_short {st : List (List Nat)} {i n : Nat} {es : List Ent} (hi : i < es.length) (h : ∀ e ∈ es, e.2.length ≤ n) : ∀ k, ∀ e ∈ runK st i es k, e.2.length ≤ n + 1
  | 0 => fun e he => Nat.le_succ_of_le (h e he)
  | k + 1 => by
    have ih := runK_short (st := st) hi h k
    unfold runK
    split
    · exact ih
    · intro e he
      rcases List.mem_append.mp he with he | he
      · exact ih e he
      · obtain rfl := List.mem_singleton.mp he
        have := h _ (List.mem_of_getElem? (ent_at hi))
        have h2 : (entR es i).length ≤ n := this
        simp
        exact h2
theorem allM_short {m : List (List Nat)} : ∀ i, Goes m i → ∀ e ∈ allM m i, e.2.length ≤ i
  | 0, _ => fun e he => by
    obtain rfl := List.mem_singleton.mp he
    exact Nat.le_refl _
  | i + 1, h => by
    show ∀ e ∈ runK (kindMaps m) i (allM m i) (kindMaps m).length, e.2.length ≤ i + 1
    exact runK_short (h i (by omega)) (allM_short i (h.mono (by omega))) _
theorem runK_keys_succ {st : List (List Nat)} {i k : Nat} {es : List Ent} : runK st i es (k + 1) = if hasK (runK st i es k) (thenM (entF es i) (st.getD k [])) then runK st i es k else runK st i es k ++ [(thenM (entF es i) (st.getD k []), entR es i ++ [k])] := rfl
section
variable {P : Program} {w : World} {K : PySem.W.Frag} {mg : Str → Option Value} {base : Heap} {T : List (Addr × Str)} (t : Tx P K mg)
include t
theorem ok_kind_maps : FnOk P w K mg base (L2.CX P w) 5 (d_kind_maps.at_ K) (fdOf K (d_kind_maps.at_ K)) ["watch"] (spKindMaps T K) := by
  refine ok_def (f_kind_maps t) sc_kind_maps (fun vs H Q E ⟨a, m, ws, e, _⟩ => by rw [e]; rfl) fun cdv A outer s H vs Q E B ⟨a, m, ws, e, hw, hm, hq⟩ => ?_
  subst e
  have hk := hm.kinds.2
  refine ss_one (s_ret (T := T) (R := FreshP H ((List.range (kindsM m)).map fun i => tP (mapBy m [i]))) (er_lcRG (x := "kind") (j := 1) (n := kindsM m) (P := fun i => tP (mapBy m [i])) B.calm B.nd (n_range t) (ed_kinds (m := m) (ws := ws) t (by exact B.room.mono (by decide)) (er_var (i := 0) rfl ⟨a, rfl, hw⟩ stab_w) (VMne hm)) (by unfold kindsM; omega) (by kernel_rfl) (fun i hi => stL_tP) fun i H1 hi l1 s0 H0 C cl fp => ?_) fun u H1 l r => hq u H1 l (freshM_of (by unfold kindMaps; rw [List.map_map]; exact r)))
  refine er_call (ok_map_by (T := T) t) (by exact B.room) (g_map_by t) (k_map_by t) (b_map_by t) .nil (ea_cons (er_var (i := 0) rfl ⟨a, rfl, hw.up l1⟩ stab_w) (ed_cons (ed_tup (ds := [.int (i : Nat)]) (ed_cons (ed_var (i := 1) rfl (.int _)) ea_nil) (by simp)) ea_nil) stab_w) fun vs H2 l2 ra Q' q' => ?_
  obtain ⟨v1, v2, rfl, ⟨a', rfl, r1⟩, r2⟩ := allP2 ra
  exact ⟨a', m, ws, v2, _, [i], rfl, r1, hm, r2, .inl rfl, fun k hk => (by obtain rfl := List.mem_singleton.mp hk; exact hi), q'⟩
theorem ok_maps_by : FnOk P w K mg base (L2.CX P w) 6 (d_maps_by.at_ K) (fdOf K (d_maps_by.at_ K)) ["watch"] (spMapsBy T K) := by
  refine ok_def (f_maps_by t) sc_maps_by (fun vs H Q E ⟨a, m, ws, e, _⟩ => by rw [e]; rfl) fun cdv A outer s H vs Q E B ⟨a, m, ws, e, hw, hm, hq, he⟩ => ?_
  subst e
  have hu : A.units + 3 + 1 < cLine := by
    have h := B.room.un
    have h2 : A.units + 3 + 16 * 5 + 200 < cLine := h
    omega
  have hm6 := hm.most
  refine ss_cons (s_set B (i := 1) (T := T) (R := tP (List.range m.length)) (er_tupRgN B.calm (n_tuple t) (n_range t) (Er.eq (ed_len (n_len t) (ed_moves (T := T) (m := m) (ws := ws) t (by exact B.room.mono (by decide)) (er_var (i := 0) rfl ⟨a, rfl, hw⟩ stab_w) (VMne hm)) (.inl rfl)) (by rw [List.length_map])) (by omega)) fun v1 H1 l1 r1 => ?_)
  refine ss_cons (s_asgT B (n := 4) (pgs_cons (pg_name (i := 2) B.nd rfl (.inl rfl) (.inl rfl)) (pgs_cons (pg_name (i := 3) B.nd rfl (.inl rfl) (.inl rfl)) (pgs_cons (pg_name (i := 4) B.nd rfl (.inl rfl) (.inl rfl)) (pgs_cons (pg_name (i := 5) B.nd rfl (.inl rfl) (.inl rfl)) pgs_nil))))
    (wa_er (T := T) (R := FreshT K H1 [(List.range m.length, .tuple [])]) (er_disp1 (by exact hu) (er_var (i := 1) rfl r1 stab_tP) (ed_tup (ds := []) ea_nil (by simp))) fun v2 H2 l2 r2 =>
     wa_er (T := T) (R := FreshM H2 [List.range m.length]) (er_lst1 (er_var (i := 1) rfl (stab_tP (T := T) _ _ _ l2 r1) stab_tP)) fun v3 H3 l3 r3 =>
     wa_er (T := T) ed_int fun v4 H4 l4 r4 =>
     wa_cons (we_callQ (T := T) (ok_kind_maps (T := T) t) (by exact B.room) (g_kind_maps t) (k_kind_maps t) (b_kind_maps t) (ea_cons (er_var (i := 0) rfl ⟨a, rfl, hw.up (l1.trans (l2.trans (l3.trans l4)))⟩ stab_w) ea_nil stab_w) fun vs H5 l5 ra => ?_)))
  obtain ⟨u5, rfl, a5, rfl, r5⟩ := allP1 ra
  cases r4
  obtain ⟨b, rfl, fb, hb⟩ := r2
  obtain ⟨c, rfl, fc, hc⟩ := r3
  refine ⟨a5, m, ws, rfl, r5, hm, fun u6 H6 l6 r6 => wa_nil ⟨rfl, by decide, fun p7 hp7 => ?_⟩⟩
  obtain ⟨s, rfl, fs, hs⟩ := r6
  have l7 := Le.new (T := T) (S := []) (o := .tup [.ref b, .ref c, .int 0, .ref s]) hp7
  have l26 := l3.trans (l4.trans (l5.trans l6))
  have l36 := l4.trans (l5.trans l6)
  have hb7 := (hb.up l26).up l7
  have hc7 := (hc.up l36).up l7
  have hs7 := hs.up l7
  have hall : Le T [] H (upd H6 p7 (.tup [.ref b, .ref c, .int 0, .ref s])) := l1.trans (l2.trans (l26.trans l7))
  have fbH := l1.fr fb
  have fcH := (l1.trans l2).fr fc
  have nbc : b ≠ c := fun z => by
    obtain ⟨vs, h1, _⟩ := hb
    rw [← z, h1] at fc
    rcases fc with fc | ⟨ps, fc⟩ <;> cases fc
  have nbs : b ≠ s := fun z => by
    obtain ⟨vs, h1, _⟩ := hb.up (l3.trans (l4.trans l5))
    rw [← z, h1] at fs
    rcases fs with fs | ⟨ps, fs⟩ <;> cases fs
  have ncs : c ≠ s := fun z => by
    obtain ⟨vs, h1, _⟩ := hc.up (l4.trans l5)
    rw [← z, h1] at fs
    rcases fs with fs | ⟨ps, fs⟩ <;> cases fs
  refine ⟨_, _, rfl, _, _, rfl, _, _, rfl, _, _, rfl, rfl, ?_⟩
  change WpSs _ _ _ _ (upd H6 p7 (.tup [.ref b, .ref c, .int 0, .ref s]))
  generalize upd H6 p7 (.tup [.ref b, .ref c, .int 0, .ref s]) = H7 at l7 hb7 hc7 hs7 hall ⊢
  clear hb hc hs l26 l36 l6 l5 l4 l3 l2 l7 fb fc fs hp7 r5
  have NT : ∀ {H' : Hp} {es ls}, DTat K H' b es → LineT H' c ls → NoTup H' [b, c] := fun h1 h2 => noTup_app (S := [b]) (S' := [c]) h1.noTup (by obtain ⟨vs, e, _⟩ := h2; exact noTup_lst e)
  refine ss_cons (s_while (T := T) B (fun (i : Nat) σ' H' => (∃ x6 x7 x8, σ' = [some (.ref a), some v1, some (.ref b), some (.ref c), some (.int (i : Nat)), some (.ref s), x6, x7, x8]) ∧ Le T [b, c] H7 H' ∧ DTat K H' b (toE (allM m i)) ∧ LineT H' c ((allM m i).map (·.1)) ∧ LineT H' s (kindMaps m) ∧ Goes m i ∧ (allM m i).length ≤ 2000) (fun i => 2001 - i) 0
    ⟨⟨_, _, _, rfl⟩, .refl, hb7, hc7, hs7, fun j hj => absurd hj (by omega), by show 1 ≤ 2000; decide⟩ fun i σ' H' ⟨⟨x6, x7, x8, e⟩, l, hb, hc, hs, hg, hl⟩ => ?_)
  subst e
  have elen : (((allM m i).map (·.1)).map nsD).length = (allM m i).length := by rw [List.length_map, List.length_map]
  refine ⟨decide ((i : Int) < ((allM m i).length : Nat)), et_cmpI (T := T) op_lt (ed_var (i := 4) rfl (.int _)) (Er.eq (ed_len (n_len t) (ed_var (i := 3) rfl hc.dp) (.inr rfl)) (by rw [elen])), fun e H8 l8 => ?_, fun e H8 l8 => ?_⟩
  · have hi : i < (allM m i).length := by simpa using e
    have hg1 : Goes m (i + 1) := fun j hj => by
      rcases Nat.lt_succ_iff_lt_or_eq.mp hj with h | rfl
      · exact hg j h
      · exact hi
    have hb8 := hb.up l8
    have hc8 := hc.up l8
    have hs8 := hs.up l8
    obtain ⟨sv, hsv, hsa⟩ := hs8
    have hsl : sv.length = kindsM m := by rw [hsa.len, kindMaps_len]
    refine ss_cons (s_forE0 (T := T) (j1 := 6) (j2 := 7) B (n_enumerate t) ((er_var (T := T) (i := 5) (R := eqP (.ref s)) rfl rfl stab_e).run fun v9 H9 l9 e9 => ⟨s, sv, e9, .inl (SqL.of (l9.lst hsv (by simp))), ?_⟩))
    have hb9 := hb8.up l9
    have hc9 := hc8.up l9
    have hsv9 := l9.lst hsv (by simp)
    have hsa9 : AllT (kindMaps m) sv H9 := l9.allT noTup_nil hsa
    have l79 : Le T [b, c] H7 H9 := l.trans (l8.trans l9).up
    clear hb8 hc8 hsa hsv l9 l8 hb hc hs
    refine ⟨fun k σ3 H3 => (∃ x6 x7 x8, σ3 = [some (.ref a), some v1, some (.ref b), some (.ref c), some (.int (i : Nat)), some (.ref s), x6, x7, x8]) ∧ Le T [b, c] H9 H3 ∧ DTat K H3 b (toE (runK (kindMaps m) i (allM m i) k)) ∧ LineT H3 c ((runK (kindMaps m) i (allM m i) k).map (·.1)), ⟨⟨_, _, _, rfl⟩, .refl, hb9, hc9⟩, fun k σ3 H3 ⟨_, l3, _⟩ => ⟨fun z => l3.sqL z (by simp [nbs.symm, ncs.symm]), fun z => l3.sqT z (by simp [nbs.symm, ncs.symm])⟩, fun k u σ3 H3 hux ⟨⟨y6, y7, y8, e⟩, l3, hb3, hc3⟩ H4 l4 => ?_, fun σ3 H3 ⟨⟨y6, y7, y8, e⟩, l3, hb3, hc3⟩ => ?_⟩
    · subst e
      have hk : k < kindsM m := by rw [← hsl]; exact (List.getElem?_eq_some_iff.mp hux).1
      obtain ⟨g, hg2, hgt⟩ := (l3.allT (NT hb9 hc9) hsa9).get hux
      have eg : (kindMaps m).getD k [] = g := by rw [List.getD_eq_getElem?_getD, hg2]; rfl
      have ht4 : tP g u H4 := stab_tP (T := T) _ _ _ l4 hgt
      have hb4 := hb3.up l4
      have hc4 := hc3.up l4
      have hk4 : kindsM m ≤ 4 := hm.kinds.2
      obtain ⟨pre, epre⟩ := runK_pre (st := kindMaps m) (i := i) (es := allM m i) k
      have hlenk : (runK (kindMaps m) i (allM m i) k).length ≤ 2000 + k := by
        have : ∀ k, (runK (kindMaps m) i (allM m i) k).length ≤ 2000 + k := fun k => by
          induction k with
          | zero => exact hl
          | succ k ih =>
            rw [runK_keys_succ]
            split
            · omega
            · rw [List.length_append]; simp; omega
        exact this k
      have hi' : i < (runK (kindMaps m) i (allM m i) k).length := by rw [epre, List.length_append]; omega
      have eF : entF (runK (kindMaps m) i (allM m i) k) i = entF (allM m i) i := by rw [epre]; exact entF_pre hi
      have eR : entR (runK (kindMaps m) i (allM m i) k) i = entR (allM m i) i := by rw [epre]; exact entR_pre hi
      have hat : ((runK (kindMaps m) i (allM m i) k).map (·.1))[i]? = some (entF (allM m i) i) := by rw [List.getElem?_map, ent_at hi', eF]; rfl
      have hve : Val m.length (entF (allM m i) i) := by
        have := good_at (allM_good hm i hg) hi
        have h2 : entF (allM m i) i = mapBy m (entR (allM m i) i) := this.2
        rw [h2]
        exact hm.map this.1
      have hvg : Val m.length g := by
        rw [← eg, kindMaps_at hk]
        exact hm.map fun x hx => by obtain rfl := List.mem_singleton.mp hx; exact hk
      refine ss_cons (s_set B (i := 8) (T := T) (R := tP (thenM (entF (allM m i) i) g)) (er_call (ok_then (T := T) t) (by exact B.room.mono (by decide)) (g_then t) (k_then t) (b_then t) .nil (ed_cons (d := nsD (entF (allM m i) i)) ((er_ixT (er_var (i := 3) rfl rfl stab_e) hc4 (ed_var (i := 4) rfl (.int _)) hat).imp fun v H' _ r => tP_dp r) (ed_cons (d := nsD g) (ed_var (i := 7) rfl (tP_dp ht4)) ea_nil)) fun vs H5 l5 ra Q' q' => ?_) fun v5 H5 l5 r5 => ?_)
      · obtain ⟨q1, q2, rfl, h1, h2⟩ := allP2 ra
        exact ⟨q1, q2, _, _, m.length, rfl, h1, h2, hve, hvg, by omega, q'⟩
      have hb5 := hb4.up l5
      have hc5 := hc4.up l5
      have hlook := look_dec (es := runK (kindMaps m) i (allM m i) k) (f := thenM (entF (allM m i) i) g)
      refine ss_one (s_if (T := T) (et_notInT (by exact hu) (er_var (i := 8) rfl r5 stab_tP) (er_var (i := 2) rfl rfl stab_e) hb5.r) (fun e6 H6 l6 => ?_) fun e6 H6 l6 => ss_nil ?_)
      · have hno : hasK (runK (kindMaps m) i (allM m i) k) (thenM (entF (allM m i) i) g) = false := by
          rw [e6] at hlook
          simpa using hlook.symm
        have hno' : look (toE (runK (kindMaps m) i (allM m i) k)) (thenM (entF (allM m i) i) g) = none := of_decide_eq_true e6
        have hnd : ((runK (kindMaps m) i (allM m i) k).map (·.1)).Nodup := runK_nodup (runB_nodup i) k
        have hsome := look_some hnd hi'
        rw [eF, eR] at hsome
        have hb6 := hb5.up l6
        have hc6 := hc5.up l6
        have r6 := stab_tP (T := T) _ _ _ l6 r5
        refine ss_cons (s_putT (T := T) (d := nsD (entR (allM m i) i ++ [k])) (l := thenM (entF (allM m i) i) g) (by exact hu) (Er.eq (ed_starT (b := true) (ds := natsD (entR (allM m i) i)) (er_getT (by exact hu) (er_var (i := 2) rfl rfl stab_e) (er_ixT (er_var (i := 3) rfl rfl stab_e) hc6 (ed_var (i := 4) rfl (.int _)) hat) hb6.r hsome) (ed_var (i := 6) rfl (.int (k : Nat))) ?_) ?_) (er_var (i := 2) rfl rfl stab_e) (er_var (i := 8) rfl r6 stab_tP) hb6 hno' (by unfold toE; rw [List.length_map]; omega) fun H10 l10 hb10 => ?_)
        · have h1 := allM_short i hg _ (List.mem_of_getElem? (ent_at hi))
          have h2 : (entR (allM m i) i).length ≤ i := h1
          show (natsD (entR (allM m i) i)).length < 100000
          rw [List.length_map]
          omega
        · unfold nsD natsD; rw [List.map_append]; rfl
        have hc10 : LineT H10 c ((runK (kindMaps m) i (allM m i) k).map (·.1)) := hc6.to l10 hb6.noTup (by simp [nbc.symm])
        have r10 : tP (thenM (entF (allM m i) i) g) v5 H10 := l10.tP hb6.noTup r6
        refine ss_one (s_append (i := 3) (ad := c) (T := T) (R := tP (thenM (entF (allM m i) i) g)) (er_var (i := 8) rfl r10 stab_tP) rfl (let ⟨vs, h, _⟩ := hc10; ⟨vs, h⟩) fun v11 H11 l11 r11 => ?_)
        obtain ⟨cv, hcv, hca⟩ := hc10.up l11
        have hb11 := hb10.up l11
        have lw : Le T [c] H11 (upd H11 c (.lst (cv ++ [v11]))) := Le.refl.putL hcv (.inl (by simp))
        refine ⟨cv, hcv, by rw [hca.len, List.length_map, sizeLine_eq]; omega, ⟨_, _, _, rfl⟩, ?_, ?_, ?_⟩
        · exact l3.trans ((l4.trans (l5.trans l6)).up.trans ((l10.mono (by simp)).trans (l11.up.trans (lw.mono (by simp)))))
        · rw [runK_keys_succ, eg, if_neg (by rw [hno]; simp)]
          have e12 : toE (runK (kindMaps m) i (allM m i) k ++ [(thenM (entF (allM m i) i) g, entR (allM m i) i ++ [k])]) = toE (runK (kindMaps m) i (allM m i) k) ++ [(thenM (entF (allM m i) i) g, nsD (entR (allM m i) i ++ [k]))] := toE_app
          rw [← e12] at hb11
          exact hb11.to lw (noTup_lst hcv) (by simp [nbc]) toE_noL
        · rw [runK_keys_succ, eg, if_neg (by rw [hno]; simp), List.map_append]
          exact ⟨_, upd_same, (lw.allT (noTup_lst hcv) hca).snoc (lw.tP (noTup_lst hcv) r11)⟩
      · have hyes : hasK (runK (kindMaps m) i (allM m i) k) (thenM (entF (allM m i) i) g) = true := by
          rw [e6] at hlook
          simpa using hlook.symm
        refine ⟨⟨_, _, _, rfl⟩, l3.trans (l4.trans (l5.trans l6)).up, ?_, ?_⟩
        · rw [runK_keys_succ, eg, if_pos hyes]
          exact hb5.up l6
        · rw [runK_keys_succ, eg, if_pos hyes]
          exact hc5.up l6
    · subst e
      rw [hsl, ← kindMaps_len] at hb3 hc3
      change DTat K H3 b (toE (allM m (i + 1))) at hb3
      change LineT H3 c ((allM m (i + 1)).map (·.1)) at hc3
      have hs3 : LineT H3 s (kindMaps m) := ⟨sv, l3.lst hsv9 (by simp [nbs.symm, ncs.symm]), l3.allT (NT hb9 hc9) hsa9⟩
      refine ss_cons (s_augI (T := T) (i := 4) B rfl ed_int fun H4 l4 => ?_)
      have e1 : ((i : Nat) : Int) + 1 = ((i + 1 : Nat) : Int) := by omega
      rw [e1]
      have elen1 : (((allM m (i + 1)).map (·.1)).map nsD).length = (allM m (i + 1)).length := by rw [List.length_map, List.length_map]
      have hc4 := hc3.up l4
      refine ss_one (s_if (q := decide ((2000 : Int) < ((allM m (i + 1)).length : Nat))) (T := T) (et_cmpI op_gt (Er.eq (ed_len (n_len t) (ed_var (i := 3) rfl hc4.dp) (.inr rfl)) (by rw [elen1])) (ed_gint (i_MOST_MAPS t))) (fun e5 H5 l5 => ?_) fun e5 H5 l5 => ss_nil ?_)
      · have hov : Over m 2000 (i + 1) := ⟨hg1, fun j hj => Nat.le_trans (runB_len (by omega)) hl, by have := of_decide_eq_true e5; omega⟩
        have lH : Le T [] H H5 := (hall.up.trans (l79.trans (l3.trans (l4.trans l5).up))).dropT fun z hz => by
          rcases List.mem_cons.mp hz with rfl | hz
          · exact fbH
          · obtain rfl : z = c := by simpa using hz
            exact fcH
        exact ss_one (s_raise B (rc_TooMany t) (T := T) (ed_gint (i_MOST_MAPS t)) fun v dd H6 l6 r hdd => he (i + 1) hov v dd _ (lH.trans (l6.add hdd)) upd_same ((Le.new (T := T) hdd).dp r))
      · have hle : ¬ ((2000 : Int) < ((allM m (i + 1)).length : Nat)) := of_decide_eq_false e5
        have hgl := hg1.le
        refine ⟨i + 1, by omega, ⟨_, _, _, rfl⟩, l79.trans (l3.trans (l4.trans l5).up), (hb3.up l4).up l5, hc4.up l5, (hs3.up l4).up l5, hg1, by omega⟩
  · have hi : ¬ (i : Int) < ((allM m i).length : Nat) := of_decide_eq_false e
    have hst : Stop m i := ⟨hg, by omega⟩
    have lH : Le T [] H H8 := (hall.up.trans (l.trans l8.up)).dropT fun z hz => by
      rcases List.mem_cons.mp hz with rfl | hz
      · exact fbH
      · obtain rfl : z = c := by simpa using hz
        exact fcH
    exact ss_one (s_ret (T := T) (er_var (i := 2) (R := eqP (.ref b)) rfl rfl stab_e) fun u H9 l9 r9 => by
      subst r9
      exact hq i hst hl _ H9 (lH.trans l9) ⟨b, rfl, fbH, (hb.up l8).up l9⟩)
end
end RM
namespace RM
open PySem PySem.Spec L2 LamX
open PyProof.Rows hiding St
/-- a watch, a row: the errors that are due first, then k -/
def WR (T : List (Addr × Str)) (K : PySem.W.Frag) (H : Hp) (E : XK) (v vr : V) (k : List (List Nat) → List Nat → List Nat → Prop) : Prop := ∃ o d, ArgW K H (KW K) v o ∧ Dp K H vr d ∧ Tabs T H ∧ (∀ m ws, o = some (m, ws) → VM m) ∧
  (o = none → ErrC T K (He.ga K "NoWatch") "part" .none H E) ∧ ∀ m ws, o = some (m, ws) → (∀ x, rowErr (kindsM m) d = some x → ErrC T K (He.ga K "BadRow") "index" x H E) ∧ (rowErr (kindsM m) d = none → ∀ row, IsSeq d (natsD row) → (∀ x ∈ row, x < kindsM m) → k m ws row)
def spMapOf (T : List (Addr × Str)) (K : PySem.W.Frag) : Sp := fun vs H Q E => ∃ v vr, vs = [v, vr] ∧ WR T K H E v vr fun m ws row => ∀ u H', Le T [] H H' → tP (mapBy m row) u H' → Q u H'
theorem nat_of_bets {k : Nat} : ∀ {ds : List PyData}, (∀ e ∈ ds, isBet e 0 ((k : Int) - 1) = true) → ∃ row : List Nat, ds = natsD row ∧ ∀ x ∈ row, x < k
  | [], _ => ⟨[], rfl, fun x hx => by cases hx⟩
  | d :: ds, h => by
    obtain ⟨row, e, hr⟩ := nat_of_bets (k := k) (ds := ds) fun e he => h e (List.mem_cons_of_mem _ he)
    have hd := h d List.mem_cons_self
    cases d with
    | int i =>
      simp only [isBet, Bool.and_eq_true, decide_eq_true_eq] at hd
      refine ⟨i.toNat :: row, ?_, fun x hx => ?_⟩
      · rw [e]
        show _ = PyData.int ((i.toNat : Nat) : Int) :: natsD row
        rw [Int.toNat_of_nonneg hd.1]
      · rcases List.mem_cons.mp hx with rfl | hx
        · omega
        · exact hr x hx
    | _ => cases hd
theorem row_of {k : Nat} {d : PyData} (h : rowErr (k : Int) d = none) : ∃ row : List Nat, IsSeq d (natsD row) ∧ (∀ x ∈ row, x < k) ∧ row.length ≤ 300 := by
  unfold rowErr at h
  split at h
  · rename_i c
    split at h
    · rename_i c2
      unfold fw at c2
      rw [List.findIdx?_eq_none_iff] at c2
      have h1 := Bool.and_eq_true_iff.mp c
      obtain ⟨row, e, hr⟩ := nat_of_bets (k := k) (ds := seqOf d) fun e he => by simpa using c2 e he
      refine ⟨row, e ▸ isSeq_of h1.1, hr, ?_⟩
      have := of_decide_eq_true h1.2
      rw [e, List.length_map] at this
      exact this
    · cases h
  · cases h
theorem rowErr_ok {k : Nat} {d : PyData} {row : List Nat} (h : IsSeq d (natsD row)) (hk : ∀ x ∈ row, x < k) (hl : row.length ≤ 300) : rowErr (k : Int) d = none := by
  have e : seqOf d = natsD row := by rcases h with rfl | rfl <;> rfl
  have e2 : isLst d = true := by rcases h with rfl | rfl <;> rfl
  have e3 : isShort d = true := by
    unfold isShort
    rw [e2, e, List.length_map]
    simpa using hl
  unfold rowErr
  rw [if_pos e3, e]
  have : fw (fun e => isBet e 0 ((k : Int) - 1)) (natsD row) = none := by
    unfold fw
    rw [List.findIdx?_eq_none_iff]
    intro z hz
    obtain ⟨x, hx, rfl⟩ := List.mem_map.mp hz
    have := hk x hx
    simp only [isBet, Bool.not_eq_false', Bool.and_eq_true, decide_eq_true_eq]
    omega
  rw [this]
section
variable {P : Program} {w : World} {K : PySem.W.Frag} {mg : Str → Option Value} {base : Heap} {T : List (Addr × Str)} {t : Tx P K mg}
include t
theorem bd_need_watch : ∃ ds, Vals [V.non] ds ∧ Binds K (fdOf K (d_need_watch.at_ K)) ["watch", "part"] ds := FunD.binds1 (f_need_watch t) 1 0 (by intro h; cases h) rfl fun _ _ _ _ _ _ _ us its hl hi => match us, its, hl, hi with | [_], [_], _, _ => ⟨_, rfl, rfl⟩
end
section
variable {P : Program} {w : World} {K : PySem.W.Frag} {mg : Str → Option Value} {base : Heap} (W : Wd P K mg base)
include W
theorem ok_need_row : FnOk P w K mg base (L2.CX P w) 6 (d_need_row.at_ K) (fdOf K (d_need_row.at_ K)) ["watch", "row"] (spNeedRow (TT K) K) := by
  have t := W.tx
  refine ok_def (f_need_row t) sc_need_row (fun vs H Q E ⟨a, m, ws, v, d, e, _⟩ => by rw [e]; rfl) fun cdv A outer s H vs Q E B ⟨a, m, ws, v, d, e, hw, hm, hd, hT, hn, he⟩ => ?_
  subst e
  refine ss_one (s_expr0 (we_callW (T := TT K) (ok_need_row_of W) (by exact B.room) (g_need_row_of t) (k_need_row_of t) (b_need_row_of t) B.tk (ed_cons (ed_kinds (T := TT K) (m := m) (ws := ws) t (by exact B.room.mono (by decide)) (er_var (i := 0) rfl ⟨a, rfl, hw⟩ stab_w) hm) (ed_cons (ed_var (i := 1) rfl hd) ea_nil)) fun vs H1 l1 ra => ?_))
  obtain ⟨v1, v2, rfl, r1, r2⟩ := allP2 ra
  cases r1
  exact ⟨v2, _, d, rfl, r2, l1.tab hT, fun e H2 l2 => hn e H2 (l1.trans l2), fun x e v dd H' l h1 h2 => he x e v dd H' (l1.trans l) h1 h2⟩
theorem ok_map_of : FnOk P w K mg base (L2.CX P w) 7 (d_map_of.at_ K) (fdOf K (d_map_of.at_ K)) ["watch", "row"] (spMapOf (TT K) K) := by
  have t := W.tx
  refine ok_def (f_map_of t) sc_map_of (fun vs H Q E ⟨v, vr, e, _⟩ => by rw [e]; rfl) fun cdv A outer s H vs Q E B ⟨v, vr, e, o, d, ha, hd, hT, hvm, e1, e2⟩ => ?_
  subst e
  cases ha with
  | @data v d0 hv0 =>
    obtain ⟨ds, hvs, hbd⟩ := bd_need_watch (t := t)
    exact ss_cons (s_expr0 (we_callWD (T := TT K) (Rs := [dP K d0]) (ok_need_watch (T := TT K) t) (by exact B.room.mono (by decide)) (g_need_watch t) (k_need_watch t) hbd hvs B.tk (ed_cons (ed_var (i := 0) rfl hv0) ea_nil) fun vs H1 l1 ra => by
      obtain ⟨v1, rfl, r⟩ := allP1 ra
      exact ⟨v1, .non, none, .none, _, rfl, .data r, .non, rfl, ⟨(fun e => by cases e), fun x e v dd H' l h1 h2 => by cases e; exact e1 rfl v dd H' (l1.trans l) h1 h2⟩⟩))
  | @watch a m ws hw =>
    obtain ⟨ds, hvs, hbd⟩ := bd_need_watch (t := t)
    have hm := hvm m ws rfl
    obtain ⟨e3, e4⟩ := e2 m ws rfl
    refine ss_cons (s_expr0 (we_callWD (T := TT K) (Rs := [wP K (KW K) m ws]) (ok_need_watch (T := TT K) t) (by exact B.room.mono (by decide)) (g_need_watch t) (k_need_watch t) hbd hvs B.tk (ea_cons (er_var (i := 0) rfl ⟨a, rfl, hw⟩ stab_w) ea_nil stab_w) fun vs H1 l1 ra => ?_))
    obtain ⟨v1, rfl, a1, rfl, r⟩ := allP1 ra
    refine ⟨.ref a1, .non, _, .none, _, rfl, .watch r, .non, rfl, fun _ H2 l2 => ?_, fun x e => by cases e⟩
    have l12 := l1.trans l2
    refine ss_cons (s_expr0 (we_callW (T := TT K) (Rs := [wP K (KW K) m ws, dP K d]) (ok_need_row W) (by exact B.room.mono (by decide)) (g_need_row t) (k_need_row t) (b_need_row t) B.tk (ea_cons (er_var (i := 0) rfl ⟨a, rfl, hw.up l12⟩ stab_w) (ed_cons (ed_var (i := 1) rfl (l12.dp hd)) ea_nil) stab_w) fun vs H3 l3 ra => ?_))
    obtain ⟨v3, v4, rfl, ⟨a3, rfl, r3⟩, r4⟩ := allP2 ra
    refine ⟨a3, m, ws, v4, d, rfl, r3, VMne hm, r4, (l12.trans l3).tab hT, fun er H4 l4 => ?_, fun x e v dd H' l h1 h2 => e3 x e v dd H' (l12.trans (l3.trans l)) h1 h2⟩
    obtain ⟨row, hs, hk, hlen⟩ := row_of er
    have l14 := l12.trans (l3.trans l4)
    have e5 := e4 er row hs hk
    refine ss_one (s_ret (T := TT K) (R := tP (mapBy m row)) (er_call (ok_map_by (T := TT K) t) (by exact B.room.mono (by decide)) (g_map_by t) (k_map_by t) (b_map_by t) .nil (ea_cons (er_var (i := 0) rfl ⟨a, rfl, hw.up l14⟩ stab_w) (ed_cons (ed_var (i := 1) rfl (l14.dp hd)) ea_nil) stab_w) fun vs H5 l5 ra Q' q' => ?_) fun u H5 l5 r5 => e5 u H5 (l14.trans l5) r5)
    obtain ⟨v5, v6, rfl, ⟨a5, rfl, r5⟩, r6⟩ := allP2 ra
    exact ⟨a5, m, ws, v6, d, row, rfl, r5, hm, r6, hs, hk, q'⟩
end
/-- map_rows of a watch -/
def spMapRows (T : List (Addr × Str)) (K : PySem.W.Frag) : Sp := fun vs H Q E => ∃ a m ws, vs = [.ref a] ∧ WatchAt K H (KW K) a m ws ∧ VM m ∧ MapsK T K m H Q E
def isMapD (m : List (List Nat)) (d : PyData) : Bool := isTupD d && decide (((seqOf d).length : Int) = (m.length : Nat)) && (seqOf d).all fun e => isBet e 0 ((m.length : Int) - 1)
def spIsMap (T : List (Addr × Str)) (K : PySem.W.Frag) : Sp := fun vs H Q _ => ∃ a m ws v d, vs = [.ref a, v] ∧ WatchAt K H (KW K) a m ws ∧ VM m ∧ Dp K H v d ∧ ((∃ l, d = nsD l ∧ tP l v H ∧ Val m.length l ∧ (∀ j, ¬ Over m 2000 j) ∧ ∀ j, Stop m j → ∀ H', Le T [] H H' → Q (.bl (hasK (allM m j) l)) H') ∨ (isMapD m d = false ∧ ∀ H', Le T [] H H' → Q (.bl false) H'))
theorem isMapD_val {m : List (List Nat)} {l : List Nat} (h : Val m.length l) : isMapD m (nsD l) = true := by
  have e : seqOf (nsD l) = natsD l := rfl
  unfold isMapD
  rw [e, Bool.and_eq_true, Bool.and_eq_true]
  refine ⟨⟨rfl, decide_eq_true (by rw [List.length_map, h.len])⟩, ?_⟩
  rw [List.all_eq_true]
  intro x hx
  obtain ⟨n, hn, rfl⟩ := List.mem_map.mp hx
  have := h.lt n hn
  simp only [isBet, Bool.and_eq_true, decide_eq_true_eq]
  omega
theorem isTup_of {d : PyData} (h : isTupD d = true) : IsSeq d (seqOf d) := by
  cases d with
  | tuple ds => exact .inl rfl
  | _ => cases h
theorem bl_dp {K : PySem.W.Frag} {H : Hp} {u : V} {b : Bool} (h : Dp K H u (.bool b)) : u = .bl b := by cases h; rfl
section
variable {P : Program} {w : World} {K : PySem.W.Frag} {mg : Str → Option Value} {base : Heap} {T : List (Addr × Str)} (t : Tx P K mg)
include t
theorem ok_map_rows : FnOk P w K mg base (L2.CX P w) 7 (d_map_rows.at_ K) (fdOf K (d_map_rows.at_ K)) ["watch"] (spMapRows T K) := by
  refine ok_def (f_map_rows t) sc_map_rows (fun vs H Q E ⟨a, m, ws, e, _⟩ => by rw [e]; rfl) fun cdv A outer s H vs Q E B ⟨a, m, ws, e, hw, hm, hq, he⟩ => ?_
  subst e
  obtain ⟨ds, hvs, hbd⟩ := bd_need_watch (t := t)
  refine ss_cons (s_expr0 (we_callWD (T := T) (Rs := [wP K (KW K) m ws]) (ok_need_watch (T := T) t) (by exact B.room.mono (by decide)) (g_need_watch t) (k_need_watch t) hbd hvs B.tk (ea_cons (er_var (i := 0) rfl ⟨a, rfl, hw⟩ stab_w) ea_nil stab_w) fun vs H1 l1 ra => ?_))
  obtain ⟨v1, rfl, a1, rfl, r⟩ := allP1 ra
  refine ⟨.ref a1, .non, _, .none, _, rfl, .watch r, .non, rfl, fun _ H2 l2 => ?_, fun x e => by cases e⟩
  have l12 := l1.trans l2
  refine ss_one (s_ret0 (we_callW (T := T) (Rs := [wP K (KW K) m ws]) (ok_maps_by (T := T) t) (by exact B.room.mono (by decide)) (g_maps_by t) (k_maps_by t) (b_maps_by t) B.tk (ea_cons (er_var (i := 0) rfl ⟨a, rfl, hw.up l12⟩ stab_w) ea_nil stab_w) fun vs H3 l3 ra => ?_))
  obtain ⟨v3, rfl, a3, rfl, r3⟩ := allP1 ra
  have l13 := l12.trans l3
  exact ⟨a3, m, ws, rfl, r3, hm, fun j h1 h2 u H' l ⟨b, e, f, d⟩ => hq j h1 h2 u H' (l13.trans l) ⟨b, e, l13.fr f, d⟩, fun j ho v dd H' l h1 h2 => he j ho v dd H' (l13.trans l) h1 h2⟩
theorem ok_is_map : FnOk P w K mg base (L2.CX P w) 7 (d_is_map.at_ K) (fdOf K (d_is_map.at_ K)) ["watch", "thing"] (spIsMap T K) := by
  refine ok_def (f_is_map t) sc_is_map (fun vs H Q E ⟨a, m, ws, v, d, e, _⟩ => by rw [e]; rfl) fun cdv A outer s H vs Q E B ⟨a, m, ws, v, d, e, hw, hm, hd, hq⟩ => ?_
  subst e
  have hu : A.units + 3 + 1 < cLine := by
    have h := B.room.un
    have h2 : A.units + 3 + 16 * 6 + 200 < cLine := h
    omega
  have hm6 := hm.most
  obtain ⟨ds, hvs, hbd⟩ := bd_need_watch (t := t)
  refine ss_cons (s_expr0 (we_callWD (T := T) (Rs := [wP K (KW K) m ws]) (ok_need_watch (T := T) t) (by exact B.room.mono (by decide)) (g_need_watch t) (k_need_watch t) hbd hvs B.tk (ea_cons (er_var (i := 0) rfl ⟨a, rfl, hw⟩ stab_w) ea_nil stab_w) fun vs H1 l1 ra => ?_))
  obtain ⟨v1, rfl, a1, rfl, r⟩ := allP1 ra
  refine ⟨.ref a1, .non, _, .none, _, rfl, .watch r, .non, rfl, fun _ H2 l2 => ?_, fun x e => by cases e⟩
  have l12 := l1.trans l2
  have no : isMapD m d = false → ∀ H', Le T [] H H' → Q (.bl false) H' := fun e => by
    rcases hq with ⟨l, rfl, _, hv, _⟩ | ⟨_, h⟩
    · rw [isMapD_val hv] at e; cases e
    · exact h
  have elm : ((m.map nsD).length : Int) = (m.length : Nat) := by rw [List.length_map]
  refine ss_cons (s_if (q := !(isTupD d && decide (((seqOf d).length : Int) = (m.length : Nat)))) (T := T) (Et.eq (et_w (ew_or (et_not (et_val (ed_isi (k := isTupD d) (n_isinstance t) stab_d (ed_var (i := 1) rfl (l12.dp hd)) (fun v' H' _ r => dp_ty r) (er_bty (n_tuple t) rfl) (kit_ty (kt_tuple d))))) fun e => ew_or1 (et_neI (ed_len (n_len t) (ed_var (i := 1) rfl (l12.dp hd)) (isTup_of (by simpa using e))) (Er.eq (ed_len (n_len t) (ed_moves (T := T) (m := m) (ws := ws) t (by exact B.room.mono (by decide)) (er_var (i := 0) rfl ⟨a, rfl, hw.up l12⟩ stab_w) (VMne hm)) (.inl rfl)) (by rw [List.length_map]))))) (by rw [Bool.not_and])) (fun e H3 l3 => ?_) fun e H3 l3 => ss_nil ?_)
  · have e2 : isMapD m d = false := by
      unfold isMapD
      cases q : (isTupD d && decide (((seqOf d).length : Int) = (m.length : Nat))) with
      | false => rw [Bool.false_and]
      | true => rw [q] at e; cases e
    exact ss_one (s_ret (T := T) ed_bl fun u H4 l4 r4 => by rw [bl_dp r4]; exact no e2 H4 (l12.trans (l3.trans l4)))
  have e : (isTupD d && decide (((seqOf d).length : Int) = (m.length : Nat))) = true := by
    cases q : (isTupD d && decide (((seqOf d).length : Int) = (m.length : Nat))) with
    | true => rfl
    | false => rw [q] at e; cases e
  obtain ⟨e1, e2⟩ := Bool.and_eq_true_iff.mp e
  have e2 := of_decide_eq_true e2
  have l13 := l12.trans l3
  refine ss_cons (s_if (q := !(seqOf d).all fun e => isBet e 0 ((m.length : Int) - 1)) (T := T) (et_not (et_val (Er.eq (ed_all (bs := (seqOf d).map fun e => isBet e 0 ((m.length : Int) - 1)) B.calm (n_all t) (Er.eq (er_lcS (x := "place") (j := 2) (f := fun e => .bool (isBet e 0 ((m.length : Int) - 1))) B.calm B.nd (ed_var (i := 1) (T := T) rfl (l13.dp hd)) (isTup_of e1) (by omega) (by kernel_rfl) fun i d u H4 a5 hi l4 r4 ha => BlkE.of rfl fun s0 H0 C cl fp =>
      ed_call3 (ok_is_between t) (by exact B.room.mono (by decide)) (g_is_between t) (k_is_between t) (b_is_between t) (ed_var (i := 2) rfl r4) ed_int (ed_bin0 op_sub (Er.eq (ed_len (n_len t) (ed_moves (T := T) (m := m) (ws := ws) t (by exact B.room.mono (by decide)) (er_var (i := 0) rfl ⟨a, rfl, (hw.up l13).up l4⟩ stab_w) (VMne hm)) (.inl rfl)) (by rw [List.length_map])) ed_int) ⟨_, _, rfl, rfl⟩) (by rw [List.map_map]; rfl))) (by rw [List.all_map]; rfl)))) (fun e4 H4 l4 => ?_) fun e4 H4 l4 => ss_nil ?_)
  · have e5 : isMapD m d = false := by
      unfold isMapD
      cases q : ((seqOf d).all fun e => isBet e 0 ((m.length : Int) - 1)) with
      | false => rw [Bool.and_false]
      | true => rw [q] at e4; cases e4
    exact ss_one (s_ret (T := T) ed_bl fun u H5 l5 r5 => by rw [bl_dp r5]; exact no e5 H5 (l13.trans (l4.trans l5)))
  · have e5 : isMapD m d = true := by
      unfold isMapD
      rw [e, Bool.true_and]
      cases q : ((seqOf d).all fun e => isBet e 0 ((m.length : Int) - 1)) with
      | true => rfl
      | false => rw [q] at e4; cases e4
    rcases hq with ⟨l, rfl, ht, hv, hno, hq⟩ | ⟨e6, _⟩
    · obtain ⟨j, hj⟩ := stop_ex hm
      have l14 := l13.trans l4
      refine ss_one (s_ret (T := T) (R := dP K (.bool (look (toE (allM m j)) l).isSome)) (ed_inT' (by exact hu) (er_var (i := 1) rfl (stab_tP (T := T) _ _ _ l14 ht) stab_tP) (er_call (R := dtP K (toE (allM m j))) (ok_maps_by (T := T) t) (by exact B.room.mono (by decide)) (g_maps_by t) (k_maps_by t) (b_maps_by t) .nil (ea_cons (er_var (i := 0) rfl ⟨a, rfl, hw.up l14⟩ stab_w) ea_nil stab_w) fun vs H5 l5 ra Q' q' => ?_)) fun u H5 l5 r5 => ?_)
      · obtain ⟨v5, rfl, a5, rfl, r5⟩ := allP1 ra
        exact ⟨a5, m, ws, rfl, r5, hm, fun j' h1 h2 u H' l ⟨b, e, f, d⟩ => q' u H' l ⟨b, e, by rw [hj.uniq h1]; exact d.r⟩, fun j' ho => absurd ho (hno j')⟩
      · rw [bl_dp r5, look_isSome]
        exact hq j hj H5 (l14.trans l5)
    · rw [e5] at e6; cases e6
end
end RM
namespace RM
open PySem PySem.Spec L2 LamX
open PyProof.Rows hiding St
def spBlend (T : List (Addr × Str)) (K : PySem.W.Frag) : Sp := fun vs H Q _ => ∃ t l, vs = [.ref t] ∧ TapeAt H t l ∧ ∀ (n : Int) H', TF T t l H H' → Q (.int n) H'
def spDraw (T : List (Addr × Str)) (K : PySem.W.Frag) : Sp := fun vs H Q _ => ∃ t l size, vs = [.ref t, .int (size : Nat)] ∧ TapeAt H t l ∧ 0 < size ∧ size < 1073741824 ∧ ∀ (n : Nat) H', n < size → TF T t l H H' → Q (.int (n : Nat)) H'
section
variable {P : Program} {w : World} {K : PySem.W.Frag} {mg : Str → Option Value} {base : Heap} {T : List (Addr × Str)} (t : Tx P K mg)
include t
theorem ok__law_blend : FnOk P w K mg base (L2.CX P w) 1 (d__law_blend.at_ K) (fdOf K (d__law_blend.at_ K)) ["tape"] (spBlend T K) := by
  refine ok_def (f__law_blend t) sc__law_blend (fun vs H Q E ⟨a, l, e, _⟩ => by rw [e]; rfl) fun cdv A outer s H vs Q E B ⟨a, l, e, hta, hq⟩ => ?_
  subst e
  have hu : A.units + 3 + 1 < cLine := by
    have := B.room.un
    have e : (cxOf (L2.CX P w) P w K mg base ["tape", "turn", "found", "great", "blended", "grain"] d__law_blend.qual (defScope s__law_blend) (d__law_blend.at_ K) cdv A outer s H E).A.units = A.units + 3 := rfl
    rw [e] at this
    omega
  have hta0 := hta
  obtain ⟨c, rest, turn, ls, cs, h1, h2, h3, hlc⟩ := hta
  refine ss_cons (s_dput (i := 0) (t := a) (T := T) (R := dP K (.int (turn + 1))) (by exact hu) rfl (ed_bin0 op_add (er_dget (i := 0) (t := a) (u := .int turn) (by exact hu) rfl h1 rfl (.int _) stab_d) ed_int) fun v H1 l1 r1 => ⟨_, l1.at h1 (by simp) (fun _ z => nomatch z), (show 4 < 1000 by decide), ?_⟩)
  cases r1
  have e1 := l1.at h1 (by simp) (fun _ z => nomatch z)
  have l2 : Le T [a] H1 (upd H1 a (.dK (tapeK l c rest (turn + 1)))) := Le.refl.putD e1 (.inl (by simp))
  have g1 : upd H1 a (.dK (tapeK l c rest (turn + 1))) a = some (.dK (tapeK l c rest (turn + 1))) := upd_same
  have nl : l ≠ a := fun z => by rw [z, h1] at h2; cases h2
  have nc : c ≠ a := fun z => by rw [z, h1] at h3; cases h3
  have g2 := l2.lst (l1.lst h2 (by simp)) (by simp [nl])
  have g3 := l2.lst (l1.lst h3 (by simp)) (by simp [nc])
  have hT2 : TF T a l H (upd H1 a (.dK (tapeK l c rest (turn + 1)))) := ⟨l1.up.trans (l2.mono (by simp)), hta0, ⟨c, rest, turn + 1, ls, cs, g1, g2, g3, hlc⟩, cel_of h1 g1⟩
  change WpSs _ _ _ _ (upd H1 a (.dK (tapeK l c rest (turn + 1))))
  generalize upd H1 a (.dK (tapeK l c rest (turn + 1))) = H2 at l2 g1 g2 g3 hT2 ⊢
  refine ss_cons (s_par B (i := 1) (j := 2) (T := T) (R1 := dP K (.int (turn + 1))) (R2 := dP K (.int 0)) stab_d (ed_int1 (n_int t) (er_dget (i := 0) (t := a) (u := .int (turn + 1)) (by exact hu) rfl g1 rfl (.int _) stab_d)) ed_int fun v1 v2 H3 l3 r3 r4 => ?_)
  cases r3
  cases r4
  refine ss_cons (s_forS B (j := 3) (T := T) (ed_lst (ds := [.int 2147483629, .int 2147483587, .int 2147483579]) (ed_cons ed_int (ed_cons ed_int (ed_cons ed_int ea_nil))) (by simp)) (.inr rfl) fun v4 H4 l4 r4 => ?_)
  refine ⟨fun i σ' H' => (∃ n x y z, σ' = [some (.ref a), some (.int (turn + 1)), some (.int (n : Int)), x, y, z]) ∧ Le T [] H4 H', ⟨⟨0, _, _, _, rfl⟩, .refl⟩, fun i σ' H' q => q.2, fun i d' u σ' H' hi ⟨⟨n, x, y, z, e⟩, l5⟩ r5 => ?_, fun σ' H' ⟨⟨n, x, y, z, e⟩, l5⟩ => ?_⟩
  · subst e
    obtain ⟨gr, rfl, hg1, hg2⟩ : ∃ gr : Int, d' = .int gr ∧ 0 < gr ∧ gr < 2 ^ 32 := by
      match i, hi with
      | 0, hi => cases hi; exact ⟨_, rfl, by decide, by decide⟩
      | 1, hi => cases hi; exact ⟨_, rfl, by decide, by decide⟩
      | 2, hi => cases hi; exact ⟨_, rfl, by decide, by decide⟩
      | n + 3, hi => simp at hi
    cases r5
    have l35 := l3.trans (l4.trans l5)
    have f1 := l35.at g1 (by simp) (fun _ z => nomatch z)
    have f3 := l35.lst g3 (by simp)
    refine ss_cons (s_set B (i := 4) (T := T) (R := fun v _ => ∃ b : Int, v = .int b ∧ 0 ≤ b ∧ b < gr) ((ed_bin op_mod (ed_bin0 op_add (ed_bin op_mul (ed_var (i := 1) rfl (.int _)) ed_int (.inr (by decide))) (ed_bin op_fdiv (ed_var (i := 3) rfl (.int _)) ed_int ⟨by decide, by decide⟩)) (ed_var (i := 3) rfl (.int _)) hg1).imp fun v H' _ r => ?_) fun v6 H6 l6 r6 => ?_)
    · cases r
      exact ⟨_, rfl, Int.emod_nonneg _ (by omega), Int.emod_lt_of_pos _ hg1⟩
    · obtain ⟨b, rfl, hb1, hb2⟩ := r6
      refine ss_cons (s_forS B (j := 5) (T := T) (er_dget (i := 0) (t := a) (u := .ref c) (by exact hu) rfl (l6.at f1 (by simp) (fun _ z => nomatch z)) rfl (dp_ints (l6.lst f3 (by simp))) stab_d) (.inr rfl) fun v7 H7 l7 r7 => ?_)
      refine ⟨fun i σ' H' => (∃ b w, σ' = [some (.ref a), some (.int (turn + 1)), some (.int n), some (.int gr), some (.int (b : Int)), w] ∧ 0 ≤ b ∧ b < gr) ∧ Le T [] H7 H', ⟨⟨b, _, rfl, hb1, hb2⟩, .refl⟩, fun i σ' H' q => q.2, fun i d8 u σ' H' hi ⟨⟨b, w8, e, _, _⟩, l8⟩ r8 => ?_, fun σ' H' ⟨⟨b, w8, e, hb1, hb2⟩, l8⟩ => ?_⟩
      · subst e
        rw [List.getElem?_map] at hi
        cases hz : cs[i]? with
        | none => rw [hz] at hi; cases hi
        | some z8 =>
          rw [hz] at hi
          cases hi
          refine ss_one (s_set B (i := 4) (T := T) (R := fun v _ => ∃ b : Int, v = .int b ∧ 0 ≤ b ∧ b < gr) ((ed_bin op_mod (ed_bin0 op_add (ed_bin op_mul (ed_var (i := 4) rfl (.int _)) ed_int (.inr (by decide))) (ed_int1 (n_int t) (ed_var (i := 5) rfl r8))) (ed_var (i := 3) rfl (.int _)) hg1).imp fun v H' _ r => ?_) fun v9 H9 l9 r9 => ?_)
          · cases r
            exact ⟨_, rfl, Int.emod_nonneg _ (by omega), Int.emod_lt_of_pos _ hg1⟩
          · obtain ⟨b9, rfl, h9⟩ := r9
            exact ⟨⟨b9, _, rfl, h9⟩, l8.trans l9⟩
      · subst e
        refine ss_one (s_set B (i := 2) (T := T) (R := fun v _ => ∃ b : Int, v = .int b) ((ed_bin0 op_add (ed_bin op_mul (ed_var (i := 2) rfl (.int _)) ed_int (.inr (by decide))) (ed_bin op_mod (ed_bin op_pow (ed_var (i := 4) rfl (.int _)) ed_int ⟨by decide, by decide, by omega⟩) (ed_var (i := 3) rfl (.int _)) hg1)).imp fun v H' _ r => by cases r; exact ⟨_, rfl⟩) fun v9 H9 l9 ⟨b9, e9⟩ => ?_)
        subst e9
        exact ⟨⟨b9, _, _, _, rfl⟩, l5.trans (l6.trans (l7.trans (l8.trans l9)))⟩
  · subst e
    exact ss_one (s_ret (T := T) (ed_var (i := 2) rfl (.int n)) fun u H6 l6 r6 => by cases r6; exact hq n H6 (hT2.up (l3.trans (l4.trans (l5.trans l6)))))
end
end RM
namespace RM
open PySem PySem.Spec L2 LamX
open PyProof.Rows hiding St
theorem eqv_ints_nil (ls : List Int) : PyData.eqv (.list (ls.map PyData.int)) (.list []) = ls.isEmpty := by
  cases ls <;> simp [PyData.eqv, PyData.eqvAll]
theorem okD_ints {n : Nat} {ls : List Int} : OkD (n + 1) (.list (ls.map PyData.int)) := okD_lst fun e he => by
  obtain ⟨x, _, rfl⟩ := List.mem_map.mp he
  exact okD_int
section
variable {P : Program} {w : World} {K : PySem.W.Frag} {mg : Str → Option Value} {base : Heap} {T : List (Addr × Str)} (t : Tx P K mg)
include t
theorem ok__law_draw : FnOk P w K mg base (L2.CX P w) 2 (d__law_draw.at_ K) (fdOf K (d__law_draw.at_ K)) ["tape", "size"] (spDraw T K) := by
  refine ok_def (f__law_draw t) sc__law_draw (fun vs H Q E ⟨a, l, size, e, _⟩ => by rw [e]; rfl) fun cdv A outer s H vs Q E B ⟨a, l, size, e, hta, hs1, hs2, hq⟩ => ?_
  subst e
  have hun : A.units + 3 + 64 < cLine := by
    have := B.room.un
    have e : (cxOf (L2.CX P w) P w K mg base ["tape", "size", "found"] d__law_draw.qual (defScope s__law_draw) (d__law_draw.at_ K) cdv A outer s H E).A.units = A.units + 3 := rfl
    rw [e] at this
    omega
  have hu : A.units + 3 + 1 < cLine := by omega
  have hta0 := hta
  obtain ⟨c, rest, turn, ls, cs, h1, h2, h3, hlc⟩ := hta
  have put : ∀ {H' : Hp} {v : Int}, TF T a l H H' → ∃ kvs, H' a = some (.dK kvs) ∧ kvs.length < 1000 ∧ TF T a l H (upd H' a (.dK (putK kvs (.inr "rest") (.int v)))) := fun {H' v} tf => by
    have tt := tf.tape
    obtain ⟨c', rest', turn', ls', cs', g1, g2, g3, g4⟩ := tt
    refine ⟨_, g1, (show 4 < 1000 by decide), tf.le.trans (Le.refl.putD (T := T) (S := [a, l]) g1 (.inl (by simp))), hta0, ⟨c', v, turn', ls', cs', upd_same, ?_, ?_, g4⟩, fun c h => cel_of g1 upd_same c (tf.cel c h)⟩
    · rw [upd_ne (fun z => by rw [z, g1] at g2; cases g2)]; exact g2
    · rw [upd_ne (fun z => by rw [z, g1] at g3; cases g3)]; exact g3
  refine ss_cons (s_ifM (q := decide (rest = 0)) (T := T) (fun σ' H' => σ' = [some (.ref a), some (.int (size : Nat)), none] ∧ TF T a l H H') (et_eqI (er_dget (i := 0) (t := a) (u := .int rest) (by exact hu) rfl h1 rfl (.int _) stab_d) ed_int) (fun _ H1 l1 => ?_) (fun _ H1 l1 => ss_nil ⟨rfl, .of hta0 l1⟩) fun σ' H' ⟨e, tf⟩ => ?_)
  · have f1 := l1.at h1 (by simp) (fun _ z => nomatch z)
    have f2 := l1.lst h2 (by simp)
    refine ss_one (s_dput0 (i := 0) (t := a) (by exact hu) rfl (we_mono (Q := fun v H2 => ∃ n : Int, v = .int n ∧ TF T a l H H2) (fun v H2 ⟨n, e, tf⟩ => ?_) ?_))
    · subst e
      obtain ⟨kvs, k1, k2, k3⟩ := put (v := n) tf
      exact ⟨kvs, k1, k2, rfl, k3⟩
    · refine pe_we (pe_ifExp we_pt we_pe we_pe) ((et_ne (T := T) (by exact hun) (er_dget (i := 0) (t := a) (u := .ref l) (by exact hu) rfl f1 rfl (dp_ints f2) stab_d) (er_lst0.imp fun v H' _ r => freshL_d r) (okD_ints (n := 0) |>.shaped (by decide)) rfl).run fun H2 l2 => ?_)
      rw [eqv_ints_nil]
      have f12 := l2.at f1 (by simp) (fun _ z => nomatch z)
      have f22 := l2.lst f2 (by simp)
      cases ls with
      | nil =>
        rw [if_neg (by simp)]
        refine we_callQ (T := T) (ok__law_blend (T := T) t) (by exact B.room) (g__law_blend t) (k__law_blend t) (b__law_blend t) (ea_cons (R := eqP (.ref a)) (er_var (i := 0) rfl rfl stab_e) ea_nil stab_e) fun vs H3 l3 ra => ?_
        obtain ⟨u, rfl, rfl⟩ := allP1 ra
        exact ⟨a, l, rfl, hta0.up (l1.trans (l2.trans l3)), fun n H4 tf => ⟨n, rfl, (TF.of hta0 (l1.trans (l2.trans l3))).trans tf⟩⟩
      | cons z zs =>
        rw [if_pos (by simp)]
        refine we_pop0 (T := T) (l := l) (z := z) (zs := zs) (er_dget (i := 0) (t := a) (u := .ref l) (by exact hu) rfl f12 rfl rfl stab_e) f22 fun H3 l3 => ⟨z, rfl, ?_⟩
        have g1 := l3.at f12 (by simp) (fun _ z => nomatch z)
        have g2 := l3.lst f22 (by simp)
        have g3 := (l1.trans (l2.trans l3)).lst h3 (by simp)
        have tf := TF.of hta0 (l1.trans (l2.trans l3))
        have na : a ≠ l := fun z => by rw [z, h2] at h1; cases h1
        refine ⟨tf.le.trans (Le.refl.putL (T := T) (S := [a, l]) g2 (.inl (by simp))), hta0, ⟨c, rest, turn, zs, cs, ?_, upd_same, ?_, hlc⟩, cel_of h1 (by rw [upd_ne na]; exact g1)⟩
        · rw [upd_ne na]; exact g1
        · rw [upd_ne (Ne.symm hlc)]; exact g3
  · subst e
    obtain ⟨c', rest', turn', ls', cs', g1, g2, g3, g4⟩ := tf.tape
    have hs0 : (0 : Int) < (size : Int) := by omega
    refine ss_cons (s_set B (i := 2) (T := T) (R := dP K (.int (rest' % (size : Nat)))) (ed_bin op_mod (ed_int1 (n_int t) (er_dget (i := 0) (t := a) (u := .int rest') (by exact hu) rfl g1 rfl (.int _) stab_d)) (ed_var (i := 1) rfl (.int _)) hs0) fun v1 H1 l1 r1 => ?_)
    cases r1
    have tf1 := tf.up l1
    have f1 := l1.at g1 (by simp) (fun _ z => nomatch z)
    refine ss_cons (s_dput0 (i := 0) (t := a) (by exact hu) rfl (Er.run (T := T) (R := fun v _ => ∃ n : Int, v = .int n) ((ed_bin op_fdiv (ed_int1 (n_int t) (er_dget (i := 0) (t := a) (u := .int rest') (by exact hu) rfl f1 rfl (.int _) stab_d)) (ed_var (i := 1) rfl (.int _)) ⟨hs0, by omega⟩).imp fun v H' _ r => by cases r; exact ⟨_, rfl⟩) fun v2 H2 l2 ⟨n, e⟩ => ?_))
    subst e
    obtain ⟨kvs, k1, k2, k3⟩ := put (v := n) (tf1.up l2)
    refine ⟨kvs, k1, k2, ?_⟩
    have hm1 := Int.emod_nonneg rest' (show (size : Int) ≠ 0 by omega)
    have hm2 := Int.emod_lt_of_pos rest' hs0
    have em : rest' % (size : Int) = ((rest' % (size : Int)).toNat : Int) := (Int.toNat_of_nonneg hm1).symm
    refine ss_one (s_ret (T := T) (ed_var (i := 2) rfl (.int _)) fun u H4 l4 r4 => ?_)
    cases r4
    rw [em]
    exact hq _ H4 (by omega) (k3.up l4)
end
end RM
namespace RM
open PySem PySem.Spec L2 LamX
open PyProof.Rows hiding St
/-- several[draw]: some things that a list or tuple holds -/
def spPick (T : List (Addr × Str)) (K : PySem.W.Frag) : Sp := fun vs H Q _ => ∃ t l v d ds, vs = [.ref t, v] ∧ TapeAt H t l ∧ DpA [t, l] K H v d ∧ IsSeq d ds ∧ 0 < ds.length ∧ ds.length ≤ 100000 ∧ ∀ u e H', e ∈ ds → TF T t l H H' → DpA [t, l] K H' u e → Q u H'
/-- the error of the package that some work raises, None if it raises none -/
def spCaught (T : List (Addr × Str)) (K : PySem.W.Frag) (f : Addr) (spL : Sp) : Sp := fun vs H Q _ => vs = [.ref f] ∧ ∀ (Q' : VK) (E' : XK), (∀ v H1, Q .non H1 → Q' v H1) → (∀ C dd fs H1, H1 dd = some (.xd fs) → PySem.W.exmOne K (.ref C) (.ref (He.ga K "WatchError")) = some true → (∀ e H2, Le T [] H1 H2 → ExcAt H2 e C fs → Q (.ref e) H2) → E' (.ref C) (some dd) H1) → spL [] H Q' E'
section
variable {P : Program} {w : World} {K : PySem.W.Frag} {mg : Str → Option Value} {base : Heap} {T : List (Addr × Str)} (t : Tx P K mg)
include t
theorem ok__law_pick : FnOk P w K mg base (L2.CX P w) 3 (d__law_pick.at_ K) (fdOf K (d__law_pick.at_ K)) ["tape", "several"] (spPick T K) := by
  refine ok_def (f__law_pick t) sc__law_pick (fun vs H Q E ⟨a, l, v, d, ds, e, _⟩ => by rw [e]; rfl) fun cdv A outer s H vs Q E B ⟨a, l, v, d, ds, e, hta, hd, hs, h0, hl, hq⟩ => ?_
  subst e
  refine ss_one (s_ret0 (pe_we (pe_ix ix_seq we_pe we_pe (fun _ _ => rfl)) ?_))
  refine Er.run (T := T) (R := eqP v) (er_var (i := 1) rfl rfl stab_e) fun v1 H1 l1 e1 => ?_
  subst e1
  refine we_callQ (T := T) (ok__law_draw (T := T) t) (by exact B.room) (g__law_draw t) (k__law_draw t) (b__law_draw t) (ea_cons (R := eqP (.ref a)) (er_var (i := 0) rfl rfl stab_e) (ed_cons (ed_len (n_len t) (ed_var (i := 1) rfl (l1.dp hd.dp)) hs) ea_nil) stab_e) fun vs H2 l2 ra => ?_
  obtain ⟨u1, u2, rfl, rfl, r2⟩ := allP2 ra
  cases r2
  refine ⟨a, l, ds.length, rfl, hta.up (l1.trans l2), h0, by omega, fun n H3 hn tf3 => ?_⟩
  have tf := (TF.of hta (l1.trans l2)).trans tf3
  have hd3 : DpA [a, l] K H3 v1 d := hd.to tf.le tf.nt
  obtain ⟨e, he⟩ : ∃ e, ds[n]? = some e := ⟨_, List.getElem?_eq_getElem hn⟩
  have hem := List.mem_of_getElem? he
  rcases hs with rfl | rfl
  · cases hd3 with
    | tup h r =>
      obtain ⟨u, hu, ru⟩ := r.get he
      exact .inr (.inl ⟨_, _, _, u, rfl, rfl, h, atI_nat hu, hq u e H3 hem tf ru⟩)
  · cases hd3 with
    | lst n h r =>
      obtain ⟨u, hu, ru⟩ := r.get he
      exact .inl ⟨_, _, _, u, rfl, rfl, h, atI_nat hu, hq u e H3 hem tf ru⟩
theorem ok__law_caught {kL : Nat} {f : Addr} {fdL : FuncData} {spL : Sp} (FL : FnOk P w K mg base (L2.CX P w) kL f fdL [] spL) (hf : PySem.W.FnAt f base) (hb : ∀ (s : Shared) (us : List Value), us.length = ([] : List Str).length → BindsTo s fdL ⟨us, []⟩ (([] : List Str).zip us)) :
    FnOk P w K mg base (L2.CX P w) (kL + 1) (d__law_caught.at_ K) (fdOf K (d__law_caught.at_ K)) ["work"] (spCaught T K f spL) := by
  refine ok_def (f__law_caught t) sc__law_caught (fun vs H Q E ⟨e, _⟩ => by rw [e]; rfl) fun cdv A outer s H vs Q E B ⟨e, hsp⟩ => ?_
  subst e
  refine ss_cons (s_set0 B (i := 1) (pe_we pe_non ?_))
  refine ss_cons (s_try (i := 2) (c := .ref (He.ga K "WatchError")) B rfl rfl rfl rfl ⟨rfl, by decide, .inl (g_WatchError t)⟩ rfl fun pn xe tk => ?_)
  refine ss_one (s_expr0 (pe_we (pe_callF0 (i := 0) FL (by exact B.room) rfl (.inl rfl) hf hb (passAt tk)) ⟨rfl, ?_⟩))
  refine hsp _ _ (fun v H1 hq => ?_) fun C dd fs H1 hdd hex hq => ⟨true, hex, fun _ a ha a' pn' => ?_, fun z => by cases z⟩
  · refine ss_one (s_ret0 (pe_we (pe_var (i := 1) rfl (.inl rfl)) ⟨.non, rfl, ?_⟩))
    exact hq
  · refine ss_one (ps_we (ps_set (i := 1) B.nd rfl (.inl rfl) we_pe rfl (.inr rfl)) (pe_we (pe_var (i := 2) rfl (.inl rfl)) ⟨.ref a, rfl, ?_⟩))
    refine ss_one (s_ret0 (pe_we (pe_var (i := 1) rfl (.inl rfl)) ⟨.ref a, rfl, ?_⟩))
    have nd : dd ≠ a := fun z => by rw [z, ha] at hdd; cases hdd
    exact hq a _ (Le.new ha) ⟨dd, upd_same, by rw [upd_ne nd]; exact hdd⟩
end
end RM
namespace RM
open PySem PySem.Spec L2 LamX
open PyProof.Rows hiding St
def NatLt (n : Nat) (d : PyData) : Prop := ∃ x : Nat, d = .int (x : Nat) ∧ x < n
theorem natLt_all {n : Nat} : ∀ {ds : List PyData}, (∀ d ∈ ds, NatLt n d) → ∃ l : List Nat, ds = natsD l ∧ ∀ x ∈ l, x < n
  | [], _ => ⟨[], rfl, fun x hx => by cases hx⟩
  | d :: ds, h => by
    obtain ⟨x, rfl, hx⟩ := h d List.mem_cons_self
    obtain ⟨l, rfl, hl⟩ := natLt_all fun e he => h e (List.mem_cons_of_mem _ he)
    exact ⟨x :: l, rfl, fun y hy => by
      rcases List.mem_cons.mp hy with rfl | hy
      · exact hx
      · exact hl y hy⟩
def RowLt (k n : Nat) (d : PyData) : Prop := ∃ r : List Nat, d = nsD r ∧ r.length = k ∧ ∀ x ∈ r, x < n
theorem rowLt_all {k n : Nat} : ∀ {ds : List PyData}, (∀ d ∈ ds, RowLt k n d) → ∃ m : List (List Nat), ds = m.map nsD ∧ ∀ r ∈ m, r.length = k ∧ ∀ x ∈ r, x < n
  | [], _ => ⟨[], rfl, fun x hx => by cases hx⟩
  | d :: ds, h => by
    obtain ⟨x, rfl, hx⟩ := h d List.mem_cons_self
    obtain ⟨l, rfl, hl⟩ := rowLt_all fun e he => h e (List.mem_cons_of_mem _ he)
    exact ⟨x :: l, rfl, fun y hy => by
      rcases List.mem_cons.mp hy with rfl | hy
      · exact hx
      · exact hl y hy⟩
def watchD (m : List (List Nat)) (ws : List Nat) : PyData := .tuple [movesD m, nsD ws]
def spLWatch (T : List (Addr × Str)) (K : PySem.W.Frag) : Sp := fun vs H Q _ => ∃ t l places kinds words, vs = [.ref t, .int (places : Nat), .int (kinds : Nat), .int (words : Nat)] ∧ TapeAt H t l ∧ 1 ≤ places ∧ places ≤ 1000 ∧ kinds ≤ 1000 ∧ 1 ≤ words ∧ words ≤ 1000 ∧
  ∀ u m ws H', 1 ≤ m.length → m.length ≤ places → ws.length = m.length → (∀ r ∈ m, r.length = kinds ∧ ∀ x ∈ r, x < m.length) → (∀ x ∈ ws, x < words) → TF T t l H H' → Dp K H' u (watchD m ws) → Q u H'
def spLRow (T : List (Addr × Str)) (K : PySem.W.Frag) : Sp := fun vs H Q _ => ∃ t l v m ws most, vs = [.ref t, v, .int (most : Nat)] ∧ TapeAt H t l ∧ Dp K H v (watchD m ws) ∧ m ≠ [] ∧ 1 ≤ kindsM m ∧ kindsM m ≤ 1000 ∧ most ≤ 1000 ∧
  ∀ u row H', row.length ≤ most → (∀ x ∈ row, x < kindsM m) → TF T t l H H' → Dp K H' u (nsD row) → Q u H'
theorem noLs_rows : ∀ m : List (List Nat), noLs (m.map nsD) = true
  | [] => rfl
  | a :: r => by simp [noLs, noL_ns, noLs_rows r]
theorem noL_moves {m : List (List Nat)} : noL (movesD m) = true := by
  unfold movesD
  simp only [noL]
  exact noLs_rows m
theorem noL_int {i : Int} : noL (.int i) = true := rfl
section
variable {P : Program} {w : World} {K : PySem.W.Frag} {mg : Str → Option Value} {base : Heap} {T : List (Addr × Str)} (t : Tx P K mg)
include t
theorem ok__law_watch : FnOk P w K mg base (L2.CX P w) 3 (d__law_watch.at_ K) (fdOf K (d__law_watch.at_ K)) ["tape", "places", "kinds", "words"] (spLWatch T K) := by
  refine ok_def (f__law_watch t) sc__law_watch (fun vs H Q E ⟨a, l, places, kinds, words, e, _⟩ => by rw [e]; rfl) fun cdv A outer s H vs Q E B ⟨a, l, places, kinds, words, e, hta, hp1, hp2, hk, hw1, hw2, hq⟩ => ?_
  subst e
  refine ss_cons (s_set0 B (i := 4) (pe_we (pe_op op_add we_pe we_pe) (pe_we pe_int ?_)))
  refine we_callQ (T := T) (ok__law_draw (T := T) t) (by exact B.room) (g__law_draw t) (k__law_draw t) (b__law_draw t) (ea_cons (R := eqP (.ref a)) (er_var (i := 0) rfl rfl stab_e) (ed_cons (d := .int (places : Nat)) (ed_var (i := 1) rfl (.int _)) ea_nil) stab_e) fun vs H1 l1 ra => ?_
  obtain ⟨u1, u2, rfl, rfl, r2⟩ := allP2 ra
  cases r2
  refine ⟨a, l, places, rfl, hta.up l1, by omega, by omega, fun n H2 hn tf2 => ⟨1, (n : Nat), rfl, rfl, ?_⟩⟩
  have tf2 := (TF.of hta l1).trans tf2
  obtain ⟨many, hmany⟩ : ∃ many : Nat, many = n + 1 := ⟨_, rfl⟩
  have em : (1 : Int) + (n : Int) = (many : Int) := by omega
  change WpSs _ _ _ (List.set _ 4 (some (.int (1 + (n : Int))))) H2
  rw [em]
  have hm1 : 1 ≤ many ∧ many ≤ places := by omega
  refine ss_cons (s_set0 B (i := 5) (pe_we (pe_callTy (x := "tuple") call_tuple_of rfl (n_tuple t) rfl (pa_cons we_pe pa_nil)) ?_))
  refine we_lcT (T := T) (x := "place") (j := 6) (t := a) (l := l) (Pe := RowLt kinds many) (Pn := fun n => n = many) B.calm B.nd (n_range t) (fun d ⟨r, e, _⟩ => e ▸ noL_ns) (fun n e => by omega) tf2.tape (fun Q' q' => (ed_var (T := T) (d := .int (many : Nat)) (i := 4) rfl (.int _)).run fun v H3 l3 r3 => by cases r3; exact q' many H3 rfl (.of tf2.tape l3)) (by kernel_rfl) (fun i H3 tf3 s0 H0 C cl fp Q' q' => ?_) (fun v ds H3 hlen hds tf3 r3 => ?_)
  · refine pe_we (pe_callTy (x := "tuple") call_tuple_of rfl (n_tuple t) rfl (pa_cons we_pe pa_nil)) ?_
    refine we_lcT (T := T) (x := "kind") (j := 7) (t := a) (l := l) (Pe := NatLt many) (Pn := fun n => n = kinds) B.calm B.nd (n_range t) (fun d ⟨r, e, _⟩ => e ▸ noL_int) (fun n e => by omega) tf3.tape (fun Q' q' => (ed_var (T := T) (d := .int (kinds : Nat)) (i := 2) rfl (.int _)).run fun v H3 l3 r3 => by cases r3; exact q' kinds H3 rfl (.of tf3.tape l3)) (by kernel_rfl) (fun i H4 tf4 s0 H0 C cl fp Q' q' => ?_) (fun v ds H4 hlen hds tf4 r4 => ?_)
    · refine we_callQ (T := T) (ok__law_draw (T := T) t) (by exact B.room) (g__law_draw t) (k__law_draw t) (b__law_draw t) (ea_cons (R := eqP (.ref a)) (er_var (i := 0) rfl rfl stab_e) (ed_cons (d := .int (many : Nat)) (ed_var (i := 4) rfl (.int _)) ea_nil) stab_e) fun vs H5 l5 ra => ?_
      obtain ⟨u1, u2, rfl, rfl, r2⟩ := allP2 ra
      cases r2
      exact ⟨a, l, many, rfl, tf4.tape.up l5, by omega, by omega, fun n H6 hn tf6 => q' _ _ H6 ((TF.of tf4.tape l5).trans tf6) ⟨n, rfl, hn⟩ (.int _)⟩
    · obtain ⟨row, rfl, hr⟩ := natLt_all hds
      obtain ⟨b, xs, rfl, s1, s2⟩ := dp_lst_of r4
      refine ⟨b, xs, rfl, .inl ⟨s1, fun q hq' => q' _ (nsD row) _ (tf4.up (.new hq')) ⟨row, rfl, by rw [← hlen, List.length_map], hr⟩ (dp_tup upd_same ((Le.new (T := T) hq').dpAll s2))⟩⟩
  · obtain ⟨m, rfl, hr⟩ := rowLt_all hds
    have hlen : m.length = many := by rw [← hlen, List.length_map]
    obtain ⟨b, xs, rfl, s1, s2⟩ := dp_lst_of r3
    refine ⟨b, xs, rfl, .inl ⟨s1, fun q hq' => ?_⟩⟩
    have rm : Dp K (upd H3 q (.tup xs)) (.ref q) (movesD m) := dp_tup upd_same ((Le.new (T := T) hq').dpAll s2)
    have tf4 := (tf2.trans tf3).up (Le.new (T := T) (o := .tup xs) hq')
    have nm : noL (movesD m) = true := noL_moves
    generalize upd H3 q (.tup xs) = H4 at rm tf4 ⊢
    refine ss_one (s_ret0 (pe_we (pe_tup we_pa) (pa_we (pa_cons we_pe (pa_cons we_pe pa_nil)) ?_)))
    refine (ed_var (T := T) (d := movesD m) (i := 5) rfl rm).run fun v5 H5 l5 r5 => ?_
    refine pe_we (pe_callTy (x := "tuple") call_tuple_of rfl (n_tuple t) rfl (pa_cons we_pe pa_nil)) ?_
    have tf5 := tf4.up l5
    refine we_lcT (T := T) (x := "place") (j := 6) (t := a) (l := l) (Pe := NatLt words) (Pn := fun n => n = many) B.calm B.nd (n_range t) (fun d ⟨r, e, _⟩ => e ▸ noL_int) (fun n e => by omega) tf5.tape (fun Q' q' => (ed_var (T := T) (d := .int (many : Nat)) (i := 4) rfl (.int _)).run fun v H3 l3 r3 => by cases r3; exact q' many H3 rfl (.of tf5.tape l3)) (by kernel_rfl) (fun i H6 tf6 s0 H0 C cl fp Q' q' => ?_) (fun v ds H6 hlen2 hds tf6 r6 => ?_)
    · refine we_callQ (T := T) (ok__law_draw (T := T) t) (by exact B.room) (g__law_draw t) (k__law_draw t) (b__law_draw t) (ea_cons (R := eqP (.ref a)) (er_var (i := 0) rfl rfl stab_e) (ed_cons (d := .int (words : Nat)) (ed_var (i := 3) rfl (.int _)) ea_nil) stab_e) fun vs H7 l7 ra => ?_
      obtain ⟨u1, u2, rfl, rfl, r2⟩ := allP2 ra
      cases r2
      exact ⟨a, l, words, rfl, tf6.tape.up l7, by omega, by omega, fun n H8 hn tf8 => q' _ _ H8 ((TF.of tf6.tape l7).trans tf8) ⟨n, rfl, hn⟩ (.int _)⟩
    · obtain ⟨ws, rfl, hws⟩ := natLt_all hds
      obtain ⟨b6, xs6, rfl, t1, t2⟩ := dp_lst_of r6
      refine ⟨b6, xs6, rfl, .inl ⟨t1, fun q6 hq6 => ⟨by rw [sizeLine_eq]; exact (by decide : 2 ≤ 16777216), fun q7 hq7 => ?_⟩⟩⟩
      have l6 : Le T [] H6 (upd H6 q6 (.tup xs6)) := .new hq6
      have l7 : Le T [] (upd H6 q6 (.tup xs6)) (upd (upd H6 q6 (.tup xs6)) q7 (.tup [v5, .ref q6])) := .new hq7
      have rw6 : Dp K (upd H6 q6 (.tup xs6)) (.ref q6) (nsD ws) := dp_tup upd_same (l6.dpAll t2)
      refine hq _ m ws _ (by omega) (by omega) (by rw [hlen, ← hlen2, List.length_map]) (fun r hr' => ⟨(hr r hr').1, by rw [hlen]; exact (hr r hr').2⟩) hws ((((tf4.up l5).trans tf6).up l6).up l7) (dp_tup upd_same (.cons (l7.dp (l6.dp (tf6.dp nm r5))) (.cons (l7.dp rw6) .nil)))
end
end RM
namespace RM
open PySem PySem.Spec L2 LamX
open PyProof.Rows hiding St
/-- rows, each a list or tuple -/
def RowsD (ds : List PyData) (m : List (List Nat)) : Prop := ds.length = m.length ∧ ∀ (i : Nat) d r, ds[i]? = some d → m[i]? = some r → IsSeq d (natsD r)
theorem seqOf_is {d : PyData} {ds : List PyData} (h : IsSeq d ds) : seqOf d = ds := by rcases h with rfl | rfl <;> rfl
theorem isLst_is {d : PyData} {ds : List PyData} (h : IsSeq d ds) : isLst d = true := by rcases h with rfl | rfl <;> rfl
theorem rowsD_tup {ds : List PyData} {m : List (List Nat)} (h : RowsD ds m) : ds.map tupOf = m.map nsD := by
  refine List.ext_getElem? fun i => ?_
  rw [List.getElem?_map, List.getElem?_map]
  cases e : ds[i]? with
  | none =>
    have : m[i]? = none := by
      rw [List.getElem?_eq_none_iff] at e ⊢
      rw [← h.1]; exact e
    rw [this]; rfl
  | some d =>
    have hlt : i < m.length := by rw [← h.1]; exact (List.getElem?_eq_some_iff.mp e).1
    have e2 : m[i]? = some m[i] := List.getElem?_eq_getElem hlt
    rw [e2]
    have := h.2 i d m[i] e e2
    show some (tupOf d) = some (nsD m[i])
    unfold tupOf
    rw [seqOf_is this]
    rfl
theorem movesErr_ok {dm : PyData} {ds : List PyData} {m : List (List Nat)} (hs : IsSeq dm ds) (hr : RowsD ds m) (hm : VM m) : movesErr dm = none := by
  have e1 := seqOf_is hs
  have e2 := isLst_is hs
  have h1 := hm.ne
  have h2 := hm.most
  have hl := hr.1
  have g0 : ds[0]? = some (ds.getD 0 .none) := by
    rw [List.getD_eq_getElem?_getD, List.getElem?_eq_getElem (by omega)]; rfl
  have m0 : m[0]? = some (m.getD 0 []) := by
    rw [List.getD_eq_getElem?_getD, List.getElem?_eq_getElem (by omega)]; rfl
  have s0 := hr.2 0 _ _ g0 m0
  have k1 : (seqOf (ds.getD 0 .none)).length = (m.getD 0 []).length := by rw [seqOf_is s0, List.length_map]
  have k2 := hm.kinds
  unfold movesErr
  rw [e1, e2, isLst_is s0, k1, hl]
  rw [if_pos (by simp only [Bool.true_and, Bool.and_eq_true, decide_eq_true_eq]; omega), if_pos (by simp only [Bool.true_and, Bool.and_eq_true, decide_eq_true_eq]; omega)]
  have : fw (fun e => isLine e (m.getD 0 []).length m.length) ds = none := by
    unfold fw
    rw [List.findIdx?_eq_none_iff]
    intro z hz
    obtain ⟨i, hi⟩ := List.mem_iff_getElem?.mp hz
    have hlt : i < m.length := by rw [← hl]; exact (List.getElem?_eq_some_iff.mp hi).1
    have e3 : m[i]? = some m[i] := List.getElem?_eq_getElem hlt
    have sz := hr.2 i z m[i] hi e3
    have hmem : m[i] ∈ m := List.getElem_mem hlt
    have hrl := hm.row _ hmem
    have : isLine z (m.getD 0 []).length m.length = true := by
      unfold isLine
      rw [isLst_is sz, seqOf_is sz, List.length_map, hrl]
      simp only [Bool.true_and, decide_true, List.all_eq_true]
      intro e he
      obtain ⟨x, hx, rfl⟩ := List.mem_map.mp he
      have := hm.goal _ hmem x hx
      simp only [isBet, Bool.and_eq_true, decide_eq_true_eq]
      omega
    simpa using this
  rw [this]
theorem wordsErr_ok {dw : PyData} {ws : List Nat} {n : Nat} (hs : IsSeq dw (natsD ws)) (hn : ws.length = n) (hw : ∀ x ∈ ws, x ≤ 3) : wordsErr dw (n : Int) = none := by
  unfold wordsErr
  rw [isLst_is hs, seqOf_is hs, List.length_map, hn]
  rw [if_pos (by simp)]
  have : fw isWord (natsD ws) = none := by
    unfold fw
    rw [List.findIdx?_eq_none_iff]
    intro z hz
    obtain ⟨x, hx, rfl⟩ := List.mem_map.mp hz
    have := hw x hx
    simp only [isWord, isBet, Bool.not_eq_false', Bool.and_eq_true, decide_eq_true_eq]
    omega
  rw [this]
def spMade (T : List (Addr × Str)) (K : PySem.W.Frag) : Sp := fun vs H Q _ => ∃ v m ws, vs = [v] ∧ Dp K H v (watchD m ws) ∧ VM m ∧ ws.length = m.length ∧ (∀ x ∈ ws, x ≤ 3) ∧ Tabs T H ∧ ∀ a H', Le T [] H H' → WatchAt K H' (KW K) a m ws → Q (.ref a) H'
def spLMap (T : List (Addr × Str)) (K : PySem.W.Frag) : Sp := fun vs H Q _ => ∃ v vr m ws row, vs = [v, vr] ∧ Dp K H v (watchD m ws) ∧ VM m ∧ Dp K H vr (nsD row) ∧ (∀ k ∈ row, k < kindsM m) ∧ ∀ u H', Le T [] H H' → tP (mapBy m row) u H' → Q u H'
section
variable {X : Cx} {a b : Expr} {σ : St} {H : Hp} {p pos : Pos} (W : Wd X.prog X.K X.mg X.base)
include W
/-- Watch(a, b), right ones -/
theorem er_watch {dm dw : PyData} {ds : List PyData} {m : List (List Nat)} {ws : List Nat} (hr : Room 8 X.A) (ha : Ed X (TT X.K) a σ H dm) (hb : Ed X (TT X.K) b σ H dw) (hs : IsSeq dm ds) (hR : RowsD ds m) (hm : VM m) (hw : IsSeq dw (natsD ws)) (hl : ws.length = m.length) (hws : ∀ x ∈ ws, x ≤ 3) (hT : Tabs (TT X.K) H)
    (hg : Gl X "Watch" := by rfl) (he : starEach [a, b] X.env = (false, eval a X.env) :: starEach [b] X.env := by rfl) (he2 : starEach [b] X.env = (false, eval b X.env) :: starEach [] X.env := by rfl) (hpl : (backTo pos (starEach [b] X.env)).any (·.1) = false := by rfl) : Er X (TT X.K) (.Call (.Name "Watch" p) [a, b] [] pos) σ H (wP X.K (KW X.K) m ws) := fun H1 l Q q => by
  have t := W.tx
  have hb2 : Binds X.K (fdOf X.K (d_Watch___init__.at_ X.K)) ["self", "moves", "words"] [] := b_Watch___init__ t
  refine pe_we (pe_make (mkr_Watch t) (ok_Watch_init W) hr hg (g_Watch t) hb2 .nil passL we_pa (by decide) he hpl) ?_
  refine (ed_cons ha (ed_cons hb ea_nil he2) he) H1 l _ fun vs H2 l2 ra => ?_
  obtain ⟨v1, v2, rfl, r1, r2⟩ := allP2 ra
  intro x dx hx hdx hne
  have l3 : Le (TT X.K) [] H2 (upd H2 dx (.own x)) := .new hdx
  have hx2 : upd H2 dx (.own x) x = none := by rw [upd_ne (Ne.symm hne)]; exact hx
  have l4 : Le (TT X.K) [] (upd H2 dx (.own x)) (upd (upd H2 dx (.own x)) x (.ins (KW X.K) dx [])) := .new hx2
  have l34 := l3.trans l4
  refine ⟨x, dx, v1, dm, v2, dw, rfl, upd_same, l34.dp r1, l34.dp r2, (l.trans (l2.trans l34)).tab hT, movesErr_ok hs hR hm, ?_, fun u1 u2 H5 l5 h5 d1 d2 => ⟨rfl, ?_⟩⟩
  · rw [seqOf_is hs, hR.1]
    exact wordsErr_ok hw hl hws
  · refine q _ H5 (l2.trans ((l34.up.trans l5).drop fun z hz => ?_)) ⟨x, rfl, dx, u1, u2, h5, ?_, ?_⟩
    · obtain rfl : z = x := by simpa using hz
      exact hx
    · rw [seqOf_is hs, rowsD_tup hR] at d1
      exact d1
    · unfold tupOf at d2
      rw [seqOf_is hw] at d2
      exact d2
end
section
variable {P : Program} {w : World} {K : PySem.W.Frag} {mg : Str → Option Value} {base : Heap} (W : Wd P K mg base)
include W
theorem ok__law_made : FnOk P w K mg base (L2.CX P w) 9 (d__law_made.at_ K) (fdOf K (d__law_made.at_ K)) ["watch"] (spMade (TT K) K) := by
  have t := W.tx
  refine ok_def (f__law_made t) sc__law_made (fun vs H Q E ⟨v, m, ws, e, _⟩ => by rw [e]; rfl) fun cdv A outer s H vs Q E B ⟨v, m, ws, e, hd, hm, hl, hws, hT, hq⟩ => ?_
  subst e
  have hlen := hm.most
  refine ss_one (s_ret (T := TT K) (R := wP K (KW K) m ws) (er_watch (dm := .list (m.map fun r => .list (natsD r))) (dw := .list (natsD ws)) (ds := m.map fun r => .list (natsD r)) W (by exact B.room) (Er.eq (er_lcS (x := "goals") (j := 1) (ds := m.map nsD) (f := fun d => .list (seqOf d)) B.calm B.nd (ed_ix (T := TT K) (d0 := watchD m ws) (ds := [movesD m, nsD ws]) (ed_var (i := 0) rfl hd) (.inl rfl) ed_int rfl) (.inl rfl) (by rw [List.length_map]; omega) (by kernel_rfl) fun i d u H1 b hi l1 r1 hb => ?_) (by rw [List.map_map]; rfl)) (ed_list (n_list t) (ed_ix (d0 := watchD m ws) (ds := [movesD m, nsD ws]) (ed_var (i := 0) rfl hd) (.inl rfl) ed_int rfl) (.inl rfl)) (.inr rfl) ⟨by rw [List.length_map], fun i d r h1 h2 => ?_⟩ hm (.inr rfl) hl hws hT) fun u H1 l1 ⟨a, e, r⟩ => e ▸ hq a H1 l1 r)
  · rw [List.getElem?_map] at hi
    cases hz : m[i]? with
    | none => rw [hz] at hi; cases hi
    | some r0 =>
      rw [hz] at hi
      cases hi
      exact BlkE.fresh (ds := natsD r0) (by
        have := noL_ns (l := r0)
        unfold nsD at this
        simpa only [noL] using this) hb fun s0 H0 C cl fp => er_list (n_list t) (ed_var (i := 1) rfl r1) (.inl rfl)
  · rw [List.getElem?_map, h2] at h1
    cases h1
    exact .inr rfl
end
section
variable {P : Program} {w : World} {K : PySem.W.Frag} {mg : Str → Option Value} {base : Heap} {T : List (Addr × Str)} (t : Tx P K mg)
include t
theorem ok__law_row : FnOk P w K mg base (L2.CX P w) 3 (d__law_row.at_ K) (fdOf K (d__law_row.at_ K)) ["tape", "watch", "most"] (spLRow T K) := by
  refine ok_def (f__law_row t) sc__law_row (fun vs H Q E ⟨a, l, v, m, ws, most, e, _⟩ => by rw [e]; rfl) fun cdv A outer s H vs Q E B ⟨a, l, v, m, ws, most, e, hta, hd, hne, hk1, hk2, hmost, hq⟩ => ?_
  subst e
  obtain ⟨r0, m', rfl⟩ : ∃ r0 m', m = r0 :: m' := by
    cases m with
    | nil => exact absurd rfl hne
    | cons a b => exact ⟨a, b, rfl⟩
  have nw : noL (watchD (r0 :: m') ws) = true := by
    unfold watchD
    simp only [noL, noLs, noL_moves, noL_ns, Bool.and_self]
  refine ss_one (s_ret0 (pe_we (pe_callTy (x := "tuple") call_tuple_of rfl (n_tuple t) rfl (pa_cons we_pe pa_nil)) ?_))
  refine we_lcT (T := T) (x := "item") (j := 3) (t := a) (l := l) (Pe := NatLt (kindsM (r0 :: m'))) (Pn := fun n => n ≤ most) B.calm B.nd (n_range t) (fun d ⟨r, e, _⟩ => e ▸ noL_int) (fun n e => by omega) hta (fun Q' q' => ?_) (by kernel_rfl) (fun i H6 tf6 s0 H0 C cl fp Q' q' => ?_) (fun v ds H6 hlen2 hds tf6 r6 => ?_)
  · refine we_callQ (T := T) (ok__law_draw (T := T) t) (by exact B.room) (g__law_draw t) (k__law_draw t) (b__law_draw t) (ea_cons (R := eqP (.ref a)) (er_var (i := 0) rfl rfl stab_e) (ed_cons (d := .int ((most + 1 : Nat) : Int)) (Er.eq (ed_bin0 op_add (ed_var (i := 2) rfl (.int _)) ed_int) rfl) ea_nil) stab_e) fun vs H7 l7 ra => ?_
    obtain ⟨u1, u2, rfl, rfl, r2⟩ := allP2 ra
    cases r2
    exact ⟨a, l, most + 1, rfl, hta.up l7, by omega, by omega, fun n H8 hn tf8 => q' n H8 (by omega) ((TF.of hta l7).trans tf8)⟩
  · refine we_callQ (T := T) (ok__law_draw (T := T) t) (by exact B.room) (g__law_draw t) (k__law_draw t) (b__law_draw t) (ea_cons (R := eqP (.ref a)) (er_var (i := 0) rfl rfl stab_e) (ed_cons (d := .int (kindsM (r0 :: m') : Nat)) (Er.eq (ed_len (n_len t) (ed_ix (ds := nsD r0 :: m'.map nsD) (d := nsD r0) (ed_ix (ds := [movesD (r0 :: m'), nsD ws]) (d0 := watchD (r0 :: m') ws) (ed_var (i := 1) rfl (tf6.dp nw hd)) (.inl rfl) ed_int rfl) (.inl rfl) ed_int (atI_nat (j := 0) rfl)) (.inl rfl)) (by rw [List.length_map]; rfl)) ea_nil) stab_e) fun vs H7 l7 ra => ?_
    obtain ⟨u1, u2, rfl, rfl, r2⟩ := allP2 ra
    cases r2
    exact ⟨a, l, _, rfl, tf6.tape.up l7, by omega, by omega, fun n H8 hn tf8 => q' _ _ H8 ((TF.of tf6.tape l7).trans tf8) ⟨n, rfl, hn⟩ (.int _)⟩
  · obtain ⟨row, rfl, hws⟩ := natLt_all hds
    obtain ⟨b6, xs6, rfl, t1, t2⟩ := dp_lst_of r6
    rw [List.length_map] at hlen2
    exact ⟨b6, xs6, rfl, .inl ⟨t1, fun q6 hq6 => hq _ row _ hlen2 hws (tf6.up (.new hq6)) (dp_tup upd_same ((Le.new (T := T) hq6).dpAll t2))⟩⟩
theorem ok__law_then : FnOk P w K mg base (L2.CX P w) 1 (d__law_then.at_ K) (fdOf K (d__law_then.at_ K)) ["one", "other"] (spThen T K) := by
  refine ok_def (f__law_then t) sc__law_then (fun vs H Q E ⟨v1, v2, f, g, L, e, _⟩ => by rw [e]; rfl) fun cdv A outer s H vs Q E B ⟨v1, v2, f, g, L, e, h1, h2, hf, hg, hL, hq⟩ => ?_
  subst e
  have e1 := hf.len
  refine ss_one (s_ret (T := T) (R := tP (thenM f g)) (er_tupN (n_tuple t) (Er.eq (er_lcS (x := "place") (j := 2) (ds := natsD f) (f := fun d => match d with | .int i => .int (g.getD i.toNat 0 : Nat) | _ => .none) B.calm B.nd (ed_var (i := 0) (T := T) rfl h1) (.inl rfl) (by rw [List.length_map]; omega) (by kernel_rfl) fun i d u H1 b hi l1 r1 hb => ?_) ?_)) fun u H1 l r => hq u H1 l r)
  · obtain ⟨p, hp, rfl⟩ := natsD_of hi
    have hpL := hf.lt p (List.mem_of_getElem? hp)
    have e2 : g[p]? = some (g.getD p 0) := by rw [List.getD_eq_getElem?_getD, List.getElem?_eq_getElem (by rw [hg.len]; exact hpL)]; rfl
    refine BlkE.of rfl fun s0 H0 C cl fp => Er.eq (ed_ix (ds := natsD g) (ed_var (i := 1) rfl (l1.dp h2)) (.inl rfl) (ed_var (i := 2) rfl r1) (natsD_at e2)) rfl
  · unfold thenM
    rw [List.map_map, List.map_map]
    rfl
end
end RM
namespace RM
open PySem PySem.Spec L2 LamX
open PyProof.Rows hiding St
section
variable {P : Program} {w : World} {K : PySem.W.Frag} {mg : Str → Option Value} {base : Heap} {T : List (Addr × Str)} (t : Tx P K mg)
include t
theorem ok__law_map : FnOk P w K mg base (L2.CX P w) 1 (d__law_map.at_ K) (fdOf K (d__law_map.at_ K)) ["watch", "row"] (spLMap T K) := by
  refine ok_def (f__law_map t) sc__law_map (fun vs H Q E ⟨v, vr, m, ws, row, e, _⟩ => by rw [e]; rfl) fun cdv A outer s H vs Q E B ⟨v, vr, m, ws, row, e, hd, hm, hr, hk, hq⟩ => ?_
  subst e
  have hlen := hm.most
  have nw : noL (watchD m ws) = true := by
    unfold watchD
    simp only [noL, noLs, noL_moves, noL_ns, Bool.and_self]
  refine ss_cons (s_set B (i := 2) (T := T) er_lst0 fun v1 H1 l1 r1 => ?_)
  obtain ⟨a, xs, rfl, fr, ha, hxs⟩ := r1
  obtain rfl : xs = [] := by cases hxs; rfl
  refine ss_cons (s_forR B (j := 3) (T := T) (n := m.length) (Er.eq (ed_len (n_len t) (ed_ix (d0 := watchD m ws) (ds := [movesD m, nsD ws]) (ed_var (i := 0) rfl (l1.dp hd)) (.inl rfl) ed_int rfl) (.inl rfl)) (by rw [List.length_map])) (by omega) (n_range t) fun H2 l2 => ?_)
  refine ⟨fun i σ' H' => (∃ x y, σ' = [some v, some vr, some (.ref a), x, y]) ∧ Le T [a] H H' ∧ Dp K H' v (watchD m ws) ∧ Dp K H' vr (nsD row) ∧ Acc T K a (natsD ((List.range i).map fun p => ledFrom m p row)) H', ⟨⟨_, _, rfl⟩, (l1.trans l2).up, (l1.trans l2).dp hd, (l1.trans l2).dp hr, ⟨[], l2.lst ha (by simp), .nil⟩⟩, fun i σ' H' hi ⟨⟨x, y, e⟩, l3, d3, r3, hA⟩ => ?_, fun σ' H' ⟨⟨x, y, e⟩, l3, d3, r3, hA⟩ => ?_⟩
  · subst e
    refine ss_cons (s_forS B (j := 4) (T := T) (ed_var (i := 1) rfl r3) (.inl rfl) fun v4 H4 l4 r4 => ?_)
    refine ⟨fun j σ' H' => (∃ y, σ' = [some v, some vr, some (.ref a), some (.int (ledFrom m i (row.take j) : Nat)), y]) ∧ Le T [] H4 H', ⟨⟨_, rfl⟩, .refl⟩, fun i σ' H' q => q.2, fun j d' u σ' H5 hj ⟨⟨y, e⟩, l5⟩ r5 => ?_, fun σ' H5 ⟨⟨y, e⟩, l5⟩ => ?_⟩
    · subst e
      obtain ⟨k, hk1, rfl⟩ := natsD_of hj
      have hkm : k ∈ row := List.mem_of_getElem? hk1
      have hq1 : ledFrom m i (row.take j) < m.length := hm.led hi fun x hx => hk x (List.mem_of_mem_take hx)
      obtain ⟨r, g1, g2, g3⟩ := hm.step hq1 (hk k hkm)
      refine ss_one (s_set B (i := 3) (T := T) (R := dP K (.int (stepW m (ledFrom m i (row.take j)) k : Nat))) (ed_ix (ds := natsD r) (ed_ix (ds := m.map nsD) (ed_ix (d0 := watchD m ws) (ds := [movesD m, nsD ws]) (ed_var (i := 0) rfl ((l4.trans l5).dp d3)) (.inl rfl) ed_int rfl) (.inl rfl) (ed_var (i := 3) rfl (.int _)) (moves_at g1)) (.inl rfl) (ed_var (i := 4) rfl r5) (natsD_at g2)) fun v6 H6 l6 r6 => ?_)
      cases r6
      refine ⟨⟨some u, ?_⟩, l5.trans l6⟩
      have : ledFrom m i (row.take (j + 1)) = stepW m (ledFrom m i (row.take j)) k := by
        rw [List.take_add_one, hk1, led_app]
        rfl
      rw [this]
      rfl
    · subst e
      have el : (natsD row).length = row.length := List.length_map _
      rw [el, List.take_length]
      have hA5 := hA.up (l4.trans l5)
      refine ss_one (s_append (i := 2) (ad := a) (T := T) (R := dP K (.int (ledFrom m i row : Nat))) (ed_var (i := 3) rfl (.int _)) rfl ⟨_, hA5.choose_spec.1⟩ fun v6 H6 l6 r6 => ?_)
      obtain ⟨ys, y1, y2⟩ := hA5.up l6
      have e1 : (natsD ((List.range i).map fun p => ledFrom m p row)).length = i := by rw [List.length_map, List.length_map, List.length_range]
      refine ⟨ys, y1, by rw [alln_len y2, e1, sizeLine_eq]; omega, ⟨_, _, rfl⟩, ?_, ?_, ?_, ?_⟩
      · exact ((l3.trans (l4.trans (l5.trans l6)).up).trans (Le.refl.putL y1 (.inl (by simp))))
      · exact (Le.refl.putL (T := T) (S := [a]) y1 (.inl (by simp))).dpT (noTup_lst y1) nw ((l4.trans (l5.trans l6)).dp d3)
      · exact (Le.refl.putL (T := T) (S := [a]) y1 (.inl (by simp))).dpT (noTup_lst y1) noL_ns ((l4.trans (l5.trans l6)).dp r3)
      · have : natsD ((List.range (i + 1)).map fun p => ledFrom m p row) = natsD ((List.range i).map fun p => ledFrom m p row) ++ [.int (ledFrom m i row : Nat)] := by
          simp [natsD, List.range_succ]
        rw [this]
        exact Acc.push y1 y2 ⟨r6, .inl rfl⟩
  · subst e
    refine ss_one (s_ret (T := T) (R := tP (mapBy m row)) (er_tupN (n_tuple t) (ed_var (i := 2) rfl hA.dp)) fun u H4 l4 r4 => hq u H4 ((l3.trans l4.up).dropT fun z hz => ?_) r4)
    obtain rfl : z = a := by simpa using hz
    rcases fr with fr | fr
    · exact .inl fr
    · exact .inr fr
end
end RM
namespace RM
open PySem PySem.Spec L2 LamX
open PyProof.Rows hiding St
def spBegun (T : List (Addr × Str)) (K : PySem.W.Frag) : Sp := fun vs H Q _ => ∃ (a : Addr) (ns : List Int), vs = [.ref a] ∧ SqL K H a (ns.map V.int) ∧ ns.length ≤ 1000 ∧ ∀ t l H', Le T [] H H' → TapeAt H' t l → Q (.ref t) H'
theorem ints_all : ∀ {ds : List PyData}, (∀ d ∈ ds, ∃ i : Int, d = .int i) → ∃ ls : List Int, ds = ls.map PyData.int
  | [], _ => ⟨[], rfl⟩
  | d :: ds, h => by
    obtain ⟨i, rfl⟩ := h d List.mem_cons_self
    obtain ⟨ls, rfl⟩ := ints_all fun e he => h e (List.mem_cons_of_mem _ he)
    exact ⟨i :: ls, rfl⟩
def absI (i : Int) : Int := if i < 0 then -i else i
def lgF (d : PyData) : PyData := match d with
  | .int i => .int (absI i - 10 ^ 18)
  | _ => .none
def lgG (d : PyData) : Bool := match d with
  | .int i => decide ((10 ^ 18 : Int) ≤ absI i)
  | _ => false
def abF (d : PyData) : PyData := match d with
  | .int i => .int (absI i)
  | _ => .none
theorem int_at {ns : List Int} {i : Nat} {d : PyData} (h : (ns.map PyData.int)[i]? = some d) : ∃ n, d = .int n := by
  rw [List.getElem?_map] at h
  cases e : ns[i]? with
  | none => rw [e] at h; cases h
  | some n => rw [e] at h; cases h; exact ⟨n, rfl⟩
section
variable {P : Program} {w : World} {K : PySem.W.Frag} {mg : Str → Option Value} {base : Heap} {T : List (Addr × Str)} (t : Tx P K mg)
include t
theorem ok__law_begun : FnOk P w K mg base (L2.CX P w) 1 (d__law_begun.at_ K) (fdOf K (d__law_begun.at_ K)) ["script"] (spBegun T K) := by
  refine ok_def (f__law_begun t) sc__law_begun (fun vs H Q E ⟨a, ns, e, _⟩ => by rw [e]; rfl) fun cdv A outer s H vs Q E B ⟨a, ns, e, hS, hn, hq⟩ => ?_
  subst e
  have hd : Dp K H (.ref a) (.list (ns.map PyData.int)) := .lst hS (dpa_ints ns)
  have hlen : (ns.map PyData.int).length ≤ 100000 := by rw [List.length_map]; omega
  refine ss_cons (s_setLcF (i := 1) (x := "grain") (j := 2) (T := T) (ds := ns.map PyData.int) (f := lgF) (g := lgG) B (ed_var (i := 0) rfl hd) (.inr rfl) hlen (by kernel_rfl) (by rfl) (fun i d u H1 hi l1 r1 s0 H0 C cl fp => ?_) (fun i d u H1 b hi hg l1 r1 hb => BlkE.of (d := lgF d) ?_ fun s0 H0 C cl fp => ?_) fun v H1 l1 r1 => ?_)
  · obtain ⟨n, rfl⟩ := int_at hi
    exact et_cmpI op_ge (ed_abs (n_abs t) (ed_var (i := 2) rfl r1)) (ed_bin op_pow ed_int ed_int ⟨by decide, by decide, by decide⟩)
  · obtain ⟨n, rfl⟩ := int_at hi
    rfl
  · obtain ⟨n, rfl⟩ := int_at hi
    exact Er.eq (ed_bin0 op_sub (ed_abs (n_abs t) (ed_var (i := 2) rfl r1)) (ed_bin op_pow ed_int ed_int ⟨by decide, by decide, by decide⟩)) rfl
  · obtain ⟨l, xs, rfl, fr, hl, hxs⟩ := r1
    obtain ⟨ls, els⟩ : ∃ ls : List Int, ((ns.map PyData.int).filter lgG).map lgF = ls.map PyData.int := ints_all fun d hd => by
      obtain ⟨d0, h0, rfl⟩ := List.mem_map.mp hd
      obtain ⟨n, _, rfl⟩ := List.mem_map.mp (List.mem_filter.mp h0).1
      exact ⟨_, rfl⟩
    rw [els] at hxs
    have := dpa_ints_of hxs
    subst this
    refine ss_one (s_ret0 (pe_we (pe_disp (pps_cons pe_str we_pe (pps_cons pe_str pe_int (pps_cons pe_str we_pe (pps_cons pe_str pe_int pps_nil)))) rfl rfl (by simp) (by simp)) ?_))
    intro p hp
    have lp : Le T [] H1 (upd H1 p (.dK [])) := .new hp
    have gp : upd H1 p (.dK []) p = some (.dK []) := upd_same
    generalize upd H1 p (.dK []) = H2 at lp gp ⊢
    refine Er.run (T := T) (R := eqP (.ref l)) (er_var (i := 1) rfl rfl stab_e) fun v3 H3 l3 e3 => ?_
    subst e3
    have l13 := l1.trans (lp.trans l3)
    refine Er.run (T := T) (R := FreshL K H3 ((ns.map PyData.int).map abF)) (er_lcFr (x := "grain") (j := 2) (ds := ns.map PyData.int) (f := abF) B.calm B.nd (ed_var (i := 0) rfl (l13.dp hd)) (.inr rfl) hlen (by kernel_rfl) fun i d u H4 b hi l4 r4 hb => BlkE.of (d := abF d) ?_ fun s0 H0 C cl fp => ?_) fun v5 H5 l5 r5 => ?_
    · obtain ⟨n, rfl⟩ := int_at hi
      rfl
    · obtain ⟨n, rfl⟩ := int_at hi
      exact Er.eq (ed_abs (n_abs t) (ed_var (i := 2) rfl r4)) rfl
    · obtain ⟨c, ys, rfl, fr5, hc, hys⟩ := r5
      obtain ⟨cs, ecs⟩ : ∃ cs : List Int, (ns.map PyData.int).map abF = cs.map PyData.int := ints_all fun d hd => by
        obtain ⟨d0, h0, rfl⟩ := List.mem_map.mp hd
        obtain ⟨n, _, rfl⟩ := List.mem_map.mp h0
        exact ⟨_, rfl⟩
      rw [ecs] at hys
      have := dpa_ints_of hys
      subst this
      have hp5 := (l3.trans l5).at gp (by simp) fun _ z => nomatch z
      have hl3 := (lp.trans l3).lst hl (by simp)
      have hl5 := l5.lst hl3 (by simp)
      refine ⟨hp5, tapeK l c 0 0, rfl, (show 4 ≤ 15 by decide), ?_⟩
      have nlc : l ≠ c := fun z => by
        rw [← z, hl3] at fr5
        rcases fr5 with fr5 | ⟨ps, fr5⟩ <;> cases fr5
      have npl : l ≠ p := fun z => by rw [z, hp5] at hl5; cases hl5
      have npc : c ≠ p := fun z => by rw [z, hp5] at hc; cases hc
      refine hq p l _ ((Le.putD (S := [p]) (l13.trans l5).up (u := .dK (mergeK [] (tapeK l c 0 0))) hp5 (.inl (by simp))).dropT fun z hz => ?_) ⟨c, 0, 0, ls, cs, upd_same, by rw [upd_ne npl]; exact hl5, by rw [upd_ne npc]; exact hc, nlc⟩
      obtain rfl : z = p := by simpa using hz
      exact l1.free hp
end
end RM
namespace RM
open PySem PySem.Spec L2 LamX
open PyProof.Rows hiding St
def unI (d : PyData) : Nat := match d with
  | .int i => i.toNat
  | _ => 0
theorem natsD_inv (l : List Nat) : (natsD l).map unI = l := by
  induction l with
  | nil => rfl
  | cons a r ih =>
    show unI (.int (a : Nat)) :: (natsD r).map unI = a :: r
    rw [ih]
    rfl
theorem natsD_inj {a b : List Nat} (h : natsD a = natsD b) : a = b := by rw [← natsD_inv a, h, natsD_inv]
section
variable {T : List (Addr × Str)} {K : PySem.W.Frag} {H : Hp} {Q : VK} {E : XK} {a : Addr} {m : List (List Nat)} {ws row : List Nat} {vr vt : V} {d dt : PyData}
theorem wr_ok {k : List (List Nat) → List Nat → List Nat → Prop} (hw : WatchAt K H (KW K) a m ws) (hm : VM m) (hd : Dp K H vr d) (hs : IsSeq d (natsD row)) (hk : ∀ x ∈ row, x < kindsM m) (hl : row.length ≤ 300) (hT : Tabs T H) (h : k m ws row) : WR T K H E (.ref a) vr k := by
  refine ⟨some (m, ws), d, .watch hw, hd, hT, (fun m' ws' e => by cases e; exact hm), (fun e => by cases e), fun m' ws' e => ?_⟩
  cases e
  refine ⟨(fun x e => by rw [rowErr_ok hs hk hl] at e; cases e), fun _ row' hs' hk' => ?_⟩
  have : row' = row := by
    have e : natsD row' = natsD row := by
      rcases hs with rfl | rfl <;> rcases hs' with e | e <;> first
        | (cases e; done)
        | (injection e with e; exact e.symm)
    exact natsD_inj e
  rw [this]
  exact h
theorem mof_ok (hw : WatchAt K H (KW K) a m ws) (hm : VM m) (hd : Dp K H vr d) (hs : IsSeq d (natsD row)) (hk : ∀ x ∈ row, x < kindsM m) (hl : row.length ≤ 300) (hT : Tabs T H) (h : ∀ u H', Le T [] H H' → tP (mapBy m row) u H' → Q u H') : spMapOf T K [.ref a, vr] H Q E := ⟨_, _, rfl, wr_ok hw hm hd hs hk hl hT h⟩
/-- a wrong watch, a wrong row -/
theorem mof_noW {v : V} {d0 : PyData} (hd0 : Dp K H v d0) (hd : Dp K H vr d) (hT : Tabs T H) (h : ErrC T K (He.ga K "NoWatch") "part" .none H E) : spMapOf T K [v, vr] H Q E :=
  ⟨_, _, rfl, none, d, .data hd0, hd, hT, (fun m ws e => by cases e), fun _ => h, fun m ws e => by cases e⟩
theorem mof_row (hw : WatchAt K H (KW K) a m ws) (hm : VM m) (hd : Dp K H vr d) (hT : Tabs T H) {x : PyData} (hx : rowErr (kindsM m) d = some x) (h : ErrC T K (He.ga K "BadRow") "index" x H E) : spMapOf T K [.ref a, vr] H Q E :=
  ⟨_, _, rfl, some (m, ws), d, .watch hw, hd, hT, (fun m' ws' e => by cases e; exact hm), (fun e => by cases e), fun m' ws' e => by
    cases e
    exact ⟨fun x' e => by rw [hx] at e; cases e; exact h, fun e => by rw [hx] at e; cases e⟩⟩
end
end RM
namespace RM
open PySem PySem.Spec L2 LamX
open PyProof.Rows hiding St
def spLMaps (T : List (Addr × Str)) (K : PySem.W.Frag) : Sp := fun vs H Q _ => ∃ v m ws, vs = [v, .int 2000] ∧ Dp K H v (watchD m ws) ∧ VM m ∧ m.length ≤ 4 ∧ ∀ j, Stop m j → ∀ u H', Le T [] H H' → FreshT K H (toE (allM m j)) u H' → Q u H'
theorem pow_four {n : Nat} (h : n ≤ 4) : n ^ n ≤ 256 := by
  have : n = 0 ∨ n = 1 ∨ n = 2 ∨ n = 3 ∨ n = 4 := by omega
  rcases this with rfl | rfl | rfl | rfl | rfl <;> decide
theorem noL_watchD {m : List (List Nat)} {ws : List Nat} : noL (watchD m ws) = true := by
  unfold watchD
  simp only [noL, noLs, noL_moves, noL_ns, Bool.and_self]
theorem entF_run {m : List (List Nat)} {i q : Nat} (h : i + q < (allM m i).length) : entF (allM m (i + q)) (i + q) = entF (allM m i) (i + q) := by
  obtain ⟨t, e⟩ := runB_pre (st := kindMaps m) (n := m.length) (show i ≤ i + q by omega)
  show entF (runB _ _ (i + q)) (i + q) = _
  rw [e]
  exact entF_pre h
section
variable {P : Program} {w : World} {K : PySem.W.Frag} {mg : Str → Option Value} {base : Heap} {T : List (Addr × Str)} (t : Tx P K mg)
include t
theorem ok__law_maps : FnOk P w K mg base (L2.CX P w) 2 (d__law_maps.at_ K) (fdOf K (d__law_maps.at_ K)) ["watch", "most"] (spLMaps T K) := by
  refine ok_def (f__law_maps t) sc__law_maps (fun vs H Q E ⟨v, m, ws, e, _⟩ => by rw [e]; rfl) fun cdv A outer s H vs Q E B ⟨v, m, ws, e, hd, hm, h4, hq⟩ => ?_
  subst e
  have hu : A.units + 3 + 64 < cLine := by
    have h := B.room.un
    have h2 : A.units + 3 + 16 * 1 + 200 < cLine := h
    omega
  have hu1 : A.units + 3 + 1 < cLine := by omega
  have hm6 := hm.most
  have hk4 : kindsM m ≤ 4 := hm.kinds.2
  have hm0 : m[0]? = some (m.getD 0 []) := by
    have := hm.ne
    rw [List.getD_eq_getElem?_getD, List.getElem?_eq_getElem (by omega)]
    rfl
  refine ss_cons (s_setLcRG (T := T) (x := "kind") (i := 3) (j := 2) (n := kindsM m) (P := fun k => tP (mapBy m [k])) B (n_range t) (Er.eq (ed_len (n_len t) (ed_ix (d0 := movesD m) (ds := m.map nsD) (ed_ix (d0 := watchD m ws) (ds := [movesD m, nsD ws]) (ed_var (i := 0) rfl hd) (.inl rfl) ed_int rfl) (.inl rfl) ed_int (moves_at (i := 0) hm0)) (.inl rfl)) (by rw [List.length_map]; rfl)) (by omega) (by kernel_rfl) rfl (fun i hi => stL_tP) (fun i H1 hi l1 s0 H0 C cl fp => er_call (ok__law_map (T := T) t) (by exact B.room.mono (by decide)) (g__law_map t) (k__law_map t) (b__law_map t) .nil (ed_cons (ed_var (i := 0) rfl (l1.dp hd)) (ed_cons (ed_tup (ds := [.int (i : Nat)]) (ed_cons (ed_var (i := 2) rfl (.int _)) ea_nil) (by simp)) ea_nil)) fun vs H2 l2 ra Q' q' => by
      obtain ⟨v1, v2, rfl, r1, r2⟩ := allP2 ra
      exact ⟨v1, v2, m, ws, [i], rfl, r1, hm, r2, fun k hk => (by obtain rfl := List.mem_singleton.mp hk; exact hi), q'⟩) fun v1 H1 l1 r1 => ?_)
  have r1 : FreshM H (kindMaps m) v1 H1 := freshM_of (by unfold kindMaps; rw [List.map_map]; exact r1)
  obtain ⟨s, rfl, fs, hs⟩ := r1
  have hd1 := l1.dp hd
  refine ss_cons (s_set B (i := 4) (T := T) (R := tP (List.range m.length)) (er_tupN (n_tuple t) (ed_lstRg B.calm (n_list t) (n_range t) (Er.eq (ed_len (n_len t) (ed_ix (d0 := watchD m ws) (ds := [movesD m, nsD ws]) (ed_var (i := 0) rfl hd1) (.inl rfl) ed_int rfl) (.inl rfl)) (by rw [List.length_map])) (by omega))) fun v2 H2 l2 r2 => ?_)
  refine ss_cons (s_par B (i := 5) (j := 6) (T := T) (R1 := FreshT K H2 [(List.range m.length, .tuple [])]) (R2 := FreshM H2 [List.range m.length]) stab_frT (er_disp1 (by exact hu1) (er_var (i := 4) rfl r2 stab_tP) (ed_tup (ds := []) ea_nil (by simp))) (er_lst1 (er_var (i := 4) rfl r2 stab_tP)) fun v3 v4 H3 l3 r3 r4 => ?_)
  obtain ⟨b, rfl, fb, hb⟩ := r3
  obtain ⟨c, rfl, fc, hc⟩ := r4
  have hs3 := (hs.up l2).up l3
  have hd3 := (l2.trans l3).dp hd1
  have l13 := l1.trans (l2.trans l3)
  have fbH := (l1.trans l2).fr fb
  have kd : ∀ {H' : Hp} {x y : Addr} {es : List (List Nat × PyData)} {ls : List (List Nat)}, DTat K H' x es → LineT H' y ls → x ≠ y := fun h1 h2 z => by
    obtain ⟨vs, e1, _⟩ := h1
    obtain ⟨us, e2, _⟩ := h2
    rw [z, e2] at e1
    cases e1
  have nbs := kd hb hs3
  refine ss_cons (s_forR B (j := 7) (T := T) (n := 2100) ed_int (by decide) (n_range t) fun H4 l4 => ?_)
  refine ⟨fun p σ' H' => (∃ (i : Nat) (c : Addr) (x2 x7 x8 x9 x10 x11 : Option V), σ' = [some v, some (.int 2000), x2, some (.ref s), some v2, some (.ref b), some (.ref c), x7, x8, x9, x10, x11] ∧ DTat K H' b (toE (allM m i)) ∧ LineT H' c (((allM m i).map (fun (x : Ent) => x.1)).drop i) ∧ Goes m i ∧ p ≤ i ∧ i < (allM m i).length) ∧ Le T [b] H4 H' ∧ LineT H' s (kindMaps m),
    ⟨⟨0, c, _, _, _, _, _, _, rfl, hb.up l4, hc.up l4, (fun j hj => absurd hj (by omega)), Nat.le_refl _, (show 0 < 1 by decide)⟩, .refl, hs3.up l4⟩, fun p σ' H' hp ⟨⟨i, c, x2, x7, x8, x9, x10, x11, e, hb, hc, hg, hpi, hi⟩, l5, hs5⟩ => ?_, fun σ' H' ⟨⟨i, c, x2, x7, x8, x9, x10, x11, e, hb, hc, hg, hpi, hi⟩, l5, hs5⟩ => ?_⟩
  · subst e
    have nbc := kd hb hc
    have hlen : (allM m i).length ≤ 256 := Nat.le_trans (allM_most hm hg) (pow_four h4)
    refine ss_cons (s_set B (i := 8) (T := T) (R := FreshL K H' []) er_lst0 fun v6 H6 l6 r6 => ?_)
    obtain ⟨la, xs6, rfl, fla, hla, hxs⟩ := r6
    obtain rfl : xs6 = [] := by cases hxs; rfl
    have hb6 := hb.up l6
    have hs6 := hs5.up l6
    have hla6 : LineT H6 la [] := ⟨[], hla, trivial⟩
    have frn : ∀ {y : Addr} {ls : List (List Nat)}, LineT H' y ls → la ≠ y := fun h z => by
      obtain ⟨us, e2, _⟩ := h
      rw [z, e2] at fla
      rcases fla with f | ⟨ps, f⟩ <;> cases f
    have nlc := frn hc
    have nls := frn hs5
    have nlb := kd hb6 hla6
    obtain ⟨cv, hcv, hca⟩ := hc.up l6
    have hcl : cv.length = (allM m i).length - i := by rw [hca.len, List.length_drop, List.length_map]
    have NT : ∀ {H' : Hp} {es ls}, DTat K H' b es → LineT H' la ls → NoTup H' [b, la] := fun h1 h2 => noTup_app (S := [b]) (S' := [la]) h1.noTup (by obtain ⟨vs, e, _⟩ := h2; exact noTup_lst e)
    refine ss_cons (s_forV0 (j := 9) B ((er_var (T := T) (i := 6) (R := eqP (.ref c)) rfl rfl stab_e).run fun v7 H7 l7 e7 => ⟨c, cv, e7, .inl (SqL.of (l7.lst hcv (by simp))), ?_⟩))
    have hb7 := hb6.up l7
    have hs7 := hs6.up l7
    have hla7 := hla6.up l7
    have hcv7 := l7.lst hcv (by simp)
    have hca7 := l7.allT noTup_nil hca
    refine ⟨fun q σ2 G => (∃ x2 x9 x10 x11, σ2 = [some v, some (.int 2000), x2, some (.ref s), some v2, some (.ref b), some (.ref c), some (.int (p : Nat)), some (.ref la), x9, x10, x11]) ∧ Le T [b, la] H7 G ∧ DTat K G b (toE (allM m (i + q))) ∧ LineT G la (((allM m (i + q)).map (fun (x : Ent) => x.1)).drop (allM m i).length) ∧ Goes m (i + q),
      ⟨⟨_, _, _, _, rfl⟩, .refl, hb7, (by rw [List.drop_eq_nil_of_le (by rw [List.length_map]; exact Nat.le_refl _)]; exact hla7), hg⟩, fun q σ2 G ⟨_, l3, _⟩ => ⟨fun z => l3.sqL z (by simp [nbc.symm, nlc.symm]), fun z => l3.sqT z (by simp [nbc.symm, nlc.symm])⟩, fun q u σ2 G hux ⟨⟨y2, y9, y10, y11, e⟩, lg, hbg, hlg, hgq⟩ => ?_, fun σ2 G ⟨⟨y2, y9, y10, y11, e⟩, lg, hbg, hlg, hgq⟩ => ?_⟩
    · subst e
      have hqc : q < cv.length := (List.getElem?_eq_some_iff.mp hux).1
      have hiq : i + q < (allM m i).length := by omega
      obtain ⟨f, hf1, hf2⟩ := hca7.get hux
      rw [List.getElem?_drop, List.getElem?_map, ent_at hiq] at hf1
      obtain rfl : entF (allM m i) (i + q) = f := Option.some.inj hf1
      have hprel : (allM m i).length ≤ (allM m (i + q)).length := runB_len (by omega)
      have hiq2 : i + q < (allM m (i + q)).length := by omega
      have eF0 := entF_run hiq
      have tfG := lg.tP (NT hb7 hla7) hf2
      have hve : Val m.length (entF (allM m i) (i + q)) := by
        rw [← eF0]
        have := good_at (allM_good hm (i + q) hgq) hiq2
        have h2 : entF (allM m (i + q)) (i + q) = mapBy m (entR (allM m (i + q)) (i + q)) := this.2
        rw [h2]
        exact hm.map this.1
      have hlq : (allM m (i + q)).length ≤ 256 := Nat.le_trans (allM_most hm hgq) (pow_four h4)
      have hsG : LineT G s (kindMaps m) := hs7.to lg (NT hb7 hla7) (by simp [nbs.symm, nls.symm])
      obtain ⟨sv, hsv, hsa⟩ := hsG
      have hsl : sv.length = kindsM m := by rw [hsa.len, kindMaps_len]
      refine ss_one (s_forE0 (T := T) (j1 := 2) (j2 := 10) B (n_enumerate t) ((er_var (T := T) (i := 3) (R := eqP (.ref s)) rfl rfl stab_e).run fun v8 H8 l8 e8 => ⟨s, sv, e8, .inl (SqL.of (l8.lst hsv (by simp))), ?_⟩))
      have hb8 := hbg.up l8
      have hl8 := hlg.up l8
      have hsv8 := l8.lst hsv (by simp)
      have hsa8 := l8.allT noTup_nil hsa
      have tf8 : tP (entF (allM m i) (i + q)) u H8 := stab_tP (T := T) _ _ _ l8 tfG
      have l78 : Le T [b, la] H7 H8 := lg.trans l8.up
      refine ⟨fun k σ3 G3 => (∃ x2 x10 x11, σ3 = [some v, some (.int 2000), x2, some (.ref s), some v2, some (.ref b), some (.ref c), some (.int (p : Nat)), some (.ref la), some u, x10, x11]) ∧ Le T [b, la] H8 G3 ∧ DTat K G3 b (toE (runK (kindMaps m) (i + q) (allM m (i + q)) k)) ∧ LineT G3 la (((runK (kindMaps m) (i + q) (allM m (i + q)) k).map (fun (x : Ent) => x.1)).drop (allM m i).length),
        ⟨⟨_, _, _, rfl⟩, .refl, hb8, hl8⟩, fun k σ3 G3 ⟨_, l3, _⟩ => ⟨fun z => l3.sqL z (by simp [nbs.symm, nls.symm]), fun z => l3.sqT z (by simp [nbs.symm, nls.symm])⟩, fun k u2 σ3 G3 hux2 ⟨⟨z2, z10, z11, e⟩, l3, hb3, hl3⟩ H9 l9 => ?_, fun σ3 G3 ⟨⟨z2, z10, z11, e⟩, l3, hb3, hl3⟩ => ?_⟩
      · subst e
        have hk : k < kindsM m := by rw [← hsl]; exact (List.getElem?_eq_some_iff.mp hux2).1
        have NT8 := NT hb8 hl8
        obtain ⟨g, hg2, hgt⟩ := (l3.allT NT8 hsa8).get hux2
        have eg : (kindMaps m).getD k [] = g := by rw [List.getD_eq_getElem?_getD, hg2]; rfl
        have ht9 : tP g u2 H9 := stab_tP (T := T) _ _ _ l9 hgt
        have tf9 : tP (entF (allM m i) (i + q)) u H9 := stab_tP (T := T) _ _ _ l9 (l3.tP NT8 tf8)
        have hb9 := hb3.up l9
        have hl9 := hl3.up l9
        obtain ⟨pre, epre⟩ := runK_pre (st := kindMaps m) (i := i + q) (es := allM m (i + q)) k
        have hlenk : (runK (kindMaps m) (i + q) (allM m (i + q)) k).length ≤ 256 + k := by
          have : ∀ k, (runK (kindMaps m) (i + q) (allM m (i + q)) k).length ≤ 256 + k := fun k => by
            induction k with
            | zero => exact hlq
            | succ k ih =>
              rw [runK_keys_succ]
              split
              · omega
              · rw [List.length_append]; simp; omega
          exact this k
        have hi' : i + q < (runK (kindMaps m) (i + q) (allM m (i + q)) k).length := by rw [epre, List.length_append]; omega
        have hn' : (allM m i).length ≤ ((runK (kindMaps m) (i + q) (allM m (i + q)) k).map (·.1)).length := by rw [List.length_map, epre, List.length_append]; omega
        have eF : entF (runK (kindMaps m) (i + q) (allM m (i + q)) k) (i + q) = entF (allM m i) (i + q) := by rw [epre, entF_pre hiq2, eF0]
        have eR : entR (runK (kindMaps m) (i + q) (allM m (i + q)) k) (i + q) = entR (allM m (i + q)) (i + q) := by rw [epre]; exact entR_pre hiq2
        have hvg : Val m.length g := by
          rw [← eg, kindMaps_at hk]
          exact hm.map fun x hx => by obtain rfl := List.mem_singleton.mp hx; exact hk
        refine ss_cons (s_set B (i := 11) (T := T) (R := tP (thenM (entF (allM m i) (i + q)) g)) (er_call (ok__law_then (T := T) t) (by exact B.room.mono (by decide)) (g__law_then t) (k__law_then t) (b__law_then t) .nil (ed_cons (d := nsD (entF (allM m i) (i + q))) (ed_var (i := 9) rfl (tP_dp tf9)) (ed_cons (d := nsD g) (ed_var (i := 10) rfl (tP_dp ht9)) ea_nil)) fun vs H10 l10 ra Q' q' => ?_) fun v10 H10 l10 r10 => ?_)
        · obtain ⟨q1, q2, rfl, h1, h2⟩ := allP2 ra
          exact ⟨q1, q2, _, _, m.length, rfl, h1, h2, hve, hvg, by omega, q'⟩
        have hb10 := hb9.up l10
        have hl10 := hl9.up l10
        have tf10 : tP (entF (allM m i) (i + q)) u H10 := stab_tP (T := T) _ _ _ l10 tf9
        have hlook := look_dec (es := runK (kindMaps m) (i + q) (allM m (i + q)) k) (f := thenM (entF (allM m i) (i + q)) g)
        refine ss_one (s_if (T := T) (et_notInT (by exact hu1) (er_var (i := 11) rfl r10 stab_tP) (er_var (i := 5) rfl rfl stab_e) hb10.r) (fun e6 H11 l11 => ?_) fun e6 H11 l11 => ss_nil ?_)
        · have hno : hasK (runK (kindMaps m) (i + q) (allM m (i + q)) k) (thenM (entF (allM m i) (i + q)) g) = false := by
            rw [e6] at hlook
            simpa using hlook.symm
          have hno' : look (toE (runK (kindMaps m) (i + q) (allM m (i + q)) k)) (thenM (entF (allM m i) (i + q)) g) = none := of_decide_eq_true e6
          have hnd : ((runK (kindMaps m) (i + q) (allM m (i + q)) k).map (·.1)).Nodup := runK_nodup (runB_nodup (i + q)) k
          have hsome := look_some hnd hi'
          rw [eF, eR] at hsome
          have hb11 := hb10.up l11
          have hl11 := hl10.up l11
          have r11 := stab_tP (T := T) _ _ _ l11 r10
          have tf11 : tP (entF (allM m i) (i + q)) u H11 := stab_tP (T := T) _ _ _ l11 tf10
          refine ss_cons (s_putT (T := T) (d := nsD (entR (allM m (i + q)) (i + q) ++ [k])) (l := thenM (entF (allM m i) (i + q)) g) (by exact hu1) (Er.eq (ed_catT (ds := natsD (entR (allM m (i + q)) (i + q))) (ds' := [.int (k : Nat)]) (er_getT (by exact hu1) (er_var (i := 5) rfl rfl stab_e) (er_var (i := 9) rfl tf11 stab_tP) hb11.r hsome) (ed_tup (ds := [.int (k : Nat)]) (ed_cons (ed_var (i := 2) rfl (.int (k : Nat))) ea_nil) (by simp)) ?_) ?_) (er_var (i := 5) rfl rfl stab_e) (er_var (i := 11) rfl r11 stab_tP) hb11 hno' (by unfold toE; rw [List.length_map]; omega) fun H12 l12 hb12 => ?_)
          · have h1 := allM_short (i + q) hgq _ (List.mem_of_getElem? (ent_at hiq2))
            have h2 : (entR (allM m (i + q)) (i + q)).length ≤ i + q := h1
            show (natsD (entR (allM m (i + q)) (i + q))).length + 1 ≤ 100000
            rw [List.length_map]
            omega
          · unfold nsD natsD; rw [List.map_append]; rfl
          have hl12 : LineT H12 la (((runK (kindMaps m) (i + q) (allM m (i + q)) k).map (fun (x : Ent) => x.1)).drop (allM m i).length) := hl11.to l12 hb11.noTup (by simp [nlb.symm])
          have r12 : tP (thenM (entF (allM m i) (i + q)) g) v10 H12 := l12.tP hb11.noTup r11
          refine ss_one (s_append (i := 8) (ad := la) (T := T) (R := tP (thenM (entF (allM m i) (i + q)) g)) (er_var (i := 11) rfl r12 stab_tP) rfl (let ⟨vs, h, _⟩ := hl12; ⟨vs, h⟩) fun v13 H13 l13 r13 => ?_)
          obtain ⟨lv, hlv, hlaa⟩ := hl12.up l13
          have hb13 := hb12.up l13
          have e12 : toE (runK (kindMaps m) (i + q) (allM m (i + q)) k ++ [(thenM (entF (allM m i) (i + q)) g, entR (allM m (i + q)) (i + q) ++ [k])]) = toE (runK (kindMaps m) (i + q) (allM m (i + q)) k) ++ [(thenM (entF (allM m i) (i + q)) g, nsD (entR (allM m (i + q)) (i + q) ++ [k]))] := toE_app
          rw [← e12] at hb13
          have lw : Le T [la] H13 (upd H13 la (.lst (lv ++ [v13]))) := Le.refl.putL hlv (.inl (by simp))
          refine ⟨lv, hlv, ?_, ⟨_, _, _, rfl⟩, ?_, ?_, ?_⟩
          · rw [hlaa.len, List.length_drop, List.length_map, sizeLine_eq]; omega
          · exact l3.trans ((l9.trans (l10.trans l11)).up.trans ((l12.mono (by simp)).trans (l13.up.trans (lw.mono (by simp)))))
          · rw [runK_keys_succ, eg, eF0, if_neg (by rw [hno]; simp)]
            exact hb13.to lw (noTup_lst hlv) (by simp [nlb]) toE_noL
          · rw [runK_keys_succ, eg, eF0, if_neg (by rw [hno]; simp), List.map_append, List.drop_append_of_le_length hn']
            exact ⟨_, upd_same, (lw.allT (noTup_lst hlv) hlaa).snoc (lw.tP (noTup_lst hlv) r13)⟩
        · have hyes : hasK (runK (kindMaps m) (i + q) (allM m (i + q)) k) (thenM (entF (allM m i) (i + q)) g) = true := by
            rw [e6] at hlook
            simpa using hlook.symm
          refine ⟨⟨_, _, _, rfl⟩, l3.trans (l9.trans (l10.trans l11)).up, ?_, ?_⟩
          · rw [runK_keys_succ, eg, eF0, if_pos hyes]
            exact hb10.up l11
          · rw [runK_keys_succ, eg, eF0, if_pos hyes]
            exact hl10.up l11
      · subst e
        rw [hsl, ← kindMaps_len] at hb3 hl3
        refine ⟨⟨_, _, _, _, rfl⟩, l78.trans l3, hb3, hl3, fun j hj => ?_⟩
        rcases Nat.lt_succ_iff_lt_or_eq.mp (show j < (i + q) + 1 from hj) with h | rfl
        · exact hgq j h
        · exact hiq2
    · subst e
      have ei : i + cv.length = (allM m i).length := by omega
      rw [ei] at hbg hlg hgq
      have hlq : (allM m (allM m i).length).length ≤ 256 := Nat.le_trans (allM_most hm hgq) (pow_four h4)
      have hsG : LineT G s (kindMaps m) := hs7.to lg (NT hb7 hla7) (by simp [nbs.symm, nls.symm])
      refine ss_cons (s_set B (i := 6) (T := T) (R := eqP (.ref la)) (er_var (i := 8) rfl rfl stab_e) fun v8 H8 l8 e8 => ?_)
      subst e8
      have hb8 := hbg.up l8
      have hl8 := hlg.up l8
      refine ss_cons (s_if (q := decide ((2000 : Int) < ((toE (allM m (allM m i).length)).length : Nat))) (T := T) (et_cmpI op_gt (ed_lenT (n_len t) (er_var (i := 5) rfl rfl stab_e) hb8) (ed_var (i := 1) rfl (.int _))) (fun e H9 l9 => ?_) fun e H9 l9 => ss_nil ?_)
      · have := of_decide_eq_true e
        unfold toE at this
        rw [List.length_map] at this
        omega
      have hb9 := hb8.up l9
      have hl9 := hl8.up l9
      have lall : Le T [b] H' H9 := (((l6.trans l7).up.trans lg).trans (l8.trans l9).up).dropB fun z hz => by
        rcases List.mem_cons.mp hz with rfl | hz
        · exact .inl (by simp)
        · obtain rfl : z = la := by simpa using hz
          exact .inr fla
      refine ss_one (s_if (q := decide ((((allM m (allM m i).length).map (·.1)).drop (allM m i).length) = [])) (T := T) (Et.eq (et_eq (by exact hu) (ed_var (i := 6) rfl hl9.dp) (ed_lst (ds := []) ea_nil (by simp)) shaped_nss) eqv_ls_nil) (fun e H10 l10 => ?_) fun e H10 l10 => ss_nil ?_)
      · have e1 := of_decide_eq_true e
        have hst : Stop m (allM m i).length := ⟨hgq, by
          have := congrArg List.length e1
          rw [List.length_drop, List.length_map, List.length_nil] at this
          omega⟩
        have lH : Le T [] H H10 := (((l13.trans l4).up.trans (l5.trans lall)).trans l10.up).dropT fun z hz => by
          obtain rfl : z = b := by simpa using hz
          exact fbH
        exact ss_one (s_ret (T := T) (er_var (i := 5) (R := eqP (.ref b)) rfl rfl stab_e) fun u H11 l11 r11 => by
          subst r11
          exact hq _ hst _ H11 (lH.trans l11) ⟨b, rfl, fbH, (hb9.up l10).up l11⟩)
      · have e1 := of_decide_eq_false e
        have hlt : (allM m i).length < (allM m (allM m i).length).length := by
          rcases Nat.lt_or_ge (allM m i).length (allM m (allM m i).length).length with z | z
          · exact z
          · exact absurd (List.drop_eq_nil_of_le (by rw [List.length_map]; exact z)) e1
        exact ⟨⟨(allM m i).length, la, _, _, _, _, _, _, rfl, hb9.up l10, hl9.up l10, hgq, by omega, hlt⟩, l5.trans (lall.trans l10.up), hsG.up (l8.trans (l9.trans l10))⟩
  · have := Nat.le_trans (allM_most hm hg) (pow_four h4)
    omega
end
end RM
namespace RM
open PySem PySem.Spec L2 LamX
open PyProof.Rows hiding St
section
variable {X : Cx} {T : List (Addr × Str)} {a b c e : Expr} {σ : St} {H : Hp} {p pos q1 q2 q3 : Pos} {R R1 : VP}
/-- f(k1 = e1) -/
theorem we_kw1 {k : Nat} {f : Addr} {fd : FuncData} {ps : List Str} {sp : Sp} {x n1 : Str} {Q : VK} (F : FnOk X.prog X.w X.K X.mg X.base (L2.CX X.prog X.w) k f fd ps sp) (hr : Room k X.A) (hm : X.mg x = some (.ref f)) (hk : PySem.W.keepIn X.K (.ref f) = true)
    (hb : ∀ (s : Shared) (ws : List Value), ws.length = [n1].length → BindsTo s fd ⟨[], [n1].zip ws⟩ (ps.zip (permV [0] ws))) (h1 : WpE X a σ H fun v H1 => sp [v] H1 Q E0) (hg : Gl X x := by rfl) (hdb : (x == ("__debug__" : Str)) = false := by decide) :
    WpE X (.Call (.Name x p) [] [⟨some n1, a, q1⟩] pos) σ H Q := by
  refine we_kw (ks := [n1]) [0] F hr hm hk hb (pk_cons we_pe pk_nil) ?_ hg rfl rfl hdb rfl
  exact we_mono (fun v H1 h => ⟨rfl, h⟩) h1
end
section
variable {X : Cx} {a b c : Expr} {σ : St} {H : Hp} {p pos q1 q2 q3 : Pos} {m : List (List Nat)} {ws row : List Nat} {d : PyData} (W : Wd X.prog X.K X.mg X.base)
include W
theorem er_mof (hr : Room 7 X.A) (h1 : Er X (TT X.K) a σ H (wP X.K (KW X.K) m ws)) (h2 : Ed X (TT X.K) b σ H d) (hs : IsSeq d (natsD row)) (hm : VM m) (hk : ∀ x ∈ row, x < kindsM m) (hl : row.length ≤ 300) (hT : Tabs (TT X.K) H) (hg : Gl X "map_of" := by rfl)
    (he : starEach [a, b] X.env = (false, eval a X.env) :: starEach [b] X.env := by rfl) (he2 : starEach [b] X.env = (false, eval b X.env) :: starEach [] X.env := by rfl) (hpl : (backTo pos (starEach [b] X.env)).any (·.1) = false := by rfl) :
    Er X (TT X.K) (.Call (.Name "map_of" p) [a, b] [] pos) σ H (tP (mapBy m row)) :=
  er_call (ok_map_of W) hr (g_map_of W.tx) (k_map_of W.tx) (b_map_of W.tx) .nil (ea_cons h1 (ed_cons h2 ea_nil he2) stab_w he) (fun vs H1 l ra Q q => by
    obtain ⟨v1, v2, rfl, ⟨wa, rfl, r1⟩, r2⟩ := allP2 ra
    exact mof_ok r1 hm r2 hs hk hl (l.tab hT) q) hg (by decide) he hpl
/-- map_of(row = .., watch = ..) -/
theorem er_mofK (hr : Room 7 X.A) (h2 : Ed X (TT X.K) b σ H d) (h1 : Er X (TT X.K) a σ H (wP X.K (KW X.K) m ws)) (hs : IsSeq d (natsD row)) (hm : VM m) (hk : ∀ x ∈ row, x < kindsM m) (hl : row.length ≤ 300) (hT : Tabs (TT X.K) H) (hg : Gl X "map_of" := by rfl) :
    Er X (TT X.K) (.Call (.Name "map_of" p) [] [⟨some "row", b, q1⟩, ⟨some "watch", a, q2⟩] pos) σ H (tP (mapBy m row)) :=
  er_kw2 [1, 0] (ok_map_of W) hr (g_map_of W.tx) (k_map_of W.tx) (FunD.bindsKw (f_map_of W.tx) ["row", "watch"] [1, 0] fun _ _ _ _ _ _ ws hl => match ws, hl with | [_, _], _ => rfl) stab_d h2 h1 (fun v2 v1 H1 l r2 ⟨wa, e, r1⟩ Q q => by
    subst e
    exact mof_ok r1 hm r2 hs hk hl (l.tab hT) q) hg
/-- is_map(.., ..) of a map -/
theorem er_isMap {f : List Nat} {j : Nat} (hr : Room 7 X.A) (h1 : Er X (TT X.K) a σ H (wP X.K (KW X.K) m ws)) (h2 : Er X (TT X.K) b σ H (tP f)) (hm : VM m) (hf : Val m.length f) (hno : ∀ j, ¬ Over m 2000 j) (hj : Stop m j) (hg : Gl X "is_map" := by rfl)
    (he : starEach [a, b] X.env = (false, eval a X.env) :: starEach [b] X.env := by rfl) (he2 : starEach [b] X.env = (false, eval b X.env) :: starEach [] X.env := by rfl) (hpl : (backTo pos (starEach [b] X.env)).any (·.1) = false := by rfl) :
    Ed X (TT X.K) (.Call (.Name "is_map" p) [a, b] [] pos) σ H (.bool (hasK (allM m j) f)) :=
  er_call (ok_is_map (T := TT X.K) W.tx) hr (g_is_map W.tx) (k_is_map W.tx) (b_is_map W.tx) .nil (ea_cons h1 (ea_cons h2 ea_nil stab_tP he2) stab_w he) (fun vs H1 l ra Q q => by
    obtain ⟨v1, v2, rfl, ⟨wa, rfl, r1⟩, r2⟩ := allP2 ra
    exact ⟨wa, m, ws, v2, nsD f, rfl, r1, hm, tP_dp r2, .inl ⟨f, rfl, r2, hf, hno, fun j' hj' H' l' => by rw [hj'.uniq hj]; exact q _ H' l' (.bl _)⟩⟩) hg (by decide) he hpl
theorem er_isMapK {f : List Nat} {j : Nat} (hr : Room 7 X.A) (h2 : Er X (TT X.K) b σ H (tP f)) (h1 : Er X (TT X.K) a σ H (wP X.K (KW X.K) m ws)) (hm : VM m) (hf : Val m.length f) (hno : ∀ j, ¬ Over m 2000 j) (hj : Stop m j) (hg : Gl X "is_map" := by rfl) :
    Ed X (TT X.K) (.Call (.Name "is_map" p) [] [⟨some "thing", b, q1⟩, ⟨some "watch", a, q2⟩] pos) σ H (.bool (hasK (allM m j) f)) :=
  er_kw2 [1, 0] (ok_is_map (T := TT X.K) W.tx) hr (g_is_map W.tx) (k_is_map W.tx) (FunD.bindsKw (f_is_map W.tx) ["thing", "watch"] [1, 0] fun _ _ _ _ _ _ ws hl => match ws, hl with | [_, _], _ => rfl) stab_tP h2 h1 (fun v2 v1 H1 l r2 ⟨wa, e, r1⟩ Q q => by
    subst e
    exact ⟨wa, m, ws, v2, nsD f, rfl, r1, hm, tP_dp r2, .inl ⟨f, rfl, r2, hf, hno, fun j' hj' H' l' => by rw [hj'.uniq hj]; exact q _ H' l' (.bl _)⟩⟩) hg
/-- is_map(.., ..) of what is none -/
theorem er_isMapN (hr : Room 7 X.A) (h1 : Er X (TT X.K) a σ H (wP X.K (KW X.K) m ws)) (h2 : Ed X (TT X.K) b σ H d) (hm : VM m) (hd : isMapD m d = false) (hg : Gl X "is_map" := by rfl)
    (he : starEach [a, b] X.env = (false, eval a X.env) :: starEach [b] X.env := by rfl) (he2 : starEach [b] X.env = (false, eval b X.env) :: starEach [] X.env := by rfl) (hpl : (backTo pos (starEach [b] X.env)).any (·.1) = false := by rfl) :
    Ed X (TT X.K) (.Call (.Name "is_map" p) [a, b] [] pos) σ H (.bool false) :=
  er_call (ok_is_map (T := TT X.K) W.tx) hr (g_is_map W.tx) (k_is_map W.tx) (b_is_map W.tx) .nil (ea_cons h1 (ed_cons h2 ea_nil he2) stab_w he) (fun vs H1 l ra Q q => by
    obtain ⟨v1, v2, rfl, ⟨wa, rfl, r1⟩, r2⟩ := allP2 ra
    exact ⟨wa, m, ws, v2, d, rfl, r1, hm, r2, .inr ⟨hd, fun H' l' => q _ H' l' (.bl _)⟩⟩) hg (by decide) he hpl
/-- map_rows(..): a new dict -/
theorem er_rows {j : Nat} (hr : Room 7 X.A) (h1 : Er X (TT X.K) a σ H (wP X.K (KW X.K) m ws)) (hm : VM m) (hno : ∀ j, ¬ Over m 2000 j) (hj : Stop m j) (hg : Gl X "map_rows" := by rfl)
    (he : starEach [a] X.env = (false, eval a X.env) :: starEach [] X.env := by rfl) :
    Er X (TT X.K) (.Call (.Name "map_rows" p) [a] [] pos) σ H (FreshT X.K H (toE (allM m j))) := fun H0 l0 =>
  (er_call (R := FreshT X.K H0 (toE (allM m j))) (ok_map_rows (T := TT X.K) W.tx) hr (g_map_rows W.tx) (k_map_rows W.tx) (b_map_rows W.tx) .nil (ea_cons (h1.mono l0) ea_nil stab_w he) (fun vs H1 l ra Q q => by
    obtain ⟨v1, rfl, wa, rfl, r1⟩ := allP1 ra
    exact ⟨wa, m, ws, rfl, r1, hm, fun j' h1 h2 u H' l' ⟨b, e, f, d⟩ => q u H' l' ⟨b, e, l.fr f, by rw [hj.uniq h1]; exact d⟩, fun j' ho => absurd ho (hno j')⟩) hg (by decide) he rfl).imp (fun v H' _ ⟨b, e, f, d⟩ => ⟨b, e, l0.fr f, d⟩) H0 .refl
theorem er_rowsK {j : Nat} (hr : Room 7 X.A) (h1 : Er X (TT X.K) a σ H (wP X.K (KW X.K) m ws)) (hm : VM m) (hno : ∀ j, ¬ Over m 2000 j) (hj : Stop m j) (hg : Gl X "map_rows" := by rfl) :
    Er X (TT X.K) (.Call (.Name "map_rows" p) [] [⟨some "watch", a, q1⟩] pos) σ H (FreshT X.K H (toE (allM m j))) := fun H0 l0 Q q => by
  refine we_kw1 (ok_map_rows (T := TT X.K) W.tx) hr (g_map_rows W.tx) (k_map_rows W.tx) (FunD.bindsKw (f_map_rows W.tx) ["watch"] [0] fun _ _ _ _ _ _ ws hl => match ws, hl with | [_], _ => rfl) ?_ hg
  refine h1 H0 l0 _ fun v H1 l r1 => ?_
  obtain ⟨wa, rfl, r1⟩ := r1
  exact ⟨wa, m, ws, rfl, r1, hm, fun j' h1 h2 u H' l' ⟨b, e, f, d⟩ => q u H' (l.trans l') ⟨b, e, (l0.trans l).fr f, by rw [hj.uniq h1]; exact d⟩, fun j' ho => absurd ho (hno j')⟩
end
section
variable {X : Cx} {T : List (Addr × Str)} {a b : Expr} {σ : St} {H : Hp} {p pos : Pos}
theorem kit_self {K : PySem.W.Frag} {C : Addr} : PySem.W.kitOne K (.ref C) (.ref C) = some true := by unfold PySem.W.kitOne; rw [if_pos (by simp)]
theorem ed_isiZ {C : Addr} {f : Str} {x : PyData} (hm : X.mg "isinstance" = none) (ha : Er X T a σ H (excP C f x X.K)) (hk : ExcK X.K C) (hb : Er X T b σ H (eqP (.ref C))) (hg : Gl X "isinstance" := by rfl) (he : starEach [a, b] X.env = (false, eval a X.env) :: starEach [b] X.env := by rfl) (he2 : starEach [b] X.env = (false, eval b X.env) :: starEach [] X.env := by rfl) (hpl : (backTo pos (starEach [b] X.env)).any (·.1) = false := by rfl) : Ed X T (.Call (.Name "isinstance" p) [a, b] [] pos) σ H (.bool true) :=
  er_blt call_isiZ hm (ea_cons ha (ea_cons hb ea_nil stab_e he2) stab_ex he) (fun vs H1 l ra Q q => by
    obtain ⟨v, u, rfl, ⟨e, w, rfl, h1, h2⟩, rfl⟩ := allP2 ra
    exact ⟨.ref e, .ref C, .ref C, .ref C, true, rfl, .own C, .exc h1 hk, kit_self, q _ H1 .refl (.bl _)⟩) hg rfl (by decide) (by decide) he hpl
end
theorem wt_notisi {X : Cx} {T : List (Addr × Str)} {a : Expr} {σ : St} {H : Hp} {p p2 pos pos2 : Pos} {C : Addr} {x : Str} {Q : Bool → Hp → Prop} (hm : X.mg "isinstance" = none) (hk : ExcK X.K C) (hb : X.mg x = some (.ref C)) (h : WpE X a σ H fun v H1 => ∃ e fs, v = .ref e ∧ ExcAt H1 e C fs ∧ ∀ H2, Le T [] H1 H2 → Q false H2)
    (hg : Gl X "isinstance" := by rfl) (hgx : Gl X x := by rfl) (hdb : (x == ("__debug__" : Str)) = false := by decide) (he : starEach [a, .Name x p2] X.env = (false, eval a X.env) :: starEach [.Name x p2] X.env := by rfl)
    (hw : ∀ whole, isTrue (.Call (.Name "isinstance" p) [a, .Name x p2] [] pos) X.env whole = (do let v ← whole; standAt (Expr.Call (.Name "isinstance" p) [a, .Name x p2] [] pos).pos; holding [v] (truthy v)) := by intro _; rfl) : WpT X (.UnaryOp .Not (.Call (.Name "isinstance" p) [a, .Name x p2] [] pos) pos2) σ H Q := by
  refine pt_we (pt_not we_pt) (pt_we (pt_val we_pe hw) (pe_we (pe_callB call_isiZ hg hm rfl we_pa (by decide) (by decide) he rfl) (wa_cons (we_mono (fun v H1 hv => ?_) h) he)))
  obtain ⟨e, fs, rfl, h1, h2⟩ := hv
  refine wa_er (T := T) (R := eqP (.ref C)) (er_gref hb hgx hdb) fun u H2 l2 e2 => ?_
  subst e2
  exact wa_nil ⟨.ref e, .ref C, .ref C, .ref C, true, rfl, .own C, .exc (excAt_up l2 h1) hk, kit_self, true, rfl, h2 H2 l2⟩
theorem rowsD_ns {m : List (List Nat)} : RowsD (m.map nsD) m := ⟨List.length_map _, fun i d r h1 h2 => by
  rw [List.getElem?_map, h2] at h1
  cases h1
  exact .inl rfl⟩
theorem noLs_nats (l : List Nat) : noLs (natsD l) = true := by
  have := noL_ns (l := l)
  unfold nsD at this
  simp only [noL] at this
  exact this
theorem eqv_self {l : List Nat} : (!PyData.eqv (nsD l) (nsD l)) = false := by rw [eqv_ns]; simp
theorem toE_ok {es : List Ent} : ∀ e ∈ toE es, SeqAt.shaped e.2 = true ∧ PyData.eqv e.2 e.2 = true := fun e he => by
  unfold toE at he
  obtain ⟨x, _, rfl⟩ := List.mem_map.mp he
  exact ⟨shaped_ns, by have := eqv_self (l := x.2); simpa using this⟩
theorem toE_keys {es : List Ent} : (toE es).map (·.1) = es.map (·.1) := by
  unfold toE
  rw [List.map_map]
  rfl
/-- no more than 256 maps of four places -/
theorem few_maps {m : List (List Nat)} (hm : VM m) (h : m.length ≤ 4) (j : Nat) : ¬ Over m 2000 j := no_over hm (Nat.le_trans (pow_four h) (by decide)) j
def fallsM : List (List Nat) := [[0, 1], [0, 2], [2, 2]]
theorem vm_falls : VM fallsM := ⟨by decide, by decide, by decide, by decide, by decide⟩
theorem falls_all : allM fallsM 6 = [([0, 1, 2], []), ([0, 0, 2], [0]), ([1, 2, 2], [1]), ([1, 1, 2], [0, 1]), ([0, 2, 2], [1, 0]), ([2, 2, 2], [1, 1])] := by decide +kernel
theorem falls_stop : Stop fallsM 6 := ⟨fun j hj => by
  have : j = 0 ∨ j = 1 ∨ j = 2 ∨ j = 3 ∨ j = 4 ∨ j = 5 := by omega
  rcases this with rfl | rfl | rfl | rfl | rfl | rfl <;> decide +kernel, by decide +kernel⟩
def fallsE : List (List Nat × PyData) := [([0, 1, 2], nsD []), ([0, 0, 2], nsD [0]), ([1, 2, 2], nsD [1]), ([1, 1, 2], nsD [0, 1]), ([0, 2, 2], nsD [1, 0]), ([2, 2, 2], nsD [1, 1])]
theorem falls_E : toE (allM fallsM 6) = fallsE := by rw [falls_all]; rfl
theorem fallsE_ok : ∀ e ∈ fallsE, SeqAt.shaped e.2 = true ∧ PyData.eqv e.2 e.2 = true := fun e he => toE_ok (es := allM fallsM 6) e (by rw [falls_E]; exact he)
theorem fallsE_nd : (fallsE.map (·.1)).Nodup := by decide
theorem falls_map : mapBy fallsM [1] = [1, 2, 2] := by decide
def wideD : List PyData := [nsD [1, 1, 1], nsD [2, 0, 2], nsD [3, 2, 3], nsD [4, 3, 4], nsD [5, 4, 5], nsD [0, 5, 5]]
def wordD : List PyData := [.int 0, .int 1, .int 2, .int 3, .int 0, .int 1]
theorem wideD_rows : RowsD wideD wideM := rowsD_ns (m := wideM)
theorem wordD_ns : IsSeq (.list wordD) (natsD [0, 1, 2, 3, 0, 1]) := .inr rfl
end RM
namespace RM
open PySem PySem.Spec L2 LamX
open PyProof.Rows hiding St
section
variable {X : Cx} {T : List (Addr × Str)} {e a b c : Expr} {es : List Expr} {σ : St} {H H1 : Hp} {pos p p2 p' : Pos} {R R' : VP} {d d' : PyData} {ds : List PyData}
/-- e is not k -/
theorem et_isnotB {i j : Bool} (ha : Ed X T a σ H (.bool i)) (hb : Ed X T b σ H (.bool j)) (hm : behindInMarks .IsNot b = false := by exact nomark _) : Et X T (.Compare a [.IsNot] [b] pos) σ H (!decide (i = j)) :=
  et_cmp2 stab_d op_isnot_bl ha hb hm fun x y H1 _ rx ry Q q => by
    cases rx; cases ry
    exact ⟨i, j, rfl, rfl, q⟩
/-- [..] * k, apart from S -/
theorem er_repLA {S : List Addr} {k : Nat} (hS : Stood H S) (ha : Er X T a σ H (FreshL X.K H ds)) (hn : noLs ds = true) (hb : Ed X T b σ H (.int (k : Nat))) (hk : ds.length * k ≤ 100000) (hk2 : k < 2 ^ 60) (hn2 : noLs (List.replicate k ds).flatten = true) : Er X T (.BinOp a .Mult b pos) σ H (aP S X.K (.list (List.replicate k ds).flatten)) := fun H1 l Q q => by
  refine pe_we (pe_op op_rep we_pe we_pe) ?_
  refine ha H1 l _ fun x H2 l2 rx => hb H2 (l.trans l2) _ fun y H3 l3 ry => ?_
  cases ry
  obtain ⟨ad, xs, rfl, _, h1, h2⟩ := rx
  have h1' := l3.lst h1 (by simp)
  have h2' := l3.dpAll h2
  refine ⟨ad, k, xs, rfl, rfl, h1', by omega, by omega, by rw [Int.toNat_natCast, dpa_len h2, sizeLine_eq]; omega, fun p hp => q _ _ ((l2.trans l3).add hp) ?_⟩
  rw [Int.toNat_natCast]
  refine .lst (fun z => ?_) (SqL.of upd_same) (DpAA.of hn2 ((Le.new (T := T) hp).dpAll (dpa_rep h2' k)))
  obtain ⟨o, ho, nt⟩ := hS p z
  have := (l.trans (l2.trans l3)).at ho (by simp) nt
  rw [hp] at this
  cases this
end
theorem WatchAt.lk {T : List (Addr × Str)} {K : PySem.W.Frag} {H H' : Hp} {ad C w : Addr} {es : List (List Nat × PyData)} {m : List (List Nat)} {ws : List Nat} (e : Le T [ad] H H') (hd : DTat K H ad es) (h : WatchAt K H C w m ws) : WatchAt K H' C w m ws := by
  obtain ⟨dx, v1, v2, e1, e2, e3⟩ := h
  have ns := hd.noSeq
  have ne : w ≠ ad := fun z => by
    obtain ⟨vs, d1, _⟩ := hd
    rw [z, d1] at e1
    cases e1
  exact ⟨dx, v1, v2, e.at e1 (by simpa using ne) (fun _ z => nomatch z), e.dpS ns e2, e.dpS ns e3⟩
theorem rep_one {α : Type} (x : α) : ∀ k : Nat, (List.replicate k [x]).flatten = List.replicate k x
  | 0 => rfl
  | k + 1 => by rw [List.replicate_succ, List.flatten_cons, rep_one x k, List.replicate_succ]; rfl
theorem natsD_rep {n : Nat} : ∀ k : Nat, natsD (List.replicate k n) = List.replicate k (.int (n : Nat)) := fun k => by
  unfold natsD
  rw [List.map_replicate]
theorem natsD_rev {l : List Nat} : natsD l.reverse = (natsD l).reverse := by
  unfold natsD
  rw [List.map_reverse]
theorem val_rep {L n : Nat} (h : n < L) : Val L (List.replicate L n) := ⟨List.length_replicate, fun x hx => by rw [List.eq_of_mem_replicate hx]; exact h⟩
theorem val_rev {L : Nat} : Val L (List.range L).reverse := ⟨by rw [List.length_reverse, List.length_range], fun x hx => List.mem_range.mp (List.mem_reverse.mp hx)⟩
/-- what is none -/
theorem odd_list {m : List (List Nat)} {ds : List PyData} : isMapD m (.list ds) = false := by unfold isMapD isTupD; rw [Bool.false_and, Bool.false_and]
theorem odd_len {m : List (List Nat)} {ds : List PyData} (h : ds.length ≠ m.length) : isMapD m (.tuple ds) = false := by
  unfold isMapD
  have : decide (((seqOf (.tuple ds)).length : Int) = (m.length : Nat)) = false := decide_eq_false fun z => h (by have e : seqOf (.tuple ds) = ds := rfl; rw [e] at z; omega)
  rw [this, Bool.and_false, Bool.false_and]
theorem odd_rep {m : List (List Nat)} {d : PyData} (h : 1 ≤ m.length) (hb : isBet d 0 ((m.length : Int) - 1) = false) : isMapD m (.tuple (List.replicate m.length d)) = false := by
  unfold isMapD
  have : ((seqOf (.tuple (List.replicate m.length d))).all fun e => isBet e 0 ((m.length : Int) - 1)) = false := by
    have e : seqOf (.tuple (List.replicate m.length d)) = List.replicate m.length d := rfl
    rw [e, List.all_eq_false]
    exact ⟨d, List.mem_replicate.mpr ⟨by omega, rfl⟩, by rw [hb]; simp⟩
  rw [this, Bool.and_false]
theorem row_301 {k : Int} : rowErr k (.list (List.replicate 301 (.int 0))) = some .none := by
  unfold rowErr
  have : isShort (.list (List.replicate 301 (.int 0))) = false := by
    unfold isShort
    have e : seqOf (.list (List.replicate 301 (PyData.int 0))) = List.replicate 301 (.int 0) := rfl
    rw [e, List.length_replicate]
    rfl
  rw [if_neg (by rw [this]; simp)]
theorem noLs_rep {d : PyData} (h : noL d = true) : ∀ k : Nat, noLs (List.replicate k d) = true
  | 0 => rfl
  | k + 1 => by rw [List.replicate_succ]; simp only [noLs, h, noLs_rep h k, Bool.and_self]
theorem er_repLA1 {X : Cx} {T : List (Addr × Str)} {a b : Expr} {σ : St} {H : Hp} {pos : Pos} {d : PyData} {S : List Addr} {k : Nat} (hS : Stood H S) (ha : Er X T a σ H (FreshL X.K H [d])) (hn : noL d = true) (hb : Ed X T b σ H (.int (k : Nat))) (hk : k ≤ 100000) : Er X T (.BinOp a .Mult b pos) σ H (aP S X.K (.list (List.replicate k d))) := by
  have := er_repLA (S := S) (pos := pos) hS ha (noLs_rep hn 1) hb (by simp; omega) (by omega) (by rw [rep_one]; exact noLs_rep hn k)
  rw [rep_one] at this
  exact this
end RM
namespace RM
open PySem PySem.Spec L2 LamX
open PyProof.Rows hiding St
/-- the list of rows of the wide watch, whatever the places in the text -/
theorem ed_t3 {X : Cx} {T : List (Addr × Str)} {σ : St} {H : Hp} {i j k : Nat} {c1 c2 c3 x1 : Nat} {p1 p2 p3 pos : Pos} : Ed X T (.Tuple [.Constant (.int (i : Nat)) c1 p1, .Constant (.int (j : Nat)) c2 p2, .Constant (.int (k : Nat)) c3 p3] x1 pos) σ H (nsD [i, j, k]) :=
  ed_tup (ds := [_, _, _]) (ed_cons ed_int (ed_cons ed_int (ed_cons ed_int ea_nil))) (by simp)
theorem ed_l6 {X : Cx} {T : List (Addr × Str)} {σ : St} {H : Hp} {e1 e2 e3 e4 e5 e6 : Expr} {d1 d2 d3 d4 d5 d6 : PyData} {pos : Pos} (h1 : Ed X T e1 σ H d1) (h2 : Ed X T e2 σ H d2) (h3 : Ed X T e3 σ H d3) (h4 : Ed X T e4 σ H d4) (h5 : Ed X T e5 σ H d5) (h6 : Ed X T e6 σ H d6)
    (s : ∀ e ∈ [e1, e2, e3, e4, e5, e6], ∀ es, starEach (e :: es) X.env = (false, eval e X.env) :: starEach es X.env) : Ed X T (.List [e1, e2, e3, e4, e5, e6] pos) σ H (.list [d1, d2, d3, d4, d5, d6]) :=
  ed_lst (ds := [d1, d2, d3, d4, d5, d6]) (ed_cons h1 (ed_cons h2 (ed_cons h3 (ed_cons h4 (ed_cons h5 (ed_cons h6 ea_nil (s _ (by simp) _)) (s _ (by simp) _)) (s _ (by simp) _)) (s _ (by simp) _)) (s _ (by simp) _)) (s _ (by simp) _)) (by simp)
theorem ed_wideL {X : Cx} {T : List (Addr × Str)} {σ : St} {H : Hp} {k00 k01 k02 x0 k10 k11 k12 x1 k20 k21 k22 x2 k30 k31 k32 x3 k40 k41 k42 x4 k50 k51 k52 x5 : Nat} {p00 p01 p02 q0 p10 p11 p12 q1 p20 p21 p22 q2 p30 p31 p32 q3 p40 p41 p42 q4 p50 p51 p52 q5 pos : Pos} : Ed X T (.List [.Tuple [.Constant (.int 1) k00 p00, .Constant (.int 1) k01 p01, .Constant (.int 1) k02 p02] x0 q0, .Tuple [.Constant (.int 2) k10 p10, .Constant (.int 0) k11 p11, .Constant (.int 2) k12 p12] x1 q1, .Tuple [.Constant (.int 3) k20 p20, .Constant (.int 2) k21 p21, .Constant (.int 3) k22 p22] x2 q2, .Tuple [.Constant (.int 4) k30 p30, .Constant (.int 3) k31 p31, .Constant (.int 4) k32 p32] x3 q3, .Tuple [.Constant (.int 5) k40 p40, .Constant (.int 4) k41 p41, .Constant (.int 5) k42 p42] x4 q4, .Tuple [.Constant (.int 0) k50 p50, .Constant (.int 5) k51 p51, .Constant (.int 5) k52 p52] x5 q5] pos) σ H (.list wideD) := by
  unfold wideD
  refine ed_l6 ?_ ?_ ?_ ?_ ?_ ?_ ?_
  · exact ed_t3 (i := 1) (j := 1) (k := 1)
  · exact ed_t3 (i := 2) (j := 0) (k := 2)
  · exact ed_t3 (i := 3) (j := 2) (k := 3)
  · exact ed_t3 (i := 4) (j := 3) (k := 4)
  · exact ed_t3 (i := 5) (j := 4) (k := 5)
  · exact ed_t3 (i := 0) (j := 5) (k := 5)
  · intro e he es
    simp only [List.mem_cons, List.not_mem_nil, or_false] at he
    rcases he with rfl | rfl | rfl | rfl | rfl | rfl <;> rfl
theorem ed_wordL {X : Cx} {T : List (Addr × Str)} {σ : St} {H : Hp} {kw0 kw1 kw2 kw3 kw4 kw5 : Nat} {pw0 pw1 pw2 pw3 pw4 pw5 pos : Pos} : Ed X T (.List [.Constant (.int 0) kw0 pw0, .Constant (.int 1) kw1 pw1, .Constant (.int 2) kw2 pw2, .Constant (.int 3) kw3 pw3, .Constant (.int 0) kw4 pw4, .Constant (.int 1) kw5 pw5] pos) σ H (.list wordD) := by
  unfold wordD
  refine ed_l6 ed_int ed_int ed_int ed_int ed_int ed_int ?_
  intro e he es
  simp only [List.mem_cons, List.not_mem_nil, or_false] at he
  rcases he with rfl | rfl | rfl | rfl | rfl | rfl <;> rfl
theorem er_fallsD {X : Cx} {T : List (Addr × Str)} {σ : St} {H : Hp} (hu : X.A.units + 1 < cLine) {ka00 ka01 ka02 xa0 xb0 ka10 ka11 ka12 xa1 kb10 xb1 ka20 ka21 ka22 xa2 kb20 xb2 ka30 ka31 ka32 xa3 kb30 kb31 xb3 ka40 ka41 ka42 xa4 kb40 kb41 xb4 ka50 ka51 ka52 xa5 kb50 kb51 xb5 : Nat} {pa00 pa01 pa02 qa0 qb0 pa10 pa11 pa12 qa1 pb10 qb1 pa20 pa21 pa22 qa2 pb20 qb2 pa30 pa31 pa32 qa3 pb30 pb31 qb3 pa40 pa41 pa42 qa4 pb40 pb41 qb4 pa50 pa51 pa52 qa5 pb50 pb51 qb5 pos : Pos} : Er X T (.Dict [some (.Tuple [.Constant (.int 0) ka00 pa00, .Constant (.int 1) ka01 pa01, .Constant (.int 2) ka02 pa02] xa0 qa0), some (.Tuple [.Constant (.int 0) ka10 pa10, .Constant (.int 0) ka11 pa11, .Constant (.int 2) ka12 pa12] xa1 qa1), some (.Tuple [.Constant (.int 1) ka20 pa20, .Constant (.int 2) ka21 pa21, .Constant (.int 2) ka22 pa22] xa2 qa2), some (.Tuple [.Constant (.int 1) ka30 pa30, .Constant (.int 1) ka31 pa31, .Constant (.int 2) ka32 pa32] xa3 qa3), some (.Tuple [.Constant (.int 0) ka40 pa40, .Constant (.int 2) ka41 pa41, .Constant (.int 2) ka42 pa42] xa4 qa4), some (.Tuple [.Constant (.int 2) ka50 pa50, .Constant (.int 2) ka51 pa51, .Constant (.int 2) ka52 pa52] xa5 qa5)] [.Tuple [] xb0 qb0, .Tuple [.Constant (.int 0) kb10 pb10] xb1 qb1, .Tuple [.Constant (.int 1) kb20 pb20] xb2 qb2, .Tuple [.Constant (.int 0) kb30 pb30, .Constant (.int 1) kb31 pb31] xb3 qb3, .Tuple [.Constant (.int 1) kb40 pb40, .Constant (.int 0) kb41 pb41] xb4 qb4, .Tuple [.Constant (.int 1) kb50 pb50, .Constant (.int 1) kb51 pb51] xb5 qb5] pos) σ H (FreshT X.K H fallsE) := by
  refine @er_dispTL _ _ _ _ _ _ _ fallsE hu ?_ fallsE_nd (by decide) (by decide)
  unfold fallsE
  refine @DispOk.cons _ _ _ _ _ _ _ _ _ _ _ (er_tupT (l := [0, 1, 2]) (ed_cons ed_int (ed_cons ed_int (ed_cons ed_int ea_nil))) (by simp)) (ed_tup (ds := natsD []) ea_nil (by decide)) ?_
  refine @DispOk.cons _ _ _ _ _ _ _ _ _ _ _ (er_tupT (l := [0, 0, 2]) (ed_cons ed_int (ed_cons ed_int (ed_cons ed_int ea_nil))) (by simp)) (ed_tup (ds := natsD [0]) (ed_cons ed_int ea_nil) (by decide)) ?_
  refine @DispOk.cons _ _ _ _ _ _ _ _ _ _ _ (er_tupT (l := [1, 2, 2]) (ed_cons ed_int (ed_cons ed_int (ed_cons ed_int ea_nil))) (by simp)) (ed_tup (ds := natsD [1]) (ed_cons ed_int ea_nil) (by decide)) ?_
  refine @DispOk.cons _ _ _ _ _ _ _ _ _ _ _ (er_tupT (l := [1, 1, 2]) (ed_cons ed_int (ed_cons ed_int (ed_cons ed_int ea_nil))) (by simp)) (ed_tup (ds := natsD [0, 1]) (ed_cons ed_int (ed_cons ed_int ea_nil)) (by decide)) ?_
  refine @DispOk.cons _ _ _ _ _ _ _ _ _ _ _ (er_tupT (l := [0, 2, 2]) (ed_cons ed_int (ed_cons ed_int (ed_cons ed_int ea_nil))) (by simp)) (ed_tup (ds := natsD [1, 0]) (ed_cons ed_int (ed_cons ed_int ea_nil)) (by decide)) ?_
  refine @DispOk.cons _ _ _ _ _ _ _ _ _ _ _ (er_tupT (l := [2, 2, 2]) (ed_cons ed_int (ed_cons ed_int (ed_cons ed_int ea_nil))) (by simp)) (ed_tup (ds := natsD [1, 1]) (ed_cons ed_int (ed_cons ed_int ea_nil)) (by decide)) ?_
  exact DispOk.nil
theorem ret_and {X : Cx} {T : List (Addr × Str)} {σ : St} {H : Hp} {D : Ends} {c1 c2 : Expr} {p p' : Pos} (h1 : Ed X T c1 σ H (.bool true)) (h2 : Ed X T c2 σ H (.bool true)) (hq : ∀ H1, Le T [] H H1 → D.rt (.bl true) H1) : WpSs X [.Return (some (.BoolOp .And [c1, c2] p)) p'] D σ H :=
  ss_one (s_ret (T := T) (R := dP X.K (.bool true)) (Er.eq (ed_and (k := true) (j := true) h1 fun _ => ed_one h2) rfl) fun u H1 l r => by cases r; exact hq H1 l)
end RM
namespace RM
open PySem PySem.Spec L2 LamX
open PyProof.Rows hiding St
def spLaw (K : PySem.W.Frag) : Sp := fun vs H Q _ => ∃ (a : Addr) (ns : List Int), vs = [.ref a] ∧ SqL K H a (ns.map V.int) ∧ ns.length ≤ 63 ∧ Tabs (TT K) H ∧ ∀ H', Q (.bl true) H'
section
variable {P : Program} {w : World} {K : PySem.W.Frag} {mg : Str → Option Value} {base : Heap} (W : Wd P K mg base)
include W
theorem ok_law : FnOkG P w K mg base (L2.CX P w) 10 (d_law.at_ K) (fdOf K (d_law.at_ K)) ["script"] (spLaw K) := by
  have t := W.tx
  refine ok_defG (co_law t) (f_law t) sc_law (fun vs H Q E ⟨a, ns, e, _⟩ => by rw [e]; rfl) fun A outer s H vs Q E hgd B ⟨a, ns, e, hS, hn, hT, hq⟩ => ?_
  subst e
  have hu : A.units + 3 + 80 < cLine := by
    have h := B.room.un
    have h2 : A.units + 3 + 16 * 9 + 200 < cLine := h
    omega
  have hu64 : A.units + 3 + 64 < cLine := by omega
  have hu1 : A.units + 3 + 1 < cLine := by omega
  refine ss_cons (s_set0 B (i := 12) (we_callQ (T := TT K) (ok__law_begun (T := TT K) t) (by exact B.room.mono (by decide)) (g__law_begun t) (k__law_begun t) (b__law_begun t) (ea_cons (R := eqP (.ref a)) (er_var (i := 0) rfl rfl stab_e) ea_nil stab_e) fun vs H1 l1 ra => ?_))
  obtain ⟨u, rfl, rfl⟩ := allP1 ra
  refine ⟨_, ns, rfl, l1.sqL hS (by simp), by omega, fun tp l H2 l2 ht => ?_⟩
  have l12 := l1.trans l2
  have hT2 : Tabs (TT K) H2 := l12.tab hT
  have hd2 : Dp K H2 (.ref a) (.list (ns.map PyData.int)) := .lst (l12.sqL hS (by simp)) (dpa_ints ns)
  refine ss_cons (s_forR B (j := 1) (T := TT K) (n := 3 + min ns.length 7) (Er.eq (ed_bin0 op_add ed_int (ed_min B.calm (n_min t) (ed_len (n_len t) (ed_var (i := 0) rfl hd2) (.inr rfl)) ed_int)) ?_) (by omega) (n_range t) fun H3 l3 => ?_)
  · rw [List.length_map]
    congr 1
    split <;> omega
  have ht3 := ht.up l3
  have hT3 := l3.tab hT2
  refine ⟨fun i σ' H' => (∃ x1 x2 x3 x4 x5 x6 x7 x8 x9 x10 x11 x13 x14, σ' = [some (.ref a), x1, x2, x3, x4, x5, x6, x7, x8, x9, x10, x11, some (.ref tp), x13, x14]) ∧ TF (TT K) tp l H3 H', ⟨⟨_, _, _, _, _, _, _, _, _, _, _, _, _, rfl⟩, .refl ht3⟩, fun i_ σ' H' hi ⟨⟨x1, x2, x3, x4, x5, x6, x7, x8, x9, x10, x11, x13, x14, e⟩, tf⟩ => ?_, fun σ' H' ⟨⟨x1, x2, x3, x4, x5, x6, x7, x8, x9, x10, x11, x13, x14, e⟩, tf⟩ => ?_⟩
  · subst e
    -- the watch
    refine ss_cons (s_set0 B (i := 2) (we_callR (ok__law_watch (T := TT K) t) (by exact B.room.mono (by decide)) (g__law_watch t) (k__law_watch t) (b__law_watch t) (wa_er (T := TT K) (R := eqP (.ref tp)) (er_var (i := 12) rfl rfl stab_e) fun v1 H4 l4 e4 => wa_er (T := TT K) ed_int fun v2 H5 l5 r5 => wa_cons (pe_we (pe_op op_add we_pe we_pe) (pe_we pe_int ?_)))))
    subst e4
    cases r5
    refine we_callQ (T := TT K) (ok__law_draw (T := TT K) t) (by exact B.room.mono (by decide)) (g__law_draw t) (k__law_draw t) (b__law_draw t) (ea_cons (R := eqP (.ref tp)) (er_var (i := 12) rfl rfl stab_e) (ed_cons ed_int ea_nil) stab_e) fun vs H6 l6 ra => ?_
    obtain ⟨u1, u2, rfl, rfl, r2⟩ := allP2 ra
    cases r2
    have tf6 := tf.up (l4.trans (l5.trans l6))
    refine ⟨_, l, 3, rfl, tf6.tape, by decide, by decide, fun n7 H7 hn7 tf7 => ⟨1, (n7 : Nat), rfl, rfl, ?_⟩⟩
    have tf7 := tf6.trans tf7
    have e7 : (1 : Int) + (n7 : Int) = ((n7 + 1 : Nat) : Int) := by omega
    refine wa_er (T := TT K) ed_int fun v8 H8 l8 r8 => wa_nil ?_
    cases r8
    refine ⟨_, l, 4, n7 + 1, 3, by show [V.ref tp, V.int 4, V.int (1 + (n7 : Int)), V.int 3] = _; rw [e7]; rfl, tf7.tape.up l8, by decide, by decide, by omega, by decide, by decide, fun wv m ws H9 hm1 hm2 hws hrows hwd tf9 rw9 => ?_⟩
    have tf9 := (tf7.up l8).trans tf9
    have hm0 : m.getD 0 [] ∈ m := by
      rw [List.getD_eq_getElem?_getD, List.getElem?_eq_getElem (by omega)]
      exact List.getElem_mem _
    have hk0 : kindsM m = n7 + 1 := (hrows _ hm0).1
    have hm : VM m := ⟨hm1, by omega, fun r hr => by rw [(hrows r hr).1]; exact hk0.symm, by have : (m.getD 0 []).length = n7 + 1 := hk0; omega, fun r hr => (hrows r hr).2⟩
    have nm := noL_moves (m := m)
    have nws := noL_ns (l := ws)
    have nw : noL (watchD m ws) = true := noL_watchD
    -- the Watch, two rows
    refine ss_cons (s_asgT B (n := 3) (pgs_cons (pg_name (i := 11) B.nd rfl (.inr rfl) (.inl rfl)) (pgs_cons (pg_name (i := 3) B.nd rfl (.inl rfl) (.inl rfl)) (pgs_cons (pg_name (i := 4) B.nd rfl (.inl rfl) (.inl rfl)) pgs_nil))) (wa_cons (we_callQ (T := TT K) (ok__law_made W) (by exact B.room) (g__law_made t) (k__law_made t) (b__law_made t) (ed_cons (ed_var (i := 2) rfl rw9) ea_nil) fun vs H10 l10 ra => ?_)))
    obtain ⟨v10, rfl, r10⟩ := allP1 ra
    have tf10 := tf9.up l10
    refine ⟨v10, m, ws, rfl, r10, hm, hws, fun x hx => by have := hwd x hx; omega, (tf10.tabs hT3), fun wa H11 l11 hwa => ?_⟩
    have tf11 := tf10.up l11
    refine wa_cons (we_callQ (T := TT K) (ok__law_row (T := TT K) t) (by exact B.room.mono (by decide)) (g__law_row t) (k__law_row t) (b__law_row t) (ea_cons (R := eqP (.ref tp)) (er_var (i := 12) rfl rfl stab_e) (ed_cons (ed_var (i := 2) rfl ((l10.trans l11).dp rw9)) (ed_cons ed_int ea_nil)) stab_e) fun vs H12 l12 ra => ?_)
    obtain ⟨u1, u2, u3, rfl, rfl, r2, r3⟩ := allP3 ra
    cases r3
    have tf12 := tf11.up l12
    refine ⟨_, l, u2, m, ws, 9, rfl, tf12.tape, r2, VMne hm, by omega, by omega, by decide, fun vr row H13 hrl hrow tf13 rr13 => ?_⟩
    have hwa13 := tf13.watch nm nws (hwa.up l12)
    have rw13 := tf13.dp nw ((l10.trans (l11.trans l12)).dp rw9)
    have tf13' := tf12.trans tf13
    refine wa_cons (we_callQ (T := TT K) (ok__law_row (T := TT K) t) (by exact B.room.mono (by decide)) (g__law_row t) (k__law_row t) (b__law_row t) (ea_cons (R := eqP (.ref tp)) (er_var (i := 12) rfl rfl stab_e) (ed_cons (ed_var (i := 2) rfl rw13) (ed_cons ed_int ea_nil)) stab_e) fun vs H14 l14 ra => ?_)
    obtain ⟨u1', u2', u3', rfl, rfl, r2', r3'⟩ := allP3 ra
    cases r3'
    have tf14 := tf13'.up l14
    refine ⟨_, l, u2', m, ws, 6, rfl, tf14.tape, r2', VMne hm, by omega, by omega, by decide, fun vo row2 H15 hrl2 hrow2 tf15 rr15 => wa_nil ⟨rfl, by decide, fun p15 hp15 => ?_⟩⟩
    have ln : Le (TT K) [] H15 (upd H15 p15 (.tup [.ref wa, vr, vo])) := .new hp15
    have hwa16 := (tf15.watch nm nws (hwa13.up l14)).up ln
    have rw16 := ln.dp (tf15.dp nw (l14.dp rw13))
    have rr16 := ln.dp (tf15.dp noL_ns (l14.dp rr13))
    have ro16 := ln.dp rr15
    have tf16 := (tf14.trans tf15).up ln
    refine ⟨_, _, rfl, _, _, rfl, _, _, rfl, rfl, ?_⟩
    change WpSs _ _ _ _ (upd H15 p15 (.tup [.ref wa, vr, vo]))
    clear r2 r2' rw13 rr13 rr15 hwa13 hwa rw9 r10
    generalize upd H15 p15 (.tup [.ref wa, vr, vo]) = H16 at ln tf16 hwa16 rw16 rr16 ro16 ⊢
    have hT16 := tf16.tabs hT3
    have hno := few_maps hm hm2
    obtain ⟨jj, hj⟩ := stop_ex hm
    have hlr : row.length ≤ 300 := by omega
    have hlo : row2.length ≤ 300 := by omega
    have keep : ∀ {G : Hp}, Le (TT K) [] H16 G → WatchAt K G (KW K) wa m ws ∧ Dp K G wv (watchD m ws) ∧ Dp K G vr (nsD row) ∧ Dp K G vo (nsD row2) ∧ Tabs (TT K) G := fun g => ⟨hwa16.up g, g.dp rw16, g.dp rr16, g.dp ro16, g.tab hT16⟩
    -- due and told
    refine ss_cons (s_set B (i := 5) (T := TT K) (R := FreshT K H16 (toE (allM m jj))) (er_call (ok__law_maps (T := TT K) t) (by exact B.room.mono (by decide)) (g__law_maps t) (k__law_maps t) (b__law_maps t) .nil (ed_cons (ed_var (i := 2) rfl rw16) (ed_cons ed_int ea_nil)) fun vs G1 g1 ra Q' q' => ?_) fun v17 H17 g17 r17 => ?_)
    · obtain ⟨u1, u2, rfl, r1, r2⟩ := allP2 ra
      cases r2
      exact ⟨u1, m, ws, rfl, r1, hm, hm2, fun j h1 u H' l' ⟨b, e, f, d⟩ => q' u H' l' ⟨b, e, g1.fr f, by rw [hj.uniq h1]; exact d⟩⟩
    obtain ⟨b1, rfl, fb1, hb1⟩ := r17
    obtain ⟨f1, f2, f3, f4, f5⟩ := keep g17
    refine ss_cons (s_set B (i := 6) (T := TT K) (er_rows W (by exact B.room.mono (by decide)) (er_var (i := 11) rfl ⟨wa, rfl, f1⟩ stab_w) hm hno hj) fun v18 H18 g18 r18 => ?_)
    obtain ⟨b2, rfl, fb2, hb2⟩ := r18
    have hb1' := hb1.up g18
    have g16 := g17.trans g18
    have nb12 : b1 ≠ b2 := fun z => by
      obtain ⟨vs, h1, _⟩ := hb1
      rw [← z, h1] at fb2
      rcases fb2 with f | ⟨ps, f⟩ <;> cases f
    have fb2' := g17.fr fb2
    obtain ⟨f1, f2, f3, f4, f5⟩ := keep g16
    have fmd : ∀ {G0 : Hp} {ls : List (List Nat)} {v : V} {G : Hp}, FreshM G0 ls v G → Dp K G v (.list (ls.map nsD)) := fun ⟨a, e, _, h⟩ => by rw [e]; exact h.dp
    have ftd : ∀ {G0 : Hp} {es : List (List Nat × PyData)} {v : V} {G : Hp}, FreshT K G0 es v G → dtP K es v G := fun ⟨a, e, _, h⟩ => ⟨a, e, h.r⟩
    refine ss_cons (s_ifF (T := TT K) (et_w (ew_orF (et_neT (es := toE (allM m jj)) (by exact hu) (er_var (i := 6) rfl ⟨b2, rfl, hb2.r⟩ stab_dtP) (er_var (i := 5) rfl ⟨b1, rfl, hb1'.r⟩ stab_dtP) toE_ok) (ew_orF (Et.eq (et_ne (d := .list (((toE (allM m jj)).map (·.1)).map nsD)) (d' := .list (((toE (allM m jj)).map (·.1)).map nsD)) (by exact hu64) ((er_listT rfl B.calm (n_list t) (er_var (i := 6) (R := eqP (.ref b2)) rfl rfl stab_e) hb2.r).imp fun v H' _ r => fmd r) ((er_listT rfl B.calm (n_list t) (er_var (i := 5) (R := eqP (.ref b1)) rfl rfl stab_e) hb1'.r).imp fun v H' _ r => fmd r) shaped_nss shaped_nss) (by rw [eqv_nss]; rfl)) (ew_or1 (et_neT (es := toE (allM m jj)) (by exact hu) ((er_rowsK W (by exact B.room.mono (by decide)) (er_var (i := 11) rfl ⟨wa, rfl, f1⟩ stab_w) hm hno hj).imp fun v H' _ r => ftd r) (er_var (i := 5) rfl ⟨b1, rfl, hb1'.r⟩ stab_dtP) toE_ok))))) fun H19 g19 => ss_nil ?_)
    have hb1a := hb1'.up g19
    have hb2a := hb2.up g19
    have g16a := g16.trans g19
    clear f1 f2 f3 f4 f5
    obtain ⟨f1, f2, f3, f4, f5⟩ := keep g16a
    -- the map of a row
    have ecat : natsD row ++ natsD row2 = natsD (row ++ row2) := by unfold natsD; rw [List.map_append]
    have hcat : ∀ x ∈ row ++ row2, x < kindsM m := fun x hx => (List.mem_append.mp hx).elim (hrow x) (hrow2 x)
    have hlcat : (row ++ row2).length ≤ 300 := by rw [List.length_append]; omega
    refine ss_cons (s_ifF (T := TT K) (et_w (ew_orF (Et.eq (et_ne (d := nsD (mapBy m row)) (d' := nsD (mapBy m row)) (by exact hu64) ((er_mof (row := row) W (by exact B.room.mono (by decide)) (er_var (i := 11) rfl ⟨wa, rfl, f1⟩ stab_w) (ed_list (n_list t) (ed_var (i := 3) rfl f3) (.inl rfl)) (.inr rfl) hm hrow hlr f5).imp fun v H' _ r => tP_dp r) ((er_call (R := tP (mapBy m row)) (ok__law_map (T := TT K) t) (by exact B.room.mono (by decide)) (g__law_map t) (k__law_map t) (b__law_map t) .nil (ed_cons (ed_var (i := 2) rfl f2) (ed_cons (ed_var (i := 3) rfl f3) ea_nil)) fun vs G1 g1 ra Q' q' => ?_).imp fun v H' _ r => tP_dp r) shaped_ns shaped_ns) eqv_self)
      (ew_or1 (Et.eq (et_ne (d := nsD (mapBy m (row ++ row2))) (d' := nsD (thenM (mapBy m row) (mapBy m row2))) (by exact hu64) ((er_mofK (row := row ++ row2) (d := .tuple (natsD row ++ natsD row2)) W (by exact B.room.mono (by decide)) (ed_catT (ed_var (i := 3) rfl f3) (ed_var (i := 4) rfl f4) (by simp only [natsD, List.length_map]; omega)) (er_var (i := 11) rfl ⟨wa, rfl, f1⟩ stab_w) (.inl (by rw [ecat])) hm hcat hlcat f5).imp fun v H' _ r => tP_dp r) ((er_call (R := tP (thenM (mapBy m row) (mapBy m row2))) (Rs := [dP K (nsD (mapBy m row)), dP K (nsD (mapBy m row2))]) (ok__law_then (T := TT K) t) (by exact B.room.mono (by decide)) (g__law_then t) (k__law_then t) (b__law_then t) .nil (ed_cons ((er_mof (row := row) W (by exact B.room.mono (by decide)) (er_var (i := 11) rfl ⟨wa, rfl, f1⟩ stab_w) (ed_var (i := 3) rfl f3) (.inl rfl) hm hrow hlr f5).imp fun v H' _ r => tP_dp r) (ed_cons ((er_mof (row := row2) W (by exact B.room.mono (by decide)) (er_var (i := 11) rfl ⟨wa, rfl, f1⟩ stab_w) (ed_var (i := 4) rfl f4) (.inl rfl) hm hrow2 hlo f5).imp fun v H' _ r => tP_dp r) ea_nil)) fun vs G1 g1 ra Q' q' => ?_).imp fun v H' _ r => tP_dp r) shaped_ns shaped_ns) (by rw [map_app hm hrow]; exact eqv_self))))) fun H20 g20 => ss_nil ?_)
    · obtain ⟨u1, u2, rfl, r1, r2⟩ := allP2 ra
      exact ⟨u1, u2, m, ws, row, rfl, r1, hm, r2, hrow, q'⟩
    · obtain ⟨u1, u2, rfl, r1, r2⟩ := allP2 ra
      exact ⟨u1, u2, _, _, m.length, rfl, r1, r2, hm.map hrow, hm.map hrow2, by omega, q'⟩
    have hb1b := hb1a.up g20
    have hb2b := hb2a.up g20
    have g16b := g16a.trans g20
    clear f1 f2 f3 f4 f5
    obtain ⟨f1, f2, f3, f4, f5⟩ := keep g16b
    -- every map has its row
    have good := allM_good hm jj hj.goes
    refine ss_cons (s_ifF (T := TT K) (et_w (ew_orF (Et.eq (et_notInT' (l := mapBy m row) (es := toE (allM m jj)) (by exact hu1) (er_mof (row := row) W (by exact B.room.mono (by decide)) (er_var (i := 11) rfl ⟨wa, rfl, f1⟩ stab_w) (ed_var (i := 3) rfl f3) (.inl rfl) hm hrow hlr f5) (er_var (i := 6) rfl ⟨b2, rfl, hb2b.r⟩ stab_dtP)) (by rw [look_isSome, hj.has hm hrow]; rfl))
      (ew_or1 (Et.eq (et_ne (d := .list []) (d' := .list []) (by exact hu64) ((er_lcKF (x := "found") (j := 14) (ad := b1) B.calm B.nd (fun H' => er_var (i := 5) rfl rfl stab_e) hb1b (by kernel_rfl) fun i k u G1 hk g1 hdr htk s0 H0 C cl fp => ?_).imp fun v H' _ r => freshL_d r) (ed_lst (ds := []) ea_nil (by simp))) (by decide +kernel))))) fun H21 g21 => ss_nil ?_)
    · have hk2 : (allM m jj)[i]? = some ((allM m jj).getD i ([], [])) := by
        have : i < (allM m jj).length := by
          have := (List.getElem?_eq_some_iff.mp hk).1
          unfold toE at this
          rwa [List.length_map] at this
        exact ent_at this
      have hi2 : i < (allM m jj).length := (List.getElem?_eq_some_iff.mp hk2).1
      have ek : k = (entF (allM m jj) i, nsD (entR (allM m jj) i)) := by
        unfold toE at hk
        rw [List.getElem?_map, ent_at hi2] at hk
        exact (Option.some.inj hk).symm
      subst ek
      obtain ⟨gk1, gk2⟩ := good_at good hi2
      have gk2 : entF (allM m jj) i = mapBy m (entR (allM m jj) i) := gk2
      have gk1 : ∀ x ∈ entR (allM m jj) i, x < kindsM m := gk1
      have hsome := look_some (runB_nodup (st := kindMaps m) (n := m.length) jj) hi2
      have hlen : (entR (allM m jj) i).length ≤ 300 := by
        have h1 := allM_short jj hj.goes _ (List.mem_of_getElem? (ent_at hi2))
        have h2 : (entR (allM m jj) i).length ≤ jj := h1
        have h3 := hj.len
        have h4 := Nat.le_trans (allM_most hm hj.goes) (pow_four hm2)
        omega
      refine Et.eq (et_ne (d := nsD (mapBy m (entR (allM m jj) i))) (d' := nsD (entF (allM m jj) i)) (by exact hu64) (Er.imp (R := tP (mapBy m (entR (allM m jj) i))) (er_call (R := tP (mapBy m (entR (allM m jj) i))) (ok_map_of W) (by exact B.room.mono (by decide)) (g_map_of t) (k_map_of t) (b_map_of t) .nil (ea_cons (er_var (i := 11) rfl ⟨wa, rfl, f1.lk g1 hb1b⟩ stab_w) (ed_cons (er_getT (by exact hu1) (er_var (i := 5) rfl rfl stab_e) (er_var (i := 14) rfl htk stab_tP) hdr hsome) ea_nil) stab_w) fun vs G2 g2 ra Q' q' => ?_) fun v H' _ r => tP_dp r) (ed_var (i := 14) rfl (tP_dp htk)) shaped_ns shaped_ns) (by rw [← gk2]; exact eqv_self)
      obtain ⟨u1, u2, rfl, ⟨wa', rfl, r1⟩, r2⟩ := allP2 ra
      exact mof_ok r1 hm r2 (.inl rfl) gk1 hlen (g2.tab (g1.tab f5)) q'
    have hb1c := hb1b.up g21
    have hb2c := hb2b.up g21
    have g16c := g16b.trans g21
    clear f1 f2 f3 f4 f5
    obtain ⟨f1, f2, f3, f4, f5⟩ := keep g16c
    -- maps and what is none
    have hL1 : 1 ≤ m.length := hm1
    have elen : ∀ {p p2 p3 pos pos2 : Pos} {jc : Nat} {σ : St} {G : Hp}, σ[2]? = some (some wv) → Dp K G wv (watchD m ws) → Ed (cxOf (L2.CX P w) P w K mg base ["script", "lap", "watch", "one", "other", "due", "told", "thing", "odd", "caught", "falls", "here", "tape", "wide", "found"] d_law.qual (defScope s_law) (d_law.at_ K) (.ref (He.cT K (("law" : Str), none)).1) A outer s H E) (TT K) (.Call (.Name "len" p) [.Subscript (.Name "watch" p2) (.Constant (.int 0) jc p3) pos2] [] pos) σ G (.int (m.length : Nat)) := fun hs hd => Er.eq (ed_len (n_len t) (ed_ix (d0 := watchD m ws) (ds := [movesD m, nsD ws]) (ed_var (i := 2) hs hd) (.inl rfl) ed_int rfl) (.inl rfl)) (by rw [List.length_map])
    have e31 : (List.replicate m.length [PyData.int 0]).flatten = natsD (List.replicate m.length 0) := by rw [rep_one, natsD_rep]; rfl
    have e33 : (List.replicate m.length [PyData.int ((m.length - 1 : Nat) : Int)]).flatten = natsD (List.replicate m.length (m.length - 1)) := by rw [rep_one, natsD_rep]
    have e34 : ((m.length : Nat) : Int) - 1 = ((m.length - 1 : Nat) : Int) := by omega
    have hst3 : ∀ R ∈ [mapBy m row, List.replicate m.length 0, (List.range m.length).reverse, List.replicate m.length (m.length - 1)].map tP, Stab (TT K) R := fun R hR => by
      obtain ⟨l, _, rfl⟩ := List.mem_map.mp hR
      exact stab_tP
    refine ss_cons (s_forV0 (j := 7) B ((er_lstP (T := TT K) (Rs := [mapBy m row, List.replicate m.length 0, (List.range m.length).reverse, List.replicate m.length (m.length - 1)].map tP) (ea_cons (er_mof (row := row) W (by exact B.room.mono (by decide)) (er_var (i := 11) rfl ⟨wa, rfl, f1⟩ stab_w) (ed_var (i := 3) rfl f3) (.inl rfl) hm hrow hlr f5) (ea_cons (er_tupN (l := List.replicate m.length 0) (n_tuple t) (Er.eq (ed_repL (ds := [.int 0]) (er_lstF (ds := [.int 0]) (ed_cons ed_int ea_nil) (by simp)) (elen rfl f2) (by simp; omega) (by omega)) (by rw [e31]))) (ea_cons (er_tupN (l := (List.range m.length).reverse) (n_tuple t) (Er.eq (ed_revL (ds := natD m.length) (ed_lstRg B.calm (n_list t) (n_range t) (elen rfl f2) (by omega))) (by show PyData.list (natsD (List.range m.length)).reverse = _; rw [← natsD_rev]))) (ea_cons (er_tupN (l := List.replicate m.length (m.length - 1)) (n_tuple t) (Er.eq (ed_repL (ds := [.int ((m.length - 1 : Nat) : Int)]) (er_lstF (ds := [.int ((m.length - 1 : Nat) : Int)]) (ed_cons (Er.eq (ed_bin0 op_sub (elen rfl f2) ed_int) (by rw [e34])) ea_nil) (by simp)) (elen rfl f2) (by simp; omega) (by omega)) (by rw [e33]))) ea_nil stab_tP) stab_tP) stab_tP) stab_tP) hst3 (by simp)).run fun v22 H22 g22 r22 => ?_))
    obtain ⟨a22, rfl, fr22, xs22, hx22, ha22⟩ := freshM_of r22
    have g16d := g16c.trans g22
    have hb2d := hb2c.up g22
    have hb1d := hb1c.up g22
    refine ⟨a22, xs22, rfl, .inl (SqL.of hx22), ?_⟩
    refine ⟨fun i σ' G => (∃ x7, σ' = [some (.ref a), some (.int (i_ : Nat)), some wv, some vr, some vo, some (.ref b1), some (.ref b2), x7, x8, x9, x10, some (.ref wa), some (.ref tp), x13, x14]) ∧ Le (TT K) [] H22 G, ⟨⟨_, rfl⟩, .refl⟩, fun i σ' G q => ⟨fun z => q.2.sqL z (by simp), fun z => q.2.sqT z (by simp)⟩, fun i u σ' G hux ⟨⟨y7, e⟩, k1⟩ => ?_, fun σ' G ⟨⟨y7, e⟩, k1⟩ => ?_⟩
    · subst e
      obtain ⟨fl, hfl, htu⟩ := (k1.allT noTup_nil ha22).get hux
      have hvl : Val m.length fl := by
        have hmem := List.mem_of_getElem? hfl
        simp only [List.mem_cons, List.not_mem_nil, or_false] at hmem
        rcases hmem with rfl | rfl | rfl | rfl
        · exact hm.map hrow
        · exact val_rep (by omega)
        · exact val_rev
        · exact val_rep (by omega)
      obtain ⟨f1, f2, f3, f4, f5⟩ := keep (g16d.trans k1)
      have hb1e := hb1d.up k1
      have hsh : ∀ bb : Bool, (PyData.list [.bool bb, .bool bb]).showable = true ∧ (PyData.list [.bool bb, .bool bb]).hasDict = false ∧ (PyData.list [.bool bb, .bool bb]).depth ≤ 3 ∧ (PyData.list [.bool bb, .bool bb]).shown.length ≤ sizeLine := fun bb => by
        rw [sizeLine_eq]
        cases bb <;> exact ⟨by decide +kernel, by decide +kernel, by decide +kernel, by decide +kernel⟩
      obtain ⟨s1, s2, s3, s4⟩ := hsh (hasK (allM m jj) fl)
      refine ss_one (s_ifF (T := TT K) (Et.eq (et_ne (d := .str (PyData.list [.bool (hasK (allM m jj) fl), .bool (hasK (allM m jj) fl)]).shown) (d' := .str (PyData.list [.bool (hasK (allM m jj) fl), .bool (hasK (allM m jj) fl)]).shown) (by exact hu64) (ed_repr (by exact hgd) (n_repr t) (ed_lst (ds := [.bool (hasK (allM m jj) fl), .bool (hasK (allM m jj) fl)]) (ed_cons (er_isMap W (by exact B.room.mono (by decide)) (er_var (i := 11) rfl ⟨wa, rfl, f1⟩ stab_w) (er_var (i := 7) rfl htu stab_tP) hm hvl hno hj) (ed_cons (er_isMapK W (by exact B.room.mono (by decide)) (er_var (i := 7) rfl htu stab_tP) (er_var (i := 11) rfl ⟨wa, rfl, f1⟩ stab_w) hm hvl hno hj) ea_nil)) (by simp)) s1 s2 (show A.units + 3 + _ < cLine by omega) s4) (ed_repr (by exact hgd) (n_repr t) (Er.eq (ed_repL (k := 2) (ds := [.bool (hasK (allM m jj) fl)]) (er_lstF (ds := [.bool (hasK (allM m jj) fl)]) (ed_cons (Er.eq (ed_inT' (es := toE (allM m jj)) (by exact hu1) (er_var (i := 7) rfl htu stab_tP) (er_var (i := 5) rfl ⟨b1, rfl, hb1e.r⟩ stab_dtP)) (by rw [look_isSome])) ea_nil) (by simp)) ed_int (by simp) (by decide)) rfl) s1 s2 (show A.units + 3 + _ < cLine by omega) s4) (by cases hasK (allM m jj) fl <;> decide +kernel) (by cases hasK (allM m jj) fl <;> decide +kernel)) (by simp [PyData.eqv])) fun G2 k2 => ss_nil ⟨⟨_, rfl⟩, k1.trans k2⟩)
    subst e
    have g16e := g16d.trans k1
    have hb1e := hb1d.up k1
    have hb2e := hb2d.up k1
    clear f1 f2 f3 f4 f5
    obtain ⟨f1, f2, f3, f4, f5⟩ := keep g16e
    -- what is none
    have hodd : ∀ d ∈ [PyData.none, .int 5, .list (natsD (mapBy m row)), .tuple [], .tuple (List.replicate 7 (.int 0)), .tuple (List.replicate m.length (.int (m.length : Nat))), .tuple (List.replicate m.length .none), .tuple (List.replicate m.length (.bool true)), .str "01"], isMapD m d = false := fun d hd => by
      simp only [List.mem_cons, List.not_mem_nil, or_false] at hd
      rcases hd with rfl | rfl | rfl | rfl | rfl | rfl | rfl | rfl | rfl
      · rfl
      · rfl
      · exact odd_list
      · exact odd_len (by simp; omega)
      · exact odd_len (by rw [List.length_replicate]; omega)
      · refine odd_rep hL1 ?_
        simp only [isBet, Bool.and_eq_false_iff, decide_eq_false_iff_not]
        omega
      · exact odd_rep hL1 rfl
      · exact odd_rep hL1 rfl
      · rfl
    refine ss_cons (s_forS B (j := 8) (T := TT K) (ed_lst (ds := [PyData.none, .int 5, .list (natsD (mapBy m row)), .tuple [], .tuple (List.replicate 7 (.int 0)), .tuple (List.replicate m.length (.int (m.length : Nat))), .tuple (List.replicate m.length .none), .tuple (List.replicate m.length (.bool true)), .str "01"]) (ed_cons ed_non (ed_cons ed_int (ed_cons (ed_list (d := nsD (mapBy m row)) (n_list t) ((er_mof (row := row) W (by exact B.room.mono (by decide)) (er_var (i := 11) rfl ⟨wa, rfl, f1⟩ stab_w) (ed_var (i := 3) rfl f3) (.inl rfl) hm hrow hlr f5).imp fun v H' _ r => tP_dp r) (.inl rfl)) (ed_cons (ed_tup (ds := []) ea_nil (by simp)) (ed_cons (Er.eq (ed_rep' (k := 7) (ds := [.int 0]) (ed_tup (ds := [.int 0]) (ed_cons ed_int ea_nil) (by simp)) ed_int ⟨by decide, by decide⟩ (by simp)) (by rw [rep_one])) (ed_cons (Er.eq (ed_rep' (ds := [.int (m.length : Nat)]) (ed_tup (ds := [.int (m.length : Nat)]) (ed_cons (elen rfl f2) ea_nil) (by simp)) (elen rfl f2) ⟨by omega, by omega⟩ (by simp)) (by rw [rep_one])) (ed_cons (Er.eq (ed_rep' (ds := [.none]) (ed_tup (ds := [.none]) (ed_cons ed_non ea_nil) (by simp)) (elen rfl f2) ⟨by omega, by omega⟩ (by simp)) (by rw [rep_one])) (ed_cons (Er.eq (ed_rep' (ds := [.bool true]) (ed_tup (ds := [.bool true]) (ed_cons ed_bl ea_nil) (by simp)) (elen rfl f2) ⟨by omega, by omega⟩ (by simp)) (by rw [rep_one])) (ed_cons ed_str ea_nil))))))))) (by simp)) (.inr rfl) fun v23 H23 g23 r23 => ?_)
    have g16f := g16e.trans g23
    have hb1f := hb1e.up g23
    have hb2f := hb2e.up g23
    refine ⟨fun i σ' G => (∃ x8, σ' = [some (.ref a), some (.int (i_ : Nat)), some wv, some vr, some vo, some (.ref b1), some (.ref b2), y7, x8, x9, x10, some (.ref wa), some (.ref tp), x13, x14]) ∧ Le (TT K) [] H23 G, ⟨⟨_, rfl⟩, .refl⟩, fun i σ' G q => q.2, fun i dd u σ' G hi2 ⟨⟨y8, e⟩, k1⟩ r8 => ?_, fun σ' G ⟨⟨y8, e⟩, k1⟩ => ?_⟩
    · subst e
      obtain ⟨f1, f2, f3, f4, f5⟩ := keep (g16f.trans k1)
      exact ss_one (s_ifF (T := TT K) (Et.eq (et_isnotB (er_isMapN W (by exact B.room.mono (by decide)) (er_var (i := 11) rfl ⟨wa, rfl, f1⟩ stab_w) (ed_var (i := 8) rfl r8) hm (hodd dd (List.mem_of_getElem? hi2))) ed_bl) rfl) fun G2 k2 => ss_nil ⟨⟨_, rfl⟩, k1.trans k2⟩)
    subst e
    have g16g := g16f.trans k1
    have hb1g := hb1f.up k1
    have hb2g := hb2f.up k1
    clear f1 f2 f3 f4 f5
    -- told is told's own
    have hnil : hasK (allM m jj) [] = false := by
      cases q : hasK (allM m jj) [] with
      | false => rfl
      | true =>
        obtain ⟨e, he, e1⟩ := hasK_iff.mp q
        have h1 := (allM_val hm hj.goes e he).len
        rw [e1] at h1
        simp at h1
        omega
    have hlenM := Nat.le_trans (allM_most hm hj.goes) (pow_four hm2)
    refine ss_cons (s_putT (T := TT K) (d := .none) (l := []) (by exact hu1) ed_non (er_var (i := 6) (R := eqP (.ref b2)) rfl rfl stab_e) er_tup0 hb2g (look_none hnil) (by unfold toE; rw [List.length_map]; omega) fun H24 l24 hd24 => ?_)
    have hb1h : DTat K H24 b1 (toE (allM m jj)) := hb1g.to l24 hb2g.noTup (by simpa using nb12) toE_noL
    have g16h : Le (TT K) [] H16 H24 := (g16g.up.trans l24).dropT fun z hz => by
      obtain rfl : z = b2 := by simpa using hz
      exact fb2'
    clear hd24 l24 hb2g
    obtain ⟨f1, f2, f3, f4, f5⟩ := keep g16h
    refine ss_cons (s_ifF (T := TT K) (et_neT (es := toE (allM m jj)) (by exact hu) ((er_rows W (by exact B.room.mono (by decide)) (er_var (i := 11) rfl ⟨wa, rfl, f1⟩ stab_w) hm hno hj).imp fun v H' _ r => ftd r) (er_var (i := 5) rfl ⟨b1, rfl, hb1h.r⟩ stab_dtP) toE_ok) fun H25 g25 => ss_nil ?_)
    have g16i := g16h.trans g25
    clear f1 f2 f3 f4 f5
    obtain ⟨f1, f2, f3, f4, f5⟩ := keep g16i
    have tg25 := tf16.up g16i
    clear hb1h hb1g hb1f hb1e hb1d hb1c hb1b hb1a hb1' hb1 hb2f hb2e hb2d hb2c hb2b hb2a hb2 g16h g16g g16f g16e g16d g16c g16b g16a g16 r23 ha22 hx22
    -- no watch
    refine ss_cons (s_if0 (wt_notisi (T := TT K) (n_isinstance t) (excK_NoWatch t) (g_NoWatch t) (we_lam1 (T := TT K) (kL := 7) (kG := 9) (spG := spCaught (TT K) K) B f5 (fun B' f fdL spL h1 h2 FL hf hb => ok__law_caught t FL hf hb) (by decide) (g__law_caught t) (k__law_caught t) (b__law_caught t) (W.tab (("law" : Str), none) (by simp [RM.tf])) rfl (mT_law (by kernel_rfl)) (ndT t) (by kernel_rfl) fun G44 fl c' k44 hc => ⟨rfl, fun Q' E' hQ hE => ⟨rfl, hc, fun B' f' c2 A' outer' s' H0 hK hG ext hr => ?_⟩⟩)))
    have keepT : ∀ {G : Hp}, TF (TT K) tp l H25 G → WatchAt K G (KW K) wa m ws ∧ Tabs (TT K) G := fun g => ⟨g.watch nm nws f1, g.tabs f5⟩
    have tg44 := (TF.refl tg25.tape).up k44
    refine we_callRW (ok_map_of (W.ext ext)) (by exact hr) (g_map_of t) (k_map_of t) (b_map_of t) (takes_of rfl rfl rfl rfl) (wa_cons (we_callQ (T := TT K) (ok__law_pick (T := TT K) t) (by exact hr.mono (by decide)) (g__law_pick t) (k__law_pick t) (b__law_pick t) (ea_cons (R := eqP (.ref tp)) (er_var (i := 12) rfl rfl stab_e) (ea_cons (er_lstA (S := [tp, l]) (ds := [.none, .int 5]) (tg44.tape.stood) (a_cons (er_a rfl ed_non) (a_cons (er_a rfl ed_int) ea_nil)) (by decide)) ea_nil stab_a) stab_e) fun vs G46 k46 ra => ?_))
    obtain ⟨u1, u2, rfl, rfl, r46⟩ := allP2 ra
    have tg46 := tg44.up k46
    refine ⟨_, l, u2, _, _, rfl, tg46.tape, r46, .inr rfl, by decide, by decide, fun uu ee G47 hee tg47 ru => wa_er (T := TT K) ed_non fun v48 G48 k48 r48 => wa_nil ?_⟩
    have tg48 := (tg46.trans tg47).up k48
    refine mof_noW (k48.dp ru.dp) r48 (keepT tg48).2 fun v49 dd G49 k49 h49 r49 => hE _ dd _ G49 h49 (exm_NoWatch t) fun ex3 G50 k50 hex3 => ⟨ex3, _, rfl, hex3, fun G51 k51 => ⟨fun z => (by cases z), fun _ => ss_nil ?_⟩⟩
    have tg51 := tg48.up (k49.trans (k50.trans k51))
    obtain ⟨w1, w2⟩ := keepT tg51
    clear hE hQ hex3 r49 h49 ru hc hr ext hG hK tg48 tg47 tg46 tg44 r46 r48
    -- a wrong row
    refine ss_one (s_if0 (wt_notisi (T := TT K) (n_isinstance t) (excK_BadRow t) (g_BadRow t) (we_lam1 (T := TT K) (kL := 7) (kG := 9) (spG := spCaught (TT K) K) B w2 (fun B' f fdL spL h1 h2 FL hf hb => ok__law_caught t FL hf hb) (by decide) (g__law_caught t) (k__law_caught t) (b__law_caught t) (W.tab (("law" : Str), none) (by simp [RM.tf])) rfl (mT_law (by kernel_rfl)) (ndT t) (by kernel_rfl) fun G54 fl c' k54 hc => ⟨rfl, fun Q' E' hQ hE => ⟨rfl, hc, fun B' f' c2 A' outer' s' H0 hK hG ext hr => ?_⟩⟩)))
    have tg54 := tg51.up k54
    refine we_callRW (ok_map_of (W.ext ext)) (by exact hr) (g_map_of t) (k_map_of t) (b_map_of t) (takes_of rfl rfl rfl rfl) (wa_er (T := TT K) (R := eqP (.ref wa)) (er_var (i := 11) rfl rfl stab_e) fun v55 G55 k55 e55 => wa_cons (we_callQ (T := TT K) (ok__law_pick (T := TT K) t) (by exact hr.mono (by decide)) (g__law_pick t) (k__law_pick t) (b__law_pick t) (ea_cons (R := eqP (.ref tp)) (er_var (i := 12) rfl rfl stab_e) (ea_cons (er_lstA (S := [tp, l]) (ds := [.none, .list [.int 9], .list (List.replicate 301 (.int 0))]) ((tg54.up k55).tape.stood) (a_cons (er_a rfl ed_non) (a_cons (er_lstA (S := [tp, l]) (ds := [.int 9]) ((tg54.up k55).tape.stood) (a_cons (er_a rfl ed_int) ea_nil) (by decide)) (a_cons (er_repLA1 (S := [tp, l]) (k := 301) ((tg54.up k55).tape.stood) (er_lstF (ds := [.int 0]) (ed_cons ed_int ea_nil) (by decide)) rfl ed_int (by decide)) ea_nil))) (by decide)) ea_nil stab_a) stab_e) fun vs G56 k56 ra => ?_))
    subst e55
    obtain ⟨u1, u2, rfl, rfl, r56⟩ := allP2 ra
    have tg56 := tg54.up (k55.trans k56)
    refine ⟨_, l, u2, _, _, rfl, tg56.tape, r56, .inr rfl, (show 0 < 3 by decide), (show 3 ≤ 100000 by decide), fun uu ee G57 hee tg57 ru => wa_nil ?_⟩
    have tg57 := tg56.trans tg57
    obtain ⟨xe, hxe⟩ : ∃ xe, rowErr (kindsM m) ee = some xe := by
      simp only [List.mem_cons, List.not_mem_nil, or_false] at hee
      rcases hee with rfl | rfl | rfl
      · exact ⟨_, rfl⟩
      · have : isBet (.int 9) 0 ((kindsM m : Int) - 1) = false := by
          simp only [isBet, Bool.and_eq_false_iff, decide_eq_false_iff_not]
          omega
        refine ⟨.int (0 : Nat), ?_⟩
        unfold rowErr
        rw [if_pos (by rfl)]
        have h2 : fw (fun e => isBet e 0 ((kindsM m : Int) - 1)) (seqOf (.list [.int 9])) = some 0 := by
          show List.findIdx? _ [PyData.int 9] = some 0
          simp [List.findIdx?_cons, this]
        rw [h2]
      · exact ⟨_, row_301⟩
    obtain ⟨w3, w4⟩ := keepT tg57
    refine mof_row w3 hm ru.dp w4 hxe fun v59 dd G59 k59 h59 r59 => hE _ dd _ G59 h59 (exm_BadRow t) fun ex4 G60 k60 hex4 => ⟨ex4, _, rfl, hex4, fun G61 k61 => ⟨fun z => (by cases z), fun _ => ss_nil ?_⟩⟩
    exact ⟨⟨_, _, _, _, _, _, _, _, _, _, _, _, _, rfl⟩, tg25.trans (tg57.up (k59.trans (k60.trans k61)))⟩
  · subst e
    have hT4 := tf.tabs hT3
    have hev : ∀ {H2 : Hp}, Le (TT K) [] H' H2 → Tabs (TT K) H2 := fun k => k.tab hT4
    -- very many maps
    refine ss_cons (s_set B (i := 13) (T := TT K) (R := wP K (KW K) wideM [0, 1, 2, 3, 0, 1]) (er_watch (dm := .list wideD) (ds := wideD) (dw := .list wordD) W (by exact B.room.mono (by decide)) ?_ ?_ (.inr rfl) wideD_rows vm_wide wordD_ns rfl (by decide) hT4) fun v1 H5 k5 r1 => ?_)
    · exact @ed_wideL _ _ _ _ _ _ _ _ _ _ _ _ _ _ _ _ _ _ _ _ _ _ _ _ _ _ _ _ _ _ _ _ _ _ _ _ _ _ _ _ _ _ _ _ _ _ _ _ _ _ _ _ _
    · exact @ed_wordL _ _ _ _ _ _ _ _ _ _ _ _ _ _ _ _ _
    obtain ⟨wb, rfl, hwb⟩ := r1
    have hT5 := hev k5
    refine ss_cons (s_set0 B (i := 9) (we_lam1 (T := TT K) (kL := 7) (kG := 9) (spG := spCaught (TT K) K) B hT5 (fun B' f fdL spL h1 h2 FL hf hb => ok__law_caught t FL hf hb) (by decide) (g__law_caught t) (k__law_caught t) (b__law_caught t) (W.tab (("law" : Str), none) (by simp [RM.tf])) rfl (mT_law (by kernel_rfl)) (ndT t) (by kernel_rfl) fun G6 fl c' k6 hc => ⟨rfl, fun Q' E' hQ hE => ⟨rfl, hc, fun B' f' c2 A' outer' s' H0 hK hG ext hr => ?_⟩⟩))
    refine we_callRW (ok_map_rows (T := TT K) t) (by exact hr) (g_map_rows t) (k_map_rows t) (b_map_rows t) (takes_of rfl rfl rfl rfl) (wa_er (T := TT K) (R := eqP (.ref wb)) (er_var (i := 13) rfl rfl stab_e) fun v7 G7 k7 e7 => wa_nil ?_)
    subst e7
    refine ⟨wb, wideM, [0, 1, 2, 3, 0, 1], rfl, (hwb.up k6).up k7, vm_wide, fun j h1 h2 => absurd h2 (wide_stop h1), fun j ho v8 dd G8 k8 h8 r8 => hE _ dd _ G8 h8 (exm_TooMany t) fun ex G9 k9 hex => ?_⟩
    have k59 := k6.trans (k7.trans (k8.trans k9))
    have hT9 := hev (k5.trans k59)
    have hcx : excP (He.ga K ("TooMany" : Str)) "most" (.int 2000) K (.ref ex) G9 := ⟨ex, v8, rfl, hex, k9.dp r8⟩
    clear hE hQ hex r8 h8 hc hr ext hG hK
    refine ss_cons (s_ifF (T := TT K) (et_w (ew_orF (et_not (k := true) (et_val (ed_isiZ (n_isinstance t) (er_var (i := 9) rfl hcx stab_ex) (excK_TooMany t) (er_gref (g_TooMany t))))) (ew_or1 (Et.eq (et_ne (d := .int 2000) (d' := .int 2000) (by exact hu64) (ed_exf (er_var (i := 9) rfl hcx stab_ex) (excK_TooMany t) (rc_TooMany t).cls.noF) ed_int) (by simp [PyData.eqv]))))) fun H10 k10 => ss_nil ?_)
    have hT10 := k10.tab hT9
    -- falls
    refine ss_cons (s_set B (i := 10) (T := TT K) (R := wP K (KW K) fallsM [0, 0, 1]) (er_watch W (by exact B.room.mono (by decide)) (ed_lst (ds := fallsM.map nsD) (ed_cons (ed_tup (ds := natsD [0, 1]) (ed_cons ed_int (ed_cons ed_int ea_nil)) (by decide)) (ed_cons (ed_tup (ds := natsD [0, 2]) (ed_cons ed_int (ed_cons ed_int ea_nil)) (by decide)) (ed_cons (ed_tup (ds := natsD [2, 2]) (ed_cons ed_int (ed_cons ed_int ea_nil)) (by decide)) ea_nil))) (by decide)) (ed_lst (ds := natsD [0, 0, 1]) (ed_cons ed_int (ed_cons ed_int (ed_cons ed_int ea_nil))) (by decide)) (.inr rfl) rowsD_ns vm_falls (.inr rfl) rfl (by decide) hT10) fun v11 H11 k11 r11 => ?_)
    have hT11 := k11.tab hT10
    have hno := few_maps vm_falls (show fallsM.length ≤ 4 by decide)
    refine @ret_and _ (TT K) _ _ _ _ _ _ _ ?_ ?_ fun H12 k12 => hq H12
    · refine Er.eq (ed_eq (d := nsD [1, 2, 2]) (d' := nsD [1, 2, 2]) (by exact hu64) ?_ (ed_tup (ds := natsD [1, 2, 2]) (ed_cons ed_int (ed_cons ed_int (ed_cons ed_int ea_nil))) (by decide)) shaped_ns shaped_ns) (by rw [eqv_ns]; rfl)
      refine Er.imp (R := tP (mapBy fallsM [1])) (er_mof (row := [1]) W (by exact B.room.mono (by decide)) (er_var (i := 10) rfl r11 stab_w) (ed_tup (ds := natsD [1]) (ed_cons ed_int ea_nil) (by decide)) (.inl rfl) vm_falls (by decide) (by decide) hT11) fun v H' _ r => ?_
      rw [falls_map] at r
      exact tP_dp r
    · refine @ed_eqT _ _ _ _ _ _ _ fallsE (by exact hu) ?_ ?_ fallsE_ok (nomark _)
      · refine Er.imp (er_rows W (by exact B.room.mono (by decide)) (er_var (i := 10) rfl r11 stab_w) vm_falls hno falls_stop) fun v H' _ ⟨a, e, _, h⟩ => ?_
        rw [falls_E] at h
        exact ⟨a, e, h.r⟩
      · refine @Er.imp _ _ _ _ _ (FreshT K H11 fallsE) _ (@er_fallsD _ _ _ _ (by exact hu1) _ _ _ _ _ _ _ _ _ _ _ _ _ _ _ _ _ _ _ _ _ _ _ _ _ _ _ _ _ _ _ _ _ _ _ _ _ _ _ _ _ _ _ _ _ _ _ _ _ _ _ _ _ _ _ _ _ _ _ _ _ _ _ _ _ _ _ _ _ _ _ _ _ _ _ _ _) fun v H' _ ⟨a, e, _, h⟩ => ⟨a, e, h.r⟩
end
end RM
namespace RM
open PySem PySem.Spec PyProof.Rows L2
abbrev ROW : PySem.W.OpenRow := PySem.W.OpenLaw.row PySem.Challenge.rw_rowmaps_k00_maps_of_rows
abbrev hk : PySem.W.Hook := hookR 6 fb fn tf
def ob (s : PySem.W.SharedT) : AlR := obsR 6 fb fn tf (HandSHeadRun.getT s)
theorem ob_eq (s : PySem.W.SharedT) : ob s = hk.obs s.abs := obsR_eq (HandSHeadRun.getT_eq s)
def names : List PySem.Str := ROW.prog.boundNames.filter (fun n => n != ("law" : PySem.Str))
theorem run (w : World) : HandSHeadRun.RunEq ROW (PySem.W.view ROW.prog [51]) hk ob 4000 names w := by
  intro os
  kernel_rfl
theorem law_at {w : World} {mg : Str → Option Value} {fa : Addr} {h : Heap} (Y : ∃ K : PySem.W.Frag, K.In h ∧ SaysR fb fn tf h K) (G : h.Ns mainGlobals mg) (hfa : mg ("law" : Str) = some (.ref fa)) : ∃ K : PySem.W.Frag, K.In h ∧ LawAtG PySem.Challenge.rw_rowmaps_k00_maps_of_rows w K (L2.CX PR w) 10 63 "script" mg fa h := by
  obtain ⟨K, KX, c⟩ := Y
  have t : Tx PR K mg := ⟨rfl, h, KX, G, c⟩
  have e := hfa.symm.trans (g_law t)
  cases e
  refine ⟨K, KX, fdOf K (d_law.at_ K), tf.map fun p => He.cT K p, spLaw K, fun p hp => ?_, fun p hp => ?_, fun p hp => ?_, fun s u => ?_, fun H a ns hl hb hH hS => ⟨a, ns, rfl, hS, hl, fun p hp => ?_, fun _ => rfl⟩, fun base hK hG hT => ok_law ⟨t, fun p hp => hT _ (List.mem_map.mpr ⟨p, hp, rfl⟩)⟩⟩
  · obtain ⟨q, hq, rfl⟩ := List.mem_map.mp hp
    exact c.empty q hq
  · obtain ⟨q, hq, rfl⟩ := List.mem_map.mp hp
    exact c.out q hq
  · obtain ⟨q, hq, rfl⟩ := List.mem_map.mp hp
    exact PySem.W.codeHd_of_K KX (c.hd q hq)
  · exact FunD.bindsA (ps := ["script"]) (f_law t) (fun _ _ _ _ _ _ us hl => match us, hl with | [_], _ => rfl) s [u] rfl
  · have : ∀ q ∈ tf, H (He.cT K q).2 = some (.tbl #[]) := fun q hq => hH _ (List.mem_map.mpr ⟨q, hq, rfl⟩)
    have hp2 : ∃ q ∈ tf, p.1 = (He.cT K q).2 := by
      simp only [TT, List.mem_cons, List.not_mem_nil, or_false] at hp
      rcases hp with rfl | rfl | rfl
      · exact ⟨_, by simp [tf], rfl⟩
      · exact ⟨_, by simp [tf], rfl⟩
      · exact ⟨_, by simp [tf], rfl⟩
    obtain ⟨q, hq, e⟩ := hp2
    rw [e]
    exact LamX.TabS.nil (this q hq)
end RM
open PySem PySem.W PySem.Calls PyProof.Rows
theorem PySem.Challenge.cw_rowmaps_k00_maps_of_rows_holds : PySem.Challenge.rw_rowmaps_k00_maps_of_rows.Holds := by
  w_on; o_law
  refine HandSHeadRun.head_any (r := OpenLaw.row PySem.Challenge.rw_rowmaps_k00_maps_of_rows) (q := view (OpenLaw.row PySem.Challenge.rw_rowmaps_k00_maps_of_rows).prog [51]) (H := RM.hk) (ob := RM.ob) (M := 4000) (loose := RM.names) (d := HandSHeadRun.topDef (OpenLaw.row PySem.Challenge.rw_rowmaps_k00_maps_of_rows).prog 51) (kwd := []) RM.ob_eq
    (by kernel_rfl) (fun s => by kernel_rfl) RM.run (by kernel_rfl) (by kernel_rfl) (by kernel_rfl) (by rfl) (by first | assumption | decide +kernel) (by decide +kernel) ⟨rfl, rfl, rfl, rfl, rfl, by decide +kernel⟩ ?hw ?hc
  case hw => w_witness2
  case hc =>
    refine RM.walkG (l := PySem.Challenge.rw_rowmaps_k00_maps_of_rows) (n := 63) (k := 10) (nm := "script") (CX := fun w => L2.CX RM.PR w) rfl (by decide) (by kernel_rfl) ⟨rfl, by decide, by decide⟩ ?F (fun w H s e s' z => by
      obtain ⟨_, _, _, _, _, _, _, _, _, _, _, _, z⟩ := z
      exact z)
    intro w mg fa h Y G hmg0
    have hmg : mg ("law" : PySem.Str) = some (.ref fa) := by
      have e : (HandSHeadRun.topDef (OpenLaw.row PySem.Challenge.rw_rowmaps_k00_maps_of_rows).prog 51).name = ("law" : PySem.Str) := by kernel_rfl
      rw [← e]
      exact hmg0
    exact RM.law_at Y G hmg
