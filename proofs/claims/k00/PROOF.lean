import PyProof.Rows.All
import Wide.All
import OpenK.AllK
import Wide.FinOn
import KE.KExcSuper
import HandS.ForExc
import HandS.ExcSuper
import HandS.IsInst
import HandS.HeadWalk
import HandS.ExcValue
import KE.KExcIs
import PyProof.ReprReads
import HandS.ForMost
import HandS.Exc
import HandS.Wide
import HandS.WordsDict
import KE.KStateDown
import HandS.Defaults
import HandS.Head0
import HandS.Head1
import HandS.Head2
import HandS.HeadEnd
import HandS.HeadHook1
import HandS.HeadHook2
import HandS.EndBits
import HandS.Words
import HandS.WordsExc
import PySem.Challenge.RW_cutsonasheet_k00_errors_and_what_they_ke
set_option Elab.async false
set_option linter.all false
set_option maxRecDepth 1000000
set_option maxHeartbeats 0
set_option exponentiation.threshold 2000
/-! own errors: SheetError(ValueError) with __init__: super().__init__(value); self.value = value; classes over it -/
namespace Xs
open PySem PySem.W PySem.Calls PyProof.Rows PySem.HandSPX

def iA (p1 p2 : Pos) : Arguments := { posonlyargs := [], args := [{ arg := "self", annotation := none, pos := p1 }, { arg := "value", annotation := none, pos := p2 }], vararg := none, kwonlyargs := [], kw_defaults := [], kwarg := none, defaults := [] }
def iB (a b c d e f g h i j : Pos) : List Stmt := [
  .Expr (.Call (.Attribute (.Call (.Name "super" a) [] [] b) "__init__" c) [.Name "value" d] [] e) f,
  .Assign [.Attribute (.Name "self" g) "value" h] (.Name "value" i) j]
def iS : Scope := { kind := .function, names := [(PySem.Str.ofString "self", .local), (PySem.Str.ofString "value", .local), (PySem.Str.ofString "__class__", .free), (PySem.Str.ofString "super", .globalImplicit)], isGenerator := false, isCoroutine := false, more := [] }

/-- the __init__ of the base class at D -/
structure BaseT (prog : Program) (K : Frag) (D fI : Addr) : Prop where
  fn : ∃ (oc : Value) (od : Option Addr) (doc pm : Value) (an : Option Addr) (cda cc : Addr) (ct : Value) (osl : Array (Option Value)) (p1 p2 a b c d e f g h i j : Pos),
    K.lookup fI = some ⟨oc, od, .func (ksFn "__init__" "SheetError.__init__" (iA p1 p2) (iB a b c d e f g h i j) iS .none .none doc pm an (.ref cda) ct cc), osl⟩ ∧ codeIn K (.ref cda) "SheetError.__init__" = true ∧ (c.endLine == e.line) = true ∧
    (∃ (cl : Value) (cld : Option Addr) (csl : Array (Option Value)), K.lookup cc = some ⟨cl, cld, .cell (some (.ref D)), csl⟩) ∧
    (∃ (ccl : Value) (cdd : Option Addr) (ccs : Array (Option Value)) (vs : Array Value) (file : Str) (tf : Tok), K.lookup cda = some ⟨ccl, cdd, .fields vs, ccs⟩ ∧ vs[2]? = some (.str file tf) ∧ ((prog.main.file : Str) == file) = true)
  cls : ∃ cd, clsIn K D = some cd
  sup : nsIn K mainGlobals "super" = some none
  opq : nsIn K cStatics "thirdparty.any" = some none
  top : (prog.main.scope.names.lookup ("super" : Str)).isSome = false
/-- an error class at C, over (or at) D -/
structure ErrT (K : Frag) (D fI C : Addr) : Prop where
  cls : ∃ nm q N bs bm sn sub ab col dd k0 k1 k2 k3 k5, K.lookup C = some (excClassObj nm q C N bs bm true sn sub ab col dd k0 k1 k2 k3 k5 "ValueError.__new__") ∧ refsVE bm = true
  sa : findIn K (.ref C) "__setattr__" = some (some (.builtin "object.__setattr__"))
  ga : findIn K (.ref C) "__getattribute__" = some (some (.builtin "BaseException.__getattribute__"))
  gg : findIn K (.ref C) "__getattr__" = some none
  noN : findIn K (.ref C) "value" = some none
  iC : findIn K (.ref C) "__init__" = some (some (.ref fI))
  tI : typeIn K (.ref fI) = some (.type "function")
  sup : ks_superIn K C D "__init__" = some (some (.builtin "ValueError.__init__"))
  sub : mroIn K C (.ref D) = some true
  isB : subIn K (.ref C) (.type "ValueError") = some true
  kC : keepIn K (.ref C) = true
  exC : subIn K (.ref C) (.type "BaseException") = some true
  tyC : typeIn K (.ref C) = some (.type "type")
  hdC : hasDictIn K C = true
  clC : (clsIn K C).isSome = true
  ca : findIn K (.ref C) "__class__" = some (some (.builtin "object.__class__"))
  gt : specialIn K (.builtin "object.__class__") "__get__" = some (some (.builtin "getset_descriptor.__get__"))
  tk : takesIn K (.builtin "object.__class__") = some true
  mo : mroIn K C (.type "object") = some true

theorem eval_mcall {o : Expr} {m : Str} {apos pos : Pos} {env : Env} {args : List Expr} (hf : methodCallForm (args.length + 0) (backTo pos (starEach args env)) [] = true) (hl : (apos.endLine == pos.line) = true) :
    eval (.Call (.Attribute o m apos) args [] pos) env = (do
      let ov ← attributeBase o m env (eval o env)
      standAt apos.atName
      let (f, first) ← holding [ov] (getMethod ov m (L2.plainOf o env))
      callWith pos f first (backTo pos (starEach args env)) []) := by
  have e : ∀ ov, methodCall o m apos pos env ov (args.length + 0) (backTo pos (starEach args env)) [] = (do
      let (f, first) ← holding [ov] (getMethod ov m (L2.plainOf o env))
      callWith pos f first (backTo pos (starEach args env)) []) := fun ov => L2.mcall_line hf hl
  have e2 : eval (.Call (.Attribute o m apos) args [] pos) env = (do
      let ov ← attributeBase o m env (eval o env)
      standAt apos.atName
      methodCall o m apos pos env ov (args.length + 0) (backTo pos (starEach args env)) []) := rfl
  rw [e2]
  simp only [e]

section
variable {prog : Program} {w : World} {A : Around} {E : Value → Shared → Prop} {s : Shared} {R : Result → Shared → Prop} {K : Frag} {mg : Str → Option Value} {C D fI : Addr}
/-- what __init__ leaves of a fresh exception at x -/
structure InitEnd (h h' : Heap) (x C dx t1 : Addr) (v : Value) : Prop where
  keep : ∀ b o, b ≠ x → h.get? b = some o → h'.get? b = some o
  obj : h'.get? x = some { cls := .ref C, dict := some dx, data := .fields #[.ref t1, .none, .none, .none, .bool false, .none] }
  dbig : h.objs.size ≤ dx
  dne : dx ≠ x
  ns : h'.Ns1 dx (fun y => if y = "value" then some v else none)

theorem init_run (T : BaseT prog K D fI) (Y : ErrT K D fI C) {x t0 : Addr} {v : Value} (X : K.In s.heap) (G : s.heap.Ns mainGlobals mg) (B : ∃ mb, s.heap.Ns builtinsNs mb ∧ mb "super" = some (.type "super"))
    (hlim : s.heap.NoLimit) (hx : s.heap.get? x = some (excO C t0)) (hnx : K.lookup x = none) (hroom : A.depth < recursionLimit)
    (hq : ∀ h' tk dx t1, InitEnd s.heap h' x C dx t1 v → R (.ok (.ret .none)) { s with heap := h', toks := tk }) :
    codeAny (model prog w) A (.call (.ref fI) ⟨[.ref x, v], []⟩) R s := by
  obtain ⟨oc, od, doc, pm, an, cda, cc, ct, osl, p1, p2, a, b, c, d, e, f, g, h, i, j, ho, hcd, hline, ⟨cl, cld, csl, hcell⟩, ⟨ccl, cdd, ccs, vs, file, tf, hcode, hvs, hfile⟩⟩ := T.fn
  obtain ⟨nm, q, N, bs, bm, sn, sub, ab, col, dd, k0, k1, k2, k3, k5, hC, hbm⟩ := Y.cls
  obtain ⟨cdD, hD⟩ := T.cls
  obtain ⟨mb, hmb, hms⟩ := B
  have hcl : clsIn K C = some { name := nm, bases := bs, mro := .ref C :: bm, ns := N, qualname := q, hasDict := true, slotNames := sn, subclasses := sub, abstract := ab, collection := col, hasDel := false } := by unfold clsIn; rw [hC] <;> rfl
  refine ks_codeAny_call_defAt (binds := [("self", .ref x), ("value", v)]) hroom (X _ _ ho) rfl hlim (codeRec_of X hcd) rfl (BindsTo.of_eq (by first | rfl | with_unfolding_all rfl)) (show ∀ y ∈ iS.names, y.2 ≠ .cell by decide) (by intro y hy; simp only [List.mem_cons, List.not_mem_nil, or_false] at hy; rcases hy with rfl | rfl <;> rfl) (fun h₁ hn k => ?_)
  have hxL : x ≠ s.heap.objs.size := Nat.ne_of_lt (Heap.lt_size hx)
  have X₁ : K.In h₁ := X.keeps k
  have hx₁ := k _ _ hx
  obtain ⟨oD, hD1, hD2⟩ : ∃ oD, h₁.get? D = some oD ∧ oD.data = .cls cdD := by
    unfold clsIn at hD
    split at hD
    · rename_i c d cd' sl ho
      cases hD
      exact ⟨_, X₁ _ _ ho, rfl⟩
    · cases hD
  have hxC : x ≠ C := fun e => by rw [e] at hnx; rw [hnx] at hC; cases hC
  -- super().__init__(value)
  show PySem.wpAt _ (A.deeper (ksEnv "SheetError.__init__" iS s.heap.objs.size fI (.ref cda) cc)) (.func (iB a b c d e f g h i j) (ksEnv "SheetError.__init__" iS s.heap.objs.size fI (.ref cda) cc)) (execs (iB a b c d e f g h i j) (ksEnv "SheetError.__init__" iS s.heap.objs.size fI (.ref cda) cc)) _ _ _
  refine ks_wpAt_execs_cons (ks_wpAt_Expr_any ?_ ?_ ?_)
  · refine ks_wpAt_MethodCall (pl := L2.plainOf (.Call (.Name "super" a) [] [] b) (ksEnv "SheetError.__init__" iS s.heap.objs.size fI (.ref cda) cc)) ?_ ?he
    case he => exact eval_mcall rfl hline
    refine ks_wpAt_super_base (env := ksEnv "SheetError.__init__" iS s.heap.objs.size fI (.ref cda) cc) rfl rfl rfl rfl (X₁ _ _ ho) rfl rfl rfl (X₁ _ _ hcode) rfl hvs hfile T.top ?_
    refine ks_loadName_global rfl rfl (loadGlobal_builtin (env := ksEnv "SheetError.__init__" iS s.heap.objs.size fI (.ref cda) cc) (G.keeps k) (mg_none_of X G T.sup) (hmb.keeps k) hms ⟨rfl, ?_⟩)
    refine wpAny_loadName_free rfl rfl rfl ⟨_, X₁ _ _ hcell, rfl⟩ ?_
    refine wpAny_loadName_local rfl rfl hn rfl ?_
    refine ks_wpAny_isType_cls hD1 hD2 ⟨rfl, ?_⟩
    obtain ⟨hp₁, g₁, dr₁, tk₁, os₁⟩ : ∃ (g : Array GenState) (dr : Drawn) (t : Nat) (o : OsState), s.gens = g ∧ s.drawn = dr ∧ s.toks = t ∧ s.os = o := ⟨_, _, _, _, rfl, rfl, rfl, rfl⟩
    refine ks_wpAny_call_super hD1 hD2 hx₁ rfl (fun c e => by cases e) (looks_mroIn X₁ Y.sub) (fun h₂ e₂ k₂ => ?_)
    have X₂ := X₁.keeps k₂
    have hx₂ := k₂ _ _ hx₁
    have I₂ : InstAt h₂ x (excO C t0) C none := ⟨hx₂, rfl, rfl, trivial⟩
    have hI : Looks (model prog w) h₂ (isInstance (.ref x) (.type "ValueError")) true := I₂.type.andThen (looks_subIn X₂ Y.isB)
    have hsup := Y.sup
    unfold ks_superIn at hsup
    rw [hcl] at hsup
    refine kxs_getMethod kxs_ValueError e₂ (looks_opaque X₂ T.opq) (l₀ := .ref C :: bm) ?_ rfl X₂ hsup hI hxC rfl ?_
    · exact fun A Q E s k q => wpAny_bind ((looks_clsIn X₂ hcl) A _ E s k (wpAny_pure q))
    -- the wrapper is called with value
    have k₃ : ∀ b o, h₂.get? b = some o → (h₂.push (kxs_mw "ValueError.__init__" x)).get? b = some o := fun b o e => Heap.get?_push_of_some _ e
    have hx₃ := k₃ _ _ hx₂
    have hC₃ := (X₂.keeps k₃) _ _ hC
    have hn₂ : h₂.Ns s.heap.objs.size (fun y => List.lookup y ([(("self" : Str), Value.ref x), (("value" : Str), v)] : List (Str × Value)).reverse) := hn.keeps k₂
    have hn₃ : (h₂.push (kxs_mw "ValueError.__init__" x)).Ns s.heap.objs.size (fun y => List.lookup y ([(("self" : Str), Value.ref x), (("value" : Str), v)] : List (Str × Value)).reverse) := hn₂.keeps k₃
    have hu : (h₂.push (kxs_mw "ValueError.__init__" x)).get? h₂.objs.size = some (kxs_mw "ValueError.__init__" x) := Heap.get?_push_size _ rfl
    refine kxs_callWith (i := "ValueError.__init__") (x := x) rfl ?_
    refine evalArgs_plain (spliced_cons (ESX.ldL (v := v) hn₃ rfl ?_ rfl rfl) )
    refine spliced_nil ⟨hu, ?_⟩
    refine wpAny_call (codeAny_of_tree ?_)
    show wpAny _ (A.deeper _).in1 (callAny (.ref h₂.objs.size) ⟨[v], []⟩) _ _ _
    simp only [callAny]
    refine wpAny_bind (wpAny_load hu ?_)
    simp only [kxs_mw, show (Value.type "method-wrapper" == Value.type "method" || Value.type "method-wrapper" == Value.type "builtin_function_or_method" || Value.type "method-wrapper" == Value.type "method-wrapper") = true by decide, if_true]
    refine KFB.if_so (by decide) ?_
    refine wpAny_bind (check_bound_init F.excBase_ValueError.toExcCallFacts hC₃ hx₃ rfl ?_)
    refine wpAny_bind (wpAny_pure (wpAny_pure ?_))
    refine ⟨plainId_quiet F.excBase_ValueError.init.plain _, codeAny_builtin F.excBase_ValueError.initEntry ?_⟩
    refine exc_init_tree (cls := .ref C) (t0 := t0) (dv := none) (c2 := .none) (c3 := .none) (b4 := .bool false) hx₃ (by rw [sizeLine_eq]; exact (by decide : 1 ≤ 16777216)) fun h₄ k₄ hx₄ _ => ?_
    -- self.value = value
    have X₄ : K.In h₄ := fun b o e => k₄ b o (fun z => by rw [z, hnx] at e; cases e) (X₂.keeps k₃ b o e)
    have hn₄ : h₄.Ns s.heap.objs.size (fun y => List.lookup y ([(("self" : Str), Value.ref x), (("value" : Str), v)] : List (Str × Value)).reverse) := by
      obtain ⟨oL, es, ep, hL, r⟩ := hn₃
      exact ⟨oL, es, ep, k₄ _ _ hxL.symm hL, r⟩
    show PySem.wpAt _ _ _ (execs _ _) _ _ _
    refine ks_wpAt_execs_cons (ks_wpAt_Assign_Attr ?_ ?_)
    · refine wpAt_of_wpAny (ESX.ldL (v := v) hn₄ rfl ?_ rfl rfl)
      refine ESX.ldL (v := .ref x) hn₄ rfl ?_ rfl rfl
      refine set_plain X₄ (ox := excO C _) (od := none) ⟨hx₄, rfl, rfl, trivial⟩ Y.sa ?_
      refine exc_osa X₄ hx₄ hcl (show refsVE (.ref C :: bm) = true from hbm) rfl Y.noN (fun h₅ tk₅ dx k₅ dn dne hx₅ hn₅ => ?_)
      show PySem.wpAt _ _ _ (execs _ _) _ _ _
      have old : ∀ b o, b ≠ x → s.heap.get? b = some o → h₄.get? b = some o := fun b o hb e => k₄ b o hb (k₃ b o (k₂ b o (k b o e)))
      refine wpAt_of_wpAny (wpAny_execs_nil (hq h₅ tk₅ dx _ ⟨fun b o hb e => k₅ b o hb (old b o hb e), hx₅, ?_, dne, hn₅⟩))
      -- the dict is new
      have z : s.heap.objs.size < h₄.objs.size := by
        obtain ⟨oL, es, ep, hL, r⟩ := hn₄
        exact Heap.lt_size hL
      exact Nat.le_of_lt (Nat.lt_of_lt_of_le z dn)
    · rfl
  · rfl
  · rfl
/-- a made error -/
structure Made (h h' : Heap) (e C d : Addr) (v : Value) : Prop where
  keep : ∀ b o, h.get? b = some o → h'.get? b = some o
  new : h.objs.size ≤ e
  obj : ∃ t1, h'.get? e = some { cls := .ref C, dict := some d, data := .fields #[.ref t1, .none, .none, .none, .bool false, .none] }
  dbig : h.objs.size ≤ d
  dne : d ≠ e
  ns : h'.Ns1 d (fun y => if y = "value" then some v else none)
theorem err_made (T : BaseT prog K D fI) (Y : ErrT K D fI C) {v : Value} (X : K.In s.heap) (G : s.heap.Ns mainGlobals mg) (B : ∃ mb, s.heap.Ns builtinsNs mb ∧ mb "super" = some (.type "super"))
    (hlim : s.heap.NoLimit) (hroom : A.depth + 1 < recursionLimit)
    (hq : ∀ h' tk e d, Made s.heap h' e C d v → R (.ok (.ret (.ref e))) { s with heap := h', toks := tk }) :
    codeAny (model prog w) A (.call (.ref C) ⟨[v], []⟩) R s := by
  obtain ⟨nm, q, N, bs, bm, sn, sub, ab, col, dd, k0, k1, k2, k3, k5, hC, hbm⟩ := Y.cls
  obtain ⟨hp, g, dr, tk, os⟩ := s
  have k : ∀ b o, hp.get? b = some o → ((hp.push (kdv_tup [v])).push (excO C hp.objs.size)).get? b = some o := fun b o e => Heap.get?_push_of_some _ (Heap.get?_push_of_some _ e)
  have hget : ((hp.push (kdv_tup [v])).push (excO C hp.objs.size)).get? (hp.objs.size + 1) = some (excO C hp.objs.size) := by heap_get
  have hnx : K.lookup (hp.objs.size + 1) = none := by
    cases e : K.lookup (hp.objs.size + 1) with
    | none => rfl
    | some o =>
      have z : hp.get? (hp.objs.size + 1) = some o := X _ _ e
      exact absurd (Nat.lt_of_succ_lt (Heap.lt_size z)) (Nat.lt_irrefl _)
  obtain ⟨mb, hmb, hms⟩ := B
  refine call_own F.excBase_ValueError (fun X => refsVE_contains X bm hbm) (X _ _ hC) (looks_findIn X Y.iC) (fun self => bind_fn X self Y.tI) (by rw [sizeLine_eq]; exact (by decide : 1 ≤ 16777216)) ?_
  refine init_run (s := ⟨(hp.push (kdv_tup [v])).push (excO C hp.objs.size), g, dr, tk, os⟩) T Y (X.keeps k) (G.keeps k) ⟨mb, hmb.keeps k, hms⟩ (hlim.keeps k) hget hnx ?_ fun h' tk' dx t1 ⟨k', hx, dn, dne, hns⟩ => ?_
  · show A.depth + 1 < recursionLimit
    exact hroom
  · have old : ∀ b o, hp.get? b = some o → h'.get? b = some o := fun b o e => k' b o (Nat.ne_of_lt (Nat.lt_succ_of_lt (Heap.lt_size e))) (k b o e)
    have z : hp.objs.size + 1 + 1 ≤ dx := by
      first
        | (simpa only [Heap.size_push] using dn)
        | exact dn
        | (have q := dn; rw [Heap.size_push, Heap.size_push] at q; exact q)
    exact ⟨rfl, hq h' tk' (hp.objs.size + 1) dx ⟨old, Nat.le_succ _, ⟨_, hx⟩, Nat.le_trans (Nat.le_trans (Nat.le_succ _) (Nat.le_succ _)) z, dne, hns⟩⟩
end
end Xs

namespace L2
open PySem PySem.Spec PyProof.Rows
/-- an error of the class C, its own dict at d, held at a -/
def ErO (C a d : Addr) : HO := .ext fun h => ∃ (oe : Obj) (vs : Array Value), h.get? a = some oe ∧ Zc (.ref C) (some d) oe ∧ oe.data = .fields vs
theorem erO_at {P : Program} {w : World} {H : Hp} {h : Heap} {C a d : Addr} (ok : HOk P w H h) (e : H a = some (ErO C a d)) : ∃ (oe : Obj) (vs : Array Value), h.get? a = some oe ∧ Zc (.ref C) (some d) oe ∧ oe.data = .fields vs := by
  obtain ⟨z, _, _⟩ := ok a _ e
  exact z
theorem erO_mk {P : Program} {w : World} {H : Hp} {h : Heap} {C a d : Addr} {oe : Obj} {vs : Array Value} (e : h.get? a = some oe) (z : Zc (.ref C) (some d) oe) (hd : oe.data = .fields vs) : ObjOk P w H h a (ErO C a d) :=
  ⟨⟨oe, vs, e, z, hd⟩, ⟨oe, e⟩, fun _ _ ⟨o, v, q, r⟩ k => ⟨o, v, k o q, r⟩⟩
theorem relO_val {v : V} {v' : Value} (r : RelV v v') (f : Str) : RelO (List.lookup f [(("value" : Str), v)]) (if f = "value" then some v' else none) := by
  by_cases hw : f = "value"
  · subst hw
    rw [if_pos rfl]
    have q : List.lookup ("value" : Str) [(("value" : Str), v)] = some v := by simp [List.lookup]
    rw [q]
    exact r
  · rw [if_neg hw]
    have qw : (f == ("value" : Str)) = false := by simpa using hw
    have q2 : List.lookup f [(("value" : Str), v)] = none := by simp [List.lookup, qw]
    rw [q2]
    trivial
section
variable {X : Cx} {C D fI : Addr}
/-- C(e), a value: the error at a, its dict at d -/
def tMkX (C : Addr) (ta : TA) : TE := fun σ H Q => ta σ H fun vs H1 => ∃ v, vs = [v] ∧ ∀ d a, H1 d = none → H1 a = none → a ≠ d → Q (.ref a) (upd (upd H1 d (.xd [(("value" : Str), v)])) a (ErO C a d))
theorem pe_mkX {n : Str} {a : Expr} {ta : TA} {p pos : Pos} {k : Nat} (T : Xs.BaseT X.prog X.K D fI) (Y : Xs.ErrT X.K D fI C) (hr : Room (k + 1) X.A) (ha : PA X [a] ta) (hg : Gl X n) (hm : X.mg n = some (.ref C))
    (hd : (n == ("__debug__" : Str)) = false) (he : starEach (a :: []) X.env = (false, eval a X.env) :: starEach [] X.env := by rfl) (hpl : (backTo pos (starEach [] X.env)).any (·.1) = false := by rfl) :
    PE X (.Call (.Name n p) [a] [] pos) (tMkX C ta) := by
  refine ⟨fun pins s σ H Q I h => ?_⟩
  refine wpAny_Call_Name_kw (ld_glob I hg hm ?_ hd)
  refine PySem.W.callWith_K (h₀ := X.base) I.ok.mod.kin Y.kC (thn (ha.run pos pins s σ H _ I h) fun us s1 hh => ?_) he hpl
  obtain ⟨vs, H1, I1, r1, v, ev, q1⟩ := hh
  subst ev
  refine ⟨I1.kIn, ?_⟩
  cases r1 with
  | cons rv rn =>
    rename_i v' us'
    cases rn
    show wpAny _ _ (call (.ref C) [v']) _ _ _
    have hlim := I1.nolimit
    obtain ⟨mb, hb1, hb2⟩ := I1.mod.blt
    have hsup : mb "super" = some (.type "super") := (hb2 _ (by decide)).trans (by first | boot_by_name | rfl | kernel_rfl)
    have B := hb1.keeps I1.bk
    have G := I1.mod.glob.keeps I1.bk
    obtain ⟨hp, g, dr, tk, os⟩ := s1
    refine wpAny_call (Xs.err_made T Y I1.kIn G ⟨mb, B, hsup⟩ hlim (by have := hr.dp; omega) fun h' tk' e d M => ?_)
    show EP X pins σ Q (.ref e) ⟨h', g, dr, tk', os⟩
    obtain ⟨t1, hoe⟩ := M.obj
    have hns := M.ns
    have dN : H1 d = none := I1.hok.fresh M.dbig
    have eN : H1 e = none := I1.hok.fresh M.new
    obtain ⟨G', g1, g2⟩ := restrict h' fun b => decide (b ≠ e)
    have gk : ∀ b, b ≠ e → G'.get? b = h'.get? b := fun b hb => g1 b (decide_eq_true hb)
    have ge : G'.get? e = none := g2 e (by simp)
    have old : ∀ b o, hp.get? b = some o → G'.get? b = some o := fun b o q => (gk b (Nat.ne_of_lt (Nat.lt_of_lt_of_le (Heap.lt_size q) M.new))).trans (M.keep b o q)
    have ob : ObjOk X.prog X.w (upd H1 d (.xd [(("value" : Str), v)])) G' d (.xd [(("value" : Str), v)]) :=
      ⟨_, hns.at (fun o q => (gk d M.dne).trans q), fun f => relO_val rv f⟩
    have J : Inv X pins σ (upd H1 d (.xd [(("value" : Str), v)])) ⟨G', g, dr, tk', os⟩ := I1.laid (t' := tk') old M.dbig ob
    have J2 : Inv X pins σ (upd (upd H1 d (.xd [(("value" : Str), v)])) e (ErO C e d)) ⟨h', g, dr, tk', os⟩ := J.laidN (t' := tk') (fun b o q => by
      by_cases hb : b = e
      · have q' : G'.get? b = some o := q
        rw [hb, ge] at q'; cases q'
      · exact (gk b hb).symm.trans q) ge (by rw [upd_ne (Ne.symm M.dne)]; exact eN) (erO_mk hoe ⟨rfl, rfl⟩ rfl)
    exact ⟨.ref e, _, J2, rfl, q1 d e dN eN (Ne.symm M.dne)⟩
/-- e.value of a held error -/
def tXval (K : PySem.W.Frag) (te : TE) : TE := fun σ H Q => te σ H fun x H1 => ∃ a C d v, x = .ref a ∧ H1 a = some (ErO C a d) ∧ H1 d = some (.xd [(("value" : Str), v)]) ∧ (∃ D fI, Xs.ErrT K D fI C) ∧ Q v H1
theorem pe_xval {e : Expr} {te : TE} {pos : Pos} (he : PE X e te) (hb : attributeBase e "value" X.env (eval e X.env) = eval e X.env := by rfl) : PE X (.Attribute e "value" pos) (tXval X.K te) := by
  refine ⟨fun pins s σ H Q I h => ?_⟩
  refine attr_of hb (thn (he.run pins s σ H _ I h) fun u s1 hh => ?_)
  obtain ⟨x, H1, I1, rx, a, C, d, v, ex, ea, ed, ⟨D, fI, Y⟩, q⟩ := hh
  subst ex
  obtain rfl : u = Value.ref a := rx
  obtain ⟨oe, vs, hoe, hz, hd⟩ := erO_at I1.hok ea
  have hx : ObjOk X.prog X.w H1 s1.heap d (.xd [(("value" : Str), v)]) := I1.hok d _ ed
  obtain ⟨mA, hns, hr⟩ := hx
  obtain ⟨od, ho, hl⟩ := lookIn_ns hns
  have l : List.lookup ("value" : Str) [(("value" : Str), v)] = some v := by simp [List.lookup]
  obtain ⟨u, hu, ru⟩ := RelO.some_of (v := v) (o := mA "value") (by rw [← l]; exact hr "value")
  have J : PySem.W.InstAt s1.heap a oe C (some od) := ⟨hoe, hz.1, by unfold PySem.W.notCls; rw [hd] <;> rfl, by rw [hz.2]; exact ho⟩
  exact HandSPX.exc_get I1.kIn J Y.ga Y.gg Y.exC (PySem.W.findObj_own Y.hdC Y.noN rfl (by rw [hl, hu])) (handed_of ru) ⟨v, H1, I1.tok _, ru, q⟩
/-- isinstance of a held error, of one class -/
def rIsiX (K : PySem.W.Frag) : List V → Hp → VK → Prop := fun xs H Q => ∃ (a C d D fI : Addr) (v c : V) (u : Value) (b : Bool), xs = [.ref a, c] ∧ ClsV c u ∧ H a = some (ErO C a d) ∧ H d = some (.xd [(("value" : Str), v)]) ∧ Xs.ErrT K D fI C ∧ PySem.W.kitOne K (.ref C) u = some b ∧ Q (.bl b) H
theorem call_isiX : CallR X (.builtin "isinstance") (rIsiX X.K) := by
  intro pins s σ H xs us Q I r h
  obtain ⟨a, C, d, D, fI, v, c, u, b, rfl, k, ea, ed, Y, e, q⟩ := h
  obtain ⟨u1, u2, rfl, r1, r2⟩ := vals2 r
  have e2 := k.eq r2
  subst e2
  cases (show u1 = Value.ref a from r1)
  obtain ⟨oe, vs, hoe, hz, hd⟩ := erO_at I.hok ea
  have hx : ObjOk X.prog X.w H s.heap d (.xd [(("value" : Str), v)]) := I.hok d _ ed
  obtain ⟨mA, hns, hr⟩ := hx
  obtain ⟨od, ho, hl⟩ := lookIn_ns hns
  have J : PySem.W.InstAt s.heap a oe C (some od) := ⟨hoe, hz.1, by unfold PySem.W.notCls; rw [hd] <;> rfl, by rw [hz.2]; exact ho⟩
  exact PySem.W.kia_one (PySem.W.kitx_exc (x := a) (ox := oe) (od := some od) Y.clC Y.ga Y.gg Y.exC Y.ca Y.gt Y.tk Y.mo) I.kIn J e (fun z => nomatch z) fun tk => ⟨.bl b, H, I.tok tk, rfl, q⟩
end
end L2
/-! Iv0: a small interpreter over plain data (no library): values, heap, code, evaluator. -/
namespace Iv
abbrev Tx := List Nat
/-- values; tuples and own errors by what they hold; ref: a place of the heap below -/
inductive W where
  | non | bl (b : Bool) | int (i : Int) | str (x : Tx) | tup (xs : List W) | ref (n : Nat) | fn (i : Nat) | exc (c : Nat) (w : W)
inductive Cell where
  | lst (ws : List W) | frz (ws : List W) | dic (kvs : List (W × W)) | ins (c : Nat) (fs : List (Nat × W))
/-! ### the heap: a tree by the bits of the place -/
inductive Tr where
  | nil | node (l : Tr) (v : Option Cell) (r : Tr)
def Tr.get : Tr → Nat → Option Cell
  | .nil, _ => none
  | .node l v r, n => bif Nat.beq n 0 then v else bif Nat.beq (n % 2) 1 then l.get (n / 2) else r.get (n / 2 - 1)
def Tr.put : Nat → Tr → Nat → Cell → Tr
  | 0, t, _, _ => t
  | d + 1, .nil, n, c => bif Nat.beq n 0 then .node .nil (some c) .nil else bif Nat.beq (n % 2) 1 then .node (Tr.put d .nil (n / 2) c) none .nil else .node .nil none (Tr.put d .nil (n / 2 - 1) c)
  | d + 1, .node l v r, n, c => bif Nat.beq n 0 then .node l (some c) r else bif Nat.beq (n % 2) 1 then .node (Tr.put d l (n / 2) c) v r else .node l v (Tr.put d r (n / 2 - 1) c)
theorem Tr.get_put : ∀ (d : Nat) (t : Tr) (n : Nat) (c : Cell) (m : Nat), n + 1 < 2 ^ d → (Tr.put d t n c).get m = if m = n then some c else t.get m
  | 0, _, n, _, _, h => by simp at h
  | d + 1, t, n, c, m, h => by
    have hn1 : n % 2 = 1 → n / 2 + 1 < 2 ^ d := fun h1 => by rw [Nat.pow_succ] at h; omega
    have hn2 : n % 2 ≠ 1 → n ≠ 0 → (n / 2 - 1) + 1 < 2 ^ d := fun h1 h2 => by rw [Nat.pow_succ] at h; omega
    have nilg : ∀ k, Tr.nil.get k = none := fun _ => rfl
    have key : ∀ (l : Tr) (v : Option Cell) (r : Tr), (bif Nat.beq n 0 then Tr.node l (some c) r else bif Nat.beq (n % 2) 1 then Tr.node (Tr.put d l (n / 2) c) v r else Tr.node l v (Tr.put d r (n / 2 - 1) c)).get m = if m = n then some c else (Tr.node l v r).get m := by
      intro l v r
      have g : ∀ (l : Tr) (v : Option Cell) (r : Tr), (Tr.node l v r).get m = if m = 0 then v else if m % 2 = 1 then l.get (m / 2) else r.get (m / 2 - 1) := by
        intro l v r
        show (bif Nat.beq m 0 then v else bif Nat.beq (m % 2) 1 then l.get (m / 2) else r.get (m / 2 - 1)) = _
        by_cases h0 : m = 0
        · subst h0; rfl
        · have e0 : Nat.beq m 0 = false := by cases m with | zero => exact absurd rfl h0 | succ k => rfl
          rw [e0, if_neg h0]
          by_cases h1 : m % 2 = 1
          · rw [h1, if_pos rfl]; rfl
          · have h2 : m % 2 = 0 := by omega
            rw [h2, if_neg (by decide)]; rfl
      by_cases h0 : n = 0
      · subst h0
        show (Tr.node l (some c) r).get m = _
        rw [g, g]
        by_cases hm : m = 0
        · rw [if_pos hm, if_pos hm]
        · rw [if_neg hm, if_neg hm, if_neg hm]
      · have e0 : Nat.beq n 0 = false := by cases n with | zero => exact absurd rfl h0 | succ k => rfl
        rw [e0]
        show (bif Nat.beq (n % 2) 1 then Tr.node (Tr.put d l (n / 2) c) v r else Tr.node l v (Tr.put d r (n / 2 - 1) c)).get m = _
        by_cases h1 : n % 2 = 1
        · rw [h1]
          show (Tr.node (Tr.put d l (n / 2) c) v r).get m = _
          rw [g, g, Tr.get_put d l (n / 2) c (m / 2) (hn1 h1)]
          by_cases hm : m = 0
          · rw [if_pos hm, if_pos hm, if_neg (by omega)]
          · rw [if_neg hm, if_neg hm]
            by_cases hm1 : m % 2 = 1
            · rw [if_pos hm1, if_pos hm1]
              by_cases e : m = n
              · rw [if_pos e, if_pos (by rw [e])]
              · rw [if_neg e, if_neg (by omega)]
            · rw [if_neg hm1, if_neg hm1, if_neg (by rintro rfl; exact hm1 h1)]
        · have h2 : n % 2 = 0 := by omega
          rw [h2]
          show (Tr.node l v (Tr.put d r (n / 2 - 1) c)).get m = _
          rw [g, g, Tr.get_put d r (n / 2 - 1) c (m / 2 - 1) (hn2 h1 h0)]
          by_cases hm : m = 0
          · rw [if_pos hm, if_pos hm, if_neg (by omega)]
          · rw [if_neg hm, if_neg hm]
            by_cases hm1 : m % 2 = 1
            · rw [if_pos hm1, if_pos hm1, if_neg (by rintro rfl; exact h1 hm1)]
            · rw [if_neg hm1, if_neg hm1]
              by_cases e : m = n
              · rw [if_pos e, if_pos (by rw [e])]
              · rw [if_neg e, if_neg (by omega)]
    cases t with
    | nil =>
      have := key .nil none .nil
      have e : (Tr.node .nil none .nil).get m = Tr.nil.get m := by
        show (bif Nat.beq m 0 then none else bif Nat.beq (m % 2) 1 then none else none) = none
        cases Nat.beq m 0 <;> cases Nat.beq (m % 2) 1 <;> rfl
      rw [e] at this
      exact this
    | node l v r => exact key l v r
structure Hv where
  t : Tr
  n : Nat
def depth : Nat := 40
def Hv.get (h : Hv) (i : Nat) : Option Cell := h.t.get i
def Hv.put (h : Hv) (i : Nat) (c : Cell) : Hv := ⟨Tr.put depth h.t i c, h.n⟩
def Hv.new (h : Hv) (c : Cell) : Hv := ⟨Tr.put depth h.t h.n c, h.n + 1⟩
def room : Nat := 1000000000
theorem Hv.get_put {h : Hv} {i : Nat} {c : Cell} {j : Nat} (hi : i < room) : (h.put i c).get j = if j = i then some c else h.get j :=
  Tr.get_put depth h.t i c j (Nat.lt_of_le_of_lt (Nat.succ_le_of_lt hi) (by decide))
theorem Hv.get_new {h : Hv} {c : Cell} {j : Nat} (hi : h.n < room) : (h.new c).get j = if j = h.n then some c else h.get j :=
  Tr.get_put depth h.t h.n c j (Nat.lt_of_le_of_lt (Nat.succ_le_of_lt hi) (by decide))
/-! ### results -/
inductive RE where
  | ok (w : W) (h : Hv) | exc (c : Nat) (w : W) (h : Hv) | bad
abbrev Env := List (Option W)
inductive RS where
  | next (σ : Env) (h : Hv) | brk (σ : Env) (h : Hv) | cnt (σ : Env) (h : Hv) | ret (w : W) (h : Hv) | exc (σ : Env) (c : Nat) (w : W) (h : Hv) | bad
@[reducible] def RE.bind (r : RE) (f : W → Hv → RE) : RE := match r with
  | .ok w h => f w h
  | .exc c w h => .exc c w h
  | .bad => .bad
def slot : Env → Nat → Option W
  | [], _ => none
  | x :: _, 0 => x
  | _ :: r, n + 1 => slot r n
def store : Env → Nat → W → Env
  | [], _, _ => []
  | _ :: r, 0, w => some w :: r
  | x :: r, n + 1, w => x :: store r n w
/-- slots forgotten -/
def wipe1 : Env → Nat → Env
  | [], _ => []
  | _ :: r, 0 => none :: r
  | x :: r, n + 1 => x :: wipe1 r n
def wipeE (σ : Env) : List Nat → Env
  | [] => σ
  | v :: vs => wipe1 (wipeE σ vs) v
/-! ### operations on values -/
inductive Ty where
  | int | bool | str | tuple | list | dict | none
  deriving DecidableEq
inductive P1 where
  | isN | notN | isB (b : Bool) | notB (b : Bool) | isi (t : Ty) | isiX (c : Nat) | isiV
  | neg | len | abs | int1 | sum | all | any | repr | listOf | lrng
inductive P2 where
  | add | sub | mul | fdiv | mod | pow | eq | ne | lt | le | gt | ge | get | min2 | max2
inductive IK where
  | seq | rng | rng2 | enum | zip
inductive MT where
  | append | extend | pop | popAt
/-- targets -/
inductive G where
  | one (i : Nat) | nil | cons (g gs : G) | tup (gs : G)
inductive E where
  | k (w : W)
  | var (i : Nat)
  | p1 (o : P1) (a : E)
  | p2 (o : P2) (a b : E)
  | cut (a : E) (bl : Bool) (lo : E) (bh : Bool) (hi : E)
  | and (a b : E) | or (a b : E) | not (a : E) | ite (c a b : E)
  | chn (o p : P2) (a b c : E)
  | nil | cons (a as : E) | spl (a as : E)
  | tup (as : E) | lst (as : E) | dnew
  | dcons (a b as : E) | dic (as : E)
  | call (f : Nat) (as : E)
  | mk (c : Nat) (as : E) | mkx (c : Nat) (a : E)
  | meth (m : Nat) (o as : E)
  | mt (m : MT) (o as : E)
  | fld (f : Nat) (a : E) | xval (a : E)
  | lc (own : List Nat) (g : G) (ik : IK) (a b : E) (cs : Bool) (c el : E)
inductive S where
  | skip | brk | cnt | seq (a b : S) | expr (e : E) | asg (g : G) (e : E) | par (i j : Nat) (a b : E)
  | setA (o : E) (f : Nat) (e : E) | setI (o i e : E)
  | aug (i : Nat) (o : P2) (e : E)
  | ite (c : E) (a b : S) | whl (c : E) (b : S) | for (g : G) (ik : IK) (a b : E) (s : S)
  | ret (e : E) | raise (c : Nat) (e : E)

def listMax : Nat := 100000
def strMax : Nat := 1000000
def bI (b : Bool) : Int := bif b then 1 else 0
def truth (h : Hv) : W → Option Bool
  | .non => some false
  | .bl b => some b
  | .int i => some (!(decide (i = 0)))
  | .str x => bif Nat.ble x.length strMax then some (!x.isEmpty) else none
  | .tup xs => some (!xs.isEmpty)
  | .ref n => (match h.get n with
    | some (.lst ws) => some (!ws.isEmpty)
    | some (.frz ws) => some (!ws.isEmpty)
    | some (.dic kvs) => some (!kvs.isEmpty)
    | _ => none)
  | _ => none
def eqAll (e : W → W → Option Bool) : List W → List W → Option Bool
  | [], [] => some true
  | x :: xs, y :: ys => (match e x y with
    | some b => (match eqAll e xs ys with
      | some c => some (b && c)
      | none => none)
    | none => none)
  | _, _ => some false
def cellOf (h : Hv) (n : Nat) : Option (List W) := match h.get n with
  | some (.lst ws) => some ws
  | some (.frz ws) => some ws
  | _ => none
/-- a value of another kind: unlike, where we know it -/
def offW (h : Hv) : W → Option Bool
  | .exc _ _ => none
  | .fn _ => none
  | .ref m => (match cellOf h m with | some _ => some false | none => none)
  | _ => some false
def eqW (h : Hv) : Nat → W → W → Option Bool
  | 0, _, _ => none
  | f + 1, x, y => match x with
    | .non => (match y with | .non => some true | y => offW h y)
    | .bl b => (match y with | .bl c => some (decide (b = c)) | .int j => some (decide (bI b = j)) | y => offW h y)
    | .int i => (match y with | .int j => some (decide (i = j)) | .bl c => some (decide (i = bI c)) | y => offW h y)
    | .str a => (match y with | .str b => some (decide (a = b)) | y => offW h y)
    | .tup xs => (match y with | .tup ys => eqAll (eqW h f) xs ys | y => offW h y)
    | .ref n => (match cellOf h n with
      | none => none
      | some xs => (match y with
        | .ref m => (match cellOf h m with
          | some ys => (bif Nat.beq xs.length ys.length then eqAll (eqW h f) xs ys else some false)
          | none => none)
        | y => offW h y))
    | _ => none
def ofB (h : Hv) : Option Bool → RE
  | some b => .ok (.bl b) h
  | none => .bad
def isLst (h : Hv) : W → Bool
  | .ref n => (match h.get n with | some (.lst _) => true | _ => false)
  | _ => false
/-- a list's, tuple's items -/
def itemsOf (h : Hv) : W → Option (List W)
  | .tup xs => some xs
  | .ref n => cellOf h n
  | _ => none
def sumI : List W → Option Int
  | [] => some 0
  | .int i :: r => (match sumI r with | some j => some (i + j) | none => none)
  | _ => none
def bools : List W → Option (List Bool)
  | [] => some []
  | .bl b :: r => (match bools r with | some l => some (b :: l) | none => none)
  | _ => none
def rngFrom (i : Int) : Nat → List W
  | 0 => []
  | n + 1 => .int i :: rngFrom (i + 1) n
def isTy (h : Hv) (t : Ty) : W → Option Bool
  | .non => some (decide (t = .none))
  | .bl _ => some (decide (t = .bool) || decide (t = .int))
  | .int _ => some (decide (t = .int))
  | .str _ => some (decide (t = .str))
  | .tup _ => some (decide (t = .tuple))
  | .ref n => (match h.get n with | some (.lst _) => some (decide (t = .list)) | some (.frz _) => some (decide (t = .list)) | some (.dic _) => some (decide (t = .dict)) | _ => none)
  | _ => none
def isErr : W → Option (Option Nat)
  | .exc c _ => some (some c)
  | .non => some none
  | .bl _ => some none
  | .int _ => some none
  | .str _ => some none
  | _ => none
/-! a value as data, for its text: a dict only of flat values -/
def flatD : W → Option PySem.PyData
  | .non => some .none
  | .bl b => some (.bool b)
  | .int i => some (.int i)
  | .str x => some (.str ⟨x.toArray⟩)
  | _ => none
def allD (e : W → Option PySem.PyData) : List W → Option (List PySem.PyData)
  | [] => some []
  | x :: xs => (match e x with
    | some d => (match allD e xs with | some ds => some (d :: ds) | none => none)
    | none => none)
def kvD : List (W × W) → Option (List (PySem.PyData × PySem.PyData))
  | [] => some []
  | (k, v) :: r => (match flatD k with
    | some a => (match flatD v with
      | some b => (match kvD r with | some ds => some ((a, b) :: ds) | none => none)
      | none => none)
    | none => none)
/-- no dict within a tuple or list -/
def dataL (h : Hv) : Nat → W → Option PySem.PyData
  | 0, _ => none
  | f + 1, x => match x with
    | .tup xs => (match allD (dataL h f) xs with | some ds => some (.tuple ds) | none => none)
    | .ref n => (match cellOf h n with
      | some ws => (match allD (dataL h f) ws with | some ds => some (.list ds) | none => none)
      | none => none)
    | x => flatD x
def dataW (h : Hv) (f : Nat) (x : W) : Option PySem.PyData := match x with
  | .ref n => (match h.get n with
    | some (.dic kvs) => (match kvD kvs with | some ds => some (.dict ds) | none => none)
    | _ => dataL h f x)
  | x => dataL h f x
/-- x[i:j] by Python's clipping -/
def clip (n d : Nat) : Option Int → Nat
  | none => d
  | some v => if v < 0 then (v + (n : Int)).toNat else min v.toNat n
/-- a slice's part: left out, or an int -/
def partW : Bool → W → Option (Option Int)
  | true, .int i => some (some i)
  | false, .non => some none
  | _, _ => none
def cutL (xs : List W) (lo hi : Option Int) : List W := (xs.drop (clip xs.length 0 lo)).take (clip xs.length xs.length hi - clip xs.length 0 lo)
def atW (xs : List W) (i : Int) : Option W := if 0 ≤ i then xs[i.toNat]? else if -(xs.length : Int) ≤ i then xs[(i + xs.length).toNat]? else none
def small64 (i : Int) : Bool := decide (-(2 ^ 64) < i) && decide (i < 2 ^ 64)
def p1 (h : Hv) : P1 → W → RE
  | .isN, x => .ok (.bl (match x with | .non => true | _ => false)) h
  | .notN, x => .ok (.bl (match x with | .non => false | _ => true)) h
  | .isB b, x => (match x with | .bl c => .ok (.bl (decide (c = b))) h | .non => .ok (.bl false) h | .int _ => .ok (.bl false) h | .str _ => .ok (.bl false) h | .tup _ => .ok (.bl false) h | _ => .bad)
  | .notB b, x => (match x with | .bl c => .ok (.bl (!decide (c = b))) h | .non => .ok (.bl true) h | .int _ => .ok (.bl true) h | .str _ => .ok (.bl true) h | .tup _ => .ok (.bl true) h | _ => .bad)
  | .isi t, x => ofB h (isTy h t x)
  | .isiX c, x => (match isErr x with | some (some d) => .ok (.bl (decide (d = c) || decide (c = 0))) h | some none => .ok (.bl false) h | none => .bad)
  | .isiV, x => (match isErr x with | some (some _) => .ok (.bl true) h | some none => .ok (.bl false) h | none => .bad)
  | .neg, x => (match x with | .int i => .ok (.int (-i)) h | _ => .bad)
  | .len, x => (match x with
    | .str z => bif Nat.ble z.length strMax then .ok (.int z.length) h else .bad
    | .tup xs => .ok (.int xs.length) h
    | .ref n => (match h.get n with | some (.lst ws) => .ok (.int ws.length) h | some (.frz ws) => .ok (.int ws.length) h | some (.dic kvs) => .ok (.int kvs.length) h | _ => .bad)
    | _ => .bad)
  | .abs, x => (match x with | .int i => .ok (.int (if i < 0 then -i else i)) h | _ => .bad)
  | .int1, x => (match x with | .int i => .ok (.int i) h | .bl b => .ok (.int (bI b)) h | _ => .bad)
  | .sum, x => (match x with | .ref n => (match cellOf h n with | some ws => (match sumI ws with | some i => .ok (.int i) h | none => .bad) | none => .bad) | _ => .bad)
  | .all, x => (match x with | .ref n => (match cellOf h n with | some ws => (match bools ws with | some l => .ok (.bl (l.all id)) h | none => .bad) | none => .bad) | _ => .bad)
  | .any, x => (match x with | .ref n => (match cellOf h n with | some ws => (match bools ws with | some l => .ok (.bl (l.any id)) h | none => .bad) | none => .bad) | _ => .bad)
  | .repr, x => (match dataW h 20 x with | some d => bif d.showable && Nat.ble d.depth 30 && Nat.ble d.shown.length strMax then .ok (.str d.shown.cps.toList) h else .bad | none => .bad)
  | .listOf, x => (match itemsOf h x with | some ws => bif Nat.blt h.n room && Nat.ble ws.length listMax then .ok (.ref h.n) (h.new (.lst ws)) else .bad | none => .bad)
  | .lrng, x => (match x with | .int i => bif Nat.blt h.n room && Nat.ble i.toNat listMax then .ok (.ref h.n) (h.new (.lst (rngFrom 0 i.toNat))) else .bad | _ => .bad)
def newL (h : Hv) (ws : List W) : RE := bif Nat.blt h.n room && Nat.ble ws.length listMax then .ok (.ref h.n) (h.new (.lst ws)) else .bad
def p2 (h : Hv) : P2 → W → W → RE
  | .add, x, y => (match x, y with
    | .int i, .int j => .ok (.int (i + j)) h
    | .str a, .str b => bif Nat.ble (a.length + b.length) strMax then .ok (.str (a ++ b)) h else .bad
    | .ref n, .ref m => (match h.get n with
      | some (.lst xs) => (match h.get m with
        | some (.lst ys) => newL h (xs ++ ys)
        | _ => .bad)
      | _ => .bad)
    | _, _ => .bad)
  | .sub, .int i, .int j => .ok (.int (i - j)) h
  | .mul, .int i, .int j => bif small64 i || small64 j then .ok (.int (i * j)) h else .bad
  | .fdiv, .int i, .int j => bif decide (0 < j) && decide (j < 1073741824) then .ok (.int (i / j)) h else .bad
  | .mod, .int i, .int j => bif decide (0 < j) then .ok (.int (i % j)) h else .bad
  | .pow, .int i, .int j => bif decide (0 ≤ j) && decide (j ≤ 1000) && decide (i.natAbs < 2 ^ 1000) then .ok (.int (i ^ j.toNat)) h else .bad
  | .eq, x, y => ofB h (eqW h 60 x y)
  | .ne, x, y => ofB h ((eqW h 60 x y).map (!·))
  | .lt, .int i, .int j => .ok (.bl (decide (i < j))) h
  | .le, .int i, .int j => .ok (.bl (decide (i ≤ j))) h
  | .gt, .int i, .int j => .ok (.bl (decide (j < i))) h
  | .ge, .int i, .int j => .ok (.bl (decide (j ≤ i))) h
  | .get, x, .int i => (match itemsOf h x with | some ws => (match atW ws i with | some w => .ok w h | none => .bad) | none => .bad)
  | .min2, .int i, .int j => .ok (.int (if j < i then j else i)) h
  | .max2, .int i, .int j => .ok (.int (if j > i then j else i)) h
  | _, _, _ => .bad
def cutW (h : Hv) (x : W) (lo hi : Option Int) : RE := match x with
  | .ref n => (match cellOf h n with | some ws => newL h (cutL ws lo hi) | none => .bad)
  | _ => .bad
def mtW (h : Hv) : MT → W → List W → RE
  | .append, .ref n, [w] => (match h.get n with | some (.lst ws) => bif Nat.blt ws.length listMax then .ok .non (h.put n (.lst (ws ++ [w]))) else .bad | _ => .bad)
  | _, _, _ => .bad
def fldOf (f : Nat) : List (Nat × W) → Option W
  | [] => none
  | (g, w) :: r => bif Nat.beq g f then some w else fldOf f r
def setFld (f : Nat) (w : W) : List (Nat × W) → List (Nat × W)
  | [] => [(f, w)]
  | (g, v) :: r => bif Nat.beq g f then (g, w) :: r else (g, v) :: setFld f w r
/-- a target takes a value -/
def assignG (h : Hv) : G → W → Env → Option Env
  | .one i, w, σ => some (store σ i w)
  | .tup gs, .tup ws, σ => assignG h gs (.tup ws) σ
  | .nil, .tup [], σ => some σ
  | .cons g gs, .tup (w :: ws), σ => (match assignG h g w σ with
    | some σ' => assignG h gs (.tup ws) σ'
    | none => none)
  | _, _, _ => none
/-! ### what is walked -/
inductive Sq where
  | lst (n : Nat) | val (ws : List W)
inductive It where
  | sq (q : Sq) | rng (lo : Int) (n : Nat) | enum (q : Sq) | zip (p q : Sq)
def sqOf (h : Hv) : W → Option Sq
  | .tup xs => some (.val xs)
  | .ref n => (match cellOf h n with | some _ => some (.lst n) | none => none)
  | _ => none
/-- none: no such list any more; some none: the end -/
def Sq.at (h : Hv) (i : Nat) : Sq → Option (Option W)
  | .val ws => some ws[i]?
  | .lst n => (match cellOf h n with | some ws => some ws[i]? | none => none)
def It.at (h : Hv) (i : Nat) : It → Option (Option W)
  | .sq q => q.at h i
  | .rng lo n => some (bif Nat.blt i n then some (.int (lo + i)) else none)
  | .enum q => (match q.at h i with | some (some w) => some (some (.tup [.int i, w])) | r => r)
  | .zip p q => (match p.at h i with
    | some (some w) => (match q.at h i with | some (some v) => some (some (.tup [w, v])) | r => r)
    | r => r)
def smallR (i : Int) : Bool := decide (-(2 ^ 62) ≤ i) && decide (i < 2 ^ 62)
def itOf (h : Hv) : IK → W → W → Option It
  | .seq, x, _ => (match sqOf h x with | some q => some (.sq q) | none => none)
  | .rng, .int j, _ => bif smallR j then some (.rng 0 j.toNat) else none
  | .rng2, .int i, .int j => bif smallR i && smallR j then some (.rng i (j - i).toNat) else none
  | .enum, x, _ => (match sqOf h x with | some q => some (.enum q) | none => none)
  | .zip, x, y => (match sqOf h x, sqOf h y with | some p, some q => some (.zip p q) | _, _ => none)
  | _, _, _ => none
abbrev Call := Nat → List W → Hv → RE
def listOfW : W → List W
  | .tup xs => xs
  | _ => []
/-- the turns of a comprehension: what is made so far, backwards -/
def lcGo (it : It) (el : Hv → W → Option (Option W × Hv)) : Nat → Nat → List W → Hv → Option (List W × Hv)
  | 0, _, _, _ => none
  | f + 1, i, acc, h => (match it.at h i with
    | none => none
    | some none => some (acc.reverse, h)
    | some (some x) => (match el h x with
      | none => none
      | some (none, h1) => lcGo it el f (i + 1) acc h1
      | some (some w, h1) => bif Nat.blt acc.length listMax then lcGo it el f (i + 1) (w :: acc) h1 else none))
def forGo (it : It) (body : Hv → W → Env → RS) : Nat → Nat → Env → Hv → RS
  | 0, _, _, _ => .bad
  | f + 1, i, σ, h => (match it.at h i with
    | none => .bad
    | some none => .next σ h
    | some (some x) => (match body h x σ with
      | .next σ1 h1 => forGo it body f (i + 1) σ1 h1
      | .cnt σ1 h1 => forGo it body f (i + 1) σ1 h1
      | .brk σ1 h1 => .next σ1 h1
      | r => r))
def whlGo (c : Env → Hv → RE) (body : Env → Hv → RS) : Nat → Env → Hv → RS
  | 0, _, _ => .bad
  | f + 1, σ, h => (match c σ h with
    | .ok w h1 => (match truth h1 w with
      | some true => (match body σ h1 with
        | .next σ2 h2 => whlGo c body f σ2 h2
        | .cnt σ2 h2 => whlGo c body f σ2 h2
        | .brk σ2 h2 => .next σ2 h2
        | r => r)
      | some false => .next σ h1
      | none => .bad)
    | .exc c w h1 => .exc σ c w h1
    | .bad => .bad)
/-- a key: an int or a text -/
def keyEq : W → W → Bool
  | .int i, .int j => decide (i = j)
  | .str x, .str y => decide (x = y)
  | _, _ => false
def isKey : W → Bool
  | .int _ => true
  | .str _ => true
  | _ => false
def hasK (k : W) : List (W × W) → Bool
  | [] => false
  | (k', _) :: r => bif keyEq k' k then true else hasK k r
def repK (k v : W) : List (W × W) → List (W × W)
  | [] => []
  | (k', v') :: r => bif keyEq k' k then (k', v) :: repK k v r else (k', v') :: repK k v r
def putW (k v : W) (l : List (W × W)) : List (W × W) := bif hasK k l then repK k v l else l ++ [(k, v)]
def mergeW (kvs : List (W × W)) : List (W × W) → List (W × W)
  | [] => kvs
  | (k, v) :: r => mergeW (putW k v kvs) r
def pairsW : List W → Option (List (W × W))
  | [] => some []
  | k :: v :: r => bif isKey k then (match pairsW r with | some l => some ((k, v) :: l) | none => none) else none
  | _ => none
section
variable (F : Nat) (call : Call)
def evE : E → Env → Hv → RE
  | .k w, _, h => .ok w h
  | .var i, σ, h => (match slot σ i with | some w => .ok w h | none => .bad)
  | .p1 o a, σ, h => (evE a σ h).bind fun x h1 => p1 h1 o x
  | .p2 o a b, σ, h => (evE a σ h).bind fun x h1 => (evE b σ h1).bind fun y h2 => p2 h2 o x y
  | .cut a bl lo bh hi, σ, h => (evE a σ h).bind fun x h1 => (evE lo σ h1).bind fun y h2 => (match partW bl y with
    | some l => (evE hi σ h2).bind fun z h3 => (match partW bh z with | some u => cutW h3 x l u | none => .bad)
    | none => .bad)
  | .and a b, σ, h => (evE a σ h).bind fun x h1 => (match truth h1 x with | some true => evE b σ h1 | some false => .ok x h1 | none => .bad)
  | .or a b, σ, h => (evE a σ h).bind fun x h1 => (match truth h1 x with | some true => .ok x h1 | some false => evE b σ h1 | none => .bad)
  | .not a, σ, h => (evE a σ h).bind fun x h1 => (match truth h1 x with | some t => .ok (.bl (!t)) h1 | none => .bad)
  | .ite c a b, σ, h => (evE c σ h).bind fun x h1 => (match truth h1 x with | some true => evE a σ h1 | some false => evE b σ h1 | none => .bad)
  | .chn o p a b c, σ, h => (evE a σ h).bind fun x h1 => (evE b σ h1).bind fun y h2 => (p2 h2 o x y).bind fun z h3 => (match z with
    | .bl true => (evE c σ h3).bind fun v h4 => p2 h4 p y v
    | .bl false => .ok (.bl false) h3
    | _ => .bad)
  | .nil, _, h => .ok (.tup []) h
  | .cons a as, σ, h => (evE a σ h).bind fun x h1 => (evE as σ h1).bind fun xs h2 => .ok (.tup (x :: listOfW xs)) h2
  | .spl a as, σ, h => (evE a σ h).bind fun x h1 => (match itemsOf h1 x with
    | some ws => (evE as σ h1).bind fun xs h2 => .ok (.tup (ws ++ listOfW xs)) h2
    | none => .bad)
  | .tup as, σ, h => (evE as σ h).bind fun x h1 => bif Nat.ble (listOfW x).length listMax then .ok (.tup (listOfW x)) h1 else .bad
  | .lst as, σ, h => (evE as σ h).bind fun x h1 => newL h1 (listOfW x)
  | .dnew, _, h => bif Nat.blt h.n room then .ok (.ref h.n) (h.new (.dic [])) else .bad
  | .dic as, σ, h => (evE as σ h).bind fun x h1 => (match pairsW (listOfW x) with | some kvs => bif Nat.blt h1.n room && Nat.ble kvs.length 15 then .ok (.ref h1.n) (h1.new (.dic (mergeW [] kvs))) else .bad | none => .bad)
  | .call f as, σ, h => (evE as σ h).bind fun x h1 => call f (listOfW x) h1
  | .mkx c a, σ, h => (evE a σ h).bind fun x h1 => .ok (.exc c x) h1
  | .mt m o as, σ, h => (evE o σ h).bind fun x h1 => (match isLst h1 x with | true => (evE as σ h1).bind fun xs h2 => mtW h2 m x (listOfW xs) | false => .bad)
  | .xval a, σ, h => (evE a σ h).bind fun x h1 => (match x with | .exc _ w => .ok w h1 | _ => .bad)
  | .lc own g ik a b cs c el, σ, h => (evE a σ h).bind fun x h1 => (evE b σ h1).bind fun y h2 => (match itOf h2 ik x y with
    | none => .bad
    | some it => (match lcGo it (fun h w => match assignG h g w (wipeE σ own) with
        | none => none
        | some σ1 => bif cs then (match evE c σ1 h with
            | .ok z h3 => (match truth h3 z with
              | some true => (match evE el σ1 h3 with | .ok v h4 => some (some v, h4) | _ => none)
              | some false => some (none, h3)
              | none => none)
            | _ => none)
          else (match evE el σ1 h with | .ok v h4 => some (some v, h4) | _ => none)) F 0 [] h2 with
      | some (ws, h5) => newL h5 ws
      | none => .bad))
  | _, _, _ => .bad
def setIW (h : Hv) (o i v : W) : Option Hv := match o, i with
  | .ref n, .int j => (match h.get n with
    | some (.lst ws) => if 0 ≤ j ∧ j < ws.length then some (h.put n (.lst (ws.set j.toNat v))) else none
    | _ => none)
  | _, _ => none
def RS.of (σ : Env) (r : RE) (f : W → Hv → RS) : RS := match r with
  | .ok w h => f w h
  | .exc c w h => .exc σ c w h
  | .bad => .bad
def evS : S → Env → Hv → RS
  | .skip, σ, h => .next σ h
  | .brk, σ, h => .brk σ h
  | .cnt, σ, h => .cnt σ h
  | .seq a b, σ, h => (match evS a σ h with | .next σ1 h1 => evS b σ1 h1 | r => r)
  | .expr e, σ, h => RS.of σ (evE F call e σ h) fun _ h1 => .next σ h1
  | .asg g e, σ, h => RS.of σ (evE F call e σ h) fun w h1 => (match assignG h1 g w σ with | some σ1 => .next σ1 h1 | none => .bad)
  | .par i j a b, σ, h => RS.of σ (evE F call a σ h) fun x h1 => RS.of σ (evE F call b σ h1) fun y h2 => .next (store (store σ i x) j y) h2
  | .setI o i e, σ, h => RS.of σ (evE F call e σ h) fun v h1 => RS.of σ (evE F call o σ h1) fun x h2 => RS.of σ (evE F call i σ h2) fun y h3 => (match setIW h3 x y v with | some h4 => .next σ h4 | none => .bad)
  | .aug i o e, σ, h => (match slot σ i with
    | some x => RS.of σ (evE F call e σ h) fun y h1 => RS.of σ (p2 h1 o x y) fun z h2 => .next (store σ i z) h2
    | none => .bad)
  | .ite c a b, σ, h => RS.of σ (evE F call c σ h) fun x h1 => (match truth h1 x with | some true => evS a σ h1 | some false => evS b σ h1 | none => .bad)
  | .whl c b, σ, h => whlGo (evE F call c) (evS b) F σ h
  | .for g ik a b s, σ, h => RS.of σ (evE F call a σ h) fun x h1 => RS.of σ (evE F call b σ h1) fun y h2 => (match itOf h2 ik x y with
    | none => .bad
    | some it => forGo it (fun h w σ => match assignG h g w σ with | some σ1 => evS s σ1 h | none => .bad) F 0 σ h2)
  | .ret e, σ, h => RS.of σ (evE F call e σ h) fun w h1 => .ret w h1
  | .raise c e, σ, h => RS.of σ (evE F call e σ h) fun w h1 => .exc σ c w h1
  | _, _, _ => .bad
end
/-- a def: how many slots, how many parameters, its body -/
structure Fn where
  slots : Nat
  pars : Nat
  body : S
def pad : Nat → List W → Env
  | 0, _ => []
  | n + 1, [] => none :: pad n []
  | n + 1, w :: ws => some w :: pad n ws
/-- calls, so many deep -/
def calls (P : Nat → Option Fn) (F : Nat) : Nat → Call
  | 0, _, _, _ => .bad
  | k + 1, f, ws, h => (match P f with
    | none => .bad
    | some d => bif Nat.beq ws.length d.pars then (match evS F (calls P F k) d.body (pad d.slots ws) h with
        | .ret w h1 => .ok w h1
        | .next _ h1 => .ok .non h1
        | .exc _ c w h1 => .exc c w h1
        | _ => .bad)
      else .bad)
/-- a heap with a list of ints, that is read -/
def heap0 (ns : List Int) : Hv := ⟨.node .nil (some (.frz (ns.map W.int))) .nil, 1⟩
end Iv
/-! Iv1: how the values and the heap of Iv0 stand for those of the layer. -/
namespace Iv
open PySem L2
/-- where the defs, the error classes stand -/
structure Tab where
  K : PySem.W.Frag
  nx : Nat
  fa : Nat → Addr
  ca : Nat → Addr
abbrev Rho := Nat → Option Addr
/-- a tuple that never changes: tracked and no place of ours, or written -/
def TupAt (T : Tab) (ρ : Rho) (H : Hp) (a : Addr) (vs : List V) : Prop :=
  (Rd H a (.tup vs) ∧ ∀ n, ρ n ≠ some a) ∨ (∃ (o : Obj) (its : Array Value) (n : Nat), T.K.lookup a = some o ∧ o.cls = .type "tuple" ∧ o.data = .seq its n ∧ its.size ≤ sizeLine ∧ Vals vs its.toList)
theorem TupAt.seq {T : Tab} {ρ : Rho} {H : Hp} {a : Addr} {vs : List V} (h : TupAt T ρ H a vs) : SqT T.K H a vs := h.elim (fun z => .inl z.1) .inr
mutual
inductive RelW (T : Tab) (ρ : Rho) (H : Hp) : W → V → Prop
  | non : RelW T ρ H .non .non
  | bl (b : Bool) : RelW T ρ H (.bl b) (.bl b)
  | int (i : Int) : RelW T ρ H (.int i) (.int i)
  | str (x : Tx) : RelW T ρ H (.str x) (.str ⟨x.toArray⟩)
  | tup {ws : List W} {a : Addr} {vs : List V} (h : TupAt T ρ H a vs) (r : RelWs T ρ H ws vs) : RelW T ρ H (.tup ws) (.ref a)
  | ref {n : Nat} {a : Addr} (h : ρ n = some a) : RelW T ρ H (.ref n) (.ref a)
  | fn (i : Nat) : RelW T ρ H (.fn i) (.ref (T.fa i))
  | exc {c : Nat} {w : W} {a d : Addr} {v : V} (hc : c < T.nx) (ha : H a = some (ErO (T.ca c) a d)) (hd : H d = some (.xd [(("value" : Str), v)])) (na : ∀ n, ρ n ≠ some a) (nd : ∀ n, ρ n ≠ some d) (r : RelW T ρ H w v) : RelW T ρ H (.exc c w) (.ref a)
inductive RelWs (T : Tab) (ρ : Rho) (H : Hp) : List W → List V → Prop
  | nil : RelWs T ρ H [] []
  | cons {w : W} {v : V} {ws : List W} {vs : List V} (r : RelW T ρ H w v) (rs : RelWs T ρ H ws vs) : RelWs T ρ H (w :: ws) (v :: vs)
end
/-- a dict's key -/
def keyW : Key → W
  | .inl i => .int i
  | .inr x => .str x.cps.toList
inductive RelKs (T : Tab) (ρ : Rho) (H : Hp) : List (W × W) → List (Key × V) → Prop
  | nil : RelKs T ρ H [] []
  | cons {k : Key} {w : W} {v : V} {ws : List (W × W)} {vs : List (Key × V)} (r : RelW T ρ H w v) (rs : RelKs T ρ H ws vs) : RelKs T ρ H ((keyW k, w) :: ws) ((k, v) :: vs)
def CellAt (T : Tab) (ρ : Rho) (H : Hp) (a : Addr) : Cell → Prop
  | .lst ws => ∃ vs, H a = some (.lst vs) ∧ RelWs T ρ H ws vs ∧ ws.length ≤ listMax
  | .frz ws => ∃ o vs, H a = some (.frz o (.lst vs)) ∧ RelWs T ρ H ws vs ∧ ws.length ≤ listMax
  | .dic kvs => ∃ vs, H a = some (.dK vs) ∧ RelKs T ρ H kvs vs
  | _ => False
structure HRel (T : Tab) (ρ : Rho) (h : Hv) (H : Hp) : Prop where
  cell : ∀ n a, ρ n = some a → ∃ c, h.get n = some c ∧ CellAt T ρ H a c
  inj : ∀ n m a, ρ n = some a → ρ m = some a → n = m
  lt : ∀ n a, ρ n = some a → n < h.n
  sz : h.n ≤ room
/-- what never changes -/
def Still : HO → Prop
  | .tup _ => True
  | .frz _ _ => True
  | .xd _ => True
  | .ext _ => True
  | _ => False
/-- from (ρ, H) on: places are kept, what is still and no place of ours is kept, new places are new -/
structure ExtW (ρ : Rho) (H : Hp) (ρ' : Rho) (H' : Hp) : Prop where
  le : ∀ n a, ρ n = some a → ρ' n = some a
  kp : ∀ b o, H b = some o → Still o → (∀ n, ρ n ≠ some b) → H' b = some o
  th : ∀ b o, H b = some o → ∃ o', H' b = some o'
  nw : ∀ n a, ρ' n = some a → (∃ m, ρ m = some a) ∨ ∀ o, H a = some o → ¬ Still o
section
variable {T : Tab} {ρ ρ' ρ1 : Rho} {H H' H1 : Hp} {h h' : Hv}
theorem ExtW.refl (ρ : Rho) (H : Hp) : ExtW ρ H ρ H := ⟨fun _ _ e => e, fun _ _ e _ _ => e, fun _ o e => ⟨o, e⟩, fun n _ e => .inl ⟨n, e⟩⟩
theorem ExtW.free (e : ExtW ρ H ρ' H') {b : Addr} {o : HO} (hb : H b = some o) (ho : Still o) (n : ∀ n, ρ n ≠ some b) : ∀ n, ρ' n ≠ some b := fun m z => by
  rcases e.nw m b z with ⟨k, q⟩ | q
  · exact n k q
  · exact q o hb ho
theorem ExtW.trans (e : ExtW ρ H ρ1 H1) (f : ExtW ρ1 H1 ρ' H') : ExtW ρ H ρ' H' where
  le := fun n a z => f.le n a (e.le n a z)
  kp := fun b o z q n => f.kp b o (e.kp b o z q n) q (e.free z q n)
  th := fun b o z => let ⟨o1, z1⟩ := e.th b o z; f.th b o1 z1
  nw := fun n a z => by
    rcases f.nw n a z with ⟨k, q⟩ | q
    · exact e.nw k a q
    · by_cases y : ∃ m, ρ m = some a
      · exact .inl y
      · exact .inr fun o hb ho => q o (e.kp a o hb ho fun m z => y ⟨m, z⟩) ho
/-- .. and all that is no place of ours -/
structure Ext (ρ : Rho) (H : Hp) (ρ' : Rho) (H' : Hp) : Prop extends ExtW ρ H ρ' H' where
  ks : ∀ b o, H b = some o → (∀ n, ρ n ≠ some b) → H' b = some o
  ns : ∀ n a, ρ' n = some a → (∃ m, ρ m = some a) ∨ H a = none
theorem Ext.refl (ρ : Rho) (H : Hp) : Ext ρ H ρ H := ⟨.refl ρ H, fun _ _ e _ => e, fun n _ e => .inl ⟨n, e⟩⟩
theorem Ext.free (e : Ext ρ H ρ' H') {b : Addr} {o : HO} (hb : H b = some o) (n : ∀ n, ρ n ≠ some b) : ∀ n, ρ' n ≠ some b := fun m z => by
  rcases e.ns m b z with ⟨k, q⟩ | q
  · exact n k q
  · rw [hb] at q; cases q
theorem Ext.trans (e : Ext ρ H ρ1 H1) (f : Ext ρ1 H1 ρ' H') : Ext ρ H ρ' H' := ⟨e.toExtW.trans f.toExtW, fun b o z n => f.ks b o (e.ks b o z n) (e.free z n), fun n a z => by
  rcases f.ns n a z with ⟨k, q⟩ | q
  · exact e.ns k a q
  · cases x : H a with
    | none => exact .inr rfl
    | some o =>
      obtain ⟨o', y⟩ := e.th a o x
      rw [q] at y; cases y⟩
theorem CellAt.there {a : Addr} {c : Cell} (x : CellAt T ρ H a c) : ∃ o, H a = some o := by
  cases c with
  | lst ws => obtain ⟨vs, e, _⟩ := x; exact ⟨_, e⟩
  | frz ws => obtain ⟨o, vs, e, _⟩ := x; exact ⟨_, e⟩
  | dic kvs => obtain ⟨vs, e, _⟩ := x; exact ⟨_, e⟩
  | ins c fs => exact x.elim
theorem HRel.there (R : HRel T ρ h H) : ∀ n a, ρ n = some a → ∃ o, H a = some o := fun n a e => by
  obtain ⟨c, _, x⟩ := R.cell n a e
  exact x.there
theorem TupAt.monoW {a : Addr} {vs : List V} (x : TupAt T ρ H a vs) (e : ExtW ρ H ρ' H') : TupAt T ρ' H' a vs := by
  rcases x with ⟨x | ⟨o, x⟩, n⟩ | x
  · exact .inl ⟨.inl (e.kp _ _ x trivial n), e.free x trivial n⟩
  · exact .inl ⟨.inr ⟨o, e.kp _ _ x trivial n⟩, e.free x trivial n⟩
  · exact .inr x
mutual
theorem RelW.monoW (e : ExtW ρ H ρ' H') : ∀ {w : W} {v : V}, RelW T ρ H w v → RelW T ρ' H' w v
  | _, _, .non => .non
  | _, _, .bl b => .bl b
  | _, _, .int i => .int i
  | _, _, .str x => .str x
  | _, _, .tup h r => .tup (h.monoW e) (RelWs.monoW e r)
  | _, _, .ref h => .ref (e.le _ _ h)
  | _, _, .fn i => .fn i
  | _, _, .exc hc ha hd na nd r => .exc hc (e.kp _ _ ha trivial na) (e.kp _ _ hd trivial nd) (e.free ha trivial na) (e.free hd trivial nd) (RelW.monoW e r)
theorem RelWs.monoW (e : ExtW ρ H ρ' H') : ∀ {ws : List W} {vs : List V}, RelWs T ρ H ws vs → RelWs T ρ' H' ws vs
  | _, _, .nil => .nil
  | _, _, .cons r rs => .cons (RelW.monoW e r) (RelWs.monoW e rs)
end
theorem RelKs.monoW (e : ExtW ρ H ρ' H') : ∀ {ws : List (W × W)} {vs : List (Key × V)}, RelKs T ρ H ws vs → RelKs T ρ' H' ws vs
  | _, _, .nil => .nil
  | _, _, .cons r rs => .cons (RelW.monoW e r) (RelKs.monoW e rs)
theorem RelW.mono {w : W} {v : V} (r : RelW T ρ H w v) (e : Ext ρ H ρ' H') : RelW T ρ' H' w v := RelW.monoW e.toExtW r
theorem RelWs.mono {ws : List W} {vs : List V} (r : RelWs T ρ H ws vs) (e : Ext ρ H ρ' H') : RelWs T ρ' H' ws vs := RelWs.monoW e.toExtW r
theorem RelKs.mono {ws : List (W × W)} {vs : List (Key × V)} (r : RelKs T ρ H ws vs) (e : Ext ρ H ρ' H') : RelKs T ρ' H' ws vs := RelKs.monoW e.toExtW r
theorem TupAt.mono {a : Addr} {vs : List V} (x : TupAt T ρ H a vs) (e : Ext ρ H ρ' H') : TupAt T ρ' H' a vs := x.monoW e.toExtW
theorem RelWs.length : ∀ {ws : List W} {vs : List V}, RelWs T ρ H ws vs → ws.length = vs.length
  | _, _, .nil => rfl
  | _, _, .cons _ rs => by rw [List.length_cons, List.length_cons, RelWs.length rs]
theorem RelKs.length : ∀ {ws : List (W × W)} {vs : List (Key × V)}, RelKs T ρ H ws vs → ws.length = vs.length
  | _, _, .nil => rfl
  | _, _, .cons _ rs => by rw [List.length_cons, List.length_cons, RelKs.length rs]
theorem RelWs.append : ∀ {ws xs : List W} {vs ys : List V}, RelWs T ρ H ws vs → RelWs T ρ H xs ys → RelWs T ρ H (ws ++ xs) (vs ++ ys)
  | _, _, _, _, .nil, s => s
  | _, _, _, _, .cons r rs, s => .cons r (RelWs.append rs s)
theorem RelWs.get : ∀ {ws : List W} {vs : List V} {i : Nat} {w : W}, RelWs T ρ H ws vs → ws[i]? = some w → ∃ v, vs[i]? = some v ∧ RelW T ρ H w v
  | _, _, _, _, .nil, e => by simp at e
  | _, _, 0, _, .cons r _, e => by simp at e; subst e; exact ⟨_, rfl, r⟩
  | _, _, i + 1, w, .cons _ rs, e => by
    obtain ⟨v, h1, h2⟩ := RelWs.get (i := i) (w := w) rs (by simpa using e)
    exact ⟨v, by simpa using h1, h2⟩
theorem RelWs.getV {ws : List W} {vs : List V} {i : Nat} {v : V} (r : RelWs T ρ H ws vs) (e : vs[i]? = some v) : ∃ w, ws[i]? = some w ∧ RelW T ρ H w v := by
  cases x : ws[i]? with
  | none =>
    have h1 := List.getElem?_eq_none_iff.mp x
    rw [r.length] at h1
    rw [List.getElem?_eq_none_iff.mpr h1] at e
    cases e
  | some w =>
    obtain ⟨v', e', q⟩ := r.get x
    rw [e] at e'; cases e'
    exact ⟨w, rfl, q⟩
theorem RelWs.set {w : W} {v : V} (q : RelW T ρ H w v) : ∀ {ws : List W} {vs : List V} (i : Nat), RelWs T ρ H ws vs → RelWs T ρ H (ws.set i w) (vs.set i v)
  | _, _, _, .nil => .nil
  | _, _, 0, .cons _ rs => .cons q rs
  | _, _, i + 1, .cons r rs => .cons r (RelWs.set q i rs)
theorem RelWs.take : ∀ {ws : List W} {vs : List V} (n : Nat), RelWs T ρ H ws vs → RelWs T ρ H (ws.take n) (vs.take n)
  | _, _, 0, _ => .nil
  | _, _, _ + 1, .nil => .nil
  | _, _, n + 1, .cons r t => .cons r (RelWs.take n t)
theorem RelWs.drop : ∀ {ws : List W} {vs : List V} (n : Nat), RelWs T ρ H ws vs → RelWs T ρ H (ws.drop n) (vs.drop n)
  | _, _, 0, r => r
  | _, _, _ + 1, .nil => .nil
  | _, _, n + 1, .cons _ t => RelWs.drop n t
theorem RelWs.reverse {ws : List W} {vs : List V} (r : RelWs T ρ H ws vs) : RelWs T ρ H ws.reverse vs.reverse := by
  induction ws generalizing vs with
  | nil => cases r; exact .nil
  | cons w ws ih =>
    cases r with
    | cons q rs =>
      rw [List.reverse_cons, List.reverse_cons]
      exact (ih rs).append (.cons q .nil)
theorem CellAt.monoW {a : Addr} {c : Cell} (x : CellAt T ρ H a c) (e : ExtW ρ H ρ' H') (ha : ∀ o, H a = some o → H' a = some o) : CellAt T ρ' H' a c := by
  cases c with
  | lst ws => obtain ⟨vs, q, r, l⟩ := x; exact ⟨vs, ha _ q, RelWs.monoW e r, l⟩
  | frz ws => obtain ⟨o, vs, q, r, l⟩ := x; exact ⟨o, vs, ha _ q, RelWs.monoW e r, l⟩
  | dic kvs => obtain ⟨vs, q, r⟩ := x; exact ⟨vs, ha _ q, RelKs.monoW e r⟩
  | ins c fs => exact x.elim
theorem CellAt.mono {a : Addr} {c : Cell} (x : CellAt T ρ H a c) (e : Ext ρ H ρ' H') (ha : ∀ o, H a = some o → H' a = some o) : CellAt T ρ' H' a c := x.monoW e.toExtW ha
/-- something that is no place of ours is laid -/
theorem Ext.laid {p : Addr} {o : HO} (hp : H p = none) : Ext ρ H ρ (upd H p o) where
  le := fun _ _ e => e
  kp := fun b u e _ _ => by rw [upd_ne (ne_of_none e hp)]; exact e
  th := fun b u e => ⟨u, by rw [upd_ne (ne_of_none e hp)]; exact e⟩
  nw := fun n _ e => .inl ⟨n, e⟩
  ks := fun b u e _ => by rw [upd_ne (ne_of_none e hp)]; exact e
  ns := fun n _ e => .inl ⟨n, e⟩
theorem HRel.laid (R : HRel T ρ h H) {p : Addr} {o : HO} (hp : H p = none) : HRel T ρ h (upd H p o) where
  cell := fun n a e => by
    obtain ⟨c, g, x⟩ := R.cell n a e
    exact ⟨c, g, x.mono (Ext.laid hp) fun u q => by rw [upd_ne (ne_of_none q hp)]; exact q⟩
  inj := R.inj
  lt := R.lt
  sz := R.sz
theorem HRel.notAt (R : HRel T ρ h H) {p : Addr} (hp : H p = none) : ∀ n, ρ n ≠ some p := fun n e => by
  obtain ⟨o, q⟩ := R.there n p e
  rw [hp] at q; cases q
def Rho.add (ρ : Rho) (n : Nat) (a : Addr) : Rho := fun m => if m = n then some a else ρ m
theorem Rho.add_same {n : Nat} {a : Addr} : Rho.add ρ n a n = some a := if_pos rfl
theorem Rho.add_ne {n m : Nat} {a : Addr} (h : m ≠ n) : Rho.add ρ n a m = ρ m := if_neg h
theorem Ext.add (R : HRel T ρ h H) {p : Addr} {o : HO} (hp : H p = none) : Ext ρ H (Rho.add ρ h.n p) (upd H p o) where
  le := fun n a e => by rw [Rho.add_ne (Nat.ne_of_lt (R.lt n a e))]; exact e
  kp := fun b u e _ _ => by rw [upd_ne (ne_of_none e hp)]; exact e
  ks := fun b u e _ => by rw [upd_ne (ne_of_none e hp)]; exact e
  th := fun b u e => ⟨u, by rw [upd_ne (ne_of_none e hp)]; exact e⟩
  nw := fun n a e => by
    by_cases q : n = h.n
    · subst q; rw [Rho.add_same] at e; cases e; exact .inr fun o z => by rw [hp] at z; cases z
    · rw [Rho.add_ne q] at e; exact .inl ⟨n, e⟩
  ns := fun n a e => by
    by_cases q : n = h.n
    · subst q; rw [Rho.add_same] at e; cases e; exact .inr hp
    · rw [Rho.add_ne q] at e; exact .inl ⟨n, e⟩
theorem upd_th {p : Addr} {o : HO} : ∀ b u, H b = some u → ∃ u', upd H p o b = some u' := fun b u e => by
  by_cases q : b = p
  · subst q; exact ⟨o, upd_same⟩
  · exact ⟨u, by rw [upd_ne q]; exact e⟩
/-- a thing that is there already, and not still, becomes ours -/
theorem ExtW.adopt (R : HRel T ρ h H) {p : Addr} {o o' : HO} (hp : H p = some o) (hs : ¬ Still o) : ExtW ρ H (Rho.add ρ h.n p) (upd H p o') where
  le := fun n a e => by rw [Rho.add_ne (Nat.ne_of_lt (R.lt n a e))]; exact e
  kp := fun b u e y _ => by
    by_cases c : b = p
    · subst c; rw [hp] at e; cases e; exact (hs y).elim
    · rw [upd_ne c]; exact e
  th := upd_th
  nw := fun n a e => by
    by_cases q : n = h.n
    · subst q; rw [Rho.add_same] at e; cases e; exact .inr fun u z => by rw [hp] at z; cases z; exact hs
    · rw [Rho.add_ne q] at e; exact .inl ⟨n, e⟩
/-- .. from a time when it was not there -/
theorem Ext.adopt {ρ0 : Rho} {H0 : Hp} (e : Ext ρ0 H0 ρ H) (R : HRel T ρ h H) {p : Addr} {o o' : HO} (h0 : H0 p = none) (hp : H p = some o) (hs : ¬ Still o) : Ext ρ0 H0 (Rho.add ρ h.n p) (upd H p o') where
  toExtW := e.toExtW.trans (ExtW.adopt R hp hs)
  ks := fun b u z n => by rw [upd_ne (ne_of_none z h0)]; exact e.ks b u z n
  ns := fun n a z => by
    by_cases q : n = h.n
    · subst q; rw [Rho.add_same] at z; cases z; exact .inr h0
    · rw [Rho.add_ne q] at z; exact e.ns n a z
/-- .. written -/
theorem Ext.wrote {ρ0 : Rho} {H0 : Hp} (e : Ext ρ0 H0 ρ H) {p : Addr} {o o' : HO} (h0 : H0 p = none) (hp : H p = some o) (hs : ¬ Still o) : Ext ρ0 H0 ρ (upd H p o') where
  le := e.le
  kp := fun b u z y n => by rw [upd_ne (ne_of_none z h0)]; exact e.kp b u z y n
  th := fun b u z => by rw [upd_ne (ne_of_none z h0)]; exact e.th b u z
  nw := e.nw
  ks := fun b u z n => by rw [upd_ne (ne_of_none z h0)]; exact e.ks b u z n
  ns := e.ns
theorem HRel.adopt (R : HRel T ρ h H) {p : Addr} {c : Cell} {o o' : HO} (hp : H p = some o) (hs : ¬ Still o) (np : ∀ n, ρ n ≠ some p) (hn : h.n < room) (x : CellAt T (Rho.add ρ h.n p) (upd H p o') p c) : HRel T (Rho.add ρ h.n p) (h.new c) (upd H p o') where
  cell := fun n a e => by
    by_cases q : n = h.n
    · subst q
      rw [Rho.add_same] at e; cases e
      exact ⟨c, by rw [Hv.get_new hn, if_pos rfl], x⟩
    · rw [Rho.add_ne q] at e
      obtain ⟨c', g, x'⟩ := R.cell n a e
      have na : a ≠ p := fun z => np n (by rw [← z]; exact e)
      exact ⟨c', by rw [Hv.get_new hn, if_neg q]; exact g, x'.monoW (ExtW.adopt R hp hs) fun u z => by rw [upd_ne na]; exact z⟩
  inj := fun n m a e1 e2 => by
    by_cases q : n = h.n
    · by_cases q' : m = h.n
      · rw [q, q']
      · subst q
        rw [Rho.add_same] at e1; cases e1
        rw [Rho.add_ne q'] at e2
        exact absurd e2 (np m)
    · rw [Rho.add_ne q] at e1
      by_cases q' : m = h.n
      · subst q'
        rw [Rho.add_same] at e2; cases e2
        exact absurd e1 (np n)
      · rw [Rho.add_ne q'] at e2
        exact R.inj n m a e1 e2
  lt := fun n a e => by
    by_cases q : n = h.n
    · subst q; exact Nat.lt_succ_self _
    · rw [Rho.add_ne q] at e; exact Nat.lt_succ_of_lt (R.lt n a e)
  sz := hn
/-- something that is no place of ours, and not still, is written -/
theorem HRel.wrote (R : HRel T ρ h H) {p : Addr} {o o' : HO} (hp : H p = some o) (hs : ¬ Still o) (np : ∀ n, ρ n ≠ some p) : HRel T ρ h (upd H p o') where
  cell := fun n a e => by
    obtain ⟨c', g, x'⟩ := R.cell n a e
    have na : a ≠ p := fun z => np n (by rw [← z]; exact e)
    exact ⟨c', g, x'.monoW ⟨fun _ _ e => e, fun b u z y _ => by
      by_cases c : b = p
      · subst c; rw [hp] at z; cases z; exact (hs y).elim
      · rw [upd_ne c]; exact z, upd_th, fun n _ e => .inl ⟨n, e⟩⟩ fun u z => by rw [upd_ne na]; exact z⟩
  inj := R.inj
  lt := R.lt
  sz := R.sz
/-- a new thing of ours -/
theorem HRel.newC (R : HRel T ρ h H) {p : Addr} {c : Cell} {o : HO} (hp : H p = none) (hn : h.n < room) (x : CellAt T (Rho.add ρ h.n p) (upd H p o) p c) : HRel T (Rho.add ρ h.n p) (h.new c) (upd H p o) where
  cell := fun n a e => by
    by_cases q : n = h.n
    · subst q
      rw [Rho.add_same] at e; cases e
      exact ⟨c, by rw [Hv.get_new hn, if_pos rfl], x⟩
    · rw [Rho.add_ne q] at e
      obtain ⟨c', g, x'⟩ := R.cell n a e
      exact ⟨c', by rw [Hv.get_new hn, if_neg q]; exact g, x'.mono (Ext.add R hp) fun u z => by rw [upd_ne (ne_of_none z hp)]; exact z⟩
  inj := fun n m a e1 e2 => by
    by_cases q : n = h.n
    · by_cases q' : m = h.n
      · rw [q, q']
      · subst q
        rw [Rho.add_same] at e1; cases e1
        rw [Rho.add_ne q'] at e2
        exact absurd e2 (R.notAt hp m)
    · rw [Rho.add_ne q] at e1
      by_cases q' : m = h.n
      · subst q'
        rw [Rho.add_same] at e2; cases e2
        exact absurd e1 (R.notAt hp n)
      · rw [Rho.add_ne q'] at e2
        exact R.inj n m a e1 e2
  lt := fun n a e => by
    by_cases q : n = h.n
    · subst q; exact Nat.lt_succ_self _
    · rw [Rho.add_ne q] at e; exact Nat.lt_succ_of_lt (R.lt n a e)
  sz := hn
theorem HRel.newL (R : HRel T ρ h H) {p : Addr} {ws : List W} {vs : List V} (hp : H p = none) (hn : h.n < room) (r : RelWs T ρ H ws vs) (hl : ws.length ≤ listMax) : HRel T (Rho.add ρ h.n p) (h.new (.lst ws)) (upd H p (.lst vs)) :=
  R.newC hp hn ⟨vs, upd_same, r.mono (Ext.add R hp), hl⟩
theorem HRel.newD (R : HRel T ρ h H) {p : Addr} {ws : List (W × W)} {vs : List (Key × V)} (hp : H p = none) (hn : h.n < room) (r : RelKs T ρ H ws vs) : HRel T (Rho.add ρ h.n p) (h.new (.dic ws)) (upd H p (.dK vs)) :=
  R.newC hp hn ⟨vs, upd_same, r.mono (Ext.add R hp)⟩
/-- a list of ours is written -/
theorem Ext.put (R : HRel T ρ h H) {n : Nat} {a : Addr} {o : HO} (e : ρ n = some a) : Ext ρ H ρ (upd H a o) where
  le := fun _ _ e => e
  kp := fun b u q _ z => by rw [upd_ne (fun y => z n (by rw [y]; exact e))]; exact q
  th := upd_th
  nw := fun n _ e => .inl ⟨n, e⟩
  ks := fun b u q z => by rw [upd_ne (fun y => z n (by rw [y]; exact e))]; exact q
  ns := fun n _ e => .inl ⟨n, e⟩
/-- a thing that is no place of ours, and not still, is written -/
theorem ExtW.write {a : Addr} {o o' : HO} (e : H a = some o) (q : ¬ Still o) : ExtW ρ H ρ (upd H a o') := ⟨fun _ _ e => e, fun b u z y _ => by
  by_cases c : b = a
  · subst c; rw [e] at z; cases z; exact (q y).elim
  · rw [upd_ne c]; exact z, upd_th, fun n _ e => .inl ⟨n, e⟩⟩
theorem HRel.putL (R : HRel T ρ h H) {n : Nat} {a : Addr} {ws : List W} {vs : List V} (e : ρ n = some a) (r : RelWs T ρ H ws vs) (hl : ws.length ≤ listMax) : HRel T ρ (h.put n (.lst ws)) (upd H a (.lst vs)) where
  cell := fun m b q => by
    have hnr : n < room := by exact Nat.lt_of_lt_of_le (R.lt n a e) R.sz
    by_cases z : m = n
    · subst z
      rw [e] at q; cases q
      exact ⟨.lst ws, by rw [Hv.get_put hnr, if_pos rfl], vs, upd_same, r.mono (Ext.put R e), hl⟩
    · obtain ⟨c, g, x⟩ := R.cell m b q
      have nb : b ≠ a := fun y => z (R.inj m n b q (by rw [y]; exact e))
      exact ⟨c, by rw [Hv.get_put hnr, if_neg z]; exact g, x.mono (Ext.put R e) fun u y => by rw [upd_ne nb]; exact y⟩
  inj := R.inj
  lt := R.lt
  sz := R.sz
end
end Iv
/-! Iv2: the operations on values are those of the layer. -/
namespace Iv
open PySem L2 PySem.SeqAt
/-- what is wanted of a result that was reckoned from (ρ, H) -/
def OutE (T : Tab) (ρ : Rho) (H : Hp) (r : RE) (Q : VK) (EX : XK) : Prop := match r with
  | .ok w h' => ∀ ρ' H' v, Ext ρ H ρ' H' → HRel T ρ' h' H' → RelW T ρ' H' w v → Q v H'
  | .exc c w h' => ∀ ρ' H' d v, Ext ρ H ρ' H' → HRel T ρ' h' H' → H' d = some (.xd [(("value" : Str), v)]) → (∀ n, ρ' n ≠ some d) → RelW T ρ' H' w v → EX (.ref (T.ca c)) (some d) H'
  | .bad => False
section
variable {T : Tab} {ρ ρ1 : Rho} {H H1 : Hp} {h h1 : Hv}
theorem OutE.ext {r : RE} {Q : VK} {EX : XK} (x : OutE T ρ H r Q EX) (e : Ext ρ H ρ1 H1) (R : HRel T ρ h H) (R1 : HRel T ρ1 h1 H1) : OutE T ρ1 H1 r Q EX := by
  cases r with
  | ok w h' => exact fun ρ' H' v f R' rv => x ρ' H' v (e.trans f) R' rv
  | exc c w h' => exact fun ρ' H' d v f R' hd nd rv => x ρ' H' d v (e.trans f) R' hd nd rv
  | bad => exact x
/-- a plain answer, the heap as it is -/
theorem OutE.here {w : W} {v : V} {Q : VK} {EX : XK} (x : OutE T ρ H (.ok w h) Q EX) (R : HRel T ρ h H) (r : RelW T ρ H w v) : Q v H := x ρ H v (Ext.refl ρ H) R r
/-- a new list -/
theorem OutE.newL {ws : List W} {vs : List V} {Q : VK} {EX : XK} (x : OutE T ρ H (Iv.newL h ws) Q EX) (R : HRel T ρ h H) (r : RelWs T ρ H ws vs) : vs.length ≤ listMax ∧ ∀ p, H p = none → Q (.ref p) (upd H p (.lst vs)) := by
  unfold Iv.newL at x
  cases c : (Nat.blt h.n room && Nat.ble ws.length listMax) with
  | false => rw [c] at x; exact x.elim
  | true =>
    rw [c] at x
    obtain ⟨c1, c2⟩ := Bool.and_eq_true_iff.mp c
    have n1 : h.n < room := Nat.le_of_ble_eq_true c1
    have n2 : ws.length ≤ listMax := Nat.le_of_ble_eq_true c2
    refine ⟨by rw [← r.length]; exact n2, fun p hp => ?_⟩
    exact x (Rho.add ρ h.n p) _ _ (Ext.add R hp) (R.newL hp n1 r n2) (.ref Rho.add_same)
theorem listMax_line : listMax ≤ sizeLine := by rw [sizeLine_eq]; decide
theorem HRel.list (R : HRel T ρ h H) {n : Nat} {a : Addr} {ws : List W} (e : ρ n = some a) (c : cellOf h n = some ws) : ∃ vs, SqL T.K H a vs ∧ RelWs T ρ H ws vs ∧ ws.length ≤ listMax := by
  obtain ⟨cl, g, x⟩ := R.cell n a e
  unfold cellOf at c
  rw [g] at c
  cases cl with
  | lst xs => cases c; obtain ⟨vs, e, r, l⟩ := x; exact ⟨vs, .inl (.inl e), r, l⟩
  | frz xs => cases c; obtain ⟨o, vs, e, r, l⟩ := x; exact ⟨vs, .inl (.inr ⟨o, e⟩), r, l⟩
  | dic kvs => cases c
  | ins c fs => cases c
theorem HRel.lst (R : HRel T ρ h H) {n : Nat} {a : Addr} {ws : List W} (e : ρ n = some a) (c : h.get n = some (.lst ws)) : ∃ vs, H a = some (.lst vs) ∧ RelWs T ρ H ws vs ∧ ws.length ≤ listMax := by
  obtain ⟨cl, g, x⟩ := R.cell n a e
  rw [g] at c
  cases c
  exact x
end
/-! ### == -/
section
variable {T : Tab} {ρ : Rho} {H : Hp} {h : Hv} {X : Cx} {pins : List (Addr × Obj)} {σ : L2.St} {s : Shared}
theorem eqAll_all {e : W → W → Option Bool} : ∀ {xs ys : List W} {b : Bool}, eqAll e xs ys = some b → ∃ k : Nat → Bool, (∀ j x y, xs[j]? = some x → ys[j]? = some y → e x y = some (k j)) ∧ b = ((List.range (min xs.length ys.length)).all k && xs.length == ys.length)
  | [], [], b, h => ⟨fun _ => true, fun j x y hx => by simp at hx, by cases h; rfl⟩
  | [], y :: ys, b, h => ⟨fun _ => true, fun j x y hx => by simp at hx, by cases h; simp⟩
  | x :: xs, [], b, h => ⟨fun _ => true, fun j x y _ hy => by simp at hy, by cases h; simp⟩
  | x :: xs, y :: ys, b, h => by
    unfold eqAll at h
    cases e1 : e x y with
    | none => rw [e1] at h; cases h
    | some b1 =>
      rw [e1] at h
      cases e2 : eqAll e xs ys with
      | none => rw [e2] at h; cases h
      | some c =>
        rw [e2] at h
        cases h
        obtain ⟨k, hk, hc⟩ := eqAll_all e2
        refine ⟨fun j => match j with | 0 => b1 | j + 1 => k j, fun j x' y' hx hy => ?_, ?_⟩
        · cases j with
          | zero => simp at hx hy; subst hx; subst hy; exact e1
          | succ j => exact hk j x' y' (by simpa using hx) (by simpa using hy)
        · have : min (x :: xs).length (y :: ys).length = min xs.length ys.length + 1 := by simp only [List.length_cons]; omega
          rw [this, List.range_succ_eq_map, List.all_cons, List.all_map, hc]
          have e3 : ((x :: xs).length == (y :: ys).length) = (xs.length == ys.length) := by simp
          rw [e3, Bool.and_assoc]
          rfl
theorem eqAll_true {e : W → W → Option Bool} : ∀ {xs ys : List W} {vs : List V} {b : Bool}, (∀ x y v b, RelW T ρ H x v → RelW T ρ H y v → e x y = some b → b = true) → RelWs T ρ H xs vs → RelWs T ρ H ys vs → eqAll e xs ys = some b → b = true
  | _, _, _, _, _, .nil, .nil, h => by cases h; rfl
  | _, _, _, _, k, .cons (w := x) r rs, .cons (w := y) q qs, h => by
    unfold eqAll at h
    cases e1 : e x y with
    | none => rw [e1] at h; cases h
    | some b1 =>
      rw [e1] at h
      dsimp only at h
      split at h
      · rename_i c e2
        cases h
        rw [k _ _ _ _ r q e1, eqAll_true k rs qs e2]
        rfl
      · cases h
theorem bI_ite (b : Bool) : bI b = (if b = true then (1 : Int) else 0) := by cases b <;> rfl
theorem TupAt.of (I : Inv X pins σ H s) (hK : T.K = X.K) {a : Addr} {vs : List V} (x : TupAt T ρ H a vs) : ∃ its : List Value, Vals vs its ∧ PyProof.Rows.IsTup s.heap a its.toArray ∧ vs.length ≤ sizeLine := I.tuple (by rw [← hK]; exact x.seq)
theorem eqW_same (I : Inv X pins σ H s) (hK : T.K = X.K) (R : HRel T ρ h H) : ∀ (f : Nat) (x y : W) (v : V) (b : Bool), RelW T ρ H x v → RelW T ρ H y v → eqW h f x y = some b → b = true
  | 0, _, _, _, _, _, _, e => by cases e
  | f + 1, x, y, v, b, rx, ry, e => by
    cases rx with
    | non => cases ry; cases e; rfl
    | bl c => cases ry; simp [eqW] at e; exact e
    | int i => cases ry; simp [eqW] at e; exact e
    | str z =>
      cases ry; simp [eqW] at e; exact e
    | tup hx r =>
      cases ry with
      | tup hy q =>
        have e' : eqAll (eqW h f) _ _ = some b := e
        have := I.tuple_inj (by rw [← hK]; exact hx.seq) (by rw [← hK]; exact hy.seq)
        subst this
        exact eqAll_true (fun x y v b r1 r2 => eqW_same I hK R f x y v b r1 r2) r q e'
      | ref hy =>
        exfalso
        obtain ⟨o, z⟩ := R.there _ _ hy
        rcases hx with ⟨x, n⟩ | ⟨o', its, n, hk, _⟩
        · exact n _ hy
        · rw [hK] at hk
          obtain ⟨_, n⟩ := I.bs _ o' (I.mod.kin _ _ hk)
          rw [n] at z; cases z
      | fn i => simp [eqW, offW] at e
      | exc hc ha hd na nd r => simp [eqW, offW] at e
    | ref hx =>
      cases ry with
      | tup hy q =>
        exfalso
        obtain ⟨o, z⟩ := R.there _ _ hx
        rcases hy with ⟨x, n⟩ | ⟨o', its, n, hk, _⟩
        · exact n _ hx
        · rw [hK] at hk
          obtain ⟨_, n⟩ := I.bs _ o' (I.mod.kin _ _ hk)
          rw [n] at z; cases z
      | ref hy =>
        have := R.inj _ _ _ hx hy
        subst this
        simp only [eqW] at e
        split at e
        · cases e
        · rename_i xs e1
          rw [e1] at e
          dsimp only at e
          rw [show Nat.beq xs.length xs.length = true from Nat.beq_refl _] at e
          obtain ⟨vs, _, r, _⟩ := R.list hx e1
          exact eqAll_true (fun x y v b r1 r2 => eqW_same I hK R f x y v b r1 r2) r r e
      | fn i => simp only [eqW, offW] at e; split at e <;> cases e
      | exc hc ha hd na nd r => simp only [eqW, offW] at e; split at e <;> cases e
    | fn i => cases e
    | exc hc ha hd na nd r => cases e
theorem HRel.apart (R : HRel T ρ h H) (I : Inv X pins σ H s) (hK : T.K = X.K) {n : Nat} {a b : Addr} {vs : List V} (e : ρ n = some a) (x : TupAt T ρ H b vs) : a ≠ b := by
  rintro rfl
  obtain ⟨o, z⟩ := R.there _ _ e
  rcases x with ⟨x, q⟩ | ⟨o', its, m, hk, _⟩
  · exact q _ e
  · rw [hK] at hk
    obtain ⟨_, q⟩ := I.bs _ o' (I.mod.kin _ _ hk)
    rw [q] at z; cases z
theorem bool_of {A : Around} {x y : Value} {b c : Bool} (h : RcAt A s x y b ∧ EqAt A s x y b) (e : b = c) : RcAt A s x y c ∧ EqAt A s x y c := e ▸ h
theorem strDec (x y : Tx) : decide (x = y) = ((⟨x.toArray⟩ : Str) == ⟨y.toArray⟩) := by
  rw [← str_beq]
  by_cases e : x = y
  · subst e; simp
  · rw [decide_eq_false e]
    exact (beq_eq_false_iff_ne.mpr (by simpa using e)).symm
theorem intDec (i j : Int) : decide (i = j) = (i == j) := by
  by_cases e : i = j
  · subst e; simp
  · rw [decide_eq_false e]; exact (beq_eq_false_iff_ne.mpr e).symm
/-- == of two values: both answers -/
theorem eqW_sound (I : Inv X pins σ H s) (hK : T.K = X.K) (R : HRel T ρ h H) : ∀ (f : Nat) (A : Around) (x y : W) (v u : V) (vv uu : Value) (b : Bool), A.units + f < cLine → RelW T ρ H x v → RelW T ρ H y u → RelV v vv → RelV u uu → eqW h f x y = some b → RcAt A s vv uu b ∧ EqAt A s vv uu b
  | 0, _, _, _, _, _, _, _, _, _, _, _, _, _, e => by cases e
  | f + 1, A, x, y, v, u, vv, uu, b, hu, rx, ry, rv, ru, e => by
    have hu1 : A.units < cLine := by omega
    have ih := fun A x y v u vv uu b hu => eqW_sound I hK R f A x y v u vv uu b hu
    have hin : A.in1.units + f < cLine := by show A.units + 1 + f < cLine; omega
    -- the items of two walked things
    have items : ∀ {xs ys : List W} {vs us : List V} {its its2 : List Value} {k : Nat → Bool}, RelWs T ρ H xs vs → RelWs T ρ H ys us → Vals vs its → Vals us its2 → (∀ j x y, xs[j]? = some x → ys[j]? = some y → eqW h f x y = some (k j)) →
        ∀ j (h1 : j < its.toArray.size) (h2 : j < its2.toArray.size), EqAt A.in1 s its.toArray[j] its2.toArray[j] (k j) := fun {xs ys vs us its its2 k} r q r1 r2 hk j h1 h2 => by
      have l1 : j < its.length := by simpa using h1
      have l2 : j < its2.length := by simpa using h2
      obtain ⟨v1, e1⟩ : ∃ v1, vs[j]? = some v1 := ⟨_, List.getElem?_eq_getElem (by rw [r1.length]; exact l1)⟩
      obtain ⟨u1, e2⟩ : ∃ u1, us[j]? = some u1 := ⟨_, List.getElem?_eq_getElem (by rw [r2.length]; exact l2)⟩
      obtain ⟨x1, e3, q1⟩ := r.getV e1
      obtain ⟨y1, e4, q2⟩ := q.getV e2
      obtain ⟨w1, e5, q3⟩ := r1.get e1
      obtain ⟨w2, e6, q4⟩ := r2.get e2
      have z1 : its.toArray[j] = w1 := by have := List.getElem?_eq_getElem l1; rw [e5] at this; simpa using (Option.some.inj this).symm
      have z2 : its2.toArray[j] = w2 := by have := List.getElem?_eq_getElem l2; rw [e6] at this; simpa using (Option.some.inj this).symm
      rw [z1, z2]
      exact (ih A.in1 x1 y1 v1 u1 w1 w2 _ hin q1 q2 q3 q4 (hk j x1 y1 e3 e4)).2
    -- a list of ours
    have lst : ∀ {n : Nat} {a : Addr} {ws : List W}, ρ n = some a → cellOf h n = some ws → ∃ vs its, RelWs T ρ H ws vs ∧ Vals vs its ∧ s.heap.IsList a its.toArray := fun {n a ws} e1 e2 => by
      obtain ⟨vs, hq, r, _⟩ := R.list e1 e2
      obtain ⟨its, r1, p, _⟩ := I.list (by rw [← hK]; exact hq)
      exact ⟨vs, its, r, r1, p.isList⟩
    cases rx with
    | non =>
      cases (show vv = Value.none from rv)
      cases ry with
      | non => cases (show uu = Value.none from ru); cases e; exact ⟨RcAt.none_none, EqAt.same _⟩
      | bl c => cases (show uu = Value.bool c from ru); cases e; exact ⟨RcAt.none_bool c, EqAt.none_bool c⟩
      | int j => obtain ⟨t, rfl⟩ := ru; cases e; exact ⟨RcAt.none_int j t, EqAt.none_int j t⟩
      | str z => obtain ⟨t, rfl⟩ := ru; cases e; exact ⟨RcAt.none_str _ t, EqAt.none_str _ t⟩
      | tup hy q => cases (show uu = Value.ref _ from ru); cases e; obtain ⟨its, _, p, _⟩ := hy.of I hK; exact ⟨RcAt.none_tuple p hu1, EqAt.none_tuple p hu1⟩
      | @ref m a hy =>
        cases (show uu = Value.ref _ from ru)
        have e' : offW h (.ref m) = some b := e
        unfold offW at e'
        dsimp only at e'
        cases c : cellOf h m with
        | none => rw [c] at e'; cases e'
        | some ws =>
          rw [c] at e'; cases e'
          obtain ⟨_, _, _, _, p⟩ := lst hy c
          exact ⟨RcAt.none_list p hu1, EqAt.none_list p hu1⟩
      | fn i => simp [eqW, offW] at e
      | exc hc ha hd na nd r => simp [eqW, offW] at e
    | bl c1 =>
      cases (show vv = Value.bool c1 from rv)
      cases ry with
      | non => cases (show uu = Value.none from ru); cases e; exact ⟨RcAt.bool_none c1, EqAt.bool_none c1⟩
      | bl c =>
        cases (show uu = Value.bool c from ru); cases e
        exact bool_of ⟨RcAt.bool_bool c1 c, EqAt.bool_bool c1 c⟩ (by cases c1 <;> cases c <;> rfl)
      | int j =>
        obtain ⟨t, rfl⟩ := ru; cases e
        exact bool_of ⟨RcAt.bool_int c1 j t, EqAt.bool_int c1 j t⟩ (by rw [intDec, bI_ite])
      | str z => obtain ⟨t, rfl⟩ := ru; cases e; exact ⟨RcAt.bool_str c1 _ t, EqAt.bool_str c1 _ t⟩
      | tup hy q => cases (show uu = Value.ref _ from ru); cases e; obtain ⟨its, _, p, _⟩ := hy.of I hK; exact ⟨RcAt.bool_tuple c1 p hu1, EqAt.bool_tuple c1 p hu1⟩
      | @ref m a hy =>
        cases (show uu = Value.ref _ from ru)
        have e' : offW h (.ref m) = some b := e
        unfold offW at e'
        dsimp only at e'
        cases c : cellOf h m with
        | none => rw [c] at e'; cases e'
        | some ws =>
          rw [c] at e'; cases e'
          obtain ⟨_, _, _, _, p⟩ := lst hy c
          exact ⟨RcAt.bool_list c1 p hu1, EqAt.bool_list c1 p hu1⟩
      | fn i => simp [eqW, offW] at e
      | exc hc ha hd na nd r => simp [eqW, offW] at e
    | int i1 =>
      obtain ⟨t1, rfl⟩ := rv
      cases ry with
      | non => cases (show uu = Value.none from ru); cases e; exact ⟨RcAt.int_none i1 t1, EqAt.int_none i1 t1⟩
      | bl c =>
        cases (show uu = Value.bool c from ru); cases e
        exact bool_of ⟨RcAt.int_bool i1 t1 c, EqAt.int_bool i1 t1 c⟩ (by rw [intDec, bI_ite])
      | int j =>
        obtain ⟨t, rfl⟩ := ru; cases e
        exact bool_of ⟨RcAt.int_int i1 t1 j t, EqAt.int_int i1 t1 j t⟩ (intDec i1 j).symm
      | str z => obtain ⟨t, rfl⟩ := ru; cases e; exact ⟨RcAt.int_str i1 t1 _ t, EqAt.int_str i1 t1 _ t⟩
      | tup hy q => cases (show uu = Value.ref _ from ru); cases e; obtain ⟨its, _, p, _⟩ := hy.of I hK; exact ⟨RcAt.int_tuple i1 t1 p hu1, EqAt.int_tuple i1 t1 p hu1⟩
      | @ref m a hy =>
        cases (show uu = Value.ref _ from ru)
        have e' : offW h (.ref m) = some b := e
        unfold offW at e'
        dsimp only at e'
        cases c : cellOf h m with
        | none => rw [c] at e'; cases e'
        | some ws =>
          rw [c] at e'; cases e'
          obtain ⟨_, _, _, _, p⟩ := lst hy c
          exact ⟨RcAt.int_list i1 t1 p hu1, EqAt.int_list i1 t1 p hu1⟩
      | fn i => simp [eqW, offW] at e
      | exc hc ha hd na nd r => simp [eqW, offW] at e
    | str z1 =>
      obtain ⟨t1, rfl⟩ := rv
      cases ry with
      | non => cases (show uu = Value.none from ru); cases e; exact ⟨RcAt.str_none _ t1, EqAt.str_none _ t1⟩
      | bl c => cases (show uu = Value.bool c from ru); cases e; exact ⟨RcAt.str_bool _ t1 c, EqAt.str_bool _ t1 c⟩
      | int j => obtain ⟨t, rfl⟩ := ru; cases e; exact ⟨RcAt.str_int _ t1 j t, EqAt.str_int _ t1 j t⟩
      | str z =>
        obtain ⟨t, rfl⟩ := ru; cases e
        exact bool_of ⟨RcAt.str_str _ t1 _ t, EqAt.str_str _ t1 _ t⟩ (strDec z1 z).symm
      | tup hy q => cases (show uu = Value.ref _ from ru); cases e; obtain ⟨its, _, p, _⟩ := hy.of I hK; exact ⟨RcAt.str_tuple _ t1 p hu1, EqAt.str_tuple _ t1 p hu1⟩
      | @ref m a hy =>
        cases (show uu = Value.ref _ from ru)
        have e' : offW h (.ref m) = some b := e
        unfold offW at e'
        dsimp only at e'
        cases c : cellOf h m with
        | none => rw [c] at e'; cases e'
        | some ws =>
          rw [c] at e'; cases e'
          obtain ⟨_, _, _, _, p⟩ := lst hy c
          exact ⟨RcAt.str_list _ t1 p hu1, EqAt.str_list _ t1 p hu1⟩
      | fn i => simp [eqW, offW] at e
      | exc hc ha hd na nd r => simp [eqW, offW] at e
    | @tup xs a vs hx rr =>
      cases (show vv = Value.ref _ from rv)
      obtain ⟨its, r1, p, _⟩ := hx.of I hK
      cases ry with
      | non => cases (show uu = Value.none from ru); cases e; exact ⟨RcAt.tuple_none p hu1, EqAt.tuple_none p hu1⟩
      | bl c => cases (show uu = Value.bool c from ru); cases e; exact ⟨RcAt.tuple_bool c p hu1, EqAt.tuple_bool c p hu1⟩
      | int j => obtain ⟨t, rfl⟩ := ru; cases e; exact ⟨RcAt.tuple_int j t p hu1, EqAt.tuple_int j t p hu1⟩
      | str z => obtain ⟨t, rfl⟩ := ru; cases e; exact ⟨RcAt.tuple_str _ t p hu1, EqAt.tuple_str _ t p hu1⟩
      | @tup ys a2 us hy q =>
        cases (show uu = Value.ref _ from ru)
        obtain ⟨its2, r2, p2, _⟩ := hy.of I hK
        have e' : eqAll (eqW h f) xs ys = some b := e
        obtain ⟨k, hk, hb⟩ := eqAll_all e'
        have rc : RcAt A s (.ref a) (.ref a2) b := by
          have z := RcAt.tuples (e := k) p p2 hu1 (items rr q r1 r2 hk)
          have l1 : its.toArray.size = xs.length := by rw [List.size_toArray, ← r1.length, ← rr.length]
          have l2 : its2.toArray.size = ys.length := by rw [List.size_toArray, ← r2.length, ← q.length]
          rw [l1, l2] at z
          rw [hb]; exact z
        refine ⟨rc, ?_⟩
        by_cases ne : a = a2
        · subst ne
          have := I.tuple_inj (by rw [← hK]; exact hx.seq) (by rw [← hK]; exact hy.seq)
          subst this
          have bt := eqAll_true (fun x y v b r1 r2 => eqW_same I hK R f x y v b r1 r2) rr q e'
          rw [bt]; exact EqAt.same _
        · exact EqAt.of_refs ne rc
      | @ref m a2 hy =>
        cases (show uu = Value.ref _ from ru)
        have e' : offW h (.ref m) = some b := e
        unfold offW at e'
        dsimp only at e'
        cases c : cellOf h m with
        | none => rw [c] at e'; cases e'
        | some ws =>
          rw [c] at e'; cases e'
          obtain ⟨_, _, _, _, p2⟩ := lst hy c
          exact ⟨RcAt.tuple_list p p2 hu1, EqAt.tuple_list p p2 hu1⟩
      | fn i => simp [eqW, offW] at e
      | exc hc ha hd na nd r => simp [eqW, offW] at e
    | @ref n a hx =>
      cases (show vv = Value.ref _ from rv)
      simp only [eqW] at e
      cases c1 : cellOf h n with
      | none => rw [c1] at e; cases e
      | some xs =>
        rw [c1] at e
        dsimp only at e
        obtain ⟨vs, its, rr, r1, p⟩ := lst hx c1
        cases ry with
        | non => cases (show uu = Value.none from ru); cases e; exact ⟨RcAt.list_none p hu1, EqAt.list_none p hu1⟩
        | bl c => cases (show uu = Value.bool c from ru); cases e; exact ⟨RcAt.list_bool c p hu1, EqAt.list_bool c p hu1⟩
        | int j => obtain ⟨t, rfl⟩ := ru; cases e; exact ⟨RcAt.list_int j t p hu1, EqAt.list_int j t p hu1⟩
        | str z => obtain ⟨t, rfl⟩ := ru; cases e; exact ⟨RcAt.list_str _ t p hu1, EqAt.list_str _ t p hu1⟩
        | @tup ys a2 us hy q =>
          cases (show uu = Value.ref _ from ru); cases e
          obtain ⟨its2, r2, p2, _⟩ := hy.of I hK
          exact ⟨RcAt.list_tuple p p2 hu1, EqAt.list_tuple p p2 hu1⟩
        | @ref m a2 hy =>
          cases (show uu = Value.ref _ from ru)
          dsimp only at e
          cases c2 : cellOf h m with
          | none => rw [c2] at e; cases e
          | some ys =>
            rw [c2] at e
            dsimp only at e
            obtain ⟨us, its2, q, r2, p2⟩ := lst hy c2
            have l1 : its.toArray.size = xs.length := by rw [List.size_toArray, ← r1.length, ← rr.length]
            have l2 : its2.toArray.size = ys.length := by rw [List.size_toArray, ← r2.length, ← q.length]
            have same : a = a2 → b = true := fun ea => by
              subst ea
              have nm := R.inj _ _ _ hx hy
              subst nm
              rw [c1] at c2; cases c2
              rw [show Nat.beq xs.length xs.length = true from Nat.beq_refl _] at e
              exact eqAll_true (fun x y v b r1 r2 => eqW_same I hK R f x y v b r1 r2) rr rr e
            have rc : RcAt A s (.ref a) (.ref a2) b := by
              cases cl : Nat.beq xs.length ys.length with
              | true =>
                rw [cl] at e
                obtain ⟨k, hk, hb⟩ := eqAll_all e
                have el : xs.length = ys.length := Nat.eq_of_beq_eq_true cl
                have z := RcAt.lists (e := k) p p2 (by rw [l1, l2, el]) hu1 (items rr q r1 r2 hk)
                rw [l1] at z
                rw [hb, el, Nat.min_self, beq_self_eq_true, Bool.and_true, ← el]
                exact z
              | false =>
                rw [cl] at e
                cases e
                exact RcAt.lists_lengths p p2 (bne_iff_ne.mpr (by rw [l1, l2]; exact Nat.ne_of_beq_eq_false cl)) hu1
            refine ⟨rc, ?_⟩
            by_cases ne : a = a2
            · rw [same ne, ne]; exact EqAt.same _
            · exact EqAt.of_refs ne rc
        | fn i => simp [offW] at e
        | exc hc ha hd na nd r => simp [offW] at e
    | fn i => cases e
    | exc hc ha hd na nd r => cases e
theorem ne_of {A : Around} {x y : Value} {b c : Bool} (h : RcNeAt A s x y (!b)) (e : b = c) : RcNeAt A s x y (!c) := e ▸ h
/-- != of two values -/
theorem neW_sound (I : Inv X pins σ H s) (hK : T.K = X.K) (R : HRel T ρ h H) : ∀ (f : Nat) (A : Around) (x y : W) (v u : V) (vv uu : Value) (b : Bool), A.units + f < cLine → RelW T ρ H x v → RelW T ρ H y u → RelV v vv → RelV u uu → eqW h f x y = some b → RcNeAt A s vv uu (!b)
  | 0, _, _, _, _, _, _, _, _, _, _, _, _, _, e => by cases e
  | f + 1, A, x, y, v, u, vv, uu, b, hu, rx, ry, rv, ru, e => by
    have hu1 : A.units < cLine := by omega
    have ih := fun A x y v u vv uu b hu => eqW_sound I hK R f A x y v u vv uu b hu
    have hin : A.in1.units + f < cLine := by show A.units + 1 + f < cLine; omega
    -- the items of two walked things
    have items : ∀ {xs ys : List W} {vs us : List V} {its its2 : List Value} {k : Nat → Bool}, RelWs T ρ H xs vs → RelWs T ρ H ys us → Vals vs its → Vals us its2 → (∀ j x y, xs[j]? = some x → ys[j]? = some y → eqW h f x y = some (k j)) →
        ∀ j (h1 : j < its.toArray.size) (h2 : j < its2.toArray.size), EqAt A.in1 s its.toArray[j] its2.toArray[j] (k j) := fun {xs ys vs us its its2 k} r q r1 r2 hk j h1 h2 => by
      have l1 : j < its.length := by simpa using h1
      have l2 : j < its2.length := by simpa using h2
      obtain ⟨v1, e1⟩ : ∃ v1, vs[j]? = some v1 := ⟨_, List.getElem?_eq_getElem (by rw [r1.length]; exact l1)⟩
      obtain ⟨u1, e2⟩ : ∃ u1, us[j]? = some u1 := ⟨_, List.getElem?_eq_getElem (by rw [r2.length]; exact l2)⟩
      obtain ⟨x1, e3, q1⟩ := r.getV e1
      obtain ⟨y1, e4, q2⟩ := q.getV e2
      obtain ⟨w1, e5, q3⟩ := r1.get e1
      obtain ⟨w2, e6, q4⟩ := r2.get e2
      have z1 : its.toArray[j] = w1 := by have := List.getElem?_eq_getElem l1; rw [e5] at this; simpa using (Option.some.inj this).symm
      have z2 : its2.toArray[j] = w2 := by have := List.getElem?_eq_getElem l2; rw [e6] at this; simpa using (Option.some.inj this).symm
      rw [z1, z2]
      exact (ih A.in1 x1 y1 v1 u1 w1 w2 _ hin q1 q2 q3 q4 (hk j x1 y1 e3 e4)).2
    -- a list of ours
    have lst : ∀ {n : Nat} {a : Addr} {ws : List W}, ρ n = some a → cellOf h n = some ws → ∃ vs its, RelWs T ρ H ws vs ∧ Vals vs its ∧ s.heap.IsList a its.toArray := fun {n a ws} e1 e2 => by
      obtain ⟨vs, hq, r, _⟩ := R.list e1 e2
      obtain ⟨its, r1, p, _⟩ := I.list (by rw [← hK]; exact hq)
      exact ⟨vs, its, r, r1, p.isList⟩
    cases rx with
    | non =>
      cases (show vv = Value.none from rv)
      cases ry with
      | non => cases (show uu = Value.none from ru); cases e; exact RcNeAt.none_none
      | bl c => cases (show uu = Value.bool c from ru); cases e; exact RcNeAt.none_bool c
      | int j => obtain ⟨t, rfl⟩ := ru; cases e; exact RcNeAt.none_int j t
      | str z => obtain ⟨t, rfl⟩ := ru; cases e; exact RcNeAt.none_str _ t
      | tup hy q => cases (show uu = Value.ref _ from ru); cases e; obtain ⟨its, _, p, _⟩ := hy.of I hK; exact RcNeAt.none_tuple p hu1
      | @ref m a hy =>
        cases (show uu = Value.ref _ from ru)
        have e' : offW h (.ref m) = some b := e
        unfold offW at e'
        dsimp only at e'
        cases c : cellOf h m with
        | none => rw [c] at e'; cases e'
        | some ws =>
          rw [c] at e'; cases e'
          obtain ⟨_, _, _, _, p⟩ := lst hy c
          exact RcNeAt.none_list p hu1
      | fn i => simp [eqW, offW] at e
      | exc hc ha hd na nd r => simp [eqW, offW] at e
    | bl c1 =>
      cases (show vv = Value.bool c1 from rv)
      cases ry with
      | non => cases (show uu = Value.none from ru); cases e; exact RcNeAt.bool_none c1
      | bl c =>
        cases (show uu = Value.bool c from ru); cases e
        exact ne_of (RcNeAt.bool_bool c1 c) (by cases c1 <;> cases c <;> rfl)
      | int j =>
        obtain ⟨t, rfl⟩ := ru; cases e
        exact ne_of (RcNeAt.bool_int c1 j t) (by rw [intDec, bI_ite])
      | str z => obtain ⟨t, rfl⟩ := ru; cases e; exact RcNeAt.bool_str c1 _ t
      | tup hy q => cases (show uu = Value.ref _ from ru); cases e; obtain ⟨its, _, p, _⟩ := hy.of I hK; exact RcNeAt.bool_tuple c1 p hu1
      | @ref m a hy =>
        cases (show uu = Value.ref _ from ru)
        have e' : offW h (.ref m) = some b := e
        unfold offW at e'
        dsimp only at e'
        cases c : cellOf h m with
        | none => rw [c] at e'; cases e'
        | some ws =>
          rw [c] at e'; cases e'
          obtain ⟨_, _, _, _, p⟩ := lst hy c
          exact RcNeAt.bool_list c1 p hu1
      | fn i => simp [eqW, offW] at e
      | exc hc ha hd na nd r => simp [eqW, offW] at e
    | int i1 =>
      obtain ⟨t1, rfl⟩ := rv
      cases ry with
      | non => cases (show uu = Value.none from ru); cases e; exact RcNeAt.int_none i1 t1
      | bl c =>
        cases (show uu = Value.bool c from ru); cases e
        exact ne_of (RcNeAt.int_bool i1 t1 c) (by rw [intDec, bI_ite])
      | int j =>
        obtain ⟨t, rfl⟩ := ru; cases e
        exact ne_of (RcNeAt.int_int i1 t1 j t) (intDec i1 j).symm
      | str z => obtain ⟨t, rfl⟩ := ru; cases e; exact RcNeAt.int_str i1 t1 _ t
      | tup hy q => cases (show uu = Value.ref _ from ru); cases e; obtain ⟨its, _, p, _⟩ := hy.of I hK; exact RcNeAt.int_tuple i1 t1 p hu1
      | @ref m a hy =>
        cases (show uu = Value.ref _ from ru)
        have e' : offW h (.ref m) = some b := e
        unfold offW at e'
        dsimp only at e'
        cases c : cellOf h m with
        | none => rw [c] at e'; cases e'
        | some ws =>
          rw [c] at e'; cases e'
          obtain ⟨_, _, _, _, p⟩ := lst hy c
          exact RcNeAt.int_list i1 t1 p hu1
      | fn i => simp [eqW, offW] at e
      | exc hc ha hd na nd r => simp [eqW, offW] at e
    | str z1 =>
      obtain ⟨t1, rfl⟩ := rv
      cases ry with
      | non => cases (show uu = Value.none from ru); cases e; exact RcNeAt.str_none _ t1
      | bl c => cases (show uu = Value.bool c from ru); cases e; exact RcNeAt.str_bool _ t1 c
      | int j => obtain ⟨t, rfl⟩ := ru; cases e; exact RcNeAt.str_int _ t1 j t
      | str z =>
        obtain ⟨t, rfl⟩ := ru; cases e
        exact ne_of (RcNeAt.str_str _ t1 _ t) (strDec z1 z).symm
      | tup hy q => cases (show uu = Value.ref _ from ru); cases e; obtain ⟨its, _, p, _⟩ := hy.of I hK; exact RcNeAt.str_tuple _ t1 p hu1
      | @ref m a hy =>
        cases (show uu = Value.ref _ from ru)
        have e' : offW h (.ref m) = some b := e
        unfold offW at e'
        dsimp only at e'
        cases c : cellOf h m with
        | none => rw [c] at e'; cases e'
        | some ws =>
          rw [c] at e'; cases e'
          obtain ⟨_, _, _, _, p⟩ := lst hy c
          exact RcNeAt.str_list _ t1 p hu1
      | fn i => simp [eqW, offW] at e
      | exc hc ha hd na nd r => simp [eqW, offW] at e
    | @tup xs a vs hx rr =>
      cases (show vv = Value.ref _ from rv)
      obtain ⟨its, r1, p, _⟩ := hx.of I hK
      cases ry with
      | non => cases (show uu = Value.none from ru); cases e; exact RcNeAt.tuple_none p hu1
      | bl c => cases (show uu = Value.bool c from ru); cases e; exact RcNeAt.tuple_bool c p hu1
      | int j => obtain ⟨t, rfl⟩ := ru; cases e; exact RcNeAt.tuple_int j t p hu1
      | str z => obtain ⟨t, rfl⟩ := ru; cases e; exact RcNeAt.tuple_str _ t p hu1
      | @tup ys a2 us hy q =>
        cases (show uu = Value.ref _ from ru)
        obtain ⟨its2, r2, p2, _⟩ := hy.of I hK
        have e' : eqAll (eqW h f) xs ys = some b := e
        obtain ⟨k, hk, hb⟩ := eqAll_all e'
        have z := RcNeAt.tuples (e := k) p p2 hu1 (items rr q r1 r2 hk)
        have l1 : its.toArray.size = xs.length := by rw [List.size_toArray, ← r1.length, ← rr.length]
        have l2 : its2.toArray.size = ys.length := by rw [List.size_toArray, ← r2.length, ← q.length]
        rw [l1, l2] at z
        rw [hb]; exact z
      | @ref m a2 hy =>
        cases (show uu = Value.ref _ from ru)
        have e' : offW h (.ref m) = some b := e
        unfold offW at e'
        dsimp only at e'
        cases c : cellOf h m with
        | none => rw [c] at e'; cases e'
        | some ws =>
          rw [c] at e'; cases e'
          obtain ⟨_, _, _, _, p2⟩ := lst hy c
          exact RcNeAt.tuple_list p p2 hu1
      | fn i => simp [eqW, offW] at e
      | exc hc ha hd na nd r => simp [eqW, offW] at e
    | @ref n a hx =>
      cases (show vv = Value.ref _ from rv)
      simp only [eqW] at e
      cases c1 : cellOf h n with
      | none => rw [c1] at e; cases e
      | some xs =>
        rw [c1] at e
        dsimp only at e
        obtain ⟨vs, its, rr, r1, p⟩ := lst hx c1
        cases ry with
        | non => cases (show uu = Value.none from ru); cases e; exact RcNeAt.list_none p hu1
        | bl c => cases (show uu = Value.bool c from ru); cases e; exact RcNeAt.list_bool c p hu1
        | int j => obtain ⟨t, rfl⟩ := ru; cases e; exact RcNeAt.list_int j t p hu1
        | str z => obtain ⟨t, rfl⟩ := ru; cases e; exact RcNeAt.list_str _ t p hu1
        | @tup ys a2 us hy q =>
          cases (show uu = Value.ref _ from ru); cases e
          obtain ⟨its2, r2, p2, _⟩ := hy.of I hK
          exact RcNeAt.list_tuple p p2 hu1
        | @ref m a2 hy =>
          cases (show uu = Value.ref _ from ru)
          dsimp only at e
          cases c2 : cellOf h m with
          | none => rw [c2] at e; cases e
          | some ys =>
            rw [c2] at e
            dsimp only at e
            obtain ⟨us, its2, q, r2, p2⟩ := lst hy c2
            have l1 : its.toArray.size = xs.length := by rw [List.size_toArray, ← r1.length, ← rr.length]
            have l2 : its2.toArray.size = ys.length := by rw [List.size_toArray, ← r2.length, ← q.length]
            cases cl : Nat.beq xs.length ys.length with
            | true =>
              rw [cl] at e
              obtain ⟨k, hk, hb⟩ := eqAll_all e
              have el : xs.length = ys.length := Nat.eq_of_beq_eq_true cl
              have z := RcNeAt.lists (e := k) p p2 (by rw [l1, l2, el]) hu1 (items rr q r1 r2 hk)
              rw [l1] at z
              rw [hb, el, Nat.min_self, beq_self_eq_true, Bool.and_true, ← el]
              exact z
            | false =>
              rw [cl] at e
              cases e
              exact RcNeAt.lists_lengths p p2 (bne_iff_ne.mpr (by rw [l1, l2]; exact Nat.ne_of_beq_eq_false cl)) hu1
        | fn i => simp [offW] at e
        | exc hc ha hd na nd r => simp [offW] at e
    | fn i => cases e
    | exc hc ha hd na nd r => cases e
end
/-! ### operations of two values -/
section
variable {T : Tab} {X : Cx}
def rP2 (T : Tab) (o : P2) (EX : XK) : R2 := fun x y H Q => ∃ ρ h wx wy, HRel T ρ h H ∧ RelW T ρ H wx x ∧ RelW T ρ H wy y ∧ OutE T ρ H (p2 h o wx wy) Q EX
theorem natAbs_log {i : Int} {n : Nat} (h : i.natAbs < 2 ^ n) : Builtin.Int.intBits i ≤ n := by
  unfold Builtin.Int.intBits
  split
  · exact Nat.zero_le _
  · rename_i z
    have hz : i.natAbs ≠ 0 := by intro e; apply z; have : i = 0 := Int.natAbs_eq_zero.mp e; simp [this]
    have := (Nat.log2_lt hz).mpr h
    omega
theorem sm64 {i : Int} (h : small64 i = true) : -(2 ^ 64) < i ∧ i < 2 ^ 64 := by
  obtain ⟨a, b⟩ := Bool.and_eq_true_iff.mp h
  exact ⟨of_decide_eq_true a, of_decide_eq_true b⟩
/-- both are ints -/
theorem OutE.ints {o : P2} {ρ : Rho} {H : Hp} {h : Hv} {wx wy : W} {Q : VK} {EX : XK} (g : Hv → Int → Int → RE) (hg : ∀ h x y, p2 h o x y = match x, y with | .int i, .int j => g h i j | _, _ => .bad)
    (x : OutE T ρ H (p2 h o wx wy) Q EX) : ∃ i j, wx = .int i ∧ wy = .int j ∧ OutE T ρ H (g h i j) Q EX := by
  rw [hg] at x
  split at x
  · exact ⟨_, _, rfl, rfl, x⟩
  · exact x.elim
theorem relv_int {ρ : Rho} {H : Hp} {i : Int} {v : V} (r : RelW T ρ H (.int i) v) : v = .int i := by cases r; rfl
theorem relv_str {ρ : Rho} {H : Hp} {x : Tx} {v : V} (r : RelW T ρ H (.str x) v) : v = .str ⟨x.toArray⟩ := by cases r; rfl
theorem relv_bl {ρ : Rho} {H : Hp} {b : Bool} {v : V} (r : RelW T ρ H (.bl b) v) : v = .bl b := by cases r; rfl
theorem strLen (x : Tx) : (⟨x.toArray⟩ : Str).length = x.length := by simp [Str.length]
theorem strMax_line : strMax ≤ sizeLine := by rw [sizeLine_eq]; decide
theorem p2_add {EX : XK} (hK : T.K = X.K) : OpR X (binaryOp .Add) (rP2 T .add EX) := by
  intro pins s σ H x y v u Q I rx ry ⟨ρ, h, wx, wy, R, qx, qy, out⟩
  simp only [p2] at out
  split at out
  · rename_i i j
    cases qx; cases qy
    exact op_add pins s σ H _ _ v u Q I rx ry ⟨i, j, rfl, rfl, out.here R (.int _)⟩
  · rename_i a b
    cases qx; cases qy
    cases c : Nat.ble (a.length + b.length) strMax with
    | false => rw [c] at out; exact out.elim
    | true =>
      rw [c] at out
      have hl := Nat.le_trans (Nat.le_of_ble_eq_true c) strMax_line
      refine op_add_str pins s σ H _ _ v u Q I rx ry ⟨_, _, rfl, rfl, by rw [strLen, strLen]; exact hl, ?_⟩
      have e : (⟨a.toArray⟩ : Str) ++ (⟨b.toArray⟩ : Str) = ⟨(a ++ b).toArray⟩ := by
        show Str.mk _ = _
        simp
      rw [e]
      exact out.here R (.str _)
  · rename_i n m
    cases qx with
    | ref hn =>
      cases qy with
      | ref hm =>
        cases c1 : h.get n with
        | none => rw [c1] at out; exact out.elim
        | some c =>
          rw [c1] at out
          cases c with
          | lst xs =>
            dsimp only at out
            cases c2 : h.get m with
            | none => rw [c2] at out; exact out.elim
            | some c' =>
              rw [c2] at out
              cases c' with
              | lst ys =>
                dsimp only at out
                obtain ⟨vs, e1, r1, l1⟩ := R.lst hn c1
                obtain ⟨us, e2, r2, l2⟩ := R.lst hm c2
                have z := out.newL R (r1.append r2)
                exact op_cat pins s σ H _ _ v u Q I rx ry ⟨_, _, vs, us, rfl, rfl, e1, e2, by have := z.1; rw [List.length_append] at this; exact Nat.le_trans this listMax_line, z.2⟩
              | _ => exact out.elim
          | _ => exact out.elim
  · exact out.elim
theorem p2_sub {EX : XK} : OpR X (binaryOp .Sub) (rP2 T .sub EX) := by
  intro pins s σ H x y v u Q I rx ry ⟨ρ, h, wx, wy, R, qx, qy, out⟩
  cases wx <;> cases wy <;> first | exact out.elim | skip
  cases qx; cases qy
  exact op_sub pins s σ H _ _ v u Q I rx ry ⟨_, _, rfl, rfl, out.here R (.int _)⟩
theorem p2_mul {EX : XK} : OpR X (binaryOp .Mult) (rP2 T .mul EX) := by
  intro pins s σ H x y v u Q I rx ry ⟨ρ, h, wx, wy, R, qx, qy, out⟩
  cases wx <;> cases wy <;> first | exact out.elim | skip
  rename_i i j
  cases qx; cases qy
  simp only [p2] at out
  cases c : (small64 i || small64 j) with
  | false => rw [c] at out; exact out.elim
  | true =>
    rw [c] at out
    refine op_mul pins s σ H _ _ v u Q I rx ry ⟨_, _, rfl, rfl, ?_, out.here R (.int _)⟩
    rcases Bool.or_eq_true_iff.mp c with c | c
    · exact .inl (sm64 c)
    · exact .inr (sm64 c)
theorem p2_fdiv {EX : XK} : OpR X (binaryOp .FloorDiv) (rP2 T .fdiv EX) := by
  intro pins s σ H x y v u Q I rx ry ⟨ρ, h, wx, wy, R, qx, qy, out⟩
  cases wx <;> cases wy <;> first | exact out.elim | skip
  rename_i i j
  cases qx; cases qy
  simp only [p2] at out
  cases c : (decide (0 < j) && decide (j < 1073741824)) with
  | false => rw [c] at out; exact out.elim
  | true =>
    rw [c] at out
    obtain ⟨c1, c2⟩ := Bool.and_eq_true_iff.mp c
    exact op_fdiv pins s σ H _ _ v u Q I rx ry ⟨_, _, rfl, rfl, ⟨of_decide_eq_true c1, of_decide_eq_true c2⟩, out.here R (.int _)⟩
theorem p2_mod {EX : XK} : OpR X (binaryOp .Mod) (rP2 T .mod EX) := by
  intro pins s σ H x y v u Q I rx ry ⟨ρ, h, wx, wy, R, qx, qy, out⟩
  cases wx <;> cases wy <;> first | exact out.elim | skip
  rename_i i j
  cases qx; cases qy
  simp only [p2] at out
  cases c : decide (0 < j) with
  | false => rw [c] at out; exact out.elim
  | true =>
    rw [c] at out
    exact op_mod pins s σ H _ _ v u Q I rx ry ⟨_, _, rfl, rfl, of_decide_eq_true c, out.here R (.int _)⟩
theorem p2_pow {EX : XK} : OpR X (binaryOp .Pow) (rP2 T .pow EX) := by
  intro pins s σ H x y v u Q I rx ry ⟨ρ, h, wx, wy, R, qx, qy, out⟩
  cases wx <;> cases wy <;> first | exact out.elim | skip
  rename_i i j
  cases qx; cases qy
  simp only [p2] at out
  cases c : (decide (0 ≤ j) && decide (j ≤ 1000) && decide (i.natAbs < 2 ^ 1000)) with
  | false => rw [c] at out; exact out.elim
  | true =>
    rw [c] at out
    obtain ⟨c12, c3⟩ := Bool.and_eq_true_iff.mp c
    obtain ⟨c1, c2⟩ := Bool.and_eq_true_iff.mp c12
    have n1 : 0 ≤ j := of_decide_eq_true c1
    have n2 : j ≤ 1000 := of_decide_eq_true c2
    have n3 : Builtin.Int.intBits i ≤ 1000 := natAbs_log (of_decide_eq_true c3)
    obtain ⟨t, rfl⟩ := rx
    obtain ⟨t', rfl⟩ := ry
    refine PyProof.Rows.pow_int n1 ?_ ⟨.int _, H, I.tok _, ⟨_, rfl⟩, out.here R (.int _)⟩
    calc (Builtin.Int.intBits i : Int) * j ≤ 1000 * j := Int.mul_le_mul_of_nonneg_right (by exact_mod_cast n3) n1
      _ ≤ 1000 * 1000 := Int.mul_le_mul_of_nonneg_left n2 (by decide)
      _ ≤ 2 ^ 27 := by decide
theorem p2_eq {EX : XK} (hK : T.K = X.K) (hu : X.A.units + 60 < cLine) : OpR X (compareOp .Eq) (rP2 T .eq EX) := by
  intro pins s σ H x y v u Q I rx ry ⟨ρ, h, wx, wy, R, qx, qy, out⟩
  simp only [p2] at out
  cases c : eqW h 60 wx wy with
  | none => rw [c] at out; exact out.elim
  | some b =>
    rw [c] at out
    exact (eqW_sound I hK R 60 X.A wx wy x y v u b hu qx qy rx ry c).1 _ _ _ _ ⟨.bl b, H, I, rfl, out.here R (.bl b)⟩
theorem p2_ne {EX : XK} (hK : T.K = X.K) (hu : X.A.units + 60 < cLine) : OpR X (compareOp .NotEq) (rP2 T .ne EX) := by
  intro pins s σ H x y v u Q I rx ry ⟨ρ, h, wx, wy, R, qx, qy, out⟩
  simp only [p2] at out
  cases c : eqW h 60 wx wy with
  | none => rw [c] at out; exact out.elim
  | some b =>
    rw [c] at out
    exact (neW_sound I hK R 60 X.A wx wy x y v u b hu qx qy rx ry c) _ _ _ _ ⟨.bl (!b), H, I, rfl, out.here R (.bl (!b))⟩
theorem p2_lt {EX : XK} : OpR X (compareOp .Lt) (rP2 T .lt EX) := by
  intro pins s σ H x y v u Q I rx ry ⟨ρ, h, wx, wy, R, qx, qy, out⟩
  cases wx <;> cases wy <;> first | exact out.elim | skip
  cases qx; cases qy
  exact op_lt pins s σ H _ _ v u Q I rx ry ⟨_, _, rfl, rfl, out.here R (.bl _)⟩
theorem p2_le {EX : XK} : OpR X (compareOp .LtE) (rP2 T .le EX) := by
  intro pins s σ H x y v u Q I rx ry ⟨ρ, h, wx, wy, R, qx, qy, out⟩
  cases wx <;> cases wy <;> first | exact out.elim | skip
  cases qx; cases qy
  exact op_le pins s σ H _ _ v u Q I rx ry ⟨_, _, rfl, rfl, out.here R (.bl _)⟩
theorem p2_gt {EX : XK} : OpR X (compareOp .Gt) (rP2 T .gt EX) := by
  intro pins s σ H x y v u Q I rx ry ⟨ρ, h, wx, wy, R, qx, qy, out⟩
  cases wx <;> cases wy <;> first | exact out.elim | skip
  cases qx; cases qy
  exact op_gt pins s σ H _ _ v u Q I rx ry ⟨_, _, rfl, rfl, out.here R (.bl _)⟩
theorem p2_ge {EX : XK} : OpR X (compareOp .GtE) (rP2 T .ge EX) := by
  intro pins s σ H x y v u Q I rx ry ⟨ρ, h, wx, wy, R, qx, qy, out⟩
  cases wx <;> cases wy <;> first | exact out.elim | skip
  cases qx; cases qy
  exact op_ge pins s σ H _ _ v u Q I rx ry ⟨_, _, rfl, rfl, out.here R (.bl _)⟩
theorem atW_atI {ρ : Rho} {H : Hp} {ws : List W} {vs : List V} {i : Int} {w : W} (r : RelWs T ρ H ws vs) (e : atW ws i = some w) : ∃ v, atI vs i = some v ∧ RelW T ρ H w v := by
  unfold atW at e
  have hl := r.length
  unfold atI ixN
  by_cases h0 : 0 ≤ i
  · rw [if_pos h0] at e ⊢
    obtain ⟨v, e1, q⟩ := r.get e
    have hi : i.toNat < vs.length := (List.getElem?_eq_some_iff.mp e1).1
    rw [if_pos (by omega)]
    exact ⟨v, e1, q⟩
  · rw [if_neg h0] at e ⊢
    by_cases h1 : -(ws.length : Int) ≤ i
    · rw [if_pos h1] at e
      rw [if_pos (by rw [← hl]; exact h1)]
      obtain ⟨v, e1, q⟩ := r.get e
      rw [hl] at e1
      exact ⟨v, e1, q⟩
    · rw [if_neg h1] at e; cases e
theorem p2_get {EX : XK} (hK : T.K = X.K) : IxR X (rP2 T .get EX) := by
  intro va sl pins s σ H x y v u Q I rx ry ⟨ρ, h, wx, wy, R, qx, qy, out⟩ hsub
  cases wy <;> first | (cases wx <;> exact out.elim) | skip
  rename_i i
  cases qy
  cases wx with
  | tup xs =>
    cases qx with
    | tup ht r =>
      simp only [p2, itemsOf] at out
      cases e : atW xs i with
      | none => rw [e] at out; exact out.elim
      | some w =>
        rw [e] at out
        obtain ⟨z, e1, q⟩ := atW_atI r e
        exact ix_tup va sl pins s σ H _ _ v u Q I rx ry ⟨_, _, _, _, rfl, rfl, by rw [← hK]; exact ht.seq, e1, out.here R q⟩ hsub
  | ref n =>
    cases qx with
    | ref hn =>
      simp only [p2, itemsOf] at out
      cases c : cellOf h n with
      | none => rw [c] at out; exact out.elim
      | some ws =>
        rw [c] at out
        dsimp only at out
        cases e : atW ws i with
        | none => rw [e] at out; exact out.elim
        | some w =>
          rw [e] at out
          obtain ⟨vs, hq, r, _⟩ := R.list hn c
          obtain ⟨z, e1, q⟩ := atW_atI r e
          exact ix_list va sl pins s σ H _ _ v u Q I rx ry ⟨_, _, _, _, rfl, rfl, by rw [← hK]; exact hq, e1, out.here R q⟩ hsub
  | _ => exact out.elim
end
/-! ### built-ins of one value -/
section
variable {T : Tab} {X : Cx}
def rP1 (T : Tab) (o : P1) (EX : XK) : List V → Hp → VK → Prop := fun xs H Q => ∃ x ρ h wx, xs = [x] ∧ HRel T ρ h H ∧ RelW T ρ H wx x ∧ OutE T ρ H (p1 h o wx) Q EX
theorem p1_len {EX : XK} (hK : T.K = X.K) : CallR X (.builtin "len") (rP1 T .len EX) := by
  intro pins s σ H xs us Q I r hh
  obtain ⟨x, ρ, h, wx, rfl, R, qx, out⟩ := hh
  cases qx with
  | str z =>
    simp only [p1] at out
    cases c : Nat.ble z.length strMax with
    | false => rw [c] at out; exact out.elim
    | true =>
      rw [c] at out
      refine call_len_str pins s σ H _ us Q I r ⟨_, rfl, by rw [strLen]; exact Nat.le_trans (Nat.le_of_ble_eq_true c) strMax_line, ?_⟩
      rw [strLen]
      exact out.here R (.int _)
  | tup ht q =>
    refine call_len_seq pins s σ H _ us Q I r ⟨_, _, rfl, .inr (by rw [← hK]; exact ht.seq), ?_⟩
    have z := out.here R (.int _)
    rw [q.length] at z
    exact z
  | @ref n a hn =>
    simp only [p1] at out
    cases c : h.get n with
    | none => rw [c] at out; exact out.elim
    | some cl =>
      rw [c] at out
      cases cl with
      | lst ws =>
        have cc : cellOf h n = some ws := by unfold cellOf; rw [c]
        obtain ⟨vs, hq, q, _⟩ := R.list hn cc
        refine call_len_seq pins s σ H _ us Q I r ⟨_, _, rfl, .inl (by rw [← hK]; exact hq), ?_⟩
        have z := out.here R (.int _)
        rw [q.length] at z
        exact z
      | frz ws =>
        have cc : cellOf h n = some ws := by unfold cellOf; rw [c]
        obtain ⟨vs, hq, q, _⟩ := R.list hn cc
        refine call_len_seq pins s σ H _ us Q I r ⟨_, _, rfl, .inl (by rw [← hK]; exact hq), ?_⟩
        have z := out.here R (.int _)
        rw [q.length] at z
        exact z
      | dic kvs =>
        obtain ⟨c', g, x⟩ := R.cell _ _ hn
        rw [c] at g; cases g
        obtain ⟨vs, e, r'⟩ := x
        refine call_lenD pins s σ H _ us Q I r ⟨_, _, rfl, e, ?_⟩
        have z := out.here R (.int _)
        rw [r'.length] at z
        exact z
      | ins c fs => exact out.elim
  | _ => exact out.elim
theorem p1_abs {EX : XK} : CallR X (.builtin "abs") (rP1 T .abs EX) := by
  intro pins s σ H xs us Q I r hh
  obtain ⟨x, ρ, h, wx, rfl, R, qx, out⟩ := hh
  cases qx <;> first | exact out.elim | skip
  exact call_abs pins s σ H _ us Q I r ⟨_, rfl, out.here R (.int _)⟩
theorem p1_int {EX : XK} : CallR X (.type "int") (rP1 T .int1 EX) := by
  intro pins s σ H xs us Q I r hh
  obtain ⟨x, ρ, h, wx, rfl, R, qx, out⟩ := hh
  cases qx <;> first | exact out.elim | skip
  · rename_i b
    refine call_int1 pins s σ H _ us Q I r (.inr ⟨b, rfl, ?_⟩)
    have z := out.here R (.int _)
    rw [bI_ite] at z
    exact z
  · exact call_int1 pins s σ H _ us Q I r (.inl ⟨_, rfl, out.here R (.int _)⟩)
theorem sumI_ints {ρ : Rho} {H : Hp} : ∀ {ws : List W} {vs : List V} {i : Int}, RelWs T ρ H ws vs → sumI ws = some i → ∃ ns : List Int, vs = ns.map V.int ∧ i = ns.sum
  | _, _, _, .nil, e => ⟨[], rfl, by cases e; rfl⟩
  | _, _, i, .cons (w := w) (ws := ws) r rs, e => by
    cases w <;> first | cases e | skip
    rename_i j
    simp only [sumI] at e
    cases c : sumI ws with
    | none => rw [c] at e; cases e
    | some k =>
      rw [c] at e
      cases e
      cases r
      obtain ⟨ns, e1, e2⟩ := sumI_ints rs c
      exact ⟨j :: ns, by rw [e1]; rfl, by rw [e2, List.sum_cons]⟩
theorem bools_bls {ρ : Rho} {H : Hp} : ∀ {ws : List W} {vs : List V} {l : List Bool}, RelWs T ρ H ws vs → bools ws = some l → vs = l.map V.bl
  | _, _, _, .nil, e => by cases e; rfl
  | _, _, l, .cons (w := w) (ws := ws) r rs, e => by
    cases w <;> first | cases e | skip
    rename_i b
    simp only [bools] at e
    cases c : bools ws with
    | none => rw [c] at e; cases e
    | some k =>
      rw [c] at e
      cases e
      cases r
      rw [bools_bls rs c]
      rfl
theorem p1_sum {EX : XK} (hK : T.K = X.K) (hc : X.calm = true) : CallR X (.builtin "sum") (rP1 T .sum EX) := by
  intro pins s σ H xs us Q I r hh
  obtain ⟨x, ρ, h, wx, rfl, R, qx, out⟩ := hh
  cases qx <;> first | exact out.elim | skip
  rename_i n a hn
  simp only [p1] at out
  cases c : cellOf h n with
  | none => rw [c] at out; exact out.elim
  | some ws =>
    rw [c] at out
    dsimp only at out
    cases e : sumI ws with
    | none => rw [e] at out; exact out.elim
    | some i =>
      rw [e] at out
      obtain ⟨vs, hq, q, _⟩ := R.list hn c
      obtain ⟨ns, e1, e2⟩ := sumI_ints q e
      subst e1
      refine cr_sum hc pins s σ H _ us Q I r ⟨_, ns, rfl, by rw [← hK]; exact hq, ?_⟩
      rw [← e2]
      exact out.here R (.int _)
theorem p1_all {EX : XK} (hK : T.K = X.K) (hc : X.calm = true) : CallR X (.builtin "all") (rP1 T .all EX) := by
  intro pins s σ H xs us Q I r hh
  obtain ⟨x, ρ, h, wx, rfl, R, qx, out⟩ := hh
  cases qx <;> first | exact out.elim | skip
  rename_i n a hn
  simp only [p1] at out
  cases c : cellOf h n with
  | none => rw [c] at out; exact out.elim
  | some ws =>
    rw [c] at out
    dsimp only at out
    cases e : bools ws with
    | none => rw [e] at out; exact out.elim
    | some l =>
      rw [e] at out
      obtain ⟨vs, hq, q, _⟩ := R.list hn c
      have e1 := bools_bls q e
      subst e1
      exact cr_all hc pins s σ H _ us Q I r ⟨_, l, rfl, by rw [← hK]; exact hq, out.here R (.bl _)⟩
theorem p1_any {EX : XK} (hK : T.K = X.K) (hc : X.calm = true) : CallR X (.builtin "any") (rP1 T .any EX) := by
  intro pins s σ H xs us Q I r hh
  obtain ⟨x, ρ, h, wx, rfl, R, qx, out⟩ := hh
  cases qx <;> first | exact out.elim | skip
  rename_i n a hn
  simp only [p1] at out
  cases c : cellOf h n with
  | none => rw [c] at out; exact out.elim
  | some ws =>
    rw [c] at out
    dsimp only at out
    cases e : bools ws with
    | none => rw [e] at out; exact out.elim
    | some l =>
      rw [e] at out
      obtain ⟨vs, hq, q, _⟩ := R.list hn c
      have e1 := bools_bls q e
      subst e1
      exact cr_any hc pins s σ H _ us Q I r ⟨_, l, rfl, by rw [← hK]; exact hq, out.here R (.bl _)⟩
end
end Iv
/-! Iv3: further operations: texts of values, kinds, lists that are written. -/
namespace Iv
open PySem L2 PySem.SeqAt
section
variable {T : Tab} {ρ : Rho} {H : Hp} {h : Hv} {X : Cx} {pins : List (Addr × Obj)} {σ : L2.St} {s : Shared}
/-! ### repr -/
theorem flat_reads {x : W} {v : V} {u : Value} {d : PyData} {hp : Heap} (r : RelW T ρ H x v) (rv : RelV v u) (e : flatD x = some d) : Reads hp u d [] ∧ d.hasDict = false := by
  cases r with
  | non => cases (show u = Value.none from rv); cases e; exact ⟨.none, by simp [PyData.hasDict]⟩
  | bl b => cases (show u = Value.bool b from rv); cases e; exact ⟨.bool b, by simp [PyData.hasDict]⟩
  | int i => obtain ⟨t, rfl⟩ := rv; cases e; exact ⟨.int i t, by simp [PyData.hasDict]⟩
  | str z => obtain ⟨t, rfl⟩ := rv; cases e; exact ⟨.str _ t, by simp [PyData.hasDict]⟩
  | tup hx r => cases e
  | ref hx => cases e
  | fn i => cases e
  | exc hc ha hd na nd r => cases e
theorem all_reads {hp : Heap} {f : W → Option PyData} (hf : ∀ x v u d, RelW T ρ H x v → RelV v u → f x = some d → ∃ as, Reads hp u d as ∧ d.hasDict = false) :
    ∀ {ws : List W} {vs : List V} {us : List Value} {ds : List PyData}, RelWs T ρ H ws vs → Vals vs us → allD f ws = some ds → ∃ as, ReadsAll hp us ds as ∧ PyData.hasDictAll ds = false
  | _, _, _, _, .nil, .nil, e => by cases e; exact ⟨[], .nil, by simp [PyData.hasDictAll]⟩
  | _, _, _, _, .cons (w := w) (ws := ws) r rs, .cons q qs, e => by
    unfold allD at e
    cases e1 : f w with
    | none => rw [e1] at e; cases e
    | some d =>
      rw [e1] at e
      dsimp only at e
      cases e2 : allD f ws with
      | none => rw [e2] at e; cases e
      | some ds =>
        rw [e2] at e
        cases e
        obtain ⟨as, h1, h2⟩ := hf _ _ _ _ r q e1
        obtain ⟨bs, h3, h4⟩ := all_reads hf rs qs e2
        exact ⟨as ++ bs, .cons h1 h3, by simp [PyData.hasDictAll, h2, h4]⟩
theorem dataL_reads (I : Inv X pins σ H s) (hK : T.K = X.K) (R : HRel T ρ h H) : ∀ (f : Nat) (x : W) (v : V) (u : Value) (d : PyData), RelW T ρ H x v → RelV v u → dataL h f x = some d → ∃ as, Reads s.heap u d as ∧ d.hasDict = false
  | 0, _, _, _, _, _, _, e => by cases e
  | f + 1, x, v, u, d, rx, rv, e => by
    have ih := dataL_reads I hK R f
    cases rx with
    | @tup xs a vs hx rr =>
      cases (show u = Value.ref _ from rv)
      obtain ⟨its, r1, ⟨o, h1, h2, n, h3⟩, _⟩ := hx.of I hK
      simp only [dataL] at e
      cases e1 : allD (dataL h f) xs with
      | none => rw [e1] at e; cases e
      | some ds =>
        rw [e1] at e; cases e
        obtain ⟨as, z1, z2⟩ := all_reads ih rr r1 e1
        exact ⟨as, .tuple h1 h2 h3 (by simpa using z1), by simp [PyData.hasDict, z2]⟩
    | @ref n a hx =>
      cases (show u = Value.ref _ from rv)
      simp only [dataL] at e
      cases c : cellOf h n with
      | none => rw [c] at e; cases e
      | some ws =>
        rw [c] at e
        dsimp only at e
        cases e1 : allD (dataL h f) ws with
        | none => rw [e1] at e; cases e
        | some ds =>
          rw [e1] at e; cases e
          obtain ⟨vs, hq, r, _⟩ := R.list hx c
          obtain ⟨its, r1, p, _⟩ := I.list (by rw [← hK]; exact hq)
          obtain ⟨o, n', h1, h2, _, h3⟩ := p
          obtain ⟨as, z1, z2⟩ := all_reads ih r r1 e1
          exact ⟨a :: as, .list h1 h2 h3 (by simpa using z1), by simp [PyData.hasDict, z2]⟩
    | non => exact ⟨[], flat_reads (T := T) (ρ := ρ) (H := H) .non rv e⟩
    | bl b => exact ⟨[], flat_reads (T := T) (ρ := ρ) (H := H) (.bl b) rv e⟩
    | int i => exact ⟨[], flat_reads (T := T) (ρ := ρ) (H := H) (.int i) rv e⟩
    | str z => exact ⟨[], flat_reads (T := T) (ρ := ρ) (H := H) (.str z) rv e⟩
    | fn i => cases e
    | exc hc ha hd na nd r => cases e
theorem kv_reads {hp : Heap} {P : Program} {w : World} : ∀ {ws : List (W × W)} {kvs : List (Key × V)} {vs : List (Key × Value)} {es : List DictEntry} {ds : List (PyData × PyData)}, RelKs T ρ H ws kvs → KV kvs vs → Pairs (mixKind P w) es vs → kvD ws = some ds →
    ReadsAll hp (es.map (·.key)) (ds.map (·.1)) [] ∧ ReadsAll hp (es.map (·.val)) (ds.map (·.2)) []
  | _, _, _, _, _, .nil, .nil, .nil, e => by cases e; exact ⟨.nil, .nil⟩
  | _, _, _, _, _, .cons (k := k) (w := w) (ws := ws) r rs, .cons (b := kv) q qs, .cons (e := en) h1 h2 ps, e => by
    unfold kvD at e
    cases e1 : flatD (keyW k) with
    | none => rw [e1] at e; cases e
    | some a =>
      rw [e1] at e
      dsimp only at e
      cases e2 : flatD w with
      | none => rw [e2] at e; cases e
      | some b =>
        rw [e2] at e
        dsimp only at e
        cases e3 : kvD ws with
        | none => rw [e3] at e; cases e
        | some ds =>
          rw [e3] at e
          cases e
          obtain ⟨z1, z2⟩ := kv_reads rs qs ps e3
          obtain ⟨q1, q2⟩ := q
          have q1 : k = kv.1 := q1
          have kr : Reads hp en.key a [] := by
            rw [← q1] at h1
            have h1 : keyIs k en.key = true := h1
            rcases keyIs_shape h1 with ⟨i, t, rfl, ek⟩ | ⟨x, t, rfl, ek⟩
            · rw [ek]
              cases e1
              exact .int i t
            · rw [ek]
              have ee : (⟨x.cps.toList.toArray⟩ : Str) = x := by simp
              have e1' : some (PyData.str ⟨x.cps.toList.toArray⟩) = some a := e1
              rw [ee] at e1'
              cases e1'
              exact .str x t
          have vr : Reads hp en.val b [] := by
            rw [h2]
            exact (flat_reads r q2 e2).1
          exact ⟨.cons (as := []) (bs := []) kr z1, .cons (as := []) (bs := []) vr z2⟩
theorem dataW_reads (I : Inv X pins σ H s) (hK : T.K = X.K) (R : HRel T ρ h H) {f : Nat} {x : W} {v : V} {u : Value} {d : PyData} (rx : RelW T ρ H x v) (rv : RelV v u) (e : dataW h f x = some d) : ∃ as, Reads s.heap u d as ∧ (d.hasDict = true → sysModules ∉ as) := by
  have low : dataL h f x = some d → ∃ as, Reads s.heap u d as ∧ (d.hasDict = true → sysModules ∉ as) := fun e => by
    obtain ⟨as, z1, z2⟩ := dataL_reads I hK R f x v u d rx rv e
    exact ⟨as, z1, PyData.noDict_hsm z2⟩
  cases rx with
  | @ref n a hx =>
    unfold dataW at e
    dsimp only at e
    cases c : h.get n with
    | none => rw [c] at e; exact low e
    | some cl =>
      rw [c] at e
      cases cl with
      | dic kvs =>
        dsimp only at e
        cases e1 : kvD kvs with
        | none => rw [e1] at e; cases e
        | some ds =>
          rw [e1] at e; cases e
          obtain ⟨c', g, y⟩ := R.cell _ _ hx
          rw [c] at g; cases g
          obtain ⟨vs, eH, r⟩ := y
          obtain ⟨z, hd, us, rel, o, es, ep, h1, h2, h3, _, h4, _⟩ := dk_of I.hok eH
          cases (show u = Value.ref _ from rv)
          obtain ⟨k1, k2⟩ := kv_reads (hp := s.heap) r rel h4 e1
          refine ⟨_, .dict h1 h2.1 h3 k1 k2, fun _ hm => ?_⟩
          have hm : sysModules = a := by simpa using hm
          rw [← hm] at hd
          simp at hd
      | lst ws => exact low e
      | frz ws => exact low e
      | ins c fs => exact low e
  | _ => exact low e
theorem p1_repr {EX : XK} (hK : T.K = X.K) (hg : X.A.guards = some []) (hu : X.A.units + 40 < cLine) : CallR X (.builtin "repr") (rP1 T .repr EX) := by
  intro pins s σ H xs us Q I r hh
  obtain ⟨x, ρ, h, wx, rfl, R, qx, out⟩ := hh
  obtain ⟨u, rfl, ru⟩ := Vals.one r
  simp only [p1] at out
  cases e : dataW h 20 wx with
  | none => rw [e] at out; exact out.elim
  | some d =>
    rw [e] at out
    dsimp only at out
    cases c : (d.showable && Nat.ble d.depth 30 && Nat.ble d.shown.length strMax) with
    | false => rw [c] at out; exact out.elim
    | true =>
      rw [c] at out
      obtain ⟨c12, c3⟩ := Bool.and_eq_true_iff.mp c
      obtain ⟨c1, c2⟩ := Bool.and_eq_true_iff.mp c12
      have n2 : d.depth ≤ 30 := Nat.le_of_ble_eq_true c2
      have n3 : d.shown.length ≤ sizeLine := Nat.le_trans (Nat.le_of_ble_eq_true c3) strMax_line
      have es : (⟨d.shown.cps.toList.toArray⟩ : Str) = d.shown := by simp
      have fin : Q (.str d.shown) H := by
        have z := out.here R (.str _)
        rw [es] at z
        exact z
      obtain ⟨as, rd, hs⟩ := dataW_reads I hK R qx ru e
      cases u with
      | ref a => exact repr_of_reads' rd c1 hs hg (by omega) (fun _ _ q => q) (fun h' u tk hk => ⟨.str d.shown, H, I.kept (t' := tk) hk, ⟨u, rfl⟩, fin⟩) n3
      | none => cases rd; exact PySem.P.repr_of_none ⟨.str _, H, I.tok _, ⟨_, rfl⟩, by simpa only [PyData.shown] using fin⟩
      | bool b => cases rd; exact PySem.P.repr_of_bool ⟨.str _, H, I.tok _, ⟨_, rfl⟩, by simpa only [PyData.shown] using fin⟩
      | int i t =>
        cases rd
        have c1' : i.natAbs.log2 < 1920 := by simpa [PyData.showable] using c1
        exact PySem.P.repr_of_int c1' ⟨.str _, H, I.tok _, ⟨_, rfl⟩, by simpa only [PyData.shown] using fin⟩
      | str z t =>
        cases rd
        have q : PyData.shown (.str z) = reprText z := by simp only [PyData.shown]
        rw [q] at n3 fin
        exact PySem.P.repr_of_str ⟨.str _, H, I.tok _, ⟨_, rfl⟩, fin⟩ n3
      | _ => cases rd
/-! ### lists are written -/
def rMt (T : Tab) (m : MT) (EX : XK) : V → List V → Hp → VK → Prop := fun x xs H Q => ∃ ρ h wx ws, HRel T ρ h H ∧ RelW T ρ H wx x ∧ RelWs T ρ H ws xs ∧ OutE T ρ H (mtW h m wx ws) Q EX
theorem mt_app {EX : XK} : MtM X "list.append" (rMt T .append EX) := by
  intro pins s σ H x xs v us Q I rv rvs hh
  obtain ⟨ρ, h, wx, ws, R, qx, qs, out⟩ := hh
  cases qx with
  | @ref n a hn =>
    cases qs with
    | nil => exact out.elim
    | cons q1 q2 =>
      cases q2 with
      | cons q3 q4 => exact out.elim
      | nil =>
        simp only [mtW] at out
        cases c : h.get n with
        | none => rw [c] at out; exact out.elim
        | some cl =>
          rw [c] at out
          cases cl with
          | lst zs =>
            dsimp only at out
            cases l : Nat.blt zs.length listMax with
            | false => rw [l] at out; exact out.elim
            | true =>
              rw [l] at out
              have l' : zs.length + 1 ≤ listMax := Nat.le_of_ble_eq_true l
              obtain ⟨vs, e, r, _⟩ := R.lst hn c
              refine mt_append pins s σ H _ _ v us Q I rv rvs ⟨_, vs, _, rfl, rfl, e, ?_, ?_⟩
              · rw [← r.length]; exact Nat.lt_of_lt_of_le l' listMax_line
              · exact out ρ _ _ (Ext.put R hn) (R.putL hn (r.append (.cons q1 .nil)) (by rw [List.length_append]; exact l')) .non
          | _ => exact out.elim
  | _ => exact out.elim
/-- o[i] = v -/
def OutH (T : Tab) (ρ : Rho) (H : Hp) (r : Option Hv) (Q : Hp → Prop) : Prop := match r with
  | some h' => ∀ ρ' H', Ext ρ H ρ' H' → HRel T ρ' h' H' → Q H'
  | none => False
def rSetI (T : Tab) : TSet := fun o i v H Q => ∃ ρ h wo wi wv, HRel T ρ h H ∧ RelW T ρ H wo o ∧ RelW T ρ H wi i ∧ RelW T ρ H wv v ∧ OutH T ρ H (setIW h wo wi wv) Q
theorem set_I : PSet X (rSetI T) := by
  intro pins s σ H o i v ov iv u Q I ro ri rv hh
  obtain ⟨ρ, h, wo, wi, wv, R, qo, qi, qv, out⟩ := hh
  unfold setIW at out
  split at out
  · rename_i n j
    cases qi
    cases qo with
    | ref hn =>
      cases c : h.get n with
      | none => rw [c] at out; exact out.elim
      | some cl =>
        rw [c] at out
        cases cl with
        | lst zs =>
          dsimp only at out
          by_cases hj : 0 ≤ j ∧ j < zs.length
          · rw [if_pos hj] at out
            obtain ⟨vs, e, r, l⟩ := R.lst hn c
            have hl := r.length
            refine set_list pins s σ H _ _ _ ov iv u Q I ro ri rv ⟨_, vs, j, j.toNat, rfl, rfl, e, ?_, ?_⟩
            · unfold ixN
              rw [if_pos hj.1, if_pos (by omega)]
            · exact out ρ _ (Ext.put R hn) (R.putL hn (r.set qv _) (by rw [List.length_set]; exact l))
          · rw [if_neg hj] at out; exact out.elim
        | _ => exact out.elim
  · exact out.elim
/-- x[i:j] -/
theorem clip_sIx (n d : Nat) (o : Option Int) : clip n d o = HT.sIx n d o := by cases o <;> rfl
theorem cutL_cutV {ws : List W} {lo hi : Option Int} {vs : List V} (r : RelWs T ρ H ws vs) : RelWs T ρ H (cutL ws lo hi) (cutV vs lo hi) := by
  unfold cutL cutV
  rw [clip_sIx, clip_sIx, r.length]
  exact (r.drop _).take _
def rCut (T : Tab) (EX : XK) : V → Option Int → Option Int → Hp → VK → Prop := fun x lo hi H Q => ∃ ρ h wx, HRel T ρ h H ∧ RelW T ρ H wx x ∧ OutE T ρ H (cutW h wx lo hi) Q EX
theorem sl_cut {EX : XK} (hK : T.K = X.K) : SlR X (rCut T EX) := by
  intro pins s σ H x v vl vu lo hi sl Q I rx hs pl pu hh
  obtain ⟨ρ, h, wx, R, qx, out⟩ := hh
  cases qx with
  | @ref n a hn =>
    simp only [cutW] at out
    cases c : cellOf h n with
    | none => rw [c] at out; exact out.elim
    | some ws =>
      rw [c] at out
      dsimp only at out
      obtain ⟨vs, hq, r, _⟩ := R.list hn c
      have z := out.newL R (cutL_cutV r)
      exact sl_list pins s σ H _ v vl vu lo hi sl Q I rx hs pl pu ⟨_, vs, rfl, by rw [← hK]; exact hq, z.2⟩
  | _ => exact out.elim
end
end Iv
/-! Iv4: readings by the evaluator, and the steps from a part to the whole. -/
namespace Iv
open PySem L2 PySem.SeqAt PyProof.Rows
/-! ### slots -/
def SRel (T : Tab) (ρ : Rho) (H : Hp) (e : Env) (σ : L2.St) : Prop := e.length = σ.length ∧ ∀ i w, slot e i = some w → ∃ v, σ[i]? = some (some v) ∧ RelW T ρ H w v
section
variable {T : Tab} {ρ ρ1 : Rho} {H H1 : Hp} {h h1 : Hv} {e : Env} {σ : L2.St}
theorem SRel.mono (S : SRel T ρ H e σ) (x : Ext ρ H ρ1 H1) : SRel T ρ1 H1 e σ := ⟨S.1, fun i w q => let ⟨v, a, b⟩ := S.2 i w q; ⟨v, a, b.mono x⟩⟩
theorem SRel.monoW (S : SRel T ρ H e σ) (x : ExtW ρ H ρ1 H1) : SRel T ρ1 H1 e σ := ⟨S.1, fun i w q => let ⟨v, a, b⟩ := S.2 i w q; ⟨v, a, b.monoW x⟩⟩
theorem store_length : ∀ (e : Env) (i : Nat) (w : W), (store e i w).length = e.length
  | [], _, _ => rfl
  | _ :: _, 0, _ => rfl
  | _ :: r, n + 1, w => by unfold store; rw [List.length_cons, List.length_cons, store_length r n w]
theorem slot_store : ∀ (e : Env) (i : Nat) (w : W) (j : Nat), slot (store e i w) j = if j = i ∧ i < e.length then some w else slot e j
  | [], i, w, j => by
    rw [if_neg (by rintro ⟨_, z⟩; exact absurd z (Nat.not_lt_zero _))]
    rfl
  | x :: r, 0, w, j => by
    cases j with
    | zero => rw [if_pos ⟨rfl, by simp⟩]; rfl
    | succ j => rw [if_neg (by rintro ⟨z, _⟩; cases z)]; rfl
  | x :: r, i + 1, w, j => by
    cases j with
    | zero => rw [if_neg (by rintro ⟨z, _⟩; cases z)]; rfl
    | succ j =>
      have ih := slot_store r i w j
      show slot (store r i w) j = if j + 1 = i + 1 ∧ i + 1 < (x :: r).length then some w else slot r j
      rw [ih]
      by_cases c : j = i ∧ i < r.length
      · rw [if_pos c, if_pos ⟨by rw [c.1], by rw [List.length_cons]; exact Nat.succ_lt_succ c.2⟩]
      · rw [if_neg c, if_neg (by rintro ⟨a, b⟩; exact c ⟨Nat.succ.inj a, by rw [List.length_cons] at b; exact Nat.lt_of_succ_lt_succ b⟩)]
theorem SRel.set (S : SRel T ρ H e σ) {w : W} {v : V} (r : RelW T ρ H w v) (i : Nat) : SRel T ρ H (store e i w) (σ.set i (some v)) := by
  refine ⟨by rw [store_length, List.length_set]; exact S.1, fun j w' q => ?_⟩
  rw [slot_store] at q
  by_cases c : j = i ∧ i < e.length
  · rw [if_pos c] at q
    cases q
    rw [c.1]
    exact ⟨v, List.getElem?_set_self (by rw [← S.1]; exact c.2), r⟩
  · rw [if_neg c] at q
    obtain ⟨v', a, b⟩ := S.2 j w' q
    by_cases d : j = i
    · subst d
      exact absurd ⟨rfl, by rw [S.1]; exact (List.getElem?_eq_some_iff.mp a).1⟩ c
    · exact ⟨v', by rw [List.getElem?_set_ne (Ne.symm d)]; exact a, b⟩
theorem wipe1_length : ∀ (e : Env) (i : Nat), (wipe1 e i).length = e.length
  | [], _ => rfl
  | _ :: _, 0 => rfl
  | _ :: r, n + 1 => by unfold wipe1; rw [List.length_cons, List.length_cons, wipe1_length r n]
theorem slot_wipe1 : ∀ (e : Env) (i : Nat) (j : Nat) (w : W), slot (wipe1 e i) j = some w → j ≠ i ∧ slot e j = some w
  | [], i, j, w, h => by cases h
  | x :: r, 0, j, w, h => by
    cases j with
    | zero => cases h
    | succ j => exact ⟨by simp, h⟩
  | x :: r, i + 1, j, w, h => by
    cases j with
    | zero => exact ⟨by simp, h⟩
    | succ j =>
      obtain ⟨a, b⟩ := slot_wipe1 r i j w h
      exact ⟨fun z => a (Nat.succ.inj z), b⟩
theorem SRel.wipe (S : SRel T ρ H e σ) : ∀ vs : List Nat, SRel T ρ H (wipeE e vs) (L2.wipe σ vs)
  | [] => S
  | v :: vs => by
    have ih := SRel.wipe S vs
    refine ⟨by show (wipe1 (wipeE e vs) v).length = ((L2.wipe σ vs).set v none).length; rw [wipe1_length, List.length_set]; exact ih.1, fun j w q => ?_⟩
    obtain ⟨a, b⟩ := slot_wipe1 _ _ _ _ q
    obtain ⟨x, c, d⟩ := ih.2 j w b
    exact ⟨x, by show ((L2.wipe σ vs).set v none)[j]? = _; rw [List.getElem?_set_ne (Ne.symm a)]; exact c, d⟩
end
/-! ### readings -/
abbrev Rd1 := Env → Hv → RE
def tE (T : Tab) (EX : XK) (r : Rd1) : TE := fun σ H Q => ∃ ρ e h, HRel T ρ h H ∧ SRel T ρ H e σ ∧ OutE T ρ H (r e h) Q EX
def OutA (T : Tab) (ρ : Rho) (H : Hp) (r : RE) (Q : List V → Hp → Prop) (EX : XK) : Prop := match r with
  | .ok w h' => ∀ ρ' H' vs, Ext ρ H ρ' H' → HRel T ρ' h' H' → RelWs T ρ' H' (listOfW w) vs → Q vs H'
  | .exc c w h' => ∀ ρ' H' d v, Ext ρ H ρ' H' → HRel T ρ' h' H' → H' d = some (.xd [(("value" : Str), v)]) → (∀ n, ρ' n ≠ some d) → RelW T ρ' H' w v → EX (.ref (T.ca c)) (some d) H'
  | .bad => False
def tA (T : Tab) (EX : XK) (r : Rd1) : TA := fun σ H Q => ∃ ρ e h, HRel T ρ h H ∧ SRel T ρ H e σ ∧ OutA T ρ H (r e h) Q EX
def OutB (T : Tab) (ρ : Rho) (H : Hp) (r : RE) (Q : Bool → Hp → Prop) (EX : XK) : Prop := match r with
  | .ok w h' => ∃ b, truth h' w = some b ∧ ∀ ρ' H', Ext ρ H ρ' H' → HRel T ρ' h' H' → Q b H'
  | .exc c w h' => ∀ ρ' H' d v, Ext ρ H ρ' H' → HRel T ρ' h' H' → H' d = some (.xd [(("value" : Str), v)]) → (∀ n, ρ' n ≠ some d) → RelW T ρ' H' w v → EX (.ref (T.ca c)) (some d) H'
  | .bad => False
def tB (T : Tab) (EX : XK) (r : Rd1) : TT := fun σ H Q => ∃ ρ e h, HRel T ρ h H ∧ SRel T ρ H e σ ∧ OutB T ρ H (r e h) Q EX
section
variable {T : Tab} {EX : XK} {r : Rd1} {σ : L2.St} {H H1 : Hp} {ρ ρ1 : Rho} {h h1 : Hv} {e : Env} {x : RE}
theorem OutE.imp {Q Q' : VK} (o : OutE T ρ H x Q EX) (i : ∀ v H', Q v H' → Q' v H') : OutE T ρ H x Q' EX := by
  cases x with
  | ok w h' => exact fun ρ' H' v a b c => i _ _ (o ρ' H' v a b c)
  | exc c w h' => exact o
  | bad => exact o
theorem tE_mono {Q Q' : VK} (t : tE T EX r σ H Q) (i : ∀ v H', Q v H' → Q' v H') : tE T EX r σ H Q' := let ⟨ρ, e, h, a, b, c⟩ := t; ⟨ρ, e, h, a, b, c.imp i⟩
theorem tA_mono {Q Q' : List V → Hp → Prop} (t : tA T EX r σ H Q) (i : ∀ v H', Q v H' → Q' v H') : tA T EX r σ H Q' := by
  obtain ⟨ρ, e, h, a, b, c⟩ := t
  refine ⟨ρ, e, h, a, b, ?_⟩
  cases q : r e h with
  | ok w h' => rw [q] at c; exact fun ρ' H' v x y z => i _ _ (c ρ' H' v x y z)
  | exc d w h' => rw [q] at c; exact c
  | bad => rw [q] at c; exact c
theorem tB_mono {Q Q' : Bool → Hp → Prop} (t : tB T EX r σ H Q) (i : ∀ v H', Q v H' → Q' v H') : tB T EX r σ H Q' := by
  obtain ⟨ρ, e, h, a, b, c⟩ := t
  refine ⟨ρ, e, h, a, b, ?_⟩
  cases q : r e h with
  | ok w h' => rw [q] at c; obtain ⟨t, c1, c2⟩ := c; exact ⟨t, c1, fun ρ' H' x y => i _ _ (c2 ρ' H' x y)⟩
  | exc d w h' => rw [q] at c; exact c
  | bad => rw [q] at c; exact c
/-- one step of a chain -/
theorem step {Q : VK} {f : W → Hv → RE} (R : HRel T ρ h H) (S : SRel T ρ H e σ) (o : OutE T ρ H ((r e h).bind f) Q EX) :
    tE T EX r σ H fun v H1 => ∃ ρ1 h1 w, Ext ρ H ρ1 H1 ∧ HRel T ρ1 h1 H1 ∧ RelW T ρ1 H1 w v ∧ OutE T ρ1 H1 (f w h1) Q EX := by
  refine ⟨ρ, e, h, R, S, ?_⟩
  cases q : r e h with
  | ok w h' =>
    rw [q] at o
    have o : OutE T ρ H (f w h') Q EX := o
    intro ρ' H' v x R' rv
    refine ⟨ρ', h', w, x, R', rv, ?_⟩
    cases z : f w h' with
    | ok w2 h2 => rw [z] at o; exact fun ρ2 H2 v2 x2 R2 r2 => o ρ2 H2 v2 (x.trans x2) R2 r2
    | exc c w2 h2 => rw [z] at o; exact fun ρ2 H2 d v2 x2 R2 a b r2 => o ρ2 H2 d v2 (x.trans x2) R2 a b r2
    | bad => rw [z] at o; exact o
  | exc c w h' => rw [q] at o; exact o
  | bad => rw [q] at o; exact o
theorem OutE.from {x : RE} {Q : VK} (o : OutE T ρ H x Q EX) (y : Ext ρ H ρ1 H1) : OutE T ρ1 H1 x Q EX := by
  cases x with
  | ok w2 h2 => exact fun ρ2 H2 v2 x2 R2 r2 => o ρ2 H2 v2 (y.trans x2) R2 r2
  | exc c w2 h2 => exact fun ρ2 H2 d v2 x2 R2 a b r2 => o ρ2 H2 d v2 (y.trans x2) R2 a b r2
  | bad => exact o
theorem stepA {Q : VK} {f : W → Hv → RE} (R : HRel T ρ h H) (S : SRel T ρ H e σ) (o : OutE T ρ H ((r e h).bind f) Q EX) :
    tA T EX r σ H fun vs H1 => ∃ ρ1 h1 w, Ext ρ H ρ1 H1 ∧ HRel T ρ1 h1 H1 ∧ RelWs T ρ1 H1 (listOfW w) vs ∧ OutE T ρ1 H1 (f w h1) Q EX := by
  refine ⟨ρ, e, h, R, S, ?_⟩
  cases q : r e h with
  | ok w h' =>
    rw [q] at o
    have o : OutE T ρ H (f w h') Q EX := o
    exact fun ρ' H' vs x R' rv => ⟨ρ', h', w, x, R', rv, o.from x⟩
  | exc c w h' => rw [q] at o; exact o
  | bad => rw [q] at o; exact o
theorem stepB {Q : VK} {f : W → Hv → RE} (R : HRel T ρ h H) (S : SRel T ρ H e σ) (o : OutE T ρ H ((r e h).bind f) Q EX) (hf : ∀ w h', truth h' w = none → f w h' = .bad) :
    tB T EX r σ H fun b H1 => ∃ ρ1 h1 w, Ext ρ H ρ1 H1 ∧ HRel T ρ1 h1 H1 ∧ truth h1 w = some b ∧ OutE T ρ1 H1 (f w h1) Q EX := by
  refine ⟨ρ, e, h, R, S, ?_⟩
  cases q : r e h with
  | ok w h' =>
    rw [q] at o
    have o : OutE T ρ H (f w h') Q EX := o
    cases z : truth h' w with
    | none => rw [hf w h' z] at o; exact o.elim
    | some b => exact ⟨b, z, fun ρ' H' x R' => ⟨ρ', h', w, x, R', z, o.from x⟩⟩
  | exc c w h' => rw [q] at o; exact o
  | bad => rw [q] at o; exact o
/-- the same in a test's reading -/
theorem OutB.from {x : RE} {Q : Bool → Hp → Prop} (o : OutB T ρ H x Q EX) (y : Ext ρ H ρ1 H1) : OutB T ρ1 H1 x Q EX := by
  cases x with
  | ok w2 h2 => obtain ⟨b, o1, o2⟩ := o; exact ⟨b, o1, fun ρ2 H2 x2 R2 => o2 ρ2 H2 (y.trans x2) R2⟩
  | exc c w2 h2 => exact fun ρ2 H2 d v2 x2 R2 a b r2 => o ρ2 H2 d v2 (y.trans x2) R2 a b r2
  | bad => exact o
theorem stepBB {Q : Bool → Hp → Prop} {f : W → Hv → RE} (R : HRel T ρ h H) (S : SRel T ρ H e σ) (o : OutB T ρ H ((r e h).bind f) Q EX) (hf : ∀ w h', truth h' w = none → f w h' = .bad) :
    tB T EX r σ H fun b H1 => ∃ ρ1 h1 w, Ext ρ H ρ1 H1 ∧ HRel T ρ1 h1 H1 ∧ truth h1 w = some b ∧ OutB T ρ1 H1 (f w h1) Q EX := by
  refine ⟨ρ, e, h, R, S, ?_⟩
  cases q : r e h with
  | ok w h' =>
    rw [q] at o
    have o : OutB T ρ H (f w h') Q EX := o
    cases z : truth h' w with
    | none => rw [hf w h' z] at o; exact o.elim
    | some b => exact ⟨b, z, fun ρ' H' x R' => ⟨ρ', h', w, x, R', z, o.from x⟩⟩
  | exc c w h' => rw [q] at o; exact o
  | bad => rw [q] at o; exact o
/-- a test from a value -/
theorem tE_of_tB {Q : Bool → Hp → Prop} (t : tB T EX r σ H Q) : tE T EX r σ H fun v H1 => ∃ ρ1 h1 w b, HRel T ρ1 h1 H1 ∧ RelW T ρ1 H1 w v ∧ truth h1 w = some b ∧ Q b H1 := by
  obtain ⟨ρ, e, h, a, b, c⟩ := t
  refine ⟨ρ, e, h, a, b, ?_⟩
  cases q : r e h with
  | ok w h' =>
    rw [q] at c
    obtain ⟨t, c1, c2⟩ := c
    exact fun ρ' H' v x R' rv => ⟨ρ', h', w, t, R', rv, c1, c2 ρ' H' x R'⟩
  | exc d w h' => rw [q] at c; exact c
  | bad => rw [q] at c; exact c
end
section
variable {X : Cx}
theorem PE.imp {e : Expr} {t t' : TE} (h : PE X e t) (i : ∀ σ H Q, t' σ H Q → t σ H Q) : PE X e t' := ⟨fun pins s σ H Q I q => h.run pins s σ H Q I (i σ H Q q)⟩
theorem PT.imp {e : Expr} {t t' : TT} (h : PT X e t) (i : ∀ σ H Q, t' σ H Q → t σ H Q) : PT X e t' := ⟨fun pins s σ H Q I q => h.run pins s σ H Q I (i σ H Q q)⟩
theorem PW.imp {e : Expr} {t t' : TT} (h : PW X e t) (i : ∀ σ H Q, t' σ H Q → t σ H Q) : PW X e t' := ⟨fun wh pins s σ H Q I q => h.run wh pins s σ H Q I (i σ H Q q)⟩
theorem PA.imp {es : List Expr} {t t' : TA} (h : PA X es t) (i : ∀ σ H Q, t' σ H Q → t σ H Q) : PA X es t' := ⟨fun pos pins s σ H Q I q => h.run pos pins s σ H Q I (i σ H Q q)⟩
theorem PC.imp {op : CmpOp} {a b : Expr} {t t' : TE} (h : PC X op a b t) (i : ∀ σ H Q, t' σ H Q → t σ H Q) : PC X op a b t' := ⟨fun pins s σ H Q I q => h.run pins s σ H Q I (i σ H Q q)⟩
theorem PC.of {op : CmpOp} {a b : Expr} {ta tb : TE} {r : R2} (ho : OpR X (compareOp op) r) (ha : PE X a ta) (hb : PE X b tb) : PC X op a b (tOp r ta tb) :=
  ⟨fun pins s σ H Q I h => binT ha hb I h fun v u s2 x y H2 I2 rx ry q => ho pins s2 σ H2 x y v u Q I2 rx ry q⟩
/-- truth -/
def rTr (T : Tab) : V → Hp → (Bool → Hp → Prop) → Prop := fun x H Q => ∃ ρ h w b, HRel T ρ h H ∧ RelW T ρ H w x ∧ truth h w = some b ∧ Q b H
theorem isEmpty_ne {α : Type} (l : List α) : ((l.length : Int) != 0) = !l.isEmpty := by
  cases l with
  | nil => rfl
  | cons a t =>
    have : ((t.length + 1 : Nat) : Int) ≠ 0 := by omega
    show (((t.length + 1 : Nat) : Int) != 0) = true
    exact bne_iff_ne.mpr this
theorem RelWs.empty {T : Tab} {ρ : Rho} {H : Hp} {ws : List W} {vs : List V} (r : RelWs T ρ H ws vs) : ws.isEmpty = vs.isEmpty := by cases r <;> rfl
theorem RelKs.empty {T : Tab} {ρ : Rho} {H : Hp} {ws : List (W × W)} {vs : List (Key × V)} (r : RelKs T ρ H ws vs) : ws.isEmpty = vs.isEmpty := by cases r <;> rfl
theorem truth_V {T : Tab} {K : PySem.W.Frag} {ρ : Rho} {H : Hp} {h : Hv} {w : W} {x : V} {b : Bool} (hK : T.K = K) (R : HRel T ρ h H) (q : RelW T ρ H w x) (e : truth h w = some b) : TruV K x H b := by
  subst hK
  cases q with
  | non => cases e; rfl
  | bl c => cases e; rfl
  | int i =>
    cases e
    show (!decide (i = 0)) = (i != 0)
    by_cases z : i = 0
    · subst z; rfl
    · rw [decide_eq_false z]; exact (bne_iff_ne.mpr z).symm
  | str z =>
    simp only [truth] at e
    cases c : Nat.ble z.length strMax with
    | false => rw [c] at e; cases e
    | true =>
      rw [c] at e; cases e
      refine ⟨by rw [strLen]; exact Nat.le_trans (Nat.le_of_ble_eq_true c) strMax_line, ?_⟩
      rw [strLen, isEmpty_ne]
  | tup ht r => cases e; exact .inr (.inl ⟨_, ht.seq, by rw [r.empty]⟩)
  | @ref n a hn =>
    simp only [truth] at e
    obtain ⟨c, g, x⟩ := R.cell _ _ hn
    rw [g] at e
    cases c with
    | lst ws => cases e; obtain ⟨vs, e, r, _⟩ := x; exact .inl ⟨vs, .inl (.inl e), by rw [r.empty]⟩
    | frz ws => cases e; obtain ⟨o, vs, e, r, _⟩ := x; exact .inl ⟨vs, .inl (.inr ⟨o, e⟩), by rw [r.empty]⟩
    | dic kvs => cases e; obtain ⟨vs, e, r⟩ := x; exact .inr (.inr ⟨vs, e, by rw [r.empty]⟩)
    | ins c fs => cases e
  | fn i => cases e
  | exc hc ha hd na nd r => cases e
theorem rTr_ok {T : Tab} (hK : T.K = X.K) : TruR X (rTr T) := fun pins s σ H x v Q I rx ⟨ρ, h, w, b, R, q, e, hq⟩ => tru_ok pins s σ H x v Q I rx ⟨b, truth_V hK R q e, hq⟩
/-- a test from a value's rule -/
theorem pt_tr {T : Tab} {EX : XK} {r : Rd1} {e : Expr} (hK : T.K = X.K) (h : PE X e (tE T EX r)) (he : ∀ whole, isTrue e X.env whole = (do let v ← whole; standAt e.pos; holding [v] (truthy v))) : PT X e (tB T EX r) := by
  refine ⟨fun pins s σ H Q I hw => ?_⟩
  refine isTrue_plain (thn (h.run pins s σ H _ I (tE_of_tB hw)) fun v s1 ⟨x, H1, I1, r1, ρ1, h1, w, b, R1, q1, e1, hq⟩ => ?_) (he _)
  exact rTr_ok hK pins s1 σ H1 x v Q I1 r1 ⟨ρ1, h1, w, b, R1, q1, e1, hq⟩
theorem pt_cmpT {T : Tab} {EX : XK} {r : Rd1} {op : CmpOp} {a b : Expr} {pos : Pos} (hK : T.K = X.K) (h : PC X op a b (tE T EX r)) (h1 : behindInMarks op b = false) : PT X (.Compare a [op] [b] pos) (tB T EX r) := by
  refine ⟨fun pins s σ H Q I hw => ?_⟩
  refine wpAny_isTrue_Compare1 (thn (h.run pins s σ H _ I (tE_of_tB hw)) fun v s1 h1 => thn h1 fun u s2 h2 => thn h2 fun c s3 ⟨x, H1, I1, r1, ρ1, hh, w, b, R1, q1, e1, hq⟩ => ?_) h1
  exact rTr_ok hK pins s3 σ H1 x c Q I1 r1 ⟨ρ1, hh, w, b, R1, q1, e1, hq⟩
end
end Iv
/-! Iv5: the code against the text: a check that computes; where it says yes, the text does what the evaluator says. -/
namespace Iv
open PySem L2 PySem.SeqAt PyProof.Rows
/-! ### what of the text is looked at -/
inductive Tm where
  | e (x : Expr) | a (xs : List Expr) | p (ks : List (Option Expr)) (vs : List Expr) | g (x : Expr) | gs (xs : List Expr)
/-- names: the slots', the scope's, a block's own ones; the defs, the error classes by number -/
structure Ck where
  N : List Str
  ns : List (Str × NameKind)
  cs : Option (List (Str × NameKind))
  fs : List Str
  xs : List Str
def Ck.fn (k : Ck) (x : Str) : Bool := match k.cs with
  | none => true
  | some l => l.lookup x == some .cell
def Ck.isG (k : Ck) (x : Str) : Bool := decide (k.ns.lookup x = some .globalImplicit)
def Ck.isV (k : Ck) (x : Str) : Bool := match k.ns.lookup x with
  | some .local => true
  | some .cell => true
  | some .free => true
  | _ => false
def Ck.isL (k : Ck) (x : Str) : Bool := match k.ns.lookup x with
  | some .local => true
  | some .cell => k.fn x
  | _ => false
def noDbg (x : Str) : Bool := !(x == ("__debug__" : Str)) && !(x == ("__classdict__" : Str))
def isStar : Expr → Bool
  | .Starred _ _ => true
  | _ => false
def isSlice : Expr → Bool
  | .Slice _ _ _ _ => true
  | _ => false
/-- a test of it is its value's truth -/
def plainT : Expr → Bool
  | .UnaryOp .Not _ _ => false
  | .BoolOp _ _ _ => false
  | .IfExp _ _ _ _ => false
  | .Compare _ _ _ _ => false
  | _ => true
/-- no call of a bare name: attributeBase asks nothing -/
def call0 : Expr → Bool
  | .Call (.Name _ _) [] [] _ => true
  | _ => false
def opB : P2 → Option Operator
  | .add => some .Add
  | .sub => some .Sub
  | .mul => some .Mult
  | .fdiv => some .FloorDiv
  | .mod => some .Mod
  | .pow => some .Pow
  | _ => none
def opC : P2 → Option CmpOp
  | .eq => some .Eq
  | .ne => some .NotEq
  | .lt => some .Lt
  | .le => some .LtE
  | .gt => some .Gt
  | .ge => some .GtE
  | _ => none
def bltN : P1 → Option String
  | .len => some "len"
  | .abs => some "abs"
  | .sum => some "sum"
  | .all => some "all"
  | .any => some "any"
  | .repr => some "repr"
  | _ => none
/-- the built-in names that the rules use -/
def bnames : List Str := ["len", "abs", "sum", "all", "any", "repr", "int", "isinstance", "range", "ValueError"]
def relab (ns : List (Str × NameKind)) (l : List (Str × NameKind)) : List (Str × NameKind) := l.map fun y => if (y.2 == .free && ns.lookup y.1 == some .cell) = true then (y.1, .cell) else y
def Ck.blk (k : Ck) (sc : Scope) : Ck := { k with ns := relab k.ns sc.names, cs := some sc.names }
def chkK : W → Const → Bool
  | .non, .none => true
  | .bl b, .bool c => decide (b = c)
  | .int i, .int j => decide (i = j)
  | .str x, .str y => decide (x = y.cps.toList)
  | _, _ => false
def chkG (k : Ck) (own : Option (List Nat)) : G → Tm → Bool
  | .one i, .g (.Name x _) => decide (k.N[i]? = some x) && k.isL x && (match own with | none => true | some l => l.contains i)
  | .tup gs, .g (.Tuple es _ _) => chkG k own gs (.gs es)
  | .nil, .gs [] => true
  | .cons g gs, .gs (e :: es) => !isStar e && chkG k own g (.g e) && chkG k own gs (.gs es)
  | _, _ => false
/-- a block's own names, their slots -/
def ownN (N : List Str) : List Nat → Option (List (Str × Nat))
  | [] => some []
  | i :: r => (match N[i]? with
    | some x => (match ownN N r with
      | some l => some ((x, i) :: l)
      | none => none)
    | none => none)
def chkBlk (k : Ck) (sc : Scope) (own : List (Str × Nat)) : Bool :=
  decide (sc.kind = .function) && sc.names.all (fun y => sc.names.lookup y.1 == some y.2) &&
  sc.names.all (fun y => !(y.2 == .free) || (k.ns.lookup y.1 == some .cell || k.ns.lookup y.1 == some .free)) &&
  sc.names.all (fun y => !(y.2 == .local || y.2 == .cell) || ((own.map (·.1)).contains y.1 || !(k.N.contains y.1)))
def isSet : Expr → Bool
  | .Set _ _ _ => true
  | _ => false
def cIsi (k : Ck) (o : P1) (c : Str) : Bool := match o with
  | .isiX i => decide (k.xs[i]? = some c) && k.isG c && noDbg c
  | .isiV => decide (c = ("ValueError" : Str)) && k.isG c
  | _ => false
def chk : E → Ck → Tm → Bool
  | .k w, _, .e (.Constant c _ _) => chkK w c
  | .var i, k, .e (.Name x _) => decide (k.N[i]? = some x) && k.isV x && noDbg x
  | .p1 o a, k, .e (.Call (.Name n _) [b] [] _) => (match bltN o with
      | some y => decide (n = (y : Str)) && k.isG n
      | none => (match o with | .int1 => decide (n = ("int" : Str)) && k.isG n | _ => false)) && !isStar b && chk a k (.e b)
  | .p1 o a, k, .e (.Call (.Name n _) [b, .Name c _] [] _) => decide (n = ("isinstance" : Str)) && k.isG n && cIsi k o c && !isStar b && chk a k (.e b)
  | .p1 o a, k, .e (.Compare b [q] [.Constant .none _ _] _) => (match o, q with
      | .isN, .Is => true
      | .notN, .IsNot => true
      | _, _ => false) && chk a k (.e b)
  | .p1 .neg a, k, .e (.UnaryOp .USub b _) => chk a k (.e b)
  | .p2 o a b, k, .e (.BinOp l q r _) => decide (opB o = some q) && chk a k (.e l) && chk b k (.e r)
  | .p2 o a b, k, .e (.Compare l [q] [r] _) => decide (opC o = some q) && chk a k (.e l) && chk b k (.e r)
  | .p2 .get a b, k, .e (.Subscript l r _) => !isSlice r && chk a k (.e l) && chk b k (.e r)
  | .cut a bl lo bh hi, k, .e (.Subscript l (.Slice l1 h1 none _) _) => chk a k (.e l) && (match bl, l1 with
      | true, some x => chk lo k (.e x)
      | false, none => (match lo with | .k .non => true | _ => false)
      | _, _ => false) && (match bh, h1 with
      | true, some x => chk hi k (.e x)
      | false, none => (match hi with | .k .non => true | _ => false)
      | _, _ => false)
  | .and a b, k, .e (.BoolOp .And (x :: y :: rest) pos) => chk a k (.e x) && (match rest with
      | [] => chk b k (.e y)
      | z :: zs => chk b k (.e (.BoolOp .And (y :: z :: zs) pos)))
  | .or a b, k, .e (.BoolOp .Or (x :: y :: rest) pos) => chk a k (.e x) && (match rest with
      | [] => chk b k (.e y)
      | z :: zs => chk b k (.e (.BoolOp .Or (y :: z :: zs) pos)))
  | .not a, k, .e (.UnaryOp .Not x _) => chk a k (.e x)
  | .ite c a b, k, .e (.IfExp x y z _) => chk c k (.e x) && chk a k (.e y) && chk b k (.e z)
  | .nil, _, .a [] => true
  | .cons a as, k, .a (x :: xs) => !isStar x && chk a k (.e x) && chk as k (.a xs)
  | .nil, _, .p [] [] => true
  | .cons a (.cons b as), k, .p (some x :: ks) (y :: vs) => chk a k (.e x) && chk b k (.e y) && chk as k (.p ks vs)
  | .tup as, k, .e (.Tuple es _ _) => chk as k (.a es)
  | .lst as, k, .e (.List es _) => chk as k (.a es)
  | .dnew, _, .e (.Dict [] [] _) => true
  | .dic as, k, .e (.Dict (x :: ks) vs _) => Nat.beq (ks.length + 1) vs.length && Nat.ble (ks.length + 1) 15 && (x :: ks).all (·.isSome) && chk as k (.p (x :: ks) vs)
  | .call f as, k, .e (.Call (.Name n _) es [] _) => decide (k.fs[f]? = some n) && k.isG n && noDbg n && chk as k (.a es)
  | .mkx c a, k, .e (.Call (.Name n _) [b] [] _) => decide (k.xs[c]? = some n) && k.isG n && noDbg n && !isStar b && chk a k (.e b)
  | .mt .append o as, k, .e (.Call (.Attribute x m apos) [b] [] pos) => decide (m = ("append" : Str)) && !call0 x && (apos.endLine == pos.line) && !isStar b && chk o k (.e x) && chk as k (.a [b])
  | .xval a, k, .e (.Attribute x m _) => decide (m = ("value" : Str)) && !call0 x && chk a k (.e x)
  | .lc own g ik a b cs c el, k, .e (.ListComp elt [⟨tg, iter, ifs, 0⟩] scope _) => (match ownN k.N own with
      | none => false
      | some l => chkBlk k scope l) && !isSet iter && chkG (k.blk scope) (some own) g (.g tg) && chk el (k.blk scope) (.e elt) &&
      (match cs, ifs with
        | false, [] => true
        | true, [x] => chk c (k.blk scope) (.e x)
        | _, _ => false) &&
      (match ik, iter with
        | .rng, .Call (.Name n _) [x] [] _ => decide (n = ("range" : Str)) && k.isG n && !isStar x && chk a k (.e x) && (match b with | .k .non => true | _ => false)
        | .rng2, .Call (.Name n _) [x, y] [] _ => decide (n = ("range" : Str)) && k.isG n && !isStar x && !isStar y && chk a k (.e x) && chk b k (.e y)
        | .seq, x => chk a k (.e x) && (match b with | .k .non => true | _ => false)
        | _, _ => false)
  | _, _, _ => false
end Iv
/-! Iv6: contexts, and the check's cases. -/
namespace Iv
open PySem L2 PySem.SeqAt PyProof.Rows
/-- room: for k calls -/
structure Rm (k : Nat) (A : Around) : Prop where
  hd : A.handled = none
  gd : A.guards = some []
  dp : A.depth + k + 40 < recursionLimit
  un : A.units + 4 * k + 400 < cLine
theorem Rm.room {k : Nat} {A : Around} (r : Rm k A) : Room 5 A := ⟨r.hd, by have := r.dp; omega, by have := r.un; omega⟩
/-- a def does what the calls' evaluator says -/
def FnS (P : Program) (w : World) (K : PySem.W.Frag) (mg : Str → Option Value) (base : Heap) (CX : CXT) (T : Tab) (call : Call) (n : Nat) (i : Nat) : Prop :=
  ∀ (A : Around) (outer : List PySem.Env) (s : Shared) (H : Hp) (us : List Value) (vs : List V) (Q : VK) (E : XK), Rm n A → Env0 P w K mg base A outer s H → Vals vs us →
    (∃ ρ h ws, HRel T ρ h H ∧ RelWs T ρ H ws vs ∧ OutE T ρ H (call i ws h) Q E) → codeAny (model P w) A (.call (.ref (T.fa i)) ⟨us, []⟩) (CR CX outer P w H s Q E) s
/-- the text's facts -/
structure Gd (T : Tab) (P : Program) (w : World) (K : PySem.W.Frag) (mg : Str → Option Value) (base : Heap) (fs xs : List Str) : Prop where
  hK : T.K = K
  defs : ∀ (i : Nat) x, fs[i]? = some x → mg x = some (.ref (T.fa i)) ∧ PySem.W.keepIn K (.ref (T.fa i)) = true
  nx : T.nx = xs.length
  errs : ∀ (c : Nat) x, xs[c]? = some x → mg x = some (.ref (T.ca c))
  err : ∀ c, c < T.nx → ∃ D fI, Xs.BaseT P K D fI ∧ Xs.ErrT K D fI (T.ca c)
  bl : ∀ x ∈ bnames, mg x = none
  kit : ∀ d c, d < T.nx → c < T.nx → PySem.W.kitOne K (.ref (T.ca d)) (.ref (T.ca c)) = some (decide (d = c) || decide (c = 0))
  kitV : ∀ d, d < T.nx → PySem.W.kitOne K (.ref (T.ca d)) (.type "ValueError") = some true
  kitT : ∀ t ∈ ["NoneType", "bool", "int", "str"], (∀ c, c < T.nx → PySem.W.kitOne K (.type t) (.ref (T.ca c)) = some false) ∧ PySem.W.kitOne K (.type t) (.type "ValueError") = some false
/-- a context that the check serves -/
structure CkX (T : Tab) (CX : CXT) (call : Call) (n : Nat) (EX : XK) (k : Ck) (X : Cx) : Prop where
  hN : X.N = k.N
  nd : X.N.Nodup
  sc : X.env.scope.names = k.ns
  kd : X.env.scope.kind = .function
  fn : X.fn = k.fn
  calm : X.calm = true
  rm : Rm n X.A
  pass : Passes CX X EX
  own : PassesOwn (model X.prog X.w) X.A X.env X.xe
  gd : Gd T X.prog X.w X.K X.mg X.base k.fs k.xs
  fns : ∀ i, FnS X.prog X.w X.K X.mg X.base CX T call n i
section
variable {T : Tab} {CX : CXT} {call : Call} {n F : Nat} {EX : XK} {k : Ck} {X : Cx}
theorem CkX.hK (C : CkX T CX call n EX k X) : T.K = X.K := C.gd.hK
theorem CkX.g (C : CkX T CX call n EX k X) {x : Str} (h : k.isG x = true) : Gl X x := by
  have := of_decide_eq_true h
  show X.env.scope.names.lookup x = _
  rw [C.sc]; exact this
theorem CkX.v (C : CkX T CX call n EX k X) {x : Str} (h : k.isV x = true) : Vis X.env.scope x := by
  unfold Ck.isV at h
  unfold Vis
  rw [C.sc]
  split at h
  · exact .inl ‹_›
  · exact .inr (.inl ‹_›)
  · exact .inr (.inr ‹_›)
  · cases h
theorem CkX.l (C : CkX T CX call n EX k X) {x : Str} (h : k.isL x = true) : L2.Loc X.env.scope x ∧ (X.fn x = true ∨ X.env.scope.names.lookup x = some .local) := by
  unfold Ck.isL at h
  unfold L2.Loc
  rw [C.sc, C.fn]
  split at h
  · exact ⟨.inl ‹_›, .inr ‹_›⟩
  · exact ⟨.inr ‹_›, .inl h⟩
  · cases h
theorem CkX.b (C : CkX T CX call n EX k X) {x : Str} (h : x ∈ bnames) : X.mg x = none := C.gd.bl x h
theorem noDbg1 {x : Str} (h : noDbg x = true) : (x == ("__debug__" : Str)) = false ∧ (x == ("__classdict__" : Str)) = false := by
  unfold noDbg at h
  obtain ⟨a, b⟩ := Bool.and_eq_true_iff.mp h
  exact ⟨by simpa using a, by simpa using b⟩
theorem star_of {e : Expr} {es : List Expr} {env : PySem.Env} (h : isStar e = false) : starEach (e :: es) env = (false, eval e env) :: starEach es env := by
  cases e <;> first | rfl | cases h
theorem isTrue_of {e : Expr} {env : PySem.Env} (h : plainT e = true) : ∀ whole, isTrue e env whole = (do let v ← whole; standAt e.pos; holding [v] (truthy v)) := by
  intro whole
  cases e <;> first | rfl | (cases h; done) | skip
  rename_i o _ _
  cases o <;> first | rfl | cases h
theorem base_of {o : Expr} {m : Str} {env : PySem.Env} {w : Sem Value} (h : call0 o = false) : attributeBase o m env w = w := by
  unfold attributeBase
  split
  · cases h
  · rfl
def Good (T : Tab) (EX : XK) (X : Cx) (r : Rd1) : Tm → Prop
  | .e x => isStar x = false ∧ PE X x (tE T EX r) ∧ PT X x (tB T EX r) ∧ ∀ op vs pos, x = .BoolOp op vs pos → PW X x (tB T EX r)
  | .a xs => PA X xs (tA T EX r) ∧ xs.all (fun x => !isStar x) = true
  | _ => True
theorem good_e {r : Rd1} {x : Expr} (hK : T.K = X.K) (hs : isStar x = false) (hp : plainT x = true) (h : PE X x (tE T EX r)) : Good T EX X r (.e x) :=
  ⟨hs, h, pt_tr hK h (isTrue_of hp), fun op vs pos e => by subst e; cases hp⟩
theorem good_c {r : Rd1} {a b : Expr} {q : CmpOp} {pos : Pos} (hK : T.K = X.K) (h : PC X q a b (tE T EX r)) (h1 : behindInMarks q b = false) : Good T EX X r (.e (.Compare a [q] [b] pos)) :=
  ⟨rfl, pe_cmp h h1, pt_cmpT hK h h1, fun _ _ _ e => nomatch e⟩
/-! ### the cases -/
theorem tE_here {r : Rd1} {σ : L2.St} {H : Hp} {Q : VK} {w : W} {v : V} (t : tE T EX r σ H Q) (hr : ∀ e h, r e h = .ok w h) (hv : ∀ ρ, RelW T ρ H w v) : Q v H := by
  obtain ⟨ρ, e, h, R, S, o⟩ := t
  rw [hr] at o
  exact o.here R (hv ρ)
theorem ok_k {w : W} {c : Const} {j : Nat} {pos : Pos} (C : CkX T CX call n EX k X) (h : chkK w c = true) : Good T EX X (evE F call (.k w)) (.e (.Constant c j pos)) := by
  refine good_e C.hK rfl rfl ?_
  cases w <;> cases c <;> first | (cases h; done) | skip
  · exact PE.imp pe_non fun σ H Q t => tE_here t (fun _ _ => rfl) fun _ => .non
  · have e := of_decide_eq_true h
    subst e
    exact PE.imp pe_bl fun σ H Q t => tE_here t (fun _ _ => rfl) fun _ => .bl _
  · have e := of_decide_eq_true h
    subst e
    exact PE.imp pe_int fun σ H Q t => tE_here t (fun _ _ => rfl) fun _ => .int _
  · have e := of_decide_eq_true h
    subst e
    exact PE.imp pe_str fun σ H Q t => tE_here t (fun _ _ => rfl) fun _ => by
      have q := RelW.str (T := T) (ρ := ‹_›) (H := H) (‹Str›.cps.toList)
      simpa using q
theorem ok_var {i : Nat} {x : Str} {pos : Pos} (C : CkX T CX call n EX k X) (h1 : k.N[i]? = some x) (h2 : k.isV x = true) (h3 : noDbg x = true) : Good T EX X (evE F call (.var i)) (.e (.Name x pos)) := by
  refine good_e C.hK rfl rfl (PE.imp (pe_var (i := i) (by rw [C.hN]; exact h1) (C.v h2) (noDbg1 h3).1 (noDbg1 h3).2) fun σ H Q t => ?_)
  obtain ⟨ρ, e, h, R, S, o⟩ := t
  simp only [evE] at o
  cases c : slot e i with
  | none => rw [c] at o; exact o.elim
  | some w =>
    rw [c] at o
    obtain ⟨v, a, b⟩ := S.2 i w c
    exact ⟨v, a, o.here R b⟩
/-- one value in -/
theorem in1 {a : E} {f : W → Hv → RE} {r : Rd1} {σ : L2.St} {H : Hp} {Q : VK} (hr : ∀ e h, r e h = (evE F call a e h).bind f) (t : tE T EX r σ H Q) :
    tE T EX (evE F call a) σ H fun v H1 => ∃ ρ1 h1 w, HRel T ρ1 h1 H1 ∧ RelW T ρ1 H1 w v ∧ OutE T ρ1 H1 (f w h1) Q EX := by
  obtain ⟨ρ, e, h, R, S, o⟩ := t
  rw [hr] at o
  exact tE_mono (step R S o) fun v H1 ⟨ρ1, h1, w, _, R1, q, o1⟩ => ⟨ρ1, h1, w, R1, q, o1⟩
/-- two values in -/
theorem in2 {a b : E} {f : W → W → Hv → RE} {r : Rd1} {σ : L2.St} {H : Hp} {Q : VK} (hr : ∀ e h, r e h = (evE F call a e h).bind fun x h1 => (evE F call b e h1).bind fun y h2 => f x y h2) (t : tE T EX r σ H Q) :
    tE T EX (evE F call a) σ H fun v H1 => tE T EX (evE F call b) σ H1 fun u H2 => ∃ ρ2 h2 w z, HRel T ρ2 h2 H2 ∧ RelW T ρ2 H2 w v ∧ RelW T ρ2 H2 z u ∧ OutE T ρ2 H2 (f w z h2) Q EX := by
  obtain ⟨ρ, e, h, R, S, o⟩ := t
  rw [hr] at o
  refine tE_mono (step R S o) fun v H1 ⟨ρ1, h1, w, x1, R1, q, o1⟩ => ?_
  refine tE_mono (step R1 (S.mono x1) o1) fun u H2 ⟨ρ2, h2, z, x2, R2, q2, o2⟩ => ?_
  exact ⟨ρ2, h2, w, z, R2, q.mono x2, q2, o2⟩
theorem ok_bin {o : P2} {a b : E} {l r : Expr} {q : Operator} {pos : Pos} (C : CkX T CX call n EX k X) (ho : opB o = some q) (ha : Good T EX X (evE F call a) (.e l)) (hb : Good T EX X (evE F call b) (.e r)) : Good T EX X (evE F call (.p2 o a b)) (.e (.BinOp l q r pos)) := by
  have go : OpR X (binaryOp q) (rP2 T o EX) := by
    cases o <;> cases ho
    · exact p2_add C.hK
    · exact p2_sub
    · exact p2_mul
    · exact p2_fdiv
    · exact p2_mod
    · exact p2_pow
  exact good_e C.hK rfl rfl (PE.imp (pe_op go ha.2.1 hb.2.1) fun σ H Q t => in2 (f := fun x y h => p2 h o x y) (fun _ _ => rfl) t)
theorem ok_cmp {o : P2} {a b : E} {l r : Expr} {q : CmpOp} {pos : Pos} (C : CkX T CX call n EX k X) (ho : opC o = some q) (ha : Good T EX X (evE F call a) (.e l)) (hb : Good T EX X (evE F call b) (.e r)) : Good T EX X (evE F call (.p2 o a b)) (.e (.Compare l [q] [r] pos)) := by
  have hu : X.A.units + 60 < cLine := by have := C.rm.un; omega
  have go : OpR X (compareOp q) (rP2 T o EX) := by
    cases o <;> cases ho
    · exact p2_eq C.hK hu
    · exact p2_ne C.hK hu
    · exact p2_lt
    · exact p2_le
    · exact p2_gt
    · exact p2_ge
  have nb : behindInMarks q r = false := by
    cases o <;> cases ho <;> exact nobehind r (by decide) (by decide)
  exact good_c C.hK (PC.imp (PC.of go ha.2.1 hb.2.1) fun σ H Q t => in2 (f := fun x y h => p2 h o x y) (fun _ _ => rfl) t) nb
theorem subscripted_of {b : Expr} (h : isSlice b = false) : PlainIx b := by
  intro o i
  cases b <;> first | rfl | cases h
theorem ok_get {a b : E} {l r : Expr} {pos : Pos} (C : CkX T CX call n EX k X) (hs : isSlice r = false) (ha : Good T EX X (evE F call a) (.e l)) (hb : Good T EX X (evE F call b) (.e r)) : Good T EX X (evE F call (.p2 .get a b)) (.e (.Subscript l r pos)) :=
  good_e C.hK rfl rfl (PE.imp (pe_ix (p2_get C.hK) ha.2.1 hb.2.1 (subscripted_of hs)) fun σ H Q t => in2 (f := fun x y h => p2 h .get x y) (fun _ _ => rfl) t)
theorem ok_neg {a : E} {b : Expr} {pos : Pos} (C : CkX T CX call n EX k X) (ha : Good T EX X (evE F call a) (.e b)) : Good T EX X (evE F call (.p1 .neg a)) (.e (.UnaryOp .USub b pos)) := by
  refine good_e C.hK rfl rfl (PE.imp (pe_un un_neg ha.2.1) fun σ H Q t => tE_mono (in1 (f := fun x h => p1 h .neg x) (fun _ _ => rfl) t) fun v H1 ⟨ρ1, h1, w, R1, q, o⟩ => ?_)
  cases q <;> first | exact o.elim | skip
  exact ⟨_, rfl, o.here R1 (.int _)⟩
theorem ok_isN {a : E} {b : Expr} {j : Nat} {p2 pos : Pos} (C : CkX T CX call n EX k X) (ha : Good T EX X (evE F call a) (.e b)) : Good T EX X (evE F call (.p1 .isN a)) (.e (.Compare b [.Is] [.Constant .none j p2] pos)) := by
  refine good_c C.hK (PC.imp (pc_isN ha.2.1) fun σ H Q t => tE_mono (in1 (f := fun x h => p1 h .isN x) (fun _ _ => rfl) t) fun v H1 ⟨ρ1, h1, w, R1, q, o⟩ => ?_) rfl
  cases q <;> exact o.here R1 (.bl _)
theorem ok_notN {a : E} {b : Expr} {j : Nat} {p2 pos : Pos} (C : CkX T CX call n EX k X) (ha : Good T EX X (evE F call a) (.e b)) : Good T EX X (evE F call (.p1 .notN a)) (.e (.Compare b [.IsNot] [.Constant .none j p2] pos)) := by
  refine good_c C.hK (PC.imp (pc_notN ha.2.1) fun σ H Q t => tE_mono (in1 (f := fun x h => p1 h .notN x) (fun _ _ => rfl) t) fun v H1 ⟨ρ1, h1, w, R1, q, o⟩ => ?_) rfl
  cases q <;> exact o.here R1 (.bl _)
/-- f(e), f a built-in -/
theorem bi_of {x : Str} {id : String} {o : P1} {a : E} {b : Expr} {p pos : Pos} (C : CkX T CX call n EX k X) (hc : CallR X (.builtin id) (rP1 T o EX)) (hx : x ∈ bnames) (hg : k.isG x = true) (hv : bootBuiltins x = some (.builtin id)) (hn : x ≠ "__name__") (hd : (x == ("__debug__" : Str)) = false)
    (ha : Good T EX X (evE F call a) (.e b)) : Good T EX X (evE F call (.p1 o a)) (.e (.Call (.Name x p) [b] [] pos)) :=
  good_e C.hK rfl rfl (PE.imp (pe_callB hc (C.g hg) (C.b hx) hv (pa_cons ha.2.1 pa_nil (star_of ha.1)) hn hd (star_of ha.1) rfl) fun σ H Q t => tE_mono (in1 (f := fun x h => p1 h o x) (fun _ _ => rfl) t) fun v H1 ⟨ρ1, h1, w, R1, q, o⟩ => ⟨v, ρ1, h1, w, rfl, R1, q, o⟩)
theorem ty_of {x : Str} {id : String} {o : P1} {a : E} {b : Expr} {p pos : Pos} (C : CkX T CX call n EX k X) (hc : CallR X (.type id) (rP1 T o EX)) (hx : x ∈ bnames) (hg : k.isG x = true) (hv : bootBuiltins x = some (.type id)) (hn : x ≠ "__name__") (hd : (x == ("__debug__" : Str)) = false)
    (ha : Good T EX X (evE F call a) (.e b)) : Good T EX X (evE F call (.p1 o a)) (.e (.Call (.Name x p) [b] [] pos)) :=
  good_e C.hK rfl rfl (PE.imp (pe_callTy hc (C.g hg) (C.b hx) hv (pa_cons ha.2.1 pa_nil (star_of ha.1)) hn hd (star_of ha.1) rfl) fun σ H Q t => tE_mono (in1 (f := fun x h => p1 h o x) (fun _ _ => rfl) t) fun v H1 ⟨ρ1, h1, w, R1, q, o⟩ => ⟨v, ρ1, h1, w, rfl, R1, q, o⟩)
theorem ok_b1 {o : P1} {y : String} {a : E} {b : Expr} {p pos : Pos} (C : CkX T CX call n EX k X) (ho : bltN o = some y) (hg : k.isG (y : Str) = true) (ha : Good T EX X (evE F call a) (.e b)) : Good T EX X (evE F call (.p1 o a)) (.e (.Call (.Name (y : Str) p) [b] [] pos)) := by
  have hu : X.A.units + 40 < cLine := by have := C.rm.un; omega
  cases o <;> cases ho
  · exact bi_of C (p1_len C.hK) (by simp [bnames]) hg boot_len (by decide) (by decide) ha
  · exact bi_of C p1_abs (by simp [bnames]) hg (by first | boot_by_name | rfl | kernel_rfl) (by decide) (by decide) ha
  · exact bi_of C (p1_sum C.hK C.calm) (by simp [bnames]) hg (by first | boot_by_name | rfl | kernel_rfl) (by decide) (by decide) ha
  · exact bi_of C (p1_all C.hK C.calm) (by simp [bnames]) hg (by first | boot_by_name | rfl | kernel_rfl) (by decide) (by decide) ha
  · exact bi_of C (p1_any C.hK C.calm) (by simp [bnames]) hg (by first | boot_by_name | rfl | kernel_rfl) (by decide) (by decide) ha
  · exact bi_of C (p1_repr C.hK C.rm.gd hu) (by simp [bnames]) hg (by first | boot_by_name | rfl | kernel_rfl) (by decide) (by decide) ha
theorem ok_int {a : E} {b : Expr} {p pos : Pos} (C : CkX T CX call n EX k X) (hg : k.isG ("int" : Str) = true) (ha : Good T EX X (evE F call a) (.e b)) : Good T EX X (evE F call (.p1 .int1 a)) (.e (.Call (.Name ("int" : Str) p) [b] [] pos)) :=
  ty_of C p1_int (by simp [bnames]) hg (by first | boot_by_name | rfl | kernel_rfl) (by decide) (by decide) ha
end
end Iv
/-! Iv7: further cases. -/
namespace Iv
open PySem L2 PySem.SeqAt PyProof.Rows
section
variable {T : Tab} {CX : CXT} {call : Call} {n F : Nat} {EX : XK} {k : Ck} {X : Cx}
/-! ### isinstance -/
theorem isX_tru {K : PySem.W.Frag} {mg : Str → Option Value} {base : Heap} {fs xs : List Str} {P : Program} {w : World} (G : Gd T P w K mg base fs xs) {ρ : Rho} {H : Hp} {h : Hv} {wx : W} {x : V} {Q : VK} (cv : V) (cu : Value) (o : P1) (ob : Nat → Bool) (R : HRel T ρ h H) (q : RelW T ρ H wx x)
    (hk : ClsV cv cu) (h1 : ∀ d, d < T.nx → PySem.W.kitOne K (.ref (T.ca d)) cu = some (ob d)) (h2 : ∀ t ∈ ["NoneType", "bool", "int", "str"], PySem.W.kitOne K (.type t) cu = some false)
    (out : OutE T ρ H (match isErr wx with | some (some d) => RE.ok (.bl (ob d)) h | some none => .ok (.bl false) h | none => .bad) Q EX) : rIsiX K [x, cv] H Q ∨ rIsi K [x, cv] H Q := by
  cases q with
  | non => exact .inr ⟨_, _, _, _, _, rfl, hk, .base .non, h2 _ (by simp), out.here R (.bl _)⟩
  | bl b => exact .inr ⟨_, _, _, _, _, rfl, hk, .base (.bl _), h2 _ (by simp), out.here R (.bl _)⟩
  | int i => exact .inr ⟨_, _, _, _, _, rfl, hk, .base (.int _), h2 _ (by simp), out.here R (.bl _)⟩
  | str z => exact .inr ⟨_, _, _, _, _, rfl, hk, .base (.str _), h2 _ (by simp), out.here R (.bl _)⟩
  | exc hc ha hd na nd r =>
    obtain ⟨D, fI, _, Y⟩ := G.err _ hc
    exact .inl ⟨_, _, _, D, fI, _, _, _, _, rfl, hk, ha, hd, Y, h1 _ hc, out.here R (.bl _)⟩
  | tup ht r => exact out.elim
  | ref hn => exact out.elim
  | fn i => exact out.elim
theorem ok_isi {o : P1} {a : E} {b : Expr} {c : Str} {p p2 pos : Pos} (C : CkX T CX call n EX k X) (hg : k.isG ("isinstance" : Str) = true) (hc : cIsi k o c = true) (ha : Good T EX X (evE F call a) (.e b)) :
    Good T EX X (evE F call (.p1 o a)) (.e (.Call (.Name ("isinstance" : Str) p) [b, .Name c p2] [] pos)) := by
  have hv : bootBuiltins ("isinstance" : Str) = some (.builtin "isinstance") := by first | boot_by_name | rfl | kernel_rfl
  have go : ∀ (cv : V) (cu : Value) (ob : Nat → Bool), ClsV cv cu → PE X (.Name c p2) (tC cv) → (∀ d, d < T.nx → PySem.W.kitOne X.K (.ref (T.ca d)) cu = some (ob d)) → (∀ t ∈ ["NoneType", "bool", "int", "str"], PySem.W.kitOne X.K (.type t) cu = some false) →
      (∀ h wx, p1 h o wx = (match isErr wx with | some (some d) => RE.ok (.bl (ob d)) h | some none => .ok (.bl false) h | none => .bad)) → Good T EX X (evE F call (.p1 o a)) (.e (.Call (.Name ("isinstance" : Str) p) [b, .Name c p2] [] pos)) := by
    intro cv cu ob hk hp h1 h2 he
    refine good_e C.hK rfl rfl (PE.imp (pe_callB (CallR.or call_isiX call_isi) (C.g hg) (C.b (by simp [bnames])) hv (pa_cons ha.2.1 (pa_cons hp pa_nil rfl) (star_of ha.1)) (by decide) (by decide) (star_of ha.1) rfl) fun σ H Q t =>
      tE_mono (in1 (f := fun x h => p1 h o x) (fun _ _ => rfl) t) fun v H1 ⟨ρ1, h1', w, R1, q, out⟩ => ?_)
    rw [he] at out
    exact isX_tru C.gd cv cu o ob R1 q hk h1 h2 out
  cases o <;> first | (cases hc; done) | skip
  · rename_i i
    obtain ⟨hc12, hc3⟩ := Bool.and_eq_true_iff.mp hc
    obtain ⟨hc1, hc2⟩ := Bool.and_eq_true_iff.mp hc12
    have e := of_decide_eq_true hc1
    have hi : i < T.nx := by rw [C.gd.nx]; exact (List.getElem?_eq_some_iff.mp e).1
    exact go (.ref (T.ca i)) (.ref (T.ca i)) (fun d => decide (d = i) || decide (i = 0)) (.own _) (pe_glob (C.g hc2) (C.gd.errs i c e) rfl (noDbg1 hc3).1) (fun d hd => C.gd.kit d i hd hi) (fun t ht => (C.gd.kitT t ht).1 i hi) fun h wx => rfl
  · obtain ⟨hc1, hc2⟩ := Bool.and_eq_true_iff.mp hc
    have e := of_decide_eq_true hc1
    subst e
    exact go (.ty "ValueError") (.type "ValueError") (fun _ => true) (.ty _) (pe_bltn (C.g hc2) (C.b (by simp [bnames])) (by first | boot_by_name | rfl | kernel_rfl) rfl (by decide) (by decide)) (fun d hd => C.gd.kitV d hd) (fun t ht => (C.gd.kitT t ht).2) fun h wx => rfl
/-! ### and, or, not, if -/
theorem truth_bad {r s : Hv → RE} {w : W} {h : Hv} (e : truth h w = none) : (match truth h w with | some true => r h | some false => s h | none => RE.bad) = .bad := by rw [e]
theorem ok_not {a : E} {x : Expr} {pos : Pos} (C : CkX T CX call n EX k X) (ha : Good T EX X (evE F call a) (.e x)) : Good T EX X (evE F call (.not a)) (.e (.UnaryOp .Not x pos)) := by
  refine ⟨rfl, ⟨fun pins s σ H Q I t => ?_⟩, PT.imp (pt_not ha.2.2.1) fun σ H Q t => ?_, fun _ _ _ e => nomatch e⟩
  · refine UnaryOp_ (thn (ha.2.1.run pins s σ H _ I (in1 (f := fun x h1 => match truth h1 x with | some t => .ok (.bl (!t)) h1 | none => .bad) (fun _ _ => rfl) t)) fun v s1 ⟨x, H1, I1, r1, ρ1, h1, w, R1, q, o⟩ => ?_)
    refine not_of ?_
    cases c : truth h1 w with
    | none => rw [c] at o; exact o.elim
    | some b =>
      rw [c] at o
      exact thn (rTr_ok C.hK pins s1 σ H1 x v (fun d H2 => Q (.bl (!d)) H2) I1 r1 ⟨ρ1, h1, w, b, R1, q, c, o.here R1 (.bl _)⟩) fun d s2 ⟨H2, I2, q2⟩ => ⟨.bl (!d), H2, I2, rfl, q2⟩
  · obtain ⟨ρ, e, h, R, S, o⟩ := t
    refine tB_mono (stepBB (r := evE F call a) (f := fun x h1 => match truth h1 x with | some t => .ok (.bl (!t)) h1 | none => .bad) R S o fun w h' e => by rw [e]) fun b H1 ⟨ρ1, h1, w, x1, R1, c, o1⟩ => ?_
    rw [c] at o1
    obtain ⟨b', e', q'⟩ := o1
    cases e'
    exact q' ρ1 H1 (.refl _ _) R1
theorem tE_at {r : Rd1} {σ : L2.St} {H : Hp} {Q : VK} {ρ : Rho} {e : Env} {h : Hv} (R : HRel T ρ h H) (S : SRel T ρ H e σ) (o : OutE T ρ H (r e h) Q EX) : tE T EX r σ H Q := ⟨ρ, e, h, R, S, o⟩
theorem tB_at {r : Rd1} {σ : L2.St} {H : Hp} {Q : Bool → Hp → Prop} {ρ : Rho} {e : Env} {h : Hv} (R : HRel T ρ h H) (S : SRel T ρ H e σ) (o : OutB T ρ H (r e h) Q EX) : tB T EX r σ H Q := ⟨ρ, e, h, R, S, o⟩
theorem ok_and {a b : E} {x y : Expr} {rest : List Expr} {pos : Pos} (C : CkX T CX call n EX k X) (ha : Good T EX X (evE F call a) (.e x)) (hb : PE X (.BoolOp .And (y :: rest) pos) (tE T EX (evE F call b))) (hw : PW X (.BoolOp .And (y :: rest) pos) (tB T EX (evE F call b))) :
    Good T EX X (evE F call (.and a b)) (.e (.BoolOp .And (x :: y :: rest) pos)) := by
  have pw : PW X (.BoolOp .And (x :: y :: rest) pos) (tB T EX (evE F call (.and a b))) := PW.imp (pw_and ha.2.2.1 hw) fun σ H Q t => by
    obtain ⟨ρ, e, h, R, S, o⟩ := t
    refine tB_mono (stepBB (r := evE F call a) (f := fun x h1 => match truth h1 x with | some true => evE F call b e h1 | some false => .ok x h1 | none => .bad) R S o fun w h' e => by rw [e]) fun c H1 ⟨ρ1, h1, w, x1, R1, z, o1⟩ => ?_
    rw [z] at o1
    cases c with
    | true => rw [if_pos rfl]; exact tB_at R1 (S.mono x1) o1
    | false =>
      rw [if_neg (by decide)]
      obtain ⟨b', e', q'⟩ := o1
      rw [z] at e'
      cases e'
      exact q' ρ1 H1 (.refl _ _) R1
  refine ⟨rfl, ⟨fun pins s σ H Q I t => ?_⟩, pw.pt, fun op vs p e => by cases e; exact pw⟩
  obtain ⟨ρ, e, h, R, S, o⟩ := t
  refine BoolOp_and (thn (ha.2.1.run pins s σ H _ I (step (r := evE F call a) (f := fun x h1 => match truth h1 x with | some true => evE F call b e h1 | some false => .ok x h1 | none => .bad) R S o)) fun v s1 ⟨x, H1, I1, r1, ρ1, h1, w, x1, R1, q, o1⟩ => ?_)
  cases z : truth h1 w with
  | none => rw [z] at o1; exact o1.elim
  | some c =>
    rw [z] at o1
    refine thn (rTr_ok C.hK pins s1 σ H1 x v (fun d H2 => H2 = H1 ∧ d = c) I1 r1 ⟨ρ1, h1, w, c, R1, q, z, rfl, rfl⟩) fun d s2 ⟨H2, I2, e2, e3⟩ => ?_
    subst e2 e3
    cases d with
    | true => rw [if_pos rfl]; exact hb.run pins s2 σ H2 Q I2 (tE_at R1 (S.mono x1) o1)
    | false => rw [if_neg (by decide)]; exact ⟨x, H2, I2, r1, o1.here R1 q⟩
theorem ok_or {a b : E} {x y : Expr} {rest : List Expr} {pos : Pos} (C : CkX T CX call n EX k X) (ha : Good T EX X (evE F call a) (.e x)) (hb : PE X (.BoolOp .Or (y :: rest) pos) (tE T EX (evE F call b))) (hw : PW X (.BoolOp .Or (y :: rest) pos) (tB T EX (evE F call b))) :
    Good T EX X (evE F call (.or a b)) (.e (.BoolOp .Or (x :: y :: rest) pos)) := by
  have pw : PW X (.BoolOp .Or (x :: y :: rest) pos) (tB T EX (evE F call (.or a b))) := PW.imp (pw_or ha.2.2.1 hw) fun σ H Q t => by
    obtain ⟨ρ, e, h, R, S, o⟩ := t
    refine tB_mono (stepBB (r := evE F call a) (f := fun x h1 => match truth h1 x with | some true => .ok x h1 | some false => evE F call b e h1 | none => .bad) R S o fun w h' e => by rw [e]) fun c H1 ⟨ρ1, h1, w, x1, R1, z, o1⟩ => ?_
    rw [z] at o1
    cases c with
    | false => rw [if_neg (by decide)]; exact tB_at R1 (S.mono x1) o1
    | true =>
      rw [if_pos rfl]
      obtain ⟨b', e', q'⟩ := o1
      rw [z] at e'
      cases e'
      exact q' ρ1 H1 (.refl _ _) R1
  refine ⟨rfl, ⟨fun pins s σ H Q I t => ?_⟩, pw.pt, fun op vs p e => by cases e; exact pw⟩
  obtain ⟨ρ, e, h, R, S, o⟩ := t
  refine BoolOp_or (thn (ha.2.1.run pins s σ H _ I (step (r := evE F call a) (f := fun x h1 => match truth h1 x with | some true => .ok x h1 | some false => evE F call b e h1 | none => .bad) R S o)) fun v s1 ⟨x, H1, I1, r1, ρ1, h1, w, x1, R1, q, o1⟩ => ?_)
  cases z : truth h1 w with
  | none => rw [z] at o1; exact o1.elim
  | some c =>
    rw [z] at o1
    refine thn (rTr_ok C.hK pins s1 σ H1 x v (fun d H2 => H2 = H1 ∧ d = c) I1 r1 ⟨ρ1, h1, w, c, R1, q, z, rfl, rfl⟩) fun d s2 ⟨H2, I2, e2, e3⟩ => ?_
    subst e2 e3
    cases d with
    | false => rw [if_neg (by decide)]; exact hb.run pins s2 σ H2 Q I2 (tE_at R1 (S.mono x1) o1)
    | true => rw [if_pos rfl]; exact ⟨x, H2, I2, r1, o1.here R1 q⟩
theorem ok_ite {c a b : E} {x y z : Expr} {pos : Pos} (C : CkX T CX call n EX k X) (hc : Good T EX X (evE F call c) (.e x)) (ha : Good T EX X (evE F call a) (.e y)) (hb : Good T EX X (evE F call b) (.e z)) : Good T EX X (evE F call (.ite c a b)) (.e (.IfExp x y z pos)) := by
  refine ⟨rfl, PE.imp (pe_ifExp hc.2.2.1 ha.2.1 hb.2.1) fun σ H Q t => ?_, ⟨fun pins s σ H Q I t => ?_⟩, fun _ _ _ e => nomatch e⟩
  · obtain ⟨ρ, e, h, R, S, o⟩ := t
    refine tB_mono (stepB (r := evE F call c) (f := fun x h1 => match truth h1 x with | some true => evE F call a e h1 | some false => evE F call b e h1 | none => .bad) R S o fun w h' e => by rw [e]) fun t H1 ⟨ρ1, h1, w, x1, R1, q, o1⟩ => ?_
    rw [q] at o1
    cases t with
    | true => rw [if_pos rfl]; exact tE_at R1 (S.mono x1) o1
    | false => rw [if_neg (by decide)]; exact tE_at R1 (S.mono x1) o1
  · obtain ⟨ρ, e, h, R, S, o⟩ := t
    refine isTrue_IfExp (thn (hc.2.2.1.run pins s σ H _ I (stepBB (r := evE F call c) (f := fun x h1 => match truth h1 x with | some true => evE F call a e h1 | some false => evE F call b e h1 | none => .bad) R S o fun w h' e => by rw [e])) fun t s1 ⟨H1, I1, ρ1, h1, w, x1, R1, q, o1⟩ => ?_)
    rw [q] at o1
    cases t with
    | true => rw [if_pos rfl]; exact ha.2.2.1.run pins s1 σ H1 Q I1 (tB_at R1 (S.mono x1) o1)
    | false => rw [if_neg (by decide)]; exact hb.2.2.1.run pins s1 σ H1 Q I1 (tB_at R1 (S.mono x1) o1)
/-! ### lists of arguments, displays -/
theorem ok_nil (C : CkX T CX call n EX k X) : Good T EX X (evE F call .nil) (.a []) := ⟨PA.imp pa_nil fun σ H Q t => by
  obtain ⟨ρ, e, h, R, S, o⟩ := t
  exact o ρ H [] (.refl _ _) R .nil, rfl⟩
theorem ok_cons {a as : E} {x : Expr} {xs : List Expr} (C : CkX T CX call n EX k X) (ha : Good T EX X (evE F call a) (.e x)) (hs : Good T EX X (evE F call as) (.a xs)) : Good T EX X (evE F call (.cons a as)) (.a (x :: xs)) := by
  refine ⟨PA.imp (pa_cons ha.2.1 hs.1 (star_of ha.1)) fun σ H Q t => ?_, by rw [List.all_cons, ha.1, hs.2]; rfl⟩
  obtain ⟨ρ, e, h, R, S, o⟩ := t
  refine ⟨ρ, e, h, R, S, ?_⟩
  simp only [evE] at o
  cases c : evE F call a e h with
  | bad => rw [c] at o; exact o.elim
  | exc d w h' => rw [c] at o; exact o
  | ok w h1 =>
    rw [c] at o
    dsimp only [RE.bind] at o
    intro ρ1 H1 v x1 R1 q1
    refine ⟨ρ1, e, h1, R1, S.mono x1, ?_⟩
    cases c2 : evE F call as e h1 with
    | bad => rw [c2] at o; exact o.elim
    | exc d w h' => rw [c2] at o; exact fun ρ2 H2 d v2 x2 R2 a b r2 => o ρ2 H2 d v2 (x1.trans x2) R2 a b r2
    | ok w2 h2 =>
      rw [c2] at o
      exact fun ρ2 H2 vs x2 R2 r2 => o ρ2 H2 (v :: vs) (x1.trans x2) R2 (.cons (q1.mono x2) r2)
theorem ok_tup {as : E} {es : List Expr} {j : Nat} {pos : Pos} (C : CkX T CX call n EX k X) (hs : Good T EX X (evE F call as) (.a es)) : Good T EX X (evE F call (.tup as)) (.e (.Tuple es j pos)) := by
  refine good_e C.hK rfl rfl (PE.imp (pe_tup hs.1) fun σ H Q t => ?_)
  obtain ⟨ρ, e, h, R, S, o⟩ := t
  refine tA_mono (stepA (r := evE F call as) R S o) fun vs H1 ⟨ρ1, h1, w, x1, R1, q, o1⟩ => ?_
  cases c : Nat.ble (listOfW w).length listMax with
  | false => rw [c] at o1; exact o1.elim
  | true =>
    rw [c] at o1
    have l := Nat.le_of_ble_eq_true c
    rw [q.length] at l
    refine ⟨Nat.le_trans l listMax_line, fun p hp => ?_⟩
    exact o1 ρ1 _ _ (Ext.laid hp) (R1.laid hp) (.tup (.inl ⟨.inl upd_same, R1.notAt hp⟩) (q.mono (Ext.laid hp)))
theorem ok_lst {as : E} {es : List Expr} {pos : Pos} (C : CkX T CX call n EX k X) (hs : Good T EX X (evE F call as) (.a es)) : Good T EX X (evE F call (.lst as)) (.e (.List es pos)) := by
  refine good_e C.hK rfl rfl (PE.imp (pe_lst hs.1) fun σ H Q t => ?_)
  obtain ⟨ρ, e, h, R, S, o⟩ := t
  refine tA_mono (stepA (r := evE F call as) R S o) fun vs H1 ⟨ρ1, h1, w, x1, R1, q, o1⟩ => ?_
  have z := OutE.newL o1 R1 q
  exact ⟨Nat.le_trans z.1 listMax_line, z.2⟩
theorem ok_dnew {pos : Pos} (C : CkX T CX call n EX k X) : Good T EX X (evE F call .dnew) (.e (.Dict [] [] pos)) := by
  refine good_e C.hK rfl rfl (PE.imp pe_dnewK fun σ H Q t p hp => ?_)
  obtain ⟨ρ, e, h, R, S, o⟩ := t
  simp only [evE] at o
  cases c : Nat.blt h.n room with
  | false => rw [c] at o; exact o.elim
  | true =>
    rw [c] at o
    have l : h.n < room := Nat.le_of_ble_eq_true c
    exact o (Rho.add ρ h.n p) _ _ (Ext.add R hp) (R.newD hp l .nil) (.ref Rho.add_same)
/-! ### errors -/
theorem ok_mkx {c : Nat} {a : E} {b : Expr} {x : Str} {p pos : Pos} (C : CkX T CX call n EX k X) (e : k.xs[c]? = some x) (hg : k.isG x = true) (hd : noDbg x = true) (ha : Good T EX X (evE F call a) (.e b)) : Good T EX X (evE F call (.mkx c a)) (.e (.Call (.Name x p) [b] [] pos)) := by
  have hi : c < T.nx := by rw [C.gd.nx]; exact (List.getElem?_eq_some_iff.mp e).1
  obtain ⟨D, fI, B, Y⟩ := C.gd.err c hi
  refine good_e C.hK rfl rfl (PE.imp (pe_mkX (k := 4) B Y C.rm.room (pa_cons ha.2.1 pa_nil (star_of ha.1)) (C.g hg) (C.gd.errs c x e) (noDbg1 hd).1 (star_of ha.1) rfl) fun σ H Q t => tE_mono (in1 (f := fun x h => RE.ok (.exc c x) h) (fun _ _ => rfl) t) fun v H1 ⟨ρ1, h1, w, R1, q, o⟩ => ⟨v, rfl, fun d a hd ha ne => ?_⟩)
  have ha' : upd H1 d (.xd [(("value" : Str), v)]) a = none := by rw [upd_ne ne]; exact ha
  have x1 := (Ext.laid (ρ := ρ1) (o := .xd [(("value" : Str), v)]) hd).trans (Ext.laid (ρ := ρ1) (o := ErO (T.ca c) a d) ha')
  refine o ρ1 _ _ x1 ((R1.laid hd).laid ha') (.exc hi upd_same (by rw [upd_ne (Ne.symm ne)]; exact upd_same) (R1.notAt ha) (R1.notAt hd) (q.mono x1))
theorem ok_xval {a : E} {b : Expr} {pos : Pos} (C : CkX T CX call n EX k X) (hb : call0 b = false) (ha : Good T EX X (evE F call a) (.e b)) : Good T EX X (evE F call (.xval a)) (.e (.Attribute b ("value" : Str) pos)) := by
  refine good_e C.hK rfl rfl (PE.imp (pe_xval ha.2.1 (base_of hb)) fun σ H Q t => tE_mono (in1 (f := fun x h1 => (match x with | .exc _ w => RE.ok w h1 | _ => .bad)) (fun _ _ => rfl) t) fun v H1 ⟨ρ1, h1, w, R1, q, o⟩ => ?_)
  cases q with
  | exc hc ha hd na nd r =>
    obtain ⟨D, fI, _, Y⟩ := C.gd.err _ hc
    exact ⟨_, _, _, _, rfl, ha, hd, ⟨D, fI, Y⟩, o.here R1 r⟩
  | _ => exact o.elim
/-! ### a list's method -/
theorem ok_app {ob as : E} {x b : Expr} {apos pos : Pos} (C : CkX T CX call n EX k X) (h0 : call0 x = false) (hl : (apos.endLine == pos.line) = true) (hb : isStar b = false) (ho : Good T EX X (evE F call ob) (.e x)) (hs : Good T EX X (evE F call as) (.a [b])) :
    Good T EX X (evE F call (.mt .append ob as)) (.e (.Call (.Attribute x ("append" : Str) apos) [b] [] pos)) := by
  refine good_e C.hK rfl rfl (PE.imp (pe_bm PySem.F.plainAttrs_list PySem.F.slot_list_append PySem.F.type_list_append (mt_app (T := T) (EX := EX)) ho.2.1 hs.1 (base_of h0) (by rw [star_of hb]; rfl) hl (star_of hb) rfl) fun σ H Q t => ?_)
  obtain ⟨ρ, e, h, R, S, o⟩ := t
  refine tE_mono (step (r := evE F call ob) R S o) fun v H1 ⟨ρ1, h1, w, x1, R1, q, o1⟩ => ?_
  cases c : isLst h1 w with
  | false => rw [c] at o1; exact o1.elim
  | true =>
    rw [c] at o1
    refine ⟨?_, tA_mono (stepA (r := evE F call as) R1 (S.mono x1) o1) fun vs H2 ⟨ρ2, h2, w2, x2, R2, q2, o2⟩ => ⟨ρ2, h2, w, listOfW w2, R2, q.mono x2, q2, o2⟩⟩
    cases q with
    | @ref m a hn =>
      unfold isLst at c
      dsimp only at c
      split at c
      · rename_i ws g
        obtain ⟨vs, e, _, _⟩ := R1.lst hn g
        exact .inl ⟨rfl, vs, .inl (.inl e)⟩
      · cases c
    | _ => cases c
/-! ### x[i:j] -/
/-- a part of a slice: left out, or given -/
def PartOk (T : Tab) (EX : XK) (X : Cx) (r : Rd1) : Bool → Option Expr → Prop
  | true, some x => Good T EX X r (.e x)
  | false, none => ∀ e h, r e h = .ok .non h
  | _, _ => False
theorem part_po {r : Rd1} {b : Bool} {p : Option Expr} (hp : PartOk T EX X r b p) : PO X p (fun σ H Q => tE T EX r σ H fun x H1 => ∃ o, ((b = false ∧ x = .non ∧ o = none) ∨ ∃ i, b = true ∧ x = .int i ∧ o = some i) ∧ Q o H1) := by
  cases b <;> cases p <;> first | exact hp.elim | skip
  · refine ⟨fun pins s σ H Q I t => po_none.run pins s σ H Q I ?_⟩
    obtain ⟨o, z, q⟩ := tE_here t hp fun _ => .non
    rcases z with ⟨_, _, rfl⟩ | ⟨i, z, _⟩
    · exact q
    · cases z
  · refine ⟨fun pins s σ H Q I t => (po_some hp.2.1).run pins s σ H Q I (tE_mono t fun v H1 ⟨o, z, q⟩ => ?_)⟩
    rcases z with ⟨z, _⟩ | ⟨i, _, e, z⟩
    · cases z
    · subst z; exact ⟨i, e, q⟩
theorem part_W {ρ : Rho} {H : Hp} {b : Bool} {w : W} {v : V} {o : Option Int} (q : RelW T ρ H w v) (e : partW b w = some o) : (b = false ∧ v = .non ∧ o = none) ∨ ∃ i, b = true ∧ v = .int i ∧ o = some i := by
  cases b <;> cases q <;> first | (cases e; done) | skip
  · cases e; exact .inl ⟨rfl, rfl, rfl⟩
  · cases e; exact .inr ⟨_, rfl, rfl, rfl⟩
theorem ok_cut {a lo hi : E} {bl bh : Bool} {l : Expr} {l1 h1 : Option Expr} {p2 pos : Pos} (C : CkX T CX call n EX k X) (ha : Good T EX X (evE F call a) (.e l))
    (hl : PartOk T EX X (evE F call lo) bl l1) (hh : PartOk T EX X (evE F call hi) bh h1) : Good T EX X (evE F call (.cut a bl lo bh hi)) (.e (.Subscript l (.Slice l1 h1 none p2) pos)) := by
  refine good_e C.hK rfl rfl (PE.imp (pe_slice (sl_cut (EX := EX) C.hK) ha.2.1 (part_po hl) (part_po hh)) fun σ H Q t => ?_)
  obtain ⟨ρ, e, h, R, S, o⟩ := t
  refine tE_mono (step (r := evE F call a) R S o) fun v H1 ⟨ρ1, h1', w, x1, R1, q, o1⟩ => ?_
  refine tE_mono (step (r := evE F call lo) R1 (S.mono x1) o1) fun u H2 ⟨ρ2, h2, w2, x2, R2, q2, o2⟩ => ?_
  cases c : partW bl w2 with
  | none => rw [c] at o2; exact o2.elim
  | some o =>
    rw [c] at o2
    refine ⟨o, part_W q2 c, tE_mono (step (r := evE F call hi) R2 ((S.mono x1).mono x2) o2) fun u3 H3 ⟨ρ3, h3, w3, x3, R3, q3, o3⟩ => ?_⟩
    cases c3 : partW bh w3 with
    | none => rw [c3] at o3; exact o3.elim
    | some o' =>
      rw [c3] at o3
      exact ⟨o', part_W q3 c3, ρ3, h3, w, R3, (q.mono x2).mono x3, o3⟩
end
end Iv
/-! Iv8: calls, dicts that are written out, targets, what is walked, list comprehensions. -/
namespace Iv
open PySem L2 PySem.SeqAt PyProof.Rows
section
variable {T : Tab} {CX : CXT} {call : Call} {n F : Nat} {EX : XK} {k : Ck} {X : Cx}
/-! ### calls -/
theorem run_call {i : Nat} {pins : List (Addr × Obj)} {σ : L2.St} {H : Hp} {s : Shared} {Q : VK} {us : List Value} {vs : List V} {ws : List W} {ρ : Rho} {h : Hv} (C : CkX T CX call n EX k X) (I : Inv X pins σ H s) (r : Vals vs us) (R : HRel T ρ h H) (q : RelWs T ρ H ws vs)
    (o : OutE T ρ H (call i ws h) Q EX) : wpAny (model X.prog X.w) X.A (PySem.call (.ref (T.fa i)) us) (EP X pins σ Q) X.xe s := by
  refine wpAny_call (codeAny_mono (C.fns i X.A X.stack s H us vs Q EX C.rm I.env0 r ⟨ρ, h, ws, R, q, o⟩) fun r s' hq => ?_)
  cases r with
  | error e => exact C.pass pins σ H s e s' I hq
  | ok fl =>
    cases fl with
    | ret u => exact I.after hq
    | next => exact False.elim hq
    | brk => exact False.elim hq
    | cont => exact False.elim hq
theorem noStar_pl {es : List Expr} {env : PySem.Env} {pos : Pos} (h : es.all (fun x => !isStar x) = true) : (backTo pos (starEach es env)).any (·.1) = false := by
  induction es with
  | nil => rfl
  | cons e es ih =>
    rw [List.all_cons] at h
    obtain ⟨h1, h2⟩ := Bool.and_eq_true_iff.mp h
    have h1 : isStar e = false := by simpa using h1
    have ih := ih h2
    rw [star_of h1]
    show ((false, eval e env) :: backTo pos (starEach es env)).any (·.1) = false
    rw [List.any_cons, ih]
    rfl
theorem ok_call {i : Nat} {as : E} {x : Str} {es : List Expr} {p pos : Pos} (C : CkX T CX call n EX k X) (hx : k.fs[i]? = some x) (hg : k.isG x = true) (hd : noDbg x = true) (hs : Good T EX X (evE F call as) (.a es)) (hn : es = [] → as = .nil) :
    Good T EX X (evE F call (.call i as)) (.e (.Call (.Name x p) es [] pos)) := by
  obtain ⟨hm, hkp⟩ := C.gd.defs i x hx
  refine good_e C.hK rfl rfl ⟨fun pins s σ H Q I t => ?_⟩
  obtain ⟨ρ, e, h, R, S, o⟩ := t
  refine wpAny_Call_Name_kw (ld_glob I (C.g hg) hm ?_ (noDbg1 hd).1)
  cases es with
  | nil =>
    have e0 := hn rfl
    subst e0
    exact PySem.W.callWith_K0 I.kIn hkp (run_call (us := []) (vs := []) (ws := []) C I .nil R .nil o)
  | cons a as' =>
    have ha := hs.1.run pos pins s σ H _ I (stepA (r := evE F call as) R S o)
    have st := hs.2
    rw [List.all_cons] at st
    obtain ⟨st1, st2⟩ := Bool.and_eq_true_iff.mp st
    refine PySem.W.callWith_K (h₀ := X.base) I.ok.mod.kin hkp (thn ha fun us s1 ⟨vs, H1, I1, r1, ρ1, h1, w, x1, R1, q, o1⟩ => ⟨I1.kIn, ?_⟩) (star_of (by simpa using st1)) (noStar_pl st2)
    exact run_call C I1 r1 R1 q o1
/-! ### a dict, written out -/
def flatV (ps : List (V × V)) : List V := ps.flatMap fun p => [p.1, p.2]
def OutP (T : Tab) (ρ : Rho) (H : Hp) (r : RE) (Q : List (V × V) → Hp → Prop) (EX : XK) : Prop := match r with
  | .ok w h' => ∀ ρ' H' ps, Ext ρ H ρ' H' → HRel T ρ' h' H' → RelWs T ρ' H' (listOfW w) (flatV ps) → Q ps H'
  | .exc c w h' => ∀ ρ' H' d v, Ext ρ H ρ' H' → HRel T ρ' h' H' → H' d = some (.xd [(("value" : Str), v)]) → (∀ n, ρ' n ≠ some d) → RelW T ρ' H' w v → EX (.ref (T.ca c)) (some d) H'
  | .bad => False
def tP (T : Tab) (EX : XK) (r : Rd1) (σ : L2.St) (H : Hp) (Q : List (V × V) → Hp → Prop) : Prop := ∃ ρ e h, HRel T ρ h H ∧ SRel T ρ H e σ ∧ OutP T ρ H (r e h) Q EX
def GoodP (T : Tab) (EX : XK) (X : Cx) (r : Rd1) (ks : List (Option Expr)) (vs : List Expr) : Prop := ∀ pos, ∃ trs, PPs X pos ks vs trs ∧ ∀ σ H Q, tP T EX r σ H Q → tPairs trs σ H Q
theorem ok_pnil (C : CkX T CX call n EX k X) : GoodP T EX X (evE F call .nil) [] [] := fun pos => ⟨[], pps_nil, fun σ H Q ⟨ρ, e, h, R, S, o⟩ => o ρ H [] (.refl _ _) R .nil⟩
theorem ok_pcons {a b as : E} {x y : Expr} {ks : List (Option Expr)} {vs : List Expr} (C : CkX T CX call n EX k X) (ha : Good T EX X (evE F call a) (.e x)) (hb : Good T EX X (evE F call b) (.e y)) (hs : GoodP T EX X (evE F call as) ks vs) :
    GoodP T EX X (evE F call (.cons a (.cons b as))) (some x :: ks) (y :: vs) := by
  intro pos
  obtain ⟨trs, h1, h2⟩ := hs pos
  refine ⟨_, pps_cons ha.2.1 hb.2.1 h1, fun σ H Q t => ?_⟩
  obtain ⟨ρ, e, h, R, S, o⟩ := t
  refine ⟨ρ, e, h, R, S, ?_⟩
  simp only [evE] at o
  cases c : evE F call a e h with
  | bad => rw [c] at o; exact o.elim
  | exc d w h' => rw [c] at o; exact o
  | ok w h1 =>
    rw [c] at o
    dsimp only [RE.bind] at o
    intro ρ1 H1 v x1 R1 q1
    refine ⟨ρ1, e, h1, R1, S.mono x1, ?_⟩
    cases c2 : evE F call b e h1 with
    | bad => rw [c2] at o; exact o.elim
    | exc d w h' => rw [c2] at o; exact fun ρ2 H2 d v2 x2 R2 a b r2 => o ρ2 H2 d v2 (x1.trans x2) R2 a b r2
    | ok w2 h2' =>
      rw [c2] at o
      dsimp only at o
      intro ρ2 H2 v2 x2 R2 q2
      refine h2 σ H2 _ ⟨ρ2, e, h2', R2, (S.mono x1).mono x2, ?_⟩
      cases c3 : evE F call as e h2' with
      | bad => rw [c3] at o; exact o.elim
      | exc d w h' => rw [c3] at o; exact fun ρ3 H3 d v3 x3 R3 a b r3 => o ρ3 H3 d v3 ((x1.trans x2).trans x3) R3 a b r3
      | ok w3 h3 =>
        rw [c3] at o
        exact fun ρ3 H3 ps x3 R3 r3 => o ρ3 H3 ((v, v2) :: ps) ((x1.trans x2).trans x3) R3 (.cons ((q1.mono x2).mono x3) (.cons (q2.mono x3) r3))
theorem keyV {ρ : Rho} {H : Hp} {w : W} {v : V} (q : RelW T ρ H w v) (hk : isKey w = true) : ∃ y : Key, v = kV y ∧ keyW y = w := by
  cases q <;> first | (cases hk; done) | skip
  · exact ⟨.inl _, rfl, rfl⟩
  · exact ⟨.inr _, rfl, by simp [keyW]⟩
theorem pairs_V {ρ : Rho} {H : Hp} : ∀ {ws : List W} {ps : List (V × V)} {kvs : List (W × W)}, RelWs T ρ H ws (flatV ps) → pairsW ws = some kvs → ∃ ys : List (Key × V), ps = ys.map (fun kv => (kV kv.1, kv.2)) ∧ RelKs T ρ H kvs ys
  | _, [], kvs, r, e => by
    cases r
    cases e
    exact ⟨[], rfl, .nil⟩
  | _, (a, b) :: ps, kvs, r, e => by
    cases r with
    | @cons w1 _ ws1 _ q1 r1 =>
      cases r1 with
      | @cons w2 _ ws2 _ q2 r2 =>
        unfold pairsW at e
        cases c : isKey w1 with
        | false => rw [c] at e; cases e
        | true =>
          rw [c] at e
          cases c2 : pairsW ws2 with
          | none => rw [c2] at e; cases e
          | some l =>
            rw [c2] at e
            cases e
            obtain ⟨y, e1, e2⟩ := keyV q1 c
            obtain ⟨ys, e3, e4⟩ := pairs_V r2 c2
            refine ⟨(y, b) :: ys, by rw [e3]; exact congrArg (fun z => (z, b) :: _) e1, ?_⟩
            rw [← e2]
            exact .cons q2 e4
theorem keyEq_iff (a b : Key) : keyEq (keyW a) (keyW b) = decide (a = b) := by
  cases a <;> cases b <;> simp [keyW, keyEq]
  rename_i x y
  obtain ⟨x⟩ := x
  obtain ⟨y⟩ := y
  simp
theorem RelKs.has {ρ : Rho} {H : Hp} {y : Key} : ∀ {kvs : List (W × W)} {ys : List (Key × V)}, RelKs T ρ H kvs ys → hasK (keyW y) kvs = ys.any fun kv => decide (kv.1 = y)
  | _, _, .nil => rfl
  | _, _, .cons (k := k) (v := v) (vs := vs) q rs => by
    unfold hasK
    rw [keyEq_iff, List.any_cons, RelKs.has rs]
    cases decide (k = y) <;> rfl
theorem RelKs.rep {ρ : Rho} {H : Hp} {y : Key} {w : W} {v : V} (q : RelW T ρ H w v) : ∀ {kvs : List (W × W)} {ys : List (Key × V)}, RelKs T ρ H kvs ys → RelKs T ρ H (repK (keyW y) w kvs) (ys.map fun kv => if kv.1 = y then (kv.1, v) else kv)
  | _, _, .nil => .nil
  | _, _, .cons (k := k) r rs => by
    unfold repK
    rw [keyEq_iff, List.map_cons]
    by_cases c : k = y
    · rw [decide_eq_true c, if_pos c]
      exact .cons q (RelKs.rep q rs)
    · rw [decide_eq_false c, if_neg c]
      exact .cons r (RelKs.rep q rs)
theorem RelKs.append {ρ : Rho} {H : Hp} : ∀ {ws xs : List (W × W)} {vs ys : List (Key × V)}, RelKs T ρ H ws vs → RelKs T ρ H xs ys → RelKs T ρ H (ws ++ xs) (vs ++ ys)
  | _, _, _, _, .nil, s => s
  | _, _, _, _, .cons r rs, s => .cons r (RelKs.append rs s)
theorem RelKs.put {ρ : Rho} {H : Hp} {y : Key} {w : W} {v : V} {kvs : List (W × W)} {ys : List (Key × V)} (q : RelW T ρ H w v) (r : RelKs T ρ H kvs ys) : RelKs T ρ H (putW (keyW y) w kvs) (putK ys y v) := by
  unfold putW putK
  rw [r.has]
  cases c : ys.any fun kv => decide (kv.1 = y) with
  | true => rw [if_pos rfl]; exact r.rep q
  | false => rw [if_neg (by decide)]; exact r.append (.cons q .nil)
theorem RelKs.merge {ρ : Rho} {H : Hp} : ∀ {more : List (W × W)} {ms : List (Key × V)} {kvs : List (W × W)} {ys : List (Key × V)}, RelKs T ρ H more ms → RelKs T ρ H kvs ys → RelKs T ρ H (mergeW kvs more) (mergeK ys ms)
  | _, _, _, _, .nil, r => r
  | _, _, kvs, ys, .cons (k := y) (ws := ws) (vs := vs) q rs, r => RelKs.merge (more := ws) (ms := vs) rs (RelKs.put q r)
theorem ok_dic {as : E} {x : Option Expr} {ks : List (Option Expr)} {vs : List Expr} {pos : Pos} (C : CkX T CX call n EX k X) (h1 : ks.length + 1 = vs.length) (h2 : ks.length + 1 ≤ 15) (h3 : (x :: ks).all (·.isSome) = true) (hs : GoodP T EX X (evE F call as) (x :: ks) vs) :
    Good T EX X (evE F call (.dic as)) (.e (.Dict (x :: ks) vs pos)) := by
  obtain ⟨trs, hp, ht⟩ := hs pos
  refine good_e C.hK rfl rfl (PE.imp (pe_disp hp h3 (by simpa using h1) (by simp) (by simpa using h2)) fun σ H Q t p hp => ?_)
  obtain ⟨ρ, e, h, R, S, o⟩ := t
  have xp := Ext.laid (ρ := ρ) (o := .dK []) hp
  refine ht σ _ _ ⟨ρ, e, h, R.laid hp, S.mono xp, ?_⟩
  simp only [evE] at o
  cases c : evE F call as e h with
  | bad => rw [c] at o; exact o.elim
  | exc d w h' => rw [c] at o; exact fun ρ1 H1 d v x1 R1 a b r1 => o ρ1 H1 d v (xp.trans x1) R1 a b r1
  | ok w h' =>
    rw [c] at o
    dsimp only [RE.bind] at o
    cases c2 : pairsW (listOfW w) with
    | none => rw [c2] at o; exact o.elim
    | some kvs =>
      rw [c2] at o
      dsimp only at o
      cases c3 : (Nat.blt h'.n room && Nat.ble kvs.length 15) with
      | false => rw [c3] at o; exact o.elim
      | true =>
        rw [c3] at o
        obtain ⟨l1, l2⟩ := Bool.and_eq_true_iff.mp c3
        have l1 : h'.n < room := Nat.le_of_ble_eq_true l1
        have l2 := Nat.le_of_ble_eq_true l2
        intro ρ1 H1 ps x1 R1 r1
        have hp1 := x1.ks p _ upd_same (R.notAt hp)
        obtain ⟨ys, e1, e2⟩ := pairs_V r1 c2
        refine ⟨hp1, ys, e1, by rw [← e2.length]; exact l2, ?_⟩
        have np : ∀ n, ρ1 n ≠ some p := x1.free upd_same (R.notAt hp)
        have ns : ¬ Still (.dK []) := fun z => z
        have xw := ExtW.adopt (o' := .dK (mergeK [] ys)) R1 hp1 ns
        refine o (Rho.add ρ1 h'.n p) _ _ ((xp.trans x1).adopt R1 hp hp1 ns) (R1.adopt hp1 ns np l1 ⟨_, upd_same, RelKs.monoW xw (RelKs.merge e2 .nil)⟩) (.ref Rho.add_same)
end
end Iv
/-! Iv9: targets, what is walked, list comprehensions; the check of expressions is right. -/
namespace Iv
open PySem L2 PySem.SeqAt PyProof.Rows
section
variable {T : Tab} {CX : CXT} {call : Call} {n F : Nat} {EX : XK} {k : Ck} {X : Cx}
/-! ### targets -/
def tgt : G → List Nat
  | .one i => [i]
  | .nil => []
  | .cons g gs => tgt g ++ tgt gs
  | .tup gs => tgt gs
/-- what is stored elsewhere is as it was -/
def OnlyAt (vs : List Nat) (σ σ' : L2.St) : Prop := σ'.length = σ.length ∧ ∀ i, i ∉ vs → σ'[i]? = σ[i]?
theorem OnlyAt.refl (σ : L2.St) : OnlyAt [] σ σ := ⟨rfl, fun _ _ => rfl⟩
theorem OnlyAt.trans {a b : List Nat} {σ σ1 σ2 : L2.St} (x : OnlyAt a σ σ1) (y : OnlyAt b σ1 σ2) : OnlyAt (a ++ b) σ σ2 :=
  ⟨y.1.trans x.1, fun i h => (y.2 i fun z => h (List.mem_append_right _ z)).trans (x.2 i fun z => h (List.mem_append_left _ z))⟩
theorem OnlyAt.wipe {vs a : List Nat} {σ σ' : L2.St} (x : OnlyAt a σ σ') (h : ∀ i ∈ a, i ∈ vs) : L2.wipe σ' vs = L2.wipe σ vs := by
  have get : ∀ (vs : List Nat) (σ : L2.St) (i : Nat), (L2.wipe σ vs)[i]? = if i ∈ vs ∧ i < σ.length then some none else σ[i]? := by
    intro vs
    induction vs with
    | nil => intro σ i; rw [if_neg (by simp)]; rfl
    | cons v vs ih =>
      intro σ i
      show ((L2.wipe σ vs).set v none)[i]? = _
      by_cases c : v = i
      · subst c
        by_cases l : v < σ.length
        · rw [List.getElem?_set_self (by rw [wipe_length]; exact l), if_pos ⟨List.mem_cons_self, l⟩]
        · rw [if_neg (fun z => l z.2), List.getElem?_eq_none (by rw [List.length_set, wipe_length]; omega), List.getElem?_eq_none (by omega)]
      · rw [List.getElem?_set_ne c, ih]
        by_cases d : i ∈ vs ∧ i < σ.length
        · rw [if_pos d, if_pos ⟨List.mem_cons_of_mem _ d.1, d.2⟩]
        · rw [if_neg d, if_neg]
          rintro ⟨z, z2⟩
          rcases List.mem_cons.mp z with z | z
          · exact c z.symm
          · exact d ⟨z, z2⟩
  refine List.ext_getElem? fun i => ?_
  rw [get, get, x.1]
  by_cases c : i ∈ vs ∧ i < σ.length
  · rw [if_pos c, if_pos c]
  · rw [if_neg c, if_neg c]
    by_cases m : i ∈ a
    · have : ¬ i < σ.length := fun z => c ⟨h i m, z⟩
      rw [List.getElem?_eq_none (by rw [x.1]; omega), List.getElem?_eq_none (by omega)]
    · exact x.2 i m
def gT (T : Tab) (g : G) : TG := fun v σ H Q => ∃ ρ h e w e', HRel T ρ h H ∧ SRel T ρ H e σ ∧ RelW T ρ H w v ∧ assignG h g w e = some e' ∧ ∀ σ', SRel T ρ H e' σ' → OnlyAt (tgt g) σ σ' → Q σ' H
def gTs (T : Tab) (g : G) : TGs := fun vs σ H Q => ∃ ρ h e ws e', HRel T ρ h H ∧ SRel T ρ H e σ ∧ RelWs T ρ H ws vs ∧ assignG h g (.tup ws) e = some e' ∧ ∀ σ', SRel T ρ H e' σ' → OnlyAt (tgt g) σ σ' → Q σ' H
def GoodG (T : Tab) (X : Cx) (g : G) : Tm → Prop
  | .g e => PG X e (gT T g)
  | .gs es => PGs X es (gTs T g) ∧ (∀ h w e e', assignG h g (.tup w) e = some e' → w.length = es.length) ∧ es.all (fun x => !isStar x) = true
  | _ => True
theorem PG.imp {e : Expr} {t t' : TG} (h : PG X e t) (i : ∀ v σ H Q, t' v σ H Q → t v σ H Q) : PG X e t' := ⟨fun pins s σ H v u Q I r q => h.run pins s σ H v u Q I r (i v σ H Q q)⟩
theorem PGs.imp {e : List Expr} {t t' : TGs} (h : PGs X e t) (i : ∀ v σ H Q, t' v σ H Q → t v σ H Q) : PGs X e t' := ⟨fun pins s σ H v u Q I r q => h.run pins s σ H v u Q I r (i v σ H Q q)⟩
theorem assignEach_of {e : Expr} {es : List Expr} {env : PySem.Env} (h : isStar e = false) : assignEach (e :: es) env = (false, assign e env) :: assignEach es env := by
  cases e <;> first | rfl | cases h
theorem assignEach_len {env : PySem.Env} : ∀ {es : List Expr}, es.all (fun x => !isStar x) = true → (assignEach es env).length = es.length ∧ (assignEach es env).findIdx? (·.1) = none
  | [], _ => ⟨rfl, rfl⟩
  | e :: es, h => by
    rw [List.all_cons] at h
    obtain ⟨h1, h2⟩ := Bool.and_eq_true_iff.mp h
    obtain ⟨a, b⟩ := assignEach_len (env := env) h2
    rw [assignEach_of (by simpa using h1)]
    exact ⟨by rw [List.length_cons, List.length_cons, a], by rw [List.findIdx?_cons, b]; rfl⟩
theorem okG (C : CkX T CX call n EX k X) {own : Option (List Nat)} : ∀ (g : G) (it : Tm), chkG k own g it = true → GoodG T X g it ∧ (∀ l, own = some l → ∀ i ∈ tgt g, i ∈ l) := by
  intro g
  induction g with
  | one i =>
    intro it h
    cases it with
    | g e =>
      cases e with
      | Name x pos =>
        simp only [chkG, Bool.and_eq_true] at h
        obtain ⟨⟨h1, h2⟩, h3⟩ := h
        have h1 := of_decide_eq_true h1
        obtain ⟨l1, l2⟩ := C.l h2
        refine ⟨PG.imp (pg_name (i := i) C.nd (by rw [C.hN]; exact h1) l1 l2) fun v σ H Q t => ?_, fun l e j hj => ?_⟩
        · obtain ⟨ρ, h, e, w, e', R, S, r, a, q⟩ := t
          cases a
          exact q _ (S.set r i) ⟨by rw [List.length_set], fun j hj => List.getElem?_set_ne fun z => hj (by rw [z]; simp [tgt])⟩
        · subst e
          have e : j = i := by simpa [tgt] using hj
          rw [e]
          simpa using h3
      | _ => cases h
    | _ => cases h
  | nil =>
    intro it h
    cases it with
    | gs es =>
      cases es with
      | nil =>
        refine ⟨⟨PGs.imp pgs_nil fun v σ H Q t => ?_, fun h w e e' a => ?_, rfl⟩, fun l e j hj => by simp [tgt] at hj⟩
        · obtain ⟨ρ, h, e, ws, e', R, S, r, a, q⟩ := t
          cases ws with
          | nil => cases r; cases a; exact ⟨rfl, q σ S (.refl σ)⟩
          | cons _ _ => cases a
        · cases w with
          | nil => rfl
          | cons _ _ => cases a
      | cons _ _ => cases h
    | _ => cases h
  | cons g gs ihg ihgs =>
    intro it h
    cases it with
    | gs es =>
      cases es with
      | nil => cases h
      | cons e es =>
        simp only [chkG, Bool.and_eq_true] at h
        obtain ⟨⟨h1, h2⟩, h3⟩ := h
        have h1 : isStar e = false := by simpa using h1
        obtain ⟨g1, g2⟩ := ihg _ h2
        obtain ⟨⟨g3, g4, g6⟩, g5⟩ := ihgs _ h3
        refine ⟨⟨PGs.imp (pgs_cons g1 g3 (by rw [assignEach_of h1]; rfl)) fun v σ H Q t => ?_, fun h w e e' a => ?_, by rw [List.all_cons, h1, g6]; rfl⟩, fun l e j hj => ?_⟩
        · obtain ⟨ρ, h, e, ws, e', R, S, r, a, q⟩ := t
          cases ws with
          | nil => cases a
          | cons w ws =>
            cases r with
            | cons r rs =>
              simp only [assignG] at a
              cases c : assignG h g w e with
              | none => rw [c] at a; cases a
              | some e1 =>
                rw [c] at a
                exact ⟨_, _, rfl, ρ, h, e, w, e1, R, S, r, c, fun σ1 S1 o1 => ⟨ρ, h, e1, ws, e', R, S1, rs, a, fun σ2 S2 o2 => q σ2 S2 (o1.trans o2)⟩⟩
        · cases w with
          | nil => cases a
          | cons w ws =>
            simp only [assignG] at a
            cases c : assignG h g w e with
            | none => rw [c] at a; cases a
            | some e1 => rw [c] at a; rw [List.length_cons, List.length_cons, g4 _ _ _ _ a]
        · rcases List.mem_append.mp hj with z | z
          · exact g2 l e j z
          · exact g5 l e j z
    | _ => cases h
  | tup gs ih =>
    intro it h
    cases it with
    | g e =>
      cases e with
      | Tuple es j pos =>
        obtain ⟨⟨g3, g4, g6⟩, g5⟩ := ih (.gs es) h
        obtain ⟨a1, a2⟩ := assignEach_len (env := X.env) g6
        refine ⟨PG.imp (pg_tup C.calm g3 a1 a2) fun v σ H Q t => ?_, g5⟩
        obtain ⟨ρ, h, e, w, e', R, S, r, a, q⟩ := t
        cases r with
        | tup ht rs => exact ⟨_, _, rfl, by rw [← C.hK]; exact ht.seq, by rw [← rs.length]; exact g4 _ _ _ _ a, ρ, h, e, _, e', R, S, rs, a, q⟩
        | _ => cases a
      | _ => cases h
    | _ => cases h
end
end Iv
/-! Iva: what is walked; list comprehensions. -/
namespace Iv
open PySem L2 PySem.SeqAt PyProof.Rows
/-- what is walked, there and here -/
inductive ItRel (T : Tab) (ρ : Rho) (H : Hp) : Iv.It → L2.It → Prop
  | lst {m : Nat} {a : Addr} (h : ρ m = some a) : ItRel T ρ H (.sq (.lst m)) (Itl T.K a)
  | tup {ws : List W} {a : Addr} {vs : List V} (h : TupAt T ρ H a vs) (r : RelWs T ρ H ws vs) : ItRel T ρ H (.sq (.val ws)) (Itt T.K a)
  | rng (lo : Int) (m : Nat) : ItRel T ρ H (.rng lo m) (Itr lo m)
section
variable {T : Tab} {CX : CXT} {call : Call} {n F : Nat} {EX : XK} {k : Ck} {X : Cx} {ρ ρ' : Rho} {H H' : Hp} {h : Hv}
theorem ItRel.monoW {it : Iv.It} {J : L2.It} (x : ItRel T ρ H it J) (e : ExtW ρ H ρ' H') : ItRel T ρ' H' it J := by
  cases x with
  | lst h => exact .lst (e.le _ _ h)
  | tup h r => exact .tup (h.monoW e) (RelWs.monoW e r)
  | rng lo m => exact .rng lo m
theorem it_go {it : Iv.It} {J : L2.It} {i : Nat} {w : W} (R : HRel T ρ h H) (x : ItRel T ρ H it J) (e : it.at h i = some (some w)) : J.go i H ∧ ∀ v H', J.yld i H v H' → H' = H ∧ RelW T ρ H w v := by
  cases x with
  | @lst m a hm =>
    have e : (match cellOf h m with | some ws => some ws[i]? | none => none) = some (some w) := e
    cases c : cellOf h m with
    | none => rw [c] at e; cases e
    | some ws =>
      rw [c] at e
      have e : some ws[i]? = some (some w) := e
      injection e with e
      obtain ⟨vs, hq, r, _⟩ := R.list hm c
      obtain ⟨v, e1, q⟩ := r.get e
      refine ⟨⟨vs, v, hq, e1⟩, fun v' H' ⟨a, b⟩ => ⟨a, ?_⟩⟩
      have := b vs hq
      rw [e1] at this; cases this
      exact q
  | @tup ws a vs ht r =>
    have e : some ws[i]? = some (some w) := e
    injection e with e
    obtain ⟨v, e1, q⟩ := r.get e
    refine ⟨⟨vs, v, ht.seq, e1⟩, fun v' H' ⟨a, b⟩ => ⟨a, ?_⟩⟩
    have := b vs ht.seq
    rw [e1] at this; cases this
    exact q
  | rng lo m =>
    have e : some (bif Nat.blt i m then some (.int (lo + i)) else none) = some (some w) := e
    injection e with e
    cases c : Nat.blt i m with
    | false => rw [c] at e; cases e
    | true =>
      rw [c] at e
      cases e
      exact ⟨(Nat.le_of_ble_eq_true c : i < m), fun v' H' ⟨a, b⟩ => ⟨a, by rw [b]; exact .int _⟩⟩
theorem it_stop {it : Iv.It} {J : L2.It} {i : Nat} (R : HRel T ρ h H) (x : ItRel T ρ H it J) (e : it.at h i = some none) : J.stop i H := by
  cases x with
  | @lst m a hm =>
    have e : (match cellOf h m with | some ws => some ws[i]? | none => none) = some none := e
    cases c : cellOf h m with
    | none => rw [c] at e; cases e
    | some ws =>
      rw [c] at e
      have e : some ws[i]? = some none := e
      injection e with e
      obtain ⟨vs, hq, r, _⟩ := R.list hm c
      have l := List.getElem?_eq_none_iff.mp e
      exact ⟨vs, hq, by rw [← r.length]; exact l⟩
  | @tup ws a vs ht r =>
    have e : some ws[i]? = some none := e
    injection e with e
    have l := List.getElem?_eq_none_iff.mp e
    exact ⟨vs, ht.seq, by rw [← r.length]; exact l⟩
  | rng lo m =>
    have e : some (bif Nat.blt i m then some (W.int (lo + i)) else none) = some none := e
    injection e with e
    cases c : Nat.blt i m with
    | true => rw [c] at e; cases e
    | false =>
      have l : ¬ i < m := fun z => by
        have z2 : Nat.blt i m = true := Nat.ble_eq_true_of_le z
        rw [c] at z2; cases z2
      exact Nat.le_of_not_lt l
/-- a walked thing is told -/
def OutIt (T : Tab) (ρ : Rho) (H : Hp) (ik : IK) (ra : RE) (rb : Hv → RE) (R : L2.It → Hp → Prop) (EX : XK) : Prop := match ra with
  | .ok x h1 => (match rb h1 with
    | .ok y h2 => (match itOf h2 ik x y with
      | some it => ∀ ρ' H' J, Ext ρ H ρ' H' → HRel T ρ' h2 H' → ItRel T ρ' H' it J → R J H'
      | none => False)
    | .exc c w h' => ∀ ρ' H' d v, Ext ρ H ρ' H' → HRel T ρ' h' H' → H' d = some (.xd [(("value" : Str), v)]) → (∀ n, ρ' n ≠ some d) → RelW T ρ' H' w v → EX (.ref (T.ca c)) (some d) H'
    | .bad => False)
  | .exc c w h' => ∀ ρ' H' d v, Ext ρ H ρ' H' → HRel T ρ' h' H' → H' d = some (.xd [(("value" : Str), v)]) → (∀ n, ρ' n ≠ some d) → RelW T ρ' H' w v → EX (.ref (T.ca c)) (some d) H'
  | .bad => False
def tI (T : Tab) (EX : XK) (ik : IK) (ra rb : Rd1) : TI := fun σ H R => ∃ ρ e h, HRel T ρ h H ∧ SRel T ρ H e σ ∧ OutIt T ρ H ik (ra e h) (rb e) R EX
theorem stepIt {σ : L2.St} {Q : VK} {e : Env} {ik : IK} {ra rb : Rd1} {f : Iv.It → Hv → RE} (R : HRel T ρ h H) (S : SRel T ρ H e σ)
    (o : OutE T ρ H ((ra e h).bind fun x h1 => (rb e h1).bind fun y h2 => (match itOf h2 ik x y with | none => .bad | some it => f it h2)) Q EX) :
    tI T EX ik ra rb σ H fun J H1 => ∃ ρ1 h1 it, Ext ρ H ρ1 H1 ∧ HRel T ρ1 h1 H1 ∧ ItRel T ρ1 H1 it J ∧ OutE T ρ1 H1 (f it h1) Q EX := by
  refine ⟨ρ, e, h, R, S, ?_⟩
  unfold OutIt
  cases c : ra e h with
  | bad => rw [c] at o; exact o.elim
  | exc d w h' => rw [c] at o; exact o
  | ok x h1 =>
    rw [c] at o
    dsimp only [RE.bind] at o ⊢
    cases c2 : rb e h1 with
    | bad => rw [c2] at o; exact o.elim
    | exc d w h' => rw [c2] at o; exact o
    | ok y h2 =>
      rw [c2] at o
      dsimp only at o ⊢
      cases c3 : itOf h2 ik x y with
      | none => rw [c3] at o; exact o.elim
      | some it =>
        rw [c3] at o
        exact fun ρ' H' J x1 R1 i1 => ⟨ρ', h2, it, x1, R1, i1, o.from x1⟩
theorem PI.imp {tg e : Expr} {t t' : TI} (h : PI X tg e t) (i : ∀ σ H Q, t' σ H Q → t σ H Q) : PI X tg e t' := ⟨fun pins s σ H R I q => h.run pins s σ H R I (i σ H R q)⟩
/-- a list, a tuple -/
def iSq (K : PySem.W.Frag) (tl : TE) : TI := fun σ H R => tl σ H fun x H1 => ∃ a, x = .ref a ∧ (((∃ xs, SqL K H1 a xs) ∧ R (Itl K a) H1) ∨ ((∃ xs, SqT K H1 a xs) ∧ R (Itt K a) H1))
theorem pi_sq {tg l : Expr} {tl : TE} (hl : PE X l tl) : PI X tg l (iSq X.K tl) := by
  refine ⟨fun pins s σ H R I h => ?_⟩
  refine thn (hl.run pins s σ H _ I h) fun v s1 ⟨x, H1, I1, r1, q1⟩ => ?_
  obtain ⟨a, e, q⟩ := q1
  subst e
  cases r1
  have fp : ∀ b ∈ [s1.heap.objs.size], FpOk X pins H1 b := fun b hb => by
    have e : b = s1.heap.objs.size := by simpa using hb
    subst e
    exact I1.fpOk (Nat.le_refl _) (I1.hok.fresh (Nat.le_refl _))
  rcases q with ⟨⟨xs, hq⟩, q⟩ | ⟨⟨xs, hq⟩, q⟩
  · obtain ⟨its, rv, p, hz⟩ := I1.list hq
    refine wpAny_pyIter_list p.isList ?_
    exact ⟨s1.heap.objs.size, [s1.heap.objs.size], _, _, H1, rfl, I1.kept (t' := s1.toks) fun b o e => Heap.get?_push_of_some _ e, turn_list a _, ⟨_, Heap.get?_push_size _ rfl, rfl, rfl⟩, fp, q⟩
  · obtain ⟨its, rv, p, hz⟩ := I1.tuple hq
    refine wpAny_pyIter_tuple (show s1.heap.IsTuple a its.toArray from p) ?_
    exact ⟨s1.heap.objs.size, [s1.heap.objs.size], _, _, H1, rfl, I1.kept (t' := s1.toks) fun b o e => Heap.get?_push_of_some _ e, turn_tuple a _, ⟨_, Heap.get?_push_size _ rfl, rfl, rfl⟩, fp, q⟩
theorem okI_seq {tg l : Expr} {a b : E} (C : CkX T CX call n EX k X) (ha : Good T EX X (evE F call a) (.e l)) (hb : b = .k .non) : PI X tg l (tI T EX .seq (evE F call a) (evE F call b)) := by
  subst hb
  refine PI.imp (pi_sq ha.2.1) fun σ H Q t => ?_
  obtain ⟨ρ, e, h, R, S, o⟩ := t
  refine ⟨ρ, e, h, R, S, ?_⟩
  unfold OutIt at o
  cases c : evE F call a e h with
  | bad => rw [c] at o; exact o.elim
  | exc d w h' => rw [c] at o; exact o
  | ok x h1 =>
    rw [c] at o
    dsimp only [evE] at o
    intro ρ1 H1 v x1 R1 q
    simp only [itOf] at o
    cases q with
    | tup ht r => exact ⟨_, rfl, .inr ⟨⟨_, by rw [← C.hK]; exact ht.seq⟩, by rw [← C.hK]; exact o ρ1 H1 _ x1 R1 (.tup ht r)⟩⟩
    | @ref m a' hm =>
      simp only [sqOf] at o
      cases c2 : cellOf h1 m with
      | none => rw [c2] at o; exact o.elim
      | some ws =>
        rw [c2] at o
        obtain ⟨vs, hq, r, _⟩ := R1.list hm c2
        exact ⟨_, rfl, .inl ⟨⟨vs, by rw [← C.hK]; exact hq⟩, by rw [← C.hK]; exact o ρ1 H1 _ x1 R1 (.lst hm)⟩⟩
    | _ => exact o.elim
theorem smallR_of {i : Int} (h : smallR i = true) : -(2 ^ 62) ≤ i ∧ i < 2 ^ 62 := by
  obtain ⟨a, b⟩ := Bool.and_eq_true_iff.mp h
  exact ⟨of_decide_eq_true a, of_decide_eq_true b⟩
theorem okI_rng {tg x : Expr} {a b : E} {p pos : Pos} (C : CkX T CX call n EX k X) (hg : k.isG ("range" : Str) = true) (ha : Good T EX X (evE F call a) (.e x)) (hb : b = .k .non) : PI X tg (.Call (.Name ("range" : Str) p) [x] [] pos) (tI T EX .rng (evE F call a) (evE F call b)) := by
  subst hb
  refine PI.imp (pi_range1 (C.g hg) (C.b (by simp [bnames])) (pa_cons ha.2.1 pa_nil (star_of ha.1)) (star_of ha.1)) fun σ H Q t => ?_
  obtain ⟨ρ, e, h, R, S, o⟩ := t
  refine ⟨ρ, e, h, R, S, ?_⟩
  unfold OutIt at o
  cases c : evE F call a e h with
  | bad => rw [c] at o; exact o.elim
  | exc d w h' => rw [c] at o; exact o
  | ok x h1 =>
    rw [c] at o
    dsimp only [evE] at o
    intro ρ1 H1 v x1 R1 q
    cases q <;> first | exact o.elim | skip
    rename_i j
    simp only [itOf] at o
    cases c2 : smallR j with
    | false => rw [c2] at o; exact o.elim
    | true =>
      rw [c2] at o
      obtain ⟨z1, z2⟩ := smallR_of c2
      exact ⟨j, rfl, z1, z2, o ρ1 H1 _ x1 R1 (.rng 0 j.toNat)⟩
theorem okI_rng2 {tg x y : Expr} {a b : E} {p pos : Pos} (C : CkX T CX call n EX k X) (hg : k.isG ("range" : Str) = true) (ha : Good T EX X (evE F call a) (.e x)) (hb : Good T EX X (evE F call b) (.e y)) : PI X tg (.Call (.Name ("range" : Str) p) [x, y] [] pos) (tI T EX .rng2 (evE F call a) (evE F call b)) := by
  refine PI.imp (pi_range2 (C.g hg) (C.b (by simp [bnames])) (pa_cons ha.2.1 (pa_cons hb.2.1 pa_nil (star_of hb.1)) (star_of ha.1)) (by rw [star_of ha.1, star_of hb.1]; rfl) (star_of hb.1)) fun σ H Q t => ?_
  obtain ⟨ρ, e, h, R, S, o⟩ := t
  refine ⟨ρ, e, h, R, S, ?_⟩
  unfold OutIt at o
  cases c : evE F call a e h with
  | bad => rw [c] at o; exact o.elim
  | exc d w h' => rw [c] at o; exact o
  | ok x h1 =>
    rw [c] at o
    dsimp only at o
    intro ρ1 H1 v x1 R1 q
    refine ⟨ρ1, e, h1, R1, S.mono x1, ?_⟩
    cases c3 : evE F call b e h1 with
    | bad => rw [c3] at o; exact o.elim
    | exc d w h' => rw [c3] at o; exact fun ρ2 H2 d v2 x2 R2 a b r2 => o ρ2 H2 d v2 (x1.trans x2) R2 a b r2
    | ok y h2 =>
      rw [c3] at o
      dsimp only at o
      intro ρ2 H2 u x2 R2 q2
      cases q <;> first | (cases q2 <;> exact o.elim) | skip
      cases q2 <;> first | exact o.elim | skip
      rename_i i j
      simp only [itOf] at o
      cases c2 : (smallR i && smallR j) with
      | false => rw [c2] at o; exact o.elim
      | true =>
        rw [c2] at o
        obtain ⟨s1, s2⟩ := Bool.and_eq_true_iff.mp c2
        obtain ⟨z1, z2⟩ := smallR_of s1
        obtain ⟨z3, z4⟩ := smallR_of s2
        exact ⟨i, j, rfl, ⟨z1, z2, z3, z4⟩, o ρ2 H2 _ (x1.trans x2) R2 (.rng i (j - i).toNat)⟩
end
end Iv
/-! Ivb: list comprehensions; the check of expressions is right. -/
namespace Iv
open PySem L2 PySem.SeqAt PyProof.Rows
/-- no exception -/
def EX0 : XK := fun _ _ _ => False
section
variable {T : Tab} {CX : CXT} {call : Call} {n F : Nat} {EX : XK} {k : Ck} {X : Cx}
theorem wipe_wipe (σ : L2.St) (vs : List Nat) : L2.wipe (L2.wipe σ vs) vs = L2.wipe σ vs := by
  have : OnlyAt vs σ (L2.wipe σ vs) := by
    refine ⟨wipe_length σ vs, fun i hi => ?_⟩
    induction vs with
    | nil => rfl
    | cons v vs ih =>
      show ((L2.wipe σ vs).set v none)[i]? = _
      rw [List.getElem?_set_ne (fun z => hi (by rw [z]; exact List.mem_cons_self))]
      exact ih fun z => hi (List.mem_cons_of_mem _ z)
  exact this.wipe fun _ h => h
theorem upd_self {H : Hp} {p : Addr} {o : HO} (h : H p = some o) : upd H p o = H := by
  funext b
  by_cases c : b = p
  · subst c; rw [upd_same, h]
  · rw [upd_ne c]
/-- the names' kinds in a block -/
theorem relab_relS (ns : List (Str × NameKind)) (sc scope : Scope) (h : sc.names = ns) (hk : sc.kind = .function) : (relS scope sc).names = relab ns scope.names := by
  unfold relS relab
  show scope.names.map _ = scope.names.map _
  refine List.map_congr_left fun y _ => ?_
  obtain ⟨a, b⟩ := y
  rw [h, hk]
  simp
theorem blk_ck {scope : Scope} (C : CkX T CX call n EX k X) (hs : scope.kind = .function) (s : Shared) (H : Hp) (D : Addr) (cl : List (Str × Addr)) (fp : List Addr) (hp : Passes CX (X.blk s H scope (compEnvC scope cl D X.env) fp) EX0) :
    CkX T CX call n EX0 (k.blk scope) (X.blk s H scope (compEnvC scope cl D X.env) fp) where
  hN := C.hN
  nd := C.nd
  sc := by
    show (compEnvC scope cl D X.env).scope.names = relab k.ns scope.names
    exact relab_relS k.ns X.env.scope scope C.sc C.kd
  kd := hs
  fn := rfl
  calm := C.calm
  rm := C.rm
  pass := hp
  own := PassesOwn.never
  gd := C.gd
  fns := C.fns
/-- exceptions of callees come only where they are wanted -/
def CXf (CX : CXT) : Prop := ∀ outer H s e s', ¬ CX outer H s EX0 e s'
theorem passF {Y : Cx} (h : CXf CX) : Passes CX Y EX0 := fun _ _ H s e s' _ q => (h _ H s e s' q).elim
theorem ownN_ix {N : List Str} : ∀ {own : List Nat} {l : List (Str × Nat)}, ownN N own = some l → (∀ p ∈ l, N[p.2]? = some p.1) ∧ l.map (·.2) = own
  | [], l, h => by cases h; exact ⟨fun p hp => absurd hp (by simp), rfl⟩
  | i :: r, l, h => by
    unfold ownN at h
    cases c : N[i]? with
    | none => rw [c] at h; cases h
    | some x =>
      rw [c] at h
      dsimp only at h
      cases c2 : ownN N r with
      | none => rw [c2] at h; cases h
      | some l2 =>
        rw [c2] at h
        cases h
        obtain ⟨a, b⟩ := ownN_ix c2
        refine ⟨fun p hp => ?_, by rw [List.map_cons, b]⟩
        rcases List.mem_cons.mp hp with z | z
        · rw [z]; exact c
        · exact a p z
theorem blkOk_of {scope : Scope} {own : List (Str × Nat)} (C : CkX T CX call n EX k X) (h : chkBlk k scope own = true) (hi : ∀ p ∈ own, k.N[p.2]? = some p.1) : BlkOk X.N X.env.scope scope own := by
  unfold chkBlk at h
  simp only [Bool.and_eq_true, List.all_eq_true] at h
  obtain ⟨⟨⟨h1, h2⟩, h3⟩, h4⟩ := h
  refine ⟨of_decide_eq_true h1, fun y hy => by simpa using h2 y hy, fun p hp => by rw [C.hN]; exact hi p hp, fun y hy e => ?_, fun y hy e => ?_⟩
  · have q := h3 y hy
    rw [C.sc]
    simpa [e] using q
  · have q := h4 y hy
    rw [C.hN]
    rcases e with e | e
    · simpa [e] using q
    · simpa [e] using q
/-- the turns -/
theorem lc_go {own : List Nat} {g : G} {cs : Bool} {c el : E} {it : Iv.It} {J : L2.It} {σ : L2.St} {ρ2 : Rho} {H2 : Hp} {h2 : Hv} {e : Env} {Q : VK} {D : Addr}
    (R : HRel T ρ2 h2 H2) (S : SRel T ρ2 H2 e σ) (hD : H2 D = none) (hJ : ItRel T ρ2 H2 it J) (hin : ∀ i ∈ tgt g, i ∈ own)
    (o : OutE T ρ2 H2 (match lcGo it (fun h w => match assignG h g w (wipeE e own) with
        | none => none
        | some σ1 => bif cs then (match evE F call c σ1 h with
            | .ok z h3 => (match truth h3 z with
              | some true => (match evE F call el σ1 h3 with | .ok v h4 => some (some v, h4) | _ => none)
              | some false => some (none, h3)
              | none => none)
            | _ => none)
          else (match evE F call el σ1 h with | .ok v h4 => some (some v, h4) | _ => none)) F 0 [] h2 with
      | some (ws, h5) => newL h5 ws
      | none => .bad) Q EX) :
    ∃ W : Nat → Nat → Hp → Prop, (∃ m, W 0 m (upd H2 D (.lst []))) ∧ ∀ i m H, W i m H →
      (J.stop i H ∧ Q (.ref D) H) ∨ (J.go i H ∧ ∃ Nx : Hp → Prop, (∀ H', Nx H' → ∃ m', m' < m ∧ W (i + 1) m' H') ∧ ∀ x H', J.yld i H x H' → gT T g x (L2.wipe σ own) H' fun σ2 H2 => L2.wipe σ2 own = L2.wipe σ own ∧
        (bif cs then tB T EX0 (evE F call c) else tYes) σ2 H2 fun b H3 =>
          if b = true then tE T EX0 (evE F call el) σ2 H3 fun y H4 => ∃ acc, H4 D = some (.lst acc) ∧ acc.length < sizeLine ∧ Nx (upd H4 D (.lst (acc ++ [y]))) else Nx H3) := by
  generalize hel : (fun (h : Hv) (w : W) => match assignG h g w (wipeE e own) with
        | none => none
        | some σ1 => bif cs then (match evE F call c σ1 h with
            | .ok z h3 => (match truth h3 z with
              | some true => (match evE F call el σ1 h3 with | .ok v h4 => some (some v, h4) | _ => none)
              | some false => some (none, h3)
              | none => none)
            | _ => none)
          else (match evE F call el σ1 h with | .ok v h4 => some (some v, h4) | _ => none)) = elf at o
  have nst : ∀ xs, ¬ Still (.lst xs) := fun xs z => z
  refine ⟨fun i m H' => ∃ ρ' h' acc accV, Ext ρ2 H2 ρ' H' ∧ HRel T ρ' h' H' ∧ H' D = some (.lst accV) ∧ RelWs T ρ' H' acc.reverse accV ∧ acc.length ≤ listMax ∧ (∀ n, ρ' n ≠ some D) ∧
    OutE T ρ2 H2 (match lcGo it elf m i acc h' with | some (ws, h5) => newL h5 ws | none => .bad) Q EX, ⟨F, ρ2, h2, [], [], Ext.laid hD, R.laid hD, upd_same, .nil, Nat.zero_le _, R.notAt hD, o⟩, ?_⟩
  rintro i m H' ⟨ρ', h', acc, accV, x1, R1, hd, ra, hl, nD, o1⟩
  have J1 := hJ.monoW x1.toExtW
  cases m with
  | zero => exact o1.elim
  | succ m =>
    unfold lcGo at o1
    cases ce : it.at h' i with
    | none => rw [ce] at o1; exact o1.elim
    | some ox =>
      rw [ce] at o1
      cases ox with
      | none =>
        left
        refine ⟨it_stop R1 J1 ce, ?_⟩
        have o1 : OutE T ρ2 H2 (newL h' acc.reverse) Q EX := o1
        unfold newL at o1
        cases cc : (Nat.blt h'.n room && Nat.ble acc.reverse.length listMax) with
        | false => rw [cc] at o1; exact o1.elim
        | true =>
          rw [cc] at o1
          obtain ⟨c1, c2⟩ := Bool.and_eq_true_iff.mp cc
          have c1 : h'.n < room := Nat.le_of_ble_eq_true c1
          have c2 := Nat.le_of_ble_eq_true c2
          have xw := ExtW.adopt (o' := .lst accV) R1 hd (nst _)
          have z := o1 (Rho.add ρ' h'.n D) (upd H' D (.lst accV)) (.ref D) (x1.adopt R1 hD hd (nst _)) (R1.adopt hd (nst _) nD c1 ⟨accV, upd_same, RelWs.monoW xw ra, c2⟩) (.ref Rho.add_same)
          rw [upd_self hd] at z
          exact z
      | some x =>
        right
        obtain ⟨go, yl⟩ := it_go R1 J1 ce
        dsimp only at o1
        refine ⟨go, fun H6 => ∃ ρ' h' acc accV, Ext ρ2 H2 ρ' H6 ∧ HRel T ρ' h' H6 ∧ H6 D = some (.lst accV) ∧ RelWs T ρ' H6 acc.reverse accV ∧ acc.length ≤ listMax ∧ (∀ n, ρ' n ≠ some D) ∧
          OutE T ρ2 H2 (match lcGo it elf m (i + 1) acc h' with | some (ws, h5) => newL h5 ws | none => .bad) Q EX, fun H6 q => ⟨m, Nat.lt_succ_self m, q⟩, fun v H6 y => ?_⟩
        obtain ⟨e6, rv⟩ := yl v H6 y
        subst e6
        -- the target
        have eo := (congrFun (congrFun hel h') x).symm
        cases ca : assignG h' g x (wipeE e own) with
        | none => rw [ca] at eo; rw [eo] at o1; exact o1.elim
        | some e1 =>
          rw [ca] at eo
          refine ⟨ρ', h', wipeE e own, x, e1, R1, (S.mono x1).wipe own, rv, ca, fun σ2 S2 oa => ⟨?_, ?_⟩⟩
          · rw [oa.wipe hin, wipe_wipe]
          -- the item, at any state
          have item : ∀ {ρ3 : Rho} {H3 : Hp} {h3 : Hv}, Ext ρ' H6 ρ3 H3 → HRel T ρ3 h3 H3 → (elf h' x = (match evE F call el e1 h3 with | .ok v h4 => some (some v, h4) | _ => none)) →
              tE T EX0 (evE F call el) σ2 H3 fun y H4 => ∃ acc, H4 D = some (.lst acc) ∧ acc.length < sizeLine ∧ ∃ ρ' h' acc' accV, Ext ρ2 H2 ρ' (upd H4 D (.lst (acc ++ [y]))) ∧ HRel T ρ' h' (upd H4 D (.lst (acc ++ [y]))) ∧ (upd H4 D (.lst (acc ++ [y]))) D = some (.lst accV) ∧ RelWs T ρ' (upd H4 D (.lst (acc ++ [y]))) acc'.reverse accV ∧ acc'.length ≤ listMax ∧ (∀ n, ρ' n ≠ some D) ∧
                OutE T ρ2 H2 (match lcGo it elf m (i + 1) acc' h' with | some (ws, h5) => newL h5 ws | none => .bad) Q EX := by
            intro ρ3 H3 h3 x3 R3 ee
            refine ⟨ρ3, e1, h3, R3, S2.mono x3, ?_⟩
            cases cv : evE F call el e1 h3 with
            | bad => rw [cv] at ee; rw [ee] at o1; exact o1.elim
            | exc d w h' => rw [cv] at ee; rw [ee] at o1; exact o1.elim
            | ok v4 h4 =>
              rw [cv] at ee; rw [ee] at o1
              dsimp only at o1
              cases cl : Nat.blt acc.length listMax with
              | false => rw [cl] at o1; exact o1.elim
              | true =>
                rw [cl] at o1
                have cl : acc.length + 1 ≤ listMax := Nat.le_of_ble_eq_true cl
                intro ρ4 H4 y4 x4 R4 r4
                have x34 := x3.trans x4
                have hd4 : H4 D = some (.lst accV) := x34.ks D _ hd nD
                have nD4 : ∀ n, ρ4 n ≠ some D := x34.free hd nD
                have lv : accV.length = acc.length := by rw [← ra.length, List.length_reverse]
                refine ⟨accV, hd4, by rw [lv]; exact Nat.lt_of_lt_of_le cl listMax_line, ρ4, h4, v4 :: acc, accV ++ [y4], (x1.trans x34).wrote hD hd4 (nst _), R4.wrote hd4 (nst _) nD4, upd_same, ?_, cl, nD4, o1⟩
                have xw : ExtW ρ4 H4 ρ4 (upd H4 D (.lst (accV ++ [y4]))) := ExtW.write hd4 (nst _)
                rw [List.reverse_cons]
                exact RelWs.monoW xw ((ra.mono x34).append (.cons r4 .nil))
          cases cs with
          | false =>
            have i2 := item (.refl _ _) R1 eo
            rw [cond_false]
            unfold tYes
            dsimp only
            rw [if_pos rfl]
            exact i2
          | true =>
            rw [cond_true]
            refine ⟨ρ', e1, h', R1, S2, ?_⟩
            have eo : elf h' x = (match evE F call c e1 h' with
              | .ok z h3 => (match truth h3 z with
                | some true => (match evE F call el e1 h3 with | .ok v h4 => some (some v, h4) | _ => none)
                | some false => some (none, h3)
                | none => none)
              | _ => none) := eo
            cases cc : evE F call c e1 h' with
            | bad => rw [cc] at eo; rw [eo] at o1; exact o1.elim
            | exc d w h'' => rw [cc] at eo; rw [eo] at o1; exact o1.elim
            | ok z h3 =>
              rw [cc] at eo
              dsimp only at eo
              cases ct : truth h3 z with
              | none => rw [ct] at eo; rw [eo] at o1; exact o1.elim
              | some b =>
                rw [ct] at eo
                refine ⟨b, ct, fun ρ3 H3 x3 R3 => ?_⟩
                cases b with
                | true =>
                  rw [if_pos rfl]
                  exact item x3 R3 eo
                | false =>
                  rw [if_neg (by decide)]
                  rw [eo] at o1
                  exact ⟨ρ3, h3, acc, accV, x1.trans x3, R3, x3.ks D _ hd nD, ra.mono x3, hl, x3.free hd nD, o1⟩
/-- a list comprehension -/
theorem lc_read {own : List Nat} {g : G} {ik : IK} {a b : E} {cs : Bool} {c el : E} {σ : L2.St} {H : Hp} {Q : VK} (hin : ∀ i ∈ tgt g, i ∈ own) (t : tE T EX (evE F call (.lc own g ik a b cs c el)) σ H Q) :
    tLc (tI T EX ik (evE F call a) (evE F call b)) (gT T g) (bif cs then tB T EX0 (evE F call c) else tYes) (tE T EX0 (evE F call el)) own σ H Q := by
  obtain ⟨ρ, e, h, R, S, o⟩ := t
  have o' := stepIt (ik := ik) (ra := evE F call a) (rb := evE F call b) (f := fun it h2 => (match lcGo it (fun h w => match assignG h g w (wipeE e own) with
        | none => none
        | some σ1 => bif cs then (match evE F call c σ1 h with
            | .ok z h3 => (match truth h3 z with
              | some true => (match evE F call el σ1 h3 with | .ok v h4 => some (some v, h4) | _ => none)
              | some false => some (none, h3)
              | none => none)
            | _ => none)
          else (match evE F call el σ1 h with | .ok v h4 => some (some v, h4) | _ => none)) F 0 [] h2 with
      | some (ws, h5) => newL h5 ws
      | none => .bad)) R S o
  obtain ⟨ρ', e', h', R', S', o2⟩ := o'
  refine ⟨ρ', e', h', R', S', ?_⟩
  unfold OutIt at o2 ⊢
  cases ca : evE F call a e' h' with
  | bad => rw [ca] at o2; exact o2.elim
  | exc d w h2 => rw [ca] at o2; exact o2
  | ok x h1 =>
    rw [ca] at o2
    dsimp only at o2 ⊢
    cases cb : evE F call b e' h1 with
    | bad => rw [cb] at o2; exact o2.elim
    | exc d w h2 => rw [cb] at o2; exact o2
    | ok y h2 =>
      rw [cb] at o2
      dsimp only at o2 ⊢
      cases ci : itOf h2 ik x y with
      | none => rw [ci] at o2; exact o2.elim
      | some it =>
        rw [ci] at o2
        intro ρ3 H3 J x3 R3 j3 D hD
        obtain ⟨ρ4, h4, it4, x4, R4, j4, o4⟩ := o2 ρ3 H3 J x3 R3 j3
        exact lc_go R4 (S.mono x4) hD j4 hin o4
end
end Iv
/-! Ivc: the check of expressions is right. -/
namespace Iv
open PySem L2 PySem.SeqAt PyProof.Rows
theorem no {p : Prop} {b : Bool} (h : b = true) (e : b = false) : p := by rw [e] at h; cases h
theorem an {a b : Bool} (h : (a && b) = true) : a = true ∧ b = true := Bool.and_eq_true_iff.mp h
theorem nt {a : Bool} (h : (!a) = true) : a = false := by cases a <;> first | rfl | cases h
section
variable {T : Tab} {CX : CXT} {call : Call} {n F : Nat}
def GoodX (T : Tab) (EX : XK) (X : Cx) (c : E) (r : Rd1) : Tm → Prop
  | .p ks vs => GoodP T EX X r ks vs
  | .a es => Good T EX X r (.a es) ∧ (es = [] → c = .nil)
  | it => Good T EX X r it
theorem goodE {EX : XK} {X : Cx} {c : E} {r : Rd1} {x : Expr} (h : GoodX T EX X c r (.e x)) : Good T EX X r (.e x) := h
theorem goodA {EX : XK} {X : Cx} {c : E} {r : Rd1} {x : List Expr} (h : GoodX T EX X c r (.a x)) : Good T EX X r (.a x) := h.1
theorem lt1 {a b m : Nat} (h : a ≤ m + 1) (e : b + 1 ≤ a) : b ≤ m := by omega
theorem chkG_in {k : Ck} {own : List Nat} : ∀ (g : G) (it : Tm), chkG k (some own) g it = true → ∀ i ∈ tgt g, i ∈ own := by
  intro g
  induction g with
  | one i =>
    intro it h j hj
    unfold chkG at h
    split at h
    · rename_i e
      cases e
      obtain ⟨_, h3⟩ := an h
      have e : j = i := by simpa [tgt] using hj
      rw [e]
      simpa using h3
    all_goals first | (cases h; done) | (rename_i e; cases e)
  | nil => intro it h j hj; simp [tgt] at hj
  | cons g gs ihg ihgs =>
    intro it h j hj
    unfold chkG at h
    split at h
    all_goals first | (cases h; done) | skip
    all_goals rename_i e
    all_goals cases e
    obtain ⟨h1, h3⟩ := an h
    obtain ⟨h1, h2⟩ := an h1
    rcases List.mem_append.mp hj with z | z
    · exact ihg _ h2 j z
    · exact ihgs _ h3 j z
  | tup gs ih =>
    intro it h j hj
    unfold chkG at h
    split at h
    all_goals first | (cases h; done) | skip
    all_goals rename_i e
    all_goals cases e
    exact ih _ h j hj
theorem chk_ok (hf : CXf CX) : ∀ (m : Nat) (c : E), sizeOf c ≤ m → ∀ (k : Ck) (X : Cx) (EX : XK) (it : Tm), CkX T CX call n EX k X → chk c k it = true → GoodX T EX X c (evE F call c) it := by
  intro m
  induction m with
  | zero =>
    intro c hc
    cases c <;> simp at hc
  | succ m ih =>
    intro c hc k X EX it C h
    unfold chk at h
    split at h
    · rename_i w c j pos
      exact ok_k C h
    · rename_i i x pos
      obtain ⟨h1, h3⟩ := an h
      obtain ⟨h1, h2⟩ := an h1
      exact ok_var C (of_decide_eq_true h1) h2 h3
    · rename_i o a y p b pos
      obtain ⟨h12, h3⟩ := an h
      obtain ⟨h1, h2⟩ := an h12
      have g := goodE (ih a (by simp at hc; omega) _ _ _ _ C h3)
      split at h1
      · rename_i z ho
        obtain ⟨h4, h5⟩ := an h1
        have e := of_decide_eq_true h4
        subst e
        exact ok_b1 C ho h5 g
      · split at h1
        · obtain ⟨h4, h5⟩ := an h1
          have e := of_decide_eq_true h4
          subst e
          exact ok_int C h5 g
        · cases h1
    · rename_i o a y p b c p2 pos
      obtain ⟨h1, h5⟩ := an h
      obtain ⟨h1, h4⟩ := an h1
      obtain ⟨h1, h3⟩ := an h1
      obtain ⟨h1, h2⟩ := an h1
      have e := of_decide_eq_true h1
      subst e
      exact ok_isi C h2 h3 (goodE (ih a (by simp at hc; omega) _ _ _ _ C h5))
    · rename_i o a b q j p2 pos
      obtain ⟨h1, h2⟩ := an h
      have g := goodE (ih a (by simp at hc; omega) _ _ _ _ C h2)
      split at h1
      · exact ok_isN C g
      · exact ok_notN C g
      · cases h1
    · rename_i a b pos
      exact ok_neg C (goodE (ih a (by simp at hc; omega) _ _ _ _ C h))
    · rename_i o a b l q r pos
      obtain ⟨h1, h3⟩ := an h
      obtain ⟨h1, h2⟩ := an h1
      exact ok_bin C (of_decide_eq_true h1) (goodE (ih a (by simp at hc; omega) _ _ _ _ C h2)) (goodE (ih b (by simp at hc; omega) _ _ _ _ C h3))
    · rename_i o a b l q r pos
      obtain ⟨h1, h3⟩ := an h
      obtain ⟨h1, h2⟩ := an h1
      exact ok_cmp C (of_decide_eq_true h1) (goodE (ih a (by simp at hc; omega) _ _ _ _ C h2)) (goodE (ih b (by simp at hc; omega) _ _ _ _ C h3))
    · rename_i a b l r pos
      obtain ⟨h1, h3⟩ := an h
      obtain ⟨h1, h2⟩ := an h1
      exact ok_get C (nt h1) (goodE (ih a (by simp at hc; omega) _ _ _ _ C h2)) (goodE (ih b (by simp at hc; omega) _ _ _ _ C h3))
    · rename_i a bl lo bh hi l l1 h1 p2 pos
      obtain ⟨q1, q3⟩ := an h
      obtain ⟨q1, q2⟩ := an q1
      have part : ∀ (b : Bool) (c : E) (p : Option Expr), sizeOf c ≤ m → (match b, p with
          | true, some x => chk c k (.e x)
          | false, none => (match c with | .k .non => true | _ => false)
          | _, _ => false) = true → PartOk T EX X (evE F call c) b p := by
        intro b c p hc q
        split at q
        · exact goodE (ih c hc _ _ _ _ C q)
        · split at q
          · exact fun _ _ => rfl
          · cases q
        · cases q
      exact ok_cut C (goodE (ih a (by simp at hc; omega) _ _ _ _ C q1)) (part _ _ _ (by simp at hc; omega) q2) (part _ _ _ (by simp at hc; omega) q3)
    · rename_i a b x y rest pos
      obtain ⟨h1, h2⟩ := an h
      have ga := goodE (ih a (by simp at hc; omega) _ _ _ _ C h1)
      split at h2
      · have gb := goodE (ih b (by simp at hc; omega) _ _ _ _ C h2)
        exact ok_and C ga (pe_one gb.2.1) (pw_and1 gb.2.2.1)
      · have gb := goodE (ih b (by simp at hc; omega) _ _ _ _ C h2)
        exact ok_and C ga gb.2.1 (gb.2.2.2 _ _ _ rfl)
    · rename_i a b x y rest pos
      obtain ⟨h1, h2⟩ := an h
      have ga := goodE (ih a (by simp at hc; omega) _ _ _ _ C h1)
      split at h2
      · have gb := goodE (ih b (by simp at hc; omega) _ _ _ _ C h2)
        exact ok_or C ga (pe_one gb.2.1) (pw_or1 gb.2.2.1)
      · have gb := goodE (ih b (by simp at hc; omega) _ _ _ _ C h2)
        exact ok_or C ga gb.2.1 (gb.2.2.2 _ _ _ rfl)
    · rename_i a x pos
      exact ok_not C (goodE (ih a (by simp at hc; omega) _ _ _ _ C h))
    · rename_i c a b x y z pos
      obtain ⟨h1, h3⟩ := an h
      obtain ⟨h1, h2⟩ := an h1
      exact ok_ite C (goodE (ih c (by simp at hc; omega) _ _ _ _ C h1)) (goodE (ih a (by simp at hc; omega) _ _ _ _ C h2)) (goodE (ih b (by simp at hc; omega) _ _ _ _ C h3))
    · exact ⟨ok_nil C, fun _ => rfl⟩
    · rename_i a as x xs
      obtain ⟨h1, h3⟩ := an h
      obtain ⟨h1, h2⟩ := an h1
      exact ⟨ok_cons C (goodE (ih a (by simp at hc; omega) _ _ _ _ C h2)) (goodA (ih as (by simp at hc; omega) _ _ _ _ C h3)), fun e => by cases e⟩
    · exact ok_pnil C
    · rename_i a b as x ks y vs
      obtain ⟨h1, h3⟩ := an h
      obtain ⟨h1, h2⟩ := an h1
      exact ok_pcons C (goodE (ih a (by simp at hc; omega) _ _ _ _ C h1)) (goodE (ih b (by simp at hc; omega) _ _ _ _ C h2)) (ih as (by simp at hc; omega) _ _ _ _ C h3)
    · rename_i as es j pos
      exact ok_tup C (goodA (ih as (by simp at hc; omega) _ _ _ _ C h))
    · rename_i as es pos
      exact ok_lst C (goodA (ih as (by simp at hc; omega) _ _ _ _ C h))
    · exact ok_dnew C
    · rename_i as x ks vs pos
      obtain ⟨h1, h4⟩ := an h
      obtain ⟨h1, h3⟩ := an h1
      obtain ⟨h1, h2⟩ := an h1
      exact ok_dic C (Nat.eq_of_beq_eq_true h1) (Nat.le_of_ble_eq_true h2) h3 (ih as (by simp at hc; omega) _ _ _ _ C h4)
    · rename_i f as y p es pos
      obtain ⟨h1, h4⟩ := an h
      obtain ⟨h1, h3⟩ := an h1
      obtain ⟨h1, h2⟩ := an h1
      have g := ih as (by simp at hc; omega) _ _ _ (.a es) C h4
      exact ok_call C (of_decide_eq_true h1) h2 h3 g.1 g.2
    · rename_i c a y p b pos
      obtain ⟨h1, h5⟩ := an h
      obtain ⟨h1, h4⟩ := an h1
      obtain ⟨h1, h3⟩ := an h1
      obtain ⟨h1, h2⟩ := an h1
      exact ok_mkx C (of_decide_eq_true h1) h2 h3 (goodE (ih a (by simp at hc; omega) _ _ _ _ C h5))
    · rename_i ob as x y apos b pos
      obtain ⟨h1, h6⟩ := an h
      obtain ⟨h1, h5⟩ := an h1
      obtain ⟨h1, h4⟩ := an h1
      obtain ⟨h1, h3⟩ := an h1
      obtain ⟨h1, h2⟩ := an h1
      have e := of_decide_eq_true h1
      subst e
      exact ok_app C (nt h2) h3 (nt h4) (goodE (ih ob (by simp at hc; omega) _ _ _ _ C h5)) (goodA (ih as (by simp at hc; omega) _ _ _ _ C h6))
    · rename_i a x y pos
      obtain ⟨h1, h3⟩ := an h
      obtain ⟨h1, h2⟩ := an h1
      have e := of_decide_eq_true h1
      subst e
      exact ok_xval C (nt h2) (goodE (ih a (by simp at hc; omega) _ _ _ _ C h3))
    · rename_i own g ik a b cs c el elt tg iter ifs scope pos
      obtain ⟨h1, h6⟩ := an h
      obtain ⟨h1, h5⟩ := an h1
      obtain ⟨h1, h4⟩ := an h1
      obtain ⟨h1, h3⟩ := an h1
      obtain ⟨h1, h2⟩ := an h1
      split at h1
      · cases h1
      · rename_i l hl
        obtain ⟨i1, i2⟩ := ownN_ix hl
        have bo := blkOk_of C h1 i1
        have gi : ∀ i ∈ tgt g, i ∈ own := chkG_in g (.g tg) h3
        have hset : ∀ x, foldedSetIterable iter X.env x = pure x := by
          intro x
          cases iter <;> first | rfl | cases h2
        have hB : ∀ (s : Shared) (H : Hp) (D : Addr) (cl : List (Str × Addr)) (fp : List Addr), CkX T CX call n EX0 (k.blk scope) (X.blk s H scope (compEnvC scope cl D X.env) fp) := fun s H D cl fp => blk_ck C bo.kind s H D cl fp (passF hf)
        have hg : ∀ (s : Shared) (H : Hp) (D : Addr) (cl : List (Str × Addr)) (fp : List Addr), PG (X.blk s H scope (compEnvC scope cl D X.env) fp) tg (gT T g) := fun s H D cl fp => (okG (hB s H D cl fp) g (.g tg) h3).1
        have hel : ∀ (s : Shared) (H : Hp) (D : Addr) (cl : List (Str × Addr)) (fp : List Addr), PE (X.blk s H scope (compEnvC scope cl D X.env) fp) elt (tE T EX0 (evE F call el)) := fun s H D cl fp => (goodE (ih el (by simp at hc; omega) _ _ _ _ (hB s H D cl fp) h4)).2.1
        have ht : ∀ (s : Shared) (H : Hp) (D : Addr) (cl : List (Str × Addr)) (fp : List Addr), PTs (X.blk s H scope (compEnvC scope cl D X.env) fp) ifs (bif cs then tB T EX0 (evE F call c) else tYes) := fun s H D cl fp => by
          split at h5
          · exact pts_nil
          · exact pts_one (goodE (ih c (by simp at hc; omega) _ _ _ _ (hB s H D cl fp) h5)).2.2.1
          · cases h5
        have hi : PI X tg iter (tI T EX ik (evE F call a) (evE F call b)) := by
          split at h6
          · rename_i y p x p2
            obtain ⟨h1, h5⟩ := an h6
            obtain ⟨h1, h4⟩ := an h1
            obtain ⟨h1, h3⟩ := an h1
            obtain ⟨h1, h2⟩ := an h1
            have e := of_decide_eq_true h1
            subst e
            have eb : b = .k .non := by
              split at h5
              · rfl
              · cases h5
            exact okI_rng C h2 (goodE (ih a (by simp at hc; omega) _ _ _ _ C h4)) eb
          · rename_i y p x z p2
            obtain ⟨r1, r6⟩ := an h6
            obtain ⟨r1, r5⟩ := an r1
            obtain ⟨r1, r4⟩ := an r1
            obtain ⟨r1, r3⟩ := an r1
            obtain ⟨r1, r2⟩ := an r1
            have e := of_decide_eq_true r1
            subst e
            exact okI_rng2 C r2 (goodE (ih a (by simp at hc; omega) _ _ _ _ C r5)) (goodE (ih b (by simp at hc; omega) _ _ _ _ C r6))
          · obtain ⟨h1, h2⟩ := an h6
            have eb : b = .k .non := by
              split at h2
              · rfl
              · cases h2
            exact okI_seq C (goodE (ih a (by simp at hc; omega) _ _ _ _ C h1)) eb
          · cases h6
        have pe := pe_lc (pos := pos) C.calm C.nd hi bo hg ht hel hset
        rw [i2] at pe
        exact good_e C.hK rfl rfl (PE.imp pe fun σ H Q t => lc_read gi t)
    · cases h
end
end Iv
/-! Ivd: statements: readings, the cases. -/
namespace Iv
open PySem L2 PySem.SeqAt PyProof.Rows
abbrev RdS := Env → Hv → RS
def OutS (T : Tab) (ρ : Rho) (H : Hp) (r : RS) (D : Ends) (EX : XK) : Prop := match r with
  | .next e' h' => ∀ ρ' H' σ', Ext ρ H ρ' H' → HRel T ρ' h' H' → SRel T ρ' H' e' σ' → D.nx σ' H'
  | .brk e' h' => ∀ ρ' H' σ', Ext ρ H ρ' H' → HRel T ρ' h' H' → SRel T ρ' H' e' σ' → D.bk σ' H'
  | .cnt e' h' => ∀ ρ' H' σ', Ext ρ H ρ' H' → HRel T ρ' h' H' → SRel T ρ' H' e' σ' → D.ct σ' H'
  | .ret w h' => ∀ ρ' H' v, Ext ρ H ρ' H' → HRel T ρ' h' H' → RelW T ρ' H' w v → D.rt v H'
  | .exc _ c w h' => ∀ ρ' H' d v, Ext ρ H ρ' H' → HRel T ρ' h' H' → H' d = some (.xd [(("value" : Str), v)]) → (∀ n, ρ' n ≠ some d) → RelW T ρ' H' w v → EX (.ref (T.ca c)) (some d) H'
  | .bad => False
def tS (T : Tab) (EX : XK) (r : RdS) : TS := fun D σ H => ∃ ρ e h, HRel T ρ h H ∧ SRel T ρ H e σ ∧ OutS T ρ H (r e h) D EX
section
variable {T : Tab} {EX : XK} {σ : L2.St} {H H1 : Hp} {ρ ρ1 : Rho} {h h1 : Hv} {e : Env} {D : Ends}
theorem OutS.from {x : RS} (o : OutS T ρ H x D EX) (y : Ext ρ H ρ1 H1) : OutS T ρ1 H1 x D EX := by
  cases x with
  | next e2 h2 => exact fun ρ2 H2 v2 x2 R2 r2 => o ρ2 H2 v2 (y.trans x2) R2 r2
  | brk e2 h2 => exact fun ρ2 H2 v2 x2 R2 r2 => o ρ2 H2 v2 (y.trans x2) R2 r2
  | cnt e2 h2 => exact fun ρ2 H2 v2 x2 R2 r2 => o ρ2 H2 v2 (y.trans x2) R2 r2
  | ret w2 h2 => exact fun ρ2 H2 v2 x2 R2 r2 => o ρ2 H2 v2 (y.trans x2) R2 r2
  | exc e2 c w2 h2 => exact fun ρ2 H2 d v2 x2 R2 a b r2 => o ρ2 H2 d v2 (y.trans x2) R2 a b r2
  | bad => exact o
theorem stepS {r : Rd1} {f : W → Hv → RS} (R : HRel T ρ h H) (S : SRel T ρ H e σ) (o : OutS T ρ H (RS.of e (r e h) f) D EX) :
    tE T EX r σ H fun v H1 => ∃ ρ1 h1 w, Ext ρ H ρ1 H1 ∧ HRel T ρ1 h1 H1 ∧ RelW T ρ1 H1 w v ∧ OutS T ρ1 H1 (f w h1) D EX := by
  refine ⟨ρ, e, h, R, S, ?_⟩
  cases q : r e h with
  | ok w h' =>
    rw [q] at o
    have o : OutS T ρ H (f w h') D EX := o
    exact fun ρ' H' v x R' rv => ⟨ρ', h', w, x, R', rv, o.from x⟩
  | exc c w h' => rw [q] at o; exact o
  | bad => rw [q] at o; exact o
theorem stepSB {r : Rd1} {f : W → Hv → RS} (R : HRel T ρ h H) (S : SRel T ρ H e σ) (o : OutS T ρ H (RS.of e (r e h) f) D EX) (hf : ∀ w h', truth h' w = none → f w h' = .bad) :
    tB T EX r σ H fun b H1 => ∃ ρ1 h1 w, Ext ρ H ρ1 H1 ∧ HRel T ρ1 h1 H1 ∧ truth h1 w = some b ∧ OutS T ρ1 H1 (f w h1) D EX := by
  refine ⟨ρ, e, h, R, S, ?_⟩
  cases q : r e h with
  | ok w h' =>
    rw [q] at o
    have o : OutS T ρ H (f w h') D EX := o
    cases z : truth h' w with
    | none => rw [hf w h' z] at o; exact o.elim
    | some b => exact ⟨b, z, fun ρ' H' x R' => ⟨ρ', h', w, x, R', z, o.from x⟩⟩
  | exc c w h' => rw [q] at o; exact o
  | bad => rw [q] at o; exact o
end
section
variable {X : Cx}
theorem PS.imp {st : Stmt} {t t' : TS} (h : PS X st t) (i : ∀ D σ H, t' D σ H → t D σ H) : PS X st t' := ⟨fun pins s σ H D I q => h.run pins s σ H D I (i D σ H q)⟩
theorem PSs.imp {st : List Stmt} {t t' : TS} (h : PSs X st t) (i : ∀ D σ H, t' D σ H → t D σ H) : PSs X st t' := ⟨fun pins s σ H D I q => h.run pins s σ H D I (i D σ H q)⟩
end
/-! ### the check -/
def isComp : Expr → Bool
  | .ListComp _ _ _ _ => true
  | .SetComp _ _ _ _ => true
  | .DictComp _ _ _ _ _ => true
  | _ => false
theorem swaps_of {e : Expr} {t : Option Expr} {l : Nat} {env : PySem.Env} (h : isComp e = false) : swapsWith e t l env = pure false := by
  cases e <;> first | rfl | cases h
theorem swaps1_of {e t : Expr} {l : Nat} {env : PySem.Env} (h : isComp e = false) : swapsWithSole [t] e l env = pure false := by
  cases e <;> first | rfl | cases h
/-- no tuple is taken apart -/
def noPair : Expr → Expr → Bool
  | .Tuple _ _ _, .Tuple _ _ _ => false
  | .List _ _, .Tuple _ _ _ => false
  | _, _ => true
theorem swapped_of {t e : Expr} {env : PySem.Env} (h : noPair t e = true) : swappedStores [t] e env = pure none := by
  cases t <;> first
    | rfl
    | (cases e <;> first | rfl | cases h)
inductive Sm where
  | s (x : Stmt) | ss (l : List Stmt)
def isLoc (k : Ck) (x : Str) : Bool := decide (k.ns.lookup x = some .local)
def chkIt (ik : IK) (a b : E) (k : Ck) (iter : Expr) : Bool := match ik, iter with
        | .rng, .Call (.Name n _) [x] [] _ => decide (n = ("range" : Str)) && k.isG n && !isStar x && chk a k (.e x) && (match b with | .k .non => true | _ => false)
        | .rng2, .Call (.Name n _) [x, y] [] _ => decide (n = ("range" : Str)) && k.isG n && !isStar x && !isStar y && chk a k (.e x) && chk b k (.e y)
        | .seq, x => chk a k (.e x) && (match b with | .k .non => true | _ => false)
        | _, _ => false
def chkS : S → Ck → Sm → Bool
  | .skip, _, .ss [] => true
  | .skip, _, .s (.Pass _) => true
  | .brk, _, .s (.Break _) => true
  | .cnt, _, .s (.Continue _) => true
  | .seq a b, k, .ss (x :: xs) => chkS a k (.s x) && chkS b k (.ss xs)
  | .expr e, k, .s (.Expr v _) => !isComp v && chk e k (.e v)
  | .asg (.one i) e, k, .s (.Assign [.Name x py] v _) => decide (k.N[i]? = some x) && k.isL x && chk e k (.e v) && (match v with
      | .ListComp _ _ sc p2 => isLoc k x && (py.line == p2.line) && !(sc.names.any fun y => y.1 == x && (y.2 == .local || y.2 == .cell))
      | v => !isComp v)
  | .asg (.tup g) e, k, .s (.Assign [t] v _) => !isComp v && noPair t v && !isStar t && chkG k none (.tup g) (.g t) && chk e k (.e v)
  | .par i j a b, k, .s (.Assign [.Tuple [.Name x px, .Name y py] _ _] (.Tuple [u, v] _ _) _) => decide (k.N[i]? = some x) && decide (k.N[j]? = some y) && isLoc k x && isLoc k y && !(Nat.beq i j) && (px.line == py.line) && !(x == y) &&
      !(foldedForSure 8 u && foldedForSure 8 v) && !(constantsAlone 8 u && constantsAlone 8 v) && !isStar u && !isStar v && chk a k (.e u) && chk b k (.e v)
  | .setI o i e, k, .s (.Assign [.Subscript x y _] v _) => !isComp v && !isSlice y && chk o k (.e x) && chk i k (.e y) && chk e k (.e v)
  | .ite c a b, k, .s (.If t x y _) => chk c k (.e t) && chkS a k (.ss x) && chkS b k (.ss y)
  | .whl c b, k, .s (.While t x [] _) => chk c k (.e t) && chkS b k (.ss x)
  | .for g ik a b s, k, .s (.For tg iter x [] _) => !isSet iter && chkG k none g (.g tg) && chkIt ik a b k iter && chkS s k (.ss x)
  | .ret e, k, .s (.Return (some v) _) => chk e k (.e v)
  | .ret (.k .non), _, .s (.Return none _) => true
  | _, _, _ => false
section
variable {T : Tab} {CX : CXT} {call : Call} {n F : Nat} {EX : XK} {k : Ck} {X : Cx}
def GoodS (T : Tab) (EX : XK) (X : Cx) (r : RdS) : Sm → Prop
  | .s st => PS X st (tS T EX r)
  | .ss l => PSs X l (tS T EX r)
theorem okI (hf : CXf CX) {tg iter : Expr} {ik : IK} {a b : E} (C : CkX T CX call n EX k X) (h : chkIt ik a b k iter = true) : PI X tg iter (tI T EX ik (evE F call a) (evE F call b)) := by
  unfold chkIt at h
  split at h
  · rename_i y p x p2
    obtain ⟨h1, h5⟩ := an h
    obtain ⟨h1, h4⟩ := an h1
    obtain ⟨h1, h3⟩ := an h1
    obtain ⟨h1, h2⟩ := an h1
    have e := of_decide_eq_true h1
    subst e
    have eb : b = .k .non := by
      split at h5
      · rfl
      · cases h5
    exact okI_rng C h2 (goodE (chk_ok hf _ a (Nat.le_refl _) _ _ _ _ C h4)) eb
  · rename_i y p x z p2
    obtain ⟨r1, r6⟩ := an h
    obtain ⟨r1, r5⟩ := an r1
    obtain ⟨r1, r4⟩ := an r1
    obtain ⟨r1, r3⟩ := an r1
    obtain ⟨r1, r2⟩ := an r1
    have e := of_decide_eq_true r1
    subst e
    exact okI_rng2 C r2 (goodE (chk_ok hf _ a (Nat.le_refl _) _ _ _ _ C r5)) (goodE (chk_ok hf _ b (Nat.le_refl _) _ _ _ _ C r6))
  · obtain ⟨h1, h2⟩ := an h
    have eb : b = .k .non := by
      split at h2
      · rfl
      · cases h2
    exact okI_seq C (goodE (chk_ok hf _ a (Nat.le_refl _) _ _ _ _ C h1)) eb
  · cases h
theorem oS_seq {a b : S} {x : Stmt} {xs : List Stmt} (ha : GoodS T EX X (evS F call a) (.s x)) (hb : GoodS T EX X (evS F call b) (.ss xs)) : GoodS T EX X (evS F call (.seq a b)) (.ss (x :: xs)) := by
  refine PSs.imp (pss_cons ha hb) fun D σ H t => ?_
  obtain ⟨ρ, e, h, R, S, o⟩ := t
  refine ⟨ρ, e, h, R, S, ?_⟩
  simp only [evS] at o
  cases c : evS F call a e h with
  | next e1 h1 => rw [c] at o; exact fun ρ' H' σ' x1 R1 S1 => ⟨ρ', e1, h1, R1, S1, OutS.from o x1⟩
  | brk e1 h1 => rw [c] at o; exact o
  | cnt e1 h1 => rw [c] at o; exact o
  | ret w h1 => rw [c] at o; exact o
  | exc e1 d w h1 => rw [c] at o; exact o
  | bad => rw [c] at o; exact o
theorem oS_skip {r : RdS} {D : Ends} {σ : L2.St} {H : Hp} (t : tS T EX r D σ H) (hr : ∀ e h, r e h = .next e h) : D.nx σ H := by
  obtain ⟨ρ, e, h, R, S, o⟩ := t
  rw [hr] at o
  exact o ρ H σ (.refl _ _) R S
theorem oS_expr {a : E} {v : Expr} {pos : Pos} (hs : isComp v = false) (ha : Good T EX X (evE F call a) (.e v)) : PS X (.Expr v pos) (tS T EX (evS F call (.expr a))) := by
  refine PS.imp (ps_expr ha.2.1 (swaps_of hs)) fun D σ H t => ?_
  obtain ⟨ρ, e, h, R, S, o⟩ := t
  exact tE_mono (stepS (r := evE F call a) (f := fun _ h1 => .next e h1) R S o) fun v H1 ⟨ρ1, h1, w, x1, R1, q, o1⟩ => o1 ρ1 H1 σ (.refl _ _) R1 (S.mono x1)
theorem oS_ret {a : E} {v : Expr} {pos : Pos} (ha : Good T EX X (evE F call a) (.e v)) : PS X (.Return (some v) pos) (tS T EX (evS F call (.ret a))) := by
  refine PS.imp (ps_ret ha.2.1) fun D σ H t => ?_
  obtain ⟨ρ, e, h, R, S, o⟩ := t
  exact tE_mono (stepS (r := evE F call a) (f := fun w h1 => .ret w h1) R S o) fun v H1 ⟨ρ1, h1, w, x1, R1, q, o1⟩ => o1 ρ1 H1 v (.refl _ _) R1 q
theorem oS_retN {pos : Pos} : PS X (.Return none pos) (tS T EX (evS F call (.ret (.k .non)))) := by
  refine PS.imp ps_retN fun D σ H t => ?_
  obtain ⟨ρ, e, h, R, S, o⟩ := t
  exact o ρ H .non (.refl _ _) R .non
theorem oS_ite {c : E} {a b : S} {x : Expr} {y z : List Stmt} {pos : Pos} (hc : Good T EX X (evE F call c) (.e x)) (ha : GoodS T EX X (evS F call a) (.ss y)) (hb : GoodS T EX X (evS F call b) (.ss z)) : PS X (.If x y z pos) (tS T EX (evS F call (.ite c a b))) := by
  refine PS.imp (ps_if hc.2.2.1 ha hb) fun D σ H t => ?_
  obtain ⟨ρ, e, h, R, S, o⟩ := t
  refine tB_mono (stepSB (r := evE F call c) (f := fun x h1 => match truth h1 x with | some true => evS F call a e h1 | some false => evS F call b e h1 | none => .bad) R S o fun w h' e => by rw [e]) fun t H1 ⟨ρ1, h1, w, x1, R1, q, o1⟩ => ?_
  rw [q] at o1
  cases t with
  | true => rw [if_pos rfl]; exact ⟨ρ1, e, h1, R1, S.mono x1, o1⟩
  | false => rw [if_neg (by decide)]; exact ⟨ρ1, e, h1, R1, S.mono x1, o1⟩
theorem asg_read {g : G} {a : E} {D : Ends} {σ : L2.St} {H : Hp} (t : tS T EX (evS F call (.asg g a)) D σ H) : tAsg (tE T EX (evE F call a)) (gT T g) D σ H := by
  obtain ⟨ρ, e, h, R, S, o⟩ := t
  refine tE_mono (stepS (r := evE F call a) (f := fun w h1 => (match assignG h1 g w e with | some σ1 => .next σ1 h1 | none => .bad)) R S o) fun v H1 ⟨ρ1, h1, w, x1, R1, q, o1⟩ => ?_
  cases c : assignG h1 g w e with
  | none => rw [c] at o1; exact o1.elim
  | some e1 =>
    rw [c] at o1
    exact ⟨ρ1, h1, e, w, e1, R1, S.mono x1, q, c, fun σ' S' _ => o1 ρ1 H1 σ' (.refl _ _) R1 S'⟩
theorem gT_one {i : Nat} {v : V} {σ : L2.St} {H : Hp} {Q : L2.St → Hp → Prop} (t : gT T (.one i) v σ H Q) : gName i v σ H Q := by
  obtain ⟨ρ, h, e, w, e', R, S, r, a, q⟩ := t
  cases a
  exact q _ (S.set r i) ⟨by rw [List.length_set], fun j hj => List.getElem?_set_ne fun z => hj (by rw [z]; simp [tgt])⟩
theorem oS_set {i : Nat} {a : E} {x : Str} {py pos : Pos} {v : Expr} (C : CkX T CX call n EX k X) (hi : k.N[i]? = some x) (hl : k.isL x = true) (hs : isComp v = false) (ha : Good T EX X (evE F call a) (.e v)) : PS X (.Assign [.Name x py] v pos) (tS T EX (evS F call (.asg (.one i) a))) := by
  obtain ⟨l1, l2⟩ := C.l hl
  refine PS.imp (ps_set (i := i) C.nd (by rw [C.hN]; exact hi) l1 ha.2.1 (swaps_of hs) l2) fun D σ H t => ?_
  exact tE_mono (asg_read t) fun v H1 q => gT_one q
theorem oS_tup {g : G} {a : E} {pos : Pos} {t v : Expr} (C : CkX T CX call n EX k X) (hs : isComp v = false) (hp : noPair t v = true) (ht : isStar t = false) (hg : chkG k none (.tup g) (.g t) = true) (ha : Good T EX X (evE F call a) (.e v)) : PS X (.Assign [t] v pos) (tS T EX (evS F call (.asg (.tup g) a))) := by
  have pg := (okG C (own := none) (.tup g) (.g t) hg).1
  exact PS.imp (ps_asg ha.2.1 pg (swaps1_of hs) (swapped_of hp) (by rw [assignEach_of ht]; rfl)) fun D σ H t => asg_read t
theorem oS_setI {o i a : E} {pos p2 : Pos} {x y v : Expr} (C : CkX T CX call n EX k X) (hs : isComp v = false) (hy : isSlice y = false) (ho : Good T EX X (evE F call o) (.e x)) (hi : Good T EX X (evE F call i) (.e y)) (ha : Good T EX X (evE F call a) (.e v)) : PS X (.Assign [.Subscript x y p2] v pos) (tS T EX (evS F call (.setI o i a))) := by
  refine PS.imp (ps_asg ha.2.1 (pg_sub ho.2.1 hi.2.1 (set_I (T := T)) (by intro _; cases y <;> first | rfl | cases hy)) (swaps1_of hs) (swapped_of rfl) rfl) fun D σ H t => ?_
  obtain ⟨ρ, e, h, R, S, o'⟩ := t
  refine tE_mono (stepS (r := evE F call a) (f := fun v h1 => RS.of e (evE F call o e h1) fun x h2 => RS.of e (evE F call i e h2) fun y h3 => (match setIW h3 x y v with | some h4 => .next e h4 | none => .bad)) R S o') fun v H1 ⟨ρ1, h1, w1, x1, R1, q1, o1⟩ => ?_
  refine tE_mono (stepS (r := evE F call o) (f := fun x h2 => RS.of e (evE F call i e h2) fun y h3 => (match setIW h3 x y w1 with | some h4 => .next e h4 | none => .bad)) R1 (S.mono x1) o1) fun v2 H2 ⟨ρ2, h2, w2, x2, R2, q2, o2⟩ => ?_
  refine tE_mono (stepS (r := evE F call i) (f := fun y h3 => (match setIW h3 w2 y w1 with | some h4 => .next e h4 | none => .bad)) R2 ((S.mono x1).mono x2) o2) fun v3 H3 ⟨ρ3, h3, w3, x3, R3, q3, o3⟩ => ?_
  refine ⟨ρ3, h3, w2, w3, w1, R3, q2.mono x3, q3, (q1.mono x2).mono x3, ?_⟩
  cases c : setIW h3 w2 w3 w1 with
  | none => rw [c] at o3; exact o3.elim
  | some h4 =>
    rw [c] at o3
    exact fun ρ4 H4 x4 R4 => o3 ρ4 H4 σ x4 R4 (((S.mono x1).mono x2).mono x3 |>.mono x4)
/-! ### loops -/
theorem whl_read {c : E} {b : S} {D : Ends} {σ : L2.St} {H : Hp} (t : tS T EX (evS F call (.whl c b)) D σ H) : tWhile (tB T EX (evE F call c)) (tS T EX (evS F call b)) D σ H := by
  obtain ⟨ρ, e, h, R, S, o⟩ := t
  refine ⟨fun m σ' H' => ∃ ρ' e' h', Ext ρ H ρ' H' ∧ HRel T ρ' h' H' ∧ SRel T ρ' H' e' σ' ∧ OutS T ρ H (whlGo (evE F call c) (evS F call b) m e' h') D EX, ⟨F, ρ, e, h, .refl _ _, R, S, o⟩, ?_⟩
  rintro m σ' H' ⟨ρ', e', h', x1, R1, S1, o1⟩
  cases m with
  | zero => exact o1.elim
  | succ m =>
    unfold whlGo at o1
    refine ⟨ρ', e', h', R1, S1, ?_⟩
    cases cc : evE F call c e' h' with
    | bad => rw [cc] at o1; exact o1.elim
    | exc d w h2 => rw [cc] at o1; exact fun ρ2 H2 d v x2 R2 a b r2 => o1 ρ2 H2 d v (x1.trans x2) R2 a b r2
    | ok w h2 =>
      rw [cc] at o1
      dsimp only at o1
      cases ct : truth h2 w with
      | none => rw [ct] at o1; exact o1.elim
      | some bb =>
        rw [ct] at o1
        refine ⟨bb, ct, fun ρ2 H2 x2 R2 => ?_⟩
        cases bb with
        | false =>
          rw [if_neg (by decide)]
          exact o1 ρ2 H2 σ' (x1.trans x2) R2 (S1.mono x2)
        | true =>
          rw [if_pos rfl]
          refine ⟨_, fun σ3 H3 q => ⟨m, Nat.lt_succ_self m, q⟩, ρ2, e', h2, R2, S1.mono x2, ?_⟩
          dsimp only at o1
          have x12 := x1.trans x2
          cases cb : evS F call b e' h2 with
          | next e3 h3 => rw [cb] at o1; exact fun ρ3 H3 σ3 x3 R3 S3 => ⟨ρ3, e3, h3, x12.trans x3, R3, S3, o1⟩
          | cnt e3 h3 => rw [cb] at o1; exact fun ρ3 H3 σ3 x3 R3 S3 => ⟨ρ3, e3, h3, x12.trans x3, R3, S3, o1⟩
          | brk e3 h3 => rw [cb] at o1; exact fun ρ3 H3 σ3 x3 R3 S3 => o1 ρ3 H3 σ3 (x12.trans x3) R3 S3
          | ret w3 h3 => rw [cb] at o1; exact fun ρ3 H3 v3 x3 R3 r3 => o1 ρ3 H3 v3 (x12.trans x3) R3 r3
          | exc e3 d w3 h3 => rw [cb] at o1; exact fun ρ3 H3 d v3 x3 R3 a b r3 => o1 ρ3 H3 d v3 (x12.trans x3) R3 a b r3
          | bad => rw [cb] at o1; exact o1.elim
theorem for_read {g : G} {ik : IK} {a b : E} {s : S} {D : Ends} {σ : L2.St} {H : Hp} (t : tS T EX (evS F call (.for g ik a b s)) D σ H) : tFor (tI T EX ik (evE F call a) (evE F call b)) (gT T g) (tS T EX (evS F call s)) D σ H := by
  obtain ⟨ρ, e, h, R, S, o⟩ := t
  refine ⟨ρ, e, h, R, S, ?_⟩
  simp only [evS] at o
  unfold OutIt
  cases ca : evE F call a e h with
  | bad => rw [ca] at o; exact o.elim
  | exc d w h2 => rw [ca] at o; exact o
  | ok x h1 =>
    rw [ca] at o
    dsimp only [RS.of] at o ⊢
    cases cb : evE F call b e h1 with
    | bad => rw [cb] at o; exact o.elim
    | exc d w h2 => rw [cb] at o; exact o
    | ok y h2 =>
      rw [cb] at o
      dsimp only at o ⊢
      cases ci : itOf h2 ik x y with
      | none => rw [ci] at o; exact o.elim
      | some it =>
        rw [ci] at o
        intro ρ2 H2 J x2 R2 j2
        refine ⟨fun i m σ' H' => ∃ ρ' e' h', Ext ρ2 H2 ρ' H' ∧ HRel T ρ' h' H' ∧ SRel T ρ' H' e' σ' ∧ OutS T ρ H (forGo it (fun h w σ => match assignG h g w σ with | some σ1 => evS F call s σ1 h | none => .bad) m i e' h') D EX, ⟨F, ρ2, e, h2, .refl _ _, R2, S.mono x2, o⟩, ?_⟩
        rintro i m σ' H' ⟨ρ', e', h', x1, R1, S1, o1⟩
        have J1 := j2.monoW x1.toExtW
        have x12 := x2.trans x1
        cases m with
        | zero => exact o1.elim
        | succ m =>
          unfold forGo at o1
          cases ce : it.at h' i with
          | none => rw [ce] at o1; exact o1.elim
          | some ox =>
            rw [ce] at o1
            cases ox with
            | none => exact .inl ⟨it_stop R1 J1 ce, o1 ρ' H' σ' x12 R1 S1⟩
            | some x =>
              right
              obtain ⟨go, yl⟩ := it_go R1 J1 ce
              dsimp only at o1
              refine ⟨go, _, fun σ3 H3 q => ⟨m, Nat.lt_succ_self m, q⟩, fun v H6 y => ?_⟩
              obtain ⟨e6, rv⟩ := yl v H6 y
              subst e6
              cases ca : assignG h' g x e' with
              | none => rw [ca] at o1; exact o1.elim
              | some e1 =>
                rw [ca] at o1
                refine ⟨ρ', h', e', x, e1, R1, S1, rv, ca, fun σ2 S2 _ => ⟨ρ', e1, h', R1, S2, ?_⟩⟩
                dsimp only at o1
                cases cb : evS F call s e1 h' with
                | next e3 h3 => rw [cb] at o1; exact fun ρ3 H3 σ3 x3 R3 S3 => ⟨ρ3, e3, h3, x1.trans x3, R3, S3, o1⟩
                | cnt e3 h3 => rw [cb] at o1; exact fun ρ3 H3 σ3 x3 R3 S3 => ⟨ρ3, e3, h3, x1.trans x3, R3, S3, o1⟩
                | brk e3 h3 => rw [cb] at o1; exact fun ρ3 H3 σ3 x3 R3 S3 => o1 ρ3 H3 σ3 (x12.trans x3) R3 S3
                | ret w3 h3 => rw [cb] at o1; exact fun ρ3 H3 v3 x3 R3 r3 => o1 ρ3 H3 v3 (x12.trans x3) R3 r3
                | exc e3 d w3 h3 => rw [cb] at o1; exact fun ρ3 H3 d v3 x3 R3 a b r3 => o1 ρ3 H3 d v3 (x12.trans x3) R3 a b r3
                | bad => rw [cb] at o1; exact o1.elim
end
end Iv
/-! Ive: statements: the check is right. -/
namespace Iv
open PySem L2 PySem.SeqAt PyProof.Rows
theorem swap2_of {x y : Str} {px py pt pt2 : Pos} {kt k2 : Nat} {a b : Expr} {env : PySem.Env} (hk : env.blockKind = .function) (lx : env.kindOf x = some .local) (ly : env.kindOf y = some .local) (hl : (px.line == py.line) = true) (hxy : (x == y) = false)
    (hs1 : isStar a = false) (hs2 : isStar b = false) (hf : (foldedForSure 8 a && foldedForSure 8 b) = false) (hc : (constantsAlone 8 a && constantsAlone 8 b) = false) :
    swappedStores [.Tuple [.Name x px, .Name y py] kt pt] (.Tuple [a, b] k2 pt2) env = pure (some [x, y]) := by
  have st : ∀ e : Expr, isStar e = false → (match e with | .Starred .. => true | _ => false) = false := fun e h => by cases e <;> first | rfl | cases h
  have hl2 : (py.line == px.line) = true := by
    have : px.line = py.line := by simpa using hl
    rw [this]; exact beq_self_eq_true _
  have lx2 : (env.kindOf x == some .local) = true := by rw [lx]; rfl
  have ly2 : (env.kindOf y == some .local) = true := by rw [ly]; rfl
  have hb : (env.blockKind != .function) = false := by rw [hk]; rfl
  have hyx : (y == x) = false := by
    cases c : y == x with
    | false => rfl
    | true =>
      have e : y = x := by simpa using c
      rw [e] at hxy
      simp at hxy
  have ed : ([x, y] : List Str).eraseDups = [x, y] := by
    simp [List.eraseDups_cons, hxy, hyx]
  have any2 : ([a, b] : List Expr).any (fun e => match e with | .Starred .. => true | _ => false) = false := by
    simp only [List.any_cons, List.any_nil, st a hs1, st b hs2, Bool.or_false]
  have all1 : ([a, b] : List Expr).all (foldedForSure 8) = false := by simpa using hf
  have all2 : ([a, b] : List Expr).all (constantsAlone 8) = false := by simpa using hc
  have hl3 : py.line = px.line := by simpa using hl2
  have fm : ([Expr.Name x px, Expr.Name y py] : List Expr).filterMap (fun e => match e with
    | .Name id pos => if env.kindOf id = some .local ∧ pos.line = px.line then some id else none
    | _ => none) = [x, y] := by
    rw [List.filterMap_cons, List.filterMap_cons]
    simp [lx, ly, hl3]
  unfold swappedStores
  simp [hb, hk, all1, all2, Expr.pos, List.filterMap_cons, lx, ly, hl3, ed]
  rintro (h | h)
  · split at h
    · cases hs1
    · cases h
  · split at h
    · cases hs2
    · cases h
section
variable {T : Tab} {CX : CXT} {call : Call} {n F : Nat} {EX : XK} {k : Ck} {X : Cx}
theorem lc_parts (hf : CXf CX) {e : E} {elt : Expr} {gens : List Comprehension} {scope : Scope} {pos : Pos} (C : CkX T CX call n EX k X) (h : chk e k (.e (.ListComp elt gens scope pos)) = true) :
    ∃ own g ik a b cs c el tg iter ifs l, e = .lc own g ik a b cs c el ∧ gens = [⟨tg, iter, ifs, 0⟩] ∧ PI X tg iter (tI T EX ik (evE F call a) (evE F call b)) ∧ BlkOk X.N X.env.scope scope l ∧ l.map (·.2) = own ∧
      (∀ (s : Shared) (H : Hp) (D : Addr) (cl : List (Str × Addr)) (fp : List Addr), PG (X.blk s H scope (compEnvC scope cl D X.env) fp) tg (gT T g)) ∧
      (∀ (s : Shared) (H : Hp) (D : Addr) (cl : List (Str × Addr)) (fp : List Addr), PTs (X.blk s H scope (compEnvC scope cl D X.env) fp) ifs (bif cs then tB T EX0 (evE F call c) else tYes)) ∧
      (∀ (s : Shared) (H : Hp) (D : Addr) (cl : List (Str × Addr)) (fp : List Addr), PE (X.blk s H scope (compEnvC scope cl D X.env) fp) elt (tE T EX0 (evE F call el))) ∧
      (∀ x, foldedSetIterable iter X.env x = pure x) ∧ (∀ i ∈ tgt g, i ∈ own) := by
  unfold chk at h
  split at h
  all_goals first | (cases h; done) | skip
  all_goals rename_i hh
  all_goals first | (cases hh; done) | skip
  rename_i k _ _ _ own g ik a b cs c el elt2 tg iter ifs scope2 pos2
  cases hh
  obtain ⟨h1, h6⟩ := an h
  obtain ⟨h1, h5⟩ := an h1
  obtain ⟨h1, h4⟩ := an h1
  obtain ⟨h1, h3⟩ := an h1
  obtain ⟨h1, h2⟩ := an h1
  split at h1
  · cases h1
  · rename_i l hl
    obtain ⟨i1, i2⟩ := ownN_ix hl
    have bo := blkOk_of C h1 i1
    have hset : ∀ x, foldedSetIterable iter X.env x = pure x := by
      intro x
      cases iter <;> first | rfl | cases h2
    have hB : ∀ (s : Shared) (H : Hp) (D : Addr) (cl : List (Str × Addr)) (fp : List Addr), CkX T CX call n EX0 (k.blk scope) (X.blk s H scope (compEnvC scope cl D X.env) fp) := fun s H D cl fp => blk_ck C bo.kind s H D cl fp (passF hf)
    have ht : ∀ (s : Shared) (H : Hp) (D : Addr) (cl : List (Str × Addr)) (fp : List Addr), PTs (X.blk s H scope (compEnvC scope cl D X.env) fp) ifs (bif cs then tB T EX0 (evE F call c) else tYes) := fun s H D cl fp => by
      split at h5
      · exact pts_nil
      · exact pts_one (goodE (chk_ok hf _ c (Nat.le_refl _) _ _ _ _ (hB s H D cl fp) h5)).2.2.1
      · cases h5
    exact ⟨own, g, ik, a, b, cs, c, el, tg, iter, ifs, l, rfl, rfl, okI hf C h6, bo, i2, fun s H D cl fp => (okG (hB s H D cl fp) g (.g tg) h3).1, ht,
      fun s H D cl fp => (goodE (chk_ok hf _ el (Nat.le_refl _) _ _ _ _ (hB s H D cl fp) h4)).2.1, hset, chkG_in g (.g tg) h3⟩
theorem oS_setLc (hf : CXf CX) {i : Nat} {e : E} {x : Str} {py pos p2 : Pos} {elt : Expr} {gens : List Comprehension} {scope : Scope} (C : CkX T CX call n EX k X) (hi : k.N[i]? = some x) (hl : isLoc k x = true) (hp : (py.line == p2.line) = true)
    (hs : (scope.names.any fun y => y.1 == x && (y.2 == .local || y.2 == .cell)) = false) (h : chk e k (.e (.ListComp elt gens scope p2)) = true) : PS X (.Assign [.Name x py] (.ListComp elt gens scope p2) pos) (tS T EX (evS F call (.asg (.one i) e))) := by
  obtain ⟨own, g, ik, a, b, cs, c, el, tg, iter, ifs, l, e1, e2, hI, bo, i2, hg, ht, hel, hset, hin⟩ := lc_parts hf C h
  subst e1 e2
  have ll : X.env.scope.names.lookup x = some .local := by rw [C.sc]; exact of_decide_eq_true hl
  have ps := ps_setLc (spos := pos) C.calm C.nd (by rw [C.hN]; exact hi) ll (sw_true C.kd ll hp hs) hI bo hg ht hel hset
  rw [i2] at ps
  refine PS.imp ps fun D σ H t => ?_
  exact lc_read hin (tE_mono (asg_read t) fun v H1 q => gT_one q)
theorem oS_par {i j : Nat} {a b : E} {x y : Str} {px py pt pt2 pos : Pos} {kt k2 : Nat} {u v : Expr} (C : CkX T CX call n EX k X) (hi : k.N[i]? = some x) (hj : k.N[j]? = some y) (lx : isLoc k x = true) (ly : isLoc k y = true) (hij : Nat.beq i j = false)
    (hl : (px.line == py.line) = true) (hxy : (x == y) = false) (hf : (foldedForSure 8 u && foldedForSure 8 v) = false) (hc : (constantsAlone 8 u && constantsAlone 8 v) = false) (ha : Good T EX X (evE F call a) (.e u)) (hb : Good T EX X (evE F call b) (.e v)) :
    PS X (.Assign [.Tuple [.Name x px, .Name y py] kt pt] (.Tuple [u, v] k2 pt2) pos) (tS T EX (evS F call (.par i j a b))) := by
  have llx : X.env.scope.names.lookup x = some .local := by rw [C.sc]; exact of_decide_eq_true lx
  have lly : X.env.scope.names.lookup y = some .local := by rw [C.sc]; exact of_decide_eq_true ly
  have hbk : X.env.blockKind = .function := by unfold Env.blockKind; rw [C.kd]; rfl
  refine PS.imp (ps_par (i := i) (j := j) C.calm C.nd (by rw [C.hN]; exact hi) (by rw [C.hN]; exact hj) (Nat.ne_of_beq_eq_false hij) llx lly (pa_cons ha.2.1 (pa_cons hb.2.1 pa_nil (star_of hb.1)) (star_of ha.1)) (swap2_of hbk llx lly hl hxy ha.1 hb.1 hf hc)) fun D σ H t => ?_
  obtain ⟨ρ, e, h, R, S, o⟩ := t
  refine tE_mono (stepS (r := evE F call a) (f := fun x h1 => RS.of e (evE F call b e h1) fun y h2 => .next (store (store e i x) j y) h2) R S o) fun v1 H1 ⟨ρ1, h1, w1, x1, R1, q1, o1⟩ => ?_
  refine tE_mono (stepS (r := evE F call b) (f := fun y h2 => .next (store (store e i w1) j y) h2) R1 (S.mono x1) o1) fun v2 H2 ⟨ρ2, h2, w2, x2, R2, q2, o2⟩ => ?_
  exact ⟨v1, v2, rfl, o2 ρ2 H2 _ (.refl _ _) R2 ((((S.mono x1).mono x2).set (q1.mono x2) i).set q2 j)⟩
theorem chkS_ok (hf : CXf CX) : ∀ (m : Nat) (c : S), sizeOf c ≤ m → ∀ (it : Sm), CkX T CX call n EX k X → chkS c k it = true → GoodS T EX X (evS F call c) it := by
  intro m
  induction m with
  | zero =>
    intro c hc
    cases c <;> simp at hc
  | succ m ih =>
    intro c hc it C h
    have ge : ∀ (e : E) (x : Expr), chk e k (.e x) = true → Good T EX X (evE F call e) (.e x) := fun e x h => goodE (chk_ok hf _ e (Nat.le_refl _) _ _ _ _ C h)
    unfold chkS at h
    split at h
    · exact PSs.imp pss_nil fun D σ H t => oS_skip t fun _ _ => rfl
    · exact PS.imp ps_pass fun D σ H t => oS_skip t fun _ _ => rfl
    · refine PS.imp ps_break fun D σ H t => ?_
      obtain ⟨ρ, e, h, R, S, o⟩ := t
      exact o ρ H σ (.refl _ _) R S
    · refine PS.imp ps_continue fun D σ H t => ?_
      obtain ⟨ρ, e, h, R, S, o⟩ := t
      exact o ρ H σ (.refl _ _) R S
    · rename_i a b x xs
      obtain ⟨h1, h2⟩ := an h
      exact oS_seq (ih a (by simp at hc; omega) _ C h1) (ih b (by simp at hc; omega) _ C h2)
    · rename_i e v pos
      obtain ⟨h1, h2⟩ := an h
      exact oS_expr (nt h1) (ge _ _ h2)
    · rename_i i e x py v pos
      obtain ⟨w1, h4⟩ := an h
      obtain ⟨w2, h3⟩ := an w1
      obtain ⟨w3, h2⟩ := an w2
      split at h4
      · obtain ⟨q1, q3⟩ := an h4
        obtain ⟨q4, q2⟩ := an q1
        exact oS_setLc hf C (of_decide_eq_true w3) q4 q2 (nt q3) h3
      · exact oS_set C (of_decide_eq_true w3) h2 (nt h4) (ge _ _ h3)
    · rename_i g e t v pos
      obtain ⟨h1, h5⟩ := an h
      obtain ⟨h1, h4⟩ := an h1
      obtain ⟨h1, h3⟩ := an h1
      obtain ⟨h1, h2⟩ := an h1
      exact oS_tup C (nt h1) h2 (nt h3) h4 (ge _ _ h5)
    · rename_i i j a b x px y py kt pt u v k2 pt2 pos
      obtain ⟨h, q13⟩ := an h
      obtain ⟨h, q12⟩ := an h
      obtain ⟨h, q11⟩ := an h
      obtain ⟨h, q10⟩ := an h
      obtain ⟨h, q9⟩ := an h
      obtain ⟨h, q8⟩ := an h
      obtain ⟨h, q7⟩ := an h
      obtain ⟨h, q6⟩ := an h
      obtain ⟨h, q5⟩ := an h
      obtain ⟨h, q4⟩ := an h
      obtain ⟨h, q3⟩ := an h
      obtain ⟨q1, q2⟩ := an h
      exact oS_par C (of_decide_eq_true q1) (of_decide_eq_true q2) q3 q4 (nt q5) q6 (nt q7) (nt q8) (nt q9) (ge _ _ q12) (ge _ _ q13)
    · rename_i o i e x y p2 v pos
      obtain ⟨h, q5⟩ := an h
      obtain ⟨h, q4⟩ := an h
      obtain ⟨h, q3⟩ := an h
      obtain ⟨q1, q2⟩ := an h
      exact oS_setI C (nt q1) (nt q2) (ge _ _ q3) (ge _ _ q4) (ge _ _ q5)
    · rename_i c a b t x y pos
      obtain ⟨h1, h3⟩ := an h
      obtain ⟨h1, h2⟩ := an h1
      exact oS_ite (ge _ _ h1) (ih a (by simp at hc; omega) _ C h2) (ih b (by simp at hc; omega) _ C h3)
    · rename_i c b t x pos
      obtain ⟨h1, h2⟩ := an h
      exact PS.imp (ps_while C.own (ge _ _ h1).2.2.1 (ih b (by simp at hc; omega) (.ss x) C h2)) fun D σ H t => whl_read t
    · rename_i g ik a b s tg iter x pos
      obtain ⟨h1, h4⟩ := an h
      obtain ⟨h1, h3⟩ := an h1
      obtain ⟨h1, h2⟩ := an h1
      have h1 := nt h1
      have hset : ∀ x, foldedSetIterable iter X.env x = pure x := by
        intro x
        cases iter <;> first | rfl | cases h1
      exact PS.imp (ps_for C.own C.calm (okI hf C h3) (okG C (own := none) g (.g tg) h2).1 (ih s (by simp at hc; omega) (.ss x) C h4) hset) fun D σ H t => for_read t
    · rename_i e v pos
      exact oS_ret (ge _ _ h)
    · exact oS_retN
    · cases h
end
end Iv
/-! Ivf: defs: each does what the calls' evaluator says. -/
namespace Iv
open PySem L2 PySem.SeqAt PyProof.Rows
/-- a def of the text, against its code -/
structure FdOk (K : PySem.W.Frag) (fs xs : List Str) (f : Addr) (d : Fn) : Prop where
  ex : ∃ (name qual : Str) (params : Arguments) (body : List Stmt) (scope : Scope) (dV kV doc pm cdv ct oc : Value) (an od : Option Addr) (osl : Array (Option Value)) (N ps : List Str),
    K.lookup f = some ⟨oc, od, .func (PySem.W.fnOf name qual params body scope dV kV doc pm an cdv ct), osl⟩ ∧ PySem.W.codeIn K cdv qual = true ∧ FnScope N ps scope ∧ ps.length = d.pars ∧ N.length = d.slots ∧
    Binds K (PySem.W.fnOf name qual params body scope dV kV doc pm an cdv ct) ps [] ∧ chkS d.body ⟨N, scope.names, none, fs, xs⟩ (.ss body) = true
theorem Rm.deeper {k : Nat} {A : Around} (r : Rm (k + 1) A) (env : PySem.Env) : Rm k (A.deeper env) :=
  ⟨r.hd, r.gd, by have := r.dp; show A.depth + 1 + k + 40 < _; omega, by have := r.un; show A.units + 3 + 4 * k + 400 < _; omega⟩
section
variable {T : Tab} {P : Program} {w : World} {K : PySem.W.Frag} {mg : Str → Option Value} {base : Heap} {CX : CXT} {fs xs : List Str} {Pf : Nat → Option Fn} {F : Nat}
theorem pad_slot {ρ : Rho} {H : Hp} : ∀ {ws : List W} {vs : List V} (n : Nat), RelWs T ρ H ws vs → ws.length ≤ n → SRel T ρ H (pad n ws) (vs.map some ++ List.replicate (n - vs.length) none)
  | _, _, 0, .nil, _ => ⟨rfl, fun i w h => by cases h⟩
  | _, _, 0, .cons _ _, h => by simp at h
  | _, _, n + 1, .nil, _ => by
    have ih := pad_slot (ws := []) (vs := []) n (RelWs.nil (T := T) (ρ := ρ) (H := H)) (Nat.zero_le _)
    refine ⟨by show (pad n []).length + 1 = _; rw [ih.1]; simp, fun i w h => ?_⟩
    cases i with
    | zero => cases h
    | succ i =>
      obtain ⟨v, a, b⟩ := ih.2 i w h
      rw [List.map_nil, List.nil_append, List.getElem?_replicate] at a
      split at a <;> cases a
  | _, _, n + 1, .cons (w := w) (v := v) (ws := ws) (vs := vs) r rs, h => by
    have ih := pad_slot n rs (by simpa using h)
    have e : n + 1 - (v :: vs).length = n - vs.length := by simp
    rw [e]
    refine ⟨by show (pad n ws).length + 1 = _; rw [ih.1]; simp, fun i w' h => ?_⟩
    cases i with
    | zero => cases h; exact ⟨v, rfl, r⟩
    | succ i =>
      obtain ⟨v', a, b⟩ := ih.2 i w' h
      exact ⟨v', by simpa using a, b⟩
theorem calls_ok (hf : CXf CX) (G : Gd T P w K mg base fs xs) (hd : ∀ i d, Pf i = some d → FdOk K fs xs (T.fa i) d)
    (hp : ∀ (N : List Str) (qual : Str) (scope : Scope) (f : Addr) (cd : Value) (A : Around) (outer : List PySem.Env) (s : Shared) (H : Hp) (E : XK), Passes CX (cxOf CX P w K mg base N qual scope f cd A outer s H E) E) :
    ∀ (n i : Nat), FnS P w K mg base CX T (calls Pf F n) n i := by
  intro n
  induction n with
  | zero =>
    intro i A outer s H us vs Q E hr e0 r ⟨ρ, h, ws, R, q, o⟩
    exact o.elim
  | succ n ih =>
    intro i A outer s H us vs Q E hr e0 r ⟨ρ, h, ws, R, q, o⟩
    simp only [calls] at o
    cases c : Pf i with
    | none => rw [c] at o; exact o.elim
    | some d =>
      rw [c] at o
      dsimp only at o
      cases cl : Nat.beq ws.length d.pars with
      | false => rw [cl] at o; exact o.elim
      | true =>
        rw [cl] at o
        have el : ws.length = d.pars := Nat.eq_of_beq_eq_true cl
        obtain ⟨name, qual, params, body, scope, dV, kV, doc, pm, cdv, ct, oc, an, od, osl, N, ps, lk, hcd, S, hps, hN, hb, hck⟩ := (hd i d c).ex
        have hl : vs.length = ps.length := by rw [← q.length, el, hps]
        have KX : K.In s.heap := e0.mod.kin.keeps fun b o e => (e0.bs b o e).1
        have lim : s.heap.NoLimit := e0.mod.nolimit.keeps fun b o e => (e0.bs b o e).1
        have hkind : ∀ y ∈ ps.zip us, scope.names.lookup y.1 = some .local ∨ (scope.names.lookup y.1 = some .cell ∧ ((cellsFrom (s.heap.objs.size + 1) scope.names []).lookup y.1).isSome = true) := fun ⟨n, v⟩ hy => by
          rcases S.par n (List.of_mem_zip hy).1 with q | q
          · exact .inl q
          · exact .inr ⟨q, PySem.W.cellsFrom_some _ _ _ (.inl q)⟩
        have hbt := hb s us KX (by rw [List.append_nil, ← r.length, hl])
        rw [List.append_nil] at hbt
        refine codeAny_call_function (by have := hr.dp; omega) (KX _ _ lk) rfl S.co S.gen rfl (PySem.W.codeRec_of KX hcd) (hbt _ _ _ _ ?_)
        refine wpAny_newFunctionEnv_cells S.kind hkind fun env he s1 x => ?_
        subst he
        refine ⟨lim.keeps x.toInCall.keep, codeAny_func ?_⟩
        have C : CkX T CX (calls Pf F n) n E ⟨N, scope.names, none, fs, xs⟩ (cxOf CX P w K mg base N qual scope (T.fa i) cdv A outer s H E) := {
          hN := rfl
          nd := S.nd
          sc := rfl
          kd := S.kind
          fn := rfl
          calm := rfl
          rm := hr.deeper _
          pass := hp _ _ _ _ _ _ _ _ _ _
          own := passes_of (K := fun e s'' => CX outer H s E e s'') rfl
          gd := G
          fns := ih }
        have I : Inv (cxOf CX P w K mg base N qual scope (T.fa i) cdv A outer s H E) [] (L2.start N vs) H s1 := inv_start S hr.hd e0 hl r x
        have ht : PSs _ body (tS T E (evS F (calls Pf F n) d.body)) := chkS_ok hf _ d.body (Nat.le_refl _) (.ss body) C hck
        have hpl : ps.length ≤ N.length := by have := congrArg List.length S.pre; rw [List.length_take] at this; omega
        have Sr : SRel T ρ H (pad d.slots ws) (L2.start N vs) := by
          have z := pad_slot d.slots q (by rw [el, ← hps, ← hN]; exact hpl)
          unfold L2.start
          rw [hN]
          exact z
        refine wpAny_mono (ht.run [] s1 (L2.start N vs) H { nx := fun _ H' => Q .non H', rt := Q } I ⟨ρ, pad d.slots ws, h, R, Sr, ?_⟩) (fun fl s' hs => ?_) fun e s' hs => hs
        · cases cb : evS F (calls Pf F n) d.body (pad d.slots ws) h with
          | next e1 h1 => rw [cb] at o; exact fun ρ' H' σ' x1 R1 _ => o ρ' H' .non x1 R1 .non
          | brk e1 h1 => rw [cb] at o; exact o.elim
          | cnt e1 h1 => rw [cb] at o; exact o.elim
          | ret w1 h1 => rw [cb] at o; exact o
          | exc e1 d w1 h1 => rw [cb] at o; exact o
          | bad => rw [cb] at o; exact o.elim
        have fin : ∀ {σ' : L2.St} {H' : Hp} {v : V} {u : Value}, Inv (cxOf CX P w K mg base N qual scope (T.fa i) cdv A outer s H E) [] σ' H' s' → RelV v u → Q v H' → CE outer P w H s Q u s' :=
          fun {σ' H' v u} J rv q => ⟨v, H', J.os, J.bare, J.base, J.hok, rv, q⟩
        cases fl with
        | ret u =>
          obtain ⟨v, σ', H', J, rv, q⟩ := hs
          exact fin J rv q
        | next =>
          obtain ⟨σ', H', J, q⟩ := hs
          exact fin (v := V.non) (u := Value.none) J rfl q
        | brk =>
          obtain ⟨_, _, _, q⟩ := hs
          exact False.elim q
        | cont =>
          obtain ⟨_, _, _, q⟩ := hs
          exact False.elim q
/-- no exception leaves a call -/
def CXn : CXT := fun _ _ _ _ _ _ => False
theorem CXn_f : CXf CXn := fun _ _ _ _ _ h => h
theorem calls_n (G : Gd T P w K mg base fs xs) (hd : ∀ i d, Pf i = some d → FdOk K fs xs (T.fa i) d) : ∀ (n i : Nat), FnS P w K mg base CXn T (calls Pf F n) n i :=
  calls_ok CXn_f G hd fun _ _ _ _ _ _ _ _ _ _ _ _ _ _ _ _ _ q => q.elim
end
end Iv
/-! Ivg: the head: what of the text is looked at, once. -/
namespace Iv
open PySem L2 PySem.SeqAt PyProof.Rows He PySem.W PySem.HandSPX
theorem ba {a b : Bool} (h : (a && b) = true) : a = true ∧ b = true := Bool.and_eq_true_iff.mp h
/-! ### errors -/
def oB (a : Option Bool) (b : Bool) : Bool := decide (a = some b)
/-- an error class -/
def errB (K : PySem.W.Frag) (D fI C : Addr) : Bool :=
  (match K.lookup C with
  | some ⟨.type "type", _, .cls cd, sl⟩ => (match cd.mro, sl.toList with
    | .ref C' :: bm, [_, _, _, _, some (.builtin nn), _] => C' == C && nn == "ValueError.__new__" && cd.hasDict && !cd.hasDel && refsVE bm
    | _, _ => false)
  | _ => false) &&
  (eqO (PySem.W.findIn K (.ref C) "__setattr__") (some (some (.builtin "object.__setattr__"))) &&
  (eqO (PySem.W.findIn K (.ref C) "__getattribute__") (some (some (.builtin "BaseException.__getattribute__"))) &&
  (eqO (PySem.W.findIn K (.ref C) "__getattr__") (some none) &&
  (eqO (PySem.W.findIn K (.ref C) "value") (some none) &&
  (eqO (PySem.W.findIn K (.ref C) "__init__") (some (some (.ref fI))) &&
  (decide (PySem.W.typeIn K (.ref fI) = some (.type "function")) &&
  (eqO (ks_superIn K C D "__init__") (some (some (.builtin "ValueError.__init__"))) &&
  (oB (PySem.W.mroIn K C (.ref D)) true &&
  (oB (PySem.W.subIn K (.ref C) (.type "ValueError")) true &&
  (PySem.W.keepIn K (.ref C) &&
  (oB (PySem.W.subIn K (.ref C) (.type "BaseException")) true &&
  (decide (PySem.W.typeIn K (.ref C) = some (.type "type")) &&
  (PySem.W.hasDictIn K C &&
  ((PySem.W.clsIn K C).isSome &&
  (eqO (PySem.W.findIn K (.ref C) "__class__") (some (some (.builtin "object.__class__"))) &&
  (eqO (PySem.W.specialIn K (.builtin "object.__class__") "__get__") (some (some (.builtin "getset_descriptor.__get__"))) &&
  (oB (PySem.W.takesIn K (.builtin "object.__class__")) true &&
  oB (PySem.W.mroIn K C (.type "object")) true)))))))))))))))))
theorem oB_ok {a : Option Bool} {b : Bool} (h : oB a b = true) : a = some b := of_decide_eq_true h
theorem errB_ok {K : PySem.W.Frag} {D fI C : Addr} (h : errB K D fI C = true) : Xs.ErrT K D fI C := by
  unfold errB at h
  obtain ⟨h0, h⟩ := ba h
  obtain ⟨h1, h⟩ := ba h
  obtain ⟨h2, h⟩ := ba h
  obtain ⟨h3, h⟩ := ba h
  obtain ⟨h4, h⟩ := ba h
  obtain ⟨h5, h⟩ := ba h
  obtain ⟨h6, h⟩ := ba h
  obtain ⟨h7, h⟩ := ba h
  obtain ⟨h8, h⟩ := ba h
  obtain ⟨h9, h⟩ := ba h
  obtain ⟨h10, h⟩ := ba h
  obtain ⟨h11, h⟩ := ba h
  obtain ⟨h12, h⟩ := ba h
  obtain ⟨h13, h⟩ := ba h
  obtain ⟨h14, h⟩ := ba h
  obtain ⟨h15, h⟩ := ba h
  obtain ⟨h16, h⟩ := ba h
  obtain ⟨h17, h18⟩ := ba h
  refine ⟨?_, eqO_ok h1, eqO_ok h2, eqO_ok h3, eqO_ok h4, eqO_ok h5, of_decide_eq_true h6, eqO_ok h7, oB_ok h8, oB_ok h9, h10, oB_ok h11, of_decide_eq_true h12, h13, h14, eqO_ok h15, eqO_ok h16, oB_ok h17, oB_ok h18⟩
  split at h0
  · rename_i dd cd sl ho
    split at h0
    · rename_i C' bm k0 k1 k2 k3 n k5 hm hs
      simp only [Bool.and_eq_true, beq_iff_eq, Bool.not_eq_true'] at h0
      obtain ⟨⟨⟨⟨rfl, rfl⟩, hd⟩, hdel⟩, hv⟩ := h0
      obtain ⟨nm, bs, mro, ns, qn, hdt, sn, sub, ab, col, del⟩ := cd
      dsimp only at hm hdel hd
      subst hm hdel hd
      have hsl : sl = #[k0, k1, k2, k3, some (.builtin "ValueError.__new__"), k5] := by
        obtain ⟨l⟩ := sl
        simp only at hs
        rw [hs]
      subst hsl
      exact ⟨nm, qn, ns, bs, bm, sn, sub, ab, col, dd, k0, k1, k2, k3, k5, ho, hv⟩
    · cases h0
  · cases h0
/-- the __init__ of the base class at D, but its text -/
def baseB (main : Str) (K : PySem.W.Frag) (D fI : Addr) : Bool :=
  (match K.lookup fI with
  | some ⟨_, _, .func fd, _⟩ => decide (fd.globals = mainGlobals) && decide (fd.builtins = builtinsNs) && (match fd.defaults, fd.kwdefaults with | .none, .none => true | _, _ => false) && (match fd.closure, fd.code with
    | [(x, cc)], .ref cda => decide (x = ("__class__" : Str)) && PySem.W.codeIn K (.ref cda) "SheetError.__init__" &&
      (match K.lookup cc with | some ⟨_, _, .cell (some (.ref d)), _⟩ => decide (d = D) | _ => false) &&
      (match K.lookup cda with | some ⟨_, _, .fields vs, _⟩ => (match vs[2]? with | some (Value.str file _) => (main == file) | _ => false) | _ => false)
    | _, _ => false)
  | _ => false) && ((PySem.W.clsIn K D).isSome && (eqO (PySem.W.nsIn K mainGlobals "super") (some none) && eqO (PySem.W.nsIn K cStatics "thirdparty.any") (some none)))
abbrev InW : Type := Option (Str × Str × Arguments × FuncBody × Scope)
def initW (K : PySem.W.Frag) (fI : Addr) : InW := match K.lookup fI with
  | some ⟨_, _, .func fd, _⟩ => some (fd.name, fd.qualname, fd.params, fd.body, fd.scope)
  | _ => none
def IsInit (v : InW) : Prop := ∃ (p1 p2 a b c d e f g h i j : Pos), v = some (("__init__" : Str), ("SheetError.__init__" : Str), Xs.iA p1 p2, FuncBody.stmts (Xs.iB a b c d e f g h i j), Xs.iS) ∧ (c.endLine == e.line) = true
theorem baseB_ok {prog : Program} {K : PySem.W.Frag} {D fI : Addr} (h : baseB prog.main.file K D fI = true) (hi : IsInit (initW K fI)) (ht : (prog.main.scope.names.lookup ("super" : Str)).isSome = false) : Xs.BaseT prog K D fI := by
  unfold baseB at h
  obtain ⟨h0, h⟩ := ba h
  obtain ⟨h1, h⟩ := ba h
  obtain ⟨h2, h3⟩ := ba h
  obtain ⟨p1, p2, a, b, c, d, e, f, g, hh, i, j, hv, hl⟩ := hi
  refine ⟨?_, Option.isSome_iff_exists.mp h1, eqO_ok h2, eqO_ok h3, ht⟩
  unfold initW at hv
  split at h0
  · rename_i oc od fd osl ho
    rw [ho] at hv
    obtain ⟨n1, n2, n3, n4, n5, n6, n7, n8, n9, n10, n11, n12, n13, n14, n15⟩ := fd
    dsimp only at hv
    simp only [Option.some.injEq, Prod.mk.injEq] at hv
    obtain ⟨e1, e2, e3, e4, e5⟩ := hv
    subst e1 e2 e3 e4 e5
    simp only [Bool.and_eq_true, decide_eq_true_eq] at h0
    obtain ⟨⟨⟨rfl, rfl⟩, hd⟩, hc⟩ := h0
    split at hd
    · split at hc
      · rename_i x cc cda
        simp only [Bool.and_eq_true, decide_eq_true_eq] at hc
        obtain ⟨⟨⟨rfl, hcd⟩, hcell⟩, hfile⟩ := hc
        refine ⟨oc, od, n10, n11, n12, cda, cc, n14, osl, p1, p2, a, b, c, d, e, f, g, hh, i, j, ho, hcd, hl, ?_, ?_⟩
        · split at hcell
          · rename_i cl cld dd csl hk
            have z := of_decide_eq_true hcell
            subst z
            exact ⟨_, _, _, hk⟩
          · cases hcell
        · split at hfile
          · rename_i ccl cdd vs ccs hk
            split at hfile
            · rename_i file tf hv
              exact ⟨_, _, _, _, _, _, hk, hv, hfile⟩
            · cases hfile
          · cases hfile
      · cases hc
    · cases hd
  · cases h0
/-! ### names -/
def nth (l : List Str) (i : Nat) : Str := l.getD i Str.empty
theorem nth_of {l : List Str} {i : Nat} {x : Str} (h : l[i]? = some x) : nth l i = x := by
  unfold nth
  rw [List.getD_eq_getElem?_getD, h]
  rfl
def tabOf (K : PySem.W.Frag) (fs xs : List Str) : Tab := ⟨K, xs.length, fun i => ga K (nth fs i), fun c => ga K (nth xs c)⟩
def kitB (K : PySem.W.Frag) (xs : List Str) : Bool :=
  (List.range xs.length).all fun d => (List.range xs.length).all (fun c => oB (PySem.W.kitOne K (.ref (ga K (nth xs d))) (.ref (ga K (nth xs c)))) (decide (d = c) || decide (c = 0))) && oB (PySem.W.kitOne K (.ref (ga K (nth xs d))) (.type "ValueError")) true
def kitTB (K : PySem.W.Frag) (xs : List Str) : Bool :=
  (["NoneType", "bool", "int", "str"] : List String).all fun t => (List.range xs.length).all (fun c => oB (PySem.W.kitOne K (.type t) (.ref (ga K (nth xs c)))) false) && oB (PySem.W.kitOne K (.type t) (.type "ValueError")) false
/-- all that is looked at, but the defs' texts -/
def noList (K : PySem.W.Frag) : Bool := K.all fun p => !(p.2.cls == .type "list")
def allB (main : Str) (fs xs : List Str) (K : PySem.W.Frag) : Bool := noList K &&
  (  fs.all (fun x => (Fa.glo x).ok K && PySem.W.keepIn K (.ref (ga K x))) && (xs.all (fun x => (Fa.glo x).ok K) && (bnames.all (fun x => (Fa.free x).ok K) &&
  (baseB main K (ga K (nth xs 0)) (ma K (ga K (nth xs 0)) "__init__") && (xs.all (fun x => errB K (ga K (nth xs 0)) (ma K (ga K (nth xs 0)) "__init__") (ga K x)) && (kitB K xs && kitTB K xs))))))
theorem gd_of {P : Program} {w : World} {K : PySem.W.Frag} {mg : Str → Option Value} {base h : Heap} {fs xs : List Str} (X : K.In h) (G : h.Ns mainGlobals mg) (a : allB P.main.file fs xs K = true) (hi : IsInit (initW K (ma K (ga K (nth xs 0)) "__init__")))
    (ht : (P.main.scope.names.lookup ("super" : Str)).isSome = false) : Gd (tabOf K fs xs) P w K mg base fs xs := by
  unfold allB at a
  obtain ⟨_, a⟩ := ba a
  obtain ⟨a1, a⟩ := ba a
  obtain ⟨a2, a⟩ := ba a
  obtain ⟨a3, a⟩ := ba a
  obtain ⟨a4, a⟩ := ba a
  obtain ⟨a5, a⟩ := ba a
  obtain ⟨a6, a7⟩ := ba a
  have lt : ∀ {c : Nat}, c < xs.length → ∃ x, xs[c]? = some x := fun h => ⟨_, List.getElem?_eq_getElem h⟩
  refine ⟨rfl, fun i x e => ?_, rfl, fun c x e => ?_, fun c hc => ?_, fun x hx => free_ok X G (List.all_eq_true.mp a3 x hx), fun d c hd hc => ?_, fun d hd => ?_, fun t ht => ?_⟩
  · obtain ⟨b1, b2⟩ := ba (List.all_eq_true.mp a1 x (List.mem_of_getElem? e))
    show mg x = some (.ref (ga K (nth fs i))) ∧ PySem.W.keepIn K (.ref (ga K (nth fs i))) = true
    rw [nth_of e]
    exact ⟨glo_ok X G b1, b2⟩
  · show mg x = some (.ref (ga K (nth xs c)))
    rw [nth_of e]
    exact glo_ok X G (List.all_eq_true.mp a2 x (List.mem_of_getElem? e))
  · obtain ⟨x, e⟩ := lt hc
    refine ⟨_, _, baseB_ok a4 hi ht, ?_⟩
    show Xs.ErrT K _ _ (ga K (nth xs c))
    rw [nth_of e]
    exact errB_ok (List.all_eq_true.mp a5 x (List.mem_of_getElem? e))
  · have b := List.all_eq_true.mp a6 d (List.mem_range.mpr hd)
    obtain ⟨b1, b2⟩ := ba b
    exact oB_ok (List.all_eq_true.mp b1 c (List.mem_range.mpr hc))
  · have b := List.all_eq_true.mp a6 d (List.mem_range.mpr hd)
    obtain ⟨b1, b2⟩ := ba b
    exact oB_ok b2
  · have b := List.all_eq_true.mp a7 t ht
    obtain ⟨b1, b2⟩ := ba b
    exact ⟨fun c hc => oB_ok (List.all_eq_true.mp b1 c (List.mem_range.mpr hc)), oB_ok b2⟩
/-! ### the Hook -/
def asV (g : Addr → Option Obj) : Nat → List Addr
  | 0 => [mainGlobals, cStatics]
  | n + 1 => growD g (asV g n)
abbrev AlV : Type := (AlD × Bool) × InW
def obsV (main : Str) (fs xs : List Str) (fn : List DefD) (K : PySem.W.Frag) : AlV := ((obsD [] fn K, allB main fs xs K), initW K (ma K (ga K (nth xs 0)) "__init__"))
def valV (fn : List DefD) (i : InW) : AlV := ((valD fn, true), i)
def obsVG (n : Nat) (main : Str) (fs xs : List Str) (fn : List DefD) (g : Addr → Option Obj) : AlV := obsV main fs xs fn (frG g (asV g n))
def hookV (n : Nat) (main : Str) (fs xs : List Str) (fn : List DefD) (i : InW) : PySem.W.Hook where
  α := AlV
  obs := fun s => obsVG n main fs xs fn s.heap.get?
  val := fun _ => valV fn i
  says := fun _ h => ∃ K : PySem.W.Frag, K.In h ∧ obsV main fs xs fn K = valV fn i
  of := fun _ _ e => ⟨_, frG_in, e⟩
  keeps := fun _ _ _ ⟨K, hK, c⟩ k => ⟨K, PySem.W.Frag.In.keeps hK k, c⟩
theorem obsVG_eq {n : Nat} {main : Str} {fs xs : List Str} {fn : List DefD} {i : InW} {g : Addr → Option Obj} {s : Shared} (h : ∀ a, g a = s.heap.get? a) : obsVG n main fs xs fn g = (hookV n main fs xs fn i).obs s := by
  have e : g = s.heap.get? := funext h
  rw [e] <;> rfl
/-! ### the law is called -/
theorem mem_lookupA {a : Addr} {o : Obj} (l : List (Addr × Obj)) (h : l.lookup a = some o) : (a, o) ∈ l := by
  induction l with
  | nil => exact nomatch h
  | cons p r ih =>
    obtain ⟨k, v⟩ := p
    rw [List.lookup_cons] at h
    by_cases q : a = k
    · rw [beq_iff_eq.mpr q] at h
      have h : some v = some o := h
      rw [q, Option.some.inj h]
      exact List.mem_cons_self
    · rw [beq_eq_false_iff_ne.mpr q] at h
      exact List.mem_cons_of_mem _ (ih h)
theorem mem_lookup_all {K : PySem.W.Frag} {a : Addr} {o : Obj} {p : Addr × Obj → Bool} (h : K.all p = true) (e : K.lookup a = some o) : p (a, o) = true := List.all_eq_true.mp h (a, o) (mem_lookupA K e)
theorem ints_rel {T : Tab} {ρ : Rho} {H : Hp} : ∀ ns : List Int, RelWs T ρ H (ns.map W.int) (ns.map V.int)
  | [] => .nil
  | n :: ns => .cons (.int n) (ints_rel ns)
theorem room_pos : 0 < room := by unfold room; omega
theorem heap0_get (ns : List Int) : (heap0 ns).get 0 = some (.frz (ns.map W.int)) := rfl
theorem law_run {P : Program} {w : World} {K : PySem.W.Frag} {mg mb : Str → Option Value} {fa a : Addr} {s₁ : Shared} {vs : List Value} {ns : List Int} {T : Tab} {call : Call} {n i : Nat}
    (KX : K.In s₁.heap) (hns : s₁.heap.Ns mainGlobals mg) (hb : s₁.heap.Ns builtinsNs mb) (hbb : ∀ x : Str, x ≠ "__name__" → mb x = bootBuiltins x) (hlim : s₁.heap.NoLimit) (hg : s₁.gens = #[])
    (ha : s₁.heap.get? a = some { cls := .type "list", data := .seq vs.toArray }) (hi : IntsAre vs ns) (hl : ns.length ≤ listMax) (hr : Rm n callerA) (hf : T.fa i = fa) (hnl : noList K = true)
    (F : ∀ base : Heap, K.In base → base.Ns mainGlobals mg → FnS P w K mg base CXn T call n i) (hrun : ∃ h', call i [.ref 0] (heap0 ns) = .ok (.bl true) h') :
    codeAny (model P w) callerA (.call (.ref fa) ⟨[.ref a], []⟩) (fun r s' => r = .ok (.ret (.bool true)) ∧ OldK s₁.heap s'.heap ∧ s'.os = s₁.os ∧ AllBare s'.gens) s₁ := by
  have rv := vals_ints hi
  have lenV := hi.length
  have hz : ns.length ≤ sizeLine := Nat.le_trans hl listMax_line
  have hk : K.lookup a = none := by
    cases hk : K.lookup a with
    | none => rfl
    | some o =>
      have e := KX a o hk
      rw [ha] at e; cases e
      have z := mem_lookup_all hnl hk
      simp at z
  generalize hH : (fun b : Addr => if b = a then some (HO.frz { cls := .type "list", data := .seq vs.toArray } (.lst (ns.map V.int))) else none) = H
  have ea : H a = some (HO.frz { cls := .type "list", data := .seq vs.toArray } (.lst (ns.map V.int))) := by rw [← hH]; exact if_pos rfl
  have en : ∀ b, b ≠ a → H b = none := fun b q => by rw [← hH]; exact if_neg q
  have hA : ∀ b, H b ≠ none → b = a := fun b z => by
    by_cases q : b = a
    · exact q
    · exact absurd (en b q) z
  have hok : HOk P w H s₁.heap := fun b u z => by
    by_cases q : b = a
    · subst q
      rw [ea] at z; cases z
      exact ⟨ha, by rw [List.length_map]; exact hz, vs, _, rv, ha⟩
    · rw [en b q] at z; cases z
  have base_of : ∀ {b : Addr} {o : Obj}, s₁.heap.get? b = some o → H b = none → (hidT s₁.heap H).get? b = some o := fun e n => hidT_get e n
  have noA : ∀ {b : Addr} {o : Obj} {es : Array DictEntry} {ep : Nat}, s₁.heap.get? b = some o → o.data = .dict es ep → H b = none := fun {b o es ep} e d => by
    refine en b fun q => ?_
    subst q
    rw [ha] at e; cases e
    have d' : Data.seq vs.toArray _ = Data.dict es ep := d
    cases d'
  have nsK : ∀ {b : Addr} {m : Str → Option Value}, s₁.heap.Ns b m → (hidT s₁.heap H).Ns b m := fun {b m} ⟨o, es, ep, e, d, r⟩ => ⟨o, es, ep, base_of e (noA e d), d, r⟩
  have hKb : K.In (hidT s₁.heap H) := fun b o e => base_of (KX b o e) (en b fun q => by subst q; rw [hk] at e; cases e)
  have hM : Mod K mg (hidT s₁.heap H) := ⟨hKb, nsK hns, ⟨mb, nsK hb, hbb⟩, let ⟨mc, h1, h2⟩ := hlim; ⟨mc, nsK h1, h2⟩⟩
  have e0 : Env0 P w K mg (hidT s₁.heap H) callerA [] s₁ H := ⟨rfl, hM, fun b o e => of_hidT e, Nat.le_of_eq (hidT_size _ _), trivial, fun b hb => absurd (show b ∈ ([] : List Addr) from hb) (by simp), hok, .of_eq hg⟩
  obtain ⟨h', hrun⟩ := hrun
  have R : HRel T (fun n => if n = 0 then some a else none) (heap0 ns) H := {
    cell := fun m b e => by
      by_cases q : m = 0
      · subst q
        rw [if_pos rfl] at e; cases e
        exact ⟨.frz (ns.map W.int), heap0_get ns, _, _, ea, ints_rel ns, by rw [List.length_map]; exact hl⟩
      · rw [if_neg q] at e; cases e
    inj := fun m k b e1 e2 => by
      by_cases q : m = 0
      · by_cases q' : k = 0
        · rw [q, q']
        · rw [if_neg q'] at e2; cases e2
      · rw [if_neg q] at e1; cases e1
    lt := fun m b e => by
      by_cases q : m = 0
      · subst q; exact Nat.lt_succ_self _
      · rw [if_neg q] at e; cases e
    sz := room_pos }
  have run := F _ hKb (nsK hns) callerA [] s₁ H [.ref a] [.ref a] (fun v _ => v = .bl true) (fun _ _ _ => False) hr e0 (.cons rfl .nil) ⟨_, heap0 ns, [.ref 0], R, .cons (.ref (if_pos rfl)) .nil, by
    rw [hrun]
    intro ρ' H' v _ _ q
    cases q
    rfl⟩
  rw [hf] at run
  refine codeAny_mono run fun r s' h => ?_
  cases r with
  | error e => exact h.elim
  | ok fl =>
    cases fl with
    | next => exact False.elim h
    | brk => exact False.elim h
    | cont => exact False.elim h
    | ret u =>
      obtain ⟨v, H', os, bare, un, hok', r', q⟩ := h
      have q' : v = .bl true := q
      subst q'
      obtain rfl : u = Value.bool true := r'
      refine ⟨rfl, OldK.of_keep fun b o e => ?_, os, bare⟩
      by_cases q : b = a
      · subst q
        have z2 := un.frzs b _ _ ea
        obtain ⟨e1, _⟩ := hok b _ ea
        obtain ⟨e2, _⟩ := hok' b _ z2
        rw [e] at e1; cases e1
        exact e2
      · exact un.keep b o e (en b q) (by intro z; exact absurd (show b ∈ ([] : List Addr) from z) (by simp)) (by simp)
theorem rm_caller : Rm 600 callerA := ⟨rfl, rfl, by decide, by decide⟩
theorem fdok {K : PySem.W.Frag} {fs xs : List Str} {f : Addr} {d : Fn} {name qual : Str} {params : Arguments} {body : List Stmt} {scope : Scope} {fd : FuncData} {N ps : List Str} (F : FunD K name qual params body scope [] [] f fd) (S : FnScope N ps scope) (h1 : ps.length = d.pars) (h2 : N.length = d.slots)
    (hb : ∀ (kV doc pm : Value) (an : Option Addr) (cdv ct : Value) (us : List Value), us.length = ps.length → bindArgs (PySem.W.fnOf name qual params body scope .none kV doc pm an cdv ct) ⟨us, []⟩ = pure (ps.zip us)) (hck : chkS d.body ⟨N, scope.names, none, fs, xs⟩ (.ss body) = true) : FdOk K fs xs f d := by
  have b := F.bindsN hb
  obtain ⟨oc, od, dV, kV, doc, pm, an, cdv, ct, osl, e, lk, hcd, _, _⟩ := F.ex
  subst e
  exact ⟨name, qual, params, body, scope, dV, kV, doc, pm, cdv, ct, oc, an, od, osl, N, ps, lk, hcd, S, h1, h2, b, hck⟩
/-- the end of a law row: the law's code runs to True -/
theorem walkV {l : PySem.W.OpenLaw} {n M : Nat} {q : Program} {loose : List Str} {XP : (Str → Option Value) → Heap → Prop} {d : DefRec} {fs xs : List Str} {fn : List DefD} {iw : InW} {Pf : Nat → Option Fn} {F i : Nat}
    (hn : l.most = some n) (hn2 : n ≤ listMax) (hdf : d.params.defaults = []) (hi : IsInit iw) (ht : (l.prog.main.scope.names.lookup ("super" : Str)).isSome = false) (hfi : fs[i]? = some d.name)
    (hd : ∀ K : PySem.W.Frag, (∀ (j : Nat) (D : DefD), fn[j]? = some D → ∃ fd, FunD K D.name D.qual D.params D.body D.scope (D.dvs K) (D.kws K) (fAd K D.at_) fd) → ∀ (j : Nat) (D : Fn), Pf j = some D → FdOk K fs xs ((tabOf K fs xs).fa j) D)
    (hrun : ∀ ns : List Int, ns.length ≤ n → (∀ z ∈ ns, Builtin.Int.intBits z ≤ 1048576) → ∃ h', calls Pf F 600 i [.ref 0] (heap0 ns) = .ok (.bl true) h') :
    PySem.W.WalkO q loose XP (hookV M l.prog.main.file fs xs fn iw).says l.row.toRowW d [] (fun f vs => PySem.call f vs) := by
  refine Att.attach_callB hn hdf fun w s₀ s₁ mg mb fa o pm cd doc a vs ns G Y ho hd' hcd hmg hobj hints hlen hbits hg => ?_
  obtain ⟨K, KX, e⟩ := Y
  have e1 : obsD [] fn K = valD fn := congrArg (fun z : AlV => z.1.1) e
  have e2 : allB l.prog.main.file fs xs K = true := congrArg (fun z : AlV => z.1.2) e
  have e3 : initW K (ma K (ga K (nth xs 0)) "__init__") = iw := congrArg (fun z : AlV => z.2) e
  have gd := gd_of (P := l.prog) (w := w) (base := s₁.heap) KX G.T.g e2 (by rw [e3]; exact hi) ht
  have hfa : (tabOf K fs xs).fa i = fa := by
    have z := (gd.defs i _ hfi).1
    rw [hmg] at z
    cases z
    rfl
  have dOk := hd K fun j D h => SaysD.def_ (fa := []) e1 j h
  exact law_run KX G.T.g G.T.b G.T.builtins G.T.nolimit hg hobj hints (Nat.le_trans hlen hn2) rm_caller hfa (ba e2).1
    (fun base _ _ => calls_n (gd_of (P := l.prog) (w := w) (base := base) KX G.T.g e2 (by rw [e3]; exact hi) ht) dOk 600 i) (hrun ns hlen hbits)
end Iv
namespace Iv
open PySem PySem.Spec PyProof.Rows L2 He
def topS (i : Nat) : Stmt := PySem.Challenge.pw_cutsonasheet_k00_errors_and_what_they_ke.main.body.getD i (.Pass ⟨0, 0, 0, 0⟩)
def fsL : List Str := ["_law_pot", "_law_take", "_law_of", "_law_made_first", "_law_marks_first", "_law_made_second", "_law_marks_second", "_law_made_third", "_law_marks_third", "_law_made", "_law_marks", "_law_is_error_right", "law"]
def xsL : List Str := ["SheetError", "BadSheet", "BadPlace", "BadWorld", "BadNumber", "TooMany", "BadStep", "BadChain", "OneWay", "Tied", "NotLetters", "BadSetting", "NoLetter", "BadTold", "BadNames", "Open", "Parted", "BadName", "TooGreat", "TooDeep", "BadSaying", "Loose", "BadDerivation", "NotOfOnes", "BadWord", "NothingToUndo", "NothingToRedo", "NoStep", "BadText", "BadJournal", "HasCuts"]
/-- _law_pot -/
def c0 : Fn := ⟨5, 2, (.seq (.asg (.one 2) (.ite (.p2 .lt (.var 1) (.p1 .len (.var 0))) (.p2 .get (.var 0) (.var 1)) (.p2 .add (.p2 .add (.p2 .mod (.p1 .sum (.cut (.var 0) false (.k .non) true (.k (.int 1)))) (.k (.int 1000003))) (.p2 .mul (.k (.int 43013)) (.var 1))) (.k (.int 16033))))) (.seq (.asg (.one 3) (.p2 .mul (.p2 .mod (.p1 .int1 (.p1 .abs (.var 2))) (.p2 .pow (.p2 .pow (.k (.int 10)) (.k (.int 60))) (.k (.int 5)))) (.p1 .int1 (.p2 .ge (.p1 .abs (.var 2)) (.p2 .pow (.k (.int 10)) (.k (.int 18))))))) (.seq (.asg (.one 4) (.p2 .mod (.p1 .int1 (.var 2)) (.k (.int 2305843009213693951)))) (.seq (.ret (.lst (.cons (.var 3) (.cons (.p2 .mod (.p1 .int1 (.p2 .add (.p2 .add (.p2 .mul (.var 4) (.k (.int 296049))) (.p2 .mul (.p2 .mul (.k (.int 43019)) (.var 1)) (.var 1))) (.k (.int 13007)))) (.k (.int 2305843009213693921))) (.cons (.k (.int 0)) .nil))))) .skip))))⟩
def n0 : List Str := ["script", "place", "cell", "own", "small"]
abbrev s0 : Stmt := topS 33
/-- _law_take -/
def c1 : Fn := ⟨5, 2, (.seq (.ite (.p2 .gt (.p2 .get (.var 0) (.k (.int 0))) (.k (.int 0))) (.seq (.asg (.one 4) (.p2 .mod (.p1 .int1 (.p2 .get (.var 0) (.k (.int 0)))) (.var 1))) (.seq (.setI (.var 0) (.k (.int 0)) (.p2 .fdiv (.p2 .get (.var 0) (.k (.int 0))) (.var 1))) (.seq (.ret (.var 4)) .skip))) .skip) (.seq (.setI (.var 0) (.k (.int 2)) (.p2 .add (.p2 .get (.var 0) (.k (.int 2))) (.k (.int 1)))) (.seq (.asg (.one 2) (.p2 .get (.lst (.cons (.k (.int 2147483647)) (.cons (.k (.int 2147483629)) (.cons (.k (.int 2147483587)) (.cons (.k (.int 2147483579)) (.cons (.k (.int 2147483563)) .nil)))))) (.p2 .mod (.p1 .int1 (.p2 .get (.var 0) (.k (.int 2)))) (.k (.int 5))))) (.seq (.asg (.one 3) (.p2 .mod (.p1 .int1 (.p2 .pow (.p1 .int1 (.p2 .add (.p2 .add (.p2 .get (.var 0) (.k (.int 1))) (.p2 .mul (.p2 .mul (.k (.int 223014)) (.p2 .get (.var 0) (.k (.int 2)))) (.p2 .get (.var 0) (.k (.int 2))))) (.k (.int 9103)))) (.k (.int 3)))) (.var 2))) (.seq (.asg (.one 3) (.p2 .mod (.p1 .int1 (.p2 .mul (.var 3) (.p2 .add (.p2 .mod (.p1 .int1 (.var 3)) (.k (.int 39019))) (.p2 .mul (.k (.int 6101)) (.p2 .get (.var 0) (.k (.int 2))))))) (.k (.int 2305843009213693907)))) (.seq (.ret (.p2 .mod (.p1 .int1 (.p2 .fdiv (.var 3) (.k (.int 13109)))) (.var 1))) .skip))))))⟩
def n1 : List Str := ["pot", "upto", "prime", "blend", "digit"]
abbrev s1 : Stmt := topS 34
/-- _law_of -/
def c2 : Fn := ⟨2, 2, (.seq (.ret (.p2 .get (.var 1) (.call 1 (.cons (.var 0) (.cons (.p1 .len (.var 1)) .nil))))) .skip)⟩
def n2 : List Str := ["pot", "some"]
abbrev s2 : Stmt := topS 35
/-- _law_made_first -/
def c3 : Fn := ⟨2, 2, (.seq (.ite (.p2 .eq (.var 0) (.k (.int 0))) (.seq (.ret (.mkx 1 (.var 1))) .skip) .skip) (.seq (.ite (.p2 .eq (.var 0) (.k (.int 1))) (.seq (.ret (.mkx 2 (.var 1))) .skip) .skip) (.seq (.ite (.p2 .eq (.var 0) (.k (.int 2))) (.seq (.ret (.mkx 3 (.var 1))) .skip) .skip) (.seq (.ite (.p2 .eq (.var 0) (.k (.int 3))) (.seq (.ret (.mkx 4 (.var 1))) .skip) .skip) (.seq (.ite (.p2 .eq (.var 0) (.k (.int 4))) (.seq (.ret (.mkx 5 (.var 1))) .skip) .skip) (.seq (.ite (.p2 .eq (.var 0) (.k (.int 5))) (.seq (.ret (.mkx 6 (.var 1))) .skip) .skip) (.seq (.ite (.p2 .eq (.var 0) (.k (.int 6))) (.seq (.ret (.mkx 7 (.var 1))) .skip) .skip) (.seq (.ite (.p2 .eq (.var 0) (.k (.int 7))) (.seq (.ret (.mkx 8 (.var 1))) .skip) .skip) (.seq (.ite (.p2 .eq (.var 0) (.k (.int 8))) (.seq (.ret (.mkx 9 (.var 1))) .skip) .skip) (.seq (.ret (.mkx 10 (.var 1))) .skip))))))))))⟩
def n3 : List Str := ["at", "value"]
abbrev s3 : Stmt := topS 38
/-- _law_marks_first -/
def c4 : Fn := ⟨2, 1, (.seq (.asg (.one 1) (.lst .nil)) (.seq (.expr (.mt .append (.var 1) (.cons (.p1 (.isiX 1) (.var 0)) .nil))) (.seq (.expr (.mt .append (.var 1) (.cons (.p1 (.isiX 2) (.var 0)) .nil))) (.seq (.expr (.mt .append (.var 1) (.cons (.p1 (.isiX 3) (.var 0)) .nil))) (.seq (.expr (.mt .append (.var 1) (.cons (.p1 (.isiX 4) (.var 0)) .nil))) (.seq (.expr (.mt .append (.var 1) (.cons (.p1 (.isiX 5) (.var 0)) .nil))) (.seq (.expr (.mt .append (.var 1) (.cons (.p1 (.isiX 6) (.var 0)) .nil))) (.seq (.expr (.mt .append (.var 1) (.cons (.p1 (.isiX 7) (.var 0)) .nil))) (.seq (.expr (.mt .append (.var 1) (.cons (.p1 (.isiX 8) (.var 0)) .nil))) (.seq (.expr (.mt .append (.var 1) (.cons (.p1 (.isiX 9) (.var 0)) .nil))) (.seq (.expr (.mt .append (.var 1) (.cons (.p1 (.isiX 10) (.var 0)) .nil))) (.seq (.ret (.var 1)) .skip))))))))))))⟩
def n4 : List Str := ["caught", "marks"]
abbrev s4 : Stmt := topS 39
/-- _law_made_second -/
def c5 : Fn := ⟨2, 2, (.seq (.ite (.p2 .eq (.var 0) (.k (.int 0))) (.seq (.ret (.mkx 11 (.var 1))) .skip) .skip) (.seq (.ite (.p2 .eq (.var 0) (.k (.int 1))) (.seq (.ret (.mkx 12 (.var 1))) .skip) .skip) (.seq (.ite (.p2 .eq (.var 0) (.k (.int 2))) (.seq (.ret (.mkx 13 (.var 1))) .skip) .skip) (.seq (.ite (.p2 .eq (.var 0) (.k (.int 3))) (.seq (.ret (.mkx 14 (.var 1))) .skip) .skip) (.seq (.ite (.p2 .eq (.var 0) (.k (.int 4))) (.seq (.ret (.mkx 15 (.var 1))) .skip) .skip) (.seq (.ite (.p2 .eq (.var 0) (.k (.int 5))) (.seq (.ret (.mkx 16 (.var 1))) .skip) .skip) (.seq (.ite (.p2 .eq (.var 0) (.k (.int 6))) (.seq (.ret (.mkx 17 (.var 1))) .skip) .skip) (.seq (.ite (.p2 .eq (.var 0) (.k (.int 7))) (.seq (.ret (.mkx 18 (.var 1))) .skip) .skip) (.seq (.ite (.p2 .eq (.var 0) (.k (.int 8))) (.seq (.ret (.mkx 19 (.var 1))) .skip) .skip) (.seq (.ret (.mkx 20 (.var 1))) .skip))))))))))⟩
def n5 : List Str := ["at", "value"]
abbrev s5 : Stmt := topS 40
/-- _law_marks_second -/
def c6 : Fn := ⟨2, 1, (.seq (.asg (.one 1) (.lst .nil)) (.seq (.expr (.mt .append (.var 1) (.cons (.p1 (.isiX 11) (.var 0)) .nil))) (.seq (.expr (.mt .append (.var 1) (.cons (.p1 (.isiX 12) (.var 0)) .nil))) (.seq (.expr (.mt .append (.var 1) (.cons (.p1 (.isiX 13) (.var 0)) .nil))) (.seq (.expr (.mt .append (.var 1) (.cons (.p1 (.isiX 14) (.var 0)) .nil))) (.seq (.expr (.mt .append (.var 1) (.cons (.p1 (.isiX 15) (.var 0)) .nil))) (.seq (.expr (.mt .append (.var 1) (.cons (.p1 (.isiX 16) (.var 0)) .nil))) (.seq (.expr (.mt .append (.var 1) (.cons (.p1 (.isiX 17) (.var 0)) .nil))) (.seq (.expr (.mt .append (.var 1) (.cons (.p1 (.isiX 18) (.var 0)) .nil))) (.seq (.expr (.mt .append (.var 1) (.cons (.p1 (.isiX 19) (.var 0)) .nil))) (.seq (.expr (.mt .append (.var 1) (.cons (.p1 (.isiX 20) (.var 0)) .nil))) (.seq (.ret (.var 1)) .skip))))))))))))⟩
def n6 : List Str := ["caught", "marks"]
abbrev s6 : Stmt := topS 41
/-- _law_made_third -/
def c7 : Fn := ⟨2, 2, (.seq (.ite (.p2 .eq (.var 0) (.k (.int 0))) (.seq (.ret (.mkx 21 (.var 1))) .skip) .skip) (.seq (.ite (.p2 .eq (.var 0) (.k (.int 1))) (.seq (.ret (.mkx 22 (.var 1))) .skip) .skip) (.seq (.ite (.p2 .eq (.var 0) (.k (.int 2))) (.seq (.ret (.mkx 23 (.var 1))) .skip) .skip) (.seq (.ite (.p2 .eq (.var 0) (.k (.int 3))) (.seq (.ret (.mkx 24 (.var 1))) .skip) .skip) (.seq (.ite (.p2 .eq (.var 0) (.k (.int 4))) (.seq (.ret (.mkx 25 (.var 1))) .skip) .skip) (.seq (.ite (.p2 .eq (.var 0) (.k (.int 5))) (.seq (.ret (.mkx 26 (.var 1))) .skip) .skip) (.seq (.ite (.p2 .eq (.var 0) (.k (.int 6))) (.seq (.ret (.mkx 27 (.var 1))) .skip) .skip) (.seq (.ite (.p2 .eq (.var 0) (.k (.int 7))) (.seq (.ret (.mkx 28 (.var 1))) .skip) .skip) (.seq (.ite (.p2 .eq (.var 0) (.k (.int 8))) (.seq (.ret (.mkx 29 (.var 1))) .skip) .skip) (.seq (.ret (.mkx 30 (.var 1))) .skip))))))))))⟩
def n7 : List Str := ["at", "value"]
abbrev s7 : Stmt := topS 42
/-- _law_marks_third -/
def c8 : Fn := ⟨2, 1, (.seq (.asg (.one 1) (.lst .nil)) (.seq (.expr (.mt .append (.var 1) (.cons (.p1 (.isiX 21) (.var 0)) .nil))) (.seq (.expr (.mt .append (.var 1) (.cons (.p1 (.isiX 22) (.var 0)) .nil))) (.seq (.expr (.mt .append (.var 1) (.cons (.p1 (.isiX 23) (.var 0)) .nil))) (.seq (.expr (.mt .append (.var 1) (.cons (.p1 (.isiX 24) (.var 0)) .nil))) (.seq (.expr (.mt .append (.var 1) (.cons (.p1 (.isiX 25) (.var 0)) .nil))) (.seq (.expr (.mt .append (.var 1) (.cons (.p1 (.isiX 26) (.var 0)) .nil))) (.seq (.expr (.mt .append (.var 1) (.cons (.p1 (.isiX 27) (.var 0)) .nil))) (.seq (.expr (.mt .append (.var 1) (.cons (.p1 (.isiX 28) (.var 0)) .nil))) (.seq (.expr (.mt .append (.var 1) (.cons (.p1 (.isiX 29) (.var 0)) .nil))) (.seq (.expr (.mt .append (.var 1) (.cons (.p1 (.isiX 30) (.var 0)) .nil))) (.seq (.ret (.var 1)) .skip))))))))))))⟩
def n8 : List Str := ["caught", "marks"]
abbrev s8 : Stmt := topS 43
/-- _law_made -/
def c9 : Fn := ⟨2, 2, (.seq (.ite (.p2 .lt (.var 0) (.k (.int 10))) (.seq (.ret (.call 3 (.cons (.var 0) (.cons (.var 1) .nil)))) .skip) .skip) (.seq (.ite (.p2 .lt (.var 0) (.k (.int 20))) (.seq (.ret (.call 5 (.cons (.p2 .sub (.var 0) (.k (.int 10))) (.cons (.var 1) .nil)))) .skip) .skip) (.seq (.ret (.call 7 (.cons (.p2 .sub (.var 0) (.k (.int 20))) (.cons (.var 1) .nil)))) .skip)))⟩
def n9 : List Str := ["at", "value"]
abbrev s9 : Stmt := topS 44
/-- _law_marks -/
def c10 : Fn := ⟨1, 1, (.seq (.ret (.p2 .add (.p2 .add (.call 4 (.cons (.var 0) .nil)) (.call 6 (.cons (.var 0) .nil))) (.call 8 (.cons (.var 0) .nil)))) .skip)⟩
def n10 : List Str := ["caught"]
abbrev s10 : Stmt := topS 45
/-- _law_is_error_right -/
def c11 : Fn := ⟨5, 2, (.seq (.asg (.one 2) (.call 2 (.cons (.var 0) (.cons (.lst (.cons (.k .non) (.cons (.k (.int 0)) (.cons (.k (.str [120])) (.cons (.tup .nil) (.cons (.tup (.cons (.k (.str [97])) (.cons (.tup (.cons (.k (.int 1)) (.cons (.k (.int 2)) .nil))) .nil))) (.cons (.k (.bl true)) (.cons (.lst .nil) (.cons (.dic (.cons (.k (.str [109])) (.cons (.k .non) .nil))) (.cons (.p2 .pow (.k (.int 10)) (.k (.int 40))) (.cons (.tup (.cons (.tup .nil) (.cons (.k (.str [])) .nil))) .nil))))))))))) .nil)))) (.seq (.asg (.one 3) (.call 9 (.cons (.var 1) (.cons (.var 2) .nil)))) (.seq (.ite (.or (.not (.p1 (.isiX 0) (.var 3))) (.not (.p1 .isiV (.var 3)))) (.seq (.ret (.k (.bl false))) .skip) .skip) (.seq (.ret (.and (.p2 .eq (.call 10 (.cons (.var 3) .nil)) (.lc [4] (.one 4) .rng (.k (.int 30)) (.k .non) false (.k .non) (.p2 .eq (.var 4) (.var 1)))) (.p2 .eq (.p1 .repr (.xval (.var 3))) (.p1 .repr (.var 2))))) .skip))))⟩
def n11 : List Str := ["pot", "at", "value", "error", "place"]
abbrev s11 : Stmt := topS 46
/-- law -/
def c12 : Fn := ⟨5, 1, (.seq (.asg (.one 1) (.call 0 (.cons (.var 0) (.cons (.k (.int 0)) .nil)))) (.seq (.ite (.not (.p1 .all (.lc [4] (.one 4) .rng (.k (.int 30)) (.k .non) false (.k .non) (.call 11 (.cons (.var 1) (.cons (.var 4) .nil)))))) (.seq (.ret (.k (.bl false))) .skip) .skip) (.seq (.for (.one 2) .seq (.tup (.cons (.k .non) (.cons (.tup (.cons (.k (.int 1)) (.cons (.k (.str [97])) .nil))) (.cons (.k (.str [120])) (.cons (.p1 .neg (.k (.int 3))) (.cons (.tup (.cons (.tup .nil) (.cons (.tup (.cons (.k (.int 2)) .nil)) .nil))) .nil)))))) (.k .non) (.seq (.asg (.one 3) (.mkx 0 (.var 2))) (.seq (.ite (.or (.p2 .ne (.xval (.var 3)) (.var 2)) (.or (.not (.p1 .isiV (.var 3))) (.p1 (.isiX 1) (.var 3)))) (.seq (.ret (.k (.bl false))) .skip) .skip) .skip))) (.seq (.ret (.k (.bl true))) .skip))))⟩
def n12 : List Str := ["script", "pot", "value", "told", "at"]
abbrev s12 : Stmt := topS 47
def Pf : Nat → Option Fn
  | 0 => some c0
  | 1 => some c1
  | 2 => some c2
  | 3 => some c3
  | 4 => some c4
  | 5 => some c5
  | 6 => some c6
  | 7 => some c7
  | 8 => some c8
  | 9 => some c9
  | 10 => some c10
  | 11 => some c11
  | 12 => some c12
  | _ => none
def d0 : DefD := ⟨("_law_pot", none), "_law_pot", "_law_pot", defArgs s0, defBody s0, defScope s0, [], []⟩
def d1 : DefD := ⟨("_law_take", none), "_law_take", "_law_take", defArgs s1, defBody s1, defScope s1, [], []⟩
def d2 : DefD := ⟨("_law_of", none), "_law_of", "_law_of", defArgs s2, defBody s2, defScope s2, [], []⟩
def d3 : DefD := ⟨("_law_made_first", none), "_law_made_first", "_law_made_first", defArgs s3, defBody s3, defScope s3, [], []⟩
def d4 : DefD := ⟨("_law_marks_first", none), "_law_marks_first", "_law_marks_first", defArgs s4, defBody s4, defScope s4, [], []⟩
def d5 : DefD := ⟨("_law_made_second", none), "_law_made_second", "_law_made_second", defArgs s5, defBody s5, defScope s5, [], []⟩
def d6 : DefD := ⟨("_law_marks_second", none), "_law_marks_second", "_law_marks_second", defArgs s6, defBody s6, defScope s6, [], []⟩
def d7 : DefD := ⟨("_law_made_third", none), "_law_made_third", "_law_made_third", defArgs s7, defBody s7, defScope s7, [], []⟩
def d8 : DefD := ⟨("_law_marks_third", none), "_law_marks_third", "_law_marks_third", defArgs s8, defBody s8, defScope s8, [], []⟩
def d9 : DefD := ⟨("_law_made", none), "_law_made", "_law_made", defArgs s9, defBody s9, defScope s9, [], []⟩
def d10 : DefD := ⟨("_law_marks", none), "_law_marks", "_law_marks", defArgs s10, defBody s10, defScope s10, [], []⟩
def d11 : DefD := ⟨("_law_is_error_right", none), "_law_is_error_right", "_law_is_error_right", defArgs s11, defBody s11, defScope s11, [], []⟩
def d12 : DefD := ⟨("law", none), "law", "law", defArgs s12, defBody s12, defScope s12, [], []⟩
def fnL : List DefD := [d0, d1, d2, d3, d4, d5, d6, d7, d8, d9, d10, d11, d12]
theorem k0 : chkS c0.body ⟨n0, (defScope s0).names, none, fsL, xsL⟩ (.ss (defBody s0)) = true := by kernel_rfl
theorem o0 {K : PySem.W.Frag} {fd : FuncData} {a : Addr} (F : FunD K d0.name d0.qual d0.params d0.body d0.scope (d0.dvs K) (d0.kws K) a fd) : FdOk K fsL xsL a c0 :=
  fdok (ps := ["script", "place"]) (N := n0) F ⟨rfl, rfl, rfl, by decide +kernel, rfl, by decide +kernel, by decide +kernel⟩ rfl rfl (fun _ _ _ _ _ _ us hl => match us, hl with | [_, _], _ => rfl) k0
theorem k1 : chkS c1.body ⟨n1, (defScope s1).names, none, fsL, xsL⟩ (.ss (defBody s1)) = true := by kernel_rfl
theorem o1 {K : PySem.W.Frag} {fd : FuncData} {a : Addr} (F : FunD K d1.name d1.qual d1.params d1.body d1.scope (d1.dvs K) (d1.kws K) a fd) : FdOk K fsL xsL a c1 :=
  fdok (ps := ["pot", "upto"]) (N := n1) F ⟨rfl, rfl, rfl, by decide +kernel, rfl, by decide +kernel, by decide +kernel⟩ rfl rfl (fun _ _ _ _ _ _ us hl => match us, hl with | [_, _], _ => rfl) k1
theorem k2 : chkS c2.body ⟨n2, (defScope s2).names, none, fsL, xsL⟩ (.ss (defBody s2)) = true := by kernel_rfl
theorem o2 {K : PySem.W.Frag} {fd : FuncData} {a : Addr} (F : FunD K d2.name d2.qual d2.params d2.body d2.scope (d2.dvs K) (d2.kws K) a fd) : FdOk K fsL xsL a c2 :=
  fdok (ps := ["pot", "some"]) (N := n2) F ⟨rfl, rfl, rfl, by decide +kernel, rfl, by decide +kernel, by decide +kernel⟩ rfl rfl (fun _ _ _ _ _ _ us hl => match us, hl with | [_, _], _ => rfl) k2
theorem k3 : chkS c3.body ⟨n3, (defScope s3).names, none, fsL, xsL⟩ (.ss (defBody s3)) = true := by kernel_rfl
theorem o3 {K : PySem.W.Frag} {fd : FuncData} {a : Addr} (F : FunD K d3.name d3.qual d3.params d3.body d3.scope (d3.dvs K) (d3.kws K) a fd) : FdOk K fsL xsL a c3 :=
  fdok (ps := ["at", "value"]) (N := n3) F ⟨rfl, rfl, rfl, by decide +kernel, rfl, by decide +kernel, by decide +kernel⟩ rfl rfl (fun _ _ _ _ _ _ us hl => match us, hl with | [_, _], _ => rfl) k3
theorem k4 : chkS c4.body ⟨n4, (defScope s4).names, none, fsL, xsL⟩ (.ss (defBody s4)) = true := by kernel_rfl
theorem o4 {K : PySem.W.Frag} {fd : FuncData} {a : Addr} (F : FunD K d4.name d4.qual d4.params d4.body d4.scope (d4.dvs K) (d4.kws K) a fd) : FdOk K fsL xsL a c4 :=
  fdok (ps := ["caught"]) (N := n4) F ⟨rfl, rfl, rfl, by decide +kernel, rfl, by decide +kernel, by decide +kernel⟩ rfl rfl (fun _ _ _ _ _ _ us hl => match us, hl with | [_], _ => rfl) k4
theorem k5 : chkS c5.body ⟨n5, (defScope s5).names, none, fsL, xsL⟩ (.ss (defBody s5)) = true := by kernel_rfl
theorem o5 {K : PySem.W.Frag} {fd : FuncData} {a : Addr} (F : FunD K d5.name d5.qual d5.params d5.body d5.scope (d5.dvs K) (d5.kws K) a fd) : FdOk K fsL xsL a c5 :=
  fdok (ps := ["at", "value"]) (N := n5) F ⟨rfl, rfl, rfl, by decide +kernel, rfl, by decide +kernel, by decide +kernel⟩ rfl rfl (fun _ _ _ _ _ _ us hl => match us, hl with | [_, _], _ => rfl) k5
theorem k6 : chkS c6.body ⟨n6, (defScope s6).names, none, fsL, xsL⟩ (.ss (defBody s6)) = true := by kernel_rfl
theorem o6 {K : PySem.W.Frag} {fd : FuncData} {a : Addr} (F : FunD K d6.name d6.qual d6.params d6.body d6.scope (d6.dvs K) (d6.kws K) a fd) : FdOk K fsL xsL a c6 :=
  fdok (ps := ["caught"]) (N := n6) F ⟨rfl, rfl, rfl, by decide +kernel, rfl, by decide +kernel, by decide +kernel⟩ rfl rfl (fun _ _ _ _ _ _ us hl => match us, hl with | [_], _ => rfl) k6
theorem k7 : chkS c7.body ⟨n7, (defScope s7).names, none, fsL, xsL⟩ (.ss (defBody s7)) = true := by kernel_rfl
theorem o7 {K : PySem.W.Frag} {fd : FuncData} {a : Addr} (F : FunD K d7.name d7.qual d7.params d7.body d7.scope (d7.dvs K) (d7.kws K) a fd) : FdOk K fsL xsL a c7 :=
  fdok (ps := ["at", "value"]) (N := n7) F ⟨rfl, rfl, rfl, by decide +kernel, rfl, by decide +kernel, by decide +kernel⟩ rfl rfl (fun _ _ _ _ _ _ us hl => match us, hl with | [_, _], _ => rfl) k7
theorem k8 : chkS c8.body ⟨n8, (defScope s8).names, none, fsL, xsL⟩ (.ss (defBody s8)) = true := by kernel_rfl
theorem o8 {K : PySem.W.Frag} {fd : FuncData} {a : Addr} (F : FunD K d8.name d8.qual d8.params d8.body d8.scope (d8.dvs K) (d8.kws K) a fd) : FdOk K fsL xsL a c8 :=
  fdok (ps := ["caught"]) (N := n8) F ⟨rfl, rfl, rfl, by decide +kernel, rfl, by decide +kernel, by decide +kernel⟩ rfl rfl (fun _ _ _ _ _ _ us hl => match us, hl with | [_], _ => rfl) k8
theorem k9 : chkS c9.body ⟨n9, (defScope s9).names, none, fsL, xsL⟩ (.ss (defBody s9)) = true := by kernel_rfl
theorem o9 {K : PySem.W.Frag} {fd : FuncData} {a : Addr} (F : FunD K d9.name d9.qual d9.params d9.body d9.scope (d9.dvs K) (d9.kws K) a fd) : FdOk K fsL xsL a c9 :=
  fdok (ps := ["at", "value"]) (N := n9) F ⟨rfl, rfl, rfl, by decide +kernel, rfl, by decide +kernel, by decide +kernel⟩ rfl rfl (fun _ _ _ _ _ _ us hl => match us, hl with | [_, _], _ => rfl) k9
theorem k10 : chkS c10.body ⟨n10, (defScope s10).names, none, fsL, xsL⟩ (.ss (defBody s10)) = true := by kernel_rfl
theorem o10 {K : PySem.W.Frag} {fd : FuncData} {a : Addr} (F : FunD K d10.name d10.qual d10.params d10.body d10.scope (d10.dvs K) (d10.kws K) a fd) : FdOk K fsL xsL a c10 :=
  fdok (ps := ["caught"]) (N := n10) F ⟨rfl, rfl, rfl, by decide +kernel, rfl, by decide +kernel, by decide +kernel⟩ rfl rfl (fun _ _ _ _ _ _ us hl => match us, hl with | [_], _ => rfl) k10
theorem k11 : chkS c11.body ⟨n11, (defScope s11).names, none, fsL, xsL⟩ (.ss (defBody s11)) = true := by kernel_rfl
theorem o11 {K : PySem.W.Frag} {fd : FuncData} {a : Addr} (F : FunD K d11.name d11.qual d11.params d11.body d11.scope (d11.dvs K) (d11.kws K) a fd) : FdOk K fsL xsL a c11 :=
  fdok (ps := ["pot", "at"]) (N := n11) F ⟨rfl, rfl, rfl, by decide +kernel, rfl, by decide +kernel, by decide +kernel⟩ rfl rfl (fun _ _ _ _ _ _ us hl => match us, hl with | [_, _], _ => rfl) k11
theorem k12 : chkS c12.body ⟨n12, (defScope s12).names, none, fsL, xsL⟩ (.ss (defBody s12)) = true := by kernel_rfl
theorem o12 {K : PySem.W.Frag} {fd : FuncData} {a : Addr} (F : FunD K d12.name d12.qual d12.params d12.body d12.scope (d12.dvs K) (d12.kws K) a fd) : FdOk K fsL xsL a c12 :=
  fdok (ps := ["script"]) (N := n12) F ⟨rfl, rfl, rfl, by decide +kernel, rfl, by decide +kernel, by decide +kernel⟩ rfl rfl (fun _ _ _ _ _ _ us hl => match us, hl with | [_], _ => rfl) k12
theorem allDefs (K : PySem.W.Frag) (h : ∀ (j : Nat) (D : DefD), fnL[j]? = some D → ∃ fd, FunD K D.name D.qual D.params D.body D.scope (D.dvs K) (D.kws K) (fAd K D.at_) fd) : ∀ (j : Nat) (D : Fn), Pf j = some D → FdOk K fsL xsL ((tabOf K fsL xsL).fa j) D := by
  intro j D e
  match j, e with
  | 0, e => cases e; obtain ⟨fd, F⟩ := h 0 d0 rfl; exact o0 F
  | 1, e => cases e; obtain ⟨fd, F⟩ := h 1 d1 rfl; exact o1 F
  | 2, e => cases e; obtain ⟨fd, F⟩ := h 2 d2 rfl; exact o2 F
  | 3, e => cases e; obtain ⟨fd, F⟩ := h 3 d3 rfl; exact o3 F
  | 4, e => cases e; obtain ⟨fd, F⟩ := h 4 d4 rfl; exact o4 F
  | 5, e => cases e; obtain ⟨fd, F⟩ := h 5 d5 rfl; exact o5 F
  | 6, e => cases e; obtain ⟨fd, F⟩ := h 6 d6 rfl; exact o6 F
  | 7, e => cases e; obtain ⟨fd, F⟩ := h 7 d7 rfl; exact o7 F
  | 8, e => cases e; obtain ⟨fd, F⟩ := h 8 d8 rfl; exact o8 F
  | 9, e => cases e; obtain ⟨fd, F⟩ := h 9 d9 rfl; exact o9 F
  | 10, e => cases e; obtain ⟨fd, F⟩ := h 10 d10 rfl; exact o10 F
  | 11, e => cases e; obtain ⟨fd, F⟩ := h 11 d11 rfl; exact o11 F
  | 12, e => cases e; obtain ⟨fd, F⟩ := h 12 d12 rfl; exact o12 F
  | n + 13, e => cases e
/-- the law is def 12; the top has it at 47 -/
def lawI : Nat := 12
def lawT : Nat := 47
def looseL : List Str := (["SheetError", "BadSheet", "BadPlace", "BadWorld", "BadNumber", "TooMany", "BadStep", "BadChain", "OneWay", "Tied", "NotLetters", "BadSetting", "NoLetter", "BadTold", "BadNames", "Open", "Parted", "BadName", "TooGreat", "TooDeep", "BadSaying", "Loose", "BadDerivation", "NotOfOnes", "BadWord"] : List Str) ++ (["NothingToUndo", "NothingToRedo", "NoStep", "BadText", "BadJournal", "HasCuts", "_law_pot", "_law_take", "_law_of", "_law_some", "_law_cells", "_law_made_first", "_law_marks_first", "_law_made_second", "_law_marks_second", "_law_made_third", "_law_marks_third", "_law_made", "_law_marks", "_law_is_error_right"] : List Str)

end Iv
namespace Iv
theorem take_big (n : Nat) (h : Hv) (p : Nat) (a b c u : Int) (hg : h.get p = some (.lst [.int a, .int b, .int c])) (hp : p < room) (ha : 0 < a) (hu : 0 < u) (hu2 : u < 1073741824) :
    calls Pf 1000 (n + 1) 1 [.ref p, .int u] h = .ok (.int (a % u)) (h.put p (.lst [.int (a / u), .int b, .int c])) := by
  have e0 : (0 : Int) ≤ 0 := by decide
  simp [calls, Pf, c1, evS, evE, RE.bind, RS.of, p1, p2, slot, store, pad, itemsOf, cellOf, hg, atW, truth, setIW, assignG, ha, hu, hu2]
theorem atW_ok (ws : List W) (i : Int) (h0 : 0 ≤ i) (w : W) (h : ws[i.toNat]? = some w) : atW ws i = some w := by
  unfold atW; rw [if_pos h0]; exact h
theorem atW0 (a : W) (l : List W) : atW (a :: l) 0 = some a := rfl
theorem atW1 (a b : W) (l : List W) : atW (a :: b :: l) 1 = some b := rfl
theorem atW2 (a b c : W) (l : List W) : atW (a :: b :: c :: l) 2 = some c := rfl
theorem prime_at (c : Int) : ∃ q : Int, 0 < q ∧ q < 2147483648 ∧ atW [W.int 2147483647, .int 2147483629, .int 2147483587, .int 2147483579, .int 2147483563] (c % 5) = some (.int q) := by
  have h1 : 0 ≤ c % 5 := Int.emod_nonneg c (by decide)
  have h2 : c % 5 < 5 := Int.emod_lt_of_pos c (by decide)
  have : c % 5 = 0 ∨ c % 5 = 1 ∨ c % 5 = 2 ∨ c % 5 = 3 ∨ c % 5 = 4 := by omega
  rcases this with e | e | e | e | e <;> rw [e]
  · exact ⟨2147483647, by decide, by decide, rfl⟩
  · exact ⟨2147483629, by decide, by decide, rfl⟩
  · exact ⟨2147483587, by decide, by decide, rfl⟩
  · exact ⟨2147483579, by decide, by decide, rfl⟩
  · exact ⟨2147483563, by decide, by decide, rfl⟩
theorem small64_of {i : Int} (h1 : -(2 ^ 64) < i) (h2 : i < 2 ^ 64) : small64 i = true := by
  unfold small64
  rw [decide_eq_true h1, decide_eq_true h2]
  rfl
theorem take_small (n : Nat) (h : Hv) (p : Nat) (b c u : Int) (hg : h.get p = some (.lst [.int 0, .int b, .int c])) (hp : p < h.n) (hn : h.n < room) (hb : 0 ≤ b) (hb2 : b < 2305843009213693951) (hc : 0 ≤ c) (hc2 : c < 100) (hu : 0 < u) (hu2 : u < 1073741824) :
    ∃ i : Int, 0 ≤ i ∧ i < u ∧ ∃ ws, calls Pf 1000 (n + 1) 1 [.ref p, .int u] h = .ok (.int i) ((h.put p (.lst [.int 0, .int b, .int (c + 1)])).new (.lst ws)) := by
  obtain ⟨q, q1, q2, hq⟩ := prime_at (c + 1)
  have hp' : p < room := Nat.lt_trans hp hn
  have g1 : (h.put p (.lst [.int 0, .int b, .int (c + 1)])).get p = some (.lst [.int 0, .int b, .int (c + 1)]) := by rw [Hv.get_put hp', if_pos rfl]
  have nn : (h.put p (.lst [.int 0, .int b, .int (c + 1)])).n = h.n := rfl
  have g2 : ∀ ws, ((h.put p (.lst [.int 0, .int b, .int (c + 1)])).new (.lst ws)).get p = some (.lst [.int 0, .int b, .int (c + 1)]) := fun ws => by
    rw [Hv.get_new (by rw [nn]; exact hn), nn, if_neg (Nat.ne_of_lt hp), g1]
  have hnb : Nat.blt h.n room = true := Nat.ble_eq_true_of_le hn
  have bl : Nat.ble 5 listMax = true := by decide
  have gl : ((h.put p (.lst [.int 0, .int b, .int (c + 1)])).new (.lst [W.int 2147483647, .int 2147483629, .int 2147483587, .int 2147483579, .int 2147483563])).get h.n = some (.lst [W.int 2147483647, .int 2147483629, .int 2147483587, .int 2147483579, .int 2147483563]) := by
    rw [Hv.get_new (by rw [nn]; exact hn), nn, if_pos rfl]
  have k1 : 0 ≤ (c + 1) * (c + 1) ∧ (c + 1) * (c + 1) ≤ 100 * 100 := ⟨Int.mul_nonneg (by omega) (by omega), Int.mul_le_mul (by omega) (by omega) (by omega) (by omega)⟩
  have k2 : 223014 * (c + 1) * (c + 1) = 223014 * ((c + 1) * (c + 1)) := Int.mul_assoc _ _ _
  have hX : (b + 223014 * (c + 1) * (c + 1) + 9103).natAbs < 2 ^ 1000 := by
    have z : (b + 223014 * (c + 1) * (c + 1) + 9103).natAbs < 2 ^ 64 := by rw [k2]; omega
    exact Nat.lt_of_lt_of_le z (Nat.pow_le_pow_right (by decide) (by decide))
  generalize hx : (b + 223014 * (c + 1) * (c + 1) + 9103) = x at hX
  have y1 : 0 ≤ x ^ 3 % q := Int.emod_nonneg _ (by omega)
  have y2 : x ^ 3 % q < q := Int.emod_lt_of_pos _ q1
  have s1 : small64 223014 = true := by decide
  have s2 : small64 (223014 * (c + 1)) = true := small64_of (by omega) (by omega)
  have s3 : small64 6101 = true := by decide
  have s4 : small64 (x ^ 3 % q) = true := small64_of (by omega) (by omega)
  refine ⟨x ^ 3 % q * (x ^ 3 % q % 39019 + 6101 * (c + 1)) % 2305843009213693907 / 13109 % u, Int.emod_nonneg _ (by omega), Int.emod_lt_of_pos _ hu, [W.int 2147483647, .int 2147483629, .int 2147483587, .int 2147483579, .int 2147483563], ?_⟩
  have d3 : Int.toNat 3 = 3 := rfl
  simp [calls, Pf, c1, evS, evE, RE.bind, RS.of, p1, p2, slot, store, pad, itemsOf, cellOf, hg, truth, setIW, assignG, hu, hu2, g1, g2, newL, nn, hnb, listOfW, bl, gl, hq, atW0, atW1, atW2, hx, hX, q1, s1, s2, s3, s4]
  try trace_state
def PotAt (h : Hv) (p : Nat) (c : Int) : Prop := ∃ a b : Int, h.get p = some (.lst [.int a, .int b, .int c]) ∧ 0 ≤ a ∧ 0 ≤ b ∧ b < 2305843009213693951
/-- what another heap keeps of this one: all but at p -/
def Keeps (p : Nat) (h h' : Hv) : Prop := h.n ≤ h'.n ∧ ∀ q, q < h.n → q ≠ p → h'.get q = h.get q
theorem Keeps.trans {p : Nat} {h h1 h2 : Hv} (a : Keeps p h h1) (b : Keeps p h1 h2) : Keeps p h h2 := ⟨Nat.le_trans a.1 b.1, fun q hq hp => (b.2 q (Nat.lt_of_lt_of_le hq a.1) hp).trans (a.2 q hq hp)⟩
theorem keeps_new (p : Nat) (h : Hv) (c : Cell) (hn : h.n < room) : Keeps p h (h.new c) := ⟨Nat.le_succ _, fun q hq _ => by rw [Hv.get_new hn, if_neg (Nat.ne_of_lt hq)]⟩
theorem get_new_at (h : Hv) (c : Cell) (hn : h.n < room) : (h.new c).get h.n = some c := by rw [Hv.get_new hn, if_pos rfl]
theorem get_new_lt (h : Hv) (c : Cell) (hn : h.n < room) (q : Nat) (hq : q ≠ h.n) : (h.new c).get q = h.get q := by rw [Hv.get_new hn, if_neg hq]
theorem take_ok (n : Nat) (h : Hv) (p : Nat) (c u : Int) (hg : PotAt h p c) (hp : p < h.n) (hn : h.n < room) (hc : 0 ≤ c) (hc2 : c < 100) (hu : 0 < u) (hu2 : u < 1073741824) :
    ∃ (i : Int) (c' : Int) (h' : Hv), calls Pf 1000 (n + 1) 1 [.ref p, .int u] h = .ok (.int i) h' ∧ 0 ≤ i ∧ i < u ∧ PotAt h' p c' ∧ c ≤ c' ∧ c' ≤ c + 1 ∧ Keeps p h h' ∧ h'.n ≤ h.n + 1 := by
  obtain ⟨a, b, g, ha, hb, hb2⟩ := hg
  have hp' : p < room := Nat.lt_trans hp hn
  by_cases h0 : 0 < a
  · refine ⟨_, c, _, take_big n h p a b c u g hp' h0 hu hu2, Int.emod_nonneg _ (by omega), Int.emod_lt_of_pos _ hu, ⟨a / u, b, by rw [Hv.get_put hp', if_pos rfl], Int.ediv_nonneg ha (by omega), hb, hb2⟩, Int.le_refl _, by omega, ⟨Nat.le_refl _, fun q _ hq => by rw [Hv.get_put hp', if_neg hq]⟩, Nat.le_succ _⟩
  · have e : a = 0 := by omega
    subst e
    obtain ⟨i, i1, i2, ws, e⟩ := take_small n h p b c u g hp hn hb hb2 hc hc2 hu hu2
    have nn : (h.put p (.lst [.int 0, .int b, .int (c + 1)])).n = h.n := rfl
    refine ⟨i, c + 1, _, e, i1, i2, ⟨0, b, ?_, Int.le_refl _, hb, hb2⟩, by omega, Int.le_refl _, ⟨Nat.le_succ _, fun q hq hqp => ?_⟩, Nat.le_refl _⟩
    · rw [Hv.get_new (by rw [nn]; exact hn), nn, if_neg (Nat.ne_of_lt hp), Hv.get_put hp', if_pos rfl]
    · rw [Hv.get_new (by rw [nn]; exact hn), nn, if_neg (Nat.ne_of_lt hq), Hv.get_put hp', if_neg hqp]
theorem of_ok (n : Nat) (h : Hv) (p m : Nat) (c : Int) (ws : List W) (hg : PotAt h p c) (hp : p < h.n) (hn : h.n < room) (hc : 0 ≤ c) (hc2 : c < 100) (hm : h.get m = some (.lst ws)) (hml : m < h.n) (hmp : m ≠ p) (hw : 0 < ws.length) (hw2 : ws.length < 1000) :
    ∃ (i : Nat) (w : W) (c' : Int) (h' : Hv), calls Pf 1000 (n + 2) 2 [.ref p, .ref m] h = .ok w h' ∧ ws[i]? = some w ∧ PotAt h' p c' ∧ c ≤ c' ∧ c' ≤ c + 1 ∧ Keeps p h h' ∧ h'.n ≤ h.n + 1 := by
  obtain ⟨i, c', h', e, i1, i2, g', k1, k2, kp, kn⟩ := take_ok n h p c (ws.length : Int) hg hp hn hc hc2 (by omega) (by omega)
  have hm' : h'.get m = some (.lst ws) := (kp.2 m hml hmp).trans hm
  obtain ⟨w, hwi⟩ : ∃ w, ws[i.toNat]? = some w := ⟨_, List.getElem?_eq_getElem (by omega)⟩
  refine ⟨i.toNat, w, c', h', ?_, hwi, g', k1, k2, kp, kn⟩
  have at1 : atW ws i = some w := atW_ok ws i i1 w hwi
  have e : calls Pf 1000 (n + 1) 1 [W.ref p, W.int ws.length] h = .ok (.int i) h' := e
  rw [calls]
  simp [Pf, c2, evS, evE, RE.bind, RS.of, p1, p2, slot, pad, itemsOf, cellOf, hm, listOfW, e, hm', at1]
theorem made_ok (n : Nat) (w : W) (h : Hv) : ∀ j : Nat, j < 30 → calls Pf 1000 (n + 2) 9 [.int j, w] h = .ok (.exc (j + 1) w) h
  | 0, _ => rfl
  | 1, _ => rfl
  | 2, _ => rfl
  | 3, _ => rfl
  | 4, _ => rfl
  | 5, _ => rfl
  | 6, _ => rfl
  | 7, _ => rfl
  | 8, _ => rfl
  | 9, _ => rfl
  | 10, _ => rfl
  | 11, _ => rfl
  | 12, _ => rfl
  | 13, _ => rfl
  | 14, _ => rfl
  | 15, _ => rfl
  | 16, _ => rfl
  | 17, _ => rfl
  | 18, _ => rfl
  | 19, _ => rfl
  | 20, _ => rfl
  | 21, _ => rfl
  | 22, _ => rfl
  | 23, _ => rfl
  | 24, _ => rfl
  | 25, _ => rfl
  | 26, _ => rfl
  | 27, _ => rfl
  | 28, _ => rfl
  | 29, _ => rfl
  | j + 30, hj => absurd hj (by omega)
/-! marks -/
def appE (k : Nat) : S := .expr (.mt .append (.var 1) (.cons (.p1 (.isiX k) (.var 0)) .nil))
def appSeq : List Nat → S
  | [] => .seq (.ret (.var 1)) .skip
  | k :: ks => .seq (appE k) (appSeq ks)
def mk1 (c : Nat) (k : Nat) : W := .bl (decide (c = k) || decide (k = 0))
theorem app_run (F : Nat) (call : Call) (c : Nat) (w : W) (m : Nat) (hm : m < room) : ∀ (ks : List Nat) (ws : List W) (h : Hv), h.get m = some (.lst ws) → ws.length + ks.length ≤ listMax →
    ∃ h', evS F call (appSeq ks) [some (.exc c w), some (.ref m)] h = .ret (.ref m) h' ∧ h'.get m = some (.lst (ws ++ ks.map (mk1 c))) ∧ h'.n = h.n ∧ ∀ q, q ≠ m → h'.get q = h.get q
  | [], ws, h, hg, _ => ⟨h, by simp [appSeq, evS, evE, RS.of, slot], by simpa using hg, rfl, fun _ _ => rfl⟩
  | k :: ks, ws, h, hg, hl => by
    have hl' : ws.length + (ks.length + 1) ≤ listMax := hl
    have hb : Nat.blt ws.length listMax = true := Nat.ble_eq_true_of_le (by omega)
    have st : evS F call (appE k) [some (.exc c w), some (.ref m)] h = .next [some (.exc c w), some (.ref m)] (h.put m (.lst (ws ++ [mk1 c k]))) := by
      simp [appE, evS, evE, RE.bind, RS.of, slot, isLst, hg, mtW, listOfW, p1, isErr, hb, mk1]
    have g1 : (h.put m (.lst (ws ++ [mk1 c k]))).get m = some (.lst (ws ++ [mk1 c k])) := by rw [Hv.get_put hm, if_pos rfl]
    obtain ⟨h', e, g, hn, kq⟩ := app_run F call c w m hm ks _ _ g1 (by rw [List.length_append, List.length_singleton]; omega)
    refine ⟨h', ?_, by rw [g, List.map_cons, List.append_assoc]; rfl, hn, fun q hq => by rw [kq q hq, Hv.get_put hm, if_neg hq]⟩
    show (match evS F call (appE k) _ h with | .next σ1 h1 => evS F call (appSeq ks) σ1 h1 | r => r) = _
    rw [st]
    exact e
def marksB (ks : List Nat) : Fn := ⟨2, 1, .seq (.asg (.one 1) (.lst .nil)) (appSeq ks)⟩
theorem marks1 (n f : Nat) (ks : List Nat) (hf : Pf f = some (marksB ks)) (hk : ks.length ≤ 100) (c : Nat) (w : W) (h : Hv) (hn : h.n < room) :
    ∃ h', calls Pf 1000 (n + 1) f [.exc c w] h = .ok (.ref h.n) h' ∧ h'.get h.n = some (.lst (ks.map (mk1 c))) ∧ h'.n = h.n + 1 ∧ ∀ q, q ≠ h.n → h'.get q = h.get q := by
  obtain ⟨h', e, g, nn, kq⟩ := app_run 1000 (calls Pf 1000 n) c w h.n hn ks [] (h.new (.lst [])) (get_new_at h _ hn) (by show 0 + ks.length ≤ listMax; unfold listMax; omega)
  refine ⟨h', ?_, by simpa using g, nn, fun q hq => by rw [kq q hq, get_new_lt h _ hn q hq]⟩
  have hb : Nat.blt h.n room = true := Nat.ble_eq_true_of_le hn
  have b0 : Nat.ble 0 listMax = true := rfl
  rw [calls, hf]
  simp [marksB, evS, evE, RE.bind, RS.of, pad, listOfW, newL, hb, b0, assignG, store, e]
theorem marks_abs (n : Nat) (A B C : List W) (hA : A.length = 10) (hB : B.length = 10) (hC : C.length = 10) (v : W) (h h1 h2 h4 : Hv) (i1 i2 i4 : Nat)
    (e1 : calls Pf 1000 (n + 1) 4 [v] h = .ok (.ref i1) h1) (e2 : calls Pf 1000 (n + 1) 6 [v] h1 = .ok (.ref i2) h2) (g1 : h2.get i1 = some (.lst A)) (g2 : h2.get i2 = some (.lst B)) (b2 : Nat.blt h2.n room = true)
    (e4 : calls Pf 1000 (n + 1) 8 [v] (h2.new (.lst (A ++ B))) = .ok (.ref i4) h4) (g3 : h4.get h2.n = some (.lst (A ++ B))) (g4 : h4.get i4 = some (.lst C)) (b4 : Nat.blt h4.n room = true) :
    calls Pf 1000 (n + 2) 10 [v] h = .ok (.ref h4.n) (h4.new (.lst (A ++ B ++ C))) := by
  have l20 : Nat.ble 20 listMax = true := rfl
  have l30 : Nat.ble 30 listMax = true := rfl
  have z1 : (A ++ B).length = 20 := by rw [List.length_append, hA, hB]
  have z2 : (A ++ B ++ C).length = 30 := by rw [List.length_append, z1, hC]
  have n1 : newL h2 (A ++ B) = .ok (.ref h2.n) (h2.new (.lst (A ++ B))) := by unfold newL; rw [b2, z1, l20]; rfl
  have n2 : newL h4 (A ++ B ++ C) = .ok (.ref h4.n) (h4.new (.lst (A ++ B ++ C))) := by unfold newL; rw [b4, z2, l30]; rfl
  rw [calls]
  simp only [Pf, c10, evS, evE, RE.bind, RS.of, pad, slot, listOfW, e1, e2, p2, g1, g2, n1, e4, g3, g4, n2, List.length_cons, List.length_nil]
  rfl
theorem marks_ok (n : Nat) (c : Nat) (w : W) (h : Hv) (hn : h.n + 10 < room) :
    ∃ h', calls Pf 1000 (n + 2) 10 [.exc c w] h = .ok (.ref (h.n + 4)) h' ∧ h'.get (h.n + 4) = some (.lst ((List.range 30).map fun k => mk1 c (k + 1))) ∧ h'.n = h.n + 5 ∧ ∀ q, q < h.n → h'.get q = h.get q := by
  obtain ⟨h1, e1, g1, n1, k1⟩ := marks1 n 4 [1, 2, 3, 4, 5, 6, 7, 8, 9, 10] rfl (by decide) c w h (by omega)
  obtain ⟨h2, e2, g2, n2, k2⟩ := marks1 n 6 [11, 12, 13, 14, 15, 16, 17, 18, 19, 20] rfl (by decide) c w h1 (by omega)
  have b2 : Nat.blt h2.n room = true := Nat.ble_eq_true_of_le (by omega)
  have g1' : h2.get h.n = _ := (k2 h.n (by omega)).trans g1
  obtain ⟨h4, e4, g4, n4, k4⟩ := marks1 n 8 [21, 22, 23, 24, 25, 26, 27, 28, 29, 30] rfl (by decide) c w (h2.new (.lst ([1, 2, 3, 4, 5, 6, 7, 8, 9, 10].map (mk1 c) ++ [11, 12, 13, 14, 15, 16, 17, 18, 19, 20].map (mk1 c)))) (by show h2.n + 1 < room; omega)
  have hn3 : (h2.new (.lst ([1, 2, 3, 4, 5, 6, 7, 8, 9, 10].map (mk1 c) ++ [11, 12, 13, 14, 15, 16, 17, 18, 19, 20].map (mk1 c)))).n = h2.n + 1 := rfl
  rw [hn3] at e4 g4 n4 k4
  have g3' := (k4 h2.n (by omega)).trans (get_new_at h2 _ (by omega))
  have b4 : Nat.blt h4.n room = true := Nat.ble_eq_true_of_le (by omega)
  have e : h.n + 4 = h4.n := by omega
  rw [e]
  refine ⟨h4.new (.lst ((List.range 30).map fun k => mk1 c (k + 1))), ?_, get_new_at h4 _ (by omega), by show h4.n + 1 = _; omega, fun q hq => ?_⟩
  · exact marks_abs n _ _ _ rfl rfl rfl _ h h1 h2 h4 _ _ _ e1 e2 g1' g2 b2 e4 g3' g4 b4
  · rw [get_new_lt h4 _ (by omega) q (by omega), k4 q (by omega), get_new_lt h2 _ (by omega) q (by omega), k2 q (by omega), k1 q (by omega)]
end Iv
namespace Iv
theorem lc_inv (it : It) (el : Hv → W → Option (Option W × Hv)) (N : Nat) (g : Nat → W) (Inv : Nat → Hv → Prop) (hs : ∀ i h, i < N → Inv i h → ∃ x h', it.at h i = some (some x) ∧ el h x = some (some (g i), h') ∧ Inv (i + 1) h') (hz : ∀ h, Inv N h → it.at h N = some none) :
    ∀ (d f i : Nat) (acc : List W) (h : Hv), i + d = N → d < f → acc.length + d ≤ listMax → Inv i h → ∃ h', lcGo it el f i acc h = some (acc.reverse ++ (List.range' i d).map g, h') ∧ Inv N h'
  | 0, f + 1, i, acc, h, hi, _, _, iv => by
    have e : i = N := hi
    subst e
    refine ⟨h, ?_, iv⟩
    unfold lcGo
    rw [hz h iv]
    simp
  | d + 1, f + 1, i, acc, h, hi, hf, hl, iv => by
    obtain ⟨x, h1, e1, e2, iv1⟩ := hs i h (by omega) iv
    have hb : Nat.blt acc.length listMax = true := Nat.ble_eq_true_of_le (by omega)
    obtain ⟨h', e3, iv'⟩ := lc_inv it el N g Inv hs hz d f (i + 1) (g i :: acc) h1 (by omega) (by omega) (by rw [List.length_cons]; omega) iv1
    refine ⟨h', ?_, iv'⟩
    unfold lcGo
    rw [e1]
    dsimp only
    rw [e2]
    dsimp only
    rw [hb]
    show lcGo it el f (i + 1) (g i :: acc) h1 = _
    rw [e3, List.reverse_cons, List.append_assoc, List.range'_succ]
    rfl
def valsAt (h : Hv) : List W := [.non, .int 0, .str [120], .tup [], .tup [.str [97], .tup [.int 1, .int 2]], .bl true, .ref h.n, .ref (h.n + 1), .int (10 ^ 40), .tup [.tup [], .str []]]
theorem repr_of (h : Hv) (w : W) (d : PySem.PyData) (hd : dataW h 20 w = some d) (hb : (d.showable && Nat.ble d.depth 30 && Nat.ble d.shown.length strMax) = true) : ∃ s, p1 h .repr w = .ok (.str s) h := by
  refine ⟨d.shown.cps.toList, ?_⟩
  simp only [p1, hd, hb]
  rfl
theorem repr_ok (h h' : Hv) (g1 : h'.get h.n = some (.lst [])) (g2 : h'.get (h.n + 1) = some (.dic [(.str [109], .non)])) : ∀ (i : Nat) (w : W), (valsAt h)[i]? = some w → ∃ s, p1 h' .repr w = .ok (.str s) h'
  | 0, w, e => by cases e; exact repr_of h' _ .none rfl (by decide +kernel)
  | 1, w, e => by cases e; exact repr_of h' _ (.int 0) rfl (by decide +kernel)
  | 2, w, e => by cases e; exact repr_of h' _ (.str ⟨[120].toArray⟩) rfl (by decide +kernel)
  | 3, w, e => by cases e; exact repr_of h' _ (.tuple []) rfl (by decide +kernel)
  | 4, w, e => by cases e; exact repr_of h' _ (.tuple [.str ⟨[97].toArray⟩, .tuple [.int 1, .int 2]]) rfl (by decide +kernel)
  | 5, w, e => by cases e; exact repr_of h' _ (.bool true) rfl (by decide +kernel)
  | 6, w, e => by
    cases e
    refine repr_of h' _ (.list []) ?_ (by decide +kernel)
    simp [dataW, dataL, cellOf, g1, allD]
  | 7, w, e => by
    cases e
    refine repr_of h' _ (.dict [(.str ⟨[109].toArray⟩, .none)]) ?_ (by decide +kernel)
    simp [dataW, g2, kvD, flatD]
  | 8, w, e => by cases e; exact repr_of h' _ (.int (10 ^ 40)) rfl (by decide +kernel)
  | 9, w, e => by cases e; exact repr_of h' _ (.tuple [.tuple [], .str ⟨[].toArray⟩]) rfl (by decide +kernel)
  | i + 10, w, e => by cases e
theorem eqAll_bl (h : Hv) (f : Nat) : ∀ l : List Bool, eqAll (eqW h (f + 1)) (l.map .bl) (l.map .bl) = some true
  | [] => rfl
  | b :: l => by
    have hb : eqW h (f + 1) (.bl b) (.bl b) = some true := by simp [eqW]
    have ih := eqAll_bl h f l
    rw [List.map_cons]
    unfold eqAll
    rw [hb, ih]
    rfl
def heap3 (h : Hv) : Hv := ((h.new (.lst [])).new (.dic [(.str [109], .non)])).new (.lst (valsAt h))
def gq (j k : Nat) : W := .bl (decide ((k : Int) = (j : Int)))
def gqL (j : Nat) : List W := (List.range 30).map (gq j)
def lstE : E := .lst (.cons (.k .non) (.cons (.k (.int 0)) (.cons (.k (.str [120])) (.cons (.tup .nil) (.cons (.tup (.cons (.k (.str [97])) (.cons (.tup (.cons (.k (.int 1)) (.cons (.k (.int 2)) .nil))) .nil))) (.cons (.k (.bl true)) (.cons (.lst .nil) (.cons (.dic (.cons (.k (.str [109])) (.cons (.k .non) .nil))) (.cons (.p2 .pow (.k (.int 10)) (.k (.int 40))) (.cons (.tup (.cons (.tup .nil) (.cons (.k (.str [])) .nil))) .nil))))))))))
def lcE : E := .lc [4] (.one 4) .rng (.k (.int 30)) (.k .non) false (.k .non) (.p2 .eq (.var 4) (.var 1))
theorem lst_ev (call : Call) (h : Hv) (hn : h.n + 3 < room) (σ : Env) : evE 1000 call lstE σ h = .ok (.ref (h.n + 2)) (heap3 h) := by
  have b0 : Nat.blt h.n room = true := Nat.ble_eq_true_of_le (by omega)
  have b1 : Nat.blt (h.n + 1) room = true := Nat.ble_eq_true_of_le (by omega)
  have b2 : Nat.blt (h.n + 2) room = true := Nat.ble_eq_true_of_le (by omega)
  have l0 : Nat.ble 0 listMax = true := rfl
  have l1 : Nat.ble 1 15 = true := rfl
  have l2 : Nat.ble 2 listMax = true := rfl
  have l10 : Nat.ble 10 listMax = true := rfl
  have nn1 : (h.new (.lst [])).n = h.n + 1 := rfl
  have nn2 : ((h.new (.lst [])).new (.dic [(W.str [109], W.non)])).n = h.n + 2 := rfl
  simp [lstE, evE, RE.bind, listOfW, newL, b0, l0, nn1, nn2, pairsW, isKey, b1, l1, mergeW, putW, hasK, p2, b2, l10, l2, heap3, valsAt]
def elq (call : Call) (σ : Env) : Hv → W → Option (Option W × Hv) := fun h w => match assignG h (.one 4) w (wipeE σ [4]) with
  | none => none
  | some σ1 => bif false then (match evE 1000 call (.k .non) σ1 h with
      | .ok z h3 => (match truth h3 z with
        | some true => (match evE 1000 call (.p2 .eq (.var 4) (.var 1)) σ1 h3 with | .ok v h4 => some (some v, h4) | _ => none)
        | some false => some (none, h3)
        | none => none)
      | _ => none)
    else (match evE 1000 call (.p2 .eq (.var 4) (.var 1)) σ1 h with | .ok v h4 => some (some v, h4) | _ => none)
theorem lc_ev (call : Call) (h : Hv) (hn : h.n < room) (j : Nat) (a b c d : Option W) : evE 1000 call lcE [a, some (.int j), b, c, d] h = .ok (.ref h.n) (h.new (.lst (gqL j))) := by
  have b0 : Nat.blt h.n room = true := Nat.ble_eq_true_of_le hn
  have l30 : Nat.ble 30 listMax = true := rfl
  obtain ⟨h', e, rfl⟩ := lc_inv (.rng 0 30) (elq call [a, some (.int j), b, c, d]) 30 (gq j) (fun i h' => h' = h) (fun i h' hi e => by
      subst e
      have z : Nat.blt i 30 = true := Nat.ble_eq_true_of_le hi
      refine ⟨.int i, h', ?_, ?_, rfl⟩
      · simp [It.at, z]
      · simp [elq, assignG, wipeE, wipe1, store, evE, RE.bind, slot, p2, ofB, eqW, gq]) (fun h' e => rfl) 30 1000 0 [] h rfl (by decide) (by decide) rfl
  have e' : (List.range' 0 30).map (gq j) = gqL j := by unfold gqL; rw [List.range_eq_range']
  rw [e'] at e
  have eu : evE 1000 call lcE [a, some (.int j), b, c, d] h' = (match lcGo (.rng 0 30) (elq call [a, some (.int j), b, c, d]) 1000 0 [] h' with | some (ws, h5) => newL h5 ws | none => RE.bad) := by rfl
  rw [eu, e]
  show newL h' (gqL j) = _
  unfold newL
  have hl : (gqL j).length = 30 := by unfold gqL; simp
  rw [hl, l30, b0]
  rfl
theorem mk_gq (j : Nat) : ((List.range 30).map fun k => mk1 (j + 1) (k + 1)) = gqL j := by
  unfold gqL
  refine List.map_congr_left fun k _ => ?_
  unfold mk1 gq
  congr 1
  by_cases e : j = k
  · subst e; simp
  · have : ¬ ((k : Int) = (j : Int)) := fun z => e (Int.ofNat.inj z).symm
    simp [e, this]
theorem eq_gq (h : Hv) (m1 m2 j : Nat) (g1 : h.get m1 = some (.lst (gqL j))) (g2 : h.get m2 = some (.lst (gqL j))) : eqW h 60 (.ref m1) (.ref m2) = some true := by
  have c1 : cellOf h m1 = some (gqL j) := by unfold cellOf; rw [g1]
  have c2 : cellOf h m2 = some (gqL j) := by unfold cellOf; rw [g2]
  have e : gqL j = ((List.range 30).map fun k : Nat => decide ((k : Int) = (j : Int))).map W.bl := by unfold gqL; rw [List.map_map]; rfl
  unfold eqW
  dsimp only
  rw [c1]
  dsimp only
  rw [c2]
  dsimp only
  rw [show Nat.beq (gqL j).length (gqL j).length = true from Nat.beq_refl _, e]
  exact eqAll_bl h 58 _
/-- what law_is_error_right asks of its parts -/
theorem right_abs (n : Nat) (p : Nat) (j : Nat) (w : W) (h h4 h5 : Hv) (m : Nat) (s : Tx) (hn : h.n + 3 < room) (e1 : calls Pf 1000 (n + 2) 2 [.ref p, .ref (h.n + 2)] (heap3 h) = .ok w h4) (e2 : calls Pf 1000 (n + 2) 9 [.int j, w] h4 = .ok (.exc (j + 1) w) h4)
    (e3 : calls Pf 1000 (n + 2) 10 [.exc (j + 1) w] h4 = .ok (.ref m) h5) (hm : m < h5.n) (g3 : h5.get m = some (.lst (gqL j))) (hn5 : h5.n < room)
    (es : p1 (h5.new (.lst (gqL j))) .repr w = .ok (.str s) (h5.new (.lst (gqL j)))) :
    calls Pf 1000 (n + 3) 11 [.ref p, .int j] h = .ok (.bl true) (h5.new (.lst (gqL j))) := by
  have hb : c11.body = .seq (.asg (.one 2) (.call 2 (.cons (.var 0) (.cons lstE .nil)))) (.seq (.asg (.one 3) (.call 9 (.cons (.var 1) (.cons (.var 2) .nil)))) (.seq (.ite (.or (.not (.p1 (.isiX 0) (.var 3))) (.not (.p1 .isiV (.var 3)))) (.seq (.ret (.k (.bl false))) .skip) .skip) (.seq (.ret (.and (.p2 .eq (.call 10 (.cons (.var 3) .nil)) lcE) (.p2 .eq (.p1 .repr (.xval (.var 3))) (.p1 .repr (.var 2))))) .skip))) := rfl
  have hs : c11.slots = 5 := rfl
  have hp : c11.pars = 2 := rfl
  have g5 : (h5.new (.lst (gqL j))).get m = some (.lst (gqL j)) := by rw [get_new_lt h5 _ hn5 m (Nat.ne_of_lt hm)]; exact g3
  have g6 : (h5.new (.lst (gqL j))).get h5.n = some (.lst (gqL j)) := get_new_at h5 _ hn5
  have q := eq_gq _ _ _ _ g5 g6
  have qs : eqW (h5.new (.lst (gqL j))) 60 (.str s) (.str s) = some true := by simp [eqW]
  have i0 : ∀ h : Hv, p1 h (.isiX 0) (.exc (j + 1) w) = .ok (.bl true) h := fun h => by simp [p1, isErr]
  have iV : ∀ h : Hv, p1 h .isiV (.exc (j + 1) w) = .ok (.bl true) h := fun h => by simp [p1, isErr]
  have tb : ∀ (h : Hv) (b : Bool), truth h (.bl b) = some b := fun _ _ => rfl
  have pe : ∀ (h : Hv) (x y : W), p2 h .eq x y = ofB h (eqW h 60 x y) := fun _ _ _ => rfl
  have ob : ∀ (h : Hv) (b : Bool), ofB h (some b) = .ok (.bl b) h := fun _ _ => rfl
  rw [calls]
  simp only [Pf, hb, hs, hp, evS, evE, RE.bind, RS.of, pad, slot, listOfW, lst_ev _ h hn, e1, assignG, store, e2, e3, lc_ev _ h5 hn5, List.length_cons, List.length_nil, i0, iV, tb, pe, ob, q, es, qs, Bool.not_true]
  first
    | rfl
    | (simp [slot, listOfW, e3, lc_ev _ h5 hn5, i0, iV, tb, pe, ob, q, es, qs])
end Iv
namespace Iv
theorem right_ok (n : Nat) (h : Hv) (p : Nat) (c : Int) (j : Nat) (hg : PotAt h p c) (hp : p < h.n) (hn : h.n + 40 < room) (hc : 0 ≤ c) (hc2 : c < 100) (hj : j < 30) :
    ∃ (c' : Int) (h' : Hv), calls Pf 1000 (n + 3) 11 [.ref p, .int j] h = .ok (.bl true) h' ∧ PotAt h' p c' ∧ c ≤ c' ∧ c' ≤ c + 1 ∧ p < h'.n ∧ h'.n ≤ h.n + 20 := by
  have n1 : (h.new (.lst [])).n = h.n + 1 := rfl
  have n2 : ((h.new (.lst [])).new (.dic [(W.str [109], W.non)])).n = h.n + 2 := rfl
  have n3 : (heap3 h).n = h.n + 3 := rfl
  have low : ∀ q, q < h.n → (heap3 h).get q = h.get q := fun q hq => by
    unfold heap3
    rw [get_new_lt _ _ (by omega) q (by omega), get_new_lt _ _ (by omega) q (by omega), get_new_lt _ _ (by omega) q (by omega)]
  have a0 : (heap3 h).get h.n = some (.lst []) := by
    unfold heap3
    rw [get_new_lt _ _ (by omega) _ (by omega), get_new_lt _ _ (by omega) _ (by omega)]
    exact get_new_at h _ (by omega)
  have a1 : (heap3 h).get (h.n + 1) = some (.dic [(.str [109], .non)]) := by
    unfold heap3
    rw [get_new_lt _ _ (by omega) _ (by omega)]
    exact get_new_at _ _ (by omega)
  have a2 : (heap3 h).get (h.n + 2) = some (.lst (valsAt h)) := by
    unfold heap3
    exact get_new_at _ _ (by omega)
  have hg3 : PotAt (heap3 h) p c := by
    obtain ⟨a, b, g, r⟩ := hg
    exact ⟨a, b, by rw [low p hp]; exact g, r⟩
  obtain ⟨i, w, c', h4, e1, hw, g4, k1, k2, kp, kn⟩ := of_ok n (heap3 h) p (h.n + 2) c (valsAt h) hg3 (by omega) (by omega) hc hc2 a2 (by omega) (by omega) (Nat.zero_lt_succ _) (by show 10 < 1000; decide)
  obtain ⟨kl, kk⟩ := kp
  obtain ⟨h5, e3, g5, m5, f5⟩ := marks_ok n (j + 1) w h4 (by omega)
  rw [mk_gq] at g5
  have m6 : (h5.new (.lst (gqL j))).n = h5.n + 1 := rfl
  have fin : ∀ q, q < h.n + 3 → q ≠ p → (h5.new (.lst (gqL j))).get q = (heap3 h).get q := fun q hq hqp => by
    rw [get_new_lt h5 _ (by omega) q (by omega), f5 q (by omega), kk q (by omega) hqp]
  obtain ⟨s, es⟩ := repr_ok h (h5.new (.lst (gqL j))) (by rw [fin _ (by omega) (by omega)]; exact a0) (by rw [fin _ (by omega) (by omega)]; exact a1) i w hw
  refine ⟨c', _, right_abs n p j w h h4 h5 (h4.n + 4) s (by omega) e1 (made_ok n w h4 j hj) e3 (by omega) g5 (by omega) es, ?_, k1, k2, by omega, by omega⟩
  obtain ⟨a, b, g, r⟩ := g4
  exact ⟨a, b, by rw [get_new_lt h5 _ (by omega) p (by omega), f5 p (by omega)]; exact g, r⟩
/-! ### the pot -/
def potE : E := .lst (.cons (.var 3) (.cons (.p2 .mod (.p1 .int1 (.p2 .add (.p2 .add (.p2 .mul (.var 4) (.k (.int 296049))) (.p2 .mul (.p2 .mul (.k (.int 43019)) (.var 1)) (.var 1))) (.k (.int 13007)))) (.k (.int 2305843009213693921))) (.cons (.k (.int 0)) .nil)))
def cellE : E := .ite (.p2 .lt (.var 1) (.p1 .len (.var 0))) (.p2 .get (.var 0) (.var 1)) (.p2 .add (.p2 .add (.p2 .mod (.p1 .sum (.cut (.var 0) false (.k .non) true (.k (.int 1)))) (.k (.int 1000003))) (.p2 .mul (.k (.int 43013)) (.var 1))) (.k (.int 16033)))
theorem cell_ok (call : Call) (ns : List Int) (a b c : Option W) : ∃ (z : Int) (h' : Hv), evE 1000 call cellE [some (.ref 0), some (.int 0), a, b, c] (heap0 ns) = .ok (.int z) h' ∧ h'.n ≤ 2 ∧ h'.n ≥ 1 := by
  cases ns with
  | nil => exact ⟨_, _, rfl, by decide, by decide⟩
  | cons z r =>
    refine ⟨z, heap0 (z :: r), ?_, (by show 1 ≤ 2; omega), (by show 1 ≥ 1; omega)⟩
    have l : (0 : Int) < (((z :: r).map W.int).length : Int) := by simp
    have g : (heap0 (z :: r)).get 0 = some (.frz (.int z :: r.map .int)) := rfl
    simp [cellE, evE, RE.bind, slot, p1, p2, g, truth, itemsOf, cellOf, atW]
theorem rest_ok (call : Call) (z : Int) (h : Hv) (hn : h.n < room) : evS 1000 call (.seq (.asg (.one 3) (.p2 .mul (.p2 .mod (.p1 .int1 (.p1 .abs (.var 2))) (.p2 .pow (.p2 .pow (.k (.int 10)) (.k (.int 60))) (.k (.int 5)))) (.p1 .int1 (.p2 .ge (.p1 .abs (.var 2)) (.p2 .pow (.k (.int 10)) (.k (.int 18))))))) (.seq (.asg (.one 4) (.p2 .mod (.p1 .int1 (.var 2)) (.k (.int 2305843009213693951)))) (.seq (.ret potE) .skip)))
    [some (.ref 0), some (.int 0), some (.int z), none, none] h = .ret (.ref h.n) (h.new (.lst [.int ((if z < 0 then -z else z) % (10 ^ 60) ^ 5 * bI (decide (10 ^ 18 ≤ (if z < 0 then -z else z)))), .int ((z % 2305843009213693951 * 296049 + 43019 * 0 * 0 + 13007) % 2305843009213693921), .int 0])) := by
  have b0 : Nat.blt h.n room = true := Nat.ble_eq_true_of_le hn
  have l3 : Nat.ble 3 listMax = true := rfl
  have sb : ∀ b, small64 (bI b) = true := fun b => by cases b <;> decide
  have s1 : small64 296049 = true := by decide
  have s2 : small64 43019 = true := by decide
  have s3 : small64 0 = true := by decide
  simp [potE, evS, evE, RE.bind, RS.of, slot, store, assignG, p1, p2, newL, listOfW, b0, l3, sb, s1, s2, s3]
theorem pot_ok (n : Nat) (ns : List Int) : ∃ (m : Nat) (h' : Hv), calls Pf 1000 (n + 1) 0 [.ref 0, .int 0] (heap0 ns) = .ok (.ref m) h' ∧ PotAt h' m 0 ∧ m < h'.n ∧ h'.n ≤ 10 := by
  obtain ⟨z, h1, e1, l1, l2⟩ := cell_ok (calls Pf 1000 n) ns none none none
  have hr : h1.n < room := Nat.lt_of_le_of_lt l1 (by unfold room; omega)
  have e2 := rest_ok (calls Pf 1000 n) z h1 hr
  have hb : c0.body = .seq (.asg (.one 2) cellE) (.seq (.asg (.one 3) (.p2 .mul (.p2 .mod (.p1 .int1 (.p1 .abs (.var 2))) (.p2 .pow (.p2 .pow (.k (.int 10)) (.k (.int 60))) (.k (.int 5)))) (.p1 .int1 (.p2 .ge (.p1 .abs (.var 2)) (.p2 .pow (.k (.int 10)) (.k (.int 18))))))) (.seq (.asg (.one 4) (.p2 .mod (.p1 .int1 (.var 2)) (.k (.int 2305843009213693951)))) (.seq (.ret potE) .skip))) := rfl
  have run : calls Pf 1000 (n + 1) 0 [.ref 0, .int 0] (heap0 ns) = .ok (.ref h1.n) (h1.new (.lst [.int ((if z < 0 then -z else z) % (10 ^ 60) ^ 5 * bI (decide (10 ^ 18 ≤ (if z < 0 then -z else z)))), .int ((z % 2305843009213693951 * 296049 + 43019 * 0 * 0 + 13007) % 2305843009213693921), .int 0])) := by
    have hs : c0.slots = 5 := rfl
    have hp : c0.pars = 2 := rfl
    have lay : evS 1000 (calls Pf 1000 n) c0.body [some (.ref 0), some (.int 0), none, none, none] (heap0 ns) = .ret (.ref h1.n) (h1.new (.lst [.int ((if z < 0 then -z else z) % (10 ^ 60) ^ 5 * bI (decide (10 ^ 18 ≤ (if z < 0 then -z else z)))), .int ((z % 2305843009213693951 * 296049 + 43019 * 0 * 0 + 13007) % 2305843009213693921), .int 0])) := by
      rw [hb]
      show (match RS.of [some (.ref 0), some (.int 0), none, none, none] (evE 1000 (calls Pf 1000 n) cellE [some (.ref 0), some (.int 0), none, none, none] (heap0 ns)) (fun w h1 => (match assignG h1 (.one 2) w [some (.ref 0), some (.int 0), none, none, none] with | some σ1 => .next σ1 h1 | none => .bad)) with
        | .next σ1 h1 => evS 1000 (calls Pf 1000 n) (.seq (.asg (.one 3) (.p2 .mul (.p2 .mod (.p1 .int1 (.p1 .abs (.var 2))) (.p2 .pow (.p2 .pow (.k (.int 10)) (.k (.int 60))) (.k (.int 5)))) (.p1 .int1 (.p2 .ge (.p1 .abs (.var 2)) (.p2 .pow (.k (.int 10)) (.k (.int 18))))))) (.seq (.asg (.one 4) (.p2 .mod (.p1 .int1 (.var 2)) (.k (.int 2305843009213693951)))) (.seq (.ret potE) .skip))) σ1 h1
        | r => r) = _
      rw [e1]
      exact e2
    show (bif Nat.beq 2 c0.pars then (match evS 1000 (calls Pf 1000 n) c0.body (pad c0.slots [.ref 0, .int 0]) (heap0 ns) with
      | .ret w h1 => RE.ok w h1
      | .next _ h1 => .ok .non h1
      | .exc _ c w h1 => .exc c w h1
      | _ => .bad) else .bad) = _
    rw [hp, hs]
    show (match evS 1000 (calls Pf 1000 n) c0.body [some (.ref 0), some (.int 0), none, none, none] (heap0 ns) with
      | .ret w h1 => RE.ok w h1
      | .next _ h1 => .ok .non h1
      | .exc _ c w h1 => .exc c w h1
      | _ => .bad) = _
    rw [lay]
  refine ⟨h1.n, _, run, ⟨_, _, get_new_at h1 _ hr, ?_, Int.emod_nonneg _ (by decide), Int.lt_trans (Int.emod_lt_of_pos _ (by decide)) (by decide)⟩, Nat.lt_succ_self _, by show h1.n + 1 ≤ 10; omega⟩
  refine Int.mul_nonneg (Int.emod_nonneg _ (by decide +kernel)) ?_
  cases decide (10 ^ 18 ≤ (if z < 0 then -z else z)) <;> decide
/-! ### the law -/
def forS : S := .for (.one 2) .seq (.tup (.cons (.k .non) (.cons (.tup (.cons (.k (.int 1)) (.cons (.k (.str [97])) .nil))) (.cons (.k (.str [120])) (.cons (.p1 .neg (.k (.int 3))) (.cons (.tup (.cons (.tup .nil) (.cons (.tup (.cons (.k (.int 2)) .nil)) .nil))) .nil)))))) (.k .non) (.seq (.asg (.one 3) (.mkx 0 (.var 2))) (.seq (.ite (.or (.p2 .ne (.xval (.var 3)) (.var 2)) (.or (.not (.p1 .isiV (.var 3))) (.p1 (.isiX 1) (.var 3)))) (.seq (.ret (.k (.bl false))) .skip) .skip) .skip))
theorem for_ok (call : Call) (h : Hv) (a b c d e : Option W) : ∃ σ, evS 1000 call forS [a, b, c, d, e] h = .next σ h := ⟨_, rfl⟩
def lcA : E := .lc [4] (.one 4) .rng (.k (.int 30)) (.k .non) false (.k .non) (.call 11 (.cons (.var 1) (.cons (.var 4) .nil)))
def ela (call : Call) (σ : Env) : Hv → W → Option (Option W × Hv) := fun h w => match assignG h (.one 4) w (wipeE σ [4]) with
  | none => none
  | some σ1 => bif false then (match evE 1000 call (.k .non) σ1 h with
      | .ok z h3 => (match truth h3 z with
        | some true => (match evE 1000 call (.call 11 (.cons (.var 1) (.cons (.var 4) .nil))) σ1 h3 with | .ok v h4 => some (some v, h4) | _ => none)
        | some false => some (none, h3)
        | none => none)
      | _ => none)
    else (match evE 1000 call (.call 11 (.cons (.var 1) (.cons (.var 4) .nil))) σ1 h with | .ok v h4 => some (some v, h4) | _ => none)
theorem lcA_ok (n m : Nat) (h : Hv) (a b c d : Option W) (hg : PotAt h m 0) (hm : m < h.n) (hn : h.n ≤ 10) : ∃ (h' : Hv), evE 1000 (calls Pf 1000 (n + 3)) lcA [a, some (.ref m), b, c, d] h = .ok (.ref h'.n) (h'.new (.lst (List.replicate 30 (.bl true)))) ∧ h'.n < room := by
  have big : 100000 < room := by unfold room; omega
  obtain ⟨h', e, iv⟩ := lc_inv (.rng 0 30) (ela (calls Pf 1000 (n + 3)) [a, some (.ref m), b, c, d]) 30 (fun _ => .bl true) (fun i h' => ∃ k : Int, PotAt h' m k ∧ 0 ≤ k ∧ k ≤ i ∧ m < h'.n ∧ h'.n ≤ 10 + 20 * i) (fun i h' hi ⟨k, p1, p2, p3, p4, p5⟩ => by
      have z : Nat.blt i 30 = true := Nat.ble_eq_true_of_le hi
      obtain ⟨k', h2, e2, q1, q2, q3, q4, q5⟩ := right_ok n h' m k i p1 p4 (by omega) p2 (by omega) hi
      refine ⟨.int i, h2, ?_, ?_, k', q1, by omega, by omega, q4, by omega⟩
      · simp [It.at, z]
      · simp [ela, assignG, wipeE, wipe1, store, evE, RE.bind, slot, listOfW, e2]) (fun h' e => rfl) 30 1000 0 [] h rfl (by decide) (by decide) ⟨0, hg, Int.le_refl _, Int.le_refl _, hm, by omega⟩
  obtain ⟨k, p1, p2, p3, p4, p5⟩ := iv
  have hr : h'.n < room := by omega
  refine ⟨h', ?_, hr⟩
  have b0 : Nat.blt h'.n room = true := Nat.ble_eq_true_of_le hr
  have l30 : Nat.ble 30 listMax = true := rfl
  have eu : evE 1000 (calls Pf 1000 (n + 3)) lcA [a, some (.ref m), b, c, d] h = (match lcGo (.rng 0 30) (ela (calls Pf 1000 (n + 3)) [a, some (.ref m), b, c, d]) 1000 0 [] h with | some (ws, h5) => newL h5 ws | none => RE.bad) := by rfl
  rw [eu, e]
  show newL h' (List.replicate 30 (.bl true)) = _
  unfold newL
  rw [List.length_replicate, l30, b0]
  rfl
theorem hrun : ∀ ns : List Int, ∃ h', calls Pf 1000 600 lawI [.ref 0] (heap0 ns) = .ok (.bl true) h' := by
  intro ns
  obtain ⟨m, h1, e1, hg, hm, hn⟩ := pot_ok 598 ns
  obtain ⟨h2, e2, hr⟩ := lcA_ok 596 m h1 (some (.ref 0)) none none none hg hm hn
  obtain ⟨σ, e3⟩ := for_ok (calls Pf 1000 599) (h2.new (.lst (List.replicate 30 (.bl true)))) (some (.ref 0)) (some (.ref m)) none none none
  have hb : c12.body = .seq (.asg (.one 1) (.call 0 (.cons (.var 0) (.cons (.k (.int 0)) .nil)))) (.seq (.ite (.not (.p1 .all lcA)) (.seq (.ret (.k (.bl false))) .skip) .skip) (.seq forS (.seq (.ret (.k (.bl true))) .skip))) := rfl
  have e1 : calls Pf 1000 599 0 [.ref 0, .int 0] (heap0 ns) = .ok (.ref m) h1 := e1
  have e2 : evE 1000 (calls Pf 1000 599) lcA [some (.ref 0), some (.ref m), none, none, none] h1 = .ok (.ref h2.n) (h2.new (.lst (List.replicate 30 (.bl true)))) := e2
  have g := get_new_at h2 (.lst (List.replicate 30 (.bl true))) hr
  have al : p1 (h2.new (.lst (List.replicate 30 (.bl true)))) .all (.ref h2.n) = .ok (.bl true) (h2.new (.lst (List.replicate 30 (.bl true)))) := by
    simp only [p1, cellOf, g]
    rfl
  refine ⟨h2.new (.lst (List.replicate 30 (.bl true))), ?_⟩
  show (bif Nat.beq 1 c12.pars then (match evS 1000 (calls Pf 1000 599) c12.body (pad c12.slots [.ref 0]) (heap0 ns) with
      | .ret w h1 => RE.ok w h1
      | .next _ h1 => .ok .non h1
      | .exc _ c w h1 => .exc c w h1
      | _ => .bad) else .bad) = _
  have hp : c12.pars = 1 := rfl
  have hs : c12.slots = 5 := rfl
  have tb : ∀ (h : Hv) (b : Bool), truth h (.bl b) = some b := fun _ _ => rfl
  rw [hp, hs, hb]
  simp only [evS, evE, RE.bind, RS.of, pad, slot, listOfW, e1, assignG, store, e2, al, tb, e3, Nat.beq]
  rfl
end Iv
namespace Iv
open PySem PySem.Spec PyProof.Rows L2 He

/-! ### the head -/
def iw : InW := match topS 1 with
  | .ClassDef (body := b) .. => (match b with
    | .FunctionDef (name := n) (args := a) (body := bd) (scope := sc) .. :: _ => some (n, ("SheetError.__init__" : Str), a, .stmts bd, sc)
    | _ => none)
  | _ => none
theorem iw_ok : IsInit iw := ⟨_, _, _, _, _, _, _, _, _, _, _, _, rfl, by decide⟩
abbrev R : PySem.W.OpenRow := PySem.W.OpenLaw.row PySem.Challenge.rw_cutsonasheet_k00_errors_and_what_they_ke
abbrev hk : PySem.W.Hook := hookV 6 R.prog.main.file fsL xsL fnL iw
def ob (s : PySem.W.SharedT) : AlV := obsVG 6 R.prog.main.file fsL xsL fnL (HandSHeadRun.getT s)
theorem ob_eq (s : PySem.W.SharedT) : ob s = hk.obs s.abs := obsVG_eq (HandSHeadRun.getT_eq s)
theorem run (w : World) : HandSHeadRun.RunEq R (PySem.W.view R.prog [lawT]) hk ob 12000 looseL w := by
  intro os
  kernel_rfl
end Iv
open PySem PySem.W PySem.Calls PyProof.Rows
theorem PySem.Challenge.cw_cutsonasheet_k00_errors_and_what_they_ke_holds : PySem.Challenge.rw_cutsonasheet_k00_errors_and_what_they_ke.Holds := by
  w_on; o_law
  refine HandSHeadRun.head_any (r := Iv.R) (q := view Iv.R.prog [Iv.lawT]) (H := Iv.hk) (ob := Iv.ob) (M := 12000) (loose := Iv.looseL) (d := HandSHeadRun.topDef Iv.R.prog Iv.lawT) (kwd := []) Iv.ob_eq
    (by kernel_rfl) (fun s => by kernel_rfl) Iv.run (by kernel_rfl) (by kernel_rfl) (by kernel_rfl) (by rfl) (by first | assumption | decide +kernel) (by decide +kernel) ⟨rfl, rfl, rfl, rfl, rfl, by decide +kernel⟩ ?hw ?hc
  case hw => w_witness2
  case hc => exact Iv.walkV (l := PySem.Challenge.rw_cutsonasheet_k00_errors_and_what_they_ke) (n := 63) rfl (by decide) (by kernel_rfl) Iv.iw_ok (by kernel_rfl) (by kernel_rfl) Iv.allDefs (fun ns _ _ => Iv.hrun ns)
