import PyProof.Rows.All
import Wide.All
import OpenK.AllK
import Wide.FinOn
import HandS.ForMost
import HandS.Exc
import KE.KExcSuper
import HandS.IsInst
import HandS.ExcIs
import HandS.ExcCtx
import HandS.Wide
import KE.KEqNest
import HandS.DictEq
import KE.SortCalls
import PyProof.ReprReads
import PyProof.ReprRoads
import KE.DataEq
import HandS.DictComp
import HandS.TupLen
import KE.SortData
import HandS.More
import HandS.Conv
import KE.KDictCopyH
import KE.KDictKeyed
import KE.KDictItemsList
import PyProof.Rows.TupDisplay
import HandS.EndBits
import HandS.WordsExc
import PySem.Challenge.RW_keysreach_k00_errors_are_apart
set_option Elab.async false
set_option linter.all false
set_option maxRecDepth 100000
set_option maxHeartbeats 4000000
/-! VX1: errors of the family whose base's __init__ says super().__init__(at); self.at = at: one made. -/
namespace VX
open PySem PySem.W PySem.Calls PyProof.Rows PySem.HandSPX
def iA (p1 p2 : Pos) : Arguments := { posonlyargs := [], args := [{ arg := "self", annotation := none, pos := p1 }, { arg := "at", annotation := none, pos := p2 }], vararg := none, kwonlyargs := [], kw_defaults := [], kwarg := none, defaults := [] }
def iB (p0 p1 p2 p3 p4 p5 q1 q2 q3 q4 : Pos) : List Stmt := [.Expr (.Call (.Attribute (.Call (.Name "super" p0) [] [] p1) "__init__" p2) [.Name "at" p3] [] p4) p5, .Assign [.Attribute (.Name "self" q1) "at" q2] (.Name "at" q3) q4]
def iS : Scope := { kind := .function, names := [(PySem.Str.ofString "self", .local), (PySem.Str.ofString "at", .local), (PySem.Str.ofString "__class__", .free), (PySem.Str.ofString "super", .globalImplicit)], isGenerator := false, isCoroutine := false, more := [] }
/-- what the written part says of the base class D and of its __init__ at fI -/
structure Bas (prog : Program) (K : Frag) (D fI cc : Addr) : Prop where
  fn : ∃ (oc : Value) (od : Option Addr) (doc pm : Value) (an : Option Addr) (cda : Addr) (ct : Value) (osl : Array (Option Value)) (p1 p2 p0 r1 r2 r3 r4 r5 q1 q2 q3 q4 : Pos) (ccl : Value) (cdd : Option Addr) (vs : Array Value) (ccs : Array (Option Value)) (file : Str) (tf : Tok),
    K.lookup fI = some ⟨oc, od, .func (ksFn "__init__" "KernelError.__init__" (iA p1 p2) (iB p0 r1 r2 r3 r4 r5 q1 q2 q3 q4) iS .none .none doc pm an (.ref cda) ct cc), osl⟩ ∧ codeIn K (.ref cda) "KernelError.__init__" = true ∧
    K.lookup cda = some ⟨ccl, cdd, .fields vs, ccs⟩ ∧ vs[2]? = some (.str file tf) ∧ ((prog.main.file : Str) == file) = true ∧ (r2.endLine == r4.line) = true
  cell : ∃ (cl : Value) (cld : Option Addr) (csl : Array (Option Value)), K.lookup cc = some ⟨cl, cld, .cell (some (.ref D)), csl⟩
  cls : (clsIn K D).isSome = true
  sup : nsIn K mainGlobals "super" = some none
  top : (prog.main.scope.names.lookup ("super" : Str)).isSome = false
  any : nsIn K cStatics "thirdparty.any" = some none
/-- what it says of a class C of the family -/
structure Fam (K : Frag) (D fI C : Addr) : Prop where
  cls : ∃ nm q N bs bm sn sub ab col dd k0 k1 k2 k3 k5, K.lookup C = some (excClassObj nm q C N bs bm true sn sub ab col dd k0 k1 k2 k3 k5 "ValueError.__new__") ∧ refsVE bm = true
  sa : findIn K (.ref C) "__setattr__" = some (some (.builtin "object.__setattr__"))
  ga : findIn K (.ref C) "__getattribute__" = some (some (.builtin "BaseException.__getattribute__"))
  gg : findIn K (.ref C) "__getattr__" = some none
  noN : findIn K (.ref C) "at" = some none
  iC : findIn K (.ref C) "__init__" = some (some (.ref fI))
  tC : typeIn K (.ref fI) = some (.type "function")
  kC : keepIn K (.ref C) = true
  exC : subIn K (.ref C) (.type "BaseException") = some true
  tyC : typeIn K (.ref C) = some (.type "type")
  hdC : hasDictIn K C = true
  mD : mroIn K C (.ref D) = some true
  sI : ks_superIn K C D "__init__" = some (some (.builtin "ValueError.__init__"))
  sV : subIn K (.ref C) (.type "ValueError") = some true
theorem one_size (v : Value) : [v].length ≤ sizeLine := by
  rw [sizeLine_eq]
  exact (by decide : 1 ≤ 16777216)
theorem kept_but {K : Frag} {h h' : Heap} {x : Addr} (X : K.In h) (hx : K.lookup x = none) (k : ∀ b o, b ≠ x → h.get? b = some o → h'.get? b = some o) : K.In h' := fun a o e =>
  k a o (fun z => by rw [z, hx] at e; cases e) (X a o e)
section
variable {prog : Program} {w : World} {A : Around} {E : Value → Shared → Prop} {h : Heap} {g : Array GenState} {d : Drawn} {t : Nat} {os : OsState}
/-- ValueError.__init__ bound to the error, called -/
theorem call_mw {nm q : Str} {C N u e t0 : Addr} {bs bm : List Value} {hdct : Bool} {sn : List Str} {sub : List Value} {ab : Bool} {col : Option Bool} {dd : Option Addr} {k0 k1 k2 k3 k5 : Option Value} {rest : List Value} {Q : Value → Shared → Prop}
    (hC : h.get? C = some (excClassObj nm q C N bs bm hdct sn sub ab col dd k0 k1 k2 k3 k5 "ValueError.__new__")) (he : h.get? e = some (excO C t0)) (hu : h.get? u = some (kxs_mw "ValueError.__init__" e)) (hz : rest.length ≤ sizeLine)
    (hq : ∀ h' t1, (∀ b o, b ≠ e → h.get? b = some o → h'.get? b = some o) → h'.get? e = some (excO C t1) → Q .none ⟨h', g, d, t, os⟩) :
    wpAny (model prog w) A (call (.ref u) rest) Q E ⟨h, g, d, t, os⟩ := by
  have FB := F.excBase_ValueError
  refine wpAny_call (codeAny_of_tree ?_)
  show wpAny _ A.in1 (callAny (.ref u) ⟨rest, []⟩) _ _ _
  simp only [callAny]
  refine wpAny_bind (wpAny_load hu ?_)
  simp only [kxs_mw, show (Value.type "method-wrapper" == Value.type "method" || Value.type "method-wrapper" == Value.type "builtin_function_or_method" || Value.type "method-wrapper" == Value.type "method-wrapper") = true by decide, if_true]
  refine KFB.if_so (by decide) ?_
  refine wpAny_bind (check_bound_init FB.toExcCallFacts hC he rfl ?_)
  refine wpAny_bind (wpAny_pure (wpAny_pure ?_))
  refine ⟨plainId_quiet FB.init.plain _, codeAny_builtin FB.initEntry ?_⟩
  exact exc_init_tree (cls := .ref C) (t0 := t0) (dv := none) (c2 := .none) (c3 := .none) (b4 := .bool false) he hz fun h' k e' _ => hq h' _ k e'
/-- what __init__ leaves of a fresh error at x -/
structure InitEnd (h h' : Heap) (x C dx t1 : Addr) (v : Value) : Prop where
  keep : ∀ b o, b ≠ x → h.get? b = some o → h'.get? b = some o
  obj : h'.get? x = some { cls := .ref C, dict := some dx, data := .fields #[.ref t1, .none, .none, .none, .bool false, .none] }
  dbig : h.objs.size ≤ dx
  dne : dx ≠ x
  ns : h'.Ns1 dx (fun y => if y = "at" then some v else none)
end
section
variable {prog : Program} {w : World} {A : Around} {E : Value → Shared → Prop} {R : Result → Shared → Prop} {s : Shared} {K : Frag} {mg mb : Str → Option Value} {C D fI cc : Addr}
/-- super().__init__(e), on one row -/
theorem superCall {M : Model} {c : Code} {o e : Expr} {name : Str} {apos pos : Pos} {env : Env} {Q : Value → Shared → Prop} (hl : (apos.endLine == pos.line) = true) (hf : methodCallForm 1 (backTo pos (starEach [e] env)) [] = true)
    (h : _root_.PySem.wpAt M A c (attributeBase o name env (eval o env)) (fun ov s₁ => wpAny M A (getMethod ov name (do return (← importBound o env).getD true)) (fun fx s₂ => wpAny M A (callWith pos fx.1 fx.2 (backTo pos (starEach [e] env)) []) Q E s₂) E s₁) E s) :
    _root_.PySem.wpAt M A c (eval (.Call (.Attribute o name apos) [e] [] pos) env) Q E s := by
  have hpos : methodCallPos true o env apos pos = pure pos := by unfold methodCallPos; simp [hl]
  rw [arm_eval_Call]
  refine _root_.PySem.wpAt_bind (_root_.PySem.wpAt_mono h (fun ov s₁ h₁ => _root_.PySem.wpAt_of_wpAny ?_) fun _ _ z => z)
  refine wpAny_bind (wpAny_standAt ?_)
  unfold methodCall
  rw [show methodCallForm ([e].length + ([] : List Keyword).length) (backTo pos (starEach [e] env)) (backToKw pos (keywordEach [] env)) = true from hf]
  refine wpAny_bind (wpAny_holding (wpAny_mono h₁ (fun fx s₂ h₂ => ?_) fun _ _ z => z))
  exact wpAny_bind (wpAny_of_eq hpos h₂)
theorem locs (x : Addr) (v : Value) : ∀ z ∈ [(("self" : Str), Value.ref x), (("at" : Str), v)], iS.names.lookup z.1 = some .local := fun z hz => by
  rcases List.mem_cons.mp hz with rfl | hz
  · rfl
  · rcases List.mem_cons.mp hz with rfl | hz
    · rfl
    · cases hz
theorem ke_init (B : Bas prog K D fI cc) (T : Fam K D fI C) {x t0 : Addr} {v : Value} (X : K.In s.heap) (G : s.heap.Ns mainGlobals mg) (G0 : mg "super" = none) (Gb : s.heap.Ns builtinsNs mb) (hmb : mb "super" = some (.type "super")) (hlim : s.heap.NoLimit) (hx : s.heap.get? x = some (excO C t0)) (hnx : K.lookup x = none) (hroom : A.depth < recursionLimit)
    (hq : ∀ h' tk dx t1, InitEnd s.heap h' x C dx t1 v → R (.ok (.ret .none)) { s with heap := h', toks := tk }) :
    codeAny (model prog w) A (.call (.ref fI) ⟨[.ref x, v], []⟩) R s := by
  obtain ⟨oc, od, doc, pm, an, cda, ct, osl, p1, p2, p0, r1, r2, r3, r4, r5, q1, q2, q3, q4, ccl, cdd, vs, ccs, file, tf, ho, hcd, hcode, hvs, hfile, hln⟩ := B.fn
  obtain ⟨cl, cld, csl, hcell⟩ := B.cell
  obtain ⟨nm, q, N, bs, bm, sn, sub, ab, col, dd, k0, k1, k2, k3, k5, hC, hbm⟩ := T.cls
  have hcl : clsIn K C = some { name := nm, bases := bs, mro := .ref C :: bm, ns := N, qualname := q, hasDict := true, slotNames := sn, subclasses := sub, abstract := ab, collection := col, hasDel := false } := by unfold clsIn; rw [hC] <;> rfl
  obtain ⟨cdD, hD⟩ := Option.isSome_iff_exists.mp B.cls
  refine ks_codeAny_call_defAt (fd := ksFn "__init__" "KernelError.__init__" (iA p1 p2) (iB p0 r1 r2 r3 r4 r5 q1 q2 q3 q4) iS .none .none doc pm an (.ref cda) ct cc) (body := iB p0 r1 r2 r3 r4 r5 q1 q2 q3 q4) (binds := [("self", .ref x), ("at", v)]) hroom (X _ _ ho) rfl hlim (codeRec_of X hcd) rfl (BindsTo.of_eq (by first | rfl | with_unfolding_all rfl)) (show ∀ z ∈ iS.names, z.2 ≠ .cell by decide) (locs x v) (fun h₁ hn k => ?_)
  have hxL : s.heap.objs.size ≠ x := Nat.ne_of_gt (Heap.lt_size hx)
  have X₁ : K.In h₁ := X.keeps k
  have hx₁ := k _ _ hx
  have G₁ : h₁.Ns mainGlobals mg := G.keeps k
  have Gb₁ : h₁.Ns builtinsNs mb := Gb.keeps k
  obtain ⟨oD, hD1, hD2⟩ : ∃ oD, h₁.get? D = some oD ∧ oD.data = .cls cdD := by
    unfold clsIn at hD
    split at hD
    · rename_i c d cd' sl ho
      cases hD
      exact ⟨_, X₁ _ _ ho, rfl⟩
    · cases hD
  show _root_.PySem.wpAt _ (A.deeper (ksEnv "KernelError.__init__" iS s.heap.objs.size fI (.ref cda) cc)) (.func (iB p0 r1 r2 r3 r4 r5 q1 q2 q3 q4) (ksEnv "KernelError.__init__" iS s.heap.objs.size fI (.ref cda) cc)) (execs (iB p0 r1 r2 r3 r4 r5 q1 q2 q3 q4) (ksEnv "KernelError.__init__" iS s.heap.objs.size fI (.ref cda) cc)) _ _ _
  unfold iB
  refine ks_wpAt_execs_cons ?_
  refine ks_wpAt_Expr_any ?_
  refine superCall hln (by rfl) ?_
  refine ks_wpAt_super_base (cc := cda) (f := fI) (by rfl) (by rfl) (by decide +kernel) (by rfl) (X₁ _ _ ho) (by rfl) (by rfl) (by rfl) (X₁ _ _ hcode) (by rfl) hvs hfile B.top ?_
  refine ks_loadName_global (by rfl) (by rfl) (loadGlobal_builtin G₁ G0 Gb₁ hmb ⟨rfl, ?_⟩)
  refine wpAny_loadName_free (by rfl) (by rfl) (by rfl) ⟨_, X₁ _ _ hcell, rfl⟩ ?_
  refine wpAny_loadName_local (by rfl) (by rfl) hn (by rfl) ?_
  refine ks_wpAny_isType_cls hD1 hD2 ⟨rfl, ?_⟩
  refine ks_wpAny_call_super hD1 hD2 hx₁ rfl (fun c e => by cases e) (looks_mroIn X₁ T.mD) (fun h₂ hso k₂ => ?_)
  have X₂ : K.In h₂ := X₁.keeps k₂
  have hx₂ := k₂ _ _ hx₁
  have hn₂ := hn.keeps k₂
  have hCx : x ≠ C := fun e => by rw [e, hC] at hnx; cases hnx
  have hal : alongIn K "__init__" (List.drop 1 (List.dropWhile (fun y => y != Value.ref D) (.ref C :: bm))) = some (some (.builtin "ValueError.__init__")) := by
    have h := T.sI
    unfold ks_superIn at h
    rw [hcl] at h
    exact h
  have hmro : Looks (model prog w) h₂ (mroOf (Value.ref C)) (.ref C :: bm) := fun A' Q' E' s' hk hq' =>
    _root_.PySem.wpAny_bind (looks_clsIn X₂ hcl A' _ E' s' hk (_root_.PySem.wpAny_pure hq'))
  have hinst : Looks (model prog w) h₂ (isInstance (Value.ref x) (Value.type "ValueError")) true := fun A' Q' E' s' hk hq' =>
    _root_.PySem.wpAny_bind (wpAny_typeOf_ref (hk _ _ hx₂) (looks_subIn X₂ T.sV A' Q' E' s' hk hq'))
  refine kxs_getMethod kxs_ValueError hso (looks_opaque X₂ B.any) hmro rfl X₂ hal hinst hCx (by decide) ?_
  have k₃ : ∀ b o, h₂.get? b = some o → (h₂.push (kxs_mw "ValueError.__init__" x)).get? b = some o := fun b o e => Heap.get?_push_of_some _ e
  have hu₃ : (h₂.push (kxs_mw "ValueError.__init__" x)).get? h₂.objs.size = some (kxs_mw "ValueError.__init__" x) := by heap_get
  refine kxs_callWith (i := "ValueError.__init__") (x := x) (by rfl) ?_
  show wpAny _ _ (evalArgs (.ref h₂.objs.size) true ((false, eval (Expr.Name "at" r3) _) :: []) []) _ _ _
  refine evalArgs_plain ?_
  refine spliced_cons ?_
  refine wpAny_Name (wpAny_loadName_local (by rfl) (by rfl) (hn₂.keeps k₃) (by rfl) ?_) (by decide)
  refine spliced_nil ?_
  refine ⟨hu₃, ?_⟩
  refine call_mw (k₃ _ _ (k₂ _ _ (X₁ _ _ hC))) (k₃ _ _ hx₂) hu₃ (one_size v) (fun h₄ t1 k₄ hx₄ => ?_)
  have X₄ : K.In h₄ := kept_but (X₂.keeps k₃) hnx k₄
  have hn₄ : h₄.Ns s.heap.objs.size fun y => List.lookup y [(Str.ofString "self", Value.ref x), (Str.ofString "at", v)].reverse := by
    obtain ⟨o, es, ep, e1, e2⟩ := hn₂.keeps k₃
    exact ⟨o, es, ep, k₄ _ _ hxL e1, e2⟩
  have z : s.heap.objs.size < h₁.objs.size := hn.lt
  have z2 : s.heap.objs.size < h₄.objs.size := hn₄.lt
  show _root_.PySem.wpAt _ _ _ (execs [_] _) _ _ _
  refine ks_wpAt_execs_cons ?_
  refine ks_wpAt_Assign_Attr (_root_.PySem.wpAt_of_wpAny ?_) (by rfl)
  refine wpAny_Name (wpAny_loadName_local (by rfl) (by rfl) hn₄ (by rfl) ?_) (by decide)
  refine wpAny_Name (wpAny_loadName_local (by rfl) (by rfl) hn₄ (by rfl) ?_) (by decide)
  refine set_plain X₄ (ox := excO C t1) (od := none) ⟨hx₄, rfl, rfl, trivial⟩ T.sa ?_
  refine exc_osa X₄ hx₄ hcl (show refsVE (.ref C :: bm) = true from hbm) rfl T.noN (fun h₅ tk₅ dx k₅ dn dne hx₅ hn₅ => ?_)
  refine _root_.PySem.wpAt_of_wpAny (_root_.PySem.wpAny_execs_nil (hq h₅ tk₅ dx t1 ⟨fun b o hb e => k₅ b o hb (k₄ b o hb (k₃ b o (k₂ b o (k b o e)))), hx₅, Nat.le_of_lt (Nat.lt_of_lt_of_le z2 dn), dne, hn₅⟩))
/-- a made error -/
structure OwnMade (h h' : Heap) (e C d : Addr) (v : Value) : Prop where
  keep : ∀ b o, h.get? b = some o → h'.get? b = some o
  new : h.objs.size ≤ e
  obj : ∃ t1, h'.get? e = some { cls := .ref C, dict := some d, data := .fields #[.ref t1, .none, .none, .none, .bool false, .none] }
  dbig : h.objs.size ≤ d
  dne : d ≠ e
  ns : h'.Ns1 d (fun y => if y = "at" then some v else none)
theorem ke_made (B : Bas prog K D fI cc) (T : Fam K D fI C) {v : Value} (X : K.In s.heap) (G : s.heap.Ns mainGlobals mg) (G0 : mg "super" = none) (Gb : s.heap.Ns builtinsNs mb) (hmb : mb "super" = some (.type "super")) (hlim : s.heap.NoLimit) (hroom : A.depth + 1 < recursionLimit)
    (hq : ∀ h' tk e d, OwnMade s.heap h' e C d v → R (.ok (.ret (.ref e))) { s with heap := h', toks := tk }) :
    codeAny (model prog w) A (.call (.ref C) ⟨[v], []⟩) R s := by
  obtain ⟨nm, q, N, bs, bm, sn, sub, ab, col, dd, k0, k1, k2, k3, k5, hC, hbm⟩ := T.cls
  obtain ⟨hp, g, dr, tk, os⟩ := s
  have k : ∀ b o, hp.get? b = some o → ((hp.push (kdv_tup [v])).push (excO C hp.objs.size)).get? b = some o := fun b o e => Heap.get?_push_of_some _ (Heap.get?_push_of_some _ e)
  have hget : ((hp.push (kdv_tup [v])).push (excO C hp.objs.size)).get? (hp.objs.size + 1) = some (excO C hp.objs.size) := by heap_get
  have hnx : K.lookup (hp.objs.size + 1) = none := by
    cases e : K.lookup (hp.objs.size + 1) with
    | none => rfl
    | some o =>
      have z : hp.get? (hp.objs.size + 1) = some o := X _ _ e
      exact absurd (Nat.lt_of_succ_lt (Heap.lt_size z)) (Nat.lt_irrefl _)
  refine call_own F.excBase_ValueError (fun X => refsVE_contains X bm hbm) (X _ _ hC) (looks_findIn X T.iC) (fun self => bind_fn X self T.tC) (one_size v) ?_
  refine ke_init (s := ⟨(hp.push (kdv_tup [v])).push (excO C hp.objs.size), g, dr, tk, os⟩) B T (X.keeps k) (G.keeps k) G0 (Gb.keeps k) hmb (hlim.keeps k) hget hnx ?_ fun h' tk' dx t1 ⟨k', hx, dn, dne, hns⟩ => ?_
  · show A.depth + 1 < recursionLimit
    exact hroom
  · have old : ∀ b o, hp.get? b = some o → h'.get? b = some o := fun b o e => k' b o (Nat.ne_of_lt (Nat.lt_succ_of_lt (Heap.lt_size e))) (k b o e)
    have z : hp.objs.size + 1 + 1 ≤ dx := by
      first
        | (simpa only [Heap.size_push] using dn)
        | exact dn
        | (have q := dn; rw [Heap.size_push, Heap.size_push] at q; exact q)
    exact ⟨rfl, hq h' tk' (hp.objs.size + 1) dx ⟨old, Nat.le_succ _, ⟨_, hx⟩, Nat.le_trans (Nat.le_trans (Nat.le_succ _) (Nat.le_succ _)) z, dne, hns⟩⟩
end
end VX

/-! VX2: isinstance of an error that has a dict of its own. -/
namespace VX
open PySem PySem.W PySem.Calls PyProof.Rows PySem.HandSPX
theorem classE {prog : Program} {w : World} {A : Around} {E : Value → Shared → Prop} {s : Shared} {K : Frag} {x D : Addr} {ox od : Obj} {Q : Option Value → Shared → Prop}
    (hga : findIn K (.ref D) "__getattribute__" = some (some (.builtin "BaseException.__getattribute__"))) (hgt : findIn K (.ref D) "__getattr__" = some none) (hsub : subIn K (.ref D) (.type "BaseException") = some true) (hdct : hasDictIn K D = true)
    (ha : findIn K (.ref D) "__class__" = some (some (.builtin "object.__class__"))) (hn : specialIn K (.builtin "object.__class__") "__get__" = some (some (.builtin "getset_descriptor.__get__"))) (htk : takesIn K (.builtin "object.__class__") = some true) (hm : mroIn K D (.type "object") = some true)
    (X : K.In s.heap) (I : W.InstAt s.heap x ox D (some od)) (h : Q (some (.ref D)) { s with toks := s.toks + 1 }) : wpAny (model prog w) A (getAttr? (.ref x) "__class__") Q E s := by
  have hc : (clsIn K D).isSome = true := by
    obtain ⟨cd, h1, h2⟩ := any_some hdct
    rw [h1]; rfl
  have hf := findObj_data (od := od) hc ha hn htk
  obtain ⟨hp, g, d, t, os⟩ := s
  have L0 := InstAt.type (M := model prog w) I
  have L1 := looks_findIn (M := model prog w) X hga
  have L2 := looks_findIn (M := model prog w) X hgt
  have L3 := looks_find (M := model prog w) X I hf
  have sub : Looks (model prog w) hp (isInstance (.ref x) (.type "BaseException")) true := Looks.andThen L0 (looks_subIn X hsub)
  have hx1 : (onTheHeap (Value.ref D) && (Value.builtin "BaseException.__getattribute__" == Value.builtin "object.__getattribute__")) = false := by
    rw [show (Value.builtin "BaseException.__getattribute__" == Value.builtin "object.__getattribute__") = false by decide, Bool.and_false]
  unfold getAttr?
  refine _root_.PySem.wpAny_bind (wpAny_mkText ?_)
  unfold getAttrBy?
  refine _root_.PySem.wpAny_bind (wpAny_attempt ?_)
  unfold getAttrBy
  refine wpAny_holding (_root_.PySem.wpAny_bind (Looks.at L0 (_root_.PySem.wpAny_bind (Looks.at L1 ?_))))
  show wpAny _ _ (if (onTheHeap (Value.ref D) && (Value.builtin "BaseException.__getattribute__" == Value.builtin "object.__getattribute__")) = true then _ else _) _ _ _
  rw [hx1, if_neg Bool.false_ne_true]
  unfold getAttrByItsOwn
  refine _root_.PySem.wpAny_bind ?_
  unfold hookBefore
  rw [if_pos (by rfl)]
  refine Looks.at L2 (_root_.PySem.wpAny_bind (wpAny_attempt (wpAny_holding ?_)))
  unfold callGetattribute
  rw [if_neg (by decide)]
  unfold boundAndCalled
  rw [F.excAttr_ValueError.ga.bind (Value.ref x)]
  refine _root_.PySem.wpAny_bind (wpAny_pure ?_)
  show wpAny _ _ (call (.builtin "BaseException.__getattribute__") [.ref x, .str (Str.ofString "__class__") t]) _ _ _
  refine wpAny_call ?_
  refine (codeAny_call_builtin F.excAttr_ValueError.ga.plain F.entry_bexc_ga ?_)
  refine check_slot (i := "BaseException.__getattribute__") (owner := "BaseException") (n := "__getattribute__") (self := .ref x) (rest := [.str (Str.ofString "__class__") t]) (kw := []) ?a ?b sub ?c ?d
  case a => exact PySem.W.kin_classE._proof_2
  case b => exact PySem.W.kin_classE._proof_3
  case c => exact F.args_bexc_ga (Value.ref x) (Value.str (Str.ofString "__class__") t)
  case d =>
    unfold Builtin.«object.__getattribute__»
    refine _root_.PySem.wpAny_bind (wpAny_of_eq (by rfl) ?_)
    refine _root_.PySem.wpAny_bind (wpAny_pure ?_)
    refine _root_.PySem.wpAny_bind (Looks.at L0 ?_)
    refine _root_.PySem.wpAny_bind (Looks.at L3 ?_)
    refine _root_.PySem.wpAny_bind (wpAny_holding (wpAny_call (class_get X I hm ?_)))
    refine wpAny_pure ?_
    show wpAny (model prog w) A (handedOut (.ref D)) _ _ _
    rw [handedOut_of rfl]
    exact wpAny_pure (wpAny_pure h)
/-- the class of an error, read -/
structure Isi (K : Frag) (D : Addr) : Prop where
  ga : findIn K (.ref D) "__getattribute__" = some (some (.builtin "BaseException.__getattribute__"))
  gg : findIn K (.ref D) "__getattr__" = some none
  ex : subIn K (.ref D) (.type "BaseException") = some true
  hd : hasDictIn K D = true
  ca : findIn K (.ref D) "__class__" = some (some (.builtin "object.__class__"))
  sp : specialIn K (.builtin "object.__class__") "__get__" = some (some (.builtin "getset_descriptor.__get__"))
  tk : takesIn K (.builtin "object.__class__") = some true
  ob : mroIn K D (.type "object") = some true
theorem cls_at {K : Frag} {D : Addr} {h : Heap} (X : K.In h) (hc : (clsIn K D).isSome = true) : ∃ o cd, h.get? D = some o ∧ o.data = .cls cd := by
  unfold clsIn at hc
  split at hc
  · rename_i c d cd' sl ho
    exact ⟨_, _, X _ _ ho, rfl⟩
  · cases hc
theorem kitx_err {K : Frag} {x D : Addr} {ox od : Obj} (T : Isi K D) : KitX K (.ref x) (.ref D) fun h => W.InstAt h x ox D (some od) where
  ty := fun M h X I => InstAt.type I
  it := fun M h X _ A' Q' E' s' k q => by
    obtain ⟨cd, h1, h2⟩ := any_some T.hd
    obtain ⟨o, cd', e1, e2⟩ := cls_at X (D := D) (by rw [h1]; rfl)
    obtain ⟨hp, g, d, t, os⟩ := s'
    exact ks_wpAny_isType_cls (k _ _ e1) e2 q
  ne := fun h tp dd its n sl X htp => by
    obtain ⟨cd, h1, h2⟩ := any_some T.hd
    obtain ⟨o, cd', e1, e2⟩ := cls_at X (D := D) (by rw [h1]; rfl)
    refine Bool.eq_false_iff.mpr fun q => ?_
    have e := Value.ref.inj (beq_iff_eq.mp q)
    subst e
    rw [e1] at htp
    cases htp
    cases e2
  ca := fun X I k => classE T.ga T.gg T.ex T.hd T.ca T.sp T.tk T.ob X I k
end VX

/-! VX3: errors in the tracked heap: made (to be raised, or as values), their field, isinstance. -/
namespace VX
open PySem PySem.Spec PyProof.Rows L2
/-- what the law's part says of a class of the family, by the name x -/
structure Err (prog : Program) (K : PySem.W.Frag) (mg : Str → Option Value) (x : Str) (C : Addr) : Prop where
  at_ : mg x = some (.ref C)
  sup : mg "super" = none
  bas : ∃ D fI cc, Bas prog K D fI cc ∧ Fam K D fI C
/-- .. of a class whose errors are looked at -/
structure Seen (K : PySem.W.Frag) (C : Addr) : Prop where
  isi : Isi K C
  noN : PySem.W.findIn K (.ref C) "at" = some none
theorem relO_at {v : V} {v' : Value} (r : RelV v v') (f : Str) : RelO (List.lookup f [(("at" : Str), v)]) (if f = "at" then some v' else none) := by
  by_cases hw : f = "at"
  · subst hw
    rw [if_pos rfl]
    have q : List.lookup ("at" : Str) [(("at" : Str), v)] = some v := by simp [List.lookup]
    rw [q]
    exact r
  · rw [if_neg hw]
    have qw : (f == ("at" : Str)) = false := by simpa using hw
    have q2 : List.lookup f [(("at" : Str), v)] = none := by simp [List.lookup, qw]
    rw [q2]
    trivial
/-- an error at a, of the class C, its own dict at d -/
def erO (a C d : Addr) : HO := .ext fun h => ∃ o vs, h.get? a = some o ∧ o.cls = .ref C ∧ o.dict = some d ∧ o.data = .fields vs ∧ vs[2]? = some .none
section
variable {X : Cx}
theorem glb {pins : List (Addr × Obj)} {s : Shared} {σ : L2.St} {H : Hp} (I : Inv X pins σ H s) : s.heap.Ns mainGlobals X.mg := Heap.Ns.keeps (Inv.mod I).glob (Inv.bk I)
theorem blt {pins : List (Addr × Obj)} {s : Shared} {σ : L2.St} {H : Hp} (I : Inv X pins σ H s) : ∃ mb, s.heap.Ns builtinsNs mb ∧ mb "super" = some (.type "super") := by
  obtain ⟨mb, h1, h2⟩ := (Inv.mod I).blt
  exact ⟨mb, Heap.Ns.keeps h1 (Inv.bk I), (h2 _ (by decide)).trans (by decide +kernel)⟩
theorem made {pins : List (Addr × Obj)} {s : Shared} {σ : L2.St} {H : Hp} {A : Around} {R : Result → Shared → Prop} {x : Str} {C : Addr} {v : Value} (I : Inv X pins σ H s) (T : Err X.prog X.K X.mg x C) (hroom : A.depth + 1 < recursionLimit)
    (hq : ∀ h' tk e d, OwnMade s.heap h' e C d v → R (.ok (.ret (.ref e))) { s with heap := h', toks := tk }) : codeAny (model X.prog X.w) A (.call (.ref C) ⟨[v], []⟩) R s := by
  obtain ⟨D, fI, cc, B, Fm⟩ := T.bas
  obtain ⟨mb, hb1, hb2⟩ := blt I
  exact ke_made B Fm I.kIn (glb I) T.sup hb1 hb2 I.nolimit hroom hq
/-- X(e), raised at once -/
def tMkE (C : Addr) (ta : TA) : L2.St → Hp → XK → Prop := fun σ H Q => ta σ H fun vs H1 => ∃ v, vs = [v] ∧ ∀ d, H1 d = none → Q (.ref C) (some d) (upd H1 d (.xd [(("at" : Str), v)]))
theorem pmk_ke {a : Expr} {ta : TA} {x : Str} {C : Addr} {p pos : Pos} {k : Nat} (T : Err X.prog X.K X.mg x C) (hr : Room k X.A) (ha : PA X [a] ta) (hg : Gl X x := by rfl) (hdb : (x == ("__debug__" : Str)) = false := by decide)
    (he : starEach (a :: []) X.env = (false, eval a X.env) :: starEach [] X.env := by rfl) (hpl : (backTo pos (starEach [] X.env)).any (·.1) = false := by rfl) :
    L2N.PMk X (.Call (.Name x p) [a] [] pos) (tMkE C ta) := by
  obtain ⟨D, fI, cc, B, Fm⟩ := T.bas
  intro pins s σ H Q I h
  refine wpAny_Call_Name_kw (ld_glob I hg T.at_ ?_ hdb)
  refine PySem.W.callWith_K (h₀ := X.base) I.ok.mod.kin Fm.kC (thn (ha.run pos pins s σ H _ I h) fun us s1 hh => ?_) he hpl
  obtain ⟨vs, H1, I1, r1, v, ev, q1⟩ := hh
  subst ev
  refine ⟨I1.kIn, ?_⟩
  cases r1 with
  | cons rv rn =>
    rename_i v' us'
    cases rn
    show wpAny _ _ (call (.ref C) [v']) _ _ _
    refine wpAny_call (made I1 T (by have := hr.dp; omega) fun h' tk' e d M => ?_)
    obtain ⟨hp, g, dr, tk, os⟩ := s1
    show L2N.MkP X pins σ Q (.ref e) ⟨h', g, dr, tk', os⟩
    obtain ⟨t1, hoe⟩ := M.obj
    have hns := M.ns
    obtain ⟨G', g1, g2⟩ := restrict h' fun b => decide (b ≠ e)
    have gk : ∀ b, b ≠ e → G'.get? b = h'.get? b := fun b hb => g1 b (decide_eq_true hb)
    have ge : G'.get? e = none := g2 e (by simp)
    have old : ∀ b o, hp.get? b = some o → G'.get? b = some o := fun b o q => (gk b (Nat.ne_of_lt (Nat.lt_of_lt_of_le (Heap.lt_size q) M.new))).trans (M.keep b o q)
    have ob : ObjOk X.prog X.w (upd H1 d (.xd [(("at" : Str), v)])) G' d (.xd [(("at" : Str), v)]) :=
      ⟨_, hns.at (fun o q => (gk d M.dne).trans q), fun f => relO_at rv f⟩
    have J : Inv X pins σ (upd H1 d (.xd [(("at" : Str), v)])) ⟨G', g, dr, tk', os⟩ := I1.laid (t' := tk') old M.dbig ob
    refine ⟨e, _, _, ⟨G', g, dr, tk', os⟩, _, .ref C, some d, rfl, J, fun b o q => ?_, ge, hoe, ⟨rfl, rfl, fun vs z => by cases z; rfl⟩, rfl, rfl, ?_, rfl, I1.bare, raises_own Fm.exC Fm.tyC, q1 d (I1.hok.fresh M.dbig)⟩
    · by_cases hb : b = e
      · have q' : G'.get? b = some o := q
        rw [hb, ge] at q'; cases q'
      · exact (gk b hb).symm.trans q
    · rw [upd_ne (Ne.symm M.dne)]
      exact I1.hok.fresh M.new
/-- .. as a value -/
def tNewE (C : Addr) (ta : TA) : TE := fun σ H Q => ta σ H fun vs H1 => ∃ v, vs = [v] ∧ ∀ a d, H1 a = none → H1 d = none → d ≠ a → Q (.ref a) (upd (upd H1 d (.xd [(("at" : Str), v)])) a (erO a C d))
theorem pe_newE {a : Expr} {ta : TA} {x : Str} {C : Addr} {p pos : Pos} {k : Nat} (T : Err X.prog X.K X.mg x C) (hr : Room k X.A) (ha : PA X [a] ta) (hg : Gl X x := by rfl) (hdb : (x == ("__debug__" : Str)) = false := by decide)
    (he : starEach (a :: []) X.env = (false, eval a X.env) :: starEach [] X.env := by rfl) (hpl : (backTo pos (starEach [] X.env)).any (·.1) = false := by rfl) :
    PE X (.Call (.Name x p) [a] [] pos) (tNewE C ta) := by
  obtain ⟨D, fI, cc, B, Fm⟩ := T.bas
  refine ⟨fun pins s σ H Q I h => ?_⟩
  refine wpAny_Call_Name_kw (ld_glob I hg T.at_ ?_ hdb)
  refine PySem.W.callWith_K (h₀ := X.base) I.ok.mod.kin Fm.kC (thn (ha.run pos pins s σ H _ I h) fun us s1 hh => ?_) he hpl
  obtain ⟨vs, H1, I1, r1, v, ev, q1⟩ := hh
  subst ev
  refine ⟨I1.kIn, ?_⟩
  cases r1 with
  | cons rv rn =>
    rename_i v' us'
    cases rn
    show wpAny _ _ (call (.ref C) [v']) _ _ _
    refine wpAny_call (made I1 T (by have := hr.dp; omega) fun h' tk' e d M => ?_)
    obtain ⟨hp, g, dr, tk, os⟩ := s1
    show EP X pins σ Q (.ref e) ⟨h', g, dr, tk', os⟩
    obtain ⟨t1, hoe⟩ := M.obj
    have hns := M.ns
    have hne : H1 e = none := I1.hok.fresh M.new
    have hnd : H1 d = none := I1.hok.fresh M.dbig
    obtain ⟨G', g1, g2⟩ := restrict h' fun b => decide (b ≠ e)
    have gk : ∀ b, b ≠ e → G'.get? b = h'.get? b := fun b hb => g1 b (decide_eq_true hb)
    have ge : G'.get? e = none := g2 e (by simp)
    have old : ∀ b o, hp.get? b = some o → G'.get? b = some o := fun b o q => (gk b (Nat.ne_of_lt (Nat.lt_of_lt_of_le (Heap.lt_size q) M.new))).trans (M.keep b o q)
    have ob : ObjOk X.prog X.w (upd H1 d (.xd [(("at" : Str), v)])) G' d (.xd [(("at" : Str), v)]) :=
      ⟨_, hns.at (fun o q => (gk d M.dne).trans q), fun f => relO_at rv f⟩
    have J : Inv X pins σ (upd H1 d (.xd [(("at" : Str), v)])) ⟨G', g, dr, tk', os⟩ := I1.laid (t' := tk') old M.dbig ob
    have ob0 : ObjOk X.prog X.w (upd H1 d (.xd [(("at" : Str), v)])) h' d (.xd [(("at" : Str), v)]) := ⟨_, hns, fun f => relO_at rv f⟩
    have J0 : Inv X pins σ (upd H1 d (.xd [(("at" : Str), v)])) ⟨h', g, dr, tk', os⟩ := I1.laid (t' := tk') M.keep M.dbig ob0
    have e2 : (upd H1 d (.xd [(("at" : Str), v)])) e = none := by rw [upd_ne (Ne.symm M.dne)]; exact hne
    have ob2 : ObjOk X.prog X.w (upd (upd H1 d (.xd [(("at" : Str), v)])) e (erO e C d)) h' e (erO e C d) :=
      ⟨⟨_, _, hoe, rfl, rfl, rfl, rfl⟩, ⟨_, hoe⟩, fun h1 h2 ⟨o, vs, z, z2⟩ k => ⟨o, vs, k _ z, z2⟩⟩
    have hk2 : HOk X.prog X.w (upd (upd H1 d (.xd [(("at" : Str), v)])) e (erO e C d)) h' := fun b u q => by
      by_cases hb : b = e
      · subst hb
        rw [upd_same] at q
        cases q
        exact ob2
      · rw [upd_ne hb] at q
        exact ObjOk.stay (J0.hok b u q) (fun c v x q => q) (fun c q => by rw [upd_ne (ne_of_none q e2)]; exact q) fun c xs q => by rw [upd_ne (ne_of_none q e2)]; exact q
    refine ⟨.ref e, upd (upd H1 d (.xd [(("at" : Str), v)])) e (erO e C d), Inv.un I1 ⟨fun b o q _ _ _ => M.keep b o q, fun b o q _ _ _ => ⟨o.slots, M.keep b o q⟩, fun b o q z _ => ?_, fun b o q _ => ⟨o, M.keep b o q⟩, fun b xs q => ?_, fun b o u q => ?_, fun b ps q => ⟨#[], ?_⟩⟩ hk2, rfl, q1 e d hne hnd M.dne⟩
    · rw [upd_ne, upd_ne]
      · exact z
      · exact Nat.ne_of_lt (Nat.lt_of_lt_of_le (Heap.lt_size q) M.dbig)
      · exact Nat.ne_of_lt (Nat.lt_of_lt_of_le (Heap.lt_size q) M.new)
    · rw [upd_ne (ne_of_none q hne), upd_ne (ne_of_none q hnd)]; exact q
    · rw [upd_ne (ne_of_none q hne), upd_ne (ne_of_none q hnd)]; exact q
    · rw [upd_ne (ne_of_none q hne), upd_ne (ne_of_none q hnd), Array.append_empty]; exact q
/-! ### what is read of an error -/
theorem xd_inst {h : Heap} {H : Hp} {a C dd : Addr} {oe : Obj} {vs : Array Value} {n : V} (hok : HOk X.prog X.w H h) (ha : h.get? a = some oe) (hc : oe.cls = .ref C) (hd : oe.dict = some dd) (hv : oe.data = .fields vs) (ea : H dd = some (.xd [(("at" : Str), n)])) :
    ∃ od u, PySem.W.InstAt h a oe C (some od) ∧ PySem.W.lookIn "at" od = some (some u) ∧ RelV n u := by
  have hx : ObjOk X.prog X.w H h dd (.xd [(("at" : Str), n)]) := hok dd _ ea
  obtain ⟨mA, hns, hr⟩ := hx
  obtain ⟨od, ho, hl⟩ := lookIn_ns hns
  have l : List.lookup ("at" : Str) [(("at" : Str), n)] = some n := by simp [List.lookup]
  obtain ⟨u, hu, ru⟩ := RelO.some_of (v := n) (o := mA "at") (by rw [← l]; exact hr "at")
  exact ⟨od, u, ⟨ha, hc, by unfold PySem.W.notCls; rw [hv] <;> rfl, by rw [hd]; exact ho⟩, by rw [hl, hu], ru⟩
theorem er_inst {h : Heap} {H : Hp} {a C dd : Addr} {n : V} (hok : HOk X.prog X.w H h) (ha : H a = some (erO a C dd)) (ea : H dd = some (.xd [(("at" : Str), n)])) :
    ∃ oe od u, PySem.W.InstAt h a oe C (some od) ∧ PySem.W.lookIn "at" od = some (some u) ∧ RelV n u := by
  obtain ⟨⟨o, vs, z, z1, z2, z3, _⟩, _⟩ : ObjOk X.prog X.w H h a (erO a C dd) := hok a _ ha
  obtain ⟨od, u, h1, h2, h3⟩ := xd_inst hok z z1 z2 z3 ea
  exact ⟨_, od, u, h1, h2, h3⟩
theorem at_get {A : Around} {E : Value → Shared → Prop} {s : Shared} {K : PySem.W.Frag} {x C : Addr} {ox od : Obj} {u : Value} {n : V} {Q : Value → Shared → Prop} {P : Program} {w : World} {b : Bool} (kin : K.In s.heap) (T : Seen K C) (J : PySem.W.InstAt s.heap x ox C (some od)) (hl : PySem.W.lookIn "at" od = some (some u)) (ru : RelV n u)
    (h : Q u { s with toks := s.toks + 1 }) : wpAny (model P w) A (getAttr (.ref x) "at" b) Q E s :=
  HandSPX.exc_get kin J T.isi.ga T.isi.gg T.isi.ex (PySem.W.findObj_own T.isi.hd T.noN rfl hl) (handed_of ru) h
/-- e.at of a pinned one (within the suite that handles it) -/
def tAtP (K : PySem.W.Frag) (a : Addr) (cls : Value) (d : Option Addr) (te : TE) : TE := fun σ H Q => te σ H fun x H1 => x = .ref a ∧ ∃ C dd n, cls = .ref C ∧ Seen K C ∧ d = some dd ∧ H1 dd = some (.xd [(("at" : Str), n)]) ∧ Q n H1
theorem pe_atP {a : Addr} {oe : Obj} {cls : Value} {d : Option Addr} {pn : List (Addr × Obj)} {e : Expr} {te : TE} {pos : Pos} (hz : Zc cls d oe) (hf : ∃ vs, oe.data = .fields vs) (he : PE (X.suite a ((a, oe) :: pn)) e te)
    (hb : attributeBase e "at" X.env (eval e X.env) = eval e X.env := by rfl) : PE (X.suite a ((a, oe) :: pn)) (.Attribute e "at" pos) (tAtP X.K a cls d te) := by
  refine ⟨fun pins s σ H Q I h => ?_⟩
  refine attr_of hb (thn (he.run pins s σ H _ I h) fun u s1 hh => ?_)
  obtain ⟨x, H1, I1, rx, ex, C, dd, n, ec, T, ed, ea, q⟩ := hh
  subst ex
  obtain rfl : u = Value.ref a := rx
  subst ec
  subst ed
  obtain ⟨ha, _⟩ := I1.pin (a, oe) (List.mem_append_left _ List.mem_cons_self)
  obtain ⟨vs, hd⟩ := hf
  obtain ⟨od, u, J, hl, ru⟩ := xd_inst I1.hok ha hz.1 hz.2 hd ea
  exact at_get I1.kIn T J hl ru ⟨n, H1, I1.tok _, ru, q⟩
/-- .. of one that is a value -/
def tAt (K : PySem.W.Frag) (te : TE) : TE := fun σ H Q => te σ H fun x H1 => ∃ a C dd n, x = .ref a ∧ H1 a = some (erO a C dd) ∧ Seen K C ∧ H1 dd = some (.xd [(("at" : Str), n)]) ∧ Q n H1
theorem pe_at {e : Expr} {te : TE} {pos : Pos} (he : PE X e te) (hb : attributeBase e "at" X.env (eval e X.env) = eval e X.env := by rfl) : PE X (.Attribute e "at" pos) (tAt X.K te) := by
  refine ⟨fun pins s σ H Q I h => ?_⟩
  refine attr_of hb (thn (he.run pins s σ H _ I h) fun u s1 hh => ?_)
  obtain ⟨x, H1, I1, rx, a, C, dd, n, ex, ha, T, ea, q⟩ := hh
  subst ex
  obtain rfl : u = Value.ref a := rx
  obtain ⟨oe, od, u, J, hl, ru⟩ := er_inst I1.hok ha ea
  exact at_get I1.kIn T J hl ru ⟨n, H1, I1.tok _, ru, q⟩
/-- isinstance of a pinned one -/
def rIsP (K : PySem.W.Frag) (a : Addr) (cls : Value) (d : Option Addr) : List V → Hp → VK → Prop := fun xs H Q => ∃ C dd n c cv b, cls = .ref C ∧ Seen K C ∧ d = some dd ∧ H dd = some (.xd [(("at" : Str), n)]) ∧ xs = [.ref a, c] ∧ (∀ u, RelV c u → u = cv) ∧ PySem.W.kitOne K (.ref C) cv = some b ∧ Q (.bl b) H
theorem call_isP {a : Addr} {oe : Obj} {cls : Value} {d : Option Addr} {pn : List (Addr × Obj)} (hz : Zc cls d oe) (hf : ∃ vs, oe.data = .fields vs) : CallR (X.suite a ((a, oe) :: pn)) (.builtin "isinstance") (rIsP X.K a cls d) := by
  intro pins s σ H xs us Q I r h
  obtain ⟨C, dd, n, c, cv, b, ec, T, ed, ea, ex, hc, hk, q⟩ := h
  subst ex
  subst ec
  subst ed
  cases r with
  | cons r1 r2 =>
    cases r2 with
    | cons r2 r3 =>
      cases r3
      rename_i u1 u2
      obtain rfl : u1 = Value.ref a := r1
      obtain rfl := hc _ r2
      obtain ⟨ha, _⟩ := I.pin (a, oe) (List.mem_append_left _ List.mem_cons_self)
      obtain ⟨vs, hd⟩ := hf
      obtain ⟨od, u, J, hl, ru⟩ := xd_inst I.hok ha hz.1 hz.2 hd ea
      exact PySem.W.kia_one (kitx_err T.isi) I.kIn J hk (by simp) fun tk => ⟨.bl b, H, I.tok tk, rfl, q⟩
/-- .. of one that is a value -/
def rIsV (K : PySem.W.Frag) : List V → Hp → VK → Prop := fun xs H Q => ∃ a C dd n c cv b, H a = some (erO a C dd) ∧ Seen K C ∧ H dd = some (.xd [(("at" : Str), n)]) ∧ xs = [.ref a, c] ∧ (∀ u, RelV c u → u = cv) ∧ PySem.W.kitOne K (.ref C) cv = some b ∧ Q (.bl b) H
theorem call_isV : CallR X (.builtin "isinstance") (rIsV X.K) := by
  intro pins s σ H xs us Q I r h
  obtain ⟨a, C, dd, n, c, cv, b, ha, T, ea, ex, hc, hk, q⟩ := h
  subst ex
  cases r with
  | cons r1 r2 =>
    cases r2 with
    | cons r2 r3 =>
      cases r3
      rename_i u1 u2
      obtain rfl : u1 = Value.ref a := r1
      obtain rfl := hc _ r2
      obtain ⟨oe, od, u, J, hl, ru⟩ := er_inst I.hok ha ea
      exact PySem.W.kia_one (kitx_err T.isi) I.kIn J hk (by simp) fun tk => ⟨.bl b, H, I.tok tk, rfl, q⟩
end
end VX

/-! VL1: plain values, how they lie in the tracked heap, the judgements of expressions. -/
namespace VL
open PySem PySem.Spec PyProof.Rows L2

/-! ### 1. plain values -/
inductive Val where
  | non | bl (b : Bool) | int (i : Int) | str (x : Str)
  | tup (xs : List Val) | lst (xs : List Val)
  /-- t: its keys are tuples -/
  | dic (t : Bool) (kvs : List (Val × Val))
  /-- a tuple of the written part -/
  | wtup (xs : List Val)
  /-- a list that nobody changes, in whichever part -/
  | wlst (xs : List Val)
  /-- an object of the written part, an instance: by its address -/
  | adr (a : Addr)
  /-- an error that a suite holds: where it stands, its class, its own dict, its number -/
  | exv (a c d : Addr) (n : Int)
  /-- an error as a value -/
  | err (c : Addr) (n : Int)

def atF (n : Int) : List (Str × V) := [(("at" : Str), V.int n)]
def kVal : Key → Val
  | .inl i => .int i
  | .inr x => .str x
def kK (p : Key × V) : Val × V := (kVal p.1, p.2)
def kT (p : List Key × V) : Val × V := (.tup (p.1.map kVal), p.2)
def Hp0 : Hp := fun _ => none

mutual
/-- w is the value v, all of it in the part F of the heap that is never changed -/
inductive Rep (K : PySem.W.Frag) (F : Hp) : V → Val → Prop
  | non : Rep K F .non .non
  | bl (b : Bool) : Rep K F (.bl b) (.bl b)
  | int (i : Int) : Rep K F (.int i) (.int i)
  | str (x : Str) : Rep K F (.str x) (.str x)
  | adr (a : Addr) : Rep K F (.ref a) (.adr a)
  | exv {a c d : Addr} {n : Int} : F d = some (.xd (atF n)) → Rep K F (.ref a) (.exv a c d n)
  | err {a c d : Addr} {n : Int} : F a = some (VX.erO a c d) → F d = some (.xd (atF n)) → Rep K F (.ref a) (.err c n)
  | tup {a : Addr} {ws : List V} {vs : List Val} : F a = some (.tup ws) → Reps K F ws vs → Rep K F (.ref a) (.tup vs)
  | tupW {a : Addr} {ws : List V} {vs : List Val} : SqT K Hp0 a ws → Reps K F ws vs → Rep K F (.ref a) (.wtup vs)
  | lstW {a : Addr} {ws : List V} {vs : List Val} : SqL K F a ws → Reps K F ws vs → Rep K F (.ref a) (.wlst vs)
  | lst {a : Addr} {ws : List V} {vs : List Val} : F a = some (.lst ws) → Reps K F ws vs → Rep K F (.ref a) (.lst vs)
  | dK {a : Addr} {l : List (Key × V)} {kvs : List (Val × Val)} : Rd F a (.dK l) → RepP K F (l.map kK) kvs → Rep K F (.ref a) (.dic false kvs)
  | dT {a : Addr} {l : List (List Key × V)} {kvs : List (Val × Val)} : Rd F a (.dT l) → RepP K F (l.map kT) kvs → Rep K F (.ref a) (.dic true kvs)
inductive Reps (K : PySem.W.Frag) (F : Hp) : List V → List Val → Prop
  | nil : Reps K F [] []
  | cons {w : V} {ws : List V} {v : Val} {vs : List Val} : Rep K F w v → Reps K F ws vs → Reps K F (w :: ws) (v :: vs)
inductive RepP (K : PySem.W.Frag) (F : Hp) : List (Val × V) → List (Val × Val) → Prop
  | nil : RepP K F [] []
  | cons {k : Val} {w : V} {l : List (Val × V)} {v : Val} {kvs : List (Val × Val)} : Rep K F w v → RepP K F l kvs → RepP K F ((k, w) :: l) ((k, v) :: kvs)
end

def Sub (F F' : Hp) : Prop := ∀ a o, F a = some o → F' a = some o
theorem Sub.refl (F : Hp) : Sub F F := fun _ _ h => h
theorem Sub.trans {F F1 F2 : Hp} (a : Sub F F1) (b : Sub F1 F2) : Sub F F2 := fun c o h => b c o (a c o h)
theorem Sub.upd {F : Hp} {a : Addr} {o : HO} (h : F a = none) : Sub F (upd F a o) := fun b u e => by
  rw [upd_ne (ne_of_none e h)]; exact e
theorem Sub.rd {F F' : Hp} (s : Sub F F') {a : Addr} {u : HO} : Rd F a u → Rd F' a u
  | .inl h => .inl (s _ _ h)
  | .inr ⟨o, h⟩ => .inr ⟨o, s _ _ h⟩
theorem Sub.none {F F' : Hp} (s : Sub F F') {a : Addr} (h : F' a = none) : F a = none := by
  cases q : F a with
  | none => rfl
  | some o => rw [s a o q] at h; cases h

theorem Sub.seqL {K : PySem.W.Frag} {F F' : Hp} (s : Sub F F') {a : Addr} {ws : List V} : SqL K F a ws → SqL K F' a ws
  | .inl h => .inl (s.rd h)
  | .inr h => .inr h
section
variable {K : PySem.W.Frag}
mutual
theorem Rep.mono {F F' : Hp} (hs : Sub F F') : ∀ {w : V} {v : Val}, Rep K F w v → Rep K F' w v
  | _, _, .non => .non
  | _, _, .bl b => .bl b
  | _, _, .int i => .int i
  | _, _, .str x => .str x
  | _, _, .adr a => .adr a
  | _, _, .exv e => .exv (hs _ _ e)
  | _, _, .err e e2 => .err (hs _ _ e) (hs _ _ e2)
  | _, _, .tup e r => .tup (hs _ _ e) (Reps.mono hs r)
  | _, _, .tupW e r => .tupW e (Reps.mono hs r)
  | _, _, .lstW e r => .lstW (hs.seqL e) (Reps.mono hs r)
  | _, _, .lst e r => .lst (hs _ _ e) (Reps.mono hs r)
  | _, _, .dK e r => .dK (hs.rd e) (RepP.mono hs r)
  | _, _, .dT e r => .dT (hs.rd e) (RepP.mono hs r)
theorem Reps.mono {F F' : Hp} (hs : Sub F F') : ∀ {ws : List V} {vs : List Val}, Reps K F ws vs → Reps K F' ws vs
  | _, _, .nil => .nil
  | _, _, .cons r t => .cons (Rep.mono hs r) (Reps.mono hs t)
theorem RepP.mono {F F' : Hp} (hs : Sub F F') : ∀ {l : List (Val × V)} {kvs : List (Val × Val)}, RepP K F l kvs → RepP K F' l kvs
  | _, _, .nil => .nil
  | _, _, .cons r t => .cons (Rep.mono hs r) (RepP.mono hs t)
end

/-! ### lists of values -/
variable {F : Hp}
theorem Reps.length : ∀ {ws : List V} {vs : List Val}, Reps K F ws vs → ws.length = vs.length
  | _, _, .nil => rfl
  | _, _, .cons _ t => by rw [List.length_cons, List.length_cons, Reps.length t]
theorem Reps.at : ∀ {ws : List V} {vs : List Val} {i : Nat} {w : V}, Reps K F ws vs → ws[i]? = some w → ∃ v, vs[i]? = some v ∧ Rep K F w v
  | _, _, i, _, .nil, e => by simp at e
  | _, _, 0, _, .cons r _, e => by simp at e; subst e; exact ⟨_, rfl, r⟩
  | _, _, i + 1, _, .cons _ t, e => by
    obtain ⟨v, h1, h2⟩ := Reps.at (i := i) t (by simpa using e)
    exact ⟨v, by simpa using h1, h2⟩
theorem Reps.at' : ∀ {ws : List V} {vs : List Val} {i : Nat} {v : Val}, Reps K F ws vs → vs[i]? = some v → ∃ w, ws[i]? = some w ∧ Rep K F w v
  | _, _, i, _, .nil, e => by simp at e
  | _, _, 0, _, .cons r _, e => by simp at e; subst e; exact ⟨_, rfl, r⟩
  | _, _, i + 1, _, .cons _ t, e => by
    obtain ⟨v, h1, h2⟩ := Reps.at' (i := i) t (by simpa using e)
    exact ⟨v, by simpa using h1, h2⟩
theorem Reps.append : ∀ {ws us : List V} {vs zs : List Val}, Reps K F ws vs → Reps K F us zs → Reps K F (ws ++ us) (vs ++ zs)
  | _, _, _, _, .nil, s => s
  | _, _, _, _, .cons r t, s => .cons r (Reps.append t s)
theorem Reps.set {w : V} {v : Val} (r : Rep K F w v) : ∀ {ws : List V} {vs : List Val} (i : Nat), Reps K F ws vs → Reps K F (ws.set i w) (vs.set i v)
  | _, _, _, .nil => .nil
  | _, _, 0, .cons _ t => .cons r t
  | _, _, i + 1, .cons q t => .cons q (Reps.set r i t)
theorem Reps.take : ∀ {ws : List V} {vs : List Val} (n : Nat), Reps K F ws vs → Reps K F (ws.take n) (vs.take n)
  | _, _, 0, _ => .nil
  | _, _, _ + 1, .nil => .nil
  | _, _, n + 1, .cons r t => .cons r (Reps.take n t)
theorem Reps.drop : ∀ {ws : List V} {vs : List Val} (n : Nat), Reps K F ws vs → Reps K F (ws.drop n) (vs.drop n)
  | _, _, 0, r => r
  | _, _, _ + 1, .nil => .nil
  | _, _, n + 1, .cons _ t => Reps.drop n t
theorem Reps.ints : ∀ (ns : List Int), Reps K F (ns.map V.int) (ns.map Val.int)
  | [] => .nil
  | n :: r => .cons (.int n) (Reps.ints r)
theorem RepP.length : ∀ {l : List (Val × V)} {kvs : List (Val × Val)}, RepP K F l kvs → l.length = kvs.length
  | _, _, .nil => rfl
  | _, _, .cons _ t => by rw [List.length_cons, List.length_cons, RepP.length t]
theorem RepP.keys : ∀ {l : List (Val × V)} {kvs : List (Val × Val)}, RepP K F l kvs → l.map (·.1) = kvs.map (·.1)
  | _, _, .nil => rfl
  | _, _, .cons _ t => by rw [List.map_cons, List.map_cons, RepP.keys t]
theorem Rep.seqL {xs : List Val} {w : V} (r : Rep K F w (.lst xs)) : ∃ a ws, w = .ref a ∧ F a = some (.lst ws) ∧ Reps K F ws xs := by
  cases r with
  | lst e r => exact ⟨_, _, rfl, e, r⟩
theorem Rep.seqT {xs : List Val} {w : V} (r : Rep K F w (.tup xs)) : ∃ a ws, w = .ref a ∧ F a = some (.tup ws) ∧ Reps K F ws xs := by
  cases r with
  | tup e r => exact ⟨_, _, rfl, e, r⟩
theorem Rep.seqW {xs : List Val} {w : V} (r : Rep K F w (.wtup xs)) : ∃ a ws, w = .ref a ∧ SqT K F a ws ∧ Reps K F ws xs := by
  cases r with
  | tupW e r =>
    refine ⟨_, _, rfl, ?_, r⟩
    rcases e with (e | ⟨o, e⟩) | e
    · cases e
    · cases e
    · exact .inr e
theorem Rep.seqV {xs : List Val} {w : V} (r : Rep K F w (.wlst xs)) : ∃ a ws, w = .ref a ∧ SqL K F a ws ∧ Reps K F ws xs := by
  cases r with
  | lstW e r => exact ⟨_, _, rfl, e, r⟩
theorem Sub.seqT {F F' : Hp} (s : Sub F F') {a : Addr} {ws : List V} : SqT K F a ws → SqT K F' a ws
  | .inl h => .inl (s.rd h)
  | .inr h => .inr h
end

/-! ### 2. variables: values that may be shared, and own lists and dicts -/
inductive OT where
  | sh (v : Val)
  | oL (xs : List Val)
  | oD (t : Bool) (kvs : List (Val × Val))
  /-- an own dict that is walked just now: read, not written -/
  | oR (t : Bool) (kvs : List (Val × Val))
  | oT (xs : List OT)

mutual
def OT.val : OT → Val
  | .sh v => v
  | .oL xs => .lst xs
  | .oD t kvs => .dic t kvs
  | .oR t kvs => .dic t kvs
  | .oT xs => .tup (OT.vals xs)
def OT.vals : List OT → List Val
  | [] => []
  | t :: r => t.val :: OT.vals r
end

mutual
/-- A: the addresses that are its own -/
inductive RepO (K : PySem.W.Frag) (F H : Hp) : (Addr → Prop) → V → OT → Prop
  | sh {A : Addr → Prop} {w : V} {v : Val} : Rep K F w v → RepO K F H A w (.sh v)
  | oL {A : Addr → Prop} {a : Addr} {ws : List V} {vs : List Val} : H a = some (.lst ws) → A a → Reps K F ws vs → RepO K F H A (.ref a) (.oL vs)
  | oK {A : Addr → Prop} {a : Addr} {l : List (Key × V)} {kvs : List (Val × Val)} : H a = some (.dK l) → A a → RepP K F (l.map kK) kvs → RepO K F H A (.ref a) (.oD false kvs)
  | oDT {A : Addr → Prop} {a : Addr} {l : List (List Key × V)} {kvs : List (Val × Val)} : H a = some (.dT l) → A a → RepP K F (l.map kT) kvs → RepO K F H A (.ref a) (.oD true kvs)
  | oRK {A : Addr → Prop} {a : Addr} {o : Obj} {l : List (Key × V)} {kvs : List (Val × Val)} : H a = some (.frz o (.dK l)) → A a → RepP K F (l.map kK) kvs → RepO K F H A (.ref a) (.oR false kvs)
  | oRT {A : Addr → Prop} {a : Addr} {o : Obj} {l : List (List Key × V)} {kvs : List (Val × Val)} : H a = some (.frz o (.dT l)) → A a → RepP K F (l.map kT) kvs → RepO K F H A (.ref a) (.oR true kvs)
  | oT {A : Addr → Prop} {a : Addr} {ws : List V} {xs : List OT} : F a = some (.tup ws) → RepOs K F H A ws xs → RepO K F H A (.ref a) (.oT xs)
inductive RepOs (K : PySem.W.Frag) (F H : Hp) : (Addr → Prop) → List V → List OT → Prop
  | nil {A : Addr → Prop} : RepOs K F H A [] []
  | cons {A A1 A2 : Addr → Prop} {w : V} {ws : List V} {t : OT} {ts : List OT} : RepO K F H A1 w t → RepOs K F H A2 ws ts → (∀ a, A1 a → A2 a → False) → (∀ a, A1 a → A a) → (∀ a, A2 a → A a) → RepOs K F H A (w :: ws) (t :: ts)
end
section
variable {K : PySem.W.Frag}
mutual
theorem RepO.mono {F F' H H' : Hp} (hs : Sub F F') : ∀ {A B : Addr → Prop} {w : V} {t : OT}, (∀ a, A a → B a) → (∀ a, A a → H' a = H a) → RepO K F H A w t → RepO K F' H' B w t
  | _, _, _, _, _, _, .sh r => .sh (r.mono hs)
  | _, _, _, _, hb, hk, .oL e a r => .oL ((hk _ a).trans e) (hb _ a) (r.mono hs)
  | _, _, _, _, hb, hk, .oK e a r => .oK ((hk _ a).trans e) (hb _ a) (r.mono hs)
  | _, _, _, _, hb, hk, .oDT e a r => .oDT ((hk _ a).trans e) (hb _ a) (r.mono hs)
  | _, _, _, _, hb, hk, .oRK e a r => .oRK ((hk _ a).trans e) (hb _ a) (r.mono hs)
  | _, _, _, _, hb, hk, .oRT e a r => .oRT ((hk _ a).trans e) (hb _ a) (r.mono hs)
  | _, _, _, _, hb, hk, .oT e r => .oT (hs _ _ e) (RepOs.mono hs hb hk r)
theorem RepOs.mono {F F' H H' : Hp} (hs : Sub F F') : ∀ {A B : Addr → Prop} {ws : List V} {ts : List OT}, (∀ a, A a → B a) → (∀ a, A a → H' a = H a) → RepOs K F H A ws ts → RepOs K F' H' B ws ts
  | _, _, _, _, _, _, .nil => .nil
  | _, _, _, _, hb, hk, .cons r t d h1 h2 => .cons (RepO.mono hs (fun _ z => z) (fun a z => hk a (h1 a z)) r) (RepOs.mono hs (fun _ z => z) (fun a z => hk a (h2 a z)) t) d (fun a z => hb a (h1 a z)) (fun a z => hb a (h2 a z))
end
mutual
/-- read, in any part B of the heap that has it all -/
theorem RepO.read {F H B : Hp} (hs : Sub F B) : ∀ {A : Addr → Prop} {w : V} {t : OT}, (∀ a, A a → B a = H a) → RepO K F H A w t → Rep K B w t.val
  | _, _, _, _, .sh r => r.mono hs
  | _, _, _, hk, .oL e a r => .lst ((hk _ a).trans e) (r.mono hs)
  | _, _, _, hk, .oK e a r => .dK (.inl ((hk _ a).trans e)) (r.mono hs)
  | _, _, _, hk, .oDT e a r => .dT (.inl ((hk _ a).trans e)) (r.mono hs)
  | _, _, _, hk, .oRK e a r => .dK (.inr ⟨_, (hk _ a).trans e⟩) (r.mono hs)
  | _, _, _, hk, .oRT e a r => .dT (.inr ⟨_, (hk _ a).trans e⟩) (r.mono hs)
  | _, _, _, hk, .oT e r => .tup (hs _ _ e) (RepOs.read hs hk r)
theorem RepOs.read {F H B : Hp} (hs : Sub F B) : ∀ {A : Addr → Prop} {ws : List V} {ts : List OT}, (∀ a, A a → B a = H a) → RepOs K F H A ws ts → Reps K B ws (OT.vals ts)
  | _, _, _, _, .nil => .nil
  | _, _, _, hk, .cons r t d h1 h2 => .cons (RepO.read hs (fun a z => hk a (h1 a z)) r) (RepOs.read hs (fun a z => hk a (h2 a z)) t)
end
end

/-! ### 3. worlds: what else may be changed (instances); the plain one has none -/
structure Wo where
  S : Type
  rel : Hp → Hp → S → (Addr → Prop) → Prop
  own : ∀ {F H s fp a}, rel F H s fp → fp a → F a = none ∧ (∃ o, H a = some o) ∧ (∀ ws, H a ≠ some (.tup ws)) ∧ ∀ fs, H a ≠ some (.xd fs)
  mono : ∀ {F H F' H' : Hp} {s : S} {fp : Addr → Prop}, rel F H s fp → Sub F F' → (∀ a, fp a → H' a = H a ∧ F' a = none) → rel F' H' s fp
def W0 : Wo where
  S := Unit
  rel := fun _ _ _ fp => ∀ a, ¬ fp a
  own := fun h z => absurd z (h _)
  mono := fun h _ _ => h

/-- the ghost: the part that never changes, what the world owns, what each variable owns -/
structure Gh where
  F : Hp
  fp : Addr → Prop
  ad : Nat → Addr → Prop

abbrev En := List (Option OT)

structure RelW (W : Wo) (G : Gh) (s : W.S) (H : Hp) : Prop where
  sub : Sub G.F H
  tups : ∀ a ws, H a = some (.tup ws) → G.F a = some (.tup ws)
  lk : ∀ a, (∀ l, G.F a ≠ some (.dK l)) ∧ ∀ l, G.F a ≠ some (.dT l)
  wrl : W.rel G.F H s G.fp
structure Rel (W : Wo) (K : PySem.W.Frag) (G : Gh) (ρ : En) (s : W.S) (σ : L2.St) (H : Hp) : Prop extends RelW W G s H where
  len : ρ.length = σ.length
  slot : ∀ i t, ρ[i]? = some (some t) → ∃ w, σ[i]? = some (some w) ∧ RepO K G.F H (G.ad i) w t
  own : ∀ i a, G.ad i a → G.F a = none ∧ (∃ o, H a = some o ∧ ∀ ws, o ≠ .tup ws) ∧ ¬ G.fp a
  dis : ∀ i j a, i ≠ j → G.ad i a → ¬ G.ad j a

/-- behind an expression -/
structure Nx (G G' : Gh) (H H' : Hp) : Prop where
  sub : Sub G.F G'.F
  keep : ∀ a o, H a = some o → ¬ G.fp a → H' a = some o
  there : ∀ a, H' a = none → H a = none
  ad : G'.ad = G.ad
  fp : ∀ a, G'.fp a → G.fp a ∨ H a = none
  fz : ∀ a o, G'.F a = some o → G.F a = some o ∨ H a = none ∨ G.fp a ∨ ∃ ws, o = .tup ws
theorem Nx.refl (G : Gh) (H : Hp) : Nx G G H H := ⟨Sub.refl _, fun _ _ h _ => h, fun _ h => h, rfl, fun _ h => .inl h, fun _ _ h => .inl h⟩
theorem Nx.trans {G G1 G2 : Gh} {H H1 H2 : Hp} (x : Nx G G1 H H1) (y : Nx G1 G2 H1 H2) : Nx G G2 H H2 where
  sub := x.sub.trans y.sub
  keep := fun a o e n => y.keep a o (x.keep a o e n) fun z => by
    rcases x.fp a z with q | q
    · exact n q
    · rw [e] at q; cases q
  there := fun a h => x.there a (y.there a h)
  ad := y.ad.trans x.ad
  fp := fun a z => by
    rcases y.fp a z with q | q
    · exact x.fp a q
    · exact .inr (x.there a q)
  fz := fun a o e => by
    rcases y.fz a o e with q | q | q | q
    · exact x.fz a o q
    · exact .inr (.inl (x.there a q))
    · rcases x.fp a q with r | r
      · exact .inr (.inr (.inl r))
      · exact .inr (.inl r)
    · exact .inr (.inr (.inr q))

section
variable {W : Wo} {K : PySem.W.Frag} {G G' : Gh} {ρ : En} {s s' : W.S} {σ : L2.St} {H H' : Hp}
theorem Rel.next (r : Rel W K G ρ s σ H) (x : Nx G G' H H') (rw' : RelW W G' s' H') : Rel W K G' ρ s' σ H' where
  toRelW := rw'
  len := r.len
  slot := fun i t e => by
    obtain ⟨w, h1, h2⟩ := r.slot i t e
    refine ⟨w, h1, h2.mono x.sub (fun a z => by rw [x.ad]; exact z) fun a z => ?_⟩
    obtain ⟨_, ⟨o, e, _⟩, n⟩ := r.own i a z
    rw [e]; exact x.keep a o e n
  own := fun i a z => by
    rw [x.ad] at z
    obtain ⟨h1, ⟨o, e, nt⟩, n⟩ := r.own i a z
    have e' := x.keep a o e n
    refine ⟨?_, ⟨o, e', nt⟩, fun q => ?_⟩
    · cases q : G'.F a with
      | none => rfl
      | some u =>
        rcases x.fz a u q with z' | z' | z' | ⟨ws, z'⟩
        · rw [h1] at z'; cases z'
        · rw [e] at z'; cases z'
        · exact absurd z' n
        · have := rw'.sub a u q
          rw [e'] at this
          cases this
          exact absurd z' (nt ws)
    · rcases x.fp a q with z' | z'
      · exact n z'
      · rw [e] at z'; cases z'
  dis := fun i j a h z => by rw [x.ad] at z ⊢; exact r.dis i j a h z
theorem RelW.free (r : RelW W G s H) {p : Addr} (hp : H p = none) : G.F p = none := r.sub.none hp
/-- a new object that nobody owns -/
theorem RelW.laid {p : Addr} {o : HO} (r : RelW W G s H) (hp : H p = none) (ht : ∀ ws, o ≠ .tup ws) : Nx G G H (upd H p o) ∧ RelW W G s (upd H p o) := by
  refine ⟨⟨Sub.refl _, fun a u e _ => by rw [upd_ne (ne_of_none e hp)]; exact e, fun a h => ?_, rfl, fun _ z => .inl z, fun _ _ e => .inl e⟩, fun a u e => ?_, fun a ws e => ?_, r.lk, ?_⟩
  · by_cases q : a = p
    · rw [q]; exact hp
    · rw [upd_ne q] at h; exact h
  · rw [upd_ne (ne_of_none (r.sub a u e) hp)]; exact r.sub a u e
  · by_cases q : a = p
    · rw [q, upd_same] at e; exact absurd (Option.some.inj e) (ht ws)
    · rw [upd_ne q] at e; exact r.tups a ws e
  · refine W.mono r.wrl (Sub.refl _) fun a z => ?_
    obtain ⟨h1, ⟨o', h2⟩, _⟩ := W.own r.wrl z
    exact ⟨upd_ne (ne_of_none h2 hp), h1⟩
/-- a new object, never to be changed -/
theorem RelW.fresh {p : Addr} {o : HO} (r : RelW W G s H) (hp : H p = none) (hl : (∀ l, o ≠ .dK l) ∧ ∀ l, o ≠ .dT l) : Nx G { G with F := upd G.F p o } H (upd H p o) ∧ RelW W { G with F := upd G.F p o } s (upd H p o) := by
  have hF : G.F p = none := r.free hp
  refine ⟨⟨Sub.upd hF, fun a u e _ => by rw [upd_ne (ne_of_none e hp)]; exact e, fun a h => ?_, rfl, fun _ z => .inl z, fun a u e => ?_⟩, fun a u e => ?_, fun a ws e => ?_, fun a => ?_, ?_⟩
  · by_cases q : a = p
    · rw [q]; exact hp
    · rw [upd_ne q] at h; exact h
  · by_cases q : a = p
    · subst q; exact .inr (.inl hp)
    · have e' : upd G.F p o a = some u := e
      rw [upd_ne q] at e'; exact .inl e'
  · have e' : upd G.F p o a = some u := e
    by_cases q : a = p
    · subst q; rw [upd_same] at e' ⊢; exact e'
    · rw [upd_ne q] at e' ⊢; exact r.sub a u e'
  · show upd G.F p o a = _
    by_cases q : a = p
    · subst q; rw [upd_same] at e ⊢; exact e
    · rw [upd_ne q] at e ⊢; exact r.tups a ws e
  · refine ⟨fun l e => ?_, fun l e => ?_⟩
    · have e' : upd G.F p o a = some (.dK l) := e
      by_cases q : a = p
      · subst q; rw [upd_same] at e'; exact hl.1 l (Option.some.inj e')
      · rw [upd_ne q] at e'; exact (r.lk a).1 l e'
    · have e' : upd G.F p o a = some (.dT l) := e
      by_cases q : a = p
      · subst q; rw [upd_same] at e'; exact hl.2 l (Option.some.inj e')
      · rw [upd_ne q] at e'; exact (r.lk a).2 l e'
  · refine W.mono r.wrl (Sub.upd hF) fun a z => ?_
    obtain ⟨h1, ⟨o', h2⟩, _⟩ := W.own r.wrl z
    have q : a ≠ p := ne_of_none h2 hp
    exact ⟨upd_ne q, by show upd G.F p o a = none; rw [upd_ne q]; exact h1⟩
/-- one's own object becomes one that is never changed -/
theorem RelW.freeze {p : Addr} {u o : HO} (r : RelW W G s H) (hp : H p = some u) (hn : G.F p = none) (hf : ¬ G.fp p) (hl : (∀ l, o ≠ .dK l) ∧ ∀ l, o ≠ .dT l) (ht : ∀ ws, o ≠ .tup ws) : RelW W { G with F := upd G.F p o } s (upd H p o) := by
  refine ⟨fun a u e => ?_, fun a ws e => ?_, fun a => ?_, ?_⟩
  · have e' : upd G.F p o a = some u := e
    by_cases q : a = p
    · subst q; rw [upd_same] at e' ⊢; exact e'
    · rw [upd_ne q] at e' ⊢; exact r.sub a u e'
  · show upd G.F p o a = _
    by_cases q : a = p
    · subst q; rw [upd_same] at e; exact absurd (Option.some.inj e) (ht ws)
    · rw [upd_ne q] at e ⊢; exact r.tups a ws e
  · refine ⟨fun l e => ?_, fun l e => ?_⟩
    · have e' : upd G.F p o a = some (.dK l) := e
      by_cases q : a = p
      · subst q; rw [upd_same] at e'; exact hl.1 l (Option.some.inj e')
      · rw [upd_ne q] at e'; exact (r.lk a).1 l e'
    · have e' : upd G.F p o a = some (.dT l) := e
      by_cases q : a = p
      · subst q; rw [upd_same] at e'; exact hl.2 l (Option.some.inj e')
      · rw [upd_ne q] at e'; exact (r.lk a).2 l e'
  · refine W.mono r.wrl (Sub.upd hn) fun a z => ?_
    have q : a ≠ p := fun e => hf (e ▸ z)
    exact ⟨upd_ne q, by show upd G.F p o a = none; rw [upd_ne q]; exact (W.own r.wrl z).1⟩
end

/-! ### 4. what comes of a reading -/
inductive R (S α : Type) where
  | ok (a : α) (s : S)
  | exc (c : Addr) (n : Int) (s : S)
  | bad
def R.bind {S α β : Type} (r : R S α) (f : α → S → R S β) : R S β := match r with
  | .ok a s => f a s
  | .exc c n s => .exc c n s
  | .bad => .bad
def R.opt {S α : Type} (o : Option α) (s : S) : R S α := match o with
  | some a => .ok a s
  | none => .bad
def R.map {S α β : Type} (f : α → β) (r : R S α) : R S β := match r with
  | .ok a s => .ok (f a) s
  | .exc c n s => .exc c n s
  | .bad => .bad
abbrev Sm (W : Wo) (α : Type) := En → W.S → R W.S α
abbrev Ev (W : Wo) := Sm W Val

abbrev RP (γ α : Type) := Gh → Hp → γ → α → Prop
/-- the end of an expression -/
def Pst {α γ : Type} (W : Wo) (K : PySem.W.Frag) (E : WX) (P : RP γ α) (G : Gh) (ρ : En) (σ : L2.St) (H : Hp) (r : R W.S α) (Q : γ → Hp → Prop) : Prop := match r with
  | .ok v s' => ∀ G' H' w, Nx G G' H H' → Rel W K G' ρ s' σ H' → P G' H' w v → Q w H'
  | .exc c n s' => ∀ G' H' d, Nx G G' H H' → Rel W K G' ρ s' σ H' → H d = none → H' d = some (.xd (atF n)) → E (.ref c) (some d) σ H'
  | .bad => False
def tG {α γ : Type} (W : Wo) (K : PySem.W.Frag) (E : WX) (P : Hp → RP γ α) (f : Sm W α) (σ : L2.St) (H : Hp) (Q : γ → Hp → Prop) : Prop :=
  ∃ G ρ s, Rel W K G ρ s σ H ∧ Pst W K E (P H) G ρ σ H (f ρ s) Q

/-- a value in the part that never changes -/
def pV (K : PySem.W.Frag) : Hp → RP V Val := fun _ G _ w v => Rep K G.F w v
/-- a variable's value, or any value -/
def pP (K : PySem.W.Frag) : Hp → RP V OT := fun _ G H w t => ∃ A, RepO K G.F H A w t ∧ ∀ a, A a → ∃ i, G.ad i a
/-- what may be looked at -/
def pB (K : PySem.W.Frag) : Hp → RP V Val := fun _ G H w v => ∃ B, Sub B H ∧ (∀ a o, B a = some o → ¬ G.fp a) ∧ Rep K B w v
/-- a new value, its parts its own -/
def pF (K : PySem.W.Frag) : Hp → RP V OT := fun H0 G H w t => ∃ A, RepO K G.F H A w t ∧ ∀ a, A a → H0 a = none ∧ G.F a = none ∧ (∃ o, H a = some o ∧ ∀ ws, o ≠ .tup ws) ∧ ¬ G.fp a ∧ ∀ i, ¬ G.ad i a
def pT : Hp → RP Bool Bool := fun _ _ _ c b => c = b
def pVs (K : PySem.W.Frag) : Hp → RP (List V) (List Val) := fun _ G _ w v => Reps K G.F w v

/-- e is worth f: a value; a place; a thing to be looked at; a new thing; a test; arguments -/
def VE (W : Wo) (X : Cx) (E : WX) (e : Expr) (f : Ev W) : Prop := PE X e (tG W X.K E (pV X.K) f)
def VP (W : Wo) (X : Cx) (E : WX) (e : Expr) (f : Sm W OT) : Prop := PE X e (tG W X.K E (pP X.K) f)
def VB (W : Wo) (X : Cx) (E : WX) (e : Expr) (f : Ev W) : Prop := PE X e (tG W X.K E (pB X.K) f)
def VF (W : Wo) (X : Cx) (E : WX) (e : Expr) (f : Sm W OT) : Prop := PE X e (tG W X.K E (pF X.K) f)
def VT (W : Wo) (X : Cx) (E : WX) (e : Expr) (f : Sm W Bool) : Prop := PT X e (tG W X.K E pT f)
def VW (W : Wo) (X : Cx) (E : WX) (e : Expr) (f : Sm W Bool) : Prop := PW X e (tG W X.K E pT f)
def VA (W : Wo) (X : Cx) (E : WX) (es : List Expr) (f : Sm W (List Val)) : Prop := PA X es (tG W X.K E (pVs X.K) f)

theorem PE.imp {X : Cx} {e : Expr} {t t' : TE} (h : PE X e t) (i : ∀ σ H Q, t' σ H Q → t σ H Q) : PE X e t' := ⟨fun pins s σ H Q I z => h.run pins s σ H Q I (i σ H Q z)⟩
theorem PT.imp {X : Cx} {e : Expr} {t t' : TT} (h : PT X e t) (i : ∀ σ H Q, t' σ H Q → t σ H Q) : PT X e t' := ⟨fun pins s σ H Q I z => h.run pins s σ H Q I (i σ H Q z)⟩
theorem PW.imp {X : Cx} {e : Expr} {t t' : TT} (h : PW X e t) (i : ∀ σ H Q, t' σ H Q → t σ H Q) : PW X e t' := ⟨fun wh pins s σ H Q I z => h.run wh pins s σ H Q I (i σ H Q z)⟩
theorem PA.imp {X : Cx} {e : List Expr} {t t' : TA} (h : PA X e t) (i : ∀ σ H Q, t' σ H Q → t σ H Q) : PA X e t' := ⟨fun pos pins s σ H Q I z => h.run pos pins s σ H Q I (i σ H Q z)⟩

section
variable {W : Wo} {K : PySem.W.Frag} {E : WX} {G : Gh} {ρ : En} {s : W.S} {σ : L2.St} {H : Hp} {α β γ δ : Type}
theorem Pst.from {P : RP γ α} {G1 : Gh} {H1 : Hp} {r : R W.S α} {Q : γ → Hp → Prop} (x : Nx G G1 H H1) (h : Pst W K E P G ρ σ H r Q) : Pst W K E P G1 ρ σ H1 r Q := by
  cases r with
  | ok v s' => exact fun G' H' w y rel rp => h G' H' w (x.trans y) rel rp
  | exc c n s' => exact fun G' H' d y rel e0 e => h G' H' d (x.trans y) rel (x.there d e0) e
  | bad => exact h
theorem Pst.imp {P P' : RP γ α} {r : R W.S α} {Q Q' : γ → Hp → Prop} (h : Pst W K E P G ρ σ H r Q) (hp : ∀ G' s' H' w v, Nx G G' H H' → Rel W K G' ρ s' σ H' → P' G' H' w v → P G' H' w v) (hq : ∀ w H', Q w H' → Q' w H') : Pst W K E P' G ρ σ H r Q' := by
  cases r with
  | ok v s' => exact fun G' H' w y rel rp => hq _ _ (h G' H' w y rel (hp _ _ _ _ _ y rel rp))
  | exc c n s' => exact h
  | bad => exact h
theorem Pst.mono {P : RP γ α} {r : R W.S α} {Q Q' : γ → Hp → Prop} (h : Pst W K E P G ρ σ H r Q) (hq : ∀ w H', Q w H' → Q' w H') : Pst W K E P G ρ σ H r Q' := h.imp (fun _ _ _ _ _ _ _ z => z) hq
/-- one value more is reckoned, then the rest -/
theorem Pst.bind {P : RP γ α} {P' : RP δ β} {f : α → W.S → R W.S β} {r : R W.S α} {Q : δ → Hp → Prop} (h : Pst W K E P' G ρ σ H (r.bind f) Q) :
    Pst W K E P G ρ σ H r fun w H1 => ∃ G1 s1 v, Nx G G1 H H1 ∧ Rel W K G1 ρ s1 σ H1 ∧ P G1 H1 w v ∧ Pst W K E P' G1 ρ σ H1 (f v s1) Q := by
  cases r with
  | ok v s' => exact fun G' H' w x rel rp => ⟨G', s', v, x, rel, rp, Pst.from x h⟩
  | exc c n s' => exact h
  | bad => exact h
/-- the answer is known -/
theorem Pst.done {P : RP γ α} {v : α} {Q : γ → Hp → Prop} {w : γ} (r : Rel W K G ρ s σ H) (h : Pst W K E P G ρ σ H (.ok v s) Q) (rp : P G H w v) : Q w H := h G H w (Nx.refl _ _) r rp
theorem tG.mk {P : Hp → RP γ α} {f : Sm W α} {Q : γ → Hp → Prop} (r : Rel W K G ρ s σ H) (h : Pst W K E (P H) G ρ σ H (f ρ s) Q) : tG W K E P f σ H Q := ⟨G, ρ, s, r, h⟩
/-- what is known of a value stays behind an expression -/
def Keeps (W : Wo) (K : PySem.W.Frag) (P : Hp → RP γ α) : Prop := ∀ {G G' : Gh} {ρ : En} {s s' : W.S} {σ : L2.St} {H0 H H' : Hp} {w : γ} {v : α}, Rel W K G ρ s σ H → Rel W K G' ρ s' σ H' → Nx G G' H H' → P H0 G H w v → P H0 G' H' w v
/-- what is known does not lean on where it began -/
def Back (P : Hp → RP γ α) : Prop := ∀ {H0 H1 : Hp} {G H w v}, (∀ a, H1 a = none → H0 a = none) → P H1 G H w v → P H0 G H w v
/-- the first one's reading, then the rest -/
theorem seq1 {P : Hp → RP γ α} {P' : Hp → RP δ β} {f : Sm W α} {g : α → Sm W β} {Q : δ → Hp → Prop} (hb : Back P') (h : tG W K E P' (fun ρ s => (f ρ s).bind fun v s1 => g v ρ s1) σ H Q) :
    tG W K E P f σ H fun w H1 => ∃ G ρ s v, Rel W K G ρ s σ H1 ∧ P H G H1 w v ∧ Pst W K E (P' H1) G ρ σ H1 (g v ρ s) Q := by
  obtain ⟨G, ρ, s, rel, h⟩ := h
  refine tG.mk rel (Pst.mono (Pst.bind (P := P H) h) fun w H1 ⟨G1, s1, v, x, r1, p, h1⟩ => ⟨G1, ρ, s1, v, r1, p, Pst.imp h1 (fun _ _ _ _ _ _ _ z => hb x.there z) fun _ _ z => z⟩)
/-- the first one, the second one, then the rest -/
theorem seq2 {ε ζ : Type} {P : Hp → RP γ α} {P' : Hp → RP δ β} {P2 : Hp → RP ε ζ} {f : Sm W α} {f2 : Sm W β} {g : α → β → Sm W ζ} {Q : ε → Hp → Prop} (hb : Back P2) (hk : Keeps W K P)
    (h : tG W K E P2 (fun ρ s => (f ρ s).bind fun v s1 => (f2 ρ s1).bind fun u s2 => g v u ρ s2) σ H Q) :
    tG W K E P f σ H fun w H1 => tG W K E P' f2 σ H1 fun z H2 => ∃ G ρ s v u, Rel W K G ρ s σ H2 ∧ P H G H2 w v ∧ P' H1 G H2 z u ∧ Pst W K E (P2 H2) G ρ σ H2 (g v u ρ s) Q := by
  obtain ⟨G, ρ, s, rel, h⟩ := h
  refine tG.mk rel (Pst.mono (Pst.bind (P := P H) h) ?_)
  rintro w H1 ⟨G1, s1, v, x, r1, p, h1⟩
  refine ⟨G1, ρ, s1, r1, ?_⟩
  refine Pst.mono (Pst.bind (P := P' H1) h1) ?_
  rintro z H2 ⟨G2, s2, u, x2, r2, p2, h2⟩
  exact ⟨G2, ρ, s2, v, u, r2, hk r1 r2 x2 p, p2, Pst.imp h2 (fun _ _ _ _ _ _ _ z => hb (x.trans x2).there z) fun _ _ z => z⟩
theorem R.bind_opt {o : Option α} {f : α → W.S → R W.S β} : (R.opt o s).bind f = match o with
    | some v => f v s
    | none => .bad := by cases o <;> rfl
end

section
variable {W : Wo} {K : PySem.W.Frag}
theorem pV.keeps : Keeps W K (pV K) := fun _ _ x p => Rep.mono x.sub p
theorem pVs.keeps : Keeps W K (pVs K) := fun _ _ x p => Reps.mono x.sub p
theorem pT.keeps : Keeps W K pT := fun _ _ _ p => p
theorem pB.keeps : Keeps W K (pB K) := by
  rintro G G' ρ s s' σ H0 H H' w v _ _ x ⟨B, h1, h2, r⟩
  refine ⟨B, fun a o e => x.keep a o (h1 a o e) (h2 a o e), fun a o e z => ?_, r⟩
  rcases x.fp a z with q | q
  · exact h2 a o e q
  · rw [h1 a o e] at q; cases q
theorem pP.keeps : Keeps W K (pP K) := by
  rintro G G' ρ s s' σ H0 H H' w v rel _ x ⟨A, r, h⟩
  refine ⟨A, r.mono x.sub (fun _ z => z) (fun a z => ?_), fun a z => by rw [x.ad]; exact h a z⟩
  obtain ⟨i, hi⟩ := h a z
  obtain ⟨_, ⟨o, e, _⟩, n⟩ := rel.own i a hi
  rw [e]; exact x.keep a o e n
theorem pF.keeps : Keeps W K (pF K) := by
  rintro G G' ρ s s' σ H0 H H' w v rel rel' x ⟨A, r, h⟩
  refine ⟨A, r.mono x.sub (fun _ z => z) (fun a z => ?_), fun a z => ?_⟩
  · obtain ⟨_, _, ⟨o, e, _⟩, n, _⟩ := h a z
    rw [e]; exact x.keep a o e n
  · obtain ⟨h0, h1, ⟨o, e, nt⟩, n, na⟩ := h a z
    have e' := x.keep a o e n
    refine ⟨h0, ?_, ⟨o, e', nt⟩, fun q => ?_, fun i => by rw [x.ad]; exact na i⟩
    · cases q : G'.F a with
      | none => rfl
      | some u =>
        rcases x.fz a u q with z' | z' | z' | ⟨ws, z'⟩
        · rw [h1] at z'; cases z'
        · rw [e] at z'; cases z'
        · exact absurd z' n
        · have q' := rel'.sub a u q
          rw [e'] at q'
          cases q'
          exact absurd z' (nt ws)
    · rcases x.fp a q with z' | z'
      · exact n z'
      · rw [e] at z'; cases z'
theorem pV.back : Back (pV K) := fun _ p => p
theorem pVs.back : Back (pVs K) := fun _ p => p
theorem pT.back : Back pT := fun _ p => p
theorem pB.back : Back (pB K) := fun _ p => p
theorem pP.back : Back (pP K) := fun _ p => p
theorem pF.back : Back (pF K) := fun h ⟨A, r, z⟩ => ⟨A, r, fun a q => ⟨h a (z a q).1, (z a q).2⟩⟩
end
end VL

/-! VL2: the rules of expressions. -/
namespace VL
open PySem PySem.Spec PyProof.Rows L2
open Classical in
/-- the heap without what the world owns -/
noncomputable def offW (G : Gh) (H : Hp) : Hp := fun a => if G.fp a then none else H a
theorem offW_at {G : Gh} {H : Hp} {a : Addr} (h : ¬ G.fp a) : offW G H a = H a := by unfold offW; rw [if_neg h]
theorem offW_some {G : Gh} {H : Hp} {a : Addr} {o : HO} (h : offW G H a = some o) : H a = some o ∧ ¬ G.fp a := by
  unfold offW at h
  split at h
  · cases h
  · exact ⟨h, by assumption⟩

section
variable {W : Wo} {X : Cx} {E : WX}
/-! ### 1. names, constants -/
def eC (v : Val) : Ev W := fun _ s => .ok v s
def pVar (i : Nat) : Sm W OT := fun ρ s => match ρ[i]? with
  | some (some t) => .ok t s
  | _ => .bad
def OT.shv : OT → Option Val
  | .sh v => some v
  | _ => none
/-- a place whose value may be shared -/
def eP (p : Sm W OT) : Ev W := fun ρ s => (p ρ s).bind fun t s1 => R.opt t.shv s1
def bP (p : Sm W OT) : Ev W := fun ρ s => (p ρ s).bind fun t s1 => .ok t.val s1
theorem vp_var (i : Nat) {x : Str} {pos : Pos} (hN : X.N[i]? = some x := by rfl) (hv : Vis X.env.scope x := by first | exact Or.inl rfl | exact Or.inr (Or.inl rfl) | exact Or.inr (Or.inr rfl)) (hd : (x == ("__debug__" : Str)) = false := by decide)
    (hcd : (x == ("__classdict__" : Str)) = false := by decide) : VP W X E (.Name x pos) (pVar i) := by
  refine PE.imp (pe_var (i := i) hN hv hd hcd) fun σ H Q ⟨G, ρ, s, r, h⟩ => ?_
  unfold pVar at h
  cases q : ρ[i]? with
  | none => rw [q] at h; exact h.elim
  | some t =>
    cases t with
    | none => rw [q] at h; exact h.elim
    | some t =>
      rw [q] at h
      obtain ⟨w, h1, h2⟩ := r.slot i _ q
      exact ⟨w, h1, h.done r ⟨_, h2, fun a z => ⟨i, z⟩⟩⟩
theorem ve_p {e : Expr} {p : Sm W OT} (h : VP W X E e p) : VE W X E e (eP p) := PE.imp h fun σ H Q hq => by
  obtain ⟨G, ρ, s, r, hq⟩ := seq1 (P := pP X.K) (P' := pV X.K) (f := p) (g := fun t _ s1 => R.opt t.shv s1) pV.back hq
  refine ⟨G, ρ, s, r, Pst.mono hq ?_⟩
  rintro w H1 ⟨G1, ρ1, s1, t, r1, ⟨A, ro, hA⟩, hq⟩
  cases ro with
  | sh rp => exact hq.done r1 rp
  | _ => exact hq.elim
theorem vb_p {e : Expr} {p : Sm W OT} (h : VP W X E e p) : VB W X E e (bP p) := PE.imp h fun σ H Q hq => by
  obtain ⟨G, ρ, s, r, hq⟩ := seq1 (P := pP X.K) (P' := pB X.K) (f := p) (g := fun t _ s1 => .ok t.val s1) pB.back hq
  refine ⟨G, ρ, s, r, Pst.mono hq ?_⟩
  rintro w H1 ⟨G1, ρ1, s1, t, r1, ⟨A, ro, hA⟩, hq⟩
  refine hq.done r1 ⟨offW G1 H1, fun a o e => (offW_some e).1, fun a o e => (offW_some e).2, ro.read (fun a o e => ?_) fun a z => ?_⟩
  · rw [offW_at]
    · exact r1.sub a o e
    · intro z
      rw [(W.own r1.wrl z).1] at e; cases e
  · obtain ⟨i, hi⟩ := hA a z
    exact offW_at (r1.own i a hi).2.2
theorem vb_of {e : Expr} {f : Ev W} (h : VE W X E e f) : VB W X E e f := PE.imp h fun σ H Q ⟨G, ρ, s, r, hq⟩ => by
  refine ⟨G, ρ, s, r, Pst.imp hq (fun G1 s1 H1 w v x r1 rp => ⟨G1.F, r1.sub, fun a o e z => ?_, rp⟩) fun _ _ z => z⟩
  rw [(W.own r1.wrl z).1] at e; cases e
theorem ve_int {i : Int} {j : Nat} {pos : Pos} : VE W X E (.Constant (.int i) j pos) (eC (.int i)) := PE.imp pe_int fun σ H Q ⟨G, ρ, s, r, h⟩ => Pst.done r h (.int i)
theorem ve_bl {b : Bool} {j : Nat} {pos : Pos} : VE W X E (.Constant (.bool b) j pos) (eC (.bl b)) := PE.imp pe_bl fun σ H Q ⟨G, ρ, s, r, h⟩ => Pst.done r h (.bl b)
theorem ve_non {j : Nat} {pos : Pos} : VE W X E (.Constant .none j pos) (eC .non) := PE.imp pe_non fun σ H Q ⟨G, ρ, s, r, h⟩ => Pst.done r h .non
theorem ve_str {x : Str} {j : Nat} {pos : Pos} : VE W X E (.Constant (.str x) j pos) (eC (.str x)) := PE.imp pe_str fun σ H Q ⟨G, ρ, s, r, h⟩ => Pst.done r h (.str x)
/-- a constant of the module -/
theorem ve_glob {x : Str} {w : V} {u : Value} {v : Val} {pos : Pos} (hg : Gl X x) (hm : X.mg x = some u) (r : RelV w u) (rp : ∀ F, Rep X.K F w v) (hd : (x == ("__debug__" : Str)) = false := by decide) : VE W X E (.Name x pos) (eC v) :=
  PE.imp (pe_glob hg hm r hd) fun σ H Q ⟨G, ρ, s, r, h⟩ => Pst.done r h (rp _)
/-- a class of the language -/
theorem ve_bltn {x : Str} {w : V} {u : Value} {v : Val} {pos : Pos} (hg : Gl X x) (hm : X.mg x = none) (hv : bootBuiltins x = some u) (r : RelV w u) (rp : ∀ F, Rep X.K F w v) (hn : x ≠ "__name__" := by decide) (hd : (x == ("__debug__" : Str)) = false := by decide) : VE W X E (.Name x pos) (eC v) :=
  PE.imp (pe_bltn hg hm hv r hn hd) fun σ H Q ⟨G, ρ, s, r, h⟩ => Pst.done r h (rp _)

/-! ### 2. operators -/
def e2 (g : Val → Val → Option Val) (a b : Ev W) : Ev W := fun ρ s => (a ρ s).bind fun x s1 => (b ρ s1).bind fun y s2 => R.opt (g x y) s2
def e1 (g : Val → Option Val) (a : Ev W) : Ev W := fun ρ s => (a ρ s).bind fun x s1 => R.opt (g x) s1
theorem Pst.opt {α γ : Type} {K : PySem.W.Frag} {P : RP γ α} {G : Gh} {ρ : En} {σ : L2.St} {H : Hp} {s : W.S} {o : Option α} {Q : γ → Hp → Prop} (h : Pst W K E P G ρ σ H (R.opt o s) Q) : ∃ v, o = some v ∧ Pst W K E P G ρ σ H (.ok v s) Q := by
  cases o with
  | none => exact h.elim
  | some v => exact ⟨v, rfl, h⟩
/-- an operator by what its rule asks: no new object comes -/
def Flat2 (K : PySem.W.Frag) (r : R2) (g : Val → Val → Option Val) : Prop := ∀ (B H : Hp) (w u : V) (x y v : Val) (Q : VK), Sub B H → Rep K B w x → Rep K B u y → g x y = some v → (∀ z, (∀ F, Rep K F z v) → Q z H) → r w u H Q
theorem Rep.two {K : PySem.W.Frag} {G : Gh} {H : Hp} {w u : V} {x y : Val} (h1 : pB K H G H w x) (h2 : pB K H G H u y) : ∃ B, Sub B H ∧ Rep K B w x ∧ Rep K B u y := by
  obtain ⟨B1, s1, n1, r1⟩ := h1
  obtain ⟨B2, s2, n2, r2⟩ := h2
  exact ⟨H, Sub.refl _, r1.mono s1, r2.mono s2⟩
theorem tG.mono {α γ : Type} {K : PySem.W.Frag} {P : Hp → RP γ α} {f : Sm W α} {σ : L2.St} {H : Hp} {Q Q' : γ → Hp → Prop} (h : tG W K E P f σ H Q) (hq : ∀ w H', Q w H' → Q' w H') : tG W K E P f σ H Q' := by
  obtain ⟨G, ρ, s, r, h⟩ := h
  exact ⟨G, ρ, s, r, h.mono hq⟩
/-- .. two operands, in any rule -/
theorem two_run {r : R2} {g : Val → Val → Option Val} {fa fb : Ev W} {σ : L2.St} {H : Hp} {Q : VK} (hr : Flat2 X.K r g) (h : tG W X.K E (pV X.K) (e2 g fa fb) σ H Q) :
    tG W X.K E (pB X.K) fa σ H fun w H1 => tG W X.K E (pB X.K) fb σ H1 fun u H2 => r w u H2 Q := by
  have h' := seq2 (P := pB X.K) (P' := pB X.K) (P2 := pV X.K) (g := fun x y _ s2 => R.opt (g x y) s2) pV.back pB.keeps h
  refine h'.mono fun w H1 h' => h'.mono ?_
  rintro u H2 ⟨G, ρ, s, x, y, rl, p1, p2, h'⟩
  obtain ⟨v, e, h'⟩ := Pst.opt h'
  obtain ⟨B, sb, r1, r2⟩ := Rep.two p1 p2
  exact hr B H2 w u x y v Q sb r1 r2 e fun z rz => h'.done rl (rz _)
theorem vop {op : Operator} {r : R2} {g : Val → Val → Option Val} {a b : Expr} {fa fb : Ev W} {pos : Pos} (ho : OpR X (binaryOp op) r) (hr : Flat2 X.K r g) (ha : VB W X E a fa) (hb : VB W X E b fb) : VE W X E (.BinOp a op b pos) (e2 g fa fb) :=
  PE.imp (pe_op ho ha hb) fun _ _ _ h => two_run hr h
def tst (f : Ev W) : Sm W Bool := fun ρ s => (f ρ s).bind fun v s1 => match v with
  | .bl b => .ok b s1
  | _ => .bad
theorem tst_val {f : Ev W} {σ : L2.St} {H : Hp} {Q : Bool → Hp → Prop} (h : tG W X.K E pT (tst f) σ H Q) : tG W X.K E (pV X.K) f σ H fun w H1 => ∃ k, w = .bl k ∧ Q k H1 := by
  have h' := seq1 (P := pV X.K) (P' := pT) (f := f) (g := fun v _ s1 => match v with | .bl b => .ok b s1 | _ => .bad) pT.back h
  refine h'.mono ?_
  rintro w H1 ⟨G, ρ, s, v, r, p, h'⟩
  cases v with
  | bl b =>
    cases p
    exact ⟨b, rfl, h'.done r rfl⟩
  | _ => exact h'.elim
/-- a comparison, as a value and as a test -/
def VC (W : Wo) (X : Cx) (E : WX) (op : CmpOp) (a b : Expr) (f : Ev W) : Prop := (∀ pos, VE W X E (.Compare a [op] [b] pos) f) ∧ ∀ pos, VT W X E (.Compare a [op] [b] pos) (tst f)
theorem vcmp {op : CmpOp} {r : R2} {g : Val → Val → Option Val} {a b : Expr} {fa fb : Ev W} (ho : OpR X (compareOp op) r) (hr : Flat2 X.K r g) (ha : VB W X E a fa) (hb : VB W X E b fb) (hm : behindInMarks op b = false) : VC W X E op a b (e2 g fa fb) :=
  ⟨fun _ => PE.imp (pe_cmpR ho ha hb hm) fun _ _ _ h => two_run hr h, fun _ => PT.imp (pt_cmpR ho ha hb hm) fun _ _ _ h => two_run hr (tst_val h)⟩
theorem ve_cmp {op : CmpOp} {a b : Expr} {f : Ev W} {pos : Pos} (h : VC W X E op a b f) : VE W X E (.Compare a [op] [b] pos) f := h.1 pos
theorem vt_cmp {op : CmpOp} {a b : Expr} {f : Ev W} {pos : Pos} (h : VC W X E op a b f) : VT W X E (.Compare a [op] [b] pos) (tst f) := h.2 pos

/-! ### 3. whole numbers -/
def oI (C : Int → Int → Bool) (g : Int → Int → Int) : Val → Val → Option Val
  | .int i, .int j => if C i j then some (.int (g i j)) else none
  | _, _ => none
def oB (g : Int → Int → Bool) : Val → Val → Option Val
  | .int i, .int j => some (.bl (g i j))
  | _, _ => none
theorem Rep.int_inv {K : PySem.W.Frag} {B : Hp} {w : V} {i : Int} (r : Rep K B w (.int i)) : w = .int i := by cases r; rfl
theorem Rep.bl_inv {K : PySem.W.Frag} {B : Hp} {w : V} {i : Bool} (r : Rep K B w (.bl i)) : w = .bl i := by cases r; rfl
theorem Rep.str_inv {K : PySem.W.Frag} {B : Hp} {w : V} {i : Str} (r : Rep K B w (.str i)) : w = .str i := by cases r; rfl
theorem Rep.non_inv {K : PySem.W.Frag} {B : Hp} {w : V} (r : Rep K B w .non) : w = .non := by cases r; rfl
theorem flat_I {C : Int → Int → Prop} {c : Int → Int → Bool} {g : Int → Int → Int} {K : PySem.W.Frag} (hc : ∀ i j, c i j = true → C i j) : Flat2 K (rI C fun i j => .int (g i j)) (oI c g) := by
  intro B H w u x y v Q sb r1 r2 e q
  unfold oI at e
  split at e
  · split at e
    · cases e
      cases r1.int_inv; cases r2.int_inv
      exact ⟨_, _, rfl, rfl, hc _ _ (by assumption), q _ fun F => .int _⟩
    · cases e
  · cases e
theorem flat_I0 {g : Int → Int → Int} {K : PySem.W.Frag} : Flat2 K (rI0 fun i j => .int (g i j)) (oI (fun _ _ => true) g) := by
  intro B H w u x y v Q sb r1 r2 e q
  unfold oI at e
  split at e
  · cases e
    cases r1.int_inv; cases r2.int_inv
    exact ⟨_, _, rfl, rfl, q _ fun F => .int _⟩
  · cases e
theorem flat_B {g : Int → Int → Bool} {K : PySem.W.Frag} : Flat2 K (rI0 fun i j => .bl (g i j)) (oB g) := by
  intro B H w u x y v Q sb r1 r2 e q
  unfold oB at e
  split at e
  · cases e
    cases r1.int_inv; cases r2.int_inv
    exact ⟨_, _, rfl, rfl, q _ fun F => .bl _⟩
  · cases e
def cMul (i j : Int) : Bool := decide (i.natAbs.log2 + j.natAbs.log2 < 1000000)
def cDiv (_ j : Int) : Bool := decide (0 < j) && decide (j.natAbs.log2 < 9000)
def cMod (_ j : Int) : Bool := decide (0 < j)
def cPow (i j : Int) : Bool := decide (0 ≤ j) && decide (j ≤ 1000000) && decide (i.natAbs < 2 ^ 64)
def gAdd := oI (fun _ _ => true) fun i j => i + j
def gSub := oI (fun _ _ => true) fun i j => i - j
def gMul := oI cMul fun i j => i * j
def gDiv := oI cDiv fun i j => i / j
def gMod := oI cMod fun i j => i % j
def gPow := oI cPow fun i j => i ^ j.toNat
variable {a b : Expr} {fa fb : Ev W} {pos : Pos}
theorem ve_add (ha : VB W X E a fa) (hb : VB W X E b fb) : VE W X E (.BinOp a .Add b pos) (e2 gAdd fa fb) := vop op_add flat_I0 ha hb
theorem ve_sub (ha : VB W X E a fa) (hb : VB W X E b fb) : VE W X E (.BinOp a .Sub b pos) (e2 gSub fa fb) := vop op_sub flat_I0 ha hb
theorem ve_mul (ha : VB W X E a fa) (hb : VB W X E b fb) : VE W X E (.BinOp a .Mult b pos) (e2 gMul fa fb) := vop op_mulW (flat_I fun i j h => show CMulW i j from of_decide_eq_true (p := i.natAbs.log2 + j.natAbs.log2 < 1000000) h) ha hb
theorem ve_div (ha : VB W X E a fa) (hb : VB W X E b fb) : VE W X E (.BinOp a .FloorDiv b pos) (e2 gDiv fa fb) := vop op_fdivW (flat_I fun _ _ h => by
  unfold cDiv at h
  rw [Bool.and_eq_true] at h
  exact ⟨of_decide_eq_true h.1, of_decide_eq_true h.2⟩) ha hb
theorem ve_mod (ha : VB W X E a fa) (hb : VB W X E b fb) : VE W X E (.BinOp a .Mod b pos) (e2 gMod fa fb) := vop op_mod (flat_I fun _ _ h => of_decide_eq_true h) ha hb
theorem ve_pow (ha : VB W X E a fa) (hb : VB W X E b fb) : VE W X E (.BinOp a .Pow b pos) (e2 gPow fa fb) := vop op_pow (flat_I fun _ _ h => by
  unfold cPow at h
  rw [Bool.and_eq_true, Bool.and_eq_true] at h
  exact ⟨of_decide_eq_true h.1.1, of_decide_eq_true h.1.2, of_decide_eq_true h.2⟩) ha hb
def gLt := oB fun i j => decide (i < j)
def gLe := oB fun i j => decide (i ≤ j)
def gGt := oB fun i j => decide (j < i)
def gGe := oB fun i j => decide (j ≤ i)
theorem vc_lt (ha : VB W X E a fa) (hb : VB W X E b fb) : VC W X E .Lt a b (e2 gLt fa fb) := vcmp op_lt flat_B ha hb (nomark _)
theorem vc_le (ha : VB W X E a fa) (hb : VB W X E b fb) : VC W X E .LtE a b (e2 gLe fa fb) := vcmp op_le flat_B ha hb (nomark _)
theorem vc_gt (ha : VB W X E a fa) (hb : VB W X E b fb) : VC W X E .Gt a b (e2 gGt fa fb) := vcmp op_gt flat_B ha hb (nomark _)
theorem vc_ge (ha : VB W X E a fa) (hb : VB W X E b fb) : VC W X E .GtE a b (e2 gGe fa fb) := vcmp op_ge flat_B ha hb (nomark _)
/-- is None, is not None -/
def Val.isN : Val → Bool
  | .non => true
  | _ => false
def gIsN (neg : Bool) (x y : Val) : Option Val := if y.isN then some (.bl (x.isN != neg)) else none
theorem Rep.isN {K : PySem.W.Frag} {B : Hp} {w : V} {v : Val} (r : Rep K B w v) : decide (w = .non) = v.isN := by cases r <;> rfl
theorem vc_isN {j : Nat} {p : Pos} (ha : VB W X E a fa) : VC W X E .Is a (.Constant .none j p) (e2 (gIsN false) fa (eC .non)) := vcmp op_isN (fun B H w u x y v Q sb r1 r2 e q => by
  unfold gIsN at e
  split at e
  · cases e
    rename_i hn
    rw [← r2.isN] at hn
    refine ⟨of_decide_eq_true hn, ?_⟩
    rw [r1.isN]
    have := q (.bl x.isN) fun F => by cases x.isN <;> exact .bl _
    exact this
  · cases e) ha (vb_of ve_non) (nomark _)
theorem vc_notN {j : Nat} {p : Pos} (ha : VB W X E a fa) : VC W X E .IsNot a (.Constant .none j p) (e2 (gIsN true) fa (eC .non)) := vcmp op_notN (fun B H w u x y v Q sb r1 r2 e q => by
  unfold gIsN at e
  split at e
  · cases e
    rename_i hn
    rw [← r2.isN] at hn
    refine ⟨of_decide_eq_true hn, ?_⟩
    rw [r1.isN]
    have := q (.bl (!x.isN)) fun F => by cases x.isN <;> exact .bl _
    exact this
  · cases e) ha (vb_of ve_non) (nomark _)

/-! ### 4. tests, and or not, a if t else b -/
theorem vt_of {e : Expr} {f : Ev W} (h : VE W X E e f) (he : ∀ whole, isTrue e X.env whole = (do let v ← whole; standAt e.pos; holding [v] (truthy v)) := by intro _; rfl) : VT W X E e (tst f) :=
  PT.imp (pt_val h he) fun σ H Q hq => tst_val hq
def tAndS (t u : Sm W Bool) : Sm W Bool := fun ρ s => (t ρ s).bind fun c s1 => if c = true then u ρ s1 else .ok false s1
def tOrS (t u : Sm W Bool) : Sm W Bool := fun ρ s => (t ρ s).bind fun c s1 => if c = true then .ok true s1 else u ρ s1
def tNotS (t : Sm W Bool) : Sm W Bool := fun ρ s => (t ρ s).bind fun c s1 => .ok (!c) s1
variable {rest : List Expr} {t u : Sm W Bool}
theorem vw_and1 (h : VT W X E a t) : VW W X E (.BoolOp .And [a] pos) t := pw_and1 h
theorem vw_or1 (h : VT W X E a t) : VW W X E (.BoolOp .Or [a] pos) t := pw_or1 h
theorem vw_and (h : VT W X E a t) (h2 : VW W X E (.BoolOp .And (b :: rest) pos) u) : VW W X E (.BoolOp .And (a :: b :: rest) pos) (tAndS t u) := PW.imp (pw_and h h2) fun σ H Q hq => by
  have h' := seq1 (P := pT) (P' := pT) (f := t) (g := fun c ρ s1 => if c = true then u ρ s1 else .ok false s1) pT.back hq
  refine h'.mono ?_
  rintro w H1 ⟨G, ρ, s, v, r, p, h'⟩
  obtain rfl : w = v := p
  cases w with
  | true => exact ⟨G, ρ, s, r, h'⟩
  | false => exact h'.done r rfl
theorem vw_or (h : VT W X E a t) (h2 : VW W X E (.BoolOp .Or (b :: rest) pos) u) : VW W X E (.BoolOp .Or (a :: b :: rest) pos) (tOrS t u) := PW.imp (pw_or h h2) fun σ H Q hq => by
  have h' := seq1 (P := pT) (P' := pT) (f := t) (g := fun c ρ s1 => if c = true then .ok true s1 else u ρ s1) pT.back hq
  refine h'.mono ?_
  rintro w H1 ⟨G, ρ, s, v, r, p, h'⟩
  obtain rfl : w = v := p
  cases w with
  | false => exact ⟨G, ρ, s, r, h'⟩
  | true => exact h'.done r rfl
theorem vt_w {e : Expr} (h : VW W X E e t) : VT W X E e t := PW.pt h
theorem vt_not (h : VT W X E a t) : VT W X E (.UnaryOp .Not a pos) (tNotS t) := PT.imp (pt_not h) fun σ H Q hq => by
  have h' := seq1 (P := pT) (P' := pT) (f := t) (g := fun c _ s1 => .ok (!c) s1) pT.back hq
  refine h'.mono ?_
  rintro w H1 ⟨G, ρ, s, v, r, p, h'⟩
  obtain rfl : w = v := p
  exact h'.done r rfl
/-- .. as values, all but the last one bools -/
def eAndV (f g : Ev W) : Ev W := fun ρ s => (tst f ρ s).bind fun c s1 => if c = true then g ρ s1 else .ok (.bl false) s1
def eOrV (f g : Ev W) : Ev W := fun ρ s => (tst f ρ s).bind fun c s1 => if c = true then .ok (.bl true) s1 else g ρ s1
def eNotV (f : Ev W) : Ev W := fun ρ s => (tst f ρ s).bind fun c s1 => .ok (.bl (!c)) s1
theorem ve_one {op : PySem.BoolOp} (h : VE W X E a fa) : VE W X E (.BoolOp op [a] pos) fa := pe_one h
/-- the value of a bool, by its reading -/
theorem tst_run {f : Ev W} {g : Bool → Sm W Val} {σ : L2.St} {H : Hp} {Q : VK} (h : tG W X.K E (pV X.K) (fun ρ s => (tst f ρ s).bind fun c s1 => g c ρ s1) σ H Q) :
    tG W X.K E (pV X.K) f σ H fun w H1 => ∃ c, w = .bl c ∧ ∃ G ρ s, Rel W X.K G ρ s σ H1 ∧ Pst W X.K E (pV X.K H1) G ρ σ H1 (g c ρ s) Q := by
  have e : (fun ρ s => (tst f ρ s).bind fun c s1 => g c ρ s1) = fun ρ s => (f ρ s).bind fun v s1 => (match v with | .bl b => R.ok b s1 | _ => .bad : R W.S Bool).bind fun c s2 => g c ρ s2 := by
    funext ρ s
    unfold tst
    cases f ρ s with
    | ok v s1 => cases v <;> rfl
    | exc c n s1 => rfl
    | bad => rfl
  rw [e] at h
  have h' := seq1 (P := pV X.K) (P' := pV X.K) (f := f) (g := fun v ρ s1 => (match v with | .bl b => R.ok b s1 | _ => .bad : R W.S Bool).bind fun c s2 => g c ρ s2) pV.back h
  refine h'.mono ?_
  rintro w H1 ⟨G, ρ, s, v, r, p, h'⟩
  cases v with
  | bl b =>
    cases Rep.bl_inv p
    exact ⟨b, rfl, G, ρ, s, r, h'⟩
  | _ => exact h'.elim
theorem ve_and (h : VE W X E a fa) (h2 : VE W X E (.BoolOp .And (b :: rest) pos) fb) : VE W X E (.BoolOp .And (a :: b :: rest) pos) (eAndV fa fb) := PE.imp (pe_and h h2) fun σ H Q hq => by
  refine (tst_run (g := fun c ρ s1 => if c = true then fb ρ s1 else .ok (.bl false) s1) hq).mono ?_
  rintro w H1 ⟨c, rfl, G, ρ, s, r, h'⟩
  refine ⟨c, rfl, ?_⟩
  cases c with
  | true => rw [if_pos rfl]; exact ⟨G, ρ, s, r, h'⟩
  | false => rw [if_neg Bool.false_ne_true]; exact h'.done r (.bl _)
theorem ve_or (h : VE W X E a fa) (h2 : VE W X E (.BoolOp .Or (b :: rest) pos) fb) : VE W X E (.BoolOp .Or (a :: b :: rest) pos) (eOrV fa fb) := PE.imp (pe_or h h2) fun σ H Q hq => by
  refine (tst_run (g := fun c ρ s1 => if c = true then .ok (.bl true) s1 else fb ρ s1) hq).mono ?_
  rintro w H1 ⟨c, rfl, G, ρ, s, r, h'⟩
  refine ⟨c, rfl, ?_⟩
  cases c with
  | false => rw [if_neg Bool.false_ne_true]; exact ⟨G, ρ, s, r, h'⟩
  | true => rw [if_pos rfl]; exact h'.done r (.bl _)
theorem ve_not (h : VE W X E a fa) : VE W X E (.UnaryOp .Not a pos) (eNotV fa) := PE.imp (pe_not h) fun σ H Q hq => by
  refine (tst_run (g := fun c _ s1 => .ok (.bl (!c)) s1) hq).mono ?_
  rintro w H1 ⟨c, rfl, G, ρ, s, r, h'⟩
  exact ⟨c, rfl, h'.done r (.bl _)⟩
def eIf {α : Type} (t : Sm W Bool) (f g : Sm W α) : Sm W α := fun ρ s => (t ρ s).bind fun c s1 => if c = true then f ρ s1 else g ρ s1
theorem ve_if {c : Expr} (hc : VT W X E c t) (ha : VE W X E a fa) (hb : VE W X E b fb) : VE W X E (.IfExp c a b pos) (eIf t fa fb) := PE.imp (pe_ifExp hc ha hb) fun σ H Q hq => by
  have h' := seq1 (P := pT) (P' := pV X.K) (f := t) (g := fun c ρ s1 => if c = true then fa ρ s1 else fb ρ s1) pV.back hq
  refine h'.mono ?_
  rintro w H1 ⟨G, ρ, s, v, r, p, h'⟩
  obtain rfl : w = v := p
  cases w with
  | true => exact ⟨G, ρ, s, r, h'⟩
  | false => exact ⟨G, ρ, s, r, h'⟩

/-! ### 5. arguments, displays -/
def eNil : Sm W (List Val) := fun _ s => .ok [] s
def eCons (f : Ev W) (r : Sm W (List Val)) : Sm W (List Val) := fun ρ s => (f ρ s).bind fun v s1 => (r ρ s1).bind fun vs s2 => .ok (v :: vs) s2
variable {e : Expr} {es : List Expr} {f : Ev W} {fs : Sm W (List Val)}
theorem va_nil : VA W X E [] eNil := PA.imp pa_nil fun σ H Q ⟨G, ρ, s, r, h⟩ => Pst.done r h .nil
theorem va_cons (h : VE W X E e f) (hr : VA W X E es fs) (hs : starEach (e :: es) X.env = (false, eval e X.env) :: starEach es X.env := by rfl) : VA W X E (e :: es) (eCons f fs) := PA.imp (pa_cons h hr hs) fun σ H Q hq => by
  have h' := seq2 (P := pV X.K) (P' := pVs X.K) (P2 := pVs X.K) (f := f) (f2 := fs) (g := fun v vs _ s2 => .ok (v :: vs) s2) pVs.back pV.keeps hq
  refine h'.mono fun w H1 h' => h'.mono ?_
  rintro u H2 ⟨G, ρ, s, x, y, rl, p1, p2, h'⟩
  exact h'.done rl (.cons p1 p2)
end
end VL

/-! VL3: tables by keys, new lists and dicts, what is made one's own and what is shared. -/
namespace VL
open PySem PySem.Spec PyProof.Rows L2

/-! ### 1. tables by keys -/
def kOf : Val → Option Key
  | .int i => some (.inl i)
  | .str x => some (.inr x)
  | _ => none
def ksOf : List Val → Option (List Key)
  | [] => some []
  | v :: r => match kOf v, ksOf r with
    | some k, some ks => some (k :: ks)
    | _, _ => none
/-- what a value is as a key; the Bool: a tuple -/
def dkey : Val → Option (Key ⊕ List Key)
  | .int i => some (.inl (.inl i))
  | .str x => some (.inl (.inr x))
  | .tup xs => (ksOf xs).map .inr
  | _ => none
theorem kOf_kVal : ∀ k, kOf (kVal k) = some k
  | .inl _ => rfl
  | .inr _ => rfl
theorem ksOf_kVal : ∀ ks : List Key, ksOf (ks.map kVal) = some ks
  | [] => rfl
  | k :: r => by
    show (match kOf (kVal k), ksOf (r.map kVal) with | some k, some ks => some (k :: ks) | _, _ => none) = _
    rw [kOf_kVal, ksOf_kVal r]
theorem dkey_k (k : Key) : dkey (kVal k) = some (.inl k) := by cases k <;> rfl
theorem dkey_t (ks : List Key) : dkey (.tup (ks.map kVal)) = some (.inr ks) := by
  show (ksOf (ks.map kVal)).map Sum.inr = _
  rw [ksOf_kVal]; rfl
abbrev DK := Key ⊕ List Key
def vget (kvs : List (Val × Val)) (d : DK) : Option Val := (kvs.find? fun p => decide (dkey p.1 = some d)).map (·.2)
def vput (kvs : List (Val × Val)) (k : Val) (d : DK) (v : Val) : List (Val × Val) :=
  if (kvs.any fun p => decide (dkey p.1 = some d)) = true then kvs.map (fun p => if dkey p.1 = some d then (p.1, v) else p) else kvs ++ [(k, v)]
def vdrop (kvs : List (Val × Val)) (d : DK) : List (Val × Val) := kvs.filter fun p => decide (dkey p.1 ≠ some d)
section
variable {K : PySem.W.Frag} {F : Hp} {κ : Type} [DecidableEq κ] {e : κ → Val} {c : κ → DK}
theorem dk_iff (hc : ∀ k, dkey (e k) = some (c k)) (hi : ∀ a b, c a = c b → a = b) (a b : κ) : (dkey (e a) = some (c b)) ↔ a = b := by
  rw [hc]
  refine ⟨fun h => hi _ _ (Option.some.inj h), fun h => by rw [h]⟩
theorem RepP.get (hc : ∀ k, dkey (e k) = some (c k)) (hi : ∀ a b, c a = c b → a = b) (k : κ) : ∀ {l : List (κ × V)} {kvs : List (Val × Val)}, RepP K F (l.map fun p => (e p.1, p.2)) kvs →
    (valV l k = none ∧ vget kvs (c k) = none) ∨ ∃ w v, valV l k = some w ∧ vget kvs (c k) = some v ∧ Rep K F w v
  | [], kvs, h => by cases h; exact .inl ⟨rfl, rfl⟩
  | p :: l, kvs, h => by
    cases h with
    | cons r t =>
      rename_i v kvs
      have ih := RepP.get hc hi k t
      by_cases q : p.1 = k
      · refine .inr ⟨p.2, v, valV_pos q, ?_, r⟩
        unfold vget
        rw [List.find?_cons]
        have : dkey (e p.1) = some (c k) := (dk_iff hc hi _ _).mpr q
        simp only [this, decide_true]
        rfl
      · have : ¬ dkey (e p.1) = some (c k) := fun z => q ((dk_iff hc hi _ _).mp z)
        have e1 : vget ((e p.1, v) :: kvs) (c k) = vget kvs (c k) := by
          unfold vget
          rw [List.find?_cons]
          simp only [this, decide_false]
        rw [valV_neg q, e1]
        exact ih
theorem RepP.any (hc : ∀ k, dkey (e k) = some (c k)) (hi : ∀ a b, c a = c b → a = b) (k : κ) : ∀ {l : List (κ × V)} {kvs : List (Val × Val)}, RepP K F (l.map fun p => (e p.1, p.2)) kvs →
    (kvs.any fun p => decide (dkey p.1 = some (c k))) = l.any fun p => decide (p.1 = k)
  | [], kvs, h => by cases h; rfl
  | p :: l, kvs, h => by
    cases h with
    | cons r t =>
      rename_i v kvs
      rw [List.any_cons, List.any_cons, RepP.any hc hi k t]
      congr 1
      exact decide_eq_decide.mpr (dk_iff hc hi _ _)
theorem RepP.mapput (hc : ∀ k, dkey (e k) = some (c k)) (hi : ∀ a b, c a = c b → a = b) (k : κ) {w : V} {v : Val} (rw' : Rep K F w v) : ∀ {l : List (κ × V)} {kvs : List (Val × Val)}, RepP K F (l.map fun p => (e p.1, p.2)) kvs →
    RepP K F ((l.map fun kv => if kv.1 = k then (kv.1, w) else kv).map fun p => (e p.1, p.2)) (kvs.map fun p => if dkey p.1 = some (c k) then (p.1, v) else p)
  | [], kvs, h => by cases h; exact .nil
  | p :: l, kvs, h => by
    cases h with
    | cons r t =>
      rename_i v' kvs
      have ih := RepP.mapput hc hi k rw' t
      rw [List.map_cons, List.map_cons, List.map_cons]
      by_cases q : p.1 = k
      · rw [if_pos q, if_pos ((dk_iff hc hi _ _).mpr q)]
        exact .cons rw' ih
      · rw [if_neg q, if_neg fun z => q ((dk_iff hc hi _ _).mp z)]
        exact .cons r ih
theorem RepP.append : ∀ {l l' : List (Val × V)} {kvs kvs' : List (Val × Val)}, RepP K F l kvs → RepP K F l' kvs' → RepP K F (l ++ l') (kvs ++ kvs')
  | _, _, _, _, .nil, h => h
  | _, _, _, _, .cons r t, h => .cons r (RepP.append t h)
theorem RepP.put (hc : ∀ k, dkey (e k) = some (c k)) (hi : ∀ a b, c a = c b → a = b) (k : κ) {w : V} {v : Val} (rw' : Rep K F w v) {l : List (κ × V)} {kvs : List (Val × Val)} (h : RepP K F (l.map fun p => (e p.1, p.2)) kvs) :
    RepP K F ((putK l k w).map fun p => (e p.1, p.2)) (vput kvs (e k) (c k) v) := by
  unfold putK vput
  rw [RepP.any hc hi k h]
  split
  · exact RepP.mapput hc hi k rw' h
  · rw [List.map_append]
    exact RepP.append h (.cons rw' .nil)
theorem RepP.drop (hc : ∀ k, dkey (e k) = some (c k)) (hi : ∀ a b, c a = c b → a = b) (k : κ) : ∀ {l : List (κ × V)} {kvs : List (Val × Val)}, RepP K F (l.map fun p => (e p.1, p.2)) kvs →
    RepP K F ((dropK l k).map fun p => (e p.1, p.2)) (vdrop kvs (c k))
  | [], kvs, h => by cases h; exact .nil
  | p :: l, kvs, h => by
    cases h with
    | cons r t =>
      rename_i v' kvs
      have ih := RepP.drop hc hi k t
      unfold dropK vdrop at *
      rw [List.filter_cons, List.filter_cons]
      by_cases q : p.1 = k
      · have : dkey (e p.1) = some (c k) := (dk_iff hc hi _ _).mpr q
        simp only [q, this, ne_eq, not_true, decide_false, Bool.false_eq_true, if_false]
        have h2 : dkey (e k) = some (c k) := hc k
        simp only [h2, not_true, decide_false, Bool.false_eq_true, if_false]
        exact ih
      · have : ¬ dkey (e p.1) = some (c k) := fun z => q ((dk_iff hc hi _ _).mp z)
        simp only [q, this, ne_eq, not_false_eq_true, decide_true, if_true]
        exact .cons r ih
end
theorem inl_inj (a b : Key) (h : (Sum.inl a : DK) = Sum.inl b) : a = b := Sum.inl.inj h
theorem inr_inj (a b : List Key) (h : (Sum.inr a : DK) = Sum.inr b) : a = b := Sum.inr.inj h
def DK.isT : DK → Bool
  | .inl _ => false
  | .inr _ => true
/-- a value that is a key, in the heap -/
theorem keys_V {K : PySem.W.Frag} {B : Hp} : ∀ {xs : List Val} {ws : List V} {ks : List Key}, Reps K B ws xs → ksOf xs = some ks → ws = ks.map kV ∧ xs = ks.map kVal
  | [], _, ks, .nil, e => by cases e; exact ⟨rfl, rfl⟩
  | x :: xs, _, ks, .cons r t, e => by
    unfold ksOf at e
    cases q : kOf x with
    | none => rw [q] at e; cases e
    | some k =>
      cases q2 : ksOf xs with
      | none => rw [q, q2] at e; cases e
      | some ks' =>
        rw [q, q2] at e
        cases e
        obtain ⟨h1, h2⟩ := keys_V t q2
        cases x with
        | int i => cases q; cases r; exact ⟨by rw [h1]; rfl, by rw [h2]; rfl⟩
        | str z => cases q; cases r; exact ⟨by rw [h1]; rfl, by rw [h2]; rfl⟩
        | _ => cases q
theorem Rep.key {K : PySem.W.Frag} {B : Hp} {w : V} {x : Val} {d : DK} (r : Rep K B w x) (e : dkey x = some d) :
    (∃ k, d = .inl k ∧ w = kV k ∧ x = kVal k) ∨ ∃ ks b, d = .inr ks ∧ w = .ref b ∧ B b = some (.tup (ks.map kV)) ∧ x = .tup (ks.map kVal) := by
  cases x with
  | int i => cases e; cases r; exact .inl ⟨_, rfl, rfl, rfl⟩
  | str z => cases e; cases r; exact .inl ⟨_, rfl, rfl, rfl⟩
  | tup xs =>
    have e : (ksOf xs).map (Sum.inr : List Key → DK) = some d := e
    cases q : ksOf xs with
    | none => rw [q] at e; cases e
    | some ks =>
      rw [q] at e
      cases e
      obtain ⟨b, ws, rfl, hb, rs⟩ := r.seqT
      obtain ⟨h1, h2⟩ := keys_V rs q
      exact .inr ⟨ks, b, rfl, rfl, by rw [hb, h1], by rw [h2]⟩
  | _ => cases e
/-- what is read of a dict at a key -/
def dget (t : Bool) (kvs : List (Val × Val)) (x : Val) : Option (Option Val) := match dkey x with
  | some d => if DK.isT d = t then some (vget kvs d) else none
  | none => none
theorem Rep.dget {K : PySem.W.Frag} {B H : Hp} {w u : V} {t : Bool} {kvs : List (Val × Val)} {x : Val} {o : Option Val} (sb : Sub B H) (r : Rep K B w (.dic t kvs)) (q : Rep K B u x) (e : dget t kvs x = some o) :
    ∃ a y, w = .ref a ∧ DGet H a u y ∧ ((y = none ∧ o = none) ∨ ∃ z v, y = some z ∧ o = some v ∧ Rep K B z v) := by
  unfold VL.dget at e
  cases hd : dkey x with
  | none => rw [hd] at e; cases e
  | some d =>
    rw [hd] at e
    dsimp only at e
    split at e
    · cases e
      rename_i ht
      rcases q.key hd with ⟨k, rfl, rfl, rfl⟩ | ⟨ks, b, rfl, rfl, hb, rfl⟩
      · cases ht
        cases r with
        | dK hr rp =>
          rename_i a l
          refine ⟨a, valV l k, rfl, .inl ⟨l, k, sb.rd hr, rfl, rfl⟩, ?_⟩
          rcases RepP.get (e := kVal) (c := Sum.inl) dkey_k inl_inj k rp with ⟨h1, h2⟩ | ⟨z, v, h1, h2, h3⟩
          · exact .inl ⟨h1, h2⟩
          · exact .inr ⟨z, v, h1, h2, h3⟩
      · cases ht
        cases r with
        | dT hr rp =>
          rename_i a l
          refine ⟨a, valV l ks, rfl, .inr ⟨l, ks, b, sb.rd hr, rfl, sb _ _ hb, rfl⟩, ?_⟩
          rcases RepP.get (e := fun ks => .tup (ks.map kVal)) (c := Sum.inr) dkey_t inr_inj ks rp with ⟨h1, h2⟩ | ⟨z, v, h1, h2, h3⟩
          · exact .inl ⟨h1, h2⟩
          · exact .inr ⟨z, v, h1, h2, h3⟩
    · cases e
/-- .. of a place: what is found there is shared -/
theorem RepO.dget {K : PySem.W.Frag} {F H : Hp} {A : Addr → Prop} {w u : V} {t : Bool} {kvs : List (Val × Val)} {x : Val} {o : Option Val} {p : OT} (sb : Sub F H) (r : RepO K F H A w p) (hp : p = .sh (.dic t kvs) ∨ p = .oD t kvs ∨ p = .oR t kvs)
    (q : Rep K H u x) (e : VL.dget t kvs x = some o) : ∃ a y, w = .ref a ∧ DGet H a u y ∧ ((y = none ∧ o = none) ∨ ∃ z v, y = some z ∧ o = some v ∧ Rep K F z v) := by
  unfold VL.dget at e
  cases hd : dkey x with
  | none => rw [hd] at e; cases e
  | some d =>
    rw [hd] at e
    dsimp only at e
    split at e
    · cases e
      rename_i ht
      rcases q.key hd with ⟨k, rfl, rfl, rfl⟩ | ⟨ks, b, rfl, rfl, hb, rfl⟩
      · cases ht
        obtain ⟨a, l, rfl, hr, rp⟩ : ∃ a l, w = .ref a ∧ Rd H a (.dK l) ∧ RepP K F (l.map kK) kvs := by
          rcases hp with rfl | rfl | rfl
          · cases r with | sh r => cases r with | dK h rp => exact ⟨_, _, rfl, sb.rd h, rp⟩
          · cases r with | oK h _ rp => exact ⟨_, _, rfl, .inl h, rp⟩
          · cases r with | oRK h _ rp => exact ⟨_, _, rfl, .inr ⟨_, h⟩, rp⟩
        refine ⟨a, valV l k, rfl, .inl ⟨l, k, hr, rfl, rfl⟩, ?_⟩
        rcases RepP.get (e := kVal) (c := Sum.inl) dkey_k inl_inj k rp with ⟨h1, h2⟩ | ⟨z, v, h1, h2, h3⟩
        · exact .inl ⟨h1, h2⟩
        · exact .inr ⟨z, v, h1, h2, h3⟩
      · cases ht
        obtain ⟨a, l, rfl, hr, rp⟩ : ∃ a l, w = .ref a ∧ Rd H a (.dT l) ∧ RepP K F (l.map kT) kvs := by
          rcases hp with rfl | rfl | rfl
          · cases r with | sh r => cases r with | dT h rp => exact ⟨_, _, rfl, sb.rd h, rp⟩
          · cases r with | oDT h _ rp => exact ⟨_, _, rfl, .inl h, rp⟩
          · cases r with | oRT h _ rp => exact ⟨_, _, rfl, .inr ⟨_, h⟩, rp⟩
        refine ⟨a, valV l ks, rfl, .inr ⟨l, ks, b, hr, rfl, hb, rfl⟩, ?_⟩
        rcases RepP.get (e := fun ks => .tup (ks.map kVal)) (c := Sum.inr) dkey_t inr_inj ks rp with ⟨h1, h2⟩ | ⟨z, v, h1, h2, h3⟩
        · exact .inl ⟨h1, h2⟩
        · exact .inr ⟨z, v, h1, h2, h3⟩
    · cases e
/-! ### 2. an own thing becomes shared -/
/-- by locking some things one reaches P -/
inductive Lk (P : Hp → Prop) : Hp → Prop
  | here {H : Hp} : P H → Lk P H
  | lock {H : Hp} {d : Addr} {u : HO} : H d = some u → Mut (some u) → (∀ od, Lk P (upd H d (.frz od u))) → Lk P H
theorem Lk.bind {P P' : Hp → Prop} {H : Hp} (h : Lk P H) (k : ∀ H, P H → Lk P' H) : Lk P' H := by
  induction h with
  | here p => exact k _ p
  | lock e m _ ih => exact .lock e m ih
theorem Lk.inv {X : Cx} {pins : List (Addr × Obj)} {σ : L2.St} {P : Hp → Prop} {H : Hp} (h : Lk P H) : ∀ {s : Shared}, Inv X pins σ H s → ∃ H', Inv X pins σ H' s ∧ P H' := by
  induction h with
  | here p => exact fun I => ⟨_, I, p⟩
  | lock e m _ ih =>
    intro s I
    obtain ⟨od, I1⟩ := I.lock e m
    exact ih od I1
theorem pe_lk {X : Cx} {e : Expr} {t : TE} (h : PE X e t) : PE X e fun σ H Q => t σ H fun w H1 => Lk (Q w) H1 := ⟨fun pins s σ H Q I hw =>
  thn (h.run pins s σ H _ I hw) fun u s1 ⟨w, H1, I1, r, q⟩ => by
    obtain ⟨H2, I2, q2⟩ := q.inv I1
    exact ⟨w, H2, I2, r, q2⟩⟩
theorem ps_lk {X : Cx} {st : Stmt} {t : TS} (h : PS X st t) : PS X st fun D σ H => Lk (fun H' => t D σ H') H := ⟨fun pins s σ H D I hw => by
  obtain ⟨H2, I2, q2⟩ := hw.inv I
  exact h.run pins s σ H2 D I2 q2⟩

mutual
/-- nothing of it is walked just now -/
def OT.free : OT → Bool
  | .oR _ _ => false
  | .oT xs => OT.frees xs
  | _ => true
def OT.frees : List OT → Bool
  | [] => true
  | t :: r => t.free && OT.frees r
end
theorem nd_lst (ws : List V) : ((∀ l, HO.lst ws ≠ .dK l) ∧ ∀ l, HO.lst ws ≠ .dT l) ∧ ∀ us, HO.lst ws ≠ .tup us := ⟨⟨fun _ q => (by cases q), fun _ q => (by cases q)⟩, fun _ q => (by cases q)⟩
theorem nd_frz (od : Obj) (u : HO) : ((∀ l, HO.frz od u ≠ .dK l) ∧ ∀ l, HO.frz od u ≠ .dT l) ∧ ∀ us, HO.frz od u ≠ .tup us := ⟨⟨fun _ q => (by cases q), fun _ q => (by cases q)⟩, fun _ q => (by cases q)⟩
theorem upd_eq {H : Hp} {a : Addr} {o : HO} (h : H a = some o) : upd H a o = H := by
  funext b
  by_cases e : b = a
  · rw [e, upd_same, h]
  · rw [upd_ne e]
/-- behind a freezing: A's things are in the part that never changes, all else is as it was -/
structure Frz (W : Wo) (A : Addr → Prop) (G G' : Gh) (s : W.S) (H H' : Hp) : Prop where
  rw' : RelW W G' s H'
  sub : Sub G.F G'.F
  fp : G'.fp = G.fp
  ad : G'.ad = G.ad
  off : ∀ a, ¬ A a → H' a = H a ∧ G'.F a = G.F a
  on : ∀ a o, H a = some o → ∃ o', H' a = some o'
section
variable {W : Wo} {K : PySem.W.Frag} {s : W.S}
theorem Frz.refl {A : Addr → Prop} {G : Gh} {H : Hp} (r : RelW W G s H) : Frz W A G G s H H := ⟨r, Sub.refl _, rfl, rfl, fun _ _ => ⟨rfl, rfl⟩, fun _ o h => ⟨o, h⟩⟩
theorem Frz.trans {A A1 A2 : Addr → Prop} {G G1 G2 : Gh} {H H1 H2 : Hp} (x : Frz W A1 G G1 s H H1) (y : Frz W A2 G1 G2 s H1 H2) (h1 : ∀ a, A1 a → A a) (h2 : ∀ a, A2 a → A a) : Frz W A G G2 s H H2 where
  rw' := y.rw'
  sub := x.sub.trans y.sub
  fp := y.fp.trans x.fp
  ad := y.ad.trans x.ad
  off := fun a n => ⟨(y.off a fun z => n (h2 a z)).1.trans (x.off a fun z => n (h1 a z)).1, (y.off a fun z => n (h2 a z)).2.trans (x.off a fun z => n (h1 a z)).2⟩
  on := fun a o e => by
    obtain ⟨o1, e1⟩ := x.on a o e
    exact y.on a o1 e1
theorem Frz.one {A : Addr → Prop} {G : Gh} {H : Hp} {p : Addr} {u o : HO} (r : RelW W G s H) (hA : A p) (hp : H p = some u) (hn : G.F p = none) (hf : ¬ G.fp p) (hl : (∀ l, o ≠ .dK l) ∧ ∀ l, o ≠ .dT l) (ht : ∀ ws, o ≠ .tup ws) :
    Frz W A G { G with F := upd G.F p o } s H (upd H p o) where
  rw' := r.freeze hp hn hf hl ht
  sub := Sub.upd hn
  fp := rfl
  ad := rfl
  off := fun a n => by
    have q : a ≠ p := fun z => n (z ▸ hA)
    exact ⟨upd_ne q, by show upd G.F p o a = _; rw [upd_ne q]⟩
  on := fun a o' e => by
    by_cases q : a = p
    · subst q; exact ⟨_, upd_same⟩
    · exact ⟨o', by rw [upd_ne q]; exact e⟩
mutual
theorem RepO.frz {A : Addr → Prop} {w : V} : ∀ {t : OT} {G : Gh} {H : Hp}, RelW W G s H → (∀ a, A a → G.F a = none ∧ ¬ G.fp a) → t.free = true → RepO K G.F H A w t → Lk (fun H' => ∃ G', Frz W A G G' s H H' ∧ Rep K G'.F w t.val) H
  | .sh v, G, H, r, hA, hf, .sh rp => .here ⟨G, Frz.refl r, rp⟩
  | .oL vs, G, H, r, hA, hf, .oL (a := a) (ws := ws) e z rp => by
    have x := Frz.one (A := A) (o := .lst ws) r z e (hA a z).1 (hA a z).2 (nd_lst ws).1 (nd_lst ws).2
    rw [upd_eq e] at x
    exact .here ⟨_, x, .lst (a := a) (ws := ws) upd_same (rp.mono (Sub.upd (hA a z).1))⟩
  | .oD false kvs, G, H, r, hA, hf, .oK (a := a) (l := l) e z rp => by
    refine .lock e True.intro fun od => .here ⟨_, Frz.one (A := A) (o := .frz od (.dK l)) r z e (hA a z).1 (hA a z).2 (nd_frz _ _).1 (nd_frz _ _).2, ?_⟩
    exact .dK (.inr ⟨od, upd_same⟩) (rp.mono (Sub.upd (hA a z).1))
  | .oD true kvs, G, H, r, hA, hf, .oDT (a := a) (l := l) e z rp => by
    refine .lock e True.intro fun od => .here ⟨_, Frz.one (A := A) (o := .frz od (.dT l)) r z e (hA a z).1 (hA a z).2 (nd_frz _ _).1 (nd_frz _ _).2, ?_⟩
    exact .dT (.inr ⟨od, upd_same⟩) (rp.mono (Sub.upd (hA a z).1))
  | .oT xs, G, H, r, hA, hf, .oT (a := a) (ws := ws) e rs => by
    refine (RepOs.frz r hA hf rs).bind fun H' ⟨G', x, rp⟩ => .here ⟨G', x, .tup (x.sub _ _ e) rp⟩
theorem RepOs.frz {A : Addr → Prop} : ∀ {ts : List OT} {ws : List V} {G : Gh} {H : Hp}, RelW W G s H → (∀ a, A a → G.F a = none ∧ ¬ G.fp a) → OT.frees ts = true → RepOs K G.F H A ws ts → Lk (fun H' => ∃ G', Frz W A G G' s H H' ∧ Reps K G'.F ws (OT.vals ts)) H
  | [], _, G, H, r, hA, hf, .nil => .here ⟨G, Frz.refl r, .nil⟩
  | t :: ts, _, G, H, r, hA, hf, .cons (A1 := A1) (A2 := A2) r1 r2 d h1 h2 => by
    have hf' : (t.free && OT.frees ts) = true := hf
    rw [Bool.and_eq_true] at hf'
    refine (RepO.frz r (fun a z => hA a (h1 a z)) hf'.1 r1).bind fun H1 ⟨G1, x1, p1⟩ => ?_
    have k2 : ∀ a, A2 a → ¬ A1 a := fun a z y => d a y z
    have r2' : RepOs K G1.F H1 A2 _ ts := r2.mono x1.sub (fun _ z => z) fun a z => (x1.off a (k2 a z)).1
    refine (RepOs.frz x1.rw' (fun a z => ?_) hf'.2 r2').bind fun H2 ⟨G2, x2, p2⟩ => .here ⟨G2, x1.trans x2 h1 h2, .cons (p1.mono x2.sub) p2⟩
    rw [(x1.off a (k2 a z)).2, x1.fp]
    exact hA a (h2 a z)
end
end
section
variable {W : Wo} {X : Cx} {E : WX}
theorem Nx.frz {A : Addr → Prop} {G0 G1 G2 : Gh} {s : W.S} {H0 H1 H2 : Hp} (x : Nx G0 G1 H0 H1) (f : Frz W A G1 G2 s H1 H2) (hA : ∀ a, A a → H0 a = none) : Nx G0 G2 H0 H2 where
  sub := x.sub.trans f.sub
  keep := fun a o e n => by
    have na : ¬ A a := fun z => by rw [hA a z] at e; cases e
    rw [(f.off a na).1]; exact x.keep a o e n
  there := fun a h => by
    cases q : H1 a with
    | none => exact x.there a q
    | some o => obtain ⟨o', e⟩ := f.on a o q; rw [h] at e; cases e
  ad := f.ad.trans x.ad
  fp := fun a z => by rw [f.fp] at z; exact x.fp a z
  fz := fun a o e => by
    by_cases z : A a
    · exact .inr (.inl (hA a z))
    · rw [(f.off a z).2] at e; exact x.fz a o e
theorem Rel.frz {A : Addr → Prop} {G1 G2 : Gh} {ρ : En} {s : W.S} {σ : L2.St} {H1 H2 : Hp} (r : Rel W X.K G1 ρ s σ H1) (f : Frz W A G1 G2 s H1 H2) (hA : ∀ a, A a → ∀ i, ¬ G1.ad i a) : Rel W X.K G2 ρ s σ H2 where
  toRelW := f.rw'
  len := r.len
  slot := fun i t e => by
    obtain ⟨w, h1, h2⟩ := r.slot i t e
    exact ⟨w, h1, h2.mono f.sub (fun a z => by rw [f.ad]; exact z) fun a z => (f.off a fun y => hA a y i z).1⟩
  own := fun i a z => by
    rw [f.ad] at z
    have na : ¬ A a := fun y => hA a y i z
    rw [(f.off a na).1, (f.off a na).2, f.fp]
    exact r.own i a z
  dis := fun i j a h z => by rw [f.ad] at z ⊢; exact r.dis i j a h z
/-- a new thing, shared at once -/
def eF (f : Sm W OT) : Ev W := fun ρ s => (f ρ s).bind fun t s1 => if t.free = true then .ok t.val s1 else .bad
theorem ve_f {e : Expr} {f : Sm W OT} (h : VF W X E e f) : VE W X E e (eF f) := PE.imp (pe_lk h) fun σ H Q hq => by
  obtain ⟨G, ρ, s, r, hq⟩ := hq
  refine ⟨G, ρ, s, r, ?_⟩
  unfold eF at hq
  cases q : f ρ s with
  | bad => rw [q] at hq; exact hq
  | exc c n s' => rw [q] at hq; exact hq
  | ok t s' =>
    rw [q] at hq
    rintro G1 H1 w x r1 ⟨A, ro, hA⟩
    have hq : Pst W X.K E (pV X.K H) G ρ σ H (if t.free = true then R.ok t.val s' else .bad) Q := hq
    split at hq
    · rename_i hf
      refine (ro.frz r1.toRelW (fun a z => ⟨(hA a z).2.1, (hA a z).2.2.2.1⟩) hf).bind fun H2 ⟨G2, f, rp⟩ => .here ?_
      exact hq G2 H2 w (x.frz f fun a z => (hA a z).1) (r1.frz f fun a z => (hA a z).2.2.2.2) rp
    · exact hq.elim

/-! ### 3. new lists, tuples, dicts -/
variable {es : List Expr} {fs : Sm W (List Val)} {pos : Pos}
def small {α : Type} (n : Nat) (a : α) (s : W.S) : R W.S α := if n ≤ sizeLine then .ok a s else .bad
/-- a new own object -/
theorem pF.new {G : Gh} {ρ : En} {s : W.S} {σ : L2.St} {H : Hp} {p : Addr} {o : HO} {t : OT} (r : Rel W X.K G ρ s σ H) (hp : H p = none) (ht : ∀ ws, o ≠ .tup ws) (ro : RepO X.K G.F (upd H p o) (fun a => a = p) (.ref p) t) :
    Nx G G H (upd H p o) ∧ Rel W X.K G ρ s σ (upd H p o) ∧ pF X.K H G (upd H p o) (.ref p) t := by
  obtain ⟨x, rw'⟩ := r.toRelW.laid hp ht
  refine ⟨x, r.next x rw', _, ro, ?_⟩
  rintro a rfl
  refine ⟨hp, r.toRelW.free hp, ⟨o, upd_same, ht⟩, fun z => ?_, fun i z => ?_⟩
  · obtain ⟨_, ⟨o', e⟩, _⟩ := W.own r.wrl z
    rw [hp] at e; cases e
  · obtain ⟨_, ⟨o', e, _⟩, _⟩ := r.own i a z
    rw [hp] at e; cases e
theorem pV.new {G : Gh} {ρ : En} {s : W.S} {σ : L2.St} {H : Hp} {p : Addr} {o : HO} (r : Rel W X.K G ρ s σ H) (hp : H p = none) (hl : (∀ l, o ≠ .dK l) ∧ ∀ l, o ≠ .dT l) :
    Nx G { G with F := upd G.F p o } H (upd H p o) ∧ Rel W X.K { G with F := upd G.F p o } ρ s σ (upd H p o) := by
  obtain ⟨x, rw'⟩ := r.toRelW.fresh hp hl
  exact ⟨x, r.next x rw'⟩
theorem nd_tup (ws : List V) : (∀ l, HO.tup ws ≠ .dK l) ∧ ∀ l, HO.tup ws ≠ .dT l := ⟨fun _ q => (by cases q), fun _ q => (by cases q)⟩
def fLst (fs : Sm W (List Val)) : Sm W OT := fun ρ s => (fs ρ s).bind fun vs s1 => small vs.length (.oL vs) s1
def eTup (fs : Sm W (List Val)) : Ev W := fun ρ s => (fs ρ s).bind fun vs s1 => small vs.length (.tup vs) s1
theorem Pst.small {α γ : Type} {K : PySem.W.Frag} {P : RP γ α} {G : Gh} {ρ : En} {σ : L2.St} {H : Hp} {s : W.S} {n : Nat} {a : α} {Q : γ → Hp → Prop} (h : Pst W K E P G ρ σ H (small n a s) Q) : n ≤ sizeLine ∧ Pst W K E P G ρ σ H (.ok a s) Q := by
  unfold VL.small at h
  split at h
  · exact ⟨by assumption, h⟩
  · exact h.elim
theorem vf_lst (h : VA W X E es fs) : VF W X E (.List es pos) (fLst fs) := PE.imp (pe_lst h) fun σ H Q hq => by
  have h' := seq1 (P := pVs X.K) (P' := pF X.K) (f := fs) (g := fun vs _ s1 => small vs.length (.oL vs) s1) pF.back hq
  refine h'.mono ?_
  rintro ws H1 ⟨G, ρ, s, vs, r, rp, h'⟩
  obtain ⟨hz, h'⟩ := Pst.small h'
  have rp : Reps X.K G.F ws vs := rp
  refine ⟨by rw [rp.length]; exact hz, fun p hp => ?_⟩
  obtain ⟨x, r2, p2⟩ := pF.new (o := .lst ws) (t := .oL vs) r hp (nd_lst ws).2 (.oL upd_same rfl rp)
  exact h' _ _ _ x r2 p2
theorem ve_tup {k : Nat} (h : VA W X E es fs) : VE W X E (.Tuple es k pos) (eTup fs) := PE.imp (pe_tup h) fun σ H Q hq => by
  have h' := seq1 (P := pVs X.K) (P' := pV X.K) (f := fs) (g := fun vs _ s1 => small vs.length (.tup vs) s1) pV.back hq
  refine h'.mono ?_
  rintro ws H1 ⟨G, ρ, s, vs, r, rp, h'⟩
  obtain ⟨hz, h'⟩ := Pst.small h'
  have rp : Reps X.K G.F ws vs := rp
  refine ⟨by rw [rp.length]; exact hz, fun p hp => ?_⟩
  obtain ⟨x, r2⟩ := pV.new (o := .tup ws) r hp (nd_tup ws)
  exact h' _ _ _ x r2 (.tup upd_same (rp.mono (Sub.upd (r.toRelW.free hp))))
def fD0 (t : Bool) : Sm W OT := fun _ s => .ok (.oD t []) s
theorem vf_dK0 : VF W X E (.Dict [] [] pos) (fD0 false) := PE.imp pe_dnewK fun σ H Q ⟨G, ρ, s, r, hq⟩ => fun p hp => by
  obtain ⟨x, r2, p2⟩ := pF.new (o := .dK []) (t := .oD false []) r hp (fun _ q => (by cases q)) (.oK upd_same rfl .nil)
  exact hq _ _ _ x r2 p2
theorem vf_dT0 : VF W X E (.Dict [] [] pos) (fD0 true) := PE.imp pe_dnewT fun σ H Q ⟨G, ρ, s, r, hq⟩ => fun p hp => by
  obtain ⟨x, r2, p2⟩ := pF.new (o := .dT []) (t := .oD true []) r hp (fun _ q => (by cases q)) (.oDT upd_same rfl .nil)
  exact hq _ _ _ x r2 p2

/-! ### 4. items -/
/-- an item of a place -/
def ixO : OT → Val → Option OT
  | .sh (.lst xs), .int i => (atI xs i).map .sh
  | .sh (.tup xs), .int i => (atI xs i).map .sh
  | .sh (.wtup xs), .int i => (atI xs i).map .sh
  | .sh (.wlst xs), .int i => (atI xs i).map .sh
  | .oL xs, .int i => (atI xs i).map .sh
  | .oT ts, .int i => atI ts i
  | .sh (.str z), .int i => if z.length ≤ sizeLine then (atI z.cps.toList i).map fun c => .sh (.str ⟨#[c]⟩) else none
  | _, _ => none
def pIx (p : Sm W OT) (f : Ev W) : Sm W OT := fun ρ s => (p ρ s).bind fun t s1 => (f ρ s1).bind fun v s2 => R.opt (ixO t v) s2
theorem Reps.atI {K : PySem.W.Frag} {F : Hp} {ws : List V} {vs : List Val} {i : Int} {v : Val} (r : Reps K F ws vs) (e : L2.atI vs i = some v) : ∃ w, L2.atI ws i = some w ∧ Rep K F w v := by
  unfold L2.atI at e ⊢
  rw [r.length]
  cases q : ixN vs.length i with
  | none => rw [q] at e; cases e
  | some j =>
    rw [q] at e
    exact r.at' e
theorem RepOs.length {K : PySem.W.Frag} {F H : Hp} : ∀ {ts : List OT} {A : Addr → Prop} {ws : List V}, RepOs K F H A ws ts → ws.length = ts.length
  | [], _, _, .nil => rfl
  | _ :: _, _, _, .cons _ t _ _ _ => by rw [List.length_cons, List.length_cons, RepOs.length t]
theorem RepOs.at {K : PySem.W.Frag} {F H : Hp} : ∀ {ts : List OT} {A : Addr → Prop} {ws : List V} {j : Nat} {t : OT}, RepOs K F H A ws ts → ts[j]? = some t → ∃ w A', ws[j]? = some w ∧ RepO K F H A' w t ∧ ∀ a, A' a → A a
  | [], _, _, _, _, .nil, e => by simp at e
  | _ :: _, _, _, 0, _, .cons r _ _ h1 _, e => by simp at e; subst e; exact ⟨_, _, rfl, r, h1⟩
  | _ :: _, _, _, j + 1, _, .cons _ t _ _ h2, e => by
    obtain ⟨w, A', e1, r, h⟩ := RepOs.at (j := j) t (by simpa using e)
    exact ⟨w, A', by simpa using e1, r, fun a z => h2 a (h a z)⟩
variable {a b : Expr} {p : Sm W OT} {f : Ev W}
theorem vp_ix (ha : VP W X E a p) (hb : VE W X E b f) (hs : PlainIx b := by exact fun _ _ => rfl) : VP W X E (.Subscript a b pos) (pIx p f) := PE.imp (pe_ix ix_seq ha hb hs) fun σ H Q hq => by
  have h' := seq2 (P := pP X.K) (P' := pV X.K) (P2 := pP X.K) (f := p) (f2 := f) (g := fun t v _ s2 => R.opt (ixO t v) s2) pP.back pP.keeps hq
  refine h'.mono fun w H1 k1 => k1.mono ?_
  clear h' hq
  rintro u H2 ⟨G, ρ, s, t, v, rl, ⟨A, ro, hA⟩, p2, k2⟩
  obtain ⟨t2, e, k3⟩ := Pst.opt k2
  have p2 : Rep X.K G.F u v := p2
  unfold ixO at e
  split at e
  · cases p2.int_inv
    cases q : L2.atI _ _ with
    | none => rw [q] at e; cases e
    | some y =>
      rw [q] at e; cases e
      cases ro with
      | sh r =>
        obtain ⟨a, ws, rfl, ha, rs⟩ := r.seqL
        obtain ⟨z, e1, r1⟩ := rs.atI q
        exact .inl ⟨_, ws, _, z, rfl, rfl, SqL.of (rl.sub _ _ ha), e1, k3.done rl ⟨_, .sh (A := fun _ => False) r1, fun _ z => z.elim⟩⟩
  · cases p2.int_inv
    cases q : L2.atI _ _ with
    | none => rw [q] at e; cases e
    | some y =>
      rw [q] at e; cases e
      cases ro with
      | sh r =>
        obtain ⟨a, ws, rfl, ha, rs⟩ := r.seqT
        obtain ⟨z, e1, r1⟩ := rs.atI q
        exact .inr (.inl ⟨_, ws, _, z, rfl, rfl, SqT.of (rl.sub _ _ ha), e1, k3.done rl ⟨_, .sh (A := fun _ => False) r1, fun _ z => z.elim⟩⟩)
  · cases p2.int_inv
    cases q : L2.atI _ _ with
    | none => rw [q] at e; cases e
    | some y =>
      rw [q] at e; cases e
      cases ro with
      | sh r =>
        obtain ⟨a, ws, rfl, ha, rs⟩ := r.seqW
        obtain ⟨z, e1, r1⟩ := rs.atI q
        exact .inr (.inl ⟨_, ws, _, z, rfl, rfl, rl.sub.seqT ha, e1, k3.done rl ⟨_, .sh (A := fun _ => False) r1, fun _ z => z.elim⟩⟩)
  · cases p2.int_inv
    cases q : L2.atI _ _ with
    | none => rw [q] at e; cases e
    | some y =>
      rw [q] at e; cases e
      cases ro with
      | sh r =>
        obtain ⟨a, ws, rfl, ha, rs⟩ := r.seqV
        obtain ⟨z, e1, r1⟩ := rs.atI q
        exact .inl ⟨_, ws, _, z, rfl, rfl, rl.sub.seqL ha, e1, k3.done rl ⟨_, .sh (A := fun _ => False) r1, fun _ z => z.elim⟩⟩
  · cases p2.int_inv
    cases q : L2.atI _ _ with
    | none => rw [q] at e; cases e
    | some y =>
      rw [q] at e; cases e
      cases ro with
      | oL ha _ rs =>
        obtain ⟨z, e1, r1⟩ := rs.atI q
        exact .inl ⟨_, _, _, z, rfl, rfl, SqL.of ha, e1, k3.done rl ⟨_, .sh (A := fun _ => False) r1, fun _ z => z.elim⟩⟩
  · cases p2.int_inv
    cases ro with
    | oT ha rs =>
      unfold L2.atI at e
      cases q : ixN _ _ with
      | none => rw [q] at e; cases e
      | some j =>
        rw [q] at e
        obtain ⟨z, A', e1, r1, h1⟩ := rs.at e
        refine .inr (.inl ⟨_, _, _, z, rfl, rfl, SqT.of (rl.sub _ _ ha), ?_, k3.done rl ⟨_, r1, fun a y => hA a (h1 a y)⟩⟩)
        unfold L2.atI
        rw [rs.length, q]
        exact e1
  · cases p2.int_inv
    split at e
    · rename_i hz
      cases q : L2.atI _ _ with
      | none => rw [q] at e; cases e
      | some c =>
        rw [q] at e; cases e
        cases ro with
        | sh r =>
          cases r.str_inv
          exact .inr (.inr ⟨_, _, c, rfl, rfl, hz, q, k3.done rl ⟨_, .sh (A := fun _ => False) (.str _), fun _ z => z.elim⟩⟩)
    · cases e
  · cases e
/-- a thing that is a value, as a place -/
def pE (f : Ev W) : Sm W OT := fun ρ s => (f ρ s).bind fun v s1 => .ok (.sh v) s1
theorem vp_of {e : Expr} (h : VE W X E e f) : VP W X E e (pE f) := PE.imp h fun σ H Q hq => by
  have h' := seq1 (P := pV X.K) (P' := pP X.K) (f := f) (g := fun v _ s1 => .ok (.sh v) s1) pP.back hq
  refine h'.mono ?_
  rintro w H1 ⟨G, ρ, s, v, r, rp, h'⟩
  exact h'.done r ⟨_, .sh (A := fun _ => False) rp, fun _ z => z.elim⟩
/-- d[k] of a dict -/
def OT.dict : OT → Option (Bool × List (Val × Val))
  | .sh (.dic t kvs) => some (t, kvs)
  | .oD t kvs => some (t, kvs)
  | .oR t kvs => some (t, kvs)
  | _ => none
theorem OT.dict_of {p : OT} {t : Bool} {kvs : List (Val × Val)} (h : p.dict = some (t, kvs)) : p = .sh (.dic t kvs) ∨ p = .oD t kvs ∨ p = .oR t kvs := by
  unfold OT.dict at h
  split at h
  · cases h; exact .inl rfl
  · cases h; exact .inr (.inl rfl)
  · cases h; exact .inr (.inr rfl)
  · cases h
/-- what a place that is a dict holds at a key -/
def dgO (p : OT) (v : Val) : Option (Option Val) := p.dict.bind fun d => dget d.1 d.2 v
theorem dgO_of {p : OT} {v : Val} {o : Option Val} (h : dgO p v = some o) : ∃ t kvs, p.dict = some (t, kvs) ∧ dget t kvs v = some o := by
  unfold dgO at h
  cases q : p.dict with
  | none => rw [q] at h; cases h
  | some d => rw [q] at h; exact ⟨d.1, d.2, rfl, h⟩
def eDg (p : Sm W OT) (f : Ev W) : Ev W := fun ρ s => (p ρ s).bind fun t s1 => (f ρ s1).bind fun v s2 => R.opt ((dgO t v).bind id) s2
theorem ve_dg (hu : X.A.units + 1 < cLine) (ha : VP W X E a p) (hb : VE W X E b f) (hs : NoSl b := by exact fun _ _ => rfl) : VE W X E (.Subscript a b pos) (eDg p f) := PE.imp (pe_dget hu ha hb hs) fun σ H Q hq => by
  have h' := seq2 (P := pP X.K) (P' := pV X.K) (P2 := pV X.K) (f := p) (f2 := f) (g := fun t v _ s2 => R.opt ((dgO t v).bind id) s2) pV.back pP.keeps hq
  refine h'.mono fun w H1 k1 => k1.mono ?_
  clear h' hq
  rintro u H2 ⟨G, ρ, s, t, v, rl, ⟨A, ro, hA⟩, p2, k2⟩
  obtain ⟨z, e, k3⟩ := Pst.opt k2
  cases q : dgO t v with
  | none => rw [q] at e; cases e
  | some o =>
    rw [q] at e
    have e : o = some z := e
    subst e
    obtain ⟨tt, kvs, e1, e2⟩ := dgO_of q
    obtain ⟨a, y, rfl, dg, h3⟩ := ro.dget rl.sub (OT.dict_of e1) (Rep.mono rl.sub p2) e2
    rcases h3 with ⟨_, h4⟩ | ⟨z2, v2, rfl, h4, r4⟩
    · cases h4
    · cases h4
      exact ⟨a, z2, rfl, dg, k3.done rl r4⟩
end
end VL

/-! VL5: == of values; what a value reads as. -/
namespace VL
open PySem PySem.Spec PyProof.Rows L2 PySem.SeqAt

/-! ### 1. two dicts with keys of one kind, object by object -/
section
variable {prog : Program} {w : World} {A : Around} {E : Value → Shared → Prop} {s : Shared} {K : Type} [DecidableEq K] {knd : HeapKind prog w K}
/-- what the comparison gives: e tells of the values at a key that both have -/
def sameH (ys : List (K × Addr × Value)) (e : K → Bool) (xs : List (K × Addr × Value)) : Bool := xs.all fun x => (atKey ys x.1).isSome && e x.1
theorem atKey_at {ys : List (K × Addr × Value)} (hn : (ys.map (·.1)).Nodup) {j : Nat} {k : K} {p : Addr × Value} (h : ys[j]? = some (k, p)) : atKey ys k = some p := by
  induction ys generalizing j with
  | nil => simp at h
  | cons y r ih =>
    unfold atKey
    rw [List.find?_cons]
    rw [List.map_cons, List.nodup_cons] at hn
    cases j with
    | zero =>
      have e : y = (k, p) := by simpa using h
      subst e
      simp
    | succ j =>
      have h' : r[j]? = some (k, p) := by simpa using h
      have ne : ¬ y.1 = k := fun q => hn.1 (by
        rw [q]
        exact List.mem_map.mpr ⟨(k, p), List.mem_of_getElem? h', rfl⟩)
      simp only [ne, decide_false]
      exact ih hn.2 h'
theorem atKey_none {ys : List (K × Addr × Value)} {k : K} (h : ∀ (j : Nat) (p : Addr × Value), ys[j]? ≠ some (k, p)) : atKey ys k = none := by
  unfold atKey
  rw [Option.map_eq_none_iff, List.find?_eq_none]
  intro y hy q
  obtain ⟨j, hj⟩ := List.getElem?_of_mem hy
  have : y.1 = k := of_decide_eq_true q
  exact h j y.2 (by rw [hj, ← this])
theorem same_pairs {nm : String} {a b : Addr} {xs ys : List (K × Addr × Value)} {e : K → Bool} {Q : Bool → Shared → Prop} (ha : (a == sysModules) = false) (hb : (b == sysModules) = false) (hu : knd.room A)
    (hx : s.heap.DictOfH knd a xs) (hy : s.heap.DictOfH knd b ys) (he : ∀ x ∈ xs, ∀ p, atKey ys x.1 = some p → EqIn prog w A s x.2.2 p.2 (e x.1))
    (h : Q (xs.length == ys.length && sameH ys e xs) s) : wpAny (model prog w) A (Builtin.Dict.samePairs nm a b) Q E s := by
  obtain ⟨oa, ea, epa, ga, _, da, la, isa, _⟩ := hx
  obtain ⟨ob, eb, epb, gb, _, db, lb, isb, nb⟩ := hy
  have sa : ea.size = xs.length := size_of_entries la
  have sb : eb.size = ys.length := size_of_entries lb
  unfold Builtin.Dict.samePairs Builtin.Dict.showsAll
  simp only [ha, hb, Bool.false_eq_true, if_false]
  refine wpAny_bind (wpAny_pure (wpAny_bind (wpAny_pure (wpAny_bind (wpAny_dictEntries ga da ?_)))))
  refine wpAny_bind (wpAny_dictEntries gb db ?_)
  by_cases hz : ea.size = eb.size
  · have hl : (xs.length == ys.length) = true := by rw [beq_iff_eq]; omega
    rw [hl, Bool.true_and] at h
    rw [if_neg (by simp [hz])]
    refine wpAny_bind (wpAny_dictEpoch ga da (wpAny_bind ?_))
    rw [Std.Legacy.Range.forIn_eq_forIn_range']
    simp only [Std.Legacy.Range.size, Nat.sub_zero, Nat.add_sub_cancel, Nat.div_one]
    refine wpAny_forIn_list _ (fun rest q s' => s' = s ∧ q = (none, ()) ∧ ∃ i, rest = List.range' i (ea.size - i) ∧ i ≤ ea.size ∧ sameH ys e xs = sameH ys e (xs.drop i)) _ ?_ ?_ _ _ ⟨rfl, rfl, 0, by simp, Nat.zero_le _, rfl⟩
    · rintro i rest q s' ⟨rfl, rfl, j, hr, hj, hs⟩
      have lt : j < ea.size := by
        rcases Nat.lt_or_ge j ea.size with z | z
        · exact z
        · rw [Nat.sub_eq_zero_of_le z] at hr; cases hr
      have e1 : ea.size - j = (ea.size - (j + 1)) + 1 := by omega
      rw [e1, List.range'_succ] at hr
      injection hr with hr1 hr2
      subst hr1
      have lx : i < xs.length := by omega
      have ex : xs[i]? = some xs[i] := List.getElem?_eq_getElem lx
      have een : ea[i]? = some (entryOfKey knd xs[i]) := by rw [entry_at la, ex]; rfl
      have dr : xs.drop i = xs[i] :: xs.drop (i + 1) := List.drop_eq_getElem_cons lx
      refine wpAny_bind (wpAny_dictEntries ga da ?_)
      rw [een]
      refine wpAny_bind (wpAny_holding (wpAny_bind ?_))
      have hin : xs[i] ∈ xs := List.getElem_mem lx
      refine wpAny_dictFind_heap hu (isa _ hin) gb db lb isb nb (fun hno => ?_) (fun k p hk => ?_)
      · rw [hs, dr] at h
        have z := atKey_none hno
        have fz : sameH ys e (xs[i] :: xs.drop (i + 1)) = false := by
          unfold sameH
          rw [List.all_cons, z]; rfl
        rw [fz] at h
        exact wpAny_pure (wpAny_pure (wpAny_pure h))
      · have z := atKey_at nb hk
        have ebn : eb[k]? = some (entryOfKey knd (xs[i].1, p)) := by rw [entry_at lb, hk]; rfl
        refine wpAny_bind (wpAny_dictEntries gb db ?_)
        rw [ebn]
        have fz : sameH ys e (xs[i] :: xs.drop (i + 1)) = (e xs[i].1 && sameH ys e (xs.drop (i + 1))) := by
          unfold sameH
          rw [List.all_cons, z]; rfl
        refine wpAny_holding (he _ hin p z _ _ ?_)
        cases q : e xs[i].1 with
        | false =>
          rw [hs, dr, fz, q] at h
          exact wpAny_pure (wpAny_pure h)
        | true =>
          refine wpAny_bind (wpAny_dictEpoch ga da ?_)
          rw [if_neg (by simp)]
          refine wpAny_pure ⟨rfl, rfl, i + 1, hr2, lt, ?_⟩
          rw [hs, dr, fz, q, Bool.true_and]
    · rintro q s' ⟨rfl, rfl, j, hr, hj, hs⟩
      have z : j = ea.size := by
        rcases Nat.lt_or_ge j ea.size with z | z
        · have e1 : ea.size - j = (ea.size - (j + 1)) + 1 := by omega
          rw [e1, List.range'_succ] at hr; cases hr
        · omega
      have e2 : xs.drop j = [] := List.drop_eq_nil_of_le (by omega)
      rw [hs, e2] at h
      exact wpAny_pure h
  · have hl : (xs.length == ys.length) = false := by rw [beq_eq_false_iff_ne]; omega
    rw [hl, Bool.false_and] at h
    rw [if_pos (by simpa using hz)]
    exact wpAny_bind (wpAny_rule (wpAny_pure h))
theorem rc_dictsH {a b : Addr} {xs ys : List (K × Addr × Value)} {e : K → Bool} (ha : (a == sysModules) = false) (hb : (b == sysModules) = false) (hu : A.units < cLine) (hr : knd.room A.in1)
    (hx : s.heap.DictOfH knd a xs) (hy : s.heap.DictOfH knd b ys) (he : ∀ x ∈ xs, ∀ p, atKey ys x.1 = some p → EqIn prog w A.in1 s x.2.2 p.2 (e x.1)) (E Q : Value → Shared → Prop)
    (h : Q (.bool (xs.length == ys.length && sameH ys e xs)) s) : wpAny (model prog w) A (richCompare .Eq (.ref a) (.ref b)) Q E s := by
  refine wpAny_richCompare_same_room (op := .Eq) hx.typeIs hy.typeIs PySem.F.slot_dict_eq (wpAny_call_entry PySem.F.slot_dict_eq hx.typeIs PySem.F.entry_dict_eq ?_ (PySem.F.args_dict_eq_2 _ _)) hu
  show wpAny _ _ (Builtin.Dict.dictSlotArgs "__eq__" ⟨[.ref a, .ref b], []⟩ >>= _) _ _ s
  unfold Builtin.Dict.dictSlotArgs
  refine wpAny_bind (wpAny_bind (wpAny_notOrdered_dict hx.typeIs (wpAny_pure ?_)))
  refine wpAny_bind (wpAny_isInstance (T := "dict") hy.typeIs PySem.F.sub_dict_dict ?_)
  simp only [Bool.not_true, Bool.false_eq_true, if_false]
  refine wpAny_bind (wpAny_pure (wpAny_bind (wpAny_pure (wpAny_bind (same_pairs ha hb hr hx hy he ?_)))))
  exact wpAny_pure ⟨_, rfl, (fun x => nomatch x), by simpa using h⟩
/-- != of two tuples, within one model -/
theorem tuple_neIn (l b : Addr) (xs ys : Array Value) (n m : Nat) (dx dy : Option Addr) (sx sy : Array (Option Value)) (e : Nat → Bool) :
    MeetsIn prog w (Builtin.«tuple.__ne__» ⟨[.ref l, .ref b], []⟩) fun A R s =>
      s.heap.get? l = some { cls := .type "tuple", dict := dx, data := .seq xs n, slots := sx } ∧ s.heap.get? b = some { cls := .type "tuple", dict := dy, data := .seq ys m, slots := sy } ∧
        (∀ (j : Nat) (p : j < xs.size) (q : j < ys.size), EqIn prog w A.in1 s xs[j] ys[j] (e j)) ∧ R (.ok (.ret (.bool (!((List.range (min xs.size ys.size)).all e && xs.size == ys.size))))) s :=
  .of_wp fun A R s h => by
    obtain ⟨hp, g, d, tk, os⟩ := s
    obtain ⟨gl, gb, he, hr⟩ := h
    have sub := AutoSeq1.sub_tuple_tuple
    have len : (xs.toList.zip ys.toList).length = min xs.size ys.size := by simp
    wp_walk using wpAny_loadPart' gl, wpAny_loadPart' gb, wpAny_forIn_list _ (fun rest q s' => q.1 = none ∧ s' = ⟨hp, g, d, tk, os⟩ ∧ ∃ i, rest = (xs.toList.zip ys.toList).drop i ∧
        R (.ok (.ret (.bool (!(((List.range (min xs.size ys.size)).drop i).all e && xs.size == ys.size))))) ⟨hp, g, d, tk, os⟩) _
    case turn =>
      rintro ⟨y, x⟩ rest q s' ⟨q1, rfl, i, hz, hR⟩
      have lt : i < (xs.toList.zip ys.toList).length := (Nat.lt_or_ge i _).resolve_right fun z => by
        rw [List.drop_of_length_le z] at hz; cases hz
      have lm : i < min xs.size ys.size := by rw [← len]; exact lt
      have l1 : i < xs.size := by omega
      have l2 : i < ys.size := by omega
      rw [List.drop_eq_getElem_cons lt] at hz
      injection hz with z1 z2
      have y1 : y = xs[i] := by simpa using congrArg Prod.fst z1
      have x1 : x = ys[i] := by simpa using congrArg Prod.snd z1
      subst y1; subst x1
      have dr : (List.range (min xs.size ys.size)).drop i = i :: (List.range (min xs.size ys.size)).drop (i + 1) := by simp [List.drop_eq_getElem_cons, lm]
      rw [dr, List.all_cons] at hR
      refine wpAny_bind (he i l1 l2 _ _ ?_)
      cases t : e i with
      | true => rw [t] at hR; wp_walk; exact ⟨rfl, rfl, i + 1, z2, by simpa using hR⟩
      | false => rw [t] at hR; wp_walk; exact ⟨_, rfl, by simpa using hR⟩
    case fin =>
      rintro ⟨b1, b2⟩ s' ⟨q1, rfl, i, hz, hR⟩
      simp only at q1
      subst q1
      have ge : min xs.size ys.size ≤ i := (Nat.lt_or_ge i (xs.toList.zip ys.toList).length).elim (fun z => by rw [List.drop_eq_getElem_cons z] at hz; cases hz) fun z => by rw [← len]; exact z
      rw [List.drop_of_length_le (by simpa using ge)] at hR
      wp_walk
      exact ⟨_, rfl, by simpa [Builtin.Tuple.tupleCompareSizes, bne] using hR⟩
    case h => exact ⟨rfl, rfl, 0, rfl, by simpa using hr⟩
theorem rcNe_tuples {l b : Addr} {xs ys : Array Value} {e : Nat → Bool} {Q : Value → Shared → Prop} (hl : s.heap.IsTuple l xs) (hb : s.heap.IsTuple b ys) (hu : A.units < cLine)
    (he : ∀ (j : Nat) (p : j < xs.size) (q : j < ys.size), EqIn prog w A.in1 s xs[j] ys[j] (e j)) (h : Q (.bool (!((List.range (min xs.size ys.size)).all e && xs.size == ys.size))) s) :
    wpAny (model prog w) A (richCompare .NotEq (.ref l) (.ref b)) Q E s := by
  obtain ⟨⟨c, d, data, sl⟩, g1, c1, n, d1⟩ := id hl
  obtain ⟨⟨c', d', data', sl'⟩, g2, c2, m, d2⟩ := id hb
  simp only at c1 d1 c2 d2
  subst c1; subst d1; subst c2; subst d2
  refine wpAny_richCompare_same_room (T := "tuple") (op := .NotEq) ⟨_, g1, rfl⟩ ⟨_, g2, rfl⟩ PySem.F.slot_tuple_ne (call_meetsIn PySem.F.slot_tuple_ne ⟨_, g1, rfl⟩ PySem.F.entry_tuple_ne (PySem.F.args_tuple_ne_2 _ _) (tuple_neIn l b xs ys n m d d' sl sl' e) ?_) hu
  exact ⟨g1, g2, he, (fun x => nomatch x), h⟩
end
/-! ### 2. values as data of the language -/
mutual
def Val.toD : Val → PyData
  | .non => .none
  | .bl b => .bool b
  | .int i => .int i
  | .str x => .str x
  | .tup xs => .tuple (Val.toDs xs)
  | .wtup xs => .tuple (Val.toDs xs)
  | .wlst xs => .list (Val.toDs xs)
  | .lst xs => .list (Val.toDs xs)
  | .dic _ kvs => .dict (Val.toDp kvs)
  | .adr _ => .none
  | .exv _ _ _ _ => .none
  | .err _ _ => .none
def Val.toDs : List Val → List PyData
  | [] => []
  | x :: r => x.toD :: Val.toDs r
def Val.toDp : List (Val × Val) → List (PyData × PyData)
  | [] => []
  | p :: r => Val.toD2 p :: Val.toDp r
def Val.toD2 : Val × Val → PyData × PyData
  | (k, v) => (k.toD, v.toD)
end
mutual
/-- it reads as data -/
def Val.pure : Val → Bool
  | .adr _ => false
  | .exv _ _ _ _ => false
  | .err _ _ => false
  | .wlst _ => false
  | .tup xs => Val.pures xs
  | .wtup xs => Val.pures xs
  | .lst xs => Val.pures xs
  | .dic _ kvs => Val.purep kvs
  | _ => true
def Val.pures : List Val → Bool
  | [] => true
  | x :: r => x.pure && Val.pures r
def Val.purep : List (Val × Val) → Bool
  | [] => true
  | p :: r => Val.pure2 p && Val.purep r
def Val.pure2 : Val × Val → Bool
  | (_, v) => v.pure
end
theorem toD_key (k : Key) : (kVal k).toD = (match k with | .inl i => .int i | .inr x => .str x) := by cases k <;> rfl
section
variable {X : Cx} {pins : List (Addr × Obj)} {σ : L2.St} {H B : Hp} {s : Shared}
theorem reads_key {h : Heap} {k : Key} {u : Value} (r : RelV (kV k) u) : Reads h u (kVal k).toD [] := by
  cases k with
  | inl i => obtain ⟨t, rfl⟩ := r; exact .int i t
  | inr x => obtain ⟨t, rfl⟩ := r; exact .str x t
theorem reads_keys {h : Heap} : ∀ {ks : List Key} {us : List Value}, Vals (ks.map kV) us → ReadsAll h us (Val.toDs (ks.map kVal)) []
  | [], _, .nil => .nil
  | k :: ks, _, .cons r t => .cons (as := []) (bs := []) (reads_key r) (reads_keys t)
theorem dk_vals {l : List (Key × V)} {vs : List (Key × Value)} (kv : KV l vs) : Vals ((l.map kK).map (·.2)) (vs.map (·.2)) := by
  unfold KV at kv
  induction kv with
  | nil => exact .nil
  | cons h _ ih => exact .cons h.2 ih
theorem pairs_vals {P : Program} {w : World} {es : List DictEntry} {vs : List (Key × Value)} (p : Pairs (mixKind P w) es vs) : es.map (·.val) = vs.map (·.2) := by
  induction p with
  | nil => rfl
  | cons _ h _ ih => rw [List.map_cons, List.map_cons, h, ih]
theorem dk_keys {P : Program} {w : World} {h : Heap} {l : List (Key × V)} {vs : List (Key × Value)} (kv : KV l vs) : ∀ {es : List DictEntry} {kvs : List (Val × Val)}, Pairs (mixKind P w) es vs → RepP X.K B (l.map kK) kvs →
    ReadsAll h (es.map (·.key)) ((Val.toDp kvs).map (·.1)) [] := by
  unfold KV at kv
  induction kv with
  | nil => intro es kvs p rp; cases p; cases rp; exact .nil
  | @cons a b la lb q t ih =>
    intro es kvs p rp
    cases p with
    | cons h1 h2 h3 =>
      cases rp with
      | cons r rs =>
        refine .cons (as := []) (bs := []) (reads_key ?_) (ih h3 rs)
        rw [q.1]
        exact relV_key h1
theorem dt_vals {l : List (List Key × V)} {xs : List (List Key × Addr × Value)} (kt : KT H l xs) : Vals ((l.map kT).map (·.2)) (xs.map (·.2.2)) := by
  induction kt with
  | nil => exact .nil
  | cons h _ ih => exact .cons h.2.2 ih
theorem dt_keys (I : Inv X pins σ H s) {l : List (List Key × V)} {xs : List (List Key × Addr × Value)} (kt : KT H l xs) : ∀ {kvs : List (Val × Val)}, RepP X.K B (l.map kT) kvs → ∃ as, ReadsAll s.heap (xs.map fun x => Value.ref x.2.1) ((Val.toDp kvs).map (·.1)) as := by
  induction kt with
  | nil => intro kvs rp; cases rp; exact ⟨_, .nil⟩
  | @cons a b la lb q t ih =>
    intro kvs rp
    cases rp with
    | cons r rs =>
      obtain ⟨as, h⟩ := ih rs
      obtain ⟨its, rv, ⟨o, g, c, n, d⟩, _⟩ := I.tuple (SqT.of q.2.1)
      have h2 : Reads s.heap (.ref b.2.1) (Val.toD (.tup (a.1.map kVal))) [] := .tuple g c d (by simpa using reads_keys rv)
      exact ⟨_, .cons h2 h⟩
mutual
theorem Rep.reads (I : Inv X pins σ H s) (sb : Sub B H) : ∀ {v : Val} {w : V} {u : Value}, Rep X.K B w v → RelV w u → v.pure = true → ∃ as, Reads s.heap u v.toD as
  | .non, _, _, .non, r, _ => by cases r; exact ⟨_, .none⟩
  | .bl b, _, _, .bl _, r, _ => by cases r; exact ⟨_, .bool b⟩
  | .int i, _, _, .int _, r, _ => by obtain ⟨t, rfl⟩ := r; exact ⟨_, .int i t⟩
  | .str x, _, _, .str _, r, _ => by obtain ⟨t, rfl⟩ := r; exact ⟨_, .str x t⟩
  | .tup xs, _, _, .tup e rs, r, hp => by
    cases r
    obtain ⟨its, rv, ⟨o, g, c, n, d⟩, _⟩ := I.tuple (SqT.of (sb _ _ e))
    obtain ⟨as, h⟩ := Reps.reads I sb rs rv hp
    exact ⟨_, .tuple g c d (by simpa using h)⟩
  | .wtup xs, _, _, .tupW (a := a) (ws := ws) e rs, r, hp => by
    cases r
    have e' : SqT X.K H a ws := by
      rcases e with (e | ⟨o, e⟩) | e
      · cases e
      · cases e
      · exact .inr e
    obtain ⟨its, rv, ⟨o, g, c, n, d⟩, _⟩ := I.tuple e'
    obtain ⟨as, h⟩ := Reps.reads I sb rs rv hp
    exact ⟨_, .tuple g c d (by simpa using h)⟩
  | .lst xs, _, _, .lst e rs, r, hp => by
    cases r
    obtain ⟨its, rv, ⟨o, n, g, c, _, d⟩, _⟩ := I.list (SqL.of (sb _ _ e))
    obtain ⟨as, h⟩ := Reps.reads I sb rs rv hp
    exact ⟨_, .list g c d (by simpa using h)⟩
  | .dic false kvs, _, _, .dK (l := l) e rp, r, hp => by
    cases r
    obtain ⟨_, _, vs, kv, o, es, ep, g, c, d, hk, pr, _⟩ := dk_rd I.hok (sb.rd e)
    obtain ⟨bs, h⟩ := RepP.reads I sb rp (dk_vals kv) hp
    rw [← pairs_vals pr] at h
    exact ⟨_, .dict g c.1 d (dk_keys kv pr rp) h⟩
  | .dic true kvs, _, _, .dT (l := l) e rp, r, hp => by
    cases r
    obtain ⟨_, _, xs, kt, o, es, ep, g, c, d, le, _, _⟩ := dt_rd I.hok (sb.rd e)
    obtain ⟨bs, h⟩ := RepP.reads I sb rp (dt_vals kt) hp
    have e1 : es.toList.map (·.val) = xs.map (·.2.2) := by rw [le, List.map_map]; rfl
    have e2 : es.toList.map (·.key) = xs.map fun x => Value.ref x.2.1 := by rw [le, List.map_map]; rfl
    rw [← e1] at h
    obtain ⟨as, h2⟩ := dt_keys I kt rp
    rw [← e2] at h2
    exact ⟨_, .dict g c.1 d h2 h⟩
theorem Reps.reads (I : Inv X pins σ H s) (sb : Sub B H) : ∀ {vs : List Val} {ws : List V} {us : List Value}, Reps X.K B ws vs → Vals ws us → Val.pures vs = true → ∃ as, ReadsAll s.heap us (Val.toDs vs) as
  | [], _, _, .nil, .nil, _ => ⟨_, .nil⟩
  | v :: vs, _, _, .cons r rs, .cons q qs, hp => by
    have hp : (v.pure && Val.pures vs) = true := hp
    rw [Bool.and_eq_true] at hp
    obtain ⟨as, h1⟩ := Rep.reads I sb r q hp.1
    obtain ⟨bs, h2⟩ := Reps.reads I sb rs qs hp.2
    exact ⟨_, .cons h1 h2⟩
theorem RepP.reads (I : Inv X pins σ H s) (sb : Sub B H) : ∀ {kvs : List (Val × Val)} {l : List (Val × V)} {us : List Value}, RepP X.K B l kvs → Vals (l.map (·.2)) us → Val.purep kvs = true → ∃ as, ReadsAll s.heap us ((Val.toDp kvs).map (·.2)) as
  | [], _, _, .nil, .nil, _ => ⟨_, .nil⟩
  | (k, v) :: kvs, _, _, .cons r rs, .cons q qs, hp => by
    have hp : (v.pure && Val.purep kvs) = true := hp
    rw [Bool.and_eq_true] at hp
    obtain ⟨as, h1⟩ := Rep.reads I sb r q hp.1
    obtain ⟨bs, h2⟩ := RepP.reads I sb rs qs hp.2
    exact ⟨_, .cons h1 h2⟩
end
end
end VL

/-! VL6: == and in of values. -/
namespace VL
open PySem PySem.Spec PyProof.Rows L2 PySem.SeqAt

def dfree (x : Val) : Bool := x.pure && (x.toD).plain
mutual
def veq (x y : Val) : Bool := if dfree x && dfree y then PyData.eqv x.toD y.toD else match x, y with
  | .tup xs, .tup ys => (xs.length == ys.length) && veqs xs ys
  | .lst xs, .lst ys => (xs.length == ys.length) && veqs xs ys
  | .dic _ a, .dic _ b => (a.length == b.length) && veqp a b
  | _, _ => false
def veqs : List Val → List Val → Bool
  | x :: xs, y :: ys => veq x y && veqs xs ys
  | _, _ => true
def veqp : List (Val × Val) → List (Val × Val) → Bool
  | p :: r, b => veq2 p b && veqp r b
  | [], _ => true
def veq2 : Val × Val → List (Val × Val) → Bool
  | (k, v), b => match dkey k with
    | some d => match vget b d with
      | some u => veq v u
      | none => false
    | none => false
end
mutual
/-- no object of the written part in it -/
def Val.own : Val → Bool
  | .adr _ => false
  | .exv _ _ _ _ => false
  | .err _ _ => false
  | .wtup _ => false
  | .wlst _ => false
  | .tup xs => Val.owns xs
  | .lst xs => Val.owns xs
  | .dic _ kvs => Val.ownp kvs
  | _ => true
def Val.owns : List Val → Bool
  | [] => true
  | x :: r => x.own && Val.owns r
def Val.ownp : List (Val × Val) → Bool
  | [] => true
  | p :: r => Val.own2 p && Val.ownp r
def Val.own2 : Val × Val → Bool
  | (_, v) => v.own
end
mutual
/-- the comparison is told -/
def vok (x y : Val) : Bool := (dfree x && dfree y) || ((x.own && y.own) && (x.pure && y.pure)) && match x, y with
  | .tup xs, .tup ys => voks xs ys
  | .lst xs, .lst ys => (xs.length == ys.length) && voks xs ys
  | .dic t a, .dic u b => (t == u) && vokp a b
  | _, _ => false
def voks : List Val → List Val → Bool
  | x :: xs, y :: ys => vok x y && voks xs ys
  | _, _ => true
def vokp : List (Val × Val) → List (Val × Val) → Bool
  | p :: r, b => vok2 p b && vokp r b
  | [], _ => true
def vok2 : Val × Val → List (Val × Val) → Bool
  | (k, v), b => match dkey k with
    | some d => match vget b d with
      | some u => vok v u
      | none => true
    | none => false
end
theorem Rd.inj {B : Hp} {a : Addr} {u u' : HO} (h : Rd B a u) (h' : Rd B a u') (n : ∀ o v, u ≠ .frz o v) (n' : ∀ o v, u' ≠ .frz o v) : u = u' := by
  rcases h with h | ⟨o, h⟩
  · rcases h' with h' | ⟨o', h'⟩
    · rw [h] at h'; exact Option.some.inj h'
    · rw [h] at h'; exact absurd (Option.some.inj h') (n _ _)
  · rcases h' with h' | ⟨o', h'⟩
    · rw [h] at h'; exact absurd (Option.some.inj h').symm (n' _ _)
    · rw [h] at h'; cases h'; rfl
section
variable {K : PySem.W.Frag} {B : Hp}
mutual
theorem Rep.inj : ∀ {x y : Val} {w : V}, Rep K B w x → Rep K B w y → x.own = true → y.own = true → x = y
  | .non, _, _, .non, r, _, _ => by cases r; rfl
  | .bl b, _, _, .bl _, r, _, _ => by cases r; rfl
  | .int i, _, _, .int _, r, _, _ => by cases r; rfl
  | .str i, _, _, .str _, r, _, _ => by cases r; rfl
  | .tup xs, y, _, .tup e rs, r, h, h' => by
    cases r with
    | adr => cases h'
    | exv => cases h'
    | err => cases h'
    | tup e' rs' => rw [e] at e'; cases e'; rw [Reps.inj rs rs' h h']
    | tupW => cases h'
    | lstW => cases h'
    | lst e' _ => rw [e] at e'; cases e'
    | dK e' _ => rcases e' with e' | ⟨o, e'⟩ <;> (rw [e] at e'; cases e')
    | dT e' _ => rcases e' with e' | ⟨o, e'⟩ <;> (rw [e] at e'; cases e')
  | .lst xs, y, _, .lst e rs, r, h, h' => by
    cases r with
    | adr => cases h'
    | exv => cases h'
    | err => cases h'
    | tup e' _ => rw [e] at e'; cases e'
    | tupW => cases h'
    | lstW => cases h'
    | lst e' rs' => rw [e] at e'; cases e'; rw [Reps.inj rs rs' h h']
    | dK e' _ => rcases e' with e' | ⟨o, e'⟩ <;> (rw [e] at e'; cases e')
    | dT e' _ => rcases e' with e' | ⟨o, e'⟩ <;> (rw [e] at e'; cases e')
  | .dic false kvs, y, _, .dK e rs, r, h, h' => by
    cases r with
    | adr => cases h'
    | exv => cases h'
    | err => cases h'
    | tup e' _ => rcases e with e | ⟨o, e⟩ <;> (rw [e] at e'; cases e')
    | tupW => cases h'
    | lstW => cases h'
    | lst e' rs' => rcases e with e | ⟨o, e⟩ <;> (rw [e] at e'; cases e')
    | dK e' rs' =>
      have q := Rd.inj e e' (fun _ _ z => by cases z) (fun _ _ z => by cases z)
      cases q
      rw [RepP.inj rs rs' h h']
    | dT e' _ =>
      have q := Rd.inj e e' (fun _ _ z => by cases z) (fun _ _ z => by cases z)
      cases q
  | .dic true kvs, y, _, .dT e rs, r, h, h' => by
    cases r with
    | adr => cases h'
    | exv => cases h'
    | err => cases h'
    | tup e' _ => rcases e with e | ⟨o, e⟩ <;> (rw [e] at e'; cases e')
    | tupW => cases h'
    | lstW => cases h'
    | lst e' rs' => rcases e with e | ⟨o, e⟩ <;> (rw [e] at e'; cases e')
    | dT e' rs' =>
      have q := Rd.inj e e' (fun _ _ z => by cases z) (fun _ _ z => by cases z)
      cases q
      rw [RepP.inj rs rs' h h']
    | dK e' _ =>
      have q := Rd.inj e e' (fun _ _ z => by cases z) (fun _ _ z => by cases z)
      cases q
theorem Reps.inj : ∀ {xs ys : List Val} {ws : List V}, Reps K B ws xs → Reps K B ws ys → Val.owns xs = true → Val.owns ys = true → xs = ys
  | [], _, _, .nil, r, _, _ => by cases r; rfl
  | x :: xs, _, _, .cons r rs, q, h, h' => by
    cases q with
    | cons r' rs' =>
      have h : (x.own && Val.owns xs) = true := h
      rw [Bool.and_eq_true] at h
      rename_i y ys
      have h' : (y.own && Val.owns ys) = true := h'
      rw [Bool.and_eq_true] at h'
      rw [Rep.inj r r' h.1 h'.1, Reps.inj rs rs' h.2 h'.2]
theorem RepP.inj : ∀ {xs ys : List (Val × Val)} {l : List (Val × V)}, RepP K B l xs → RepP K B l ys → Val.ownp xs = true → Val.ownp ys = true → xs = ys
  | [], _, _, .nil, r, _, _ => by cases r; rfl
  | (k, x) :: xs, _, _, .cons r rs, q, h, h' => by
    cases q with
    | cons r' rs' =>
      have h : (x.own && Val.ownp xs) = true := h
      rw [Bool.and_eq_true] at h
      rename_i y ys
      have h' : (y.own && Val.ownp ys) = true := h'
      rw [Bool.and_eq_true] at h'
      rw [Rep.inj r r' h.1 h'.1, RepP.inj rs rs' h.2 h'.2]
end
theorem vget_self {κ : Type} [DecidableEq κ] {e : κ → Val} {c : κ → DK} (hc : ∀ k, dkey (e k) = some (c k)) (hi : ∀ a b, c a = c b → a = b) : ∀ {l : List (κ × V)} {kvs : List (Val × Val)}, (l.map (·.1)).Nodup → RepP K B (l.map fun p => (e p.1, p.2)) kvs →
    ∀ p ∈ kvs, ∃ d, dkey p.1 = some d ∧ vget kvs d = some p.2
  | [], _, _, .nil, p, hp => by cases hp
  | q :: l, _, hn, .cons (v := v) (kvs := kvs) r rs, p, hp => by
    rw [List.map_cons, List.nodup_cons] at hn
    rcases List.mem_cons.mp hp with e1 | hp
    · subst e1
      refine ⟨c q.1, hc _, ?_⟩
      unfold vget
      rw [List.find?_cons]
      simp only [hc, decide_true]
      rfl
    · obtain ⟨d, h1, h2⟩ := vget_self hc hi hn.2 rs p hp
      refine ⟨d, h1, ?_⟩
      unfold vget
      rw [List.find?_cons]
      have ne : ¬ dkey (e q.1) = some d := by
        intro z
        have hk := RepP.keys rs
        have : p.1 ∈ (l.map fun p => (e p.1, p.2)).map (·.1) := by rw [hk]; exact List.mem_map.mpr ⟨p, hp, rfl⟩
        rw [List.map_map] at this
        obtain ⟨u, hu, hu2⟩ := List.mem_map.mp this
        have hu2 : e u.1 = p.1 := hu2
        rw [← hu2] at h1
        rw [← h1] at z
        exact hn.1 (List.mem_map.mpr ⟨u, hu, ((dk_iff hc hi _ _).mp (z.trans (hc _))).symm⟩)
      simp only [ne, decide_false]
      exact h2
end
section
variable {X : Cx} {pins : List (Addr × Obj)} {σ : L2.St} {H B : Hp} {s : Shared}
theorem Rep.vgets (I : Inv X pins σ H s) (sb : Sub B H) {w : V} {t : Bool} {kvs : List (Val × Val)} (r : Rep X.K B w (.dic t kvs)) : ∀ p ∈ kvs, ∃ d, dkey p.1 = some d ∧ vget kvs d = some p.2 := by
  cases r with
  | dK e rp =>
    obtain ⟨_, _, vs, kv, _, _, _, _, _, _, _, _, nd⟩ := dk_rd I.hok (sb.rd e)
    exact vget_self (e := kVal) (c := Sum.inl) dkey_k inl_inj (by rw [kv.keys]; exact nd) rp
  | dT e rp =>
    obtain ⟨_, _, xs, kt, _, _, _, _, _, _, _, _, nd⟩ := dt_rd I.hok (sb.rd e)
    refine vget_self (e := fun ks => .tup (ks.map kVal)) (c := Sum.inr) dkey_t inr_inj ?_ rp
    have : ∀ {l : List (List Key × V)} {xs : List (List Key × Addr × Value)}, KT H l xs → l.map (·.1) = xs.map (·.1) := by
      intro l xs q
      induction q with
      | nil => rfl
      | cons h _ ih => rw [List.map_cons, List.map_cons, ih, h.1]
    rw [this kt]; exact nd
theorem veq_df {x y : Val} (h : (dfree x && dfree y) = true) : veq x y = PyData.eqv x.toD y.toD := by
  unfold veq
  rw [if_pos h]
mutual
theorem veq_self (I : Inv X pins σ H s) (sb : Sub B H) : ∀ {x : Val} {w : V}, Rep X.K B w x → vok x x = true → veq x x = true
  | x, w, r, h => by
    by_cases hd : (dfree x && dfree x) = true
    · rw [veq_df hd]
      rw [Bool.and_self] at hd
      unfold dfree at hd
      rw [Bool.and_eq_true] at hd
      exact eqv_refl_plain _ hd.2
    · unfold vok at h
      unfold veq
      rw [if_neg hd]
      simp only [hd, Bool.false_or, Bool.and_eq_true] at h
      cases r with
      | tup e rs => simp only [beq_self_eq_true, Bool.true_and]; exact veqs_self I sb rs h.2
      | lst e rs => simp only [beq_self_eq_true, Bool.true_and] at h ⊢; exact veqs_self I sb rs h.2
      | dK e rs => simp only [beq_self_eq_true, Bool.true_and] at h ⊢; exact veqp_self I sb rs (Rep.vgets I sb (.dK e rs)) h.2
      | dT e rs => simp only [beq_self_eq_true, Bool.true_and] at h ⊢; exact veqp_self I sb rs (Rep.vgets I sb (.dT e rs)) h.2
      | _ => exact absurd h.2 Bool.false_ne_true
theorem veqs_self (I : Inv X pins σ H s) (sb : Sub B H) : ∀ {xs : List Val} {ws : List V}, Reps X.K B ws xs → voks xs xs = true → veqs xs xs = true
  | [], _, .nil, _ => by unfold veqs; rfl
  | x :: xs, _, .cons r rs, h => by
    unfold voks at h
    unfold veqs
    rw [Bool.and_eq_true] at h ⊢
    exact ⟨veq_self I sb r h.1, veqs_self I sb rs h.2⟩
theorem veqp_self (I : Inv X pins σ H s) (sb : Sub B H) : ∀ {a b : List (Val × Val)} {l : List (Val × V)}, RepP X.K B l a → (∀ p ∈ a, ∃ d, dkey p.1 = some d ∧ vget b d = some p.2) → vokp a b = true → veqp a b = true
  | [], _, _, .nil, _, _ => by unfold veqp; rfl
  | (k, v) :: a, b, _, .cons r rs, hg, h => by
    unfold vokp at h
    unfold veqp
    rw [Bool.and_eq_true] at h ⊢
    obtain ⟨d, h1, h2⟩ := hg (k, v) List.mem_cons_self
    have h1 : dkey k = some d := h1
    have h2 : vget b d = some v := h2
    refine ⟨?_, veqp_self I sb rs (fun p hp => hg p (List.mem_cons_of_mem _ hp)) h.2⟩
    have h0 := h.1
    unfold vok2 at h0
    unfold veq2
    simp only [h1, h2] at h0 ⊢
    exact veq_self I sb r h0
end
theorem range_all (xs ys : List Val) (hl : xs.length = ys.length) : (List.range xs.length).all (fun j => veq (xs.getD j .non) (ys.getD j .non)) = veqs xs ys := by
  induction xs generalizing ys with
  | nil => cases ys with
    | nil => unfold veqs; rfl
    | cons _ _ => cases hl
  | cons x xs ih =>
    cases ys with
    | nil => cases hl
    | cons y ys =>
      rw [List.length_cons, List.range_succ_eq_map, List.all_cons, List.all_map]
      unfold veqs
      rw [← ih ys (by simpa using hl)]
      rfl
theorem depth_at {xs : List Val} {j : Nat} {x : Val} (h : xs[j]? = some x) : x.toD.depth ≤ PyData.depthAll (Val.toDs xs) := by
  induction xs generalizing j with
  | nil => simp at h
  | cons y r ih =>
    show x.toD.depth ≤ max y.toD.depth (PyData.depthAll (Val.toDs r))
    cases j with
    | zero => cases (show some y = some x by simpa using h); exact Nat.le_max_left _ _
    | succ j => exact Nat.le_trans (ih (by simpa using h)) (Nat.le_max_right _ _)
theorem vok_sub {xs ys : List Val} (h : voks xs ys = true) {j : Nat} {x y : Val} (hx : xs[j]? = some x) (hy : ys[j]? = some y) : vok x y = true := by
  induction xs generalizing ys j with
  | nil => simp at hx
  | cons a r ih =>
    cases ys with
    | nil => simp at hy
    | cons b q =>
      unfold voks at h
      rw [Bool.and_eq_true] at h
      cases j with
      | zero =>
        cases (show some a = some x by simpa using hx)
        cases (show some b = some y by simpa using hy)
        exact h.1
      | succ j => exact ih h.2 (by simpa using hx) (by simpa using hy)
theorem getD_of {xs : List Val} {j : Nat} {x : Val} (h : xs[j]? = some x) : xs.getD j .non = x := by
  rw [List.getD_eq_getElem?_getD, h]; rfl
theorem eq_df (I : Inv X pins σ H s) (sb : Sub B H) {A : Around} {x y : Val} {w u : V} {v z : Value} (r1 : Rep X.K B w x) (r2 : Rep X.K B u y) (q1 : RelV w v) (q2 : RelV u z) (h : (dfree x && dfree y) = true) (hu : A.units + x.toD.depth < cLine) : EqAt A s v z (veq x y) := by
  rw [veq_df h]
  rw [Bool.and_eq_true] at h
  unfold dfree at h
  rw [Bool.and_eq_true, Bool.and_eq_true] at h
  obtain ⟨as, h1⟩ := Rep.reads I sb r1 q1 h.1.1
  obtain ⟨bs, h2⟩ := Rep.reads I sb r2 q2 h.2.1
  exact eqAt_plain _ _ A s v z as bs h1 h2 h.1.2 h.2.2 (Nat.lt_of_le_of_lt (Nat.add_le_add_left (Nat.min_le_left _ _) _) hu)
/-- two refs whose comparison is told -/
theorem eq_refs (I : Inv X pins σ H s) (sb : Sub B H) {A : Around} {x y : Val} {a b : Addr} (r1 : Rep X.K B (.ref a) x) (r2 : Rep X.K B (.ref b) y) (hk : vok x y = true) (ho : ((x.own && y.own) && (x.pure && y.pure)) = true)
    (h : ∀ (E Q : Value → Shared → Prop), Q (.bool (veq x y)) s → wpAny (model X.prog X.w) A (richCompare .Eq (.ref a) (.ref b)) Q E s) : EqIn X.prog X.w A s (.ref a) (.ref b) (veq x y) := by
  by_cases e : a = b
  · subst e
    rw [Bool.and_eq_true, Bool.and_eq_true] at ho
    have q := Rep.inj r1 r2 ho.1.1 ho.1.2
    subst q
    rw [veq_self I sb r1 hk]
    exact EqAt.inModel (EqAt.same _) _ _
  · exact EqIn.of_refs e h
theorem list_items {K : PySem.W.Frag} {ws : List V} {xs : List Val} {its : List Value} (r : Reps K B ws xs) (v : Vals ws its) {j : Nat} (h : j < its.toArray.size) : ∃ w x, ws[j]? = some w ∧ xs[j]? = some x ∧ Rep K B w x ∧ RelV w its.toArray[j] := by
  have hj : j < ws.length := by rw [v.length]; simpa using h
  obtain ⟨x, hx, rx⟩ := r.at (List.getElem?_eq_getElem hj)
  obtain ⟨u, hu, ru⟩ := v.get (List.getElem?_eq_getElem hj)
  refine ⟨ws[j], x, List.getElem?_eq_getElem hj, hx, rx, ?_⟩
  have : its[j]? = some its.toArray[j] := by simp
  rw [this] at hu
  cases hu
  exact ru
theorem veq_tup {xs ys : List Val} (hd : ¬ (dfree (.tup xs) && dfree (.tup ys)) = true) : veq (.tup xs) (.tup ys) = ((List.range (min xs.length ys.length)).all (fun j => veq (xs.getD j .non) (ys.getD j .non)) && (xs.length == ys.length)) := by
  conv => lhs; unfold veq
  rw [if_neg hd]
  simp only
  by_cases hl : xs.length = ys.length
  · rw [← hl, Nat.min_self, range_all xs ys hl, hl, Bool.and_comm]
  · have : (xs.length == ys.length) = false := by simpa using hl
    rw [this, Bool.and_false, Bool.false_and]
theorem rc_tup (I : Inv X pins σ H s) (sb : Sub B H) {A : Around} {xs ys : List Val} {a b : Addr} (r1 : Rep X.K B (.ref a) (.tup xs)) (r2 : Rep X.K B (.ref b) (.tup ys)) (hu : A.units < cLine) (hd : ¬ (dfree (.tup xs) && dfree (.tup ys)) = true)
    (it : ∀ (j : Nat) (x y : Val) (w1 w2 : V) (v1 v2 : Value), xs[j]? = some x → ys[j]? = some y → Rep X.K B w1 x → Rep X.K B w2 y → RelV w1 v1 → RelV w2 v2 → EqIn X.prog X.w A.in1 s v1 v2 (veq x y))
    (E Q : Value → Shared → Prop) (hq : Q (.bool (veq (.tup xs) (.tup ys))) s) : wpAny (model X.prog X.w) A (richCompare .Eq (.ref a) (.ref b)) Q E s := by
  obtain ⟨a, ws, e1, ha, rs⟩ := r1.seqT
  cases e1
  obtain ⟨b, us, e2, hb, rt⟩ := r2.seqT
  cases e2
  obtain ⟨its, v1, p1, _⟩ := I.tuple (SqT.of (sb _ _ ha))
  obtain ⟨jts, v2, p2, _⟩ := I.tuple (SqT.of (sb _ _ hb))
  refine rcIn_tuples (e := fun j => veq (xs.getD j .non) (ys.getD j .non)) (show s.heap.IsTuple a its.toArray from p1) (show s.heap.IsTuple b jts.toArray from p2) hu (fun j h1 h2 => ?_) ?_
  · obtain ⟨w1, x1, e1, f1, g1, k1⟩ := list_items rs v1 h1
    obtain ⟨w2, x2, e2, f2, g2, k2⟩ := list_items rt v2 h2
    rw [getD_of f1, getD_of f2]
    exact it j x1 x2 w1 w2 _ _ f1 f2 g1 g2 k1 k2
  · have l1 : its.toArray.size = xs.length := by rw [List.size_toArray, ← v1.length, rs.length]
    have l2 : jts.toArray.size = ys.length := by rw [List.size_toArray, ← v2.length, rt.length]
    rw [l1, l2, ← veq_tup hd]
    exact hq
theorem ne_tup (I : Inv X pins σ H s) (sb : Sub B H) {A : Around} {xs ys : List Val} {a b : Addr} (r1 : Rep X.K B (.ref a) (.tup xs)) (r2 : Rep X.K B (.ref b) (.tup ys)) (hu : A.units < cLine) (hd : ¬ (dfree (.tup xs) && dfree (.tup ys)) = true)
    (it : ∀ (j : Nat) (x y : Val) (w1 w2 : V) (v1 v2 : Value), xs[j]? = some x → ys[j]? = some y → Rep X.K B w1 x → Rep X.K B w2 y → RelV w1 v1 → RelV w2 v2 → EqIn X.prog X.w A.in1 s v1 v2 (veq x y))
    (E Q : Value → Shared → Prop) (hq : Q (.bool (!veq (.tup xs) (.tup ys))) s) : wpAny (model X.prog X.w) A (richCompare .NotEq (.ref a) (.ref b)) Q E s := by
  obtain ⟨a, ws, e1, ha, rs⟩ := r1.seqT
  cases e1
  obtain ⟨b, us, e2, hb, rt⟩ := r2.seqT
  cases e2
  obtain ⟨its, v1, p1, _⟩ := I.tuple (SqT.of (sb _ _ ha))
  obtain ⟨jts, v2, p2, _⟩ := I.tuple (SqT.of (sb _ _ hb))
  refine rcNe_tuples (e := fun j => veq (xs.getD j .non) (ys.getD j .non)) (show s.heap.IsTuple a its.toArray from p1) (show s.heap.IsTuple b jts.toArray from p2) hu (fun j h1 h2 => ?_) ?_
  · obtain ⟨w1, x1, e1, f1, g1, k1⟩ := list_items rs v1 h1
    obtain ⟨w2, x2, e2, f2, g2, k2⟩ := list_items rt v2 h2
    rw [getD_of f1, getD_of f2]
    exact it j x1 x2 w1 w2 _ _ f1 f2 g1 g2 k1 k2
  · have l1 : its.toArray.size = xs.length := by rw [List.size_toArray, ← v1.length, rs.length]
    have l2 : jts.toArray.size = ys.length := by rw [List.size_toArray, ← v2.length, rt.length]
    rw [l1, l2, ← veq_tup hd]
    exact hq
theorem rc_lst (I : Inv X pins σ H s) (sb : Sub B H) {A : Around} {xs ys : List Val} {a b : Addr} (r1 : Rep X.K B (.ref a) (.lst xs)) (r2 : Rep X.K B (.ref b) (.lst ys)) (hu : A.units < cLine) (hd : ¬ (dfree (.lst xs) && dfree (.lst ys)) = true) (hl : xs.length = ys.length)
    (it : ∀ (j : Nat) (x y : Val) (w1 w2 : V) (v1 v2 : Value), xs[j]? = some x → ys[j]? = some y → Rep X.K B w1 x → Rep X.K B w2 y → RelV w1 v1 → RelV w2 v2 → EqIn X.prog X.w A.in1 s v1 v2 (veq x y))
    (E Q : Value → Shared → Prop) (hq : Q (.bool (veq (.lst xs) (.lst ys))) s) : wpAny (model X.prog X.w) A (richCompare .Eq (.ref a) (.ref b)) Q E s := by
  obtain ⟨a, ws, e1, ha, rs⟩ := r1.seqL
  cases e1
  obtain ⟨b, us, e2, hb, rt⟩ := r2.seqL
  cases e2
  obtain ⟨its, v1, p1, _⟩ := I.list (SqL.of (sb _ _ ha))
  obtain ⟨jts, v2, p2, _⟩ := I.list (SqL.of (sb _ _ hb))
  have l1 : its.toArray.size = xs.length := by rw [List.size_toArray, ← v1.length, rs.length]
  have l2 : jts.toArray.size = ys.length := by rw [List.size_toArray, ← v2.length, rt.length]
  refine rcIn_lists (e := fun j => veq (xs.getD j .non) (ys.getD j .non)) p1.isList p2.isList (by rw [l1, l2, hl]) hu (fun j h1 h2 => ?_) ?_
  · obtain ⟨w1, x1, e1, f1, g1, k1⟩ := list_items rs v1 h1
    obtain ⟨w2, x2, e2, f2, g2, k2⟩ := list_items rt v2 h2
    rw [getD_of f1, getD_of f2]
    exact it j x1 x2 w1 w2 _ _ f1 f2 g1 g2 k1 k2
  · unfold veq at hq
    rw [if_neg hd] at hq
    simp only at hq
    rw [l1, range_all xs ys hl]
    have : (xs.length == ys.length) = true := by simpa using hl
    rw [this, Bool.true_and] at hq
    exact hq
theorem vok_in {m m2 : List (Val × Val)} (h : vokp m m2 = true) {k v u : Val} {d : DK} (hm : (k, v) ∈ m) (h1 : dkey k = some d) (h2 : vget m2 d = some u) : vok v u = true := by
  induction m with
  | nil => cases hm
  | cons p r ih =>
    unfold vokp at h
    rw [Bool.and_eq_true] at h
    rcases List.mem_cons.mp hm with e | hm
    · subst e
      have := h.1
      unfold vok2 at this
      simpa only [h1, h2] using this
    · exact ih h.2 hm
theorem depth_in {m : List (Val × Val)} {k v : Val} (hm : (k, v) ∈ m) : v.toD.depth ≤ PyData.depthKv (Val.toDp m) := by
  induction m with
  | nil => cases hm
  | cons p r ih =>
    obtain ⟨a, b⟩ := p
    show _ ≤ max (max a.toD.depth b.toD.depth) (PyData.depthKv (Val.toDp r))
    rcases List.mem_cons.mp hm with e | hm
    · cases e
      exact Nat.le_trans (Nat.le_max_right _ _) (Nat.le_max_left _ _)
    · exact Nat.le_trans (ih hm) (Nat.le_max_right _ _)
theorem veqp_cons (k v : Val) (r b : List (Val × Val)) (d : DK) (h : dkey k = some d) : veqp ((k, v) :: r) b = ((match vget b d with | some u => veq v u | none => false) && veqp r b) := by
  conv => lhs; unfold veqp
  conv => lhs; unfold veq2
  simp only [h]
theorem kv_len {l : List (Key × V)} {vs : List (Key × Value)} (kv : KV l vs) : l.length = vs.length := Paired.length kv
theorem dic_k (I : Inv X pins σ H s) (sb : Sub B H) {A : Around} {m m2 : List (Val × Val)} {a b : Addr} (r1 : Rep X.K B (.ref a) (.dic false m)) (r2 : Rep X.K B (.ref b) (.dic false m2)) (hu : A.units < cLine)
    (vg : ∀ p ∈ m, ∃ d, dkey p.1 = some d ∧ vget m d = some p.2)
    (go : ∀ (k : Val) (v1 v2 : Val) (d : DK) (w1 w2 : V) (y1 y2 : Value), (k, v1) ∈ m → dkey k = some d → vget m2 d = some v2 → Rep X.K B w1 v1 → Rep X.K B w2 v2 → RelV w1 y1 → RelV w2 y2 → EqIn X.prog X.w A.in1 s y1 y2 (veq v1 v2))
    (E Q : Value → Shared → Prop) (hq : Q (.bool ((m.length == m2.length) && veqp m m2)) s) : wpAny (model X.prog X.w) A (richCompare .Eq (.ref a) (.ref b)) Q E s := by
  cases r1 with
  | dK e1 rp1 =>
    cases r2 with
    | dK e2 rp2 =>
      rename_i l1 l2
      obtain ⟨_, ya, va, ra, da⟩ := dk_rd I.hok (sb.rd e1)
      obtain ⟨_, yb, vb, rb, db⟩ := dk_rd I.hok (sb.rd e2)
      have hits : ∀ {l : List (Key × V)} {vs : List (Key × Value)}, KV l vs → ∀ {kvs : List (Val × Val)}, RepP X.K B (l.map kK) kvs → (∀ p ∈ kvs, p ∈ m) → PySem.W.KeqHitsP X.prog X.w A.in1 s vb vs (veqp kvs m2) := by
        intro l vs q
        unfold KV at q
        induction q with
        | nil => intro kvs rp _; cases rp; unfold veqp; exact .nil
        | @cons p q ps qs h t ih =>
          intro kvs rp hm
          cases rp with
          | cons r rs =>
            rename_i v kvs
            obtain ⟨k, y⟩ := q
            have h1 : p.1 = k := h.1
            rw [veqp_cons _ _ _ _ _ (dkey_k p.1)]
            have rest := ih rs fun p' hp => hm p' (List.mem_cons_of_mem _ hp)
            have rr := rb.val p.1
            rcases RepP.get (e := kVal) (c := Sum.inl) dkey_k inl_inj p.1 rp2 with ⟨g1, g2⟩ | ⟨w2, v2, g1, g2, g3⟩
            · rw [g1] at rr
              rw [g2]
              refine .miss ?_
              rw [← h1]; exact rr.none_of
            · rw [g1] at rr
              obtain ⟨y2, hy, ry⟩ := rr.some_of
              rw [g2]
              refine .hit (y := y2) (by rw [← h1]; exact hy) ?_ rest
              exact go _ v v2 _ _ _ _ _ (hm _ List.mem_cons_self) (dkey_k p.1) g2 r g3 h.2 ry
      refine PySem.W.rcP_dicts (knd := mixKind X.prog X.w) (r := veqp m m2) ya yb da db hu (fun _ => hits ra rp1 fun _ h => h) E Q ?_
      have e1' : va.length = m.length := by rw [← kv_len ra, ← rp1.length, List.length_map]
      have e2' : vb.length = m2.length := by rw [← kv_len rb, ← rp2.length, List.length_map]
      rw [e1', e2']
      exact hq
theorem dic_t (I : Inv X pins σ H s) (sb : Sub B H) {A : Around} {m m2 : List (Val × Val)} {a b : Addr} (r1 : Rep X.K B (.ref a) (.dic true m)) (r2 : Rep X.K B (.ref b) (.dic true m2)) (hu : A.units + 1 < cLine)
    (vg : ∀ p ∈ m, ∃ d, dkey p.1 = some d ∧ vget m d = some p.2)
    (go : ∀ (k : Val) (v1 v2 : Val) (d : DK) (w1 w2 : V) (y1 y2 : Value), (k, v1) ∈ m → dkey k = some d → vget m2 d = some v2 → Rep X.K B w1 v1 → Rep X.K B w2 v2 → RelV w1 y1 → RelV w2 y2 → EqIn X.prog X.w A.in1 s y1 y2 (veq v1 v2))
    (E Q : Value → Shared → Prop) (hq : Q (.bool ((m.length == m2.length) && veqp m m2)) s) : wpAny (model X.prog X.w) A (richCompare .Eq (.ref a) (.ref b)) Q E s := by
  cases r1 with
  | dT e1 rp1 =>
    cases r2 with
    | dT e2 rp2 =>
      rename_i l1 l2
      obtain ⟨_, ya, va, ra, da⟩ := dt_rd I.hok (sb.rd e1)
      obtain ⟨_, yb, vb, rb, db⟩ := dt_rd I.hok (sb.rd e2)
      -- what the two say at a key
      let ef : List Key → Bool := fun k => match vget m (.inr k), vget m2 (.inr k) with
        | some x, some y => veq x y
        | _, _ => false
      have all : ∀ {l : List (List Key × V)} {xs : List (List Key × Addr × Value)}, KT H l xs → ∀ {kvs : List (Val × Val)}, RepP X.K B (l.map kT) kvs → (∀ p ∈ kvs, p ∈ m) →
          sameH vb ef xs = veqp kvs m2 ∧ ∀ x ∈ xs, ∀ p, atKey vb x.1 = some p → EqIn X.prog X.w A.in1 s x.2.2 p.2 (ef x.1) := by
        intro l xs q
        induction q with
        | nil => intro kvs rp _; cases rp; refine ⟨?_, fun x hx => by cases hx⟩; unfold veqp; rfl
        | @cons p q ps qs h t ih =>
          intro kvs rp hm
          cases rp with
          | cons r rs =>
            rename_i v kvs
            obtain ⟨i1, i2⟩ := ih rs fun p' hp => hm p' (List.mem_cons_of_mem _ hp)
            have h1 : p.1 = q.1 := h.1
            have vgm : vget m (.inr p.1) = some v := by
              obtain ⟨d, d1, d2⟩ := vg (.tup (p.1.map kVal), v) (hm _ List.mem_cons_self)
              have d1 : dkey (.tup (p.1.map kVal)) = some d := d1
              rw [dkey_t] at d1
              cases d1
              exact d2
            have rr := rb.val p.1
            rcases RepP.get (e := fun ks => .tup (ks.map kVal)) (c := Sum.inr) dkey_t inr_inj p.1 rp2 with ⟨g1, g2⟩ | ⟨w2, v2, g1, g2, g3⟩
            · rw [g1] at rr
              have z : atKey vb q.1 = none := by
                have := rr.none_of
                rw [h1] at this
                cases zz : atKey vb q.1 with
                | none => rfl
                | some _ => rw [zz] at this; cases this
              refine ⟨?_, fun x hx p' hp' => ?_⟩
              · show ((atKey vb q.1).isSome && ef q.1 && sameH vb ef qs) = _
                rw [z, veqp_cons _ _ _ _ _ (dkey_t p.1), g2]
                rfl
              · rcases List.mem_cons.mp hx with e | hx
                · subst e; rw [z] at hp'; cases hp'
                · exact i2 x hx p' hp'
            · rw [g1] at rr
              obtain ⟨y2, hy, ry⟩ := rr.some_of
              have efq : ef q.1 = veq v v2 := by
                show (match vget m (.inr q.1), vget m2 (.inr q.1) with | some x, some y => veq x y | _, _ => false) = _
                rw [← h1, vgm, g2]
              cases zz : atKey vb q.1 with
              | none => rw [h1, zz] at hy; cases hy
              | some pp =>
                rw [h1, zz] at hy
                have hy : pp.2 = y2 := Option.some.inj hy
                refine ⟨?_, fun x hx p' hp' => ?_⟩
                · show ((atKey vb q.1).isSome && ef q.1 && sameH vb ef qs) = _
                  rw [zz, efq, i1, veqp_cons _ _ _ _ _ (dkey_t p.1), g2]
                  rfl
                · rcases List.mem_cons.mp hx with e | hx
                  · subst e
                    rw [zz] at hp'
                    cases hp'
                    rw [efq, hy]
                    exact go _ v v2 _ _ _ _ _ (hm _ List.mem_cons_self) (dkey_t p.1) g2 r g3 h.2.2 ry
                  · exact i2 x hx p' hp'
      obtain ⟨a1, a2⟩ := all ra rp1 fun _ h => h
      refine rc_dictsH (knd := tupleKind (mixKind X.prog X.w)) (e := ef) ya yb (by omega) (show A.in1.units < cLine from by show A.units + 1 < cLine; omega) da db a2 E Q ?_
      have e1' : va.length = m.length := by rw [← Paired.length ra, ← rp1.length, List.length_map]
      have e2' : vb.length = m2.length := by rw [← Paired.length rb, ← rp2.length, List.length_map]
      rw [e1', e2', a1]
      exact hq
mutual
theorem eq_run (I : Inv X pins σ H s) (sb : Sub B H) : ∀ {x y : Val} {A : Around} {w u : V} {v z : Value}, Rep X.K B w x → Rep X.K B u y → RelV w v → RelV u z → vok x y = true → A.units + x.toD.depth < cLine → EqIn X.prog X.w A s v z (veq x y)
  | .tup xs, y, A, w, u, v, z, r1, r2, q1, q2, hk, hu => by
    by_cases hd : (dfree (.tup xs) && dfree y) = true
    · exact EqAt.inModel (eq_df I sb r1 r2 q1 q2 hd hu) _ _
    · have hk0 := hk
      unfold vok at hk
      simp only [hd, Bool.false_or] at hk
      rw [Bool.and_eq_true] at hk
      cases y with
      | tup ys =>
        obtain ⟨a, ws, rfl, ha, rs⟩ := r1.seqT
        obtain ⟨b, us, rfl, hb, rt⟩ := r2.seqT
        cases q1; cases q2
        have e : (Val.tup xs).toD.depth = PyData.depthAll (Val.toDs xs) + 1 := rfl
        rw [e] at hu
        exact eq_refs I sb r1 r2 hk0 hk.1 fun E Q hq => rc_tup I sb r1 r2 (by omega) hd (fun j x y w1 w2 v1 v2 f1 f2 g1 g2 k1 k2 =>
          eqs_run I sb (A := A.in1) f1 g1 g2 k1 k2 (vok_sub hk.2 f1 f2) (by have := depth_at f1; show A.units + 1 + _ < cLine; omega)) E Q hq
      | _ => exact absurd hk.2 Bool.false_ne_true
  | .lst xs, y, A, w, u, v, z, r1, r2, q1, q2, hk, hu => by
    by_cases hd : (dfree (.lst xs) && dfree y) = true
    · exact EqAt.inModel (eq_df I sb r1 r2 q1 q2 hd hu) _ _
    · have hk0 := hk
      unfold vok at hk
      simp only [hd, Bool.false_or] at hk
      rw [Bool.and_eq_true] at hk
      cases y with
      | lst ys =>
        obtain ⟨a, ws, rfl, ha, rs⟩ := r1.seqL
        obtain ⟨b, us, rfl, hb, rt⟩ := r2.seqL
        cases q1; cases q2
        have hk2 := hk.2
        simp only [Bool.and_eq_true, beq_iff_eq] at hk2
        have e : (Val.lst xs).toD.depth = PyData.depthAll (Val.toDs xs) + 1 := rfl
        rw [e] at hu
        exact eq_refs I sb r1 r2 hk0 hk.1 fun E Q hq => rc_lst I sb r1 r2 (by omega) hd hk2.1 (fun j x y w1 w2 v1 v2 f1 f2 g1 g2 k1 k2 =>
          eqs_run I sb (A := A.in1) f1 g1 g2 k1 k2 (vok_sub hk2.2 f1 f2) (by have := depth_at f1; show A.units + 1 + _ < cLine; omega)) E Q hq
      | _ => exact absurd hk.2 Bool.false_ne_true
  | .dic t m, y, A, w, u, v, z, r1, r2, q1, q2, hk, hu => by
    by_cases hd : (dfree (.dic t m) && dfree y) = true
    · exact EqAt.inModel (eq_df I sb r1 r2 q1 q2 hd hu) _ _
    · have hk0 := hk
      unfold vok at hk
      simp only [hd, Bool.false_or] at hk
      rw [Bool.and_eq_true] at hk
      cases y with
      | dic t2 m2 =>
        have hk2 := hk.2
        simp only [Bool.and_eq_true, beq_iff_eq] at hk2
        obtain ⟨rfl, hk3⟩ := hk2
        have ed : (Val.dic t m).toD.depth = PyData.depthKv (Val.toDp m) + 1 := rfl
        rw [ed] at hu
        have go : ∀ (k : Val) (v1 v2 : Val) (d : DK) (w1 w2 : V) (y1 y2 : Value), (k, v1) ∈ m → dkey k = some d → vget m2 d = some v2 → Rep X.K B w1 v1 → Rep X.K B w2 v2 → RelV w1 y1 → RelV w2 y2 → EqIn X.prog X.w A.in1 s y1 y2 (veq v1 v2) :=
          fun k v1 v2 d w1 w2 y1 y2 hm h1 h2 g1 g2 k1 k2 => eqp_run I sb (A := A.in1) hm g1 g2 k1 k2 (vok_in hk3 hm h1 h2) (by have := depth_in hm; show A.units + 1 + _ < cLine; omega)
        have vg := Rep.vgets I sb r1
        have fin : veq (.dic t m) (.dic t m2) = ((m.length == m2.length) && veqp m m2) := by
          conv => lhs; unfold veq
          rw [if_neg hd]
        have ref : ∃ a b, w = .ref a ∧ u = .ref b := by
          cases r1 <;> cases r2 <;> exact ⟨_, _, rfl, rfl⟩
        obtain ⟨a, b, rfl, rfl⟩ := ref
        cases q1; cases q2
        refine eq_refs I sb r1 r2 hk0 hk.1 fun E Q hq => ?_
        rw [fin] at hq
        cases t with
        | false => exact dic_k I sb r1 r2 (by omega) vg go E Q hq
        | true => exact dic_t I sb r1 r2 (by omega) vg go E Q hq
      | _ => exact absurd hk.2 Bool.false_ne_true
  | .non, y, A, w, u, v, z, r1, r2, q1, q2, hk, hu => by
    by_cases hd : (dfree .non && dfree y) = true
    · exact EqAt.inModel (eq_df I sb r1 r2 q1 q2 hd hu) _ _
    · unfold vok at hk; simp [hd] at hk
  | .bl c, y, A, w, u, v, z, r1, r2, q1, q2, hk, hu => by
    by_cases hd : (dfree (.bl c) && dfree y) = true
    · exact EqAt.inModel (eq_df I sb r1 r2 q1 q2 hd hu) _ _
    · unfold vok at hk; simp [hd] at hk
  | .int c, y, A, w, u, v, z, r1, r2, q1, q2, hk, hu => by
    by_cases hd : (dfree (.int c) && dfree y) = true
    · exact EqAt.inModel (eq_df I sb r1 r2 q1 q2 hd hu) _ _
    · unfold vok at hk; simp [hd] at hk
  | .str c, y, A, w, u, v, z, r1, r2, q1, q2, hk, hu => by
    by_cases hd : (dfree (.str c) && dfree y) = true
    · exact EqAt.inModel (eq_df I sb r1 r2 q1 q2 hd hu) _ _
    · unfold vok at hk; simp [hd] at hk
  | .wtup c, y, A, w, u, v, z, r1, r2, q1, q2, hk, hu => by
    by_cases hd : (dfree (.wtup c) && dfree y) = true
    · exact EqAt.inModel (eq_df I sb r1 r2 q1 q2 hd hu) _ _
    · unfold vok at hk; simp [hd] at hk
  | .wlst c, y, A, w, u, v, z, r1, r2, q1, q2, hk, hu => by
    by_cases hd : (dfree (.wlst c) && dfree y) = true
    · exact EqAt.inModel (eq_df I sb r1 r2 q1 q2 hd hu) _ _
    · unfold vok at hk; simp [hd] at hk
  | .adr c, y, A, w, u, v, z, r1, r2, q1, q2, hk, hu => by
    by_cases hd : (dfree (.adr c) && dfree y) = true
    · exact EqAt.inModel (eq_df I sb r1 r2 q1 q2 hd hu) _ _
    · unfold vok at hk; simp [hd] at hk
  | .exv c1 c2 c3 c4, y, A, w, u, v, z, r1, r2, q1, q2, hk, hu => by
    by_cases hd : (dfree (.exv c1 c2 c3 c4) && dfree y) = true
    · exact EqAt.inModel (eq_df I sb r1 r2 q1 q2 hd hu) _ _
    · unfold vok at hk; simp [hd] at hk
  | .err c1 c2, y, A, w, u, v, z, r1, r2, q1, q2, hk, hu => by
    by_cases hd : (dfree (.err c1 c2) && dfree y) = true
    · exact EqAt.inModel (eq_df I sb r1 r2 q1 q2 hd hu) _ _
    · unfold vok at hk; simp [hd] at hk
theorem eqp_run (I : Inv X pins σ H s) (sb : Sub B H) : ∀ {m : List (Val × Val)} {k x y : Val} {A : Around} {w u : V} {v z : Value}, (k, x) ∈ m → Rep X.K B w x → Rep X.K B u y → RelV w v → RelV u z → vok x y = true → A.units + x.toD.depth < cLine → EqIn X.prog X.w A s v z (veq x y)
  | [], _, _, _, _, _, _, _, _, e, _, _, _, _, _, _ => by cases e
  | (k', x') :: r, k, x, y, A, w, u, v, z, e, r1, r2, q1, q2, hk, hu => by
    by_cases c : x' = x
    · rw [← c] at r1 hk hu ⊢
      exact eq_run I sb r1 r2 q1 q2 hk hu
    · refine eqp_run I sb (m := r) (k := k) ((List.mem_cons.mp e).resolve_left fun q => ?_) r1 r2 q1 q2 hk hu
      cases q
      exact c rfl
theorem eqs_run (I : Inv X pins σ H s) (sb : Sub B H) : ∀ {xs : List Val} {j : Nat} {x y : Val} {A : Around} {w u : V} {v z : Value}, xs[j]? = some x → Rep X.K B w x → Rep X.K B u y → RelV w v → RelV u z → vok x y = true → A.units + x.toD.depth < cLine → EqIn X.prog X.w A s v z (veq x y)
  | [], _, _, _, _, _, _, _, _, e, _, _, _, _, _, _ => by simp at e
  | a :: r, 0, x, y, A, w, u, v, z, e, r1, r2, q1, q2, hk, hu => by
    have e : a = x := by simpa using e
    rw [← e] at r1 hk hu ⊢
    exact eq_run I sb r1 r2 q1 q2 hk hu
  | a :: r, j + 1, x, y, A, w, u, v, z, e, r1, r2, q1, q2, hk, hu => eqs_run I sb (xs := r) (j := j) (by simpa using e) r1 r2 q1 q2 hk hu
end
/-! ### == and != as operators -/
def dep64 (x : Val) : Bool := decide (x.toD.depth ≤ 50)
def gEq (x y : Val) : Option Val := if vok x y && dep64 x then some (.bl (veq x y)) else none
def gNe (x y : Val) : Option Val := if vok x y && dep64 x then match x, y with
    | .tup _, .tup _ => some (.bl (!veq x y))
    | _, _ => if dfree x && dfree y then some (.bl (!veq x y)) else none
  else none
/-- the operator by values, its operands looked at -/
def OpV (X : Cx) (f : Value → Value → Sem Value) (g : Val → Val → Option Val) : Prop := ∀ (pins : List (Addr × Obj)) (s : Shared) (σ : L2.St) (H B : Hp) (w u : V) (v z : Value) (x y r : Val) (Q : VK), Inv X pins σ H s → Sub B H → Rep X.K B w x → Rep X.K B u y → RelV w v → RelV u z →
    g x y = some r → (∀ q, (∀ F, Rep X.K F q r) → Q q H) → wpAny (model X.prog X.w) X.A (f v z) (EP X pins σ Q) X.xe s
/-- compared at the top -/
theorem rc_run (I : Inv X pins σ H s) (sb : Sub B H) {x y : Val} {A : Around} {w u : V} {v z : Value} (r1 : Rep X.K B w x) (r2 : Rep X.K B u y) (q1 : RelV w v) (q2 : RelV u z) (hk : vok x y = true) (hu : A.units + x.toD.depth < cLine)
    (E Q : Value → Shared → Prop) (hq : Q (.bool (veq x y)) s) : wpAny (model X.prog X.w) A (richCompare .Eq v z) Q E s := by
  by_cases hd : (dfree x && dfree y) = true
  · rw [veq_df hd] at hq
    rw [Bool.and_eq_true] at hd
    unfold dfree at hd
    rw [Bool.and_eq_true, Bool.and_eq_true] at hd
    obtain ⟨as, h1⟩ := Rep.reads I sb r1 q1 hd.1.1
    obtain ⟨bs, h2⟩ := Rep.reads I sb r2 q2 hd.2.1
    exact rcAt_plain h1 h2 hd.1.2 hd.2.2 (Nat.lt_of_le_of_lt (Nat.add_le_add_left (Nat.min_le_left _ _) _) hu) _ _ _ _ hq
  · unfold vok at hk
    simp only [hd, Bool.false_or] at hk
    rw [Bool.and_eq_true] at hk
    cases x with
    | tup xs =>
      cases y with
      | tup ys =>
        obtain ⟨a, ws, rfl, ha, rs⟩ := r1.seqT
        obtain ⟨b, us, rfl, hb, rt⟩ := r2.seqT
        cases q1; cases q2
        have e : (Val.tup xs).toD.depth = PyData.depthAll (Val.toDs xs) + 1 := rfl
        rw [e] at hu
        exact rc_tup I sb r1 r2 (by omega) hd (fun j x y w1 w2 v1 v2 f1 f2 g1 g2 k1 k2 => eq_run I sb (A := A.in1) g1 g2 k1 k2 (vok_sub hk.2 f1 f2) (by have := depth_at f1; show A.units + 1 + _ < cLine; omega)) E Q hq
      | _ => exact absurd hk.2 Bool.false_ne_true
    | lst xs =>
      cases y with
      | lst ys =>
        obtain ⟨a, ws, rfl, ha, rs⟩ := r1.seqL
        obtain ⟨b, us, rfl, hb, rt⟩ := r2.seqL
        cases q1; cases q2
        have hk2 := hk.2
        simp only [Bool.and_eq_true, beq_iff_eq] at hk2
        have e : (Val.lst xs).toD.depth = PyData.depthAll (Val.toDs xs) + 1 := rfl
        rw [e] at hu
        exact rc_lst I sb r1 r2 (by omega) hd hk2.1 (fun j x y w1 w2 v1 v2 f1 f2 g1 g2 k1 k2 => eq_run I sb (A := A.in1) g1 g2 k1 k2 (vok_sub hk2.2 f1 f2) (by have := depth_at f1; show A.units + 1 + _ < cLine; omega)) E Q hq
      | _ => exact absurd hk.2 Bool.false_ne_true
    | dic t m =>
      cases y with
      | dic t2 m2 =>
        have hk2 := hk.2
        simp only [Bool.and_eq_true, beq_iff_eq] at hk2
        obtain ⟨rfl, hk3⟩ := hk2
        have ed : (Val.dic t m).toD.depth = PyData.depthKv (Val.toDp m) + 1 := rfl
        rw [ed] at hu
        have go : ∀ (k : Val) (v1 v2 : Val) (d : DK) (w1 w2 : V) (y1 y2 : Value), (k, v1) ∈ m → dkey k = some d → vget m2 d = some v2 → Rep X.K B w1 v1 → Rep X.K B w2 v2 → RelV w1 y1 → RelV w2 y2 → EqIn X.prog X.w A.in1 s y1 y2 (veq v1 v2) :=
          fun k v1 v2 d w1 w2 y1 y2 hm h1 h2 g1 g2 k1 k2 => eq_run I sb (A := A.in1) g1 g2 k1 k2 (vok_in hk3 hm h1 h2) (by have := depth_in hm; show A.units + 1 + _ < cLine; omega)
        have vg := Rep.vgets I sb r1
        have fin : veq (.dic t m) (.dic t m2) = ((m.length == m2.length) && veqp m m2) := by
          conv => lhs; unfold veq
          rw [if_neg hd]
        have ref : ∃ a b, w = .ref a ∧ u = .ref b := by
          cases r1 <;> cases r2 <;> exact ⟨_, _, rfl, rfl⟩
        obtain ⟨a, b, rfl, rfl⟩ := ref
        cases q1; cases q2
        rw [fin] at hq
        cases t with
        | false => exact dic_k I sb r1 r2 (by omega) vg go E Q hq
        | true => exact dic_t I sb r1 r2 (by omega) vg go E Q hq
      | _ => exact absurd hk.2 Bool.false_ne_true
    | _ => exact absurd hk.2 Bool.false_ne_true
theorem ne_run (I : Inv X pins σ H s) (sb : Sub B H) {x y : Val} {A : Around} {w u : V} {v z : Value} (r1 : Rep X.K B w x) (r2 : Rep X.K B u y) (q1 : RelV w v) (q2 : RelV u z) {r : Val} (hk : gNe x y = some r) (hu : A.units + 64 < cLine)
    (E Q : Value → Shared → Prop) (hq : Q (.bool (!veq x y)) s) : r = .bl (!veq x y) ∧ wpAny (model X.prog X.w) A (compareOp .NotEq v z) Q E s := by
  unfold gNe at hk
  split at hk
  · rename_i h0
    rw [Bool.and_eq_true] at h0
    have hz : x.toD.depth ≤ 50 := of_decide_eq_true h0.2
    have dfc : (dfree x && dfree y) = true → wpAny (model X.prog X.w) A (compareOp .NotEq v z) Q E s := by
      intro hd
      rw [veq_df hd] at hq
      rw [Bool.and_eq_true] at hd
      unfold dfree at hd
      rw [Bool.and_eq_true, Bool.and_eq_true] at hd
      obtain ⟨as, h1⟩ := Rep.reads I sb r1 q1 hd.1.1
      obtain ⟨bs, h2⟩ := Rep.reads I sb r2 q2 hd.2.1
      exact ne_plain h1 h2 hd.1.2 hd.2.2 (Nat.lt_of_le_of_lt (Nat.add_le_add_left (Nat.min_le_left _ _) _) (by omega)) hq
    split at hk
    · rename_i xs ys
      refine ⟨(Option.some.inj hk).symm, ?_⟩
      by_cases hd : (dfree (.tup xs) && dfree (.tup ys)) = true
      · exact dfc hd
      · have hk2 := h0.1
        unfold vok at hk2
        simp only [hd, Bool.false_or] at hk2
        rw [Bool.and_eq_true] at hk2
        obtain ⟨a, ws, rfl, ha, rs⟩ := r1.seqT
        obtain ⟨b, us, rfl, hb, rt⟩ := r2.seqT
        cases q1; cases q2
        have e : (Val.tup xs).toD.depth = PyData.depthAll (Val.toDs xs) + 1 := rfl
        rw [e] at hz
        exact ne_tup I sb r1 r2 (by omega) hd (fun j x y w1 w2 v1 v2 f1 f2 g1 g2 k1 k2 => eq_run I sb (A := A.in1) g1 g2 k1 k2 (vok_sub hk2.2 f1 f2) (by have := depth_at f1; show A.units + 1 + _ < cLine; omega)) E Q hq
    · split at hk
      · exact ⟨(Option.some.inj hk).symm, dfc (by assumption)⟩
      · cases hk
  · cases hk
theorem op_eqv {X : Cx} (hu : X.A.units + 64 < cLine) : OpV X (compareOp .Eq) gEq := by
  intro pins s σ H B w u v z x y r Q I sb r1 r2 q1 q2 hg h
  unfold gEq at hg
  split at hg
  · rename_i h0
    cases hg
    rw [Bool.and_eq_true] at h0
    have hz : x.toD.depth ≤ 50 := of_decide_eq_true h0.2
    exact rc_run I sb r1 r2 q1 q2 h0.1 (by omega) _ _ ⟨.bl (veq x y), H, I, rfl, h _ fun F => .bl _⟩
  · cases hg
theorem op_nev {X : Cx} (hu : X.A.units + 64 < cLine) : OpV X (compareOp .NotEq) gNe := by
  intro pins s σ H B w u v z x y r Q I sb r1 r2 q1 q2 hg h
  have e : r = .bl (!veq x y) := (ne_run (A := X.A) (E := fun _ _ => True) (Q := fun _ _ => True) I sb r1 r2 q1 q2 hg hu True.intro).1
  subst e
  exact (ne_run I sb r1 r2 q1 q2 hg hu _ _ ⟨.bl _, H, I, rfl, h _ fun F => .bl _⟩).2
end
section
variable {W : Wo} {X : Cx} {E : WX}
theorem OpV.to {f : Value → Value → Sem Value} {g : Val → Val → Option Val} (h : OpV X f g) : OpR X f fun w u H Q => ∃ B x y r, Sub B H ∧ Rep X.K B w x ∧ Rep X.K B u y ∧ g x y = some r ∧ ∀ q, (∀ F, Rep X.K F q r) → Q q H :=
  fun pins s σ H w u v z Q I r1 r2 ⟨B, x, y, r, sb, p1, p2, e, q⟩ => h pins s σ H B w u v z x y r Q I sb p1 p2 r1 r2 e q
theorem flat_V {g : Val → Val → Option Val} : Flat2 X.K (fun w u H Q => ∃ B x y r, Sub B H ∧ Rep X.K B w x ∧ Rep X.K B u y ∧ g x y = some r ∧ ∀ q, (∀ F, Rep X.K F q r) → Q q H) g :=
  fun B H w u x y v Q sb r1 r2 e q => ⟨B, x, y, v, sb, r1, r2, e, q⟩
variable {a b : Expr} {fa fb : Ev W}
theorem vc_eq (hu : X.A.units + 64 < cLine) (ha : VB W X E a fa) (hb : VB W X E b fb) : VC W X E .Eq a b (e2 gEq fa fb) := vcmp (op_eqv hu).to flat_V ha hb (nomark _)
theorem vc_ne (hu : X.A.units + 64 < cLine) (ha : VB W X E a fa) (hb : VB W X E b fb) : VC W X E .NotEq a b (e2 gNe fa fb) := vcmp (op_nev hu).to flat_V ha hb (nomark _)
end
end VL

/-! VL7: statements: what comes of them, stores, changes of own things, branches, rows. -/
namespace VL
open PySem PySem.Spec PyProof.Rows L2

/-! ### 1. what comes of a statement -/
inductive Out (S : Type) where
  | nx (ρ : En) (s : S)
  | bk (ρ : En) (s : S)
  | ct (ρ : En) (s : S)
  | rt (t : OT) (s : S)
  | exc (c : Addr) (n : Int) (ρ : En) (s : S)
  | bad
abbrev Cm (W : Wo) := En → W.S → Out W.S
/-- the reckoning of an expression, then the rest -/
def R.go {S α : Type} (ρ : En) (r : R S α) (f : α → S → Out S) : Out S := match r with
  | .ok a s => f a s
  | .exc c n s => .exc c n ρ s
  | .bad => .bad
def Out.then {S : Type} (o : Out S) (f : En → S → Out S) : Out S := match o with
  | .nx ρ s => f ρ s
  | .bk ρ s => .bk ρ s
  | .ct ρ s => .ct ρ s
  | .rt t s => .rt t s
  | .exc c n ρ s => .exc c n ρ s
  | .bad => .bad

/-- behind a statement that may change the slots in T and what they own -/
structure Ns (T : List Nat) (G G' : Gh) (H H' : Hp) : Prop where
  sub : Sub G.F G'.F
  keep : ∀ a o, H a = some o → ¬ G.fp a → (∀ i, i ∈ T → ¬ G.ad i a) → H' a = some o
  there : ∀ a, H' a = none → H a = none
  adN : ∀ i, i ∉ T → G'.ad i = G.ad i
  adT : ∀ i a, i ∈ T → G'.ad i a → (∃ j, j ∈ T ∧ G.ad j a) ∨ H a = none
  fp : ∀ a, G'.fp a → G.fp a ∨ H a = none
  fz : ∀ a o, G'.F a = some o → G.F a = some o ∨ H a = none ∨ G.fp a ∨ (∃ i, i ∈ T ∧ G.ad i a) ∨ ∃ ws, o = .tup ws
def Off {α : Type} (T : List Nat) (l l' : List α) : Prop := l'.length = l.length ∧ ∀ i, i ∉ T → l'[i]? = l[i]?
theorem Off.refl {α : Type} (T : List Nat) (l : List α) : Off T l l := ⟨rfl, fun _ _ => rfl⟩
theorem Off.trans {α : Type} {T : List Nat} {l l1 l2 : List α} (x : Off T l l1) (y : Off T l1 l2) : Off T l l2 := ⟨y.1.trans x.1, fun i h => (y.2 i h).trans (x.2 i h)⟩
theorem Off.mono {α : Type} {T T' : List Nat} {l l' : List α} (x : Off T l l') (h : ∀ i ∈ T, i ∈ T') : Off T' l l' := ⟨x.1, fun i n => x.2 i fun z => n (h i z)⟩
theorem Off.set {α : Type} {T : List Nat} {l : List α} {i : Nat} {a : α} (h : i ∈ T) : Off T l (l.set i a) := ⟨List.length_set, fun j n => by
  rw [List.getElem?_set_ne]
  rintro rfl
  exact n h⟩
theorem Ns.refl (T : List Nat) (G : Gh) (H : Hp) : Ns T G G H H := ⟨Sub.refl _, fun _ _ h _ _ => h, fun _ h => h, fun _ _ => rfl, fun i a h z => .inl ⟨i, h, z⟩, fun _ z => .inl z, fun _ _ z => .inl z⟩
theorem Ns.trans {T : List Nat} {G G1 G2 : Gh} {H H1 H2 : Hp} (x : Ns T G G1 H H1) (y : Ns T G1 G2 H1 H2) : Ns T G G2 H H2 where
  sub := x.sub.trans y.sub
  keep := fun a o e n d => y.keep a o (x.keep a o e n d) (fun z => by
    rcases x.fp a z with q | q
    · exact n q
    · rw [e] at q; cases q) fun i hi z => by
    rcases x.adT i a hi z with ⟨j, hj, q⟩ | q
    · exact d j hj q
    · rw [e] at q; cases q
  there := fun a h => x.there a (y.there a h)
  adN := fun i h => (y.adN i h).trans (x.adN i h)
  adT := fun i a hi z => by
    rcases y.adT i a hi z with ⟨j, hj, q⟩ | q
    · exact x.adT j a hj q
    · exact .inr (x.there a q)
  fp := fun a z => by
    rcases y.fp a z with q | q
    · exact x.fp a q
    · exact .inr (x.there a q)
  fz := fun a o e => by
    rcases y.fz a o e with q | q | q | ⟨i, hi, q⟩ | q
    · exact x.fz a o q
    · exact .inr (.inl (x.there a q))
    · rcases x.fp a q with r | r
      · exact .inr (.inr (.inl r))
      · exact .inr (.inl r)
    · rcases x.adT i a hi q with r | r
      · exact .inr (.inr (.inr (.inl r)))
      · exact .inr (.inl r)
    · exact .inr (.inr (.inr (.inr q)))
theorem Ns.mono {T T' : List Nat} {G G' : Gh} {H H' : Hp} (x : Ns T G G' H H') (h : ∀ i ∈ T, i ∈ T') : Ns T' G G' H H' where
  sub := x.sub
  keep := fun a o e n d => x.keep a o e n fun i hi => d i (h i hi)
  there := x.there
  adN := fun i n => x.adN i fun z => n (h i z)
  adT := fun i a hi z => by
    by_cases q : i ∈ T
    · rcases x.adT i a q z with ⟨j, hj, r⟩ | r
      · exact .inl ⟨j, h j hj, r⟩
      · exact .inr r
    · rw [x.adN i q] at z
      exact .inl ⟨i, hi, z⟩
  fp := x.fp
  fz := fun a o e => by
    rcases x.fz a o e with q | q | q | ⟨i, hi, q⟩ | q
    · exact .inl q
    · exact .inr (.inl q)
    · exact .inr (.inr (.inl q))
    · exact .inr (.inr (.inr (.inl ⟨i, h i hi, q⟩)))
    · exact .inr (.inr (.inr (.inr q)))
theorem Nx.ns {G G' : Gh} {H H' : Hp} (x : Nx G G' H H') (T : List Nat) : Ns T G G' H H' where
  sub := x.sub
  keep := fun a o e n _ => x.keep a o e n
  there := x.there
  adN := fun i _ => by rw [x.ad]
  adT := fun i a hi z => by rw [x.ad] at z; exact .inl ⟨i, hi, z⟩
  fp := x.fp
  fz := fun a o e => by
    rcases x.fz a o e with q | q | q | q
    · exact .inl q
    · exact .inr (.inl q)
    · exact .inr (.inr (.inl q))
    · exact .inr (.inr (.inr (.inr q)))

/-- a returned thing: nobody else's -/
def pO (K : PySem.W.Frag) (G : Gh) (H : Hp) (G' : Gh) (H' : Hp) (w : V) (t : OT) : Prop :=
  ∃ A, RepO K G'.F H' A w t ∧ ∀ a, A a → G'.F a = none ∧ (∃ o, H' a = some o ∧ ∀ ws, o ≠ .tup ws) ∧ ¬ G'.fp a ∧ ((∃ i, G.ad i a) ∨ H a = none)
def PstS (W : Wo) (K : PySem.W.Frag) (E : WX) (T : List Nat) (G : Gh) (ρ : En) (σ : L2.St) (H : Hp) (o : Out W.S) (D : Ends) : Prop := match o with
  | .nx ρ' s' => ∀ G' H' σ', Ns T G G' H H' → Off T ρ ρ' → Off T σ σ' → Rel W K G' ρ' s' σ' H' → D.nx σ' H'
  | .bk ρ' s' => ∀ G' H' σ', Ns T G G' H H' → Off T ρ ρ' → Off T σ σ' → Rel W K G' ρ' s' σ' H' → D.bk σ' H'
  | .ct ρ' s' => ∀ G' H' σ', Ns T G G' H H' → Off T ρ ρ' → Off T σ σ' → Rel W K G' ρ' s' σ' H' → D.ct σ' H'
  | .rt t s' => ∀ G' H' w, Ns T G G' H H' → RelW W G' s' H' → pO K G H G' H' w t → D.rt w H'
  | .exc c n ρ' s' => ∀ G' H' σ' d, Ns T G G' H H' → Off T ρ ρ' → Off T σ σ' → Rel W K G' ρ' s' σ' H' → H d = none → H' d = some (.xd (atF n)) → E (.ref c) (some d) σ' H'
  | .bad => False
def tS (W : Wo) (K : PySem.W.Frag) (E : WX) (T : List Nat) (f : Cm W) : TS := fun D σ H => ∃ G ρ s, Rel W K G ρ s σ H ∧ PstS W K E T G ρ σ H (f ρ s) D
/-- a statement, a row of statements is f, within the slots T -/
def VS (W : Wo) (X : Cx) (E : WX) (T : List Nat) (st : Stmt) (f : Cm W) : Prop := PS X st (tS W X.K E T f)
def VSs (W : Wo) (X : Cx) (E : WX) (T : List Nat) (st : List Stmt) (f : Cm W) : Prop := PSs X st (tS W X.K E T f)
theorem PS.imp {X : Cx} {st : Stmt} {t t' : TS} (h : PS X st t) (i : ∀ D σ H, t' D σ H → t D σ H) : PS X st t' := ⟨fun pins s σ H D I z => h.run pins s σ H D I (i D σ H z)⟩
theorem PSs.imp {X : Cx} {st : List Stmt} {t t' : TS} (h : PSs X st t) (i : ∀ D σ H, t' D σ H → t D σ H) : PSs X st t' := ⟨fun pins s σ H D I z => h.run pins s σ H D I (i D σ H z)⟩

section
variable {W : Wo} {K : PySem.W.Frag} {E : WX} {T : List Nat} {G G1 : Gh} {ρ ρ1 : En} {s : W.S} {σ σ1 : L2.St} {H H1 : Hp} {D D' : Ends} {o : Out W.S}
theorem pO.from {G' : Gh} {H' : Hp} {w : V} {t : OT} (x : Ns T G G1 H H1) (h : pO K G1 H1 G' H' w t) : pO K G H G' H' w t := by
  obtain ⟨A, r, z⟩ := h
  refine ⟨A, r, fun a q => ?_⟩
  obtain ⟨h1, h2, h3, h4⟩ := z a q
  refine ⟨h1, h2, h3, ?_⟩
  rcases h4 with ⟨i, h4⟩ | h4
  · by_cases hi : i ∈ T
    · rcases x.adT i a hi h4 with ⟨j, _, r⟩ | r
      · exact .inl ⟨j, r⟩
      · exact .inr r
    · rw [x.adN i hi] at h4
      exact .inl ⟨i, h4⟩
  · exact .inr (x.there a h4)
theorem PstS.from (x : Ns T G G1 H H1) (hρ : Off T ρ ρ1) (hσ : Off T σ σ1) (h : PstS W K E T G ρ σ H o D) : PstS W K E T G1 ρ1 σ1 H1 o D := by
  cases o with
  | nx ρ' s' => exact fun G' H' σ' y a b r => h G' H' σ' (x.trans y) (hρ.trans a) (hσ.trans b) r
  | bk ρ' s' => exact fun G' H' σ' y a b r => h G' H' σ' (x.trans y) (hρ.trans a) (hσ.trans b) r
  | ct ρ' s' => exact fun G' H' σ' y a b r => h G' H' σ' (x.trans y) (hρ.trans a) (hσ.trans b) r
  | rt t s' => exact fun G' H' w y r p => h G' H' w (x.trans y) r (p.from x)
  | exc c n ρ' s' => exact fun G' H' σ' d y a b r e0 e => h G' H' σ' d (x.trans y) (hρ.trans a) (hσ.trans b) r (x.there d e0) e
  | bad => exact h
theorem PstS.mono {T' : List Nat} (ht : ∀ i ∈ T, i ∈ T') (h : PstS W K E T' G ρ σ H o D) : PstS W K E T G ρ σ H o D := by
  cases o with
  | nx ρ' s' => exact fun G' H' σ' y a b r => h G' H' σ' (y.mono ht) (a.mono ht) (b.mono ht) r
  | bk ρ' s' => exact fun G' H' σ' y a b r => h G' H' σ' (y.mono ht) (a.mono ht) (b.mono ht) r
  | ct ρ' s' => exact fun G' H' σ' y a b r => h G' H' σ' (y.mono ht) (a.mono ht) (b.mono ht) r
  | rt t s' => exact fun G' H' w y r p => h G' H' w (y.mono ht) r p
  | exc c n ρ' s' => exact fun G' H' σ' d y a b r e0 e => h G' H' σ' d (y.mono ht) (a.mono ht) (b.mono ht) r e0 e
  | bad => exact h
/-- other ends -/
theorem PstS.ends (h : PstS W K E T G ρ σ H o D) (h1 : ∀ σ H, D.nx σ H → D'.nx σ H) (h2 : ∀ σ H, D.bk σ H → D'.bk σ H) (h3 : ∀ σ H, D.ct σ H → D'.ct σ H) (h4 : ∀ w H, D.rt w H → D'.rt w H) : PstS W K E T G ρ σ H o D' := by
  cases o with
  | nx ρ' s' => exact fun G' H' σ' y a b r => h1 _ _ (h G' H' σ' y a b r)
  | bk ρ' s' => exact fun G' H' σ' y a b r => h2 _ _ (h G' H' σ' y a b r)
  | ct ρ' s' => exact fun G' H' σ' y a b r => h3 _ _ (h G' H' σ' y a b r)
  | rt t s' => exact fun G' H' w y r p => h4 _ _ (h G' H' w y r p)
  | exc c n ρ' s' => exact h
  | bad => exact h
/-- what is known ends at once -/
theorem PstS.nx' (r : Rel W K G ρ s σ H) (h : PstS W K E T G ρ σ H (.nx ρ s) D) : D.nx σ H := h G H σ (Ns.refl _ _ _) (Off.refl _ _) (Off.refl _ _) r
theorem PstS.then {f : En → W.S → Out W.S} (h : PstS W K E T G ρ σ H (o.then f) D) : PstS W K E T G ρ σ H o { D with nx := fun σ' H' => tS W K E T f D σ' H' } := by
  cases o with
  | nx ρ' s' => exact fun G' H' σ' x a b r => ⟨G', ρ', s', r, PstS.from x a b h⟩
  | bk ρ' s' => exact h
  | ct ρ' s' => exact h
  | rt t s' => exact h
  | exc c n ρ' s' => exact h
  | bad => exact h
/-- an expression first -/
theorem PstS.go {α γ : Type} {P : RP γ α} {r : R W.S α} {f : α → W.S → Out W.S} (h : PstS W K E T G ρ σ H (r.go ρ f) D) :
    Pst W K E P G ρ σ H r fun w H1 => ∃ G1 s1 v, Nx G G1 H H1 ∧ Rel W K G1 ρ s1 σ H1 ∧ P G1 H1 w v ∧ PstS W K E T G1 ρ σ H1 (f v s1) D := by
  cases r with
  | ok v s' => exact fun G' H' w x rel rp => ⟨G', s', v, x, rel, rp, PstS.from (x.ns T) (Off.refl _ _) (Off.refl _ _) h⟩
  | exc c n s' => exact fun G' H' d x rel e0 e => h G' H' σ d (x.ns T) (Off.refl _ _) (Off.refl _ _) rel e0 e
  | bad => exact h
/-- .. the wanted end seen from the beginning -/
theorem PstS.goAt {α γ : Type} {P : RP γ α} {r : R W.S α} {f : α → W.S → Out W.S} (h : PstS W K E T G ρ σ H (r.go ρ f) D) :
    Pst W K E P G ρ σ H r fun w H1 => ∃ G1 s1 v, Nx G G1 H H1 ∧ Rel W K G1 ρ s1 σ H1 ∧ P G1 H1 w v ∧ PstS W K E T G ρ σ H (f v s1) D := by
  cases r with
  | ok v s' => exact fun G' H' w x rel rp => ⟨G', s', v, x, rel, rp, h⟩
  | exc c n s' => exact fun G' H' d x rel e0 e => h G' H' σ d (x.ns T) (Off.refl _ _) (Off.refl _ _) rel e0 e
  | bad => exact h
theorem tS.go {α γ : Type} {P : Hp → RP γ α} {g : Sm W α} {f : α → Cm W} (h : tS W K E T (fun ρ s => (g ρ s).go ρ fun v s1 => f v ρ s1) D σ H) :
    tG W K E P g σ H fun w H1 => ∃ G ρ s v, Rel W K G ρ s σ H1 ∧ P H G H1 w v ∧ PstS W K E T G ρ σ H1 (f v ρ s) D := by
  obtain ⟨G, ρ, s, rel, h⟩ := h
  exact tG.mk rel (Pst.mono (PstS.go (P := P H) h) fun w H1 ⟨G1, s1, v, x, r1, p, h1⟩ => ⟨G1, ρ, s1, v, r1, p, h1⟩)
end

/-! ### 2. stores -/
def Gh.put (G : Gh) (i : Nat) (A : Addr → Prop) : Gh := { G with ad := fun j => if j = i then A else G.ad j }
theorem Gh.put_same {G : Gh} {i : Nat} {A : Addr → Prop} : (G.put i A).ad i = A := by show (if i = i then A else _) = A; rw [if_pos rfl]
theorem Gh.put_ne {G : Gh} {i j : Nat} {A : Addr → Prop} (h : j ≠ i) : (G.put i A).ad j = G.ad j := by show (if j = i then A else _) = _; rw [if_neg h]
section
variable {W : Wo} {K : PySem.W.Frag} {E : WX} {G : Gh} {ρ : En} {s : W.S} {σ : L2.St} {H : Hp}
theorem Ns.put {T : List Nat} {G0 : Gh} {H0 : Hp} {i : Nat} {A : Addr → Prop} (x : Ns T G0 G H0 H) (hi : i ∈ T) (hA : ∀ a, A a → (∃ j, j ∈ T ∧ G0.ad j a) ∨ H0 a = none) : Ns T G0 (G.put i A) H0 H where
  sub := x.sub
  keep := x.keep
  there := x.there
  adN := fun j n => (Gh.put_ne (fun e => n (by rw [e]; exact hi))).trans (x.adN j n)
  adT := fun j a hj z => by
    by_cases e : j = i
    · subst e; rw [Gh.put_same] at z; exact hA a z
    · rw [Gh.put_ne e] at z; exact x.adT j a hj z
  fp := x.fp
  fz := x.fz
/-- a name is stored -/
theorem Rel.put {i : Nat} {A : Addr → Prop} {w : V} {t : OT} (r : Rel W K G ρ s σ H) (ro : RepO K G.F H A w t)
    (hA : ∀ a, A a → G.F a = none ∧ (∃ o, H a = some o ∧ ∀ ws, o ≠ .tup ws) ∧ ¬ G.fp a ∧ ∀ j, j ≠ i → ¬ G.ad j a) : Rel W K (G.put i A) (ρ.set i (some t)) s (σ.set i (some w)) H where
  sub := r.sub
  tups := r.tups
  lk := r.lk
  wrl := r.wrl
  len := by rw [List.length_set, List.length_set]; exact r.len
  slot := fun j t' e => by
    by_cases q : j = i
    · subst q
      by_cases hl : j < ρ.length
      · rw [List.getElem?_set_self hl] at e
        cases e
        refine ⟨w, List.getElem?_set_self (by rw [← r.len]; exact hl), ?_⟩
        rw [Gh.put_same]; exact ro
      · rw [List.getElem?_eq_none (by rw [List.length_set]; omega)] at e
        cases e
    · rw [List.getElem?_set_ne (Ne.symm q)] at e
      obtain ⟨w', h1, h2⟩ := r.slot j t' e
      refine ⟨w', by rw [List.getElem?_set_ne (Ne.symm q)]; exact h1, ?_⟩
      rw [Gh.put_ne q]; exact h2
  own := fun j a z => by
    by_cases q : j = i
    · subst q; rw [Gh.put_same] at z; exact ⟨(hA a z).1, (hA a z).2.1, (hA a z).2.2.1⟩
    · rw [Gh.put_ne q] at z; exact r.own j a z
  dis := fun j k a h z y => by
    by_cases q : j = i
    · subst q
      rw [Gh.put_same] at z
      rw [Gh.put_ne (Ne.symm h)] at y
      exact (hA a z).2.2.2 k (Ne.symm h) y
    · by_cases q2 : k = i
      · subst q2
        rw [Gh.put_same] at y
        rw [Gh.put_ne q] at z
        exact (hA a y).2.2.2 j q z
      · rw [Gh.put_ne q] at z
        rw [Gh.put_ne q2] at y
        exact r.dis j k a h z y
variable {X : Cx} {T : List Nat} {D : Ends}
theorem put_done {i : Nat} {A : Addr → Prop} {w : V} {t : OT} (r : Rel W K G ρ s σ H) (hi : i ∈ T) (ro : RepO K G.F H A w t)
    (hA : ∀ a, A a → G.F a = none ∧ (∃ o, H a = some o ∧ ∀ ws, o ≠ .tup ws) ∧ ¬ G.fp a ∧ ∀ j, j ≠ i → ¬ G.ad j a) (hB : ∀ a, A a → (∃ j, j ∈ T ∧ G.ad j a) ∨ H a = none)
    (h : PstS W K E T G ρ σ H (.nx (ρ.set i (some t)) s) D) : D.nx (σ.set i (some w)) H :=
  h (G.put i A) H _ (Ns.put (Ns.refl _ _ _) hi hB) (Off.set hi) (Off.set hi) (r.put ro hA)
/-- a value into a name -/
theorem put_sh {i : Nat} {w : V} {v : Val} (r : Rel W K G ρ s σ H) (hi : i ∈ T) (rp : Rep K G.F w v) (h : PstS W K E T G ρ σ H (.nx (ρ.set i (some (.sh v))) s) D) : D.nx (σ.set i (some w)) H :=
  put_done r hi (.sh (A := fun _ => False) rp) (fun _ z => z.elim) (fun _ z => z.elim) h
end

/-! ### 3. small statements -/
section
variable {W : Wo} {X : Cx} {E : WX} {T : List Nat} {st : Stmt} {rest : List Stmt} {e : Expr} {pos : Pos} {f : Ev W} {c d : Cm W}
def cNx : Cm W := fun ρ s => .nx ρ s
def cBk : Cm W := fun ρ s => .bk ρ s
def cCt : Cm W := fun ρ s => .ct ρ s
def cSeq (c d : Cm W) : Cm W := fun ρ s => (c ρ s).then d
theorem vss_nil : VSs W X E T [] cNx := PSs.imp pss_nil fun D σ H ⟨G, ρ, s, r, h⟩ => h.nx' r
theorem vss_cons (h1 : VS W X E T st c) (h2 : VSs W X E T rest d) : VSs W X E T (st :: rest) (cSeq c d) := PSs.imp (pss_cons h1 h2) fun D σ H ⟨G, ρ, s, r, h⟩ => ⟨G, ρ, s, r, h.then⟩
theorem vss_one (h1 : VS W X E T st c) : VSs W X E T [st] c := pss_one h1
theorem vs_pass : VS W X E T (.Pass pos) cNx := PS.imp ps_pass fun D σ H ⟨G, ρ, s, r, h⟩ => h.nx' r
theorem vs_doc {x : Str} {j : Nat} {p2 : Pos} : VS W X E T (.Expr (.Constant (.str x) j pos) p2) cNx := PS.imp ps_doc fun D σ H ⟨G, ρ, s, r, h⟩ => h.nx' r
theorem vs_break : VS W X E T (.Break pos) cBk := PS.imp ps_break fun D σ H ⟨G, ρ, s, r, h⟩ => h G H σ (Ns.refl _ _ _) (Off.refl _ _) (Off.refl _ _) r
theorem vs_continue : VS W X E T (.Continue pos) cCt := PS.imp ps_continue fun D σ H ⟨G, ρ, s, r, h⟩ => h G H σ (Ns.refl _ _ _) (Off.refl _ _) (Off.refl _ _) r
def cSet (i : Nat) (f : Ev W) : Cm W := fun ρ s => (f ρ s).go ρ fun v s1 => .nx (ρ.set i (some (.sh v))) s1
def cSetF (i : Nat) (f : Sm W OT) : Cm W := fun ρ s => (f ρ s).go ρ fun t s1 => .nx (ρ.set i (some t)) s1
variable {i : Nat} {x : Str} {p2 : Pos}
theorem vs_set (hi : i ∈ T) (hN : X.N.Nodup) (he : VE W X E e f) (hx : X.N[i]? = some x := by rfl) (hl : Loc X.env.scope x := by first | exact Or.inl rfl | exact Or.inr rfl) (hs : swapsWith e (some (.Name x p2)) pos.line X.env = pure false := by rfl)
    (hf : X.fn x = true ∨ X.env.scope.names.lookup x = some .local := by first | exact .inl rfl | exact .inr rfl | assumption) : VS W X E T (.Assign [.Name x p2] e pos) (cSet i f) :=
  PS.imp (ps_set hN hx hl he hs hf) fun D σ H h => (tS.go (f := fun v ρ s1 => .nx (ρ.set i (some (.sh v))) s1) h).mono fun w H1 ⟨G, ρ, s, v, r, p, h⟩ => put_sh r hi p h
theorem vs_setF {f : Sm W OT} (hi : i ∈ T) (hN : X.N.Nodup) (he : VF W X E e f) (hx : X.N[i]? = some x := by rfl) (hl : Loc X.env.scope x := by first | exact Or.inl rfl | exact Or.inr rfl) (hs : swapsWith e (some (.Name x p2)) pos.line X.env = pure false := by rfl)
    (hf : X.fn x = true ∨ X.env.scope.names.lookup x = some .local := by first | exact .inl rfl | exact .inr rfl | assumption) : VS W X E T (.Assign [.Name x p2] e pos) (cSetF i f) :=
  PS.imp (ps_set hN hx hl he hs hf) fun D σ H h => by
    obtain ⟨G, ρ, s, rel, h⟩ := h
    refine tG.mk (f := f) (P := pF X.K) rel (Pst.mono (PstS.goAt (P := pF X.K H) h) ?_)
    rintro w H1 ⟨G1, s1, t, x1, r1, ⟨A, ro, hA⟩, h1⟩
    refine h1 (G1.put i A) H1 _ (Ns.put (x1.ns T) hi fun a z => .inr (hA a z).1) (Off.set hi) (Off.set hi) (r1.put ro fun a z => ⟨(hA a z).2.1, (hA a z).2.2.1, (hA a z).2.2.2.1, fun j _ => (hA a z).2.2.2.2 j⟩)
end

/-! ### 4. own things are changed -/
def OT.at : List Nat → OT → Option OT
  | [], t => some t
  | c :: π, .oT ts => match ts[c]? with
    | some t => OT.at π t
    | none => none
  | _ :: _, _ => none
def OT.up : List Nat → OT → OT → OT
  | [], _, u => u
  | c :: π, .oT ts, u => match ts[c]? with
    | some t => .oT (ts.set c (OT.up π t u))
    | none => .oT ts
  | _ :: _, t, _ => t
def PathV (H : Hp) : List Nat → V → V → Prop
  | [], w, w1 => w1 = w
  | c :: π, w, w1 => ∃ a ws z, w = .ref a ∧ H a = some (.tup ws) ∧ ws[c]? = some z ∧ PathV H π z w1
theorem PathV.mono {F H : Hp} (hs : Sub F H) : ∀ {π : List Nat} {w w1 : V}, PathV F π w w1 → PathV H π w w1
  | [], _, _, h => h
  | _ :: _, _, _, ⟨a, ws, z, e, h, e1, p⟩ => ⟨a, ws, z, e, hs _ _ h, e1, PathV.mono hs p⟩
theorem PathV.inj {H : Hp} : ∀ {π : List Nat} {w w1 w2 : V}, PathV H π w w1 → PathV H π w w2 → w1 = w2
  | [], _, _, _, h, h' => h.trans h'.symm
  | c :: π, w, w1, w2, ⟨a, ws, z, e, h, e1, p⟩, ⟨a', ws', z', e', h', e1', p'⟩ => by
    rw [e] at e'; cases e'
    rw [h] at h'; cases h'
    rw [e1] at e1'; cases e1'
    exact PathV.inj p p'
theorem PathV.snoc {H : Hp} {c : Nat} : ∀ {π : List Nat} {w w1 : V} {a : Addr} {ws : List V} {z : V}, PathV H π w w1 → w1 = .ref a → H a = some (.tup ws) → ws[c]? = some z → PathV H (π ++ [c]) w z
  | [], w, w1, a, ws, z, h, e, h1, e1 => ⟨a, ws, z, by rw [← e]; exact h.symm, h1, e1, rfl⟩
  | d :: π, w, w1, a, ws, z, ⟨a', ws', z', e', h', e1', p⟩, e, h1, e1 => ⟨a', ws', z', e', h', e1', PathV.snoc p e h1 e1⟩
section
variable {K : PySem.W.Frag} {F H : Hp}
theorem RepOs.part : ∀ {ts : List OT} {A : Addr → Prop} {ws : List V} {c : Nat} {t : OT}, RepOs K F H A ws ts → ts[c]? = some t → ∃ A' w, ws[c]? = some w ∧ RepO K F H A' w t ∧ (∀ a, A' a → A a) ∧
    ∀ H' t', (∀ a, A a → ¬ A' a → H' a = H a) → RepO K F H' A' w t' → RepOs K F H' A ws (ts.set c t')
  | [], _, _, _, _, .nil, e => by simp at e
  | t0 :: ts, A, _, 0, t, .cons (A1 := A1) (A2 := A2) r r2 d h1 h2, e => by
    simp at e; subst e
    refine ⟨A1, _, rfl, r, h1, fun H' t' k r' => ?_⟩
    exact .cons r' (r2.mono (Sub.refl _) (fun _ z => z) fun a z => k a (h2 a z) fun y => d a y z) d h1 h2
  | t0 :: ts, A, _, c + 1, t, .cons (A1 := A1) (A2 := A2) r r2 d h1 h2, e => by
    obtain ⟨A', w, e1, r', hs, k⟩ := RepOs.part (c := c) r2 (by simpa using e)
    refine ⟨A', w, by simpa using e1, r', fun a z => h2 a (hs a z), fun H' t' kk rr => ?_⟩
    refine .cons (r.mono (Sub.refl _) (fun _ z => z) fun a z => kk a (h1 a z) fun y => d a z (hs a y)) (k H' t' (fun a z y => kk a (h2 a z) y) rr) d h1 h2
theorem RepO.path : ∀ {π : List Nat} {A : Addr → Prop} {w : V} {t t1 : OT}, RepO K F H A w t → OT.at π t = some t1 → ∃ A1 w1, RepO K F H A1 w1 t1 ∧ (∀ a, A1 a → A a) ∧ PathV F π w w1 ∧
    ∀ H' t', (∀ a, A a → ¬ A1 a → H' a = H a) → RepO K F H' A1 w1 t' → RepO K F H' A w (OT.up π t t')
  | [], A, w, t, t1, r, e => by
    cases e
    exact ⟨A, w, r, fun _ z => z, rfl, fun H' t' _ r' => r'⟩
  | c :: π, A, w, t, t1, r, e => by
    cases r with
    | oT ha rs =>
      rename_i a ws ts
      have e : (match ts[c]? with | some t => OT.at π t | none => none) = some t1 := e
      cases q : ts[c]? with
      | none => rw [q] at e; cases e
      | some t2 =>
        rw [q] at e
        obtain ⟨A', w', e1, r', hs, k⟩ := rs.part q
        obtain ⟨A1, w1, r1, h1, p1, k1⟩ := RepO.path r' e
        refine ⟨A1, w1, r1, fun a z => hs a (h1 a z), ⟨a, ws, w', rfl, ha, e1, p1⟩, fun H' t' kk rr => ?_⟩
        have eu : OT.up (c :: π) (.oT ts) t' = .oT (ts.set c (OT.up π t2 t')) := by
          show (match ts[c]? with | some t => OT.oT (ts.set c (OT.up π t t')) | none => .oT ts) = _
          rw [q]
        rw [eu]
        exact .oT ha (k H' _ (fun a z y => kk a z fun y' => y (h1 a y')) (k1 H' t' (fun a z y => kk a (hs a z) y) rr))
    | _ => cases e
end
section
variable {W : Wo} {K : PySem.W.Frag} {E : WX} {G : Gh} {ρ : En} {s : W.S} {σ : L2.St} {H : Hp} {i : Nat} {π : List Nat} {t t1 : OT}
/-- the own thing at a place -/
structure At (W : Wo) (K : PySem.W.Frag) (G : Gh) (ρ : En) (s : W.S) (σ : L2.St) (H : Hp) (i : Nat) (π : List Nat) (t t1 : OT) (w1 : V) (A1 : Addr → Prop) : Prop where
  path : ∃ w, σ[i]? = some (some w) ∧ PathV G.F π w w1
  rep : RepO K G.F H A1 w1 t1
  own : ∀ a, A1 a → G.ad i a
  set : ∀ H' t', (∀ a, ¬ A1 a → H' a = H a) → (∀ a, A1 a → ∃ o, H' a = some o ∧ ∀ ws, o ≠ .tup ws) → RepO K G.F H' A1 w1 t' → Rel W K G (ρ.set i (some (OT.up π t t'))) s σ H'
theorem Rel.at (r : Rel W K G ρ s σ H) (e : ρ[i]? = some (some t)) (e1 : OT.at π t = some t1) : ∃ w1 A1, At W K G ρ s σ H i π t t1 w1 A1 := by
  obtain ⟨w, h1, h2⟩ := r.slot i t e
  obtain ⟨A1, w1, r1, hA, p, k⟩ := h2.path e1
  have hil : i < ρ.length := (List.getElem?_eq_some_iff.mp e).1
  refine ⟨w1, A1, ⟨w, h1, p⟩, r1, hA, fun H' t' off on r' => ?_⟩
  refine ⟨⟨fun a o z => ?_, fun a ws z => ?_, r.lk, ?_⟩, by rw [List.length_set]; exact r.len, fun j t'' z => ?_, fun j a z => ?_, r.dis⟩
  · rw [off a fun y => ?_]
    · exact r.sub a o z
    · rw [(r.own i a (hA a y)).1] at z; cases z
  · by_cases y : A1 a
    · obtain ⟨o, h3, h4⟩ := on a y
      rw [z] at h3; cases h3
      exact absurd rfl (h4 ws)
    · rw [off a y] at z
      exact r.tups a ws z
  · refine W.mono r.wrl (Sub.refl _) fun a z => ⟨off a fun y => (r.own i a (hA a y)).2.2 z, (W.own r.wrl z).1⟩
  · by_cases q : j = i
    · subst q
      rw [List.getElem?_set_self hil] at z
      cases z
      exact ⟨w, h1, k H' t' (fun a _ y => off a y) r'⟩
    · rw [List.getElem?_set_ne (Ne.symm q)] at z
      obtain ⟨w', h3, h4⟩ := r.slot j t'' z
      exact ⟨w', h3, h4.mono (Sub.refl _) (fun _ y => y) fun a y => off a fun x => r.dis j i a q y (hA a x)⟩
  · obtain ⟨h3, ⟨o, h4, h5⟩, h6⟩ := r.own j a z
    refine ⟨h3, ?_, h6⟩
    by_cases y : A1 a
    · exact on a y
    · exact ⟨o, by rw [off a y]; exact h4, h5⟩
theorem At.ns {T : List Nat} {w1 : V} {A1 : Addr → Prop} {H' : Hp} {G0 : Gh} {H0 : Hp} (q : At W K G ρ s σ H i π t t1 w1 A1) (x : Nx G0 G H0 H) (hi : i ∈ T) (off : ∀ a, ¬ A1 a → H' a = H a) (on : ∀ a, A1 a → ∃ o, H' a = some o ∧ ∀ ws, o ≠ .tup ws) : Ns T G0 G H0 H' where
  sub := x.sub
  keep := fun a o e n d => by
    rw [off a fun y => ?_]
    · exact x.keep a o e n
    · refine d i hi ?_
      rw [← x.ad]; exact q.own a y
  there := fun a h => by
    by_cases y : A1 a
    · obtain ⟨o, e, _⟩ := on a y
      rw [e] at h; cases h
    · rw [off a y] at h; exact x.there a h
  adN := fun j _ => by rw [x.ad]
  adT := fun j a hj z => by rw [x.ad] at z; exact .inl ⟨j, hj, z⟩
  fp := x.fp
  fz := fun a o e => by
    rcases x.fz a o e with z | z | z | z
    · exact .inl z
    · exact .inr (.inl z)
    · exact .inr (.inr (.inl z))
    · exact .inr (.inr (.inr (.inr z)))
/-- the object there is at one address -/
theorem At.one {w1 : V} {A1 : Addr → Prop} {a : Addr} {o : HO} {t' : OT} (q : At W K G ρ s σ H i π t t1 w1 A1) (r : Rel W K G ρ s σ H) (ha : A1 a) (ht : ∀ ws, o ≠ .tup ws) (r' : RepO K G.F (upd H a o) A1 w1 t') :
    Rel W K G (ρ.set i (some (OT.up π t t'))) s σ (upd H a o) ∧ ∀ {T : List Nat} {G0 : Gh} {H0 : Hp}, Nx G0 G H0 H → i ∈ T → Ns T G0 G H0 (upd H a o) := by
  have off : ∀ b, ¬ A1 b → upd H a o b = H b := fun b n => upd_ne fun e => n (by rw [e]; exact ha)
  have on : ∀ b, A1 b → ∃ o', upd H a o b = some o' ∧ ∀ ws, o' ≠ .tup ws := fun b y => by
    by_cases e : b = a
    · rw [e, upd_same]; exact ⟨o, rfl, ht⟩
    · rw [upd_ne e]; exact (r.own i b (q.own b y)).2.1
  exact ⟨q.set _ t' off on r', fun x hi => q.ns x hi off on⟩
end

/-- where an own thing is found -/
def tOwn (i : Nat) (π : List Nat) : TE := fun σ H Q => ∃ w w1, σ[i]? = some (some w) ∧ PathV H π w w1 ∧ Q w1 H
def VO (X : Cx) (e : Expr) (i : Nat) (π : List Nat) : Prop := PE X e (tOwn i π)
section
variable {X : Cx}
theorem vo_var (i : Nat) {x : Str} {pos : Pos} (hN : X.N[i]? = some x := by rfl) (hv : Vis X.env.scope x := by first | exact Or.inl rfl | exact Or.inr (Or.inl rfl) | exact Or.inr (Or.inr rfl)) (hd : (x == ("__debug__" : Str)) = false := by decide)
    (hcd : (x == ("__classdict__" : Str)) = false := by decide) : VO X (.Name x pos) i [] := PE.imp (pe_var (i := i) hN hv hd hcd) fun σ H Q ⟨w, w1, h, p, q⟩ => by
  have p : w1 = w := p
  subst p
  exact ⟨_, h, q⟩
theorem PathV.last {H : Hp} {c : Nat} : ∀ {π : List Nat} {w z : V}, PathV H (π ++ [c]) w z → ∃ w1 a ws, PathV H π w w1 ∧ w1 = .ref a ∧ H a = some (.tup ws) ∧ ws[c]? = some z
  | [], w, z, ⟨a, ws, z', e, h, e1, p⟩ => by
    have p : z = z' := p
    subst p
    exact ⟨w, a, ws, rfl, e, h, e1⟩
  | d :: π, w, z, ⟨a, ws, z', e, h, e1, p⟩ => by
    obtain ⟨w1, a', ws', p', e', h', e1'⟩ := PathV.last p
    exact ⟨w1, a', ws', ⟨a, ws, z', e, h, e1, p'⟩, e', h', e1'⟩
theorem vo_ix {e : Expr} {i : Nat} {π : List Nat} {c : Nat} {j : Nat} {p1 pos : Pos} (h : VO X e i π) : VO X (.Subscript e (.Constant (.int (c : Int)) j p1) pos) i (π ++ [c]) := PE.imp (pe_ix ix_tup h pe_int (fun _ _ => rfl)) fun σ H Q ⟨w, w1, h, p, q⟩ => by
  obtain ⟨w2, a, ws, p2, e2, h2, e1⟩ := p.last
  exact ⟨w, w2, h, p2, a, ws, (c : Int), w1, e2, rfl, SqT.of h2, atI_nat e1, q⟩
end
end VL

/-! VL8: changes of own lists and dicts, targets, branches, walks, rows of turns, ends. -/
namespace VL
open PySem PySem.Spec PyProof.Rows L2

/-! ### 1. own lists and dicts -/
def ownAt (ρ : En) (i : Nat) (π : List Nat) : Option (OT × OT) := match ρ[i]? with
  | some (some t) => (OT.at π t).map fun t1 => (t, t1)
  | _ => none
theorem ownAt_of {ρ : En} {i : Nat} {π : List Nat} {t t1 : OT} (h : ownAt ρ i π = some (t, t1)) : ρ[i]? = some (some t) ∧ OT.at π t = some t1 := by
  unfold ownAt at h
  split at h
  · rename_i t' e
    cases q : OT.at π t' with
    | none => rw [q] at h; cases h
    | some u => rw [q] at h; cases h; exact ⟨e, q⟩
  · cases h
section
variable {W : Wo} {X : Cx} {E : WX} {T : List Nat} {G G1 : Gh} {ρ : En} {s s1 : W.S} {σ : L2.St} {H H1 : Hp} {i : Nat} {π : List Nat} {t t1 : OT} {w1 w2 : V} {A1 A2 : Addr → Prop} {D : Ends}
theorem At.same (q : At W X.K G ρ s σ H i π t t1 w1 A1) (q2 : At W X.K G1 ρ s1 σ H1 i π t t1 w2 A2) (hs : Sub G.F G1.F) : w2 = w1 := by
  obtain ⟨w, h, p⟩ := q.path
  obtain ⟨w', h', p'⟩ := q2.path
  rw [h] at h'; cases h'
  exact PathV.inj p' (p.mono hs)
/-- the change of the object at a -/
theorem At.write {a : Addr} {o : HO} {t' : OT} (q : At W X.K G1 ρ s1 σ H1 i π t t1 w1 A1) (r : Rel W X.K G1 ρ s1 σ H1) (x : Nx G G1 H H1) (hi : i ∈ T) (ha : A1 a) (ht : ∀ ws, o ≠ .tup ws) (r' : RepO X.K G1.F (upd H1 a o) A1 w1 t')
    (h : PstS W X.K E T G ρ σ H (.nx (ρ.set i (some (OT.up π t t'))) s1) D) : D.nx σ (upd H1 a o) := by
  obtain ⟨h1, h2⟩ := q.one r ha ht r'
  exact h G1 _ σ (h2 x hi) (Off.set hi) (Off.refl _ _) h1
theorem at_lst (q : At W X.K G ρ s σ H i π t (.oL vs) w1 A1) : ∃ a ws, w1 = .ref a ∧ H a = some (.lst ws) ∧ A1 a ∧ Reps X.K G.F ws vs := by
  cases q.rep with
  | oL h1 h2 h3 => exact ⟨_, _, rfl, h1, h2, h3⟩
def cApp (i : Nat) (π : List Nat) (f : Ev W) : Cm W := fun ρ s => match ownAt ρ i π with
  | some (t, .oL vs) => (f ρ s).go ρ fun v s1 => if vs.length < sizeLine then .nx (ρ.set i (some (OT.up π t (.oL (vs ++ [v]))))) s1 else .bad
  | _ => .bad
def cExt (i : Nat) (π : List Nat) (f : Ev W) : Cm W := fun ρ s => match ownAt ρ i π with
  | some (t, .oL vs) => (f ρ s).go ρ fun v s1 => match v with
    | .lst us => if vs.length + us.length ≤ sizeLine then .nx (ρ.set i (some (OT.up π t (.oL (vs ++ us))))) s1 else .bad
    | _ => .bad
  | _ => .bad
variable {o a e : Expr} {f g : Ev W} {apos cpos pos pos' : Pos}
theorem vs_app (hi : i ∈ T) (ho : VO X o i π) (ha : VE W X E a f) (hsw : swapsWith (.Call (.Attribute o "append" apos) [a] [] cpos) none pos.line X.env = pure false := by rfl)
    (hbase : attributeBase o "append" X.env (eval o X.env) = eval o X.env := by rfl)
    (hfew : ((backTo cpos (starEach [a] X.env)).all (fun x => !x.1) && (backToKw cpos (keywordEach [] X.env)).all (fun x => x.1.isSome)
      && decide (([a] : List Expr).length + ([] : List Keyword).length + (if ([] : List Keyword).isEmpty then 0 else 1) < 30)) = true := by rfl)
    (hline : (apos.endLine == cpos.line) = true := by rfl) (hs : starEach [a] X.env = (false, eval a X.env) :: starEach [] X.env := by rfl) :
    VS W X E T (.Expr (.Call (.Attribute o "append" apos) [a] [] cpos) pos) (cApp i π f) :=
  PS.imp (ps_expr (pe_bm PySem.F.plainAttrs_list PySem.F.slot_list_append PySem.F.type_list_append mt_append ho (pa_cons ha pa_nil hs) hbase hfew hline hs rfl) hsw) fun D σ H ⟨G, ρ, s, r, h⟩ => by
    unfold cApp at h
    split at h
    · rename_i t vs e0
      obtain ⟨e1, e2⟩ := ownAt_of e0
      obtain ⟨w1, A1, q⟩ := r.at e1 e2
      obtain ⟨w, hw, pw⟩ := q.path
      obtain ⟨b, ws, rfl, hb, hA, rs⟩ := at_lst q
      refine ⟨w, _, hw, pw.mono r.sub, .inl ⟨rfl, _, SqL.of hb⟩, ?_⟩
      refine tG.mk r (Pst.mono (PstS.goAt (P := pV X.K H) h) ?_)
      rintro u H1 ⟨G1, s1, v, x, r1, p, h1⟩
      split at h1
      · rename_i hz
        obtain ⟨w2, A2, q2⟩ := r1.at e1 e2
        obtain rfl := q.same q2 x.sub
        obtain ⟨b', ws', e3, hb', hA', rs'⟩ := at_lst q2
        cases e3
        refine ⟨b, ws', u, rfl, rfl, hb', by rw [rs'.length]; exact hz, ?_⟩
        exact q2.write r1 x hi hA' (nd_lst _).2 (.oL upd_same hA' (rs'.append (.cons p .nil))) h1
      · exact h1.elim
    · exact h.elim
theorem vs_ext (hi : i ∈ T) (ho : VO X o i π) (ha : VE W X E a f) (hsw : swapsWith (.Call (.Attribute o "extend" apos) [a] [] cpos) none pos.line X.env = pure false := by rfl)
    (hbase : attributeBase o "extend" X.env (eval o X.env) = eval o X.env := by rfl)
    (hfew : ((backTo cpos (starEach [a] X.env)).all (fun x => !x.1) && (backToKw cpos (keywordEach [] X.env)).all (fun x => x.1.isSome)
      && decide (([a] : List Expr).length + ([] : List Keyword).length + (if ([] : List Keyword).isEmpty then 0 else 1) < 30)) = true := by rfl)
    (hline : (apos.endLine == cpos.line) = true := by rfl) (hs : starEach [a] X.env = (false, eval a X.env) :: starEach [] X.env := by rfl) :
    VS W X E T (.Expr (.Call (.Attribute o "extend" apos) [a] [] cpos) pos) (cExt i π f) :=
  PS.imp (ps_expr (pe_bm PySem.F.plainAttrs_list PySem.F.slot_list_extend PySem.F.type_list_extend mt_extend ho (pa_cons ha pa_nil hs) hbase hfew hline hs rfl) hsw) fun D σ H ⟨G, ρ, s, r, h⟩ => by
    unfold cExt at h
    split at h
    · rename_i t vs e0
      obtain ⟨e1, e2⟩ := ownAt_of e0
      obtain ⟨w1, A1, q⟩ := r.at e1 e2
      obtain ⟨w, hw, pw⟩ := q.path
      obtain ⟨b, ws, rfl, hb, hA, rs⟩ := at_lst q
      refine ⟨w, _, hw, pw.mono r.sub, .inl ⟨rfl, _, SqL.of hb⟩, ?_⟩
      refine tG.mk r (Pst.mono (PstS.goAt (P := pV X.K H) h) ?_)
      rintro u H1 ⟨G1, s1, v, x, r1, p, h1⟩
      split at h1
      · rename_i us
        split at h1
        · rename_i hz
          obtain ⟨w2, A2, q2⟩ := r1.at e1 e2
          obtain rfl := q.same q2 x.sub
          obtain ⟨b', ws', e3, hb', hA', rs'⟩ := at_lst q2
          cases e3
          obtain ⟨c, zs, rfl, hc, rz⟩ := Rep.seqL p
          refine ⟨b, c, ws', zs, rfl, rfl, hb', r1.sub _ _ hc, by rw [rs'.length, rz.length]; exact hz, ?_⟩
          exact q2.write r1 x hi hA' (nd_lst _).2 (.oL upd_same hA' (rs'.append rz)) h1
        · exact h1.elim
      · exact h1.elim
    · exact h.elim
/-- j = own.pop() -/
def cPop (j i : Nat) (π : List Nat) : Cm W := fun ρ s => match ownAt ρ i π with
  | some (t, .oL vs) => match vs[vs.length - 1]? with
    | some v => .nx ((ρ.set i (some (OT.up π t (.oL vs.dropLast)))).set j (some (.sh v))) s
    | none => .bad
  | _ => .bad
theorem Reps.dropLast {K : PySem.W.Frag} {F : Hp} {ws : List V} {vs : List Val} (r : Reps K F ws vs) : Reps K F ws.dropLast vs.dropLast := by
  rw [List.dropLast_eq_take, List.dropLast_eq_take, r.length]
  exact r.take _
theorem vs_pop {j : Nat} {x : Str} {p2 : Pos} (hi : i ∈ T) (hj : j ∈ T) (hN : X.N.Nodup) (ho : VO X o i π) (hx : X.N[j]? = some x := by rfl) (hl : Loc X.env.scope x := by first | exact Or.inl rfl | exact Or.inr rfl)
    (hs : swapsWith (.Call (.Attribute o "pop" apos) [] [] cpos) (some (.Name x p2)) pos.line X.env = pure false := by rfl)
    (hf : X.fn x = true ∨ X.env.scope.names.lookup x = some .local := by first | exact .inl rfl | exact .inr rfl | assumption)
    (hbase : attributeBase o "pop" X.env (eval o X.env) = eval o X.env := by rfl) (hline : (apos.endLine == cpos.line) = true := by rfl) :
    VS W X E T (.Assign [.Name x p2] (.Call (.Attribute o "pop" apos) [] [] cpos) pos) (cPop j i π) :=
  PS.imp (ps_set hN hx hl (pe_bm0 PySem.F.plainAttrs_list PySem.F.slot_list_pop PySem.F.type_list_pop mt_pop ho hbase hline) hs hf) fun D σ H ⟨G, ρ, s, r, h⟩ => by
    unfold cPop at h
    split at h
    · rename_i t vs e0
      split at h
      · rename_i v ev
        obtain ⟨e1, e2⟩ := ownAt_of e0
        obtain ⟨w1, A1, q⟩ := r.at e1 e2
        obtain ⟨w, hw, pw⟩ := q.path
        obtain ⟨b, ws, rfl, hb, hA, rs⟩ := at_lst q
        obtain ⟨z, hz, rz⟩ := rs.at' ev
        refine ⟨w, _, hw, pw.mono r.sub, .inl ⟨rfl, _, SqL.of hb⟩, b, ws, z, rfl, rfl, hb, by rw [rs.length]; exact hz, ?_⟩
        obtain ⟨h1, h2⟩ := q.one r hA (nd_lst _).2 (.oL upd_same hA rs.dropLast)
        have h3 := h1.put (i := j) (.sh (A := fun _ => False) rz) fun _ z => z.elim
        exact h _ _ _ (Ns.put (h2 (Nx.refl _ _) hi) hj fun _ z => z.elim) ((Off.set hi).trans (Off.set hj)) (Off.set hj) h3
      · exact h.elim
    · exact h.elim
/-- own[k] = v of a dict: v, then the place, then k -/
def putD (ρ : En) (i : Nat) (π : List Nat) (k v : Val) : Option En := match ownAt ρ i π with
  | some (t, .oD b kvs) => match dkey k with
    | some d => if DK.isT d = b ∧ kvs.length < sizeLine then some (ρ.set i (some (OT.up π t (.oD b (vput kvs k d v))))) else none
    | none => none
  | _ => none
def cPut (i : Nat) (π : List Nat) (k v : Ev W) : Cm W := fun ρ s => (v ρ s).go ρ fun y s1 => match ownAt ρ i π with
  | some _ => (k ρ s1).go ρ fun x s2 => match putD ρ i π x y with
    | some ρ' => .nx ρ' s2
    | none => .bad
  | none => .bad
theorem putD_of {ρ' : En} {k v : Val} (h : putD ρ i π k v = some ρ') : ∃ t b kvs d, ownAt ρ i π = some (t, .oD b kvs) ∧ dkey k = some d ∧ DK.isT d = b ∧ kvs.length < sizeLine ∧ ρ' = ρ.set i (some (OT.up π t (.oD b (vput kvs k d v)))) := by
  unfold putD at h
  split at h
  · rename_i t b kvs e
    split at h
    · rename_i d e2
      split at h
      · rename_i hz
        cases h
        exact ⟨t, b, kvs, d, e, e2, hz.1, hz.2, rfl⟩
      · cases h
    · cases h
  · cases h
/-- .. by heaps: the dict's place is w1 -/
theorem putD_run {ρ' : En} {k v : Val} {u z : V} {H0 : Hp} {G0 : Gh} (r : Rel W X.K G ρ s σ H) (x : Nx G0 G H0 H) (hi : i ∈ T) (hk : putD ρ i π k v = some ρ') (rk : Rep X.K G.F u k) (rv : Rep X.K G.F z v)
    (h : PstS W X.K E T G0 ρ σ H0 (.nx ρ' s) D) : ∃ w w1 a H', σ[i]? = some (some w) ∧ PathV G.F π w w1 ∧ w1 = .ref a ∧ DPut H a u z H' ∧ D.nx σ H' := by
  obtain ⟨t, b, kvs, d, e0, ed, hb, hz, rfl⟩ := putD_of hk
  obtain ⟨e1, e2⟩ := ownAt_of e0
  obtain ⟨w1, A1, q⟩ := r.at e1 e2
  obtain ⟨w, hw, pw⟩ := q.path
  rcases rk.key ed with ⟨kk, rfl, rfl, rfl⟩ | ⟨ks, c, rfl, rfl, hc, rfl⟩
  · cases hb
    have qr := q.rep
    cases qr with
    | oK ha hA rp =>
      rename_i a l
      refine ⟨w, _, a, _, hw, pw, rfl, .inl ⟨l, kk, ha, rfl, ?_, rfl⟩, ?_⟩
      · have := rp.length; rw [List.length_map] at this; rw [this]; exact hz
      · exact q.write r x hi hA (fun _ q => (by cases q)) (.oK upd_same hA (RepP.put (e := kVal) (c := Sum.inl) dkey_k inl_inj kk rv rp)) h
  · cases hb
    have qr := q.rep
    cases qr with
    | oDT ha hA rp =>
      rename_i a l
      refine ⟨w, _, a, _, hw, pw, rfl, .inr ⟨l, ks, c, ha, rfl, r.sub _ _ hc, ?_, rfl⟩, ?_⟩
      · have := rp.length; rw [List.length_map] at this; rw [this]; exact hz
      · exact q.write r x hi hA (fun _ q => (by cases q)) (.oDT upd_same hA (RepP.put (κ := List Key) (e := fun ks => Val.tup (ks.map kVal)) (c := Sum.inr) (l := l) dkey_t inr_inj ks rv rp)) h
theorem vs_put (hu : X.A.units + 1 < cLine) (hi : i ∈ T) (ho : VO X o i π) (hk : VE W X E a f) (hv : VE W X E e g) (hs : swapsWith e (some (.Subscript o a pos')) pos.line X.env = pure false := by rfl) :
    VS W X E T (.Assign [.Subscript o a pos'] e pos) (cPut i π f g) :=
  PS.imp (ps_dput hu ho hk hv hs) fun D σ H ⟨G, ρ, s, r, h⟩ => by
    refine tG.mk r (Pst.mono (PstS.goAt (P := pV X.K H) h) ?_)
    rintro z H1 ⟨G1, s1, v, x1, r1, rv, h1⟩
    split at h1
    · rename_i tt e0
      obtain ⟨t, t1⟩ := tt
      obtain ⟨e1, e2⟩ := ownAt_of e0
      obtain ⟨w1, A1, q⟩ := r1.at e1 e2
      obtain ⟨w, hw, pw⟩ := q.path
      refine ⟨w, w1, hw, pw.mono r1.sub, ?_⟩
      refine tG.mk r1 (Pst.mono (PstS.goAt (P := pV X.K H1) (PstS.from (x1.ns T) (Off.refl _ _) (Off.refl _ _) h1)) ?_)
      rintro u H2 ⟨G2, s2, k, x2, r2, rk, h2⟩
      split at h2
      · rename_i ρ' ek
        obtain ⟨w', w1', b, H', hw', pw', rfl, dp, hd⟩ := putD_run r2 x2 hi ek rk (Rep.mono x2.sub rv) h2
        rw [hw] at hw'; cases hw'
        obtain rfl := PathV.inj (pw.mono x2.sub) pw'
        exact ⟨b, H', rfl, dp, hd⟩
      · exact h2.elim
    · exact h1.elim

/-! ### 2. targets -/
abbrev Pu := Val → En → Option En
abbrev Pus := List Val → En → Option En
def VG (W : Wo) (X : Cx) (T : List Nat) (tg : Expr) (p : Pu) : Prop := PG X tg fun w σ H Q => ∃ G ρ s v ρ', Rel W X.K G ρ s σ H ∧ Rep X.K G.F w v ∧ p v ρ = some ρ' ∧
  ∀ G' σ', Ns T G G' H H → Off T ρ ρ' → Off T σ σ' → Rel W X.K G' ρ' s σ' H → Q σ' H
def VGs (W : Wo) (X : Cx) (T : List Nat) (ts : List Expr) (p : Pus) : Prop := PGs X ts fun ws σ H Q => ∃ G ρ s vs ρ', Rel W X.K G ρ s σ H ∧ Reps X.K G.F ws vs ∧ p vs ρ = some ρ' ∧
  ∀ G' σ', Ns T G G' H H → Off T ρ ρ' → Off T σ σ' → Rel W X.K G' ρ' s σ' H → Q σ' H
theorem PG.imp {tg : Expr} {t t' : TG} (h : PG X tg t) (i : ∀ v σ H Q, t' v σ H Q → t v σ H Q) : PG X tg t' := ⟨fun pins s σ H v u Q I r z => h.run pins s σ H v u Q I r (i v σ H Q z)⟩
theorem PGs.imp {tg : List Expr} {t t' : TGs} (h : PGs X tg t) (i : ∀ v σ H Q, t' v σ H Q → t v σ H Q) : PGs X tg t' := ⟨fun pins s σ H v u Q I r z => h.run pins s σ H v u Q I r (i v σ H Q z)⟩
def puN (i : Nat) : Pu := fun v ρ => some (ρ.set i (some (.sh v)))
def puT (p : Pus) : Pu := fun v ρ => match v with
  | .tup vs => p vs ρ
  | .wtup vs => p vs ρ
  | _ => none
def puNil : Pus := fun vs ρ => match vs with
  | [] => some ρ
  | _ => none
def puCons (p : Pu) (q : Pus) : Pus := fun vs ρ => match vs with
  | v :: r => (p v ρ).bind fun ρ1 => q r ρ1
  | _ => none
variable {x : Str} {p : Pu} {q : Pus} {tg : Expr} {tgs : List Expr} {n k : Nat}
theorem vg_name (hi : i ∈ T) (hN : X.N.Nodup) (hx : X.N[i]? = some x := by rfl) (hl : Loc X.env.scope x := by first | exact Or.inl rfl | exact Or.inr rfl)
    (hf : X.fn x = true ∨ X.env.scope.names.lookup x = some .local := by first | exact .inl rfl | exact .inr rfl | assumption) : VG W X T (.Name x pos) (puN i) :=
  PG.imp (pg_name hN hx hl hf) fun w σ H Q ⟨G, ρ, s, v, ρ', r, rp, e, h⟩ => by
    cases e
    exact h _ _ (Ns.put (Ns.refl _ _ _) hi fun _ z => z.elim) (Off.set hi) (Off.set hi) (r.put (.sh (A := fun _ => False) rp) fun _ z => z.elim)
theorem vgs_nil : VGs W X T [] puNil := PGs.imp pgs_nil fun ws σ H Q ⟨G, ρ, s, vs, ρ', r, rp, e, h⟩ => by
  unfold puNil at e
  split at e
  · cases e
    cases rp
    exact ⟨rfl, h G σ (Ns.refl _ _ _) (Off.refl _ _) (Off.refl _ _) r⟩
  · cases e
theorem vgs_cons (h1 : VG W X T tg p) (h2 : VGs W X T tgs q) (hs : (assignEach (tg :: tgs) X.env).map (·.2) = assign tg X.env :: (assignEach tgs X.env).map (·.2) := by rfl) : VGs W X T (tg :: tgs) (puCons p q) :=
  PGs.imp (pgs_cons h1 h2 hs) fun ws σ H Q ⟨G, ρ, s, vs, ρ', r, rp, e, h⟩ => by
    unfold puCons at e
    split at e
    · rename_i v vr
      cases rp with
      | cons r1 r2 =>
        cases q1 : p v ρ with
        | none => rw [q1] at e; cases e
        | some ρ1 =>
          rw [q1] at e
          refine ⟨_, _, rfl, G, ρ, s, v, ρ1, r, r1, q1, fun G1 σ1 x1 o1 o2 rl1 => ?_⟩
          exact ⟨G1, ρ1, s, vr, ρ', rl1, r2.mono x1.sub, e, fun G2 σ2 x2 o3 o4 rl2 => h G2 σ2 (x1.trans x2) (o1.trans o3) (o2.trans o4) rl2⟩
    · cases e
theorem vg_tup (hc : X.calm = true) (h : VGs W X T tgs q) (hq : ∀ vs ρ ρ', q vs ρ = some ρ' → vs.length = n) (hn : (assignEach tgs X.env).length = n := by rfl) (hst : (assignEach tgs X.env).findIdx? (·.1) = none := by rfl) : VG W X T (.Tuple tgs k pos) (puT q) :=
  PG.imp (pg_tup hc h hn hst) fun w σ H Q ⟨G, ρ, s, v, ρ', r, rp, e, h⟩ => by
    unfold puT at e
    split at e
    · obtain ⟨a, ws, rfl, ha, rs⟩ := rp.seqT
      exact ⟨a, ws, rfl, SqT.of (r.sub _ _ ha), by rw [rs.length]; exact hq _ _ _ e, G, ρ, s, _, ρ', r, rs, e, h⟩
    · obtain ⟨a, ws, rfl, ha, rs⟩ := rp.seqW
      exact ⟨a, ws, rfl, r.sub.seqT ha, by rw [rs.length]; exact hq _ _ _ e, G, ρ, s, _, ρ', r, rs, e, h⟩
    · cases e
theorem puNil_len {vs : List Val} {ρ ρ' : En} (h : puNil vs ρ = some ρ') : vs.length = 0 := by
  cases vs with
  | nil => rfl
  | cons _ _ => cases h
theorem puCons_len {m : Nat} (hq : ∀ vs ρ ρ', q vs ρ = some ρ' → vs.length = m) : ∀ vs ρ ρ', puCons p q vs ρ = some ρ' → vs.length = m + 1 := fun vs ρ ρ' h => by
  cases vs with
  | nil => cases h
  | cons v r =>
    have h : (p v ρ).bind (fun ρ1 => q r ρ1) = some ρ' := h
    cases q1 : p v ρ with
    | none => rw [q1] at h; cases h
    | some ρ1 => rw [q1] at h; rw [List.length_cons, hq r ρ1 ρ' h]
/-- a, b = a value -/
def cAsg (p : Pu) (f : Ev W) : Cm W := fun ρ s => (f ρ s).go ρ fun v s1 => match p v ρ with
  | some ρ' => .nx ρ' s1
  | none => .bad
theorem vs_asg (he : VE W X E e f) (hg : VG W X T tg p) (hs : swapsWithSole [tg] e pos.line X.env = pure false := by rfl) (hw : swappedStores [tg] e X.env = pure none := by rfl)
    (h1 : (assignEach [tg] X.env).map (·.2) = [assign tg X.env] := by rfl) : VS W X E T (.Assign [tg] e pos) (cAsg p f) :=
  PS.imp (ps_asg he hg hs hw h1) fun D σ H ⟨G, ρ, s, r, h⟩ => by
    refine tG.mk r (Pst.mono (PstS.go (P := pV X.K H) h) ?_)
    rintro z H1 ⟨G1, s1, v, x1, r1, rv, h1⟩
    split at h1
    · rename_i ρ' e
      exact ⟨G1, ρ, s1, v, ρ', r1, rv, e, fun G' σ' x o1 o2 r' => h1 G' H1 σ' x o1 o2 r'⟩
    · exact h1.elim

/-! ### 3. branches, ends -/
def cIf (t : Sm W Bool) (c d : Cm W) : Cm W := fun ρ s => (t ρ s).go ρ fun b s1 => if b = true then c ρ s1 else d ρ s1
variable {tt : Sm W Bool} {c d : Cm W} {b1 b2 : List Stmt}
theorem vs_if (hc : VT W X E e tt) (h1 : VSs W X E T b1 c) (h2 : VSs W X E T b2 d) : VS W X E T (.If e b1 b2 pos) (cIf tt c d) :=
  PS.imp (ps_if hc h1 h2) fun D σ H ⟨G, ρ, s, r, h⟩ => by
    refine tG.mk (P := pT) r (Pst.mono (PstS.go (P := pT H) h) ?_)
    rintro z H1 ⟨G1, s1, v, x1, r1, rv, h1⟩
    obtain rfl : z = v := rv
    cases z with
    | true => exact ⟨G1, ρ, s1, r1, h1⟩
    | false => exact ⟨G1, ρ, s1, r1, h1⟩
def cRet (f : Ev W) : Cm W := fun ρ s => (f ρ s).go ρ fun v s1 => .rt (.sh v) s1
def cRetF (f : Sm W OT) : Cm W := fun ρ s => (f ρ s).go ρ fun t s1 => .rt t s1
def cRetN : Cm W := fun ρ s => .rt (.sh .non) s
theorem vs_ret (he : VE W X E e f) : VS W X E T (.Return (some e) pos) (cRet f) :=
  PS.imp (ps_ret he) fun D σ H ⟨G, ρ, s, r, h⟩ => by
    refine tG.mk r (Pst.mono (PstS.go (P := pV X.K H) h) ?_)
    rintro z H1 ⟨G1, s1, v, x1, r1, rv, h1⟩
    exact h1 G1 H1 z (Ns.refl _ _ _) r1.toRelW ⟨fun _ => False, .sh rv, fun _ z => z.elim⟩
theorem vs_retF {f : Sm W OT} (he : VF W X E e f) : VS W X E T (.Return (some e) pos) (cRetF f) :=
  PS.imp (ps_ret he) fun D σ H ⟨G, ρ, s, r, h⟩ => by
    refine tG.mk (P := pF X.K) r (Pst.mono (PstS.goAt (P := pF X.K H) h) ?_)
    rintro z H1 ⟨G1, s1, v, x1, r1, ⟨A, ro, hA⟩, h1⟩
    exact h1 G1 H1 z (x1.ns T) r1.toRelW ⟨A, ro, fun a z => ⟨(hA a z).2.1, (hA a z).2.2.1, (hA a z).2.2.2.1, .inr (hA a z).1⟩⟩
theorem vs_retP {f : Sm W OT} (he : VP W X E e f) : VS W X E T (.Return (some e) pos) (cRetF f) :=
  PS.imp (ps_ret he) fun D σ H ⟨G, ρ, s, r, h⟩ => by
    refine tG.mk (P := pP X.K) r (Pst.mono (PstS.go (P := pP X.K H) h) ?_)
    rintro z H1 ⟨G1, s1, v, x1, r1, ⟨A, ro, hA⟩, h1⟩
    refine h1 G1 H1 z (Ns.refl _ _ _) r1.toRelW ⟨A, ro, fun a z => ?_⟩
    obtain ⟨j, hj⟩ := hA a z
    obtain ⟨h2, h3, h4⟩ := r1.own j a hj
    exact ⟨h2, h3, h4, .inl ⟨j, hj⟩⟩
theorem vs_retN : VS W X E T (.Return none pos) cRetN :=
  PS.imp ps_retN fun D σ H ⟨G, ρ, s, r, h⟩ => h G H .non (Ns.refl _ _ _) r.toRelW ⟨fun _ => False, .sh .non, fun _ z => z.elim⟩
end
end VL

/-! VL9: walks, rows of turns, locks. -/
namespace VL
open PySem PySem.Spec PyProof.Rows L2

/-! ### 1. walks -/
/-- it yields xs while what the slots U own stays -/
def Yl (K : PySem.W.Frag) (J : It) (G : Gh) (H : Hp) (U : List Nat) (xs : List Val) : Prop := ∀ (F2 H2 : Hp), Sub G.F F2 → Sub F2 H2 → (∀ a ws, H2 a = some (.tup ws) → F2 a = some (.tup ws)) → (∀ a i, i ∈ U → G.ad i a → H2 a = H a) → ∀ i : Nat,
  (∀ v, xs[i]? = some v → J.go i H2 ∧ ∀ x H3, J.yld i H2 x H3 → (H3 = H2 ∧ Rep K F2 x v) ∨ ∃ p ws vs, H2 p = none ∧ H3 = upd H2 p (.tup ws) ∧ x = .ref p ∧ v = .tup vs ∧ Reps K F2 ws vs) ∧ (xs.length ≤ i → J.stop i H2)
def pI (K : PySem.W.Frag) (U : List Nat) : Hp → RP It (List Val) := fun _ G H J xs => Yl K J G H U xs
def VI (W : Wo) (X : Cx) (E : WX) (U : List Nat) (tg iter : Expr) (f : Sm W (List Val)) : Prop := PI X tg iter fun σ H R => tG W X.K E (pI X.K U) f σ H R
theorem PI.imp {X : Cx} {tg iter : Expr} {t t' : TI} (h : PI X tg iter t) (i : ∀ σ H R, t' σ H R → t σ H R) : PI X tg iter t' := ⟨fun pins s σ H R I z => h.run pins s σ H R I (i σ H R z)⟩
/-- a place, its things owned by the slots U -/
def pPU (K : PySem.W.Frag) (U : List Nat) : Hp → RP V OT := fun _ G H w t => ∃ A, RepO K G.F H A w t ∧ ∀ a, A a → ∃ i, i ∈ U ∧ G.ad i a
def VPU (W : Wo) (X : Cx) (E : WX) (U : List Nat) (e : Expr) (f : Sm W OT) : Prop := PE X e (tG W X.K E (pPU X.K U) f)
section
variable {W : Wo} {X : Cx} {E : WX} {U T : List Nat} {e tg : Expr} {f : Ev W} {p : Sm W OT} {pos : Pos}
theorem vpu_var (i : Nat) {x : Str} {pos : Pos} (hN : X.N[i]? = some x := by rfl) (hv : Vis X.env.scope x := by first | exact Or.inl rfl | exact Or.inr (Or.inl rfl) | exact Or.inr (Or.inr rfl)) (hd : (x == ("__debug__" : Str)) = false := by decide)
    (hcd : (x == ("__classdict__" : Str)) = false := by decide) : VPU W X E [i] (.Name x pos) (pVar i) := by
  refine PE.imp (pe_var (i := i) hN hv hd hcd) fun σ H Q ⟨G, ρ, s, r, h⟩ => ?_
  unfold pVar at h
  cases q : ρ[i]? with
  | none => rw [q] at h; exact h.elim
  | some t =>
    cases t with
    | none => rw [q] at h; exact h.elim
    | some t =>
      rw [q] at h
      obtain ⟨w, h1, h2⟩ := r.slot i _ q
      exact ⟨w, h1, h.done r ⟨_, h2, fun a z => ⟨i, by simp, z⟩⟩⟩
theorem vpu_e (h : VE W X E e f) : VPU W X E [] e (pE f) := PE.imp h fun σ H Q hq => by
  obtain ⟨G, ρ, s, r, hq⟩ := hq
  refine ⟨G, ρ, s, r, Pst.mono (Pst.bind (P := pV X.K H) hq) ?_⟩
  rintro w H1 ⟨G1, s1, v, x1, r1, rp, h'⟩
  exact h'.done r1 ⟨_, .sh (A := fun _ => False) rp, fun _ z => z.elim⟩
/-- the rest behind an expression, by what is known of it -/
theorem tG.bind {α β γ δ : Type} {P : Hp → RP γ α} {P' : Hp → RP δ β} {g : Sm W α} {k : α → W.S → R W.S β} {σ : L2.St} {H : Hp} {Q : δ → Hp → Prop} (h : tG W X.K E P' (fun ρ s => (g ρ s).bind k) σ H Q) :
    tG W X.K E P g σ H fun w H1 => ∃ G ρ s v, Rel W X.K G ρ s σ H1 ∧ P H G H1 w v ∧ Pst W X.K E (P' H) G ρ σ H1 (k v s) Q := by
  obtain ⟨G, ρ, s, r, h⟩ := h
  exact tG.mk r (Pst.mono (Pst.bind (P := P H) h) fun w H1 ⟨G1, s1, v, x1, r1, p, h1⟩ => ⟨G1, ρ, s1, v, r1, p, h1⟩)
def OT.listI : OT → Option (List Val)
  | .sh (.lst xs) => some xs
  | .oL xs => some xs
  | _ => none
def OT.tupI : OT → Option (List Val)
  | .sh (.tup xs) => some xs
  | .sh (.wtup xs) => some xs
  | _ => none
def OT.keysI : OT → Option (List Val)
  | .sh (.dic _ kvs) => some (kvs.map (·.1))
  | .oR _ kvs => some (kvs.map (·.1))
  | _ => none
def OT.itemsI : OT → Option (List Val)
  | .sh (.dic false kvs) => some (kvs.map fun p => .tup [p.1, p.2])
  | .oR false kvs => some (kvs.map fun p => .tup [p.1, p.2])
  | _ => none
def iOf (g : OT → Option (List Val)) (p : Sm W OT) : Sm W (List Val) := fun ρ s => (p ρ s).bind fun t s1 => R.opt (g t) s1
theorem yl_list {K : PySem.W.Frag} {G : Gh} {H : Hp} {a : Addr} {ws : List V} {vs : List Val} (hsub : Sub G.F H) (rs : Reps K G.F ws vs) (hl : G.F a = some (.lst ws) ∨ (∃ i, i ∈ U ∧ G.ad i a) ∧ H a = some (.lst ws)) : Yl K (Itl K a) G H U vs := by
  intro F2 H2 s1 s2 ht hk i
  have hH : SqL K H2 a ws := by
    rcases hl with h | ⟨⟨j, hj, h⟩, h2⟩
    · exact SqL.of (s2 _ _ (s1 _ _ h))
    · exact SqL.of ((hk a j hj h).trans h2)
  refine ⟨fun v e => ?_, fun hi => ⟨ws, hH, by rw [rs.length]; exact hi⟩⟩
  obtain ⟨w, e1, r1⟩ := rs.at' e
  refine ⟨⟨ws, w, hH, e1⟩, fun x H3 y => .inl ?_⟩
  obtain ⟨e3, y⟩ := y
  have y := y ws hH
  rw [e1] at y; cases y
  exact ⟨e3, r1.mono s1⟩
theorem vi_list (h : VPU W X E U e p) : VI W X E U tg e (iOf OT.listI p) := PI.imp (pi_list h) fun σ H R hq => by
  refine (tG.bind (P := pPU X.K U) hq).mono ?_
  rintro w H1 ⟨G, ρ, s, t, r, ⟨A, ro, hA⟩, h'⟩
  obtain ⟨xs, e, h'⟩ := Pst.opt h'
  unfold OT.listI at e
  split at e
  · cases e
    cases ro with
    | sh rp =>
      obtain ⟨a, ws, rfl, ha, rs⟩ := rp.seqL
      exact ⟨a, rfl, ⟨ws, SqL.of (r.sub _ _ ha)⟩, h'.done r (yl_list r.sub rs (.inl ha))⟩
  · cases e
    cases ro with
    | oL ha z rs =>
      rename_i a ws
      exact ⟨a, rfl, ⟨ws, SqL.of ha⟩, h'.done r (yl_list r.sub rs (.inr ⟨hA a z, ha⟩))⟩
  · cases e
theorem vi_tup (h : VPU W X E U e p) : VI W X E U tg e (iOf OT.tupI p) := PI.imp (pi_tup h) fun σ H R hq => by
  refine (tG.bind (P := pPU X.K U) hq).mono ?_
  rintro w H1 ⟨G, ρ, s, t, r, ⟨A, ro, hA⟩, h'⟩
  obtain ⟨xs, e, h'⟩ := Pst.opt h'
  have go : ∀ (a : Addr) (ws : List V), SqT X.K G.F a ws → Reps X.K G.F ws xs → (∃ a', (V.ref a) = .ref a' ∧ (∃ xs, SqT X.K H1 a' xs) ∧ R (Itt X.K a') H1) := fun a ws ha rs => by
    refine ⟨a, rfl, ⟨ws, r.sub.seqT ha⟩, h'.done r fun F2 H2 s1 s2 ht hk i => ?_⟩
    have hH : SqT X.K H2 a ws := s2.seqT (s1.seqT ha)
    refine ⟨fun v e => ?_, fun hi => ⟨ws, hH, by rw [rs.length]; exact hi⟩⟩
    obtain ⟨w, e1, r1⟩ := rs.at' e
    refine ⟨⟨ws, w, hH, e1⟩, fun x H3 y => .inl ?_⟩
    obtain ⟨e3, y⟩ := y
    have y := y ws hH
    rw [e1] at y; cases y
    exact ⟨e3, r1.mono s1⟩
  unfold OT.tupI at e
  split at e
  · cases e
    cases ro with
    | sh rp =>
      obtain ⟨a, ws, rfl, ha, rs⟩ := rp.seqT
      exact go a ws (SqT.of ha) rs
  · cases e
    cases ro with
    | sh rp =>
      obtain ⟨a, ws, rfl, ha, rs⟩ := rp.seqW
      exact go a ws ha rs
  · cases e
theorem RepP.key {K : PySem.W.Frag} {F : Hp} {κ : Type} {e : κ → Val} {i : Nat} {v : Val} : ∀ {l : List (κ × V)} {kvs : List (Val × Val)}, RepP K F (l.map fun p => (e p.1, p.2)) kvs → (kvs.map (·.1))[i]? = some v → ∃ k w, l[i]? = some (k, w) ∧ v = e k := by
  intro l kvs h q
  rw [← h.keys, List.map_map, List.getElem?_map] at q
  cases z : l[i]? with
  | none => rw [z] at q; cases q
  | some p => rw [z] at q; cases q; exact ⟨p.1, p.2, rfl, rfl⟩
theorem Reps.keys {K : PySem.W.Frag} {F : Hp} : ∀ ks : List Key, Reps K F (ks.map kV) (ks.map kVal)
  | [] => .nil
  | .inl i :: r => .cons (.int i) (Reps.keys r)
  | .inr x :: r => .cons (.str x) (Reps.keys r)
theorem yl_dK {K : PySem.W.Frag} {G : Gh} {H : Hp} {a : Addr} {o : Obj} {l : List (Key × V)} {kvs : List (Val × Val)} (rs : RepP K G.F (l.map kK) kvs) (hl : G.F a = some (.frz o (.dK l)) ∨ (∃ i, i ∈ U ∧ G.ad i a) ∧ H a = some (.frz o (.dK l))) : Yl K (Itk a o l) G H U (kvs.map (·.1)) := by
  intro F2 H2 s1 s2 ht hk i
  have hH : H2 a = some (.frz o (.dK l)) := by
    rcases hl with h | ⟨⟨j, hj, h⟩, h2⟩
    · exact s2 _ _ (s1 _ _ h)
    · exact (hk a j hj h).trans h2
  have hlen : l.length = kvs.length := by have := rs.length; rw [List.length_map] at this; exact this
  refine ⟨fun v e => ?_, fun hi => ⟨hH, by rw [List.length_map] at hi; omega⟩⟩
  obtain ⟨k, w, e1, rfl⟩ := RepP.key (e := kVal) rs e
  refine ⟨⟨hH, (List.getElem?_eq_some_iff.mp e1).1⟩, fun x H3 y => .inl ?_⟩
  obtain ⟨e3, k', v', e4, rfl⟩ := y
  rw [e1] at e4; cases e4
  refine ⟨e3, ?_⟩
  cases k with
  | inl i => exact .int i
  | inr z => exact .str z
theorem yl_dT {K : PySem.W.Frag} {G : Gh} {H : Hp} {a : Addr} {o : Obj} {l : List (List Key × V)} {kvs : List (Val × Val)} (rs : RepP K G.F (l.map kT) kvs) (hl : G.F a = some (.frz o (.dT l)) ∨ (∃ i, i ∈ U ∧ G.ad i a) ∧ H a = some (.frz o (.dT l))) : Yl K (Itkt a o l) G H U (kvs.map (·.1)) := by
  intro F2 H2 s1 s2 ht hk i
  have hH : H2 a = some (.frz o (.dT l)) := by
    rcases hl with h | ⟨⟨j, hj, h⟩, h2⟩
    · exact s2 _ _ (s1 _ _ h)
    · exact (hk a j hj h).trans h2
  have hlen : l.length = kvs.length := by have := rs.length; rw [List.length_map] at this; exact this
  refine ⟨fun v e => ?_, fun hi => ⟨hH, by rw [List.length_map] at hi; omega⟩⟩
  obtain ⟨k, w, e1, rfl⟩ := RepP.key (κ := List Key) (e := fun ks => Val.tup (ks.map kVal)) rs e
  refine ⟨⟨hH, (List.getElem?_eq_some_iff.mp e1).1⟩, fun x H3 y => .inl ?_⟩
  obtain ⟨e3, k', v', q, e4, rfl, e5⟩ := y
  rw [e1] at e4; cases e4
  exact ⟨e3, .tup (ht q _ e5) (Reps.keys k)⟩
theorem vi_keys (h : VPU W X E U e p) : VI W X E U tg e (iOf OT.keysI p) := PI.imp (pi_keys h) fun σ H R hq => by
  refine (tG.bind (P := pPU X.K U) hq).mono ?_
  rintro w H1 ⟨G, ρ, s, t, r, ⟨A, ro, hA⟩, h'⟩
  obtain ⟨xs, e, h'⟩ := Pst.opt h'
  unfold OT.keysI at e
  split at e
  · cases e
    cases ro with
    | sh rp =>
      cases rp with
      | dK hr rs =>
        rename_i a l
        rcases hr with hr | ⟨o, hr⟩
        · exact absurd hr ((r.lk a).1 l)
        · exact ⟨a, o, rfl, .inl ⟨l, r.sub _ _ hr, h'.done r (yl_dK rs (.inl hr))⟩⟩
      | dT hr rs =>
        rename_i a l
        rcases hr with hr | ⟨o, hr⟩
        · exact absurd hr ((r.lk a).2 l)
        · exact ⟨a, o, rfl, .inr ⟨l, r.sub _ _ hr, h'.done r (yl_dT rs (.inl hr))⟩⟩
  · cases e
    cases ro with
    | oRK hr z rs => exact ⟨_, _, rfl, .inl ⟨_, hr, h'.done r (yl_dK rs (.inr ⟨hA _ z, hr⟩))⟩⟩
    | oRT hr z rs => exact ⟨_, _, rfl, .inr ⟨_, hr, h'.done r (yl_dT rs (.inr ⟨hA _ z, hr⟩))⟩⟩
  · cases e
/-! ranges -/
def small62 (i : Int) : Bool := decide (-(2 ^ 62) ≤ i) && decide (i < 2 ^ 62)
def rngI (lo : Int) (n : Nat) : List Val := (List.range n).map fun i => Val.int (lo + (i : Nat))
def iR1 (f : Ev W) : Sm W (List Val) := fun ρ s => (f ρ s).bind fun v s1 => match v with
  | .int j => if small62 j = true then .ok (rngI 0 j.toNat) s1 else .bad
  | _ => .bad
def iR2 (f g : Ev W) : Sm W (List Val) := fun ρ s => (f ρ s).bind fun v s1 => (g ρ s1).bind fun u s2 => match v, u with
  | .int i, .int j => if (small62 i && small62 j) = true then .ok (rngI i (j - i).toNat) s2 else .bad
  | _, _ => .bad
theorem yl_rng {K : PySem.W.Frag} {G : Gh} {H : Hp} {lo : Int} {n : Nat} : Yl K (Itr lo n) G H U (rngI lo n) := by
  intro F2 H2 s1 s2 ht hk i
  unfold rngI
  refine ⟨fun v e => ?_, fun hi => ?_⟩
  · rw [List.getElem?_map] at e
    cases q : (List.range n)[i]? with
    | none => rw [q] at e; cases e
    | some k =>
      rw [q] at e; cases e
      obtain ⟨h1, h2⟩ := List.getElem?_eq_some_iff.mp q
      rw [List.getElem_range] at h2
      subst h2
      rw [List.length_range] at h1
      refine ⟨h1, fun x H3 y => .inl ?_⟩
      obtain ⟨e3, rfl⟩ := y
      exact ⟨e3, .int _⟩
  · rw [List.length_map, List.length_range] at hi; exact hi
theorem small62_of {j : Int} (h : small62 j = true) : -(2 ^ 62) ≤ j ∧ j < 2 ^ 62 := by
  unfold small62 at h
  rw [Bool.and_eq_true] at h
  exact ⟨of_decide_eq_true h.1, of_decide_eq_true h.2⟩
variable {a b : Expr} {g : Ev W} {p1 : Pos}
theorem vi_r1 (hg : Gl X "range") (hm : X.mg "range" = none) (ha : VE W X E a f) (h1 : starEach [a] X.env = (false, eval a X.env) :: starEach [] X.env := by rfl) (hs : starEach [a] X.env = [(false, eval a X.env)] := by rfl) : VI W X E U tg (.Call (.Name "range" p1) [a] [] pos) (iR1 f) :=
  PI.imp (pi_range1 hg hm (pa_cons ha pa_nil h1) hs) fun σ H R hq => by
    refine (tG.bind (P := pV X.K) hq).mono ?_
    rintro w H1 ⟨G, ρ, s, v, r, rp, h'⟩
    have rp : Rep X.K G.F w v := rp
    split at h'
    · split at h'
      · cases rp.int_inv
        obtain ⟨q1, q2⟩ := small62_of (by assumption)
        exact ⟨_, rfl, q1, q2, h'.done r yl_rng⟩
      · exact h'.elim
    · exact h'.elim
theorem vi_r2 (hg : Gl X "range") (hm : X.mg "range" = none) (ha : VE W X E a f) (hb : VE W X E b g) (h1 : starEach [a, b] X.env = (false, eval a X.env) :: starEach [b] X.env := by rfl) (h2 : starEach [b] X.env = (false, eval b X.env) :: starEach [] X.env := by rfl)
    (hs : starEach [a, b] X.env = [(false, eval a X.env), (false, eval b X.env)] := by rfl) (hs2 : starEach [b] X.env = [(false, eval b X.env)] := by rfl) : VI W X E U tg (.Call (.Name "range" p1) [a, b] [] pos) (iR2 f g) :=
  PI.imp (pi_range2 hg hm (pa_cons ha (pa_cons hb pa_nil h2) h1) hs hs2) fun σ H R hq => by
    have h' := seq2 (P := pV X.K) (P' := pV X.K) (P2 := pI X.K U) (f := f) (f2 := g) (g := fun v u _ s2 => match v, u with
      | .int i, .int j => if (small62 i && small62 j) = true then .ok (rngI i (j - i).toNat) s2 else .bad
      | _, _ => .bad) (fun _ z => z) pV.keeps hq
    refine h'.mono fun w H1 k1 => k1.mono ?_
    clear h' hq
    rintro u H2 ⟨G, ρ, s, v, v2, r, rp, rp2, h'⟩
    have rp : Rep X.K G.F w v := rp
    have rp2 : Rep X.K G.F u v2 := rp2
    split at h'
    · split at h'
      · rename_i hz
        rw [Bool.and_eq_true] at hz
        cases rp.int_inv
        cases rp2.int_inv
        obtain ⟨q1, q2⟩ := small62_of hz.1
        obtain ⟨q3, q4⟩ := small62_of hz.2
        exact ⟨_, _, rfl, ⟨q1, q2, q3, q4⟩, h'.done r yl_rng⟩
      · exact h'.elim
    · exact h'.elim

/-! ### 2. rows of turns -/
def forS (p : Pu) (b : Cm W) : List Val → Cm W
  | [], ρ, s => .nx ρ s
  | x :: xs, ρ, s => match p x ρ with
    | none => .bad
    | some ρ1 => match b ρ1 s with
      | .nx ρ2 s2 => forS p b xs ρ2 s2
      | .ct ρ2 s2 => forS p b xs ρ2 s2
      | .bk ρ2 s2 => .nx ρ2 s2
      | .rt t s2 => .rt t s2
      | .exc c n ρ2 s2 => .exc c n ρ2 s2
      | .bad => .bad
def cFor (f : Sm W (List Val)) (p : Pu) (b : Cm W) : Cm W := fun ρ s => (f ρ s).go ρ fun xs s1 => forS p b xs ρ s1
variable {it : Sm W (List Val)} {pu : Pu} {bd : Cm W} {body : List Stmt} {iter : Expr}
theorem vs_for (hp : PassesOwn (model X.prog X.w) X.A X.env X.xe) (hc : X.calm = true) (hi : VI W X E U tg iter it) (hg : VG W X T tg pu) (hb : VSs W X E T body bd) (hU : ∀ i ∈ U, i ∉ T)
    (hs : ∀ x, foldedSetIterable iter X.env x = pure x := by intro _; rfl) : VS W X E T (.For tg iter body [] pos) (cFor it pu bd) :=
  PS.imp (ps_for hp hc hi hg hb hs) fun D σ H ⟨G0, ρ0, s0, r0, h0⟩ => by
    refine tG.mk (f := it) (P := pI X.K U) r0 (Pst.mono (PstS.go (P := pI X.K U H) h0) ?_)
    rintro J H1 ⟨G1, s1, xs, x1, r1, yl, h1⟩
    refine ⟨fun i m σ' H' => m = xs.length - i ∧ i ≤ xs.length ∧ ∃ G' ρ' s', Rel W X.K G' ρ' s' σ' H' ∧ Ns T G1 G' H1 H' ∧ PstS W X.K E T G' ρ' σ' H' (forS pu bd (xs.drop i) ρ' s') D,
      ⟨xs.length, by simp, Nat.zero_le _, G1, ρ0, s1, r1, Ns.refl _ _ _, by rw [List.drop_zero]; exact h1⟩, ?_⟩
    rintro i m σ' H' ⟨rfl, hile, G', ρ', s', r', x', h'⟩
    have pins : ∀ a i, i ∈ U → G1.ad i a → H' a = H1 a := fun a i hi z => by
      obtain ⟨q1, ⟨o, q2, _⟩, q3⟩ := r1.own i a z
      rw [q2]
      exact x'.keep a o q2 q3 fun j hj y => r1.dis i j a (fun e => hU i hi (by rw [e]; exact hj)) z y
    have Y := yl G'.F H' x'.sub r'.sub r'.tups pins i
    by_cases hlt : i < xs.length
    · refine .inr ?_
      have ex : xs[i]? = some xs[i] := by simp [hlt]
      obtain ⟨hgo, hy⟩ := Y.1 _ ex
      rw [List.drop_eq_getElem_cons hlt] at h'
      have h'' : PstS W X.K E T G' ρ' σ' H' (match pu xs[i] ρ' with
        | none => .bad
        | some ρ1 => match bd ρ1 s' with
          | .nx ρ2 s2 => forS pu bd (xs.drop (i + 1)) ρ2 s2
          | .ct ρ2 s2 => forS pu bd (xs.drop (i + 1)) ρ2 s2
          | .bk ρ2 s2 => .nx ρ2 s2
          | .rt t s2 => .rt t s2
          | .exc c n ρ2 s2 => .exc c n ρ2 s2
          | .bad => .bad) D := h'
      clear h'
      refine ⟨hgo, fun σ2 H2 => ∃ m', m' < xs.length - i ∧ (m' = xs.length - (i + 1) ∧ i + 1 ≤ xs.length ∧ ∃ G2 ρ2 s2, Rel W X.K G2 ρ2 s2 σ2 H2 ∧ Ns T G1 G2 H1 H2 ∧ PstS W X.K E T G2 ρ2 σ2 H2 (forS pu bd (xs.drop (i + 1)) ρ2 s2) D), fun σ2 H2 z => z, fun x H3 y => ?_⟩
      -- the item in the heap H3
      obtain ⟨G3, x3, r3, rp3⟩ : ∃ G3, Nx G' G3 H' H3 ∧ Rel W X.K G3 ρ' s' σ' H3 ∧ Rep X.K G3.F x xs[i] := by
        rcases hy x H3 y with ⟨rfl, rp⟩ | ⟨q, ws, vs, hq, rfl, rfl, ev, rs⟩
        · exact ⟨G', Nx.refl _ _, r', rp⟩
        · obtain ⟨z1, z2⟩ := pV.new (o := .tup ws) r' hq (nd_tup ws)
          exact ⟨_, z1, z2, by rw [ev]; exact .tup upd_same (rs.mono (Sub.upd (r'.toRelW.free hq)))⟩
      cases ep : pu xs[i] ρ' with
      | none => rw [ep] at h''; exact h''.elim
      | some ρ1 =>
        rw [ep] at h''
        refine ⟨G3, ρ', s', xs[i], ρ1, r3, rp3, ep, fun G4 σ4 x4 o4 o4' r4 => ⟨G4, ρ1, s', r4, ?_⟩⟩
        have x14 : Ns T G1 G4 H1 H3 := x'.trans ((x3.ns T).trans x4)
        have x04 : Ns T G' G4 H' H3 := (x3.ns T).trans x4
        dsimp only at h''
        cases eb : bd ρ1 s' with
        | bad => rw [eb] at h''; exact h''.elim
        | nx ρ2 s2 =>
          rw [eb] at h''
          exact fun G5 H5 σ5 x5 o5 o5' r5 => ⟨_, by omega, rfl, hlt, G5, ρ2, s2, r5, x14.trans x5, PstS.from (x04.trans x5) (o4.trans o5) (o4'.trans o5') h''⟩
        | ct ρ2 s2 =>
          rw [eb] at h''
          exact fun G5 H5 σ5 x5 o5 o5' r5 => ⟨_, by omega, rfl, hlt, G5, ρ2, s2, r5, x14.trans x5, PstS.from (x04.trans x5) (o4.trans o5) (o4'.trans o5') h''⟩
        | bk ρ2 s2 =>
          rw [eb] at h''
          exact fun G5 H5 σ5 x5 o5 o5' r5 => h'' G5 H5 σ5 (x04.trans x5) (o4.trans o5) (o4'.trans o5') r5
        | rt t s2 =>
          rw [eb] at h''
          exact fun G5 H5 w5 x5 r5 p5 => h'' G5 H5 w5 (x04.trans x5) r5 (p5.from x04)
        | exc c n ρ2 s2 =>
          rw [eb] at h''
          exact fun G5 H5 σ5 d5 x5 o5 o5' r5 e50 e5 => h'' G5 H5 σ5 d5 (x04.trans x5) (o4.trans o5) (o4'.trans o5') r5 (x04.there d5 e50) e5
    · have e : i = xs.length := by omega
      subst e
      refine .inl ⟨Y.2 (Nat.le_refl _), ?_⟩
      rw [List.drop_length] at h'
      exact h'.nx' r'
/-- while: at most n turns -/
def whileS (t : Sm W Bool) (b : Cm W) : Nat → Cm W
  | 0, _, _ => .bad
  | n + 1, ρ, s => (t ρ s).go ρ fun c s1 => if c = true then match b ρ s1 with
      | .nx ρ2 s2 => whileS t b n ρ2 s2
      | .ct ρ2 s2 => whileS t b n ρ2 s2
      | .bk ρ2 s2 => .nx ρ2 s2
      | .rt t s2 => .rt t s2
      | .exc c n ρ2 s2 => .exc c n ρ2 s2
      | .bad => .bad
    else .nx ρ s1
def cWhile (m : En → Nat) (t : Sm W Bool) (b : Cm W) : Cm W := fun ρ s => whileS t b (m ρ) ρ s
variable {tt : Sm W Bool} {c : Expr}
theorem vs_while {m : En → Nat} (hp : PassesOwn (model X.prog X.w) X.A X.env X.xe) (hc : VT W X E c tt) (hb : VSs W X E T body bd) : VS W X E T (.While c body [] pos) (cWhile m tt bd) :=
  PS.imp (ps_while hp hc hb) fun D σ H ⟨G0, ρ0, s0, r0, h0⟩ => by
    refine ⟨fun n σ' H' => ∃ G' ρ' s', Rel W X.K G' ρ' s' σ' H' ∧ PstS W X.K E T G' ρ' σ' H' (whileS tt bd n ρ' s') D, ⟨_, G0, ρ0, s0, r0, h0⟩, ?_⟩
    rintro n σ' H' ⟨G', ρ', s', r', h'⟩
    cases n with
    | zero => exact h'.elim
    | succ n =>
      refine tG.mk (P := pT) r' (Pst.mono (PstS.go (P := pT H') h') ?_)
      rintro b H1 ⟨G1, s1, v, x1, r1, rv, h1⟩
      obtain rfl : b = v := rv
      cases b with
      | false => exact PstS.nx' r1 h1
      | true =>
        rw [if_pos rfl] at h1 ⊢
        refine ⟨fun σ2 H2 => ∃ m', m' < n + 1 ∧ ∃ G2 ρ2 s2, Rel W X.K G2 ρ2 s2 σ2 H2 ∧ PstS W X.K E T G2 ρ2 σ2 H2 (whileS tt bd m' ρ2 s2) D, fun σ2 H2 z => z, G1, ρ', s1, r1, ?_⟩
        cases eb : bd ρ' s1 with
        | bad => rw [eb] at h1; exact h1.elim
        | nx ρ2 s2 =>
          rw [eb] at h1
          exact fun G5 H5 σ5 x5 o5 o5' r5 => ⟨n, by omega, G5, ρ2, s2, r5, PstS.from x5 o5 o5' h1⟩
        | ct ρ2 s2 =>
          rw [eb] at h1
          exact fun G5 H5 σ5 x5 o5 o5' r5 => ⟨n, by omega, G5, ρ2, s2, r5, PstS.from x5 o5 o5' h1⟩
        | bk ρ2 s2 =>
          rw [eb] at h1
          exact h1
        | rt t s2 =>
          rw [eb] at h1
          exact h1
        | exc c n ρ2 s2 =>
          rw [eb] at h1
          exact h1
end
end VL

/-! VL10: defs and calls; a dict walked while it is one's own. -/
namespace VL
open PySem PySem.Spec PyProof.Rows L2

/-! ### 1. what a def promises -/
/-- behind a call -/
structure Nc (G G' : Gh) (H H' : Hp) : Prop where
  sub : Sub G.F G'.F
  keep : ∀ a o, H a = some o → ¬ G.fp a → H' a = some o
  there : ∀ a, H' a = none → H a = none
  fp : ∀ a, G'.fp a → G.fp a ∨ H a = none
  fz : ∀ a o, G'.F a = some o → G.F a = some o ∨ H a = none ∨ G.fp a ∨ ∃ ws, o = .tup ws
def pN (K : PySem.W.Frag) (H : Hp) (G' : Gh) (H' : Hp) (w : V) (t : OT) : Prop :=
  ∃ A, RepO K G'.F H' A w t ∧ ∀ a, A a → H a = none ∧ G'.F a = none ∧ (∃ o, H' a = some o ∧ ∀ ws, o ≠ .tup ws) ∧ ¬ G'.fp a
abbrev Fv (W : Wo) := List Val → W.S → R W.S OT
def PstC (W : Wo) (K : PySem.W.Frag) (G : Gh) (H : Hp) (r : R W.S OT) (Q : VK) (E : XK) : Prop := match r with
  | .ok t s' => ∀ G' H' w, Nc G G' H H' → RelW W G' s' H' → pN K H G' H' w t → Q w H'
  | .exc c n s' => ∀ G' H' d, Nc G G' H H' → RelW W G' s' H' → H d = none → H' d = some (.xd (atF n)) → E (.ref c) (some d) H'
  | .bad => False
/-- f of n arguments -/
def VSp (W : Wo) (K : PySem.W.Frag) (n : Nat) (f : Fv W) : Sp := fun vs H Q E => ∃ G s xs, RelW W G s H ∧ Reps K G.F vs xs ∧ xs.length = n ∧ PstC W K G H (f xs s) Q E
/-- the slots at a def's entry -/
def enter (n : Nat) (xs : List Val) : En := xs.map (fun v => some (.sh v)) ++ List.replicate (n - xs.length) none
def Out.fin {S : Type} (o : Out S) : R S OT := match o with
  | .nx _ s => .ok (.sh .non) s
  | .rt t s => .ok t s
  | .exc c n _ s => .exc c n s
  | _ => .bad
def cDef {W : Wo} (n : Nat) (c : Cm W) : Fv W := fun xs s => (c (enter n xs) s).fin
theorem enter_len {n : Nat} {xs : List Val} (h : xs.length ≤ n) : (enter n xs).length = n := by
  unfold enter
  rw [List.length_append, List.length_map, List.length_replicate]
  omega
theorem start_at {N : List Str} {vs : List V} {i : Nat} {w : V} (h : vs[i]? = some w) : (L2.start N vs)[i]? = some (some w) := by
  have hl := (List.getElem?_eq_some_iff.mp h).1
  unfold L2.start
  rw [List.getElem?_append_left (by rw [List.length_map]; exact hl), List.getElem?_map, h]
  rfl
theorem enter_at {n : Nat} {xs : List Val} {i : Nat} {t : OT} (h : (enter n xs)[i]? = some (some t)) : ∃ v, xs[i]? = some v ∧ t = .sh v := by
  unfold enter at h
  by_cases hl : i < xs.length
  · rw [List.getElem?_append_left (by rw [List.length_map]; exact hl), List.getElem?_map] at h
    cases q : xs[i]? with
    | none => rw [q] at h; cases h
    | some v => rw [q] at h; cases h; exact ⟨v, rfl, rfl⟩
  · rw [List.getElem?_append_right (by rw [List.length_map]; omega)] at h
    rw [List.getElem?_replicate] at h
    split at h
    · cases h
    · cases h
section
variable {W : Wo} {K : PySem.W.Frag}
/-- nothing is one's own at the entry -/
def Gh.bare (G : Gh) : Gh := { G with ad := fun _ _ => False }
theorem Rel.start {G : Gh} {s : W.S} {H : Hp} {N : List Str} {vs : List V} {xs : List Val} (r : RelW W G s H) (rs : Reps K G.F vs xs) (hn : xs.length ≤ N.length) : Rel W K G.bare (enter N.length xs) s (L2.start N vs) H where
  sub := r.sub
  tups := r.tups
  lk := r.lk
  wrl := r.wrl
  len := by
    rw [enter_len hn]
    unfold L2.start
    rw [List.length_append, List.length_map, List.length_replicate, rs.length]
    omega
  slot := fun i t e => by
    obtain ⟨v, h1, rfl⟩ := enter_at e
    obtain ⟨w, h2, h3⟩ := rs.at' h1
    exact ⟨w, start_at h2, .sh h3⟩
  own := fun _ _ z => z.elim
  dis := fun _ _ _ _ z => z.elim
theorem Ns.nc {T : List Nat} {G G' : Gh} {H H' : Hp} (x : Ns T G.bare G' H H') : Nc G G' H H' where
  sub := x.sub
  keep := fun a o e n => x.keep a o e n fun _ _ z => z
  there := x.there
  fp := x.fp
  fz := fun a o e => by
    rcases x.fz a o e with q | q | q | ⟨_, _, q⟩ | q
    · exact .inl q
    · exact .inr (.inl q)
    · exact .inr (.inr (.inl q))
    · exact q.elim
    · exact .inr (.inr (.inr q))
/-- a def's body keeps its promise -/
theorem def_run {E : WX} {T : List Nat} {G : Gh} {s : W.S} {H : Hp} {N : List Str} {vs : List V} {xs : List Val} {c : Cm W} {Q : VK} {EX : XK} (r : RelW W G s H) (rs : Reps K G.F vs xs) (hn : xs.length ≤ N.length)
    (h : PstC W K G H (cDef N.length c xs s) Q EX) (hE : ∀ cls d σ H', EX cls d H' → E cls d σ H') : tS W K E T c { nx := fun _ H' => Q .non H', rt := Q } (L2.start N vs) H := by
  refine ⟨G.bare, _, s, Rel.start r rs hn, ?_⟩
  unfold cDef at h
  cases q : c (enter N.length xs) s with
  | nx ρ s' =>
    rw [q] at h
    exact fun G' H' σ' x _ _ r' => h G' H' .non x.nc r'.toRelW ⟨fun _ => False, .sh .non, fun _ z => z.elim⟩
  | rt t s' =>
    rw [q] at h
    refine fun G' H' w x r' ⟨A, ro, hA⟩ => h G' H' w x.nc r' ⟨A, ro, fun a z => ?_⟩
    obtain ⟨h1, h2, h3, h4⟩ := hA a z
    refine ⟨?_, h1, h2, h3⟩
    rcases h4 with ⟨_, q⟩ | q
    · exact q.elim
    · exact q
  | exc cc n ρ s' =>
    rw [q] at h
    exact fun G' H' σ' d x _ _ r' e0 e => hE _ _ _ _ (h G' H' d x.nc r'.toRelW e0 e)
  | bk ρ s' => rw [q] at h; exact h.elim
  | ct ρ s' => rw [q] at h; exact h.elim
  | bad => rw [q] at h; exact h.elim

/-! ### 2. calls -/
variable {X : Cx} {E : WX}
/-- an exception of a callee is what this body wants of exceptions -/
def Pass (CX : CXT) (X : Cx) (E : WX) : Prop := ∀ (pins : List (Addr × Obj)) (σ : L2.St) (H : Hp) (s : Shared) (e : Value) (s' : Shared), Inv X pins σ H s → CX X.stack H s (fun cls d H' => E cls d σ H') e s' → X.xe e s'
theorem pass_0 : Pass CX0 X E := fun _ _ _ _ _ _ _ h => h.elim
theorem pass_N (tk : L2N.Takes X E) : Pass (L2N.CX X.prog X.w) X E := fun _ _ _ _ e s' I c => tk e s' (L2N.XE.of_call I (fun _ _ _ h => h) c)
theorem pass_L (tk : Takes X E) : Pass (L2.CX X.prog X.w) X E := fun _ _ _ _ e s' I c => tk e s' (XE.of_call I (fun _ _ _ h => h) c)
variable {CX : CXT} {k n : Nat} {f : Addr} {fd : FuncData} {ps : List Str} {sp : Sp} {x : Str} {p pos : Pos} {e : Expr} {es : List Expr} {F : Fv W} {fs : Sm W (List Val)}
theorem run_fnV {pins : List (Addr × Obj)} {σ : L2.St} {H : Hp} {s : Shared} {Q : VK} {us : List Value} {vs : List V} (F : FnOk X.prog X.w X.K X.mg X.base CX k f fd ps sp) (hr : Room k X.A) (hb : Binds X.K fd ps []) (hx : Pass CX X E)
    (I : Inv X pins σ H s) (r : Vals vs us) (h : sp vs H Q (fun cls d H' => E cls d σ H')) : wpAny (model X.prog X.w) X.A (call (.ref f) us) (EP X pins σ Q) X.xe s := by
  have hl : (us ++ []).length = ps.length := by rw [List.append_nil, ← r.length]; exact F.len _ _ _ _ h
  refine wpAny_call (codeAny_mono (F.run X.A X.stack s H ⟨us, []⟩ us vs Q (fun cls d H' => E cls d σ H') hr I.env0 (by have := hb s us I.kIn hl; rw [List.append_nil] at this; exact this) r h) fun r s' hq => ?_)
  cases r with
  | error e => exact hx pins σ H s e s' I hq
  | ok fl =>
    cases fl with
    | ret u => exact I.after hq
    | next => exact False.elim hq
    | brk => exact False.elim hq
    | cont => exact False.elim hq
def tCallV (sp : Sp) (E : WX) (t : TA) : TE := fun σ H Q => t σ H fun vs H1 => sp vs H1 Q (fun cls d H' => E cls d σ H')
theorem pe_callVL {t : TA} (F : FnOk X.prog X.w X.K X.mg X.base CX k f fd ps sp) (hr : Room k X.A) (hg : Gl X x) (hm : X.mg x = some (.ref f)) (hk : PySem.W.keepIn X.K (.ref f) = true) (hb : Binds X.K fd ps []) (hx : Pass CX X E)
    (ha : PA X (e :: es) t) (hdb : (x == ("__debug__" : Str)) = false := by decide) (he : starEach (e :: es) X.env = (false, eval e X.env) :: starEach es X.env := by rfl) (hpl : (backTo pos (starEach es X.env)).any (·.1) = false := by rfl) :
    PE X (.Call (.Name x p) (e :: es) [] pos) (tCallV sp E t) := by
  refine ⟨fun pins s σ H Q I h => ?_⟩
  refine wpAny_Call_Name_kw (ld_glob I hg hm ?_ hdb)
  refine PySem.W.callWith_K (h₀ := X.base) I.ok.mod.kin hk (thn (ha.run pos pins s σ H _ I h) fun us s1 ⟨vs, H1, I1, r, q⟩ => ⟨I1.kIn, ?_⟩) he hpl
  exact run_fnV F hr hb hx I1 r q
theorem pe_callVL0 (F : FnOk X.prog X.w X.K X.mg X.base CX k f fd ps sp) (hr : Room k X.A) (hg : Gl X x) (hm : X.mg x = some (.ref f)) (hk : PySem.W.keepIn X.K (.ref f) = true) (hb : Binds X.K fd ps []) (hx : Pass CX X E)
    (hdb : (x == ("__debug__" : Str)) = false := by decide) : PE X (.Call (.Name x p) [] [] pos) (tCallV sp E tNil) := by
  refine ⟨fun pins s σ H Q I h => ?_⟩
  refine wpAny_Call_Name_kw (ld_glob I hg hm ?_ hdb)
  exact PySem.W.callWith_K0 I.kIn hk (run_fnV (us := []) F hr hb hx I .nil h)
def fCall (n : Nat) (F : Fv W) (fs : Sm W (List Val)) : Sm W OT := fun ρ s => (fs ρ s).bind fun xs s1 => if xs.length = n then F xs s1 else .bad
theorem Nc.nx {G G' : Gh} {H H' : Hp} (x : Nc G G' H H') : Nx G { G' with ad := G.ad } H H' := ⟨x.sub, x.keep, x.there, rfl, x.fp, x.fz⟩
theorem call_run {G : Gh} {ρ : En} {s : W.S} {σ : L2.St} {H H0 : Hp} {Q : VK} {vs : List V} {xs : List Val} (h0 : ∀ a, H a = none → H0 a = none) (r : Rel W K G ρ s σ H) (rs : Reps K G.F vs xs) (h : Pst W K E (pF K H0) G ρ σ H (if xs.length = n then F xs s else .bad) Q) : VSp W K n F vs H Q (fun cls d H' => E cls d σ H') := by
  split at h
  · rename_i hl
    refine ⟨G, s, xs, r.toRelW, rs, hl, ?_⟩
    cases q : F xs s with
    | bad => rw [q] at h; exact h.elim
    | ok t s' =>
      rw [q] at h
      rintro G' H' w x rw' ⟨A, ro, hA⟩
      have rw2 : RelW W { G' with ad := G.ad } s' H' := ⟨rw'.sub, rw'.tups, rw'.lk, rw'.wrl⟩
      refine h { G' with ad := G.ad } H' w x.nx (r.next x.nx rw2) ⟨A, ro, fun a z => ?_⟩
      obtain ⟨h1, h2, h3, h4⟩ := hA a z
      refine ⟨h0 a h1, h2, h3, h4, fun i y => ?_⟩
      obtain ⟨_, ⟨o, e, _⟩, _⟩ := r.own i a y
      rw [h1] at e; cases e
    | exc c n s' =>
      rw [q] at h
      rintro G' H' d x rw' e0 e
      have rw2 : RelW W { G' with ad := G.ad } s' H' := ⟨rw'.sub, rw'.tups, rw'.lk, rw'.wrl⟩
      exact h { G' with ad := G.ad } H' d x.nx (r.next x.nx rw2) e0 e
  · exact h.elim
theorem vf_call (FN : FnOk X.prog X.w X.K X.mg X.base CX k f fd ps (VSp W X.K n F)) (hr : Room k X.A) (hg : Gl X x) (hm : X.mg x = some (.ref f)) (hk : PySem.W.keepIn X.K (.ref f) = true) (hb : Binds X.K fd ps []) (hx : Pass CX X E)
    (ha : VA W X E (e :: es) fs) (hdb : (x == ("__debug__" : Str)) = false := by decide) (he : starEach (e :: es) X.env = (false, eval e X.env) :: starEach es X.env := by rfl) (hpl : (backTo pos (starEach es X.env)).any (·.1) = false := by rfl) :
    VF W X E (.Call (.Name x p) (e :: es) [] pos) (fCall n F fs) := PE.imp (pe_callVL FN hr hg hm hk hb hx ha hdb he hpl) fun σ H Q ⟨G, ρ, s, r, hq⟩ => by
  refine tG.mk r (Pst.mono (Pst.bind (P := pVs X.K H) hq) ?_)
  rintro w H1 ⟨G1, s1, xs, x1, r1, rs, h'⟩
  exact call_run x1.there r1 rs h'
theorem vf_call0 (FN : FnOk X.prog X.w X.K X.mg X.base CX k f fd ps (VSp W X.K n F)) (hr : Room k X.A) (hg : Gl X x) (hm : X.mg x = some (.ref f)) (hk : PySem.W.keepIn X.K (.ref f) = true) (hb : Binds X.K fd ps []) (hx : Pass CX X E)
    (hdb : (x == ("__debug__" : Str)) = false := by decide) : VF W X E (.Call (.Name x p) [] [] pos) (fCall n F eNil) := PE.imp (pe_callVL0 FN hr hg hm hk hb hx hdb) fun σ H Q ⟨G, ρ, s, r, hq⟩ => call_run (fun _ h => h) r .nil hq
end

/-! ### 3. a def of the text -/
section
variable {W : Wo} {P : Program} {w : World} {K : PySem.W.Frag} {mg : Str → Option Value} {base : Heap}
/-- no exception leaves it -/
def eN : WX := fun _ _ _ _ => False
abbrev cxV (P : Program) (w : World) (K : PySem.W.Frag) (mg : Str → Option Value) (base : Heap) (N : List Str) (qual : Str) (sc : Scope) (f : Addr) (cdv : Value) (A : Around) (outer : List Env) (s : Shared) (H : Hp) (EX : XK) : Cx :=
  (cxOf CX0 P w K mg base N qual sc f cdv A outer s H EX).nox
/-- .. of its semantics no exception comes -/
def R.calm {S α : Type} (r : R S α) : R S α := match r with
  | .exc _ _ _ => .bad
  | r => r
def cDef0 (n : Nat) (c : Cm W) : Fv W := fun xs s => (cDef n c xs s).calm
theorem Fun.okV {x qual : Str} {st : Stmt} {f : Addr} {fd : FuncData} {N ps : List Str} {k : Nat} {T : List Nat} {c : Cm W} (F : Fun K x qual st f fd) (S : FnScope N ps (defScope st)) (hN : ps.length ≤ N.length)
    (hbody : ∀ (cdv : Value) (A : Around) (outer : List Env) (s : Shared) (H : Hp) (EX : XK), Room k (A.deeper (envOfC qual (defScope st) s.heap.objs.size f cdv)) → VSs W (cxV P w K mg base N qual (defScope st) f cdv A outer s H EX) eN T (defBody st) c) :
    FnOk P w K mg base CX0 (k + 1) f fd ps (VSp W K ps.length (cDef0 N.length c)) := by
  refine F.ok S (fun vs H Q E h => ?_) (fun cdv A outer s H vs Q E hr h => ?_)
  · obtain ⟨G, s, xs, _, rs, hl, _⟩ := h
    rw [rs.length, hl]
  · obtain ⟨G, s0, xs, r, rs, hl, h⟩ := h
    refine ⟨_, hbody cdv A outer s H E hr, def_run (EX := fun _ _ _ => False) r rs (by omega) ?_ fun _ _ _ _ z => z⟩
    have h : PstC W K G H (cDef N.length c xs s0).calm Q E := h
    cases q : cDef N.length c xs s0 with
    | bad => rw [q] at h; exact h.elim
    | ok t s' => rw [q] at h; exact h
    | exc cc n s' => rw [q] at h; exact h.elim
end
end VL

/-! VL11: comprehensions; own dicts walked (locked). -/
namespace VL
open PySem PySem.Spec PyProof.Rows L2

/-! ### 1. a block's slots -/
def wipeE (ρ : En) : List Nat → En
  | [] => ρ
  | v :: vs => (wipeE ρ vs).set v none
theorem wipeE_length (ρ : En) : ∀ vs : List Nat, (wipeE ρ vs).length = ρ.length
  | [] => rfl
  | v :: vs => by unfold wipeE; rw [List.length_set, wipeE_length ρ vs]
theorem wipeE_get (ρ : En) (i : Nat) : ∀ vs : List Nat, (wipeE ρ vs)[i]? = if i ∈ vs ∧ i < ρ.length then some none else ρ[i]?
  | [] => by simp [wipeE]
  | v :: vs => by
    unfold wipeE
    by_cases h : v = i
    · subst h
      by_cases hl : v < ρ.length
      · rw [List.getElem?_set_self (by rw [wipeE_length]; exact hl), if_pos ⟨by simp, hl⟩]
      · rw [List.getElem?_eq_none (by rw [List.length_set, wipeE_length]; omega), if_neg fun z => hl z.2, List.getElem?_eq_none (by omega)]
    · rw [List.getElem?_set_ne h, wipeE_get ρ i vs]
      have : (i ∈ v :: vs) ↔ i ∈ vs := by simp [Ne.symm h]
      simp only [this]
theorem wipe_get (σ : L2.St) (i : Nat) : ∀ vs : List Nat, (wipe σ vs)[i]? = if i ∈ vs ∧ i < σ.length then some none else σ[i]?
  | [] => by simp [wipe]
  | v :: vs => by
    unfold wipe
    by_cases h : v = i
    · subst h
      by_cases hl : v < σ.length
      · rw [List.getElem?_set_self (by rw [wipe_length]; exact hl), if_pos ⟨by simp, hl⟩]
      · rw [List.getElem?_eq_none (by rw [List.length_set, wipe_length]; omega), if_neg fun z => hl z.2, List.getElem?_eq_none (by omega)]
    · rw [List.getElem?_set_ne h, wipe_get σ i vs]
      have : (i ∈ v :: vs) ↔ i ∈ vs := by simp [Ne.symm h]
      simp only [this]
theorem wipe_back {σ σ2 : L2.St} {vs : List Nat} (h : Off vs (wipe σ vs) σ2) : wipe σ2 vs = wipe σ vs := by
  have hl : σ2.length = σ.length := h.1.trans (wipe_length _ _)
  apply List.ext_getElem?
  intro i
  rw [wipe_get, hl]
  by_cases q : i ∈ vs
  · rw [wipe_get]
    by_cases q2 : i < σ.length
    · rw [if_pos ⟨q, q2⟩, if_pos ⟨q, q2⟩]
    · rw [if_neg fun z => q2 z.2, if_neg fun z => q2 z.2, List.getElem?_eq_none (by omega), List.getElem?_eq_none (by omega)]
  · rw [if_neg fun z => q z.1]
    exact h.2 i q
/-- what the slots vs own is nobody's for a while -/
def Gh.hide (G : Gh) (vs : List Nat) : Gh := { G with ad := fun j a => j ∉ vs ∧ G.ad j a }
section
variable {W : Wo} {K : PySem.W.Frag} {G G1 G3 G4 G5 : Gh} {ρ : En} {s s' : W.S} {σ : L2.St} {H H1 H3 H4 H5 : Hp} {vs : List Nat} {D : Addr} {o : HO}
theorem Rel.wipe (r : Rel W K G ρ s σ H) (vs : List Nat) : Rel W K (G.hide vs) (wipeE ρ vs) s (L2.wipe σ vs) H where
  sub := r.sub
  tups := r.tups
  lk := r.lk
  wrl := r.wrl
  len := by rw [wipeE_length, wipe_length]; exact r.len
  slot := fun i t e => by
    rw [wipeE_get] at e
    split at e
    · cases e
    · rename_i h
      obtain ⟨w, h1, h2⟩ := r.slot i t e
      have hi : i < ρ.length := (List.getElem?_eq_some_iff.mp e).1
      have hn : i ∉ vs := fun z => h ⟨z, hi⟩
      refine ⟨w, ?_, h2.mono (Sub.refl _) (fun a z => ⟨hn, z⟩) fun _ _ => rfl⟩
      rw [wipe_get, if_neg fun z => hn z.1]
      exact h1
  own := fun i a z => r.own i a z.2
  dis := fun i j a h z y => r.dis i j a h z.2 y.2
/-- out of the block again -/
theorem Ns.unhide (x : Ns vs (G.hide vs) G4 H H4) (y : Nx G4 G5 H4 H5) : Nx G { G5 with ad := G.ad } H H5 where
  sub := x.sub.trans y.sub
  keep := fun a o e n => y.keep a o (x.keep a o e n fun i hi z => z.1 hi) fun z => by
    rcases x.fp a z with q | q
    · exact n q
    · rw [e] at q; cases q
  there := fun a h => x.there a (y.there a h)
  ad := rfl
  fp := fun a z => by
    rcases y.fp a z with q | q
    · exact x.fp a q
    · exact .inr (x.there a q)
  fz := fun a o e => by
    have back : G4.F a = some o → G.F a = some o ∨ H a = none ∨ G.fp a ∨ ∃ ws, o = .tup ws := fun q => by
      rcases x.fz a o q with q | q | q | ⟨i, hi, q⟩ | q
      · exact .inl q
      · exact .inr (.inl q)
      · exact .inr (.inr (.inl q))
      · exact absurd hi q.1
      · exact .inr (.inr (.inr q))
    rcases y.fz a o e with q | q | q | q
    · exact back q
    · exact .inr (.inl (x.there a q))
    · rcases x.fp a q with q | q
      · exact .inr (.inr (.inl q))
      · exact .inr (.inl q)
    · exact .inr (.inr (.inr q))
/-- nobody's object stays nobody's -/
theorem Nx.bare (x : Nx G G1 H H1) (r : RelW W G1 s H1) (e : H D = some o) (ht : ∀ ws, o ≠ .tup ws) (hF : G.F D = none) (hf : ¬ G.fp D) : H1 D = some o ∧ G1.F D = none ∧ ¬ G1.fp D := by
  have e1 := x.keep D o e hf
  refine ⟨e1, ?_, fun z => ?_⟩
  · cases q : G1.F D with
    | none => rfl
    | some u =>
      have q2 := r.sub _ _ q
      rw [e1] at q2; cases q2
      rcases x.fz D _ q with z | z | z | ⟨ws, z⟩
      · rw [hF] at z; cases z
      · rw [e] at z; cases z
      · exact absurd z hf
      · exact absurd z (ht ws)
  · rcases x.fp D z with q | q
    · exact hf q
    · rw [e] at q; cases q
/-- nobody's object is changed -/
theorem Nx.lay (x : Nx G G1 H H1) (hD : H D = none) : Nx G G1 H (upd H1 D o) where
  sub := x.sub
  keep := fun a u e n => by
    rw [upd_ne (ne_of_none e hD)]; exact x.keep a u e n
  there := fun a h => by
    by_cases q : a = D
    · rw [q]; exact hD
    · rw [upd_ne q] at h; exact x.there a h
  ad := x.ad
  fp := x.fp
  fz := x.fz
theorem Rel.lay (r : Rel W K G ρ s σ H) (hF : G.F D = none) (hf : ¬ G.fp D) (ha : ∀ i, ¬ G.ad i D) (ht : ∀ ws, o ≠ .tup ws) : Rel W K G ρ s σ (upd H D o) where
  sub := fun a u e => by rw [upd_ne (ne_of_none e hF)]; exact r.sub a u e
  tups := fun a ws e => by
    by_cases q : a = D
    · rw [q, upd_same] at e; exact absurd (Option.some.inj e) (ht ws)
    · rw [upd_ne q] at e; exact r.tups a ws e
  lk := r.lk
  wrl := W.mono r.wrl (Sub.refl _) fun a z => ⟨upd_ne fun q => hf (q ▸ z), (W.own r.wrl z).1⟩
  len := r.len
  slot := fun i t e => by
    obtain ⟨w, h1, h2⟩ := r.slot i t e
    exact ⟨w, h1, h2.mono (Sub.refl _) (fun _ z => z) fun a z => upd_ne fun q => ha i (q ▸ z)⟩
  own := fun i a z => by
    obtain ⟨h1, h2, h3⟩ := r.own i a z
    refine ⟨h1, ?_, h3⟩
    have q : a ≠ D := fun q => ha i (by rw [← q]; exact z)
    rw [upd_ne q]; exact h2
  dis := r.dis
theorem RelW.reset {A : Nat → Addr → Prop} (r : RelW W G s H) : RelW W { G with ad := A } s H := ⟨r.sub, r.tups, r.lk, r.wrl⟩
end

/-! ### 2. [elt for target in iter if ..] -/
section
variable {W : Wo} {X : Cx} {E : WX} {U : List Nat}
def compS (ρ : En) (vs : List Nat) (p : Pu) (t : Sm W Bool) (f : Ev W) : List Val → List Val → W.S → R W.S OT
  | [], acc, s => .ok (.oL acc) s
  | x :: xs, acc, s => match p x (wipeE ρ vs) with
    | none => .bad
    | some ρ1 => match t ρ1 s with
      | .ok b s1 => if b = true then match f ρ1 s1 with
          | .ok v s2 => if acc.length < sizeLine then compS ρ vs p t f xs (acc ++ [v]) s2 else .bad
          | _ => .bad
        else compS ρ vs p t f xs acc s1
      | _ => .bad
def fLc (vs : List Nat) (it : Sm W (List Val)) (p : Pu) (t : Sm W Bool) (f : Ev W) : Sm W OT := fun ρ s => (it ρ s).bind fun xs s1 => compS ρ vs p t f xs [] s1
abbrev tVG (W : Wo) (K : PySem.W.Frag) (T : List Nat) (p : Pu) : TG := fun w σ H Q => ∃ G ρ s v ρ', Rel W K G ρ s σ H ∧ Rep K G.F w v ∧ p v ρ = some ρ' ∧
  ∀ G' σ', Ns T G G' H H → Off T ρ ρ' → Off T σ σ' → Rel W K G' ρ' s σ' H → Q σ' H
theorem lc_run {K : PySem.W.Frag} {vs : List Nat} {it : Sm W (List Val)} {p : Pu} {t : Sm W Bool} {f : Ev W} {σ : L2.St} {H : Hp} {Q : VK} (hq : tG W K E (pF K) (fLc vs it p t f) σ H Q) :
    tLc (fun σ H R => tG W K E (pI K U) it σ H R) (tVG W K vs p) (tG W K eN pT t) (tG W K eN (pV K) f) vs σ H Q := by
  obtain ⟨G0, ρ, s0, r0, hq⟩ := hq
  refine tG.mk r0 (Pst.mono (Pst.bind (P := pI K U H) hq) ?_)
  rintro J H1 ⟨G1, s1, xs, x1, r1, yl, h1⟩ D hD
  have dF : G1.F D = none := r1.toRelW.free hD
  have dA : ∀ i, ¬ G1.ad i D := fun i z => by
    obtain ⟨_, ⟨o, e, _⟩, _⟩ := r1.own i D z
    rw [hD] at e; cases e
  have dP : ¬ G1.fp D := fun z => by
    obtain ⟨_, ⟨o, e⟩, _⟩ := W.own r1.wrl z
    rw [hD] at e; cases e
  refine ⟨fun i m H' => m = xs.length - i ∧ i ≤ xs.length ∧ ∃ G' s' ws acc, Nx G1 G' H1 H' ∧ Rel W K G' ρ s' σ H' ∧ H' D = some (.lst ws) ∧ Reps K G'.F ws acc ∧ G'.F D = none ∧ ¬ G'.fp D ∧
    Pst W K E (pF K H) G1 ρ σ H1 (compS ρ vs p t f (xs.drop i) acc s') Q, ⟨xs.length, by simp, Nat.zero_le _, G1, s1, [], [], (Nx.refl _ _).lay hD, r1.lay dF dP dA (nd_lst _).2, upd_same, .nil, dF, dP, by rw [List.drop_zero]; exact h1⟩, ?_⟩
  rintro i m H' ⟨rfl, hile, G', s', ws, acc, x', r', hD', rs, dF', dP', h'⟩
  have pins : ∀ a i, i ∈ U → G1.ad i a → H' a = H1 a := fun a i hi z => by
    obtain ⟨q1, ⟨o, q2, _⟩, q3⟩ := r1.own i a z
    rw [q2]
    exact x'.keep a o q2 q3
  have Y := yl G'.F H' x'.sub r'.sub r'.tups pins i
  by_cases hlt : i < xs.length
  · refine .inr ?_
    have ex : xs[i]? = some xs[i] := by simp [hlt]
    obtain ⟨hgo, hy⟩ := Y.1 _ ex
    rw [List.drop_eq_getElem_cons hlt] at h'
    unfold compS at h'
    refine ⟨hgo, fun H2 => ∃ m', m' < xs.length - i ∧ (m' = xs.length - (i + 1) ∧ i + 1 ≤ xs.length ∧ ∃ G' s' ws acc, Nx G1 G' H1 H2 ∧ Rel W K G' ρ s' σ H2 ∧ H2 D = some (.lst ws) ∧ Reps K G'.F ws acc ∧ G'.F D = none ∧ ¬ G'.fp D ∧
      Pst W K E (pF K H) G1 ρ σ H1 (compS ρ vs p t f (xs.drop (i + 1)) acc s') Q), fun H2 z => z, fun x H3 y => ?_⟩
    obtain ⟨G3, x3, r3, rp3⟩ : ∃ G3, Nx G' G3 H' H3 ∧ Rel W K G3 ρ s' σ H3 ∧ Rep K G3.F x xs[i] := by
      rcases hy x H3 y with ⟨rfl, rp⟩ | ⟨q, ws, vs, hq, rfl, rfl, ev, rs⟩
      · exact ⟨G', Nx.refl _ _, r', rp⟩
      · obtain ⟨hF, hH⟩ := r'.toRelW.fresh (o := .tup ws) hq (nd_tup ws)
        exact ⟨_, hF, r'.next hF hH, by rw [ev]; exact .tup upd_same (rs.mono (Sub.upd (r'.toRelW.free hq)))⟩
    have x13 := x'.trans x3
    obtain ⟨hD3, dF3, dP3⟩ := x3.bare r3.toRelW hD' (nd_lst _).2 dF' dP'
    have r3w := r3.wipe vs
    cases ep : p xs[i] (wipeE ρ vs) with
    | none => rw [ep] at h'; exact h'.elim
    | some ρ1 =>
      rw [ep] at h'
      refine ⟨G3.hide vs, wipeE ρ vs, s', xs[i], ρ1, r3w, rp3, ep, fun G4 σ4 x4 o4 o4' r4 => ⟨wipe_back o4', tG.mk (P := fun _ => pT H3) r4 ?_⟩⟩
      -- the turn's end
      have fin : ∀ {G5 : Gh} {H5 : Hp} {s5 : W.S} {ws5 : List V} {acc5 : List Val}, Nx G4 G5 H3 H5 → RelW W G5 s5 H5 → ∀ {H6 : Hp}, (H6 = H5 ∧ ws5 = ws ∨ H6 = upd H5 D (.lst ws5)) → Reps K G5.F ws5 acc5 →
          Pst W K E (pF K H) G1 ρ σ H1 (compS ρ vs p t f (xs.drop (i + 1)) acc5 s5) Q →
          ∃ m', m' < xs.length - i ∧ (m' = xs.length - (i + 1) ∧ i + 1 ≤ xs.length ∧ ∃ G' s' ws acc, Nx G1 G' H1 H6 ∧ Rel W K G' ρ s' σ H6 ∧ H6 D = some (.lst ws) ∧ Reps K G'.F ws acc ∧ G'.F D = none ∧ ¬ G'.fp D ∧
            Pst W K E (pF K H) G1 ρ σ H1 (compS ρ vs p t f (xs.drop (i + 1)) acc s') Q) := by
        intro G5 H5 s5 ws5 acc5 x5 rw5 H6 h6 rs5 hp
        have x35 := x4.unhide x5
        have r5 := r3.next x35 rw5.reset
        have x15 := x13.trans x35
        obtain ⟨hD5, dF5, dP5⟩ := x35.bare r5.toRelW hD3 (nd_lst _).2 dF3 dP3
        refine ⟨_, by omega, rfl, hlt, { G5 with ad := G3.ad }, s5, ws5, acc5, ?_⟩
        rcases h6 with ⟨rfl, rfl⟩ | rfl
        · exact ⟨x15, r5, hD5, rs5, dF5, dP5, hp⟩
        · refine ⟨x15.lay hD, r5.lay dF5 dP5 (fun j => ?_) (nd_lst _).2, upd_same, rs5, dF5, dP5, hp⟩
          show ¬ G3.ad j D
          rw [x13.ad]; exact dA j
      dsimp only at h'
      cases et : t ρ1 s' with
      | bad => rw [et] at h'; exact h'.elim
      | exc c n s2 => rw [et] at h'; exact h'.elim
      | ok b s2 =>
        rw [et] at h'
        rintro G5 H5 b' x5 r5 rfl
        cases b' with
        | false => exact fin x5 r5.toRelW (.inl ⟨rfl, rfl⟩) (rs.mono (x3.sub.trans (x4.sub.trans x5.sub))) h'
        | true =>
          dsimp only at h'
          rw [if_pos rfl] at h' ⊢
          refine tG.mk (P := fun _ => pV K H5) r5 ?_
          cases ef : f ρ1 s2 with
          | bad => rw [ef] at h'; exact h'.elim
          | exc c n s3 => rw [ef] at h'; exact h'.elim
          | ok v s3 =>
            rw [ef] at h'
            rintro G6 H6 y6 x6 r6 rp6
            have rp6 : Rep K G6.F y6 v := rp6
            dsimp only at h'
            split at h'
            · rename_i hz
              have x36 := x4.unhide (x5.trans x6)
              obtain ⟨hD6, _, _⟩ := x36.bare (r3.next x36 r6.toRelW.reset).toRelW hD3 (nd_lst _).2 dF3 dP3
              refine ⟨ws, hD6, by rw [rs.length]; exact hz, fin (x5.trans x6) r6.toRelW (.inr rfl) ((rs.mono (x3.sub.trans (x4.sub.trans (x5.trans x6).sub))).append (.cons rp6 .nil)) h'⟩
            · exact h'.elim
  · have e : i = xs.length := by omega
    subst e
    refine .inl ⟨Y.2 (Nat.le_refl _), ?_⟩
    rw [List.drop_length] at h'
    refine h' G' H' (.ref D) x' r' ⟨fun a => a = D, .oL hD' rfl rs, ?_⟩
    rintro a rfl
    exact ⟨x1.there a hD, dF', ⟨_, hD', (nd_lst _).2⟩, dP', fun j => by rw [x'.ad]; exact dA j⟩

/-- the tests of a clause -/
def VTs (W : Wo) (X : Cx) (ifs : List Expr) (t : Sm W Bool) : Prop := PTs X ifs (tG W X.K eN pT t)
def tTrue : Sm W Bool := fun _ s => .ok true s
theorem PTs.imp {ifs : List Expr} {t t' : TT} (h : PTs X ifs t) (i : ∀ σ H Q, t' σ H Q → t σ H Q) : PTs X ifs t' := ⟨fun pins s σ H Q I z => h.run pins s σ H Q I (i σ H Q z)⟩
theorem vts_nil : VTs W X [] tTrue := PTs.imp pts_nil fun σ H Q ⟨G, ρ, s, r, h⟩ => Pst.done (P := pT H) r h rfl
theorem vts_one {c : Expr} {t : Sm W Bool} (h : VT W X eN c t) : VTs W X [c] t := pts_one h
variable {elt tg iter : Expr} {ifs : List Expr} {scope : Scope} {own : List (Str × Nat)} {pos : Pos} {it : Sm W (List Val)} {p : Pu} {t : Sm W Bool} {f : Ev W}
theorem vf_lc {vs : List Nat} (hc : X.calm = true) (hN : X.N.Nodup) (ok : BlkOk X.N X.env.scope scope own) (hvs : own.map (·.2) = vs) (hi : VI W X E U tg iter it)
    (hg : ∀ (s : Shared) (H : Hp) (C : Addr) (cl : List (Str × Addr)) (fp : List Addr), VG W (X.blk s H scope (compEnvC scope cl C X.env) fp) vs tg p)
    (ht : ∀ (s : Shared) (H : Hp) (C : Addr) (cl : List (Str × Addr)) (fp : List Addr), VTs W (X.blk s H scope (compEnvC scope cl C X.env) fp) ifs t)
    (he : ∀ (s : Shared) (H : Hp) (C : Addr) (cl : List (Str × Addr)) (fp : List Addr), VE W (X.blk s H scope (compEnvC scope cl C X.env) fp) eN elt f) (hs : ∀ x, foldedSetIterable iter X.env x = pure x := by intro _; rfl) :
    VF W X E (.ListComp elt [⟨tg, iter, ifs, 0⟩] scope pos) (fLc vs it p t f) := by
  subst hvs
  exact PE.imp (pe_lc (g := tVG W X.K (own.map fun x : Str × Nat => x.2) p) (tt := tG W X.K eN pT t) (te := tG W X.K eN (pV X.K) f) hc hN hi ok hg ht he hs) fun _ _ _ h => lc_run h
/-- name = [..] -/
theorem vs_setLc {vs : List Nat} {T : List Nat} {i : Nat} {y : Str} {py spos : Pos} (hi' : i ∈ T) (hc : X.calm = true) (hN : X.N.Nodup) (ok : BlkOk X.N X.env.scope scope own) (hvs : own.map (·.2) = vs) (hi : VI W X E U tg iter it)
    (hg : ∀ (s : Shared) (H : Hp) (C : Addr) (cl : List (Str × Addr)) (fp : List Addr), VG W (X.blk s H scope (compEnvC scope cl C X.env) fp) vs tg p)
    (ht : ∀ (s : Shared) (H : Hp) (C : Addr) (cl : List (Str × Addr)) (fp : List Addr), VTs W (X.blk s H scope (compEnvC scope cl C X.env) fp) ifs t)
    (he : ∀ (s : Shared) (H : Hp) (C : Addr) (cl : List (Str × Addr)) (fp : List Addr), VE W (X.blk s H scope (compEnvC scope cl C X.env) fp) eN elt f)
    (hyl : X.env.scope.names.lookup y = some .local) (hl : (py.line == pos.line) = true) (ha : (scope.names.any fun (n, k) => n == y && (k == .local || k == .cell)) = false) (hy : X.N[i]? = some y := by rfl) (hk : X.env.scope.kind = .function := by rfl)
    (hs : ∀ x, foldedSetIterable iter X.env x = pure x := by intro _; rfl) :
    VS W X E T (.Assign [.Name y py] (.ListComp elt [⟨tg, iter, ifs, 0⟩] scope pos) spos) (cSetF i (fLc vs it p t f)) := by
  subst hvs
  exact PS.imp (ps_setLc (g := tVG W X.K (own.map fun x : Str × Nat => x.2) p) (tt := tG W X.K eN pT t) (te := tG W X.K eN (pV X.K) f) hc hN hy hyl (sw_true hk hyl hl ha) hi ok hg ht he hs) fun D σ H ⟨G, ρ, s, r, h⟩ => by
    refine lc_run (E := E) (tG.mk (f := fLc (own.map (·.2)) it p t f) (P := pF X.K) r (Pst.mono (PstS.goAt (P := pF X.K H) h) ?_))
    rintro w H1 ⟨G1, s1, t, x1, r1, ⟨A, ro, hA⟩, h1⟩
    exact h1 (G1.put i A) H1 _ (Ns.put (x1.ns T) hi' fun a z => .inr (hA a z).1) (Off.set hi') (Off.set hi') (r1.put ro fun a z => ⟨(hA a z).2.1, (hA a z).2.2.1, (hA a z).2.2.2.1, fun j _ => (hA a z).2.2.2.2 j⟩)
end
end VL

/-! VL12: dict comprehensions, keys ints and texts or tuples of them. -/
namespace VL
open PySem PySem.Spec PyProof.Rows L2
section
variable {X : Cx} {pins : List (Addr × Obj)} {σ : L2.St} {H H6 : Hp} {s : Shared} {Er : Value → Shared → Prop}
/-- D[y] = z by a comprehension -/
theorem dset_run {D : Addr} {y z : V} {uk uv : Value} {Q : Unit → Shared → Prop} (hu : X.A.units < cLine) (I : Inv X pins σ H s) (g : DPut H D y z H6) (ry : RelV y uk) (rz : RelV z uv) (hq : ∀ s', Inv X pins σ H6 s' → Q () s') :
    wpAny (model X.prog X.w) X.A (dictSet D uk uv) Q Er s := by
  rcases g with ⟨l, k, eD, ey, hl, e6⟩ | ⟨l, ks, b, eD, ey, eb, hl, e6⟩
  · subst ey e6
    obtain ⟨hz, hs, vs, kv, dd⟩ := dk_of I.hok eD
    have lz : vs.length ≤ sizeLine := by rw [← kv.length]; exact hz
    have lp : (putK l k z).length ≤ sizeLine := by have := length_putK l k z; omega
    refine wpAny_dictSet_pairs (hsz := lz) (kV_is ry) dd fun h1 d1 sb => hq _ ?_
    obtain ⟨ob, es, ep, ho, _⟩ := id d1
    exact d_write I (by rw [eD]; trivial) sb ⟨ob, ho⟩ (dk_new lp hs (kv.put k rz) d1)
  · subst ey e6
    cases (show uk = Value.ref b from ry)
    obtain ⟨hz, hs, vs, kt, dd⟩ := dt_of I.hok eD
    have lz : vs.length ≤ sizeLine := by rw [← Paired.length kt]; exact hz
    have lp : (putK l ks z).length ≤ sizeLine := by have := length_putK l ks z; omega
    refine wpAny_dictSet_heap (knd := tupleKind (mixKind X.prog X.w)) (hsz := lz) hu (key_of I.hok eb) dd fun h1 d1 sb => hq _ ?_
    obtain ⟨ob, es, ep, ho, g2, g3, g4, _, g5⟩ := d1
    refine d_write I (by rw [eD]; trivial) sb ⟨ob, ho⟩ ⟨lp, hs, _, (kt.put ks eb rz).keeps fun c ys ec => ?_, ob, es, ep, ho, g2, g3, g4, g5⟩
    have nc : c ≠ D := ne_of ec eD (fun z => (by cases z))
    rw [upd_ne nc]
    exact ec
/-- {k: v for target in iter if ..}: o0 the new dict -/
def tDcV (o0 : HO) (wi : TI) (g : TG) (tt : TT) (tk tv : TE) (vs : List Nat) : TE := fun σ H Q => wi σ H fun J Ha => ∀ D, Ha D = none → ∃ W : Nat → Nat → Hp → Prop, (∃ m, W 0 m (upd Ha D o0)) ∧ ∀ i m H, W i m H →
  (J.stop i H ∧ Q (.ref D) H) ∨ (J.go i H ∧ ∃ N : Hp → Prop, (∀ H', N H' → ∃ m', m' < m ∧ W (i + 1) m' H') ∧ ∀ x H', J.yld i H x H' → g x (wipe σ vs) H' fun σ2 H2 => wipe σ2 vs = wipe σ vs ∧ tt σ2 H2 fun b H3 =>
    if b = true then tk σ2 H3 fun y H4 => tv σ2 H4 fun z H5 => ∃ H6, DPut H5 D y z H6 ∧ N H6 else N H3)
/-- a new dict of either kind -/
def New0 (o0 : HO) : Prop := o0 = .dK [] ∨ o0 = .dT []
theorem New0.ok {o0 : HO} (n : New0 o0) {P : Program} {w : World} {H : Hp} (h : Heap) (hb : sysModules < h.objs.size) : ObjOk P w H (h.push { cls := .type "dict", data := .dict #[] }) h.objs.size o0 := by
  rcases n with rfl | rfl
  · exact dk_empty h hb
  · exact dt_empty h hb
theorem dcV_core {Q : VK} {kx vx tg iter : Expr} {ifs : List Expr} {scope : Scope} {own : List (Str × Nat)} {pos pos' : Pos} {o0 : HO} {wi : TI} {g : TG} {tt : TT} {tk tv : TE} {use : Option (Value → Sem Unit)} {Qf : Value → Shared → Prop}
    (n0 : New0 o0) (hu : X.A.units < cLine) (calm : X.calm = true) (nd : X.N.Nodup) (I : Inv X pins σ H s) (hi : PI X tg iter wi) (bo : BlkOk X.N X.env.scope scope own)
    (bg : ∀ (s : Shared) (H : Hp) (C : Addr) (cl : List (Str × Addr)) (fp : List Addr), PG (X.blk s H scope (compEnvC scope cl C X.env) fp) tg g)
    (bt : ∀ (s : Shared) (H : Hp) (C : Addr) (cl : List (Str × Addr)) (fp : List Addr), PTs (X.blk s H scope (compEnvC scope cl C X.env) fp) ifs tt)
    (bk : ∀ (s : Shared) (H : Hp) (C : Addr) (cl : List (Str × Addr)) (fp : List Addr), PE (X.blk s H scope (compEnvC scope cl C X.env) fp) kx tk)
    (bv : ∀ (s : Shared) (H : Hp) (C : Addr) (cl : List (Str × Addr)) (fp : List Addr), PE (X.blk s H scope (compEnvC scope cl C X.env) fp) vx tv) (fs : ∀ x, foldedSetIterable iter X.env x = pure x)
    (h : tDcV o0 wi g tt tk tv (own.map (·.2)) σ H Q)
    (out : ∀ D C s' m H', Inv X pins σ H' s' → Q (.ref D) H' → s'.heap.Ns C m → FpOk X pins H' C → compPost (model X.prog X.w) X.A X.xe use Qf (.ref D) C (.ok .next) s') :
    wpAny (model X.prog X.w) X.A (comprehension (.DictComp kx vx [⟨tg, iter, ifs, 0⟩] scope pos) scope X.env pos' newDict false (eval iter X.env) use) Qf X.xe s := by
  have cells : ∀ y ∈ scope.names, y.2 = .free → ∃ c, X.env.cells.lookup y.1 = some c := fun y hy e => (bo.free y hy e).elim (fun k => I.ok.has _ (.inl k)) fun k => I.ok.has _ (.inr k)
  refine wpAny_comprehension_free (use := use) rfl fs (closure_ok cells) bo.kind (fun y hy e => by rw [bo.uniq y hy, e])
    (thn (hi.run pins s σ H _ I h) fun itx sa ha => thn ha fun itv sb hb => ?_)
  obtain ⟨it, fp, tn, J, Hb, rfl, Ib, T, st, fpo, rest⟩ := hb
  refine wpAny_newObj_type (newEnv_comp ?_)
  generalize eD : sb.heap.objs.size = D
  have nD : Hb D = none := Ib.hok.fresh (Nat.le_of_eq eD)
  obtain ⟨W, ⟨m0, w0⟩, turn⟩ := rest D nD
  generalize esc : ({ sb with heap := sb.heap.push { cls := .type "dict", data := .dict #[] } } : Shared) = sc
  have Ic : Inv X pins σ (upd Hb D o0) sc := by
    rw [← esc]
    refine Ib.laid (t' := sb.toks) (fun b o e => Heap.get?_push_of_some _ e) (Nat.le_of_eq eD) ?_
    rw [← eD]
    exact n0.ok sb.heap Ib.big
  have hsc : sc.heap = sb.heap.push { cls := .type "dict", data := .dict #[] } := by rw [← esc]
  have lt : ∀ b ∈ fp, b < sb.heap.objs.size := fun b hb => by
    obtain ⟨o, e, _⟩ := T.obj _ _ st b hb
    exact Heap.lt_size e
  have fpc : ∀ b ∈ fp, FpOk X pins (upd Hb D o0) b ∧ b < sc.heap.objs.size := fun b hb => by
    have l := lt b hb
    have ne : b ≠ D := by rw [← eD]; exact Nat.ne_of_lt l
    exact ⟨⟨by rw [upd_ne ne]; exact (fpo b hb).1, (fpo b hb).2⟩, by rw [hsc, Heap.size_push]; exact Nat.lt_succ_of_lt l⟩
  have stc : tn 0 sc.heap := T.keep _ _ _ st fun b _ o e => by rw [hsc]; exact Heap.get?_push_of_some _ e
  have Ik := block_start Ic bo nd fpc
  have pg := bg sc (upd Hb D o0) sc.heap.objs.size (cellsFrom (sc.heap.objs.size + 1) scope.names (cloFrom X.env.cells scope.names [])) fp
  have pt := bt sc (upd Hb D o0) sc.heap.objs.size (cellsFrom (sc.heap.objs.size + 1) scope.names (cloFrom X.env.cells scope.names [])) fp
  have pk := bk sc (upd Hb D o0) sc.heap.objs.size (cellsFrom (sc.heap.objs.size + 1) scope.names (cloFrom X.env.cells scope.names [])) fp
  have pv := bv sc (upd Hb D o0) sc.heap.objs.size (cellsFrom (sc.heap.objs.size + 1) scope.names (cloFrom X.env.cells scope.names [])) fp
  show codeAny _ _ (.compStart (.DictComp kx vx [⟨tg, iter, ifs, 0⟩] scope pos) 0 (.ref it) (.ref D) (compEnvC scope (cellsFrom (sc.heap.objs.size + 1) scope.names (cloFrom X.env.cells scope.names [])) sc.heap.objs.size X.env)) (compPost (model X.prog X.w) X.A X.xe use Qf (.ref D) sc.heap.objs.size) { sc with heap := pushCells (sc.heap.push { cls := .type "dict", data := .dict #[] }) scope.names }
  have fpn : ∀ b ∈ fp, (upd Hb D o0) b = none := fun b hb => (fpc b hb).1.1
  generalize ecv : compEnvC scope (cellsFrom (sc.heap.objs.size + 1) scope.names (cloFrom X.env.cells scope.names [])) sc.heap.objs.size X.env = cv at Ik pg pt pk pv ⊢
  have lcv : cv.locals = sc.heap.objs.size := by subst ecv; rfl
  generalize eHc : upd Hb D o0 = Hc at Ic Ik pg pt pk pv w0 fpn fpc
  generalize esd : ({ sc with heap := pushCells (sc.heap.push { cls := .type "dict", data := .dict #[] }) scope.names } : Shared) = sd at Ik ⊢
  have std : tn 0 sd.heap := T.keep _ _ _ stc fun b _ o e => by rw [← esd]; exact pushCells_keeps _ _ _ _ (Heap.get?_push_of_some _ e)
  have fpk : ∀ {τ : L2.St} {Hx : Hp} {sx : Shared}, Inv (X.blk sc Hc scope cv fp) [] τ Hx sx → (∀ b ∈ fp, Hx b = none) → ∀ b ∈ fp, FpOk (X.blk sc Hc scope cv fp) [] Hx b := fun {τ Hx sx} Ix hn b hb =>
    ⟨hn b hb, (Ix.ok.exf b hb).1, Ix.ok.exfs b hb, .inl hb, fun x c e => (Ix.ok.exf b hb).2 x c e, fun p hp => absurd (show p ∈ ([] : List (Addr × Obj)) ++ [] from hp) (by simp)⟩
  have loop : codeAny (model X.prog X.w) X.A (.compLoop (.DictComp kx vx [⟨tg, iter, ifs, 0⟩] scope pos) 0 (.ref it) (.ref D) cv) (compPost (model X.prog X.w) X.A X.xe use Qf (.ref D) sc.heap.objs.size) sd := by
    refine compLoop_anyD (fun n sx => ∃ i Hx, Inv (X.blk sc Hc scope cv fp) [] (wipe σ (own.map (·.2))) Hx sx ∧ tn i sx.heap ∧ (∀ b ∈ fp, Hx b = none) ∧ W i n Hx) ?_ m0 ⟨0, Hc, Ik, std, fpn, w0⟩
    rintro n se ⟨i, He, Ie, ste, fne, we⟩
    rcases turn i n He we with ⟨stop, qq⟩ | ⟨go, N, hN, step⟩
    · refine thnF (T.done (X.blk sc Hc scope cv fp) rfl rfl rfl calm i [] se _ He (fun _ _ => False) Ie (fpk Ie fne) ste stop) fun r sf ⟨hr, If⟩ => ?_
      subst hr
      have Ig : Inv X pins σ He sf := Ic.call' (ch := fp) If.os If.base If.hok If.bare fun b hb => ⟨(fpc b hb).1.2.2.2.1, (fpc b hb).1.2.1, (fpc b hb).1.2.2.2.2.1, (fpc b hb).1.2.2.2.2.2⟩
      have nC : He sc.heap.objs.size = none := by
        have z : He cv.locals = none := If.free
        rwa [lcv] at z
      obtain ⟨m, hn, _⟩ := If.loc
      have hn : sf.heap.Ns cv.locals m := hn
      rw [lcv] at hn
      exact out D sc.heap.objs.size sf m He Ig qq hn (Ic.fpOk (Nat.le_refl _) nC)
    · refine thnF (T.item (X.blk sc Hc scope cv fp) rfl rfl rfl calm i [] se _ He (fun _ _ => False) Ie (fpk Ie fne) ste go) fun r sf ⟨u, hr, hf⟩ => ?_
      subst hr
      refine thnF hf fun _ sg ⟨x, Hg, Ig, rg, yg, stg, fng⟩ => ?_
      have Ih := Ig.pinned (fpk Ig fng) (T.obj _ _ stg)
      refine thnF (pg.run _ sg _ Hg x u _ Ih rg (step x Hg yg)) fun _ si ⟨τ, Hi, Ii, hw, qi⟩ => ?_
      refine thnF (pt.run _ si τ Hi _ Ii qi) fun b sj ⟨Hj, Ij, qj⟩ => ?_
      have fin : ∀ {sx : Shared} {Hx : Hp}, Inv (X.blk sc Hc scope cv fp) ([] ++ pinsAt fp sg.heap) τ Hx sx → N Hx → ∃ m, m < n ∧ ∃ i Hx, Inv (X.blk sc Hc scope cv fp) [] (wipe σ (own.map (·.2))) Hx sx ∧ tn i sx.heap ∧ (∀ b ∈ fp, Hx b = none) ∧ W i m Hx := fun {sx Hx} Ix nx => by
        obtain ⟨m', hm, w'⟩ := hN Hx nx
        have pin : ∀ b ∈ fp, ∀ o, sg.heap.get? b = some o → sx.heap.get? b = some o ∧ Hx b = none := fun b hb o e =>
          let z := Ix.pin (b, o) (List.mem_append_right _ (List.mem_append_right _ (mem_pinsAt hb e)))
          ⟨z.1, z.2.1⟩
        have hl : (wipe σ (own.map (·.2))).length = τ.length := by rw [← hw, wipe_length]
        refine ⟨m', hm, i + 1, Hx, (Ix.unpinned (pins := [])).weak hl (fun j v e => ?_), T.keep _ _ _ stg fun b hb o e => (pin b hb o e).1, fun b hb => ?_, w'⟩
        · rw [← hw] at e
          exact (wipe_some e).1
        · obtain ⟨o, e, _⟩ := T.obj _ _ stg b hb
          exact (pin b hb o e).2
      cases b with
      | false =>
        simp only [Bool.false_eq_true, if_false] at qj ⊢
        exact fin Ij qj
      | true =>
        simp only [if_true] at qj ⊢
        refine thnF (pk.run _ sj τ Hj _ Ij qj) fun uk sk ⟨yk, Hk, Ik2, rk, qk⟩ => ?_
        refine thnF (pv.run _ sk τ Hk _ Ik2 qk) fun uv sl ⟨yv, Hl, Il, rl, Hm, dp, nx⟩ => ?_
        exact dset_run (X := X.blk sc Hc scope cv fp) hu Il dp rk rl fun sm Im => fin Im nx
  exact codeAny_compStart_dict loop (T.self X.A 0 _ _ _ std loop)
variable {kx vx tg iter : Expr} {ifs : List Expr} {scope : Scope} {own : List (Str × Nat)} {pos : Pos} {o0 : HO} {wi : TI} {g : TG} {tt : TT} {tk tv : TE}
theorem pe_dcV (n0 : New0 o0) (hu : X.A.units < cLine) (calm : X.calm = true) (nd : X.N.Nodup) (hi : PI X tg iter wi) (bo : BlkOk X.N X.env.scope scope own)
    (bg : ∀ (s : Shared) (H : Hp) (C : Addr) (cl : List (Str × Addr)) (fp : List Addr), PG (X.blk s H scope (compEnvC scope cl C X.env) fp) tg g)
    (bt : ∀ (s : Shared) (H : Hp) (C : Addr) (cl : List (Str × Addr)) (fp : List Addr), PTs (X.blk s H scope (compEnvC scope cl C X.env) fp) ifs tt)
    (bk : ∀ (s : Shared) (H : Hp) (C : Addr) (cl : List (Str × Addr)) (fp : List Addr), PE (X.blk s H scope (compEnvC scope cl C X.env) fp) kx tk)
    (bv : ∀ (s : Shared) (H : Hp) (C : Addr) (cl : List (Str × Addr)) (fp : List Addr), PE (X.blk s H scope (compEnvC scope cl C X.env) fp) vx tv) (fs : ∀ x, foldedSetIterable iter X.env x = pure x) :
    PE X (.DictComp kx vx [⟨tg, iter, ifs, 0⟩] scope pos) (tDcV o0 wi g tt tk tv (own.map (·.2))) := by
  refine ⟨fun pins s σ H Q I h => ?_⟩
  rw [arm_eval_DictComp]
  refine dcV_core n0 hu calm nd I hi bo bg bt bk bv fs h fun D C s' m H' I' q hn f => ⟨m, hn, fun h'' sb => ?_⟩
  obtain ⟨c0, c1, c2, c3, c4, c5⟩ := f
  exact ⟨.ref D, H', I'.turned (t' := s'.toks) (fun b o hb e => (sb.2 b hb).trans e) c0 c1 c3 c4 c5, rfl, q⟩
/-- name = {..} on one line -/
theorem ps_setDcV {i : Nat} {y : Str} {py spos : Pos} (n0 : New0 o0) (hu : X.A.units < cLine) (calm : X.calm = true) (nd : X.N.Nodup) (hy : X.N[i]? = some y) (ly : X.env.scope.names.lookup y = some .local)
    (sw : swapsWith (.DictComp kx vx [⟨tg, iter, ifs, 0⟩] scope pos) (some (.Name y py)) spos.line X.env = pure true) (hi : PI X tg iter wi) (bo : BlkOk X.N X.env.scope scope own)
    (bg : ∀ (s : Shared) (H : Hp) (C : Addr) (cl : List (Str × Addr)) (fp : List Addr), PG (X.blk s H scope (compEnvC scope cl C X.env) fp) tg g)
    (bt : ∀ (s : Shared) (H : Hp) (C : Addr) (cl : List (Str × Addr)) (fp : List Addr), PTs (X.blk s H scope (compEnvC scope cl C X.env) fp) ifs tt)
    (bk : ∀ (s : Shared) (H : Hp) (C : Addr) (cl : List (Str × Addr)) (fp : List Addr), PE (X.blk s H scope (compEnvC scope cl C X.env) fp) kx tk)
    (bv : ∀ (s : Shared) (H : Hp) (C : Addr) (cl : List (Str × Addr)) (fp : List Addr), PE (X.blk s H scope (compEnvC scope cl C X.env) fp) vx tv) (fs : ∀ x, foldedSetIterable iter X.env x = pure x) :
    PS X (.Assign [.Name y py] (.DictComp kx vx [⟨tg, iter, ifs, 0⟩] scope pos) spos) (tAsg (tDcV o0 wi g tt tk tv (own.map (·.2))) (gName i)) := by
  refine ⟨fun pins s σ H D I h => ?_⟩
  rw [exec_Assign_Name_used _ _ _ _ sw]
  refine wpAny_bind (wpAny_standAt (wpAny_bind ?_))
  show wpAny _ X.A (do let _ ← comprehension (.DictComp kx vx [⟨tg, iter, ifs, 0⟩] scope pos) scope X.env (firstIterPos [⟨tg, iter, ifs, 0⟩] pos) newDict false (eval iter X.env) (some (assign (.Name y py) X.env))) _ _ s
  have h : tDcV o0 wi g tt tk tv (own.map (·.2)) σ H (fun x H1 => gName i x σ H1 D.nx) := h
  refine wpAny_bind (thn (dcV_core (Qf := fun _ s' => SP X pins D .next s') n0 hu calm nd I hi bo bg bt bk bv fs h fun L C s' m H' I' q hn f => ?_) fun _ s' hq => wpAny_pure (wpAny_pure hq))
  show wpAny _ _ (assign (.Name y py) X.env (.ref L)) _ _ _
  refine wpAny_assign_Name (store_ok2 (v := V.ref L) I' nd hy (.inl ly) rfl (fun s2 I2 ⟨a, sb, ha⟩ => ?_) (.inr ly))
  obtain ⟨c0, c1, c2, c3, c4, c5⟩ := f
  have nCa : C ≠ a := ha.elim (fun z => by rw [z]; exact c1) fun z e => c4 y a z e.symm
  refine ⟨m, hn.sameBut sb nCa, fun h3 sb3 => ?_⟩
  exact ⟨_, H', I2.turned (t' := s2.toks) (fun b o hb e => (sb3.2 b hb).trans e) c0 c1 c3 c4 c5, q⟩
theorem swD_true {gs : List Comprehension} {py : Pos} {y : Str} {l : Nat} {env : Env} (hk : env.scope.kind = .function) (hy : env.scope.names.lookup y = some .local) (hl : (py.line == pos.line) = true)
    (ha : (scope.names.any fun (n, k) => n == y && (k == .local || k == .cell)) = false) : swapsWith (.DictComp kx vx gs scope pos) (some (.Name y py)) l env = pure true := by
  have k1 : env.kindOf y = some .local := hy
  have k2 : env.blockKind = .function := by unfold Env.blockKind; rw [hk]; rfl
  unfold swapsWith
  simp only [k2, k1, ha, Expr.pos, hl]
  rfl
end
end VL

/-! VL13: dict comprehensions by values; own dicts locked while they are walked. -/
namespace VL
open PySem PySem.Spec PyProof.Rows L2

/-! ### 1. {k: v for target in iter if ..} -/
inductive RepD (K : PySem.W.Frag) (F : Hp) : HO → Bool → List (Val × Val) → Prop
  | k {l : List (Key × V)} {kvs : List (Val × Val)} : RepP K F (l.map kK) kvs → RepD K F (.dK l) false kvs
  | t {l : List (List Key × V)} {kvs : List (Val × Val)} : RepP K F (l.map kT) kvs → RepD K F (.dT l) true kvs
section
variable {K : PySem.W.Frag} {F F' : Hp} {o : HO} {b : Bool} {kvs : List (Val × Val)}
theorem RepD.mono (h : RepD K F o b kvs) (s : Sub F F') : RepD K F' o b kvs := by
  cases h with
  | k h => exact .k (h.mono s)
  | t h => exact .t (h.mono s)
theorem RepD.nt (h : RepD K F o b kvs) : ∀ ws, o ≠ .tup ws := fun ws e => by cases h <;> cases e
theorem RepD.own {H : Hp} {a : Addr} (h : RepD K F o b kvs) (e : H a = some o) : RepO K F H (fun x => x = a) (.ref a) (.oD b kvs) := by
  cases h with
  | k h => exact .oK e rfl h
  | t h => exact .oDT e rfl h
theorem RepD.put {H : Hp} {a : Addr} {y z : V} {k v : Val} {d : DK} (h : RepD K F o b kvs) (e : H a = some o) (sb : Sub F H) (rk : Rep K F y k) (rv : Rep K F z v) (ed : dkey k = some d) (hb : DK.isT d = b) (hz : kvs.length < sizeLine) :
    ∃ o', DPut H a y z (upd H a o') ∧ RepD K F o' b (vput kvs k d v) := by
  rcases rk.key ed with ⟨kk, rfl, rfl, rfl⟩ | ⟨ks, c, rfl, rfl, hc, rfl⟩
  · cases hb
    cases h with
    | k rp =>
      rename_i l
      refine ⟨_, .inl ⟨l, kk, e, rfl, ?_, rfl⟩, .k (RepP.put (e := kVal) (c := Sum.inl) dkey_k inl_inj kk rv rp)⟩
      have := rp.length; rw [List.length_map] at this; rw [this]; exact hz
  · cases hb
    cases h with
    | t rp =>
      rename_i l
      refine ⟨_, .inr ⟨l, ks, c, e, rfl, sb _ _ hc, ?_, rfl⟩, .t (RepP.put (κ := List Key) (e := fun ks => Val.tup (ks.map kVal)) (c := Sum.inr) (l := l) dkey_t inr_inj ks rv rp)⟩
      have := rp.length; rw [List.length_map] at this; rw [this]; exact hz
end
def o0 (b : Bool) : HO := if b = true then .dT [] else .dK []
theorem o0_new (b : Bool) : New0 (o0 b) := by cases b; exact .inl rfl; exact .inr rfl
theorem o0_rep {K : PySem.W.Frag} {F : Hp} (b : Bool) : RepD K F (o0 b) b [] := by cases b; exact .k .nil; exact .t .nil
section
variable {W : Wo} {X : Cx} {E : WX} {U : List Nat}
def compD (b : Bool) (ρ : En) (vs : List Nat) (p : Pu) (t : Sm W Bool) (kf vf : Ev W) : List Val → List (Val × Val) → W.S → R W.S OT
  | [], acc, s => .ok (.oD b acc) s
  | x :: xs, acc, s => match p x (wipeE ρ vs) with
    | none => .bad
    | some ρ1 => match t ρ1 s with
      | .ok c s1 => if c = true then match kf ρ1 s1 with
          | .ok k s2 => match vf ρ1 s2 with
            | .ok v s3 => match dkey k with
              | some d => if DK.isT d = b ∧ acc.length < sizeLine then compD b ρ vs p t kf vf xs (vput acc k d v) s3 else .bad
              | none => .bad
            | _ => .bad
          | _ => .bad
        else compD b ρ vs p t kf vf xs acc s1
      | _ => .bad
def fDc (b : Bool) (vs : List Nat) (it : Sm W (List Val)) (p : Pu) (t : Sm W Bool) (kf vf : Ev W) : Sm W OT := fun ρ s => (it ρ s).bind fun xs s1 => compD b ρ vs p t kf vf xs [] s1
theorem dc_run {K : PySem.W.Frag} {b : Bool} {vs : List Nat} {it : Sm W (List Val)} {p : Pu} {t : Sm W Bool} {kf vf : Ev W} {σ : L2.St} {H : Hp} {Q : VK} (hq : tG W K E (pF K) (fDc b vs it p t kf vf) σ H Q) :
    tDcV (o0 b) (fun σ H R => tG W K E (pI K U) it σ H R) (tVG W K vs p) (tG W K eN pT t) (tG W K eN (pV K) kf) (tG W K eN (pV K) vf) vs σ H Q := by
  obtain ⟨G0, ρ, s0, r0, hq⟩ := hq
  refine tG.mk r0 (Pst.mono (Pst.bind (P := pI K U H) hq) ?_)
  rintro J H1 ⟨G1, s1, xs, x1, r1, yl, h1⟩ D hD
  have dF : G1.F D = none := r1.toRelW.free hD
  have dA : ∀ i, ¬ G1.ad i D := fun i z => by
    obtain ⟨_, ⟨o, e, _⟩, _⟩ := r1.own i D z
    rw [hD] at e; cases e
  have dP : ¬ G1.fp D := fun z => by
    obtain ⟨_, ⟨o, e⟩, _⟩ := W.own r1.wrl z
    rw [hD] at e; cases e
  refine ⟨fun i m H' => m = xs.length - i ∧ i ≤ xs.length ∧ ∃ G' s' ob acc, Nx G1 G' H1 H' ∧ Rel W K G' ρ s' σ H' ∧ H' D = some ob ∧ RepD K G'.F ob b acc ∧ G'.F D = none ∧ ¬ G'.fp D ∧
    Pst W K E (pF K H) G1 ρ σ H1 (compD b ρ vs p t kf vf (xs.drop i) acc s') Q, ⟨xs.length, by simp, Nat.zero_le _, G1, s1, o0 b, [], (Nx.refl _ _).lay hD, r1.lay dF dP dA (o0_rep (K := K) (F := G1.F) b).nt, upd_same, o0_rep b, dF, dP, by rw [List.drop_zero]; exact h1⟩, ?_⟩
  rintro i m H' ⟨rfl, hile, G', s', ob, acc, x', r', hD', rs, dF', dP', h'⟩
  have pins : ∀ a i, i ∈ U → G1.ad i a → H' a = H1 a := fun a i hi z => by
    obtain ⟨q1, ⟨o, q2, _⟩, q3⟩ := r1.own i a z
    rw [q2]
    exact x'.keep a o q2 q3
  have Y := yl G'.F H' x'.sub r'.sub r'.tups pins i
  by_cases hlt : i < xs.length
  · refine .inr ?_
    have ex : xs[i]? = some xs[i] := by simp [hlt]
    obtain ⟨hgo, hy⟩ := Y.1 _ ex
    rw [List.drop_eq_getElem_cons hlt] at h'
    unfold compD at h'
    refine ⟨hgo, fun H2 => ∃ m', m' < xs.length - i ∧ (m' = xs.length - (i + 1) ∧ i + 1 ≤ xs.length ∧ ∃ G' s' ob acc, Nx G1 G' H1 H2 ∧ Rel W K G' ρ s' σ H2 ∧ H2 D = some ob ∧ RepD K G'.F ob b acc ∧ G'.F D = none ∧ ¬ G'.fp D ∧
      Pst W K E (pF K H) G1 ρ σ H1 (compD b ρ vs p t kf vf (xs.drop (i + 1)) acc s') Q), fun H2 z => z, fun x H3 y => ?_⟩
    obtain ⟨G3, x3, r3, rp3⟩ : ∃ G3, Nx G' G3 H' H3 ∧ Rel W K G3 ρ s' σ H3 ∧ Rep K G3.F x xs[i] := by
      rcases hy x H3 y with ⟨rfl, rp⟩ | ⟨q, ws, vs, hq, rfl, rfl, ev, rs⟩
      · exact ⟨G', Nx.refl _ _, r', rp⟩
      · obtain ⟨hF, hH⟩ := r'.toRelW.fresh (o := .tup ws) hq (nd_tup ws)
        exact ⟨_, hF, r'.next hF hH, by rw [ev]; exact .tup upd_same (rs.mono (Sub.upd (r'.toRelW.free hq)))⟩
    have x13 := x'.trans x3
    obtain ⟨hD3, dF3, dP3⟩ := x3.bare r3.toRelW hD' rs.nt dF' dP'
    have r3w := r3.wipe vs
    cases ep : p xs[i] (wipeE ρ vs) with
    | none => rw [ep] at h'; exact h'.elim
    | some ρ1 =>
      rw [ep] at h'
      refine ⟨G3.hide vs, wipeE ρ vs, s', xs[i], ρ1, r3w, rp3, ep, fun G4 σ4 x4 o4 o4' r4 => ⟨wipe_back o4', tG.mk (P := fun _ => pT H3) r4 ?_⟩⟩
      have fin : ∀ {G5 : Gh} {H5 : Hp} {s5 : W.S} {ob5 : HO} {acc5 : List (Val × Val)}, Nx G4 G5 H3 H5 → RelW W G5 s5 H5 → ∀ {H6 : Hp}, (H6 = H5 ∧ ob5 = ob ∨ H6 = upd H5 D ob5) → RepD K G5.F ob5 b acc5 →
          Pst W K E (pF K H) G1 ρ σ H1 (compD b ρ vs p t kf vf (xs.drop (i + 1)) acc5 s5) Q →
          ∃ m', m' < xs.length - i ∧ (m' = xs.length - (i + 1) ∧ i + 1 ≤ xs.length ∧ ∃ G' s' ob acc, Nx G1 G' H1 H6 ∧ Rel W K G' ρ s' σ H6 ∧ H6 D = some ob ∧ RepD K G'.F ob b acc ∧ G'.F D = none ∧ ¬ G'.fp D ∧
            Pst W K E (pF K H) G1 ρ σ H1 (compD b ρ vs p t kf vf (xs.drop (i + 1)) acc s') Q) := by
        intro G5 H5 s5 ob5 acc5 x5 rw5 H6 h6 rs5 hp
        have x35 := x4.unhide x5
        have r5 := r3.next x35 rw5.reset
        have x15 := x13.trans x35
        obtain ⟨hD5, dF5, dP5⟩ := x35.bare r5.toRelW hD3 rs.nt dF3 dP3
        refine ⟨_, by omega, rfl, hlt, { G5 with ad := G3.ad }, s5, ob5, acc5, ?_⟩
        rcases h6 with ⟨rfl, rfl⟩ | rfl
        · exact ⟨x15, r5, hD5, rs5, dF5, dP5, hp⟩
        · refine ⟨x15.lay hD, r5.lay dF5 dP5 (fun j => ?_) rs5.nt, upd_same, rs5, dF5, dP5, hp⟩
          show ¬ G3.ad j D
          rw [x13.ad]; exact dA j
      dsimp only at h'
      cases et : t ρ1 s' with
      | bad => rw [et] at h'; exact h'.elim
      | exc c n s2 => rw [et] at h'; exact h'.elim
      | ok c s2 =>
        rw [et] at h'
        rintro G5 H5 c' x5 r5 rfl
        cases c' with
        | false => exact fin x5 r5.toRelW (.inl ⟨rfl, rfl⟩) (rs.mono (x3.sub.trans (x4.sub.trans x5.sub))) h'
        | true =>
          dsimp only at h'
          rw [if_pos rfl] at h' ⊢
          refine tG.mk (P := fun _ => pV K H5) r5 ?_
          cases ek : kf ρ1 s2 with
          | bad => rw [ek] at h'; exact h'.elim
          | exc c n s3 => rw [ek] at h'; exact h'.elim
          | ok k s3 =>
            rw [ek] at h'
            rintro G6 H6 y6 x6 r6 rp6
            have rp6 : Rep K G6.F y6 k := rp6
            refine tG.mk (P := fun _ => pV K H6) r6 ?_
            dsimp only at h'
            cases ef : vf ρ1 s3 with
            | bad => rw [ef] at h'; exact h'.elim
            | exc c n s4 => rw [ef] at h'; exact h'.elim
            | ok v s4 =>
              rw [ef] at h'
              rintro G7 H7 z7 x7 r7 rp7
              have rp7 : Rep K G7.F z7 v := rp7
              dsimp only at h'
              split at h'
              · rename_i d ed
                split at h'
                · rename_i hz
                  have x47 := x5.trans (x6.trans x7)
                  have x37 := x4.unhide x47
                  obtain ⟨hD7, _, _⟩ := x37.bare (r3.next x37 r7.toRelW.reset).toRelW hD3 rs.nt dF3 dP3
                  obtain ⟨o', dp, rs'⟩ := (rs.mono (x3.sub.trans (x4.sub.trans x47.sub))).put hD7 r7.sub (rp6.mono x7.sub) rp7 ed hz.1 hz.2
                  exact ⟨_, dp, fin x47 r7.toRelW (.inr rfl) rs' h'⟩
                · exact h'.elim
              · exact h'.elim
  · have e : i = xs.length := by omega
    subst e
    refine .inl ⟨Y.2 (Nat.le_refl _), ?_⟩
    rw [List.drop_length] at h'
    refine h' G' H' (.ref D) x' r' ⟨fun a => a = D, rs.own hD', ?_⟩
    rintro a rfl
    exact ⟨x1.there a hD, dF', ⟨_, hD', rs.nt⟩, dP', fun j => by rw [x'.ad]; exact dA j⟩
variable {kx vx tg iter : Expr} {ifs : List Expr} {scope : Scope} {own : List (Str × Nat)} {pos : Pos} {it : Sm W (List Val)} {p : Pu} {t : Sm W Bool} {kf vf : Ev W}
theorem vf_dc {vs : List Nat} (b : Bool) (hu : X.A.units < cLine) (hc : X.calm = true) (hN : X.N.Nodup) (ok : BlkOk X.N X.env.scope scope own) (hvs : own.map (·.2) = vs) (hi : VI W X E U tg iter it)
    (hg : ∀ (s : Shared) (H : Hp) (C : Addr) (cl : List (Str × Addr)) (fp : List Addr), VG W (X.blk s H scope (compEnvC scope cl C X.env) fp) vs tg p)
    (ht : ∀ (s : Shared) (H : Hp) (C : Addr) (cl : List (Str × Addr)) (fp : List Addr), VTs W (X.blk s H scope (compEnvC scope cl C X.env) fp) ifs t)
    (hk : ∀ (s : Shared) (H : Hp) (C : Addr) (cl : List (Str × Addr)) (fp : List Addr), VE W (X.blk s H scope (compEnvC scope cl C X.env) fp) eN kx kf)
    (hv : ∀ (s : Shared) (H : Hp) (C : Addr) (cl : List (Str × Addr)) (fp : List Addr), VE W (X.blk s H scope (compEnvC scope cl C X.env) fp) eN vx vf) (hs : ∀ x, foldedSetIterable iter X.env x = pure x := by intro _; rfl) :
    VF W X E (.DictComp kx vx [⟨tg, iter, ifs, 0⟩] scope pos) (fDc b vs it p t kf vf) := by
  subst hvs
  exact PE.imp (pe_dcV (g := tVG W X.K (own.map fun x : Str × Nat => x.2) p) (tt := tG W X.K eN pT t) (tk := tG W X.K eN (pV X.K) kf) (tv := tG W X.K eN (pV X.K) vf) (o0_new b) hu hc hN hi ok hg ht hk hv hs) fun _ _ _ h => dc_run h
/-- name = {..} -/
theorem vs_setDc {vs : List Nat} {T : List Nat} {i : Nat} {y : Str} {py spos : Pos} (b : Bool) (hi' : i ∈ T) (hu : X.A.units < cLine) (hc : X.calm = true) (hN : X.N.Nodup) (ok : BlkOk X.N X.env.scope scope own) (hvs : own.map (·.2) = vs) (hi : VI W X E U tg iter it)
    (hg : ∀ (s : Shared) (H : Hp) (C : Addr) (cl : List (Str × Addr)) (fp : List Addr), VG W (X.blk s H scope (compEnvC scope cl C X.env) fp) vs tg p)
    (ht : ∀ (s : Shared) (H : Hp) (C : Addr) (cl : List (Str × Addr)) (fp : List Addr), VTs W (X.blk s H scope (compEnvC scope cl C X.env) fp) ifs t)
    (hk : ∀ (s : Shared) (H : Hp) (C : Addr) (cl : List (Str × Addr)) (fp : List Addr), VE W (X.blk s H scope (compEnvC scope cl C X.env) fp) eN kx kf)
    (hv : ∀ (s : Shared) (H : Hp) (C : Addr) (cl : List (Str × Addr)) (fp : List Addr), VE W (X.blk s H scope (compEnvC scope cl C X.env) fp) eN vx vf)
    (hyl : X.env.scope.names.lookup y = some .local) (hl : (py.line == pos.line) = true) (ha : (scope.names.any fun (n, k) => n == y && (k == .local || k == .cell)) = false) (hy : X.N[i]? = some y := by rfl) (hkk : X.env.scope.kind = .function := by rfl)
    (hs : ∀ x, foldedSetIterable iter X.env x = pure x := by intro _; rfl) :
    VS W X E T (.Assign [.Name y py] (.DictComp kx vx [⟨tg, iter, ifs, 0⟩] scope pos) spos) (cSetF i (fDc b vs it p t kf vf)) := by
  subst hvs
  exact PS.imp (ps_setDcV (g := tVG W X.K (own.map fun x : Str × Nat => x.2) p) (tt := tG W X.K eN pT t) (tk := tG W X.K eN (pV X.K) kf) (tv := tG W X.K eN (pV X.K) vf) (o0_new b) hu hc hN hy hyl (swD_true hkk hyl hl ha) hi ok hg ht hk hv hs) fun D σ H ⟨G, ρ, s, r, h⟩ => by
    refine dc_run (E := E) (tG.mk (f := fDc b (own.map (·.2)) it p t kf vf) (P := pF X.K) r (Pst.mono (PstS.goAt (P := pF X.K H) h) ?_))
    rintro w H1 ⟨G1, s1, t, x1, r1, ⟨A, ro, hA⟩, h1⟩
    exact h1 (G1.put i A) H1 _ (Ns.put (x1.ns T) hi' fun a z => .inr (hA a z).1) (Off.set hi') (Off.set hi') (r1.put ro fun a z => ⟨(hA a z).2.1, (hA a z).2.2.1, (hA a z).2.2.2.1, fun j _ => (hA a z).2.2.2.2 j⟩)

/-! ### 2. an own dict is walked -/
theorem dict_lock {K : PySem.W.Frag} {G : Gh} {ρ : En} {s : W.S} {σ : L2.St} {H : Hp} {i : Nat} {b : Bool} {kvs : List (Val × Val)} (r : Rel W K G ρ s σ H) (e : ρ[i]? = some (some (.oD b kvs))) :
    ∃ d u, σ[i]? = some (some (.ref d)) ∧ H d = some u ∧ Mut (some u) ∧ G.ad i d ∧ RepD K G.F u b kvs ∧ ∀ od, Rel W K G (ρ.set i (some (.oR b kvs))) s σ (upd H d (.frz od u)) := by
  obtain ⟨w1, A1, q⟩ := r.at (π := []) e rfl
  obtain ⟨w, hw, pw⟩ := q.path
  have pw : w1 = w := pw
  subst pw
  have qr := q.rep
  cases qr with
  | oK ha hA rp => exact ⟨_, _, hw, ha, True.intro, q.own _ hA, .k rp, fun od => (q.one r hA (nd_frz _ _).2 (.oRK upd_same hA rp)).1⟩
  | oDT ha hA rp => exact ⟨_, _, hw, ha, True.intro, q.own _ hA, .t rp, fun od => (q.one r hA (nd_frz _ _).2 (.oRT upd_same hA rp)).1⟩
theorem dict_unlock {K : PySem.W.Frag} {G : Gh} {ρ : En} {s : W.S} {σ : L2.St} {H : Hp} {i : Nat} {b : Bool} {kvs : List (Val × Val)} {d : Addr} {od : Obj} {u : HO} (r : Rel W K G ρ s σ H) (e : ρ[i]? = some (some (.oR b kvs)))
    (hs : σ[i]? = some (some (.ref d))) (hd : H d = some (.frz od u)) : Rel W K G (ρ.set i (some (.oD b kvs))) s σ (upd H d u) := by
  obtain ⟨w1, A1, q⟩ := r.at (π := []) e rfl
  obtain ⟨w, hw, pw⟩ := q.path
  have pw : w1 = w := pw
  subst pw
  rw [hs] at hw
  have qr := q.rep
  cases hw
  cases qr with
  | oRK ha hA rp =>
    rw [hd] at ha; cases ha
    exact (q.one r hA (fun _ z => (by cases z)) (.oK upd_same hA rp)).1
  | oRT ha hA rp =>
    rw [hd] at ha; cases ha
    exact (q.one r hA (fun _ z => (by cases z)) (.oDT upd_same hA rp)).1
/-- a statement during which the dict in slot i is but read -/
def cLock (i : Nat) (c : Cm W) : Cm W := fun ρ s => match ρ[i]? with
  | some (some (.oD b kvs)) => match c (ρ.set i (some (.oR b kvs))) s with
    | .nx ρ' s' => .nx (ρ'.set i (some (.oD b kvs))) s'
    | .bk ρ' s' => .bk (ρ'.set i (some (.oD b kvs))) s'
    | .ct ρ' s' => .ct (ρ'.set i (some (.oD b kvs))) s'
    | .rt (.sh v) s' => .rt (.sh v) s'
    | _ => .bad
  | _ => .bad
theorem lock_ns {T : List Nat} {G G' : Gh} {H H' : Hp} {i : Nat} {d : Addr} {od : Obj} {u : HO} (hi : i ∉ T) (x : Ns T G G' (upd H d (.frz od u)) H') (hd : H d = some u) : Ns T G G' H (upd H' d u) where
  sub := x.sub
  keep := fun a o e n k => by
    by_cases q : a = d
    · subst q; rw [hd] at e; cases e; exact upd_same
    · rw [upd_ne q]; exact x.keep a o (by rw [upd_ne q]; exact e) n k
  there := fun a h => by
    by_cases q : a = d
    · subst q; rw [upd_same] at h; cases h
    · rw [upd_ne q] at h
      have := x.there a h
      rw [upd_ne q] at this; exact this
  adN := x.adN
  adT := fun j a hj z => by
    rcases x.adT j a hj z with y | y
    · exact .inl y
    · refine .inr ?_
      by_cases q : a = d
      · subst q; rw [upd_same] at y; cases y
      · rw [upd_ne q] at y; exact y
  fp := fun a z => by
    rcases x.fp a z with y | y
    · exact .inl y
    · refine .inr ?_
      by_cases q : a = d
      · subst q; rw [upd_same] at y; cases y
      · rw [upd_ne q] at y; exact y
  fz := fun a o z => by
    rcases x.fz a o z with y | y | y
    · exact .inl y
    · refine .inr (.inl ?_)
      by_cases q : a = d
      · subst q; rw [upd_same] at y; cases y
      · rw [upd_ne q] at y; exact y
    · exact .inr (.inr y)
theorem lock_nx {G G' : Gh} {H H' : Hp} {d : Addr} {od : Obj} {u : HO} (x : Nx G G' (upd H d (.frz od u)) H') (hd : H d = some u) : Nx G G' H (upd H' d u) := by
  have y := lock_ns (i := 0) (T := []) (by simp) (x.ns []) hd
  exact ⟨y.sub, fun a o e n => y.keep a o e n fun _ z => (by cases z), y.there, x.ad, y.fp, fun a o e => by
    rcases y.fz a o e with q | q | q | ⟨i, q, _⟩ | q
    · exact .inl q
    · exact .inr (.inl q)
    · exact .inr (.inr (.inl q))
    · cases q
    · exact .inr (.inr (.inr q))⟩
theorem off_back {α : Type} {T : List Nat} {i : Nat} {l l' : List α} {a b : α} (hi : i ∉ T) (x : Off T (l.set i a) l') (e : l[i]? = some b) : Off T l (l'.set i b) := by
  have hl : l'.length = l.length := by rw [x.1, List.length_set]
  refine ⟨by rw [List.length_set, hl], fun j hj => ?_⟩
  by_cases q : j = i
  · subst q
    have := (List.getElem?_eq_some_iff.mp e).1
    rw [List.getElem?_set_self (by omega), e]
  · rw [List.getElem?_set_ne (Ne.symm q), x.2 j hj, List.getElem?_set_ne (Ne.symm q)]
theorem vs_lock {T : List Nat} {st : Stmt} {c : Cm W} (i : Nat) (hi : i ∉ T) (h : VS W X E T st c) : VS W X E T st (cLock i c) := PS.imp (ps_lock h) fun D σ H ⟨G, ρ, s, r, hq⟩ => by
  unfold cLock at hq
  split at hq
  · rename_i b kvs e
    obtain ⟨d, u, hs, hd, mu, hA, rd, lk⟩ := dict_lock r e
    refine ⟨d, u, hd, mu, fun od => ⟨G, _, s, lk od, ?_⟩⟩
    have il : i < ρ.length := (List.getElem?_eq_some_iff.mp e).1
    have kept : ∀ {G' : Gh} {H' : Hp}, Ns T G G' (upd H d (.frz od u)) H' → H' d = some (.frz od u) := fun x => x.keep d _ upd_same (r.own i d hA).2.2 fun j hj z => r.dis i j d (fun q => hi (by rw [q]; exact hj)) hA z
    have slotR : ∀ {ρ' : En}, Off T (ρ.set i (some (.oR b kvs))) ρ' → ρ'[i]? = some (some (.oR b kvs)) := fun o => by rw [o.2 i hi, List.getElem?_set_self il]
    have slotS : ∀ {σ' : L2.St}, Off T σ σ' → σ'[i]? = some (some (.ref d)) := fun o => by rw [o.2 i hi, hs]
    cases q : c (ρ.set i (some (.oR b kvs))) s with
    | nx ρ' s' =>
      rw [q] at hq
      exact fun G' H' σ' x o1 o2 r' => ⟨kept x, hq G' _ σ' (lock_ns hi x hd) (off_back hi o1 e) o2 (dict_unlock r' (slotR o1) (slotS o2) (kept x))⟩
    | bk ρ' s' =>
      rw [q] at hq
      exact fun G' H' σ' x o1 o2 r' => ⟨kept x, hq G' _ σ' (lock_ns hi x hd) (off_back hi o1 e) o2 (dict_unlock r' (slotR o1) (slotS o2) (kept x))⟩
    | ct ρ' s' =>
      rw [q] at hq
      exact fun G' H' σ' x o1 o2 r' => ⟨kept x, hq G' _ σ' (lock_ns hi x hd) (off_back hi o1 e) o2 (dict_unlock r' (slotR o1) (slotS o2) (kept x))⟩
    | rt t s' =>
      rw [q] at hq
      cases t with
      | sh v =>
        rintro G' H' w x rw' ⟨A, ro, hA'⟩
        refine ⟨kept x, hq G' _ w (lock_ns hi x hd) ?_ ⟨fun _ => False, ?_, fun _ z => z.elim⟩⟩
        · have dF : G'.F d = none := by
            cases qq : G'.F d with
            | none => rfl
            | some o =>
              have q2 := rw'.sub _ _ qq
              rw [kept x] at q2; cases q2
              rcases x.fz d _ qq with z | z | z | ⟨j, hj, z⟩ | ⟨ws, z⟩
              · rw [(r.own i d hA).1] at z; cases z
              · rw [upd_same] at z; cases z
              · exact absurd z (r.own i d hA).2.2
              · exact absurd z (r.dis i j d (fun q => hi (by rw [q]; exact hj)) hA)
              · cases z
          have dP : ¬ G'.fp d := fun z => by
            rcases x.fp d z with y | y
            · exact (r.own i d hA).2.2 y
            · rw [upd_same] at y; cases y
          refine ⟨fun a o z => ?_, fun a ws z => ?_, rw'.lk, W.mono rw'.wrl (Sub.refl _) fun a z => ⟨upd_ne fun y => dP (by rw [← y]; exact z), (W.own rw'.wrl z).1⟩⟩
          · rw [upd_ne (ne_of_none z dF)]; exact rw'.sub a o z
          · by_cases y : a = d
            · subst y; rw [upd_same] at z; cases z; exact absurd rfl (rd.nt ws)
            · rw [upd_ne y] at z; exact rw'.tups a ws z
        · cases ro with
          | sh rp => exact .sh rp
      | _ => exact hq.elim
    | exc cc n ρ' s' => rw [q] at hq; exact hq.elim
    | bad => rw [q] at hq; exact hq.elim
  · exact hq.elim
/-- a new thing, made while the dict in slot i is but read -/
def fLock (i : Nat) (f : Sm W OT) : Sm W OT := fun ρ s => match ρ[i]? with
  | some (some (.oD b kvs)) => match f (ρ.set i (some (.oR b kvs))) s with
    | .ok t s' => .ok t s'
    | _ => .bad
  | _ => .bad
theorem vf_lock {e : Expr} {f : Sm W OT} (i : Nat) (h2 : VF W X E e f) : VF W X E e (fLock i f) := PE.imp (pe_lock h2) fun σ H Q ⟨G, ρ, s, r, hq⟩ => by
  unfold fLock at hq
  split at hq
  · rename_i b kvs e
    obtain ⟨d, u, hs, hd, mu, hA, rd, lk⟩ := dict_lock r e
    refine ⟨d, u, hd, mu, fun od => ⟨G, _, s, lk od, ?_⟩⟩
    have il : i < ρ.length := (List.getElem?_eq_some_iff.mp e).1
    cases q : f (ρ.set i (some (.oR b kvs))) s with
    | bad => rw [q] at hq; exact hq.elim
    | exc c n s' => rw [q] at hq; exact hq.elim
    | ok t s' =>
      rw [q] at hq
      rintro G' H' w x r' ⟨A, ro, hAA⟩
      have hk : H' d = some (.frz od u) := x.keep d _ upd_same (r.own i d hA).2.2
      have r2 := dict_unlock r' (by rw [List.getElem?_set_self il]) hs hk
      rw [List.set_set] at r2
      have er : ρ.set i (some (.oD b kvs)) = ρ := by
        apply List.ext_getElem?
        intro j
        by_cases q : j = i
        · subst q; rw [List.getElem?_set_self il, e]
        · rw [List.getElem?_set_ne (Ne.symm q)]
      rw [er] at r2
      refine ⟨hk, hq G' _ w (lock_nx x hd) r2 ⟨A, ro.mono (Sub.refl _) (fun _ z => z) (fun a z => upd_ne fun y => ?_), fun a z => ?_⟩⟩
      · have := (hAA a z).1
        subst y; rw [upd_same] at this; cases this
      · obtain ⟨h1, h2, h3, h4, h5⟩ := hAA a z
        have nd : a ≠ d := fun y => by subst y; rw [upd_same] at h1; cases h1
        rw [upd_ne nd] at h1 ⊢
        exact ⟨h1, h2, h3, h4, h5⟩
  · exact hq.elim
end
end VL

/-! VL14: built-in functions: len, min, abs, int; in; sorted. -/
namespace VL
open PySem PySem.Spec PyProof.Rows L2

/-! ### 1. arguments that are looked at -/
def pBs (K : PySem.W.Frag) : Hp → RP (List V) (List Val) := fun _ G H w v => ∃ B, Sub B H ∧ (∀ a o, B a = some o → ¬ G.fp a) ∧ Reps K B w v
def VAB (W : Wo) (X : Cx) (E : WX) (es : List Expr) (f : Sm W (List Val)) : Prop := PA X es (tG W X.K E (pBs X.K) f)
section
variable {W : Wo} {X : Cx} {E : WX}
theorem pBs.back {K : PySem.W.Frag} : Back (pBs K) := fun _ p => p
theorem offW_sub {G : Gh} {H B : Hp} (s : Sub B H) (n : ∀ a o, B a = some o → ¬ G.fp a) : Sub B (offW G H) := fun a o e => by rw [offW_at (n a o e)]; exact s a o e
variable {e : Expr} {es : List Expr} {f : Ev W} {fs : Sm W (List Val)} {pos p1 : Pos}
theorem vab_nil : VAB W X E [] eNil := PA.imp pa_nil fun σ H Q ⟨G, ρ, s, r, h⟩ => Pst.done r h ⟨fun _ => none, fun _ _ z => (by cases z), fun _ _ z => (by cases z), .nil⟩
theorem vab_cons (h : VB W X E e f) (hr : VAB W X E es fs) (hs : starEach (e :: es) X.env = (false, eval e X.env) :: starEach es X.env := by rfl) : VAB W X E (e :: es) (eCons f fs) := PA.imp (pa_cons h hr hs) fun σ H Q hq => by
  have h' := seq2 (P := pB X.K) (P' := pBs X.K) (P2 := pBs X.K) (f := f) (f2 := fs) (g := fun v vs _ s2 => .ok (v :: vs) s2) pBs.back pB.keeps hq
  refine h'.mono fun w H1 h' => h'.mono ?_
  rintro u H2 ⟨G, ρ, s, x, y, rl, ⟨B1, s1, n1, r1⟩, ⟨B2, s2, n2, r2⟩, h'⟩
  exact h'.done rl ⟨offW G H2, fun a o e => (offW_some e).1, fun a o e => (offW_some e).2, .cons (r1.mono (offW_sub s1 n1)) (r2.mono (offW_sub s2 n2))⟩
/-- a call by what its rule asks: no new object comes -/
def FlatC (K : PySem.W.Frag) (r : List V → Hp → VK → Prop) (g : List Val → Option Val) : Prop := ∀ (H : Hp) (ws : List V) (vs : List Val) (v : Val) (Q : VK), Reps K H ws vs → g vs = some v → (∀ z, (∀ F, Rep K F z v) → Q z H) → r ws H Q
def eCl (g : List Val → Option Val) (fs : Sm W (List Val)) : Ev W := fun ρ s => (fs ρ s).bind fun vs s1 => R.opt (g vs) s1
variable {x : Str} {id : String} {r : List V → Hp → VK → Prop} {g : List Val → Option Val}
theorem flatC_run {σ : L2.St} {H : Hp} {Q : VK} (hf : FlatC X.K r g) (h : tG W X.K E (pV X.K) (eCl g fs) σ H Q) : tG W X.K E (pBs X.K) fs σ H fun ws H1 => r ws H1 Q := by
  refine (tG.bind (P := pBs X.K) h).mono ?_
  rintro ws H1 ⟨G, ρ, s, vs, rl, ⟨B, sb, nb, rs⟩, h'⟩
  obtain ⟨v, e, h'⟩ := Pst.opt h'
  exact hf H1 ws vs v Q (rs.mono sb) e fun z rz => h'.done rl (rz _)
theorem ve_callB (hc : CallR X (.builtin id) r) (hf : FlatC X.K r g) (hg : Gl X x) (hm : X.mg x = none) (hv : bootBuiltins x = some (.builtin id)) (ha : VAB W X E (e :: es) fs) (hn : x ≠ "__name__" := by decide) (hdb : (x == ("__debug__" : Str)) = false := by decide)
    (he : starEach (e :: es) X.env = (false, eval e X.env) :: starEach es X.env := by rfl) (hpl : (backTo pos (starEach es X.env)).any (·.1) = false := by rfl) : VE W X E (.Call (.Name x p1) (e :: es) [] pos) (eCl g fs) :=
  PE.imp (pe_callB hc hg hm hv ha hn hdb he hpl) fun _ _ _ h => flatC_run hf h
theorem ve_callT {T : String} (hc : CallR X (.type T) r) (hf : FlatC X.K r g) (hg : Gl X x) (hm : X.mg x = none) (hv : bootBuiltins x = some (.type T)) (ha : VAB W X E (e :: es) fs) (hn : x ≠ "__name__" := by decide) (hdb : (x == ("__debug__" : Str)) = false := by decide)
    (he : starEach (e :: es) X.env = (false, eval e X.env) :: starEach es X.env := by rfl) (hpl : (backTo pos (starEach es X.env)).any (·.1) = false := by rfl) : VE W X E (.Call (.Name x p1) (e :: es) [] pos) (eCl g fs) :=
  PE.imp (pe_callTy hc hg hm hv ha hn hdb he hpl) fun _ _ _ h => flatC_run hf h
theorem Reps.one {K : PySem.W.Frag} {F : Hp} {ws : List V} {v : Val} (r : Reps K F ws [v]) : ∃ w, ws = [w] ∧ Rep K F w v := by
  cases r with
  | cons r t => cases t; exact ⟨_, rfl, r⟩
theorem Reps.two {K : PySem.W.Frag} {F : Hp} {ws : List V} {v u : Val} (r : Reps K F ws [v, u]) : ∃ w z, ws = [w, z] ∧ Rep K F w v ∧ Rep K F z u := by
  cases r with
  | cons r t =>
    obtain ⟨z, rfl, r2⟩ := t.one
    exact ⟨_, _, rfl, r, r2⟩
/-! len, of lists, tuples, dicts, texts -/
def gLen : List Val → Option Val
  | [.lst xs] => some (.int xs.length)
  | [.tup xs] => some (.int xs.length)
  | [.wtup xs] => some (.int xs.length)
  | [.wlst xs] => some (.int xs.length)
  | [.dic _ kvs] => some (.int kvs.length)
  | [.str z] => if z.length ≤ sizeLine then some (.int z.length) else none
  | _ => none
def rLenD : List V → Hp → VK → Prop := fun xs H Q => ∃ a n, xs = [.ref a] ∧ ((∃ l, Rd H a (.dK l) ∧ n = l.length) ∨ ∃ l, Rd H a (.dT l) ∧ n = l.length) ∧ Q (.int (n : Nat)) H
theorem call_lenV : CallR X (.builtin "len") rLenD := by
  intro pins s σ H xs us Q I r h
  obtain ⟨a, n, rfl, hd, q⟩ := h
  obtain ⟨u, rfl, rx⟩ := vals1 r
  obtain rfl : u = .ref a := rx
  have hl := line63
  rcases hd with ⟨l, hd, rfl⟩ | ⟨l, hd, rfl⟩
  · exact d_len I hd fun t s' I' => ⟨.int _, H, I', ⟨t, rfl⟩, q⟩
  · obtain ⟨z, lo, ys, kt, dd⟩ := dt_rd I.hok hd
    have el : l.length = ys.length := Paired.length kt
    refine PySem.call_len_dictH lo dd (by omega) ?_
    rw [← el]
    exact ⟨.int _, H, I.tok _, ⟨_, rfl⟩, q⟩
def rLenV (K : PySem.W.Frag) : List V → Hp → VK → Prop := fun xs H Q => (∃ x n, xs = [x] ∧ LenV K x H n ∧ Q (.int n) H) ∨ rLenD xs H Q
theorem call_lenA : CallR X (.builtin "len") (rLenV X.K) := call_len.or call_lenV
theorem RepP.len2 {K : PySem.W.Frag} {F : Hp} {κ : Type} {l : List κ} {f : κ → Val × V} {kvs : List (Val × Val)} (h : RepP K F (l.map f) kvs) : l.length = kvs.length := by
  have := h.length
  rw [List.length_map] at this
  exact this
theorem flat_len : FlatC X.K (rLenV X.K) gLen := by
  intro H ws vs v Q rs e q
  unfold gLen at e
  split at e
  · cases e
    obtain ⟨w, rfl, r⟩ := rs.one
    obtain ⟨a, us, rfl, ha, rt⟩ := r.seqL
    exact .inl ⟨_, us.length, rfl, .inl ⟨us, SqL.of ha, rfl⟩, q _ fun F => by rw [rt.length]; exact .int _⟩
  · cases e
    obtain ⟨w, rfl, r⟩ := rs.one
    obtain ⟨a, us, rfl, ha, rt⟩ := r.seqT
    exact .inl ⟨_, us.length, rfl, .inr ⟨us, SqT.of ha, rfl⟩, q _ fun F => by rw [rt.length]; exact .int _⟩
  · cases e
    obtain ⟨w, rfl, r⟩ := rs.one
    obtain ⟨a, us, rfl, ha, rt⟩ := r.seqW
    exact .inl ⟨_, us.length, rfl, .inr ⟨us, ha, rfl⟩, q _ fun F => by rw [rt.length]; exact .int _⟩
  · cases e
    obtain ⟨w, rfl, r⟩ := rs.one
    obtain ⟨a, us, rfl, ha, rt⟩ := r.seqV
    exact .inl ⟨_, us.length, rfl, .inl ⟨us, ha, rfl⟩, q _ fun F => by rw [rt.length]; exact .int _⟩
  · cases e
    obtain ⟨w, rfl, r⟩ := rs.one
    cases r with
    | dK ha rp => exact .inr ⟨_, _, rfl, .inl ⟨_, ha, rfl⟩, q _ fun F => by rw [RepP.len2 rp]; exact .int _⟩
    | dT ha rp => exact .inr ⟨_, _, rfl, .inr ⟨_, ha, rfl⟩, q _ fun F => by rw [RepP.len2 rp]; exact .int _⟩
  · split at e
    · cases e
      obtain ⟨w, rfl, r⟩ := rs.one
      cases r.str_inv
      exact .inl ⟨_, _, rfl, ⟨by assumption, rfl⟩, q _ fun F => .int _⟩
    · cases e
  · cases e
theorem ve_len {a : Expr} {f : Ev W} (hg : Gl X "len") (hm : X.mg "len" = none) (ha : VB W X E a f) (h1 : starEach [a] X.env = (false, eval a X.env) :: starEach [] X.env := by rfl) : VE W X E (.Call (.Name "len" p1) [a] [] pos) (eCl gLen (eCons f eNil)) :=
  ve_callB call_lenA flat_len hg hm PySem.boot_len (vab_cons ha vab_nil h1) (he := h1)
/-! min, max of two, abs, int -/
def gMin : List Val → Option Val
  | [.int i, .int j] => some (.int (if j < i then j else i))
  | _ => none
def gMax : List Val → Option Val
  | [.int i, .int j] => some (.int (if j > i then j else i))
  | _ => none
def gAbs : List Val → Option Val
  | [.int i] => some (.int (if i < 0 then -i else i))
  | _ => none
def gInt : List Val → Option Val
  | [.int i] => some (.int i)
  | [.bl b] => some (.int (if b then 1 else 0))
  | _ => none
variable {a b : Expr} {fa fb : Ev W}
theorem ve_min (hc : X.calm = true) (hg : Gl X "min") (hm : X.mg "min" = none) (ha : VB W X E a fa) (hb : VB W X E b fb) (h1 : starEach [a, b] X.env = (false, eval a X.env) :: starEach [b] X.env := by rfl) (h2 : starEach [b] X.env = (false, eval b X.env) :: starEach [] X.env := by rfl)
    (hpl : (backTo pos (starEach [b] X.env)).any (·.1) = false := by rfl) : VE W X E (.Call (.Name "min" p1) [a, b] [] pos) (eCl gMin (eCons fa (eCons fb eNil))) :=
  ve_callB (call_min2 hc) (fun H ws vs v Q rs e q => by
    unfold gMin at e
    split at e
    · cases e
      obtain ⟨w, z, rfl, r1, r2⟩ := rs.two
      cases r1.int_inv; cases r2.int_inv
      exact ⟨_, _, rfl, q _ fun F => .int _⟩
    · cases e) hg hm (by rfl) (vab_cons ha (vab_cons hb vab_nil h2) h1) (he := h1) (hpl := hpl)
theorem ve_max (hc : X.calm = true) (hg : Gl X "max") (hm : X.mg "max" = none) (ha : VB W X E a fa) (hb : VB W X E b fb) (h1 : starEach [a, b] X.env = (false, eval a X.env) :: starEach [b] X.env := by rfl) (h2 : starEach [b] X.env = (false, eval b X.env) :: starEach [] X.env := by rfl)
    (hpl : (backTo pos (starEach [b] X.env)).any (·.1) = false := by rfl) : VE W X E (.Call (.Name "max" p1) [a, b] [] pos) (eCl gMax (eCons fa (eCons fb eNil))) :=
  ve_callB (call_max2 hc) (fun H ws vs v Q rs e q => by
    unfold gMax at e
    split at e
    · cases e
      obtain ⟨w, z, rfl, r1, r2⟩ := rs.two
      cases r1.int_inv; cases r2.int_inv
      exact ⟨_, _, rfl, q _ fun F => .int _⟩
    · cases e) hg hm (by rfl) (vab_cons ha (vab_cons hb vab_nil h2) h1) (he := h1) (hpl := hpl)
theorem ve_abs (hg : Gl X "abs") (hm : X.mg "abs" = none) (ha : VB W X E a fa) (h1 : starEach [a] X.env = (false, eval a X.env) :: starEach [] X.env := by rfl) : VE W X E (.Call (.Name "abs" p1) [a] [] pos) (eCl gAbs (eCons fa eNil)) :=
  ve_callB call_abs (fun H ws vs v Q rs e q => by
    unfold gAbs at e
    split at e
    · cases e
      obtain ⟨w, rfl, r1⟩ := rs.one
      cases r1.int_inv
      exact ⟨_, rfl, q _ fun F => .int _⟩
    · cases e) hg hm (by rfl) (vab_cons ha vab_nil h1) (he := h1)
theorem ve_intc (hg : Gl X "int") (hm : X.mg "int" = none) (ha : VB W X E a fa) (h1 : starEach [a] X.env = (false, eval a X.env) :: starEach [] X.env := by rfl) : VE W X E (.Call (.Name "int" p1) [a] [] pos) (eCl gInt (eCons fa eNil)) :=
  ve_callT call_int1 (fun H ws vs v Q rs e q => by
    unfold gInt at e
    split at e
    · cases e
      obtain ⟨w, rfl, r1⟩ := rs.one
      cases r1.int_inv
      exact .inl ⟨_, rfl, q _ fun F => .int _⟩
    · cases e
      obtain ⟨w, rfl, r1⟩ := rs.one
      cases r1.bl_inv
      exact .inr ⟨_, rfl, q _ fun F => .int _⟩
    · cases e) hg hm (by rfl) (vab_cons ha vab_nil h1) (he := h1)

/-! ### 2. in, not in -/
def dep50 (x : Val) : Bool := decide (x.toD.depth ≤ 50)
/-- among a list's or a tuple's items -/
def Val.items : Val → Option (List Val)
  | .lst xs => some xs
  | .tup xs => some xs
  | .wtup xs => some xs
  | _ => none
def inL (x y : Val) : Option Bool := match y.items with
  | some ys => if dfree x && dfree y && dep50 x then some (ys.any fun z => PyData.eqv z.toD x.toD) else none
  | none => none
def gIn (neg : Bool) (x y : Val) : Option Val := (inL x y).map fun b => .bl (b != neg)
theorem toDs_any {p : PyData → Bool} : ∀ ys : List Val, (Val.toDs ys).any p = ys.any fun z => p z.toD
  | [] => rfl
  | y :: ys => by show (y.toD :: Val.toDs ys).any p = _; rw [List.any_cons, List.any_cons, toDs_any ys]
theorem dfree_at {x : Val} (h : dfree x = true) : x.pure = true ∧ x.toD.plain = true := by
  unfold dfree at h
  rw [Bool.and_eq_true] at h
  exact h
theorem op_inV (neg : Bool) (hu : X.A.units + 64 < cLine) : OpV X (compareOp (if neg = true then .NotIn else .In)) (gIn neg) := by
  intro pins s σ H B w u v z x y r Q I sb r1 r2 q1 q2 hg h
  unfold gIn inL at hg
  cases ei : y.items with
  | none => rw [ei] at hg; cases hg
  | some ys =>
    rw [ei] at hg
    dsimp only at hg
    split at hg
    · rename_i h0
      cases hg
      rw [Bool.and_eq_true, Bool.and_eq_true] at h0
      obtain ⟨⟨hx, hy⟩, hd⟩ := h0
      have hd : x.toD.depth ≤ 50 := of_decide_eq_true hd
      obtain ⟨as, h1⟩ := Rep.reads I sb r1 q1 (dfree_at hx).1
      obtain ⟨bs, h2⟩ := Rep.reads I sb r2 q2 (dfree_at hy).1
      have lim : ∀ n : Nat, X.A.units + 1 + min n x.toD.depth < cLine := fun n => by
        have := Nat.min_le_right n x.toD.depth
        omega
      have fin : ∀ b : Bool, Q (.bl b) H → EP X pins σ Q (.bool b) s := fun b q => ⟨.bl b, H, I, rfl, q⟩
      have hq : Q (.bl ((ys.any fun z => PyData.eqv z.toD x.toD) != neg)) H := h _ fun F => .bl _
      rw [← toDs_any (p := fun y => PyData.eqv y x.toD)] at hq
      have sq : y = .lst ys ∨ y.toD = .tuple (Val.toDs ys) := by
        cases y with
        | lst _ => cases ei; exact .inl rfl
        | tup _ => cases ei; exact .inr rfl
        | wtup _ => cases ei; exact .inr rfl
        | _ => cases ei
      have hcl := (dfree_at hy).2
      rcases sq with rfl | et
      · have hcl : PyData.plainAll (Val.toDs ys) = true := hcl
        cases neg with
        | false => exact SeqAt.in_list_data h2 h1 hcl (dfree_at hx).2 (lim _) (fin _ (by simpa using hq))
        | true => exact SeqAt.notIn_list_data h2 h1 hcl (dfree_at hx).2 (lim _) (fin _ (by simpa using hq))
      · rw [et] at h2 hcl
        have hcl : PyData.plainAll (Val.toDs ys) = true := hcl
        cases neg with
        | false => exact SeqAt.in_tuple_data h2 h1 hcl (dfree_at hx).2 (lim _) (fin _ (by simpa using hq))
        | true => exact SeqAt.notIn_tuple_data h2 h1 hcl (dfree_at hx).2 (lim _) (fin _ (by simpa using hq))
    · cases hg
theorem vc_in (hu : X.A.units + 64 < cLine) (ha : VB W X E a fa) (hb : VB W X E b fb) (hm : behindInMarks .In b = false := by rfl) : VC W X E .In a b (e2 (gIn false) fa fb) := vcmp (OpV.to (op_inV false hu)) flat_V ha hb hm
theorem vc_nin (hu : X.A.units + 64 < cLine) (ha : VB W X E a fa) (hb : VB W X E b fb) (hm : behindInMarks .NotIn b = false := by rfl) : VC W X E .NotIn a b (e2 (gIn true) fa fb) := vcmp (OpV.to (op_inV true hu)) flat_V ha hb hm
/-- among a dict's keys -/
def gInD (neg : Bool) (x y : Val) : Option Val := match y with
  | .dic t kvs => (dget t kvs x).map fun o => .bl (o.isSome != neg)
  | _ => none
theorem op_dinV (neg : Bool) (hu : X.A.units + 1 < cLine) : OpV X (compareOp (if neg = true then .NotIn else .In)) (gInD neg) := by
  intro pins s σ H B w u v z x y r Q I sb r1 r2 q1 q2 hg h
  unfold gInD at hg
  split at hg
  · rename_i t kvs
    cases e : dget t kvs x with
    | none => rw [e] at hg; cases hg
    | some o =>
      rw [e] at hg; cases hg
      obtain ⟨a, y, rfl, dg, h3⟩ := r2.dget sb r1 e
      obtain rfl : z = Value.ref a := q2
      have eo : y.isSome = o.isSome := by
        rcases h3 with ⟨rfl, rfl⟩ | ⟨_, _, rfl, rfl, _⟩ <;> rfl
      have h : ∀ q, (∀ F, Rep X.K F q (.bl (o.isSome != neg))) → Q q H := h
      rw [← eo] at h
      cases neg with
      | false => exact d_in hu I dg q1 fun s3 I3 => ⟨.bl y.isSome, H, I3, rfl, by have := h (.bl (y.isSome != false)) fun F => .bl _; simpa using this⟩
      | true => exact d_notIn hu I dg q1 fun s3 I3 => ⟨.bl (!y.isSome), H, I3, rfl, by have := h (.bl (y.isSome != true)) fun F => .bl _; simpa using this⟩
  · cases hg
theorem vc_inD (hu : X.A.units + 1 < cLine) (ha : VB W X E a fa) (hb : VB W X E b fb) (hm : behindInMarks .In b = false := by rfl) : VC W X E .In a b (e2 (gInD false) fa fb) := vcmp (OpV.to (op_dinV false hu)) flat_V ha hb hm
theorem vc_ninD (hu : X.A.units + 1 < cLine) (ha : VB W X E a fa) (hb : VB W X E b fb) (hm : behindInMarks .NotIn b = false := by rfl) : VC W X E .NotIn a b (e2 (gInD true) fa fb) := vcmp (OpV.to (op_dinV true hu)) flat_V ha hb hm
end
end VL

/-! VL15: sorted. -/
namespace VL
open PySem PySem.Spec PyProof.Rows L2

/-- the tuples of a heap -/
def TupOf (H : Hp) : Hp := fun a => match H a with
  | some (.tup ws) => some (.tup ws)
  | _ => none
theorem TupOf.sub {H : Hp} : Sub (TupOf H) H := fun a o e => by
  unfold TupOf at e
  split at e
  · cases e; assumption
  · cases e
theorem TupOf.at {H : Hp} {a : Addr} {ws : List V} (h : H a = some (.tup ws)) : TupOf H a = some (.tup ws) := by unfold TupOf; rw [h]
theorem TupOf.le {W : Wo} {G : Gh} {s : W.S} {H : Hp} (r : RelW W G s H) : Sub (TupOf H) G.F := fun a o e => by
  unfold TupOf at e
  split at e
  · cases e; exact r.tups _ _ (by assumption)
  · cases e

mutual
theorem reads_lt {h : Heap} : ∀ {v : Value} {d : PyData} {as : List Addr}, Reads h v d as → ∀ b ∈ as, b < h.objs.size
  | _, _, _, .none, _, hb => by cases hb
  | _, _, _, .bool _, _, hb => by cases hb
  | _, _, _, .int _ _, _, hb => by cases hb
  | _, _, _, .str _ _, _, hb => by cases hb
  | _, _, _, .list e _ _ r, b, hb => by
    rcases List.mem_cons.mp hb with rfl | hb
    · exact Heap.lt_size e
    · exact readsAll_lt r b hb
  | _, _, _, .tuple _ _ _ r, b, hb => readsAll_lt r b hb
  | _, _, _, .dict e _ _ r1 r2, b, hb => by
    rcases List.mem_append.mp hb with hb | hb
    · rcases List.mem_cons.mp hb with rfl | hb
      · exact Heap.lt_size e
      · exact readsAll_lt r1 b hb
    · exact readsAll_lt r2 b hb
theorem readsAll_lt {h : Heap} : ∀ {vs : List Value} {ds : List PyData} {as : List Addr}, ReadsAll h vs ds as → ∀ b ∈ as, b < h.objs.size
  | _, _, _, .nil, _, hb => by cases hb
  | _, _, _, .cons r t, b, hb => by
    rcases List.mem_append.mp hb with hb | hb
    · exact reads_lt r b hb
    · exact readsAll_lt t b hb
end
/-! ### 1. what can be sorted -/
def allAlikeB (ds : List PyData) : Bool := ds.all fun d => ds.all fun d' => PySem.W.alike d d'
def tupB : PyData → Bool
  | .tuple (_ :: _) => true
  | _ => false
def otherB : PyData → Bool
  | .none => false
  | .tuple _ => false
  | _ => true
def sortableB (ds : List PyData) : Bool := ds.all tupB || ds.all otherB
theorem allAlike_of {ds : List PyData} (h : allAlikeB ds = true) : PySem.W.AllAlike ds := fun d hd d' hd' => by
  unfold allAlikeB at h
  rw [List.all_eq_true] at h
  have h2 := h d hd
  rw [List.all_eq_true] at h2
  exact h2 d' hd'
theorem sortable_of {ds : List PyData} (h : sortableB ds = true) : PySem.W.Sortable ds := by
  unfold sortableB at h
  rw [Bool.or_eq_true, List.all_eq_true, List.all_eq_true] at h
  rcases h with h | h
  · refine .inl fun d hd => ?_
    have := h d hd
    unfold tupB at this
    split at this
    · exact ⟨_, _, rfl⟩
    · cases this
  · refine .inr fun d hd => ?_
    have := h d hd
    unfold otherB at this
    split at this
    · cases this
    · cases this
    · rename_i h1 h2
      exact ⟨h1, h2⟩
def leV : Val → Val → Bool := PySem.W.dataLe false Val.toD
def sortOk (vs : List Val) : Bool := Val.pures vs && allAlikeB (Val.toDs vs) && sortableB (Val.toDs vs) && decide (vs.length ≤ sizeLine) && vs.all dep50
def sortL (vs : List Val) : Option (List Val) := if sortOk vs = true then some (vs.mergeSort leV) else none
theorem toDs_map : ∀ vs : List Val, Val.toDs vs = vs.map Val.toD
  | [] => rfl
  | v :: vs => by show v.toD :: Val.toDs vs = _; rw [toDs_map vs]; rfl
section
variable {X : Cx} {pins : List (Addr × Obj)} {σ : L2.St} {H B : Hp} {s : Shared}
theorem pures_mem : ∀ {vs : List Val} {v : Val}, Val.pures vs = true → v ∈ vs → v.pure = true
  | [], _, _, h => by cases h
  | a :: r, v, hp, h => by
    have hp : (a.pure && Val.pures r) = true := hp
    rw [Bool.and_eq_true] at hp
    rcases List.mem_cons.mp h with rfl | h
    · exact hp.1
    · exact pures_mem hp.2 h
theorem each_zip (I : Inv X pins σ H s) (sb : Sub B H) : ∀ {vs : List Val} {ws : List V} {us : List Value}, Reps X.K B ws vs → Vals ws us → Val.pures vs = true →
    PySem.W.EachIs (fun u (b : V × Val) => RelV b.1 u) us (ws.zip vs) ∧ PySem.W.EachIs (fun u (b : V × Val) => ∃ as, Reads s.heap u b.2.toD as) us (ws.zip vs)
  | [], _, _, .nil, .nil, _ => ⟨.nil, .nil⟩
  | v :: vs, _, _, .cons r rs, .cons q qs, hp => by
    have hp : (v.pure && Val.pures vs) = true := hp
    rw [Bool.and_eq_true] at hp
    obtain ⟨h1, h2⟩ := each_zip I sb rs qs hp.2
    exact ⟨.cons q h1, .cons (Rep.reads I sb r q hp.1) h2⟩
theorem each_vals : ∀ {us : List Value} {bs : List (V × Val)}, PySem.W.EachIs (fun u (b : V × Val) => RelV b.1 u) us bs → Vals (bs.map (·.1)) us
  | _, _, .nil => .nil
  | _, _, .cons h t => .cons h (each_vals t)
theorem zip_map2 {ws : List V} {vs : List Val} (h : ws.length = vs.length) : (ws.zip vs).map (·.2) = vs := List.map_snd_zip (by omega)
theorem zip_map1 {ws : List V} {vs : List Val} (h : ws.length = vs.length) : (ws.zip vs).map (·.1) = ws := List.map_fst_zip (by omega)
theorem zip_rep {K : PySem.W.Frag} {F : Hp} : ∀ {ws : List V} {vs : List Val}, Reps K F ws vs → ∀ p ∈ ws.zip vs, Rep K F p.1 p.2
  | _, _, .nil, p, h => by cases h
  | _, _, .cons r t, p, h => by
    rw [List.zip_cons_cons] at h
    rcases List.mem_cons.mp h with rfl | h
    · exact r
    · exact zip_rep t p h
theorem reps_of {K : PySem.W.Frag} {F : Hp} : ∀ {bs : List (V × Val)}, (∀ p ∈ bs, Rep K F p.1 p.2) → Reps K F (bs.map (·.1)) (bs.map (·.2))
  | [], _ => .nil
  | b :: bs, h => .cons (h b List.mem_cons_self) (reps_of fun p hp => h p (List.mem_cons_of_mem _ hp))
def leW : V × Val → V × Val → Bool := PySem.W.dataLe false fun b => b.2.toD
theorem sorted_rep {K : PySem.W.Frag} {F : Hp} {ws : List V} {vs : List Val} (r : Reps K F ws vs) : Reps K F (((ws.zip vs).mergeSort leW).map (·.1)) (vs.mergeSort leV) := by
  have h1 : ((ws.zip vs).mergeSort leW).map (·.2) = vs.mergeSort leV := by
    have h2 := List.map_mergeSort (f := fun b : V × Val => b.2) (r := leW) (s := leV) (l := ws.zip vs) (fun a _ b _ => rfl)
    rw [h2, zip_map2 r.length]
  rw [← h1]
  exact reps_of fun p hp => zip_rep r p ((List.mergeSort_perm _ _).mem_iff.mp hp)
theorem sortOk_of {vs : List Val} (h : sortOk vs = true) : Val.pures vs = true ∧ PySem.W.AllAlike (Val.toDs vs) ∧ PySem.W.Sortable (Val.toDs vs) ∧ vs.length ≤ sizeLine ∧ ∀ v ∈ vs, v.toD.depth ≤ 50 := by
  unfold sortOk at h
  simp only [Bool.and_eq_true] at h
  obtain ⟨⟨⟨⟨h1, h2⟩, h3⟩, h4⟩, h5⟩ := h
  refine ⟨h1, allAlike_of h2, sortable_of h3, of_decide_eq_true h4, fun v hv => ?_⟩
  rw [List.all_eq_true] at h5
  exact of_decide_eq_true (h5 v hv)
theorem zip_enc {ws : List V} {vs : List Val} (h : ws.length = vs.length) : (ws.zip vs).map (fun b => b.2.toD) = Val.toDs vs := by
  rw [toDs_map, ← zip_map2 h, List.map_map, zip_map2 h]
  rfl
theorem zip_len {ws : List V} {vs : List Val} (h : ws.length = vs.length) : (ws.zip vs).length = vs.length := by rw [List.length_zip]; omega
theorem zip_dep {ws : List V} {vs : List Val} {n : Nat} (h : ∀ v ∈ vs, v.toD.depth ≤ n) : ∀ b ∈ ws.zip vs, b.2.toD.depth ≤ n := fun b hb => h b.2 (List.of_mem_zip (a := b.1) (b := b.2) hb).2
/-- sorted(xs) -/
def rSortL (K : PySem.W.Frag) : List V → Hp → VK → Prop := fun xs H Q => ∃ a ws vs, xs = [.ref a] ∧ SqL K H a ws ∧ Reps K H ws vs ∧ sortOk vs = true ∧ ∀ p, H p = none → Q (.ref p) (upd H p (.lst (((ws.zip vs).mergeSort leW).map (·.1))))
theorem call_sortL (hu : X.A.units + 64 < cLine) : CallR X (.builtin "sorted") (rSortL X.K) := by
  intro pins s σ H xs us Q I r h
  obtain ⟨a, ws, vs, rfl, hl, rs, ok, q⟩ := h
  obtain ⟨u, rfl, rx⟩ := vals1 r
  obtain rfl : u = .ref a := rx
  obtain ⟨hp, hal, hk, hz, hd⟩ := sortOk_of ok
  obtain ⟨its, rv, pl, _⟩ := I.list hl
  obtain ⟨e1, e2⟩ := each_zip I (Sub.refl _) rs rv hp
  have hlen := rs.length
  refine PySem.W.sorted_data (enc := fun b : V × Val => b.2.toD) (vs := its) (bs := ws.zip vs) (by simpa using pl.isList) e1 e2 (by rw [zip_enc hlen]; exact hal) (by rw [zip_enc hlen]; exact hk) (by rw [zip_len hlen]; exact hz)
    (fun b hb => by have := zip_dep hd b hb; omega) fun out ho eo => ?_
  obtain ⟨c, hc⟩ := PyProof.Rows.sortedAll_at s.heap its (List.toArray out)
  have fr : H (s.heap.objs.size + 1) = none := I.hok.fresh (Nat.le_succ _)
  refine ⟨.ref (s.heap.objs.size + 1), _, I.laid (t' := s.toks) (o := .lst (((ws.zip vs).mergeSort leW).map (·.1))) (fun b o e => PyProof.Rows.sortedAll_old e) (Nat.le_succ _) ⟨?_, out, c, each_vals eo, hc⟩, rfl, q _ fr⟩
  rw [List.length_map, List.length_mergeSort, zip_len hlen]
  exact hz
/-- sorted(d): its keys -/
def rSortD (K : PySem.W.Frag) : List V → Hp → VK → Prop := fun xs H Q => ∃ a vs, xs = [.ref a] ∧ sortOk vs = true ∧ ((∃ l, Rd H a (.dK l) ∧ vs = l.map fun p => kVal p.1) ∨ ∃ l, Rd H a (.dT l) ∧ vs = l.map fun p => Val.tup (p.1.map kVal)) ∧
  ∀ p ws, H p = none → Reps K (TupOf H) ws (vs.mergeSort leV) → Q (.ref p) (upd H p (.lst ws))
theorem rep_keys {K : PySem.W.Frag} {F : Hp} : ∀ l : List (Key × V), Reps K F (l.map fun p => kV p.1) (l.map fun p => kVal p.1)
  | [] => .nil
  | (.inl i, _) :: r => .cons (.int i) (rep_keys r)
  | (.inr x, _) :: r => .cons (.str x) (rep_keys r)
theorem rep_keysT {K : PySem.W.Frag} {H : Hp} : ∀ {l : List (List Key × V)} {xs : List (List Key × Addr × Value)}, KT H l xs → Reps K (TupOf H) (xs.map fun x => V.ref x.2.1) (l.map fun p => Val.tup (p.1.map kVal))
  | _, _, .nil => .nil
  | _, _, .cons h t => .cons (.tup (TupOf.at h.2.1) (Reps.keys _)) (rep_keysT t)
theorem call_sortD (hc : X.calm = true) (hu : X.A.units + 64 < cLine) : CallR X (.builtin "sorted") (rSortD X.K) := by
  intro pins s σ H xs us Q I r h
  obtain ⟨a, vs, rfl, ok, hd, q⟩ := h
  obtain ⟨u, rfl, rx⟩ := vals1 r
  obtain rfl : u = .ref a := rx
  obtain ⟨hp, hal, hk, hz, hdep⟩ := sortOk_of ok
  -- where the keys come from
  obtain ⟨n, P, OK, src, hOK, hn, hit⟩ : ∃ (n : Nat) (P : Nat → Value → Prop) (OK : Heap → Prop), PySem.W.KdlSrc X.prog X.w "dict" a a n P OK ∧ OK s.heap ∧ n ≤ sizeLine ∧
      ∀ acc : Array Value, ItemsOf P acc n → ∃ ws, Vals ws acc.toList ∧ Reps X.K (TupOf H) ws vs := by
    rcases hd with ⟨l, hd, ev⟩ | ⟨l, hd, ev⟩
    · obtain ⟨z, lo, es, kv, dd⟩ := dk_rd I.hok hd
      obtain ⟨ep, hat⟩ := dd.dictAt
      have hl : l.length = es.length := kv.length
      refine ⟨_, _, _, PySem.W.kdl_dict (knd := mixKind X.prog X.w) (kvs := es) (ep := ep) lo, hat, by omega, fun acc hacc => ⟨l.map fun p => kV p.1, ?_, by rw [ev]; exact rep_keys l⟩⟩
      have hal2 : acc.toList.length = es.length := by rw [Array.length_toList]; exact hacc.1
      have h1 := keys_at (vs := es) hal2 fun j v e => by
        obtain ⟨k, x, e1, e2⟩ := hacc.2 j v (by rw [← Array.getElem?_toList]; exact e)
        exact ⟨k, x, e1, e2⟩
      have h2 : (es.map fun p => kV p.1) = l.map fun p => kV p.1 := by
        have h3 := KV.keys kv
        have h4 : (es.map fun p => kV p.1) = (es.map (·.1)).map kV := by rw [List.map_map]; rfl
        rw [h4, ← h3, List.map_map]
        rfl
      rw [h2] at h1
      exact h1
    · obtain ⟨z, lo, es, kt, o, ens, ep, ho, hx, hdt, he, _, _⟩ := dt_rd I.hok hd
      have l1 : ens.size = es.length := size_of_entries he
      have l2 : l.length = es.length := Paired.length kt
      refine ⟨_, _, _, kdl_raw lo hx hdt, ho, by omega, fun acc hacc => ⟨es.map fun x => V.ref x.2.1, ?_, by rw [ev]; exact rep_keysT kt⟩⟩
      have hal2 : acc.toList.length = es.length := by rw [Array.length_toList, hacc.1]; exact l1
      have ea : acc.toList = (es.map fun x => x.2.1).map Value.ref := by
        rw [List.map_map]
        apply List.ext_getElem?
        intro j
        rw [List.getElem?_map]
        cases hj : acc.toList[j]? with
        | none =>
          have h1 := List.getElem?_eq_none_iff.mp hj
          rw [List.getElem?_eq_none (by omega)]
          rfl
        | some v =>
          obtain ⟨en, hen, hv⟩ := hacc.2 j v (by rw [← Array.getElem?_toList]; exact hj)
          have qe := entry_at he j
          rw [hen] at qe
          cases hx2 : es[j]? with
          | none => rw [hx2] at qe; cases qe
          | some y => rw [hx2] at qe; cases qe; rw [hv]; rfl
      rw [ea]
      have e2 : (es.map fun x => V.ref x.2.1) = (es.map fun x => x.2.1).map V.ref := by rw [List.map_map]; rfl
      rw [e2]
      exact vals_refs _
  refine Calls.call_function_entry PyProof.Rows.kind_sorted PyProof.Rows.plain_sorted PyProof.Rows.entry_sorted (PyProof.Rows.args_sorted1 _) ?_
  unfold Builtin.«sorted»
  refine wpAny_bind (m := checkCount "sorted" 1 1 _) (wpAny_pure ?_)
  refine wpAny_bind (PySem.W.kdu_collect (A := X.A.in1) src (I.ok.hd hc) hOK hn fun h' tk acc hkeep hacc => ?_)
  obtain ⟨ws, rv, rs⟩ := hit acc hacc
  have hlen := rs.length
  have hal2 : acc.toList.length = vs.length := by rw [← rv.length, hlen]
  have I1 : Inv X pins σ H { s with heap := h', toks := tk } := I.kept hkeep
  refine wpAny_bind (wpAny_newList ?_ (by rw [hal2]; exact hz))
  have hoL : (h'.push (PyProof.Rows.seqObj "list" acc.toList.toArray 0)).get? h'.objs.size = some (PyProof.Rows.seqObj "list" acc.toList.toArray 0) := Heap.get?_push_size _ rfl
  show wpAny _ _ _ _ _ { s with heap := h'.push (PyProof.Rows.seqObj "list" acc.toList.toArray 0), toks := tk }
  obtain ⟨e1, e2⟩ := each_zip I1 TupOf.sub rs rv hp
  have e3 : PySem.W.EachIs (fun u (b : V × Val) => ∃ as, Reads (h'.push (PyProof.Rows.seqObj "list" acc.toList.toArray 0)) u b.2.toD as ∧ h'.objs.size ∉ as) acc.toList (ws.zip vs) := e2.mono fun u b ⟨as, rd⟩ =>
    ⟨as, PyProof.Rows.Reads.keeps (fun b o e => Heap.get?_push_of_some _ e) rd, fun z => Nat.lt_irrefl _ (reads_lt rd _ z)⟩
  refine wpAny_bind (wpAny_holding (PySem.W.list_sort_data (s := { s with heap := h'.push (PyProof.Rows.seqObj "list" acc.toList.toArray 0), toks := tk }) (enc := fun b : V × Val => b.2.toD) (a := h'.objs.size) (n := 0) hoL e1 e3 (by rw [zip_enc hlen]; exact hal) (by rw [zip_enc hlen]; exact hk) (by rw [zip_len hlen]; exact hz)
    (fun b hb => by have := zip_dep hdep b hb; show X.A.units + 1 + 1 + _ < cLine; omega) fun out ho eo => ?_))
  obtain ⟨c, hcz⟩ := PyProof.Rows.sortedHeap_at (vs := acc.toList) (out := List.toArray out) hoL
  have fr : H h'.objs.size = none := I1.hok.fresh (Nat.le_refl _)
  refine wpAny_pure ⟨_, rfl, .ref h'.objs.size, _, I1.laid (t' := tk) (o := .lst (((ws.zip vs).mergeSort leW).map (·.1))) (fun b u e => ?_) (Nat.le_refl _) ⟨?_, out, c, each_vals eo, hcz⟩, rfl, q _ _ fr (sorted_rep rs)⟩
  · have hb : b < h'.objs.size := Heap.lt_size e
    rw [PyProof.Rows.sortedHeap_old (Nat.ne_of_lt hb) (by rw [PyProof.Rows.size_push']; exact Nat.lt_succ_of_lt hb)]
    exact Heap.get?_push_of_some _ e
  · rw [List.length_map, List.length_mergeSort, zip_len hlen]
    exact hz
end
end VL

/-! VL16: new things out of calls: sorted, +, dict of a dict, dict of pairs. -/
namespace VL
open PySem PySem.Spec PyProof.Rows L2
section
variable {W : Wo} {X : Cx} {E : WX}
/-! ### 1. a rule of a new object -/
/-- r makes one new object of its operands' places -/
def NewC (K : PySem.W.Frag) (r : List V → Hp → VK → Prop) (g : OT → Option OT) : Prop := ∀ (F H : Hp) (A : Addr → Prop) (w : V) (p t : OT) (Q : VK), Sub F H → Sub (TupOf H) F → RepO K F H A w p → g p = some t →
  (∀ a o, H a = none → (∀ ws, o ≠ .tup ws) → RepO K F (upd H a o) (fun x => x = a) (.ref a) t → Q (.ref a) (upd H a o)) → r [w] H Q
def fCl (g : OT → Option OT) (p : Sm W OT) : Sm W OT := fun ρ s => (p ρ s).bind fun t s1 => R.opt (g t) s1
variable {x : Str} {id T : String} {r : List V → Hp → VK → Prop} {g : OT → Option OT} {a b : Expr} {p : Sm W OT} {pos p1 : Pos}
theorem newC_run {σ : L2.St} {H : Hp} {Q : VK} (hf : NewC X.K r g) (h : tG W X.K E (pF X.K) (fCl g p) σ H Q) : tG W X.K E (pP X.K) p σ H fun w H1 => r [w] H1 Q := by
  obtain ⟨G0, ρ, s, rl, h⟩ := h
  refine tG.mk rl (Pst.mono (Pst.bind (P := pP X.K H) h) ?_)
  rintro w H1 ⟨G, s1, t, x1, r1, ⟨A, ro, hA⟩, h'⟩
  obtain ⟨u, e, h'⟩ := Pst.opt h'
  refine hf G.F H1 A w t u Q r1.sub (TupOf.le r1.toRelW) ro e fun q o hq ht rq => ?_
  obtain ⟨x2, r2, ⟨A2, ro2, hA2⟩⟩ := pF.new (o := o) (t := u) r1 hq ht rq
  exact h' _ _ _ x2 r2 ⟨A2, ro2, fun a z => ⟨x1.there a (hA2 a z).1, (hA2 a z).2⟩⟩
/-- one operand's place -/
def VA1 (W : Wo) (X : Cx) (E : WX) (e : Expr) (p : Sm W OT) : Prop := PA X [e] fun σ H Q => tG W X.K E (pP X.K) p σ H fun w H1 => Q [w] H1
theorem va1 (h : VP W X E a p) (hs : starEach [a] X.env = (false, eval a X.env) :: starEach [] X.env) : VA1 W X E a p := PA.imp (pa_cons h pa_nil hs) fun σ H Q hq => hq
theorem vf_callB (hc : CallR X (.builtin id) r) (hf : NewC X.K r g) (hg : Gl X x) (hm : X.mg x = none) (hv : bootBuiltins x = some (.builtin id)) (ha : VP W X E a p) (hn : x ≠ "__name__" := by decide) (hdb : (x == ("__debug__" : Str)) = false := by decide)
    (he : starEach [a] X.env = (false, eval a X.env) :: starEach [] X.env := by rfl) : VF W X E (.Call (.Name x p1) [a] [] pos) (fCl g p) :=
  PE.imp (pe_callB hc hg hm hv (va1 ha he) hn hdb he rfl) fun _ _ _ h => newC_run hf h
theorem vf_callT (hc : CallR X (.type T) r) (hf : NewC X.K r g) (hg : Gl X x) (hm : X.mg x = none) (hv : bootBuiltins x = some (.type T)) (ha : VP W X E a p) (hn : x ≠ "__name__" := by decide) (hdb : (x == ("__debug__" : Str)) = false := by decide)
    (he : starEach [a] X.env = (false, eval a X.env) :: starEach [] X.env := by rfl) : VF W X E (.Call (.Name x p1) [a] [] pos) (fCl g p) :=
  PE.imp (pe_callTy hc hg hm hv (va1 ha he) hn hdb he rfl) fun _ _ _ h => newC_run hf h
/-- a new thing as a place: not yet anybody's -/
theorem vp_f {e : Expr} {f : Sm W OT} (h : VF W X E e f) : VP W X E e (pE (eF f)) := vp_of (ve_f h)

/-! ### 2. sorted -/
def gSortL (t : OT) : Option OT := t.listI.bind fun xs => (sortL xs).map .oL
def gSortD (t : OT) : Option OT := t.dict.bind fun d => (sortL (d.2.map (·.1))).map .oL
theorem listI_rep {K : PySem.W.Frag} {F H : Hp} {A : Addr → Prop} {w : V} {p : OT} {xs : List Val} (sb : Sub F H) (ro : RepO K F H A w p) (e : p.listI = some xs) : ∃ a ws, w = .ref a ∧ H a = some (.lst ws) ∧ Reps K F ws xs := by
  unfold OT.listI at e
  split at e
  · cases e
    cases ro with
    | sh rp =>
      obtain ⟨a, ws, rfl, ha, rs⟩ := rp.seqL
      exact ⟨a, ws, rfl, sb _ _ ha, rs⟩
  · cases e
    cases ro with
    | oL ha _ rs => exact ⟨_, _, rfl, ha, rs⟩
  · cases e
theorem dict_rep {K : PySem.W.Frag} {F H : Hp} {A : Addr → Prop} {w : V} {p : OT} {t : Bool} {kvs : List (Val × Val)} (sb : Sub F H) (ro : RepO K F H A w p) (e : p.dict = some (t, kvs)) :
    ∃ a, w = .ref a ∧ ((t = false ∧ ∃ l, Rd H a (.dK l) ∧ RepP K F (l.map kK) kvs) ∨ (t = true ∧ ∃ l, Rd H a (.dT l) ∧ RepP K F (l.map kT) kvs)) := by
  rcases OT.dict_of e with rfl | rfl | rfl
  · cases ro with
    | sh rp =>
      cases rp with
      | dK h rs => exact ⟨_, rfl, .inl ⟨rfl, _, sb.rd h, rs⟩⟩
      | dT h rs => exact ⟨_, rfl, .inr ⟨rfl, _, sb.rd h, rs⟩⟩
  · cases ro with
    | oK h _ rs => exact ⟨_, rfl, .inl ⟨rfl, _, .inl h, rs⟩⟩
    | oDT h _ rs => exact ⟨_, rfl, .inr ⟨rfl, _, .inl h, rs⟩⟩
  · cases ro with
    | oRK h _ rs => exact ⟨_, rfl, .inl ⟨rfl, _, .inr ⟨_, h⟩, rs⟩⟩
    | oRT h _ rs => exact ⟨_, rfl, .inr ⟨rfl, _, .inr ⟨_, h⟩, rs⟩⟩
theorem sortL_of {vs us : List Val} (h : sortL vs = some us) : sortOk vs = true ∧ us = vs.mergeSort leV := by
  unfold sortL at h
  split at h
  · cases h; exact ⟨by assumption, rfl⟩
  · cases h
theorem new_sortL : NewC X.K (rSortL X.K) gSortL := by
  intro F H A w p t Q sb st ro e k
  unfold gSortL at e
  cases e1 : p.listI with
  | none => rw [e1] at e; cases e
  | some xs =>
    rw [e1] at e
    have e : (sortL xs).map OT.oL = some t := e
    cases e2 : sortL xs with
    | none => rw [e2] at e; cases e
    | some ys =>
      rw [e2] at e; cases e
      obtain ⟨ok, rfl⟩ := sortL_of e2
      obtain ⟨a, ws, rfl, ha, rs⟩ := listI_rep sb ro e1
      refine ⟨a, ws, xs, rfl, SqL.of ha, rs.mono sb, ok, fun q hq => k q _ hq (nd_lst _).2 (.oL upd_same rfl (sorted_rep rs))⟩
theorem new_sortD : NewC X.K (rSortD X.K) gSortD := by
  intro F H A w p t Q sb st ro e k
  unfold gSortD at e
  cases e1 : p.dict with
  | none => rw [e1] at e; cases e
  | some d =>
    obtain ⟨t0, kvs⟩ := d
    rw [e1] at e
    have e : (sortL (kvs.map (·.1))).map OT.oL = some t := e
    cases e2 : sortL (kvs.map (·.1)) with
    | none => rw [e2] at e; cases e
    | some ys =>
      rw [e2] at e; cases e
      obtain ⟨ok, rfl⟩ := sortL_of e2
      obtain ⟨a, rfl, hd⟩ := dict_rep sb ro e1
      refine ⟨a, kvs.map (·.1), rfl, ok, ?_, fun q ws hq rs => k q _ hq (nd_lst _).2 (.oL upd_same rfl (rs.mono st))⟩
      rcases hd with ⟨_, l, h, rp⟩ | ⟨_, l, h, rp⟩
      · refine .inl ⟨l, h, ?_⟩
        rw [← rp.keys, List.map_map]; rfl
      · refine .inr ⟨l, h, ?_⟩
        rw [← rp.keys, List.map_map]; rfl
theorem vf_sortL (hu : X.A.units + 64 < cLine) (hg : Gl X "sorted") (hm : X.mg "sorted" = none) (ha : VP W X E a p) (he : starEach [a] X.env = (false, eval a X.env) :: starEach [] X.env := by rfl) : VF W X E (.Call (.Name "sorted" p1) [a] [] pos) (fCl gSortL p) :=
  vf_callB (call_sortL hu) new_sortL hg hm (by rfl) ha (he := he)
theorem vf_sortD (hc : X.calm = true) (hu : X.A.units + 64 < cLine) (hg : Gl X "sorted") (hm : X.mg "sorted" = none) (ha : VP W X E a p) (he : starEach [a] X.env = (false, eval a X.env) :: starEach [] X.env := by rfl) : VF W X E (.Call (.Name "sorted" p1) [a] [] pos) (fCl gSortD p) :=
  vf_callB (call_sortD hc hu) new_sortD hg hm (by rfl) ha (he := he)

/-! ### 3. xs + ys -/
def fCat (p q : Sm W OT) : Sm W OT := fun ρ s => (p ρ s).bind fun t s1 => (q ρ s1).bind fun u s2 => match t.listI, u.listI with
  | some xs, some ys => if xs.length + ys.length ≤ sizeLine then .ok (.oL (xs ++ ys)) s2 else .bad
  | _, _ => .bad
theorem vf_cat {q : Sm W OT} (ha : VP W X E a p) (hb : VP W X E b q) : VF W X E (.BinOp a .Add b pos) (fCat p q) := PE.imp (pe_op op_cat ha hb) fun σ H Q hq => by
  have h' := seq2 (P := pP X.K) (P' := pP X.K) (P2 := pF X.K) (f := p) (f2 := q) (g := fun t u _ s2 => match t.listI, u.listI with
    | some xs, some ys => if xs.length + ys.length ≤ sizeLine then .ok (.oL (xs ++ ys)) s2 else .bad
    | _, _ => .bad) pF.back pP.keeps hq
  refine h'.mono fun w H1 k1 => k1.mono ?_
  clear h' hq
  rintro u H2 ⟨G, ρ, s, t, t2, r, ⟨A, ro, hA⟩, ⟨A2, ro2, hA2⟩, h'⟩
  split at h'
  · rename_i xs ys e1 e2
    split at h'
    · rename_i hz
      obtain ⟨l, ws, rfl, hl, rs⟩ := listI_rep r.sub ro e1
      obtain ⟨l2, us, rfl, hl2, rs2⟩ := listI_rep r.sub ro2 e2
      refine ⟨l, l2, ws, us, rfl, rfl, hl, hl2, by rw [rs.length, rs2.length]; exact hz, fun p hp => ?_⟩
      obtain ⟨x2, r2, p2⟩ := pF.new (o := .lst (ws ++ us)) (t := .oL (xs ++ ys)) r hp (nd_lst _).2 (.oL upd_same rfl (rs.append rs2))
      exact h' _ _ _ x2 r2 p2
    · exact h'.elim
  · exact h'.elim

/-! ### 4. dict(d) -/
/-- the hash of a tuple of whole numbers -/
def ksHash (ks : List Key) : Option (List Int) := match ks with
  | [] => some []
  | .inl i :: r => (ksHash r).map fun hs => hashInt i :: hs
  | .inr _ :: _ => none
def vHash (v : Val) : Option Int := match dkey v with
  | some (.inr ks) => (ksHash ks).map fun hs => reduceHash (Builtin.Tuple.tupleHashOf hs)
  | _ => none
theorem ksHash_of (w : World) (prog : Program) : ∀ {ks : List Key} {hs : List Int}, ksHash ks = some hs → ks.map (mixKind prog w).hash = hs
  | [], _, e => by cases e; rfl
  | .inl i :: r, hs, e => by
    have e : (ksHash r).map (fun hs => hashInt i :: hs) = some hs := e
    cases q : ksHash r with
    | none => rw [q] at e; cases e
    | some h => rw [q] at e; cases e; rw [List.map_cons, ksHash_of w prog q]; rfl
  | .inr _ :: _, _, e => by cases e
theorem vHash_of (w : World) (prog : Program) {ks : List Key} {h : Int} (e : vHash (.tup (ks.map kVal)) = some h) : (tupleKind (mixKind prog w)).hash ks = h := by
  unfold vHash at e
  rw [dkey_t] at e
  have e : (ksHash ks).map (fun hs => reduceHash (Builtin.Tuple.tupleHashOf hs)) = some h := e
  cases q : ksHash ks with
  | none => rw [q] at e; cases e
  | some hs => rw [q] at e; cases e; show tupleKeyHash (mixKind prog w) ks = _; unfold tupleKeyHash; rw [ksHash_of w prog q]
/-- the keys hash apart -/
def apart (ks : List Val) : Bool := ks.all (fun k => (vHash k).isSome) && decide ((ks.map vHash).Nodup)
theorem nodup_back {α : Type} {f : α → Int} {g : α → Option Int} : ∀ {l : List α}, (∀ a ∈ l, g a = some (f a)) → (l.map g).Nodup → (l.map f).Nodup
  | [], _, _ => by simp
  | a :: l, h, n => by
    rw [List.map_cons, List.nodup_cons] at n ⊢
    refine ⟨fun z => n.1 ?_, nodup_back (fun b hb => h b (List.mem_cons_of_mem _ hb)) n.2⟩
    obtain ⟨b, hb, e⟩ := List.mem_map.mp z
    rw [h a List.mem_cons_self, ← e, ← h b (List.mem_cons_of_mem _ hb)]
    exact List.mem_map.mpr ⟨b, hb, rfl⟩
/-- dict(d), keys tuples of whole numbers -/
def rCopyT : List V → Hp → VK → Prop := fun xs H Q => ∃ (a : Addr) (l : List (List Key × V)), xs = [.ref a] ∧ Rd H a (.dT l) ∧ apart (l.map fun p => .tup (p.1.map kVal)) = true ∧ ∀ p, H p = none → Q (.ref p) (upd H p (.dT l))
theorem kt_typeIs {pins : List (Addr × Obj)} {σ : L2.St} {H : Hp} {s : Shared} (I : Inv X pins σ H s) {l : List (List Key × V)} {xs : List (List Key × Addr × Value)} (kt : KT H l xs) : ∀ x ∈ xs, s.TypeIs (.ref x.2.1) "tuple" := by
  induction kt with
  | nil => intro x hx; cases hx
  | cons h _ ih =>
    intro x hx
    rcases List.mem_cons.mp hx with rfl | hx
    · obtain ⟨its, rv, ⟨o, g, c, n, d⟩, _⟩ := I.tuple (SqT.of h.2.1)
      exact ⟨o, g, c⟩
    · exact ih x hx
theorem kt_fst {H : Hp} {l : List (List Key × V)} {xs : List (List Key × Addr × Value)} (kt : KT H l xs) : xs.map (·.1) = l.map (·.1) := by
  induction kt with
  | nil => rfl
  | cons h _ ih => rw [List.map_cons, List.map_cons, ih, h.1]
theorem kt_is {pins : List (Addr × Obj)} {σ : L2.St} {H : Hp} {s : Shared} (I : Inv X pins σ H s) {l : List (List Key × V)} {xs : List (List Key × Addr × Value)} (kt : KT H l xs) : ∀ y ∈ xs, (tupleKind (mixKind X.prog X.w)).is s.heap y.1 y.2.1 := by
  induction kt with
  | nil => intro x hx; cases hx
  | cons h _ ih =>
    intro x hx
    rcases List.mem_cons.mp hx with rfl | hx
    · exact key_of I.hok (by rw [← h.1]; exact h.2.1)
    · exact ih x hx
theorem call_copyT (hu : X.A.units + 64 < cLine) : CallR X (.type "dict") rCopyT := by
  intro pins s σ H xs us Q I r h
  obtain ⟨a, l, rfl, hd, hap, q⟩ := h
  obtain ⟨u, rfl, rx⟩ := vals1 r
  obtain rfl : u = .ref a := rx
  obtain ⟨hz, lo, es, kt, dd⟩ := dt_rd I.hok hd
  have el : l.length = es.length := Paired.length kt
  have nd : (es.map fun x => (tupleKind (mixKind X.prog X.w)).hash x.1).Nodup := by
    have e1 : (es.map fun x => (tupleKind (mixKind X.prog X.w)).hash x.1) = (l.map (·.1)).map (tupleKind (mixKind X.prog X.w)).hash := by
      have := kt_fst kt
      rw [← this, List.map_map]; rfl
    rw [e1]
    unfold apart at hap
    rw [Bool.and_eq_true] at hap
    have h2 := of_decide_eq_true hap.2
    rw [List.map_map] at h2
    have h3 : (l.map (·.1)).map (fun ks => vHash (.tup (ks.map kVal))) = l.map (vHash ∘ fun p => Val.tup (p.1.map kVal)) := by rw [List.map_map]; rfl
    rw [← h3] at h2
    refine nodup_back (fun ks hk => ?_) h2
    rw [List.all_eq_true] at hap
    obtain ⟨p, hp, rfl⟩ := List.mem_map.mp hk
    have := hap.1 _ (List.mem_map.mpr ⟨p, hp, rfl⟩)
    cases q : vHash (.tup (p.1.map kVal)) with
    | none => rw [q] at this; cases this
    | some h => rw [vHash_of X.w X.prog q]
  have dn : (es.map (·.1)).Nodup := dd.nodup
  have fr : H s.heap.objs.size = none := I.hok.fresh (Nat.le_refl _)
  have hm : (s.heap.objs.size == sysModules) = false := beq_eq_false_iff_ne.mpr (Nat.ne_of_gt I.big)
  have hT : Shared.TypeIs { s with heap := s.heap.push { cls := .type "dict", data := .dict #[] } } (.ref s.heap.objs.size) "dict" := ⟨_, Heap.get?_push_size _ rfl, rfl⟩
  refine callType_codes (Q₁ := fun obj s₁ => obj = .ref s.heap.objs.size ∧ s₁ = { s with heap := s.heap.push { cls := .type "dict", data := .dict #[] } }) F.kt_called_dict (F.kt_typeCall_dict_1 _) F.entry_dict_init (kt_code_dict_new _ ⟨rfl, rfl⟩) ?_
  rintro obj s₁ ⟨rfl, rfl⟩
  refine ⟨hT, F.args_dict_init_2 _ _, ?_⟩
  unfold Builtin.«dict.__init__»
  refine wpAny_bind ?_
  unfold Builtin.Dict.selfAndRest
  refine wpAny_bind (wpAny_notOrdered_dict hT ?_)
  refine wpAny_pure ?_
  have I1 : Inv X pins σ H { s with heap := s.heap.push { cls := .type "dict", data := .dict #[] } } := I.kept (t' := s.toks) fun b o e => Heap.get?_push_of_some _ e
  have d0 : (s.heap.push { cls := .type "dict", data := .dict #[] }).DictOfH (tupleKind (mixKind X.prog X.w)) s.heap.objs.size [] := Heap.DictOfH.new s.heap
  have d1 : (s.heap.push { cls := .type "dict", data := .dict #[] }).DictOfH (tupleKind (mixKind X.prog X.w)) a es := dd.at' (fun o e => Heap.get?_push_of_some _ e) (kt_is I1 kt)
  have hne : s.heap.objs.size ≠ a := fun e => by
    have := dd.lt_size
    rw [← e] at this
    exact Nat.lt_irrefl _ this
  refine updateFrom_dictH (A := X.A.in1) (knd := tupleKind (mixKind X.prog X.w)) (s := { s with heap := s.heap.push { cls := .type "dict", data := .dict #[] } }) .none (show X.A.units + 2 < cLine by omega) hne lo d0 d1 (.inr ⟨kt_typeIs I1 kt, nd⟩) (by show 0 + es.length ≤ sizeLine; omega) fun h' hd' _ hs => ?_
  rw [storedAllH_nil_of_nodup es dn] at hd'
  obtain ⟨o', es', ep', ho', g2, g3, g4, _, g5⟩ := hd'
  refine ⟨rfl, .ref s.heap.objs.size, _, I.laid (t' := s.toks) (o := .dT l) (fun b u e => (hs.2 b (Nat.ne_of_lt (Heap.lt_size e))).trans (Heap.get?_push_of_some _ e)) (Nat.le_refl _) ⟨hz, hm, es, kt.keeps fun c ys ec => ?_, o', es', ep', ho', g2, g3, g4, g5⟩, rfl, q _ fr⟩
  rw [upd_ne (ne_of_none ec fr)]
  exact ec
def rCopy : List V → Hp → VK → Prop := fun xs H Q => (∃ (a : Addr) (kvs : List (Key × V)), xs = [.ref a] ∧ Rd H a (.dK kvs) ∧ ∀ p, H p = none → Q (.ref p) (upd H p (.dK kvs))) ∨ rCopyT xs H Q
def gCopy (t : OT) : Option OT := t.dict.bind fun d => if d.1 = false ∨ apart (d.2.map (·.1)) = true then some (.oD d.1 d.2) else none
theorem new_copy : NewC X.K rCopy gCopy := by
  intro F H A w p t Q sb st ro e k
  unfold gCopy at e
  cases e1 : p.dict with
  | none => rw [e1] at e; cases e
  | some d =>
    obtain ⟨b, kvs⟩ := d
    rw [e1] at e
    have e : (if b = false ∨ apart (kvs.map (·.1)) = true then some (OT.oD b kvs) else none) = some t := e
    split at e
    · rename_i hb
      cases e
      obtain ⟨a, rfl, hd⟩ := dict_rep sb ro e1
      rcases hd with ⟨rfl, l, h, rp⟩ | ⟨rfl, l, h, rp⟩
      · exact .inl ⟨a, l, rfl, h, fun q hq => k q _ hq (fun _ z => (by cases z)) (.oK upd_same rfl rp)⟩
      · refine .inr ⟨a, l, rfl, h, ?_, fun q hq => k q _ hq (fun _ z => (by cases z)) (.oDT upd_same rfl rp)⟩
        rcases hb with hb | hb
        · cases hb
        · rw [← rp.keys, List.map_map] at hb
          exact hb
    · cases e
theorem vf_copy (hu : X.A.units + 64 < cLine) (hg : Gl X "dict") (hm : X.mg "dict" = none) (ha : VP W X E a p) (he : starEach [a] X.env = (false, eval a X.env) :: starEach [] X.env := by rfl) : VF W X E (.Call (.Name "dict" p1) [a] [] pos) (fCl gCopy p) :=
  vf_callT (call_dictD.or (call_copyT hu)) new_copy hg hm (by rfl) ha (he := he)

/-! ### 5. dict of a list of pairs -/
def pairsV (b : Bool) : List Val → List (Val × Val) → Option (List (Val × Val))
  | [], acc => some acc
  | .tup [k, v] :: r, acc => match dkey k with
    | some d => if DK.isT d = b then pairsV b r (vput acc k d v) else none
    | none => none
  | _ :: _, _ => none
def gPairs (b : Bool) (t : OT) : Option OT := t.listI.bind fun ps => (pairsV b ps []).map (.oD b)
theorem pairsK {K : PySem.W.Frag} {F : Hp} : ∀ {ps : List Val} {ws : List V} {acc : List (Val × Val)} {out : List (Val × Val)} {l : List (Key × V)}, Reps K F ws ps → pairsV false ps acc = some out → RepP K F (l.map kK) acc →
    ∃ (as : List Addr) (l' : List (Key × V)), ws = as.map V.ref ∧ Paired (fun p kv => F p = some (.tup [kV kv.1, kv.2])) as l' ∧ RepP K F ((mergeK l l').map kK) out
  | [], _, acc, out, l, .nil, e, rp => by cases e; exact ⟨[], [], rfl, .nil, rp⟩
  | v :: ps, _, acc, out, l, .cons r rs, e, rp => by
    unfold pairsV at e
    split at e
    · rename_i heq
      cases heq
    · rename_i k0 v0 r0 heq
      cases heq
      split at e
      · rename_i d ed
        split at e
        · rename_i hb
          obtain ⟨a, us, rfl, ha, rt⟩ := r.seqT
          obtain ⟨w1, w2, rfl, r1, r2⟩ := rt.two
          rcases r1.key ed with ⟨kk, rfl, rfl, rfl⟩ | ⟨ks, c, rfl, _⟩
          · obtain ⟨as, l', e1, h1, h2⟩ := pairsK rs e (RepP.put (e := kVal) (c := Sum.inl) (l := l) dkey_k inl_inj kk r2 rp)
            exact ⟨a :: as, (kk, w2) :: l', by rw [e1]; rfl, .cons ha h1, h2⟩
          · cases hb
        · cases e
      · cases e
    · cases e
structure RowT where
  p : Addr
  ks : List Key
  b : Addr
  z : V
theorem pairsT {K : PySem.W.Frag} {F : Hp} : ∀ {ps : List Val} {ws : List V} {acc : List (Val × Val)} {out : List (Val × Val)} {l : List (List Key × V)}, Reps K F ws ps → pairsV true ps acc = some out → RepP K F (l.map kT) acc →
    ∃ (rows : List RowT), ws = rows.map (fun r => V.ref r.p) ∧ (∀ r ∈ rows, F r.p = some (.tup [.ref r.b, r.z]) ∧ F r.b = some (.tup (r.ks.map kV))) ∧ RepP K F ((rows.foldl (fun m r => putK m r.ks r.z) l).map kT) out
  | [], _, acc, out, l, .nil, e, rp => by cases e; exact ⟨[], rfl, fun _ h => (by cases h), rp⟩
  | v :: ps, _, acc, out, l, .cons r rs, e, rp => by
    unfold pairsV at e
    split at e
    · rename_i heq
      cases heq
    · rename_i k0 v0 r0 heq
      cases heq
      split at e
      · rename_i d ed
        split at e
        · rename_i hb
          obtain ⟨a, us, rfl, ha, rt⟩ := r.seqT
          obtain ⟨w1, w2, rfl, r1, r2⟩ := rt.two
          rcases r1.key ed with ⟨kk, rfl, _⟩ | ⟨ks, c, rfl, rfl, hc, rfl⟩
          · cases hb
          · obtain ⟨rows, e1, h1, h2⟩ := pairsT rs e (RepP.put (κ := List Key) (e := fun ks => Val.tup (ks.map kVal)) (c := Sum.inr) (l := l) dkey_t inr_inj ks r2 rp)
            refine ⟨⟨a, ks, c, w2⟩ :: rows, by rw [e1]; rfl, fun r hr => ?_, h2⟩
            rcases List.mem_cons.mp hr with rfl | hr
            · exact ⟨ha, hc⟩
            · exact h1 r hr
        · cases e
      · cases e
    · cases e
def rPairsT (K : PySem.W.Frag) : List V → Hp → VK → Prop := fun xs H Q => ∃ (a : Addr) (rows : List RowT), xs = [.ref a] ∧ SqL K H a (rows.map fun r => V.ref r.p) ∧ (∀ r ∈ rows, H r.p = some (.tup [.ref r.b, r.z]) ∧ H r.b = some (.tup (r.ks.map kV))) ∧
  ∀ p, H p = none → Q (.ref p) (upd H p (.dT (rows.foldl (fun m r => putK m r.ks r.z) [])))
theorem fold_len : ∀ (rows : List RowT) (l : List (List Key × V)), (rows.foldl (fun m r => putK m r.ks r.z) l).length ≤ l.length + rows.length
  | [], l => by simp
  | r :: rows, l => by
    have h1 := fold_len rows (putK l r.ks r.z)
    have h2 := length_putK l r.ks r.z
    rw [List.foldl_cons, List.length_cons]
    omega
theorem row_vals {pins : List (Addr × Obj)} {σ : L2.St} {H : Hp} {s : Shared} (I : Inv X pins σ H s) : ∀ {rows : List RowT}, (∀ r ∈ rows, H r.p = some (.tup [.ref r.b, r.z]) ∧ H r.b = some (.tup (r.ks.map kV))) →
    ∃ us : List Value, us.length = rows.length ∧ ∀ (j : Nat) (r : RowT), rows[j]? = some r → ∃ u, us[j]? = some u ∧ RelV r.z u ∧ s.heap.IsTuple r.p #[.ref r.b, u]
  | [], _ => ⟨[], rfl, fun j r e => by simp at e⟩
  | r :: rows, h => by
    obtain ⟨us, h1, h2⟩ := row_vals I fun r hr => h r (List.mem_cons_of_mem _ hr)
    obtain ⟨ha, hb⟩ := h r List.mem_cons_self
    obtain ⟨its, rv, p, _⟩ := I.tuple (SqT.of ha)
    obtain ⟨u1, u2, rfl, q1, q2⟩ := vals2 rv
    cases q1
    refine ⟨u2 :: us, by simp [h1], fun j r' e => ?_⟩
    cases j with
    | zero => cases e; exact ⟨u2, rfl, q2, (show s.heap.IsTuple r.p [Value.ref r.b, u2].toArray from p)⟩
    | succ j => exact h2 j r' (by simpa using e)
theorem kt_fold {H : Hp} : ∀ {rows : List RowT} {us : List Value} {l : List (List Key × V)} {xs : List (List Key × Addr × Value)}, us.length = rows.length → (∀ r ∈ rows, H r.b = some (.tup (r.ks.map kV))) → (∀ (j : Nat) (r : RowT), rows[j]? = some r → ∃ u, us[j]? = some u ∧ RelV r.z u) → KT H l xs →
    KT H (rows.foldl (fun m r => putK m r.ks r.z) l) (storedAllH xs ((rows.zip us).map fun p => (p.1.ks, p.1.b, p.2)))
  | [], us, l, xs, _, _, _, kt => kt
  | r :: rows, [], l, xs, hl, _, _, kt => by cases hl
  | r :: rows, u :: us, l, xs, hl, hb, hu, kt => by
    rw [List.foldl_cons, List.zip_cons_cons, List.map_cons]
    have e : storedAllH xs ((r.ks, r.b, u) :: (rows.zip us).map fun p => (p.1.ks, p.1.b, p.2)) = storedAllH (storedH xs r.ks r.b u) ((rows.zip us).map fun p => (p.1.ks, p.1.b, p.2)) := rfl
    rw [e]
    obtain ⟨u', e1, r1⟩ := hu 0 r rfl
    have e1 : u = u' := by simpa using e1
    subst e1
    exact kt_fold (by simpa using hl) (fun r hr => hb r (List.mem_cons_of_mem _ hr)) (fun j r' e => by simpa using hu (j + 1) r' (by simpa using e)) (kt.put r.ks (hb r List.mem_cons_self) r1)
theorem call_pairsT (hc : X.calm = true) (hu : X.A.units + 64 < cLine) : CallR X (.type "dict") (rPairsT X.K) := by
  intro pins s σ H xs us Q I r h
  obtain ⟨a, rows, rfl, hl, hr, q⟩ := h
  obtain ⟨u, rfl, rx⟩ := vals1 r
  obtain rfl : u = .ref a := rx
  obtain ⟨us, hus, hrow⟩ := row_vals I hr
  obtain ⟨its, rv, ⟨o, n, ho, hcl, hnd, hdat⟩, hz⟩ := I.list hl
  rw [List.length_map] at hz
  have fr : H s.heap.objs.size = none := I.hok.fresh (Nat.le_refl _)
  have hm : (s.heap.objs.size == sysModules) = false := beq_eq_false_iff_ne.mpr (Nat.ne_of_gt I.big)
  have hits : ∀ (j : Nat) (r : RowT), rows[j]? = some r → its.toArray[j]? = some (.ref r.p) := fun j r e => by
    have : ∀ {rows : List RowT} {its : List Value}, Vals (rows.map fun r => V.ref r.p) its → ∀ (j : Nat) (r : RowT), rows[j]? = some r → its[j]? = some (.ref r.p) := by
      intro rows
      induction rows with
      | nil => intro its _ j r e; simp at e
      | cons r0 rows ih =>
        intro its rv j r e
        cases rv with
        | cons h t =>
          cases h
          cases j with
          | zero => cases e; rfl
          | succ j => exact ih t j r (by simpa using e)
    simpa using this rv j r e
  have len1 : its.length = rows.length := by have := rv.length; rw [List.length_map] at this; exact this.symm
  have zipAt : ∀ (j : Nat) (r : RowT), rows[j]? = some r → ∃ u, us[j]? = some u ∧ (rows.zip us)[j]? = some (r, u) := fun j r e => by
    obtain ⟨u, h1, _⟩ := hrow j r e
    exact ⟨u, h1, by rw [List.getElem?_zip_eq_some]; exact ⟨e, h1⟩⟩
  have zl : (rows.zip us).length = rows.length := by rw [List.length_zip]; omega
  have P := PairArg.list (prog := X.prog) (w := X.w) a its.toArray (fun j => ((rows[j]?).map (·.p)).getD 0) ((rows.zip us).map fun p => (Value.ref p.1.b, p.2))
  have ok : PlainSeq "list" s.heap a its.toArray ∧ PairItems s.heap its.toArray (fun j => ((rows[j]?).map (·.p)).getD 0) ((rows.zip us).map fun p => (Value.ref p.1.b, p.2)) := by
    refine ⟨⟨o, n, ho, hcl, hnd, hdat⟩, by simp [len1, hus], fun j k v e => ?_⟩
    rw [List.getElem?_map] at e
    cases ez : (rows.zip us)[j]? with
    | none => rw [ez] at e; cases e
    | some p =>
      rw [ez] at e; cases e
      obtain ⟨e1, e2⟩ := List.getElem?_zip_eq_some.mp ez
      obtain ⟨u, h1, h2, h3⟩ := hrow j p.1 e1
      rw [e2] at h1; cases h1
      refine ⟨?_, .inl ?_⟩
      · rw [hits j p.1 e1]
        show some (Value.ref p.1.p) = some (Value.ref (((rows[j]?).map (·.p)).getD 0))
        rw [e1]; rfl
      · show s.heap.IsTuple (((rows[j]?).map (·.p)).getD 0) _
        rw [e1]; exact h3
  refine PySem.call_dict_pairsH (knd := tupleKind (mixKind X.prog X.w)) (ps := (rows.zip us).map fun p => (p.1.ks, p.1.b, p.2)) P (I.ok.hd hc) (show X.A.units + 2 < cLine by omega) ok ⟨by simp, fun i key v e => ?_⟩ (fun h' hk x hx => ?_) (by rw [List.length_map, zl]; exact hz) fun h' tk hd' hk => ?_
  · have e : ((rows.zip us).map fun p => (Value.ref p.1.b, p.2))[i]? = some (key, v) := e
    rw [List.getElem?_map] at e
    cases ez : (rows.zip us)[i]? with
    | none => rw [ez] at e; cases e
    | some p => rw [ez] at e; cases e; exact ⟨p.1.ks, p.1.b, by rw [List.getElem?_map, ez]; rfl, rfl⟩
  · have I1 : Inv X pins σ H { s with heap := h' } := I.kept (t' := s.toks) fun b o e => hk b o (Nat.ne_of_lt (Heap.lt_size e)) (by simp) e
    obtain ⟨p, hp, rfl⟩ := List.mem_map.mp hx
    exact key_of I1.hok (hr p.1 (List.of_mem_zip (a := p.1) (b := p.2) hp).1).2
  · obtain ⟨o', es', ep', ho', g2, g3, g4, _, g5⟩ := hd'
    have kt := kt_fold (H := H) (rows := rows) (us := us) (l := []) (xs := []) hus (fun r hr' => (hr r hr').2) (fun j r e => let ⟨u, h1, h2, _⟩ := hrow j r e; ⟨u, h1, h2⟩) .nil
    have hlen : (rows.foldl (fun m r => putK m r.ks r.z) []).length ≤ sizeLine := by have := fold_len rows []; simp at this; omega
    refine ⟨.ref s.heap.objs.size, _, I.laid (t' := tk) (o := .dT (rows.foldl (fun m r => putK m r.ks r.z) [])) (fun b u e => hk b u (by simp) e) (Nat.le_refl _) ⟨hlen, hm, _, kt.keeps fun c ys ec => ?_, o', es', ep', ho', g2, g3, g4, g5⟩, rfl, q _ fr⟩
    rw [upd_ne (ne_of_none ec fr)]
    exact ec
def rPairsK (K : PySem.W.Frag) : List V → Hp → VK → Prop := fun xs H Q => ∃ (a : Addr) (ps : List Addr) (kvs : List (Key × V)), xs = [.ref a] ∧ SqL K H a (ps.map V.ref) ∧ Paired (fun p kv => SqT K H p [kV kv.1, kv.2]) ps kvs ∧ ∀ p, H p = none → Q (.ref p) (upd H p (.dK (mergeK [] kvs)))
theorem new_pairsK : NewC X.K (rPairsK X.K) (gPairs false) := by
  intro F H A w p t Q sb st ro e k
  unfold gPairs at e
  cases e1 : p.listI with
  | none => rw [e1] at e; cases e
  | some ps =>
    rw [e1] at e
    have e : (pairsV false ps []).map (OT.oD false) = some t := e
    cases e2 : pairsV false ps [] with
    | none => rw [e2] at e; cases e
    | some out =>
      rw [e2] at e; cases e
      obtain ⟨a, ws, rfl, ha, rs⟩ := listI_rep sb ro e1
      obtain ⟨as, l', rfl, h1, h2⟩ := pairsK (l := []) rs e2 .nil
      exact ⟨a, as, l', rfl, SqL.of ha, Paired.mapP h1 fun _ _ z => SqT.of (sb _ _ z), fun q hq => k q _ hq (fun _ z => (by cases z)) (.oK upd_same rfl h2)⟩
theorem new_pairsT : NewC X.K (rPairsT X.K) (gPairs true) := by
  intro F H A w p t Q sb st ro e k
  unfold gPairs at e
  cases e1 : p.listI with
  | none => rw [e1] at e; cases e
  | some ps =>
    rw [e1] at e
    have e : (pairsV true ps []).map (OT.oD true) = some t := e
    cases e2 : pairsV true ps [] with
    | none => rw [e2] at e; cases e
    | some out =>
      rw [e2] at e; cases e
      obtain ⟨a, ws, rfl, ha, rs⟩ := listI_rep sb ro e1
      obtain ⟨rows, rfl, h1, h2⟩ := pairsT (l := []) rs e2 .nil
      exact ⟨a, rows, rfl, SqL.of ha, fun r hr => ⟨sb _ _ (h1 r hr).1, sb _ _ (h1 r hr).2⟩, fun q hq => k q _ hq (fun _ z => (by cases z)) (.oDT upd_same rfl h2)⟩
theorem vf_pairs (t : Bool) (hc : X.calm = true) (hu : X.A.units + 64 < cLine) (hg : Gl X "dict") (hm : X.mg "dict" = none) (ha : VP W X E a p) (he : starEach [a] X.env = (false, eval a X.env) :: starEach [] X.env := by rfl) : VF W X E (.Call (.Name "dict" p1) [a] [] pos) (fCl (gPairs t) p) := by
  cases t with
  | false => exact vf_callT (call_dictP hc) new_pairsK hg hm (by rfl) ha (he := he)
  | true => exact vf_callT (call_pairsT hc hu) new_pairsT hg hm (by rfl) ha (he := he)
end
end VL

/-! VL17: displays of dicts and of own things; list of a dict's items; repr. -/
namespace VL
open PySem PySem.Spec PyProof.Rows L2
section
variable {W : Wo} {X : Cx} {E : WX}
/-! ### 1. {k: v, ..} -/
def dispS : List (Ev W × Ev W) → Sm W (List (Val × Val))
  | [], _, s => .ok [] s
  | (k, v) :: r, ρ, s => (k ρ s).bind fun x s1 => (v ρ s1).bind fun y s2 => (dispS r ρ s2).bind fun ps s3 => .ok ((x, y) :: ps) s3
def putAllV (b : Bool) : List (Val × Val) → List (Val × Val) → Option (List (Val × Val))
  | [], acc => some acc
  | (k, v) :: r, acc => match dkey k with
    | some d => if DK.isT d = b ∧ acc.length < sizeLine then putAllV b r (vput acc k d v) else none
    | none => none
def fDisp (b : Bool) (prs : List (Ev W × Ev W)) : Sm W OT := fun ρ s => (dispS prs ρ s).bind fun ps s1 => match putAllV b ps [] with
  | some kvs => .ok (.oD b kvs) s1
  | none => .bad
abbrev trsOf (X : Cx) (E : WX) (prs : List (Ev W × Ev W)) : List (TE × TE) := prs.map fun p => (tG W X.K E (pV X.K) p.1, tG W X.K E (pV X.K) p.2)
def VPs (W : Wo) (X : Cx) (E : WX) (pos : Pos) (keys : List (Option Expr)) (values : List Expr) (prs : List (Ev W × Ev W)) : Prop := PPs X pos keys values (trsOf X E prs)
variable {pos : Pos} {k v : Expr} {ks : List (Option Expr)} {vs : List Expr} {fk fv : Ev W} {prs : List (Ev W × Ev W)}
theorem vps_nil : VPs W X E pos [] [] [] := pps_nil
theorem vps_cons (hk : VE W X E k fk) (hv : VE W X E v fv) (hr : VPs W X E pos ks vs prs) : VPs W X E pos (some k :: ks) (v :: vs) ((fk, fv) :: prs) := pps_cons hk hv hr
inductive Rep2 (K : PySem.W.Frag) (F : Hp) : List (V × V) → List (Val × Val) → Prop
  | nil : Rep2 K F [] []
  | cons {w z : V} {k v : Val} {l : List (V × V)} {m : List (Val × Val)} : Rep K F w k → Rep K F z v → Rep2 K F l m → Rep2 K F ((w, z) :: l) ((k, v) :: m)
theorem Rep2.mono {K : PySem.W.Frag} {F F' : Hp} (s : Sub F F') {l : List (V × V)} {m : List (Val × Val)} (h : Rep2 K F l m) : Rep2 K F' l m := by
  induction h with
  | nil => exact .nil
  | cons r1 r2 _ ih => exact .cons (r1.mono s) (r2.mono s) ih
theorem disp_run {α γ : Type} {P : RP γ α} {ρ : En} {σ : L2.St} {Ga : Gh} {Ha : Hp} {Q : γ → Hp → Prop} : ∀ {prs : List (Ev W × Ev W)} {kf : List (Val × Val) → W.S → R W.S α} {G : Gh} {s : W.S} {H : Hp} {Q2 : List (V × V) → Hp → Prop}, Nx Ga G Ha H → Rel W X.K G ρ s σ H →
    Pst W X.K E P Ga ρ σ Ha ((dispS prs ρ s).bind kf) Q → (∀ G2 s2 H2 ps m, Nx G G2 H H2 → Rel W X.K G2 ρ s2 σ H2 → Rep2 X.K G2.F ps m → Pst W X.K E P Ga ρ σ Ha (kf m s2) Q → Q2 ps H2) → tPairs (trsOf X E prs) σ H Q2
  | [], kf, G, s, H, Q2, xa, r, h, k => k G s H [] [] (Nx.refl _ _) r .nil h
  | (fk, fv) :: prs, kf, G, s, H, Q2, xa, r, h, k => by
    have e : (dispS ((fk, fv) :: prs) ρ s).bind kf = (fk ρ s).bind fun x s1 => (fv ρ s1).bind fun y s2 => (dispS prs ρ s2).bind fun ps s3 => kf ((x, y) :: ps) s3 := by
      show ((fk ρ s).bind fun x s1 => (fv ρ s1).bind fun y s2 => (dispS prs ρ s2).bind fun ps s3 => .ok ((x, y) :: ps) s3).bind kf = _
      cases fk ρ s with
      | ok x s1 =>
        show ((fv ρ s1).bind fun y s2 => (dispS prs ρ s2).bind fun ps s3 => .ok ((x, y) :: ps) s3).bind kf = (fv ρ s1).bind _
        cases fv ρ s1 with
        | ok y s2 =>
          show ((dispS prs ρ s2).bind fun ps s3 => .ok ((x, y) :: ps) s3).bind kf = (dispS prs ρ s2).bind _
          cases dispS prs ρ s2 <;> rfl
        | exc c n s2 => rfl
        | bad => rfl
      | exc c n s1 => rfl
      | bad => rfl
    rw [e] at h
    cases ek : fk ρ s with
    | bad => rw [ek] at h; exact h.elim
    | exc c n s1 =>
      rw [ek] at h
      refine tG.mk (P := fun _ => pV X.K H) r ?_
      show Pst W X.K E (pV X.K H) G ρ σ H (fk ρ s) _
      rw [ek]
      exact fun G1 H1 d x1 r1 e0 e1 => h G1 H1 d (xa.trans x1) r1 (xa.there d e0) e1
    | ok x s1 =>
      rw [ek] at h
      refine tG.mk (P := fun _ => pV X.K H) r ?_
      show Pst W X.K E (pV X.K H) G ρ σ H (fk ρ s) _
      rw [ek]
      intro G1 H1 w x1 r1 p1
      have h : Pst W X.K E P Ga ρ σ Ha ((fv ρ s1).bind fun y s2 => (dispS prs ρ s2).bind fun ps s3 => kf ((x, y) :: ps) s3) Q := h
      cases ev : fv ρ s1 with
      | bad => rw [ev] at h; exact h.elim
      | exc c n s2 =>
        rw [ev] at h
        refine tG.mk (P := fun _ => pV X.K H1) r1 ?_
        show Pst W X.K E (pV X.K H1) G1 ρ σ H1 (fv ρ s1) _
        rw [ev]
        exact fun G2 H2 d x2 r2 e0 e2 => h G2 H2 d (xa.trans (x1.trans x2)) r2 ((xa.trans x1).there d e0) e2
      | ok y s2 =>
        rw [ev] at h
        refine tG.mk (P := fun _ => pV X.K H1) r1 ?_
        show Pst W X.K E (pV X.K H1) G1 ρ σ H1 (fv ρ s1) _
        rw [ev]
        intro G2 H2 z x2 r2 p2
        refine disp_run (kf := fun ps s3 => kf ((x, y) :: ps) s3) (xa.trans (x1.trans x2)) r2 h fun G3 s3 H3 ps m x3 r3 rp h3 => ?_
        have p1 : Rep X.K G1.F w x := p1
        have p2 : Rep X.K G2.F z y := p2
        exact k G3 s3 H3 _ _ (x1.trans (x2.trans x3)) r3 (.cons (p1.mono (x2.sub.trans x3.sub)) (p2.mono x3.sub) rp) h3
/-- the pairs are stored -/
def StAll (D : Addr) (Q : Hp → Prop) : List (V × V) → Hp → Prop
  | [], H => Q H
  | (y, z) :: r, H => ∃ H', DPut H D y z H' ∧ StAll D Q r H'
theorem stAll_run {pins : List (Addr × Obj)} {σ : L2.St} (hu : X.A.units < cLine) {D : Addr} {Q : Hp → Prop} {Er : Value → Shared → Prop} : ∀ {ps : List (V × V)} {us : List (Value × Value)} {H : Hp} {s : Shared}, VV ps us → Inv X pins σ H s → StAll D Q ps H →
    wpAny (model X.prog X.w) X.A (storeAll D us) (fun _ s' => ∃ H', Inv X pins σ H' s' ∧ Q H') Er s
  | [], _, H, s, .nil, I, h => by
    unfold storeAll
    exact wpAny_pure ⟨H, I, h⟩
  | (y, z) :: ps, _, H, s, .cons (b := b) r t, I, ⟨H', dp, h⟩ => by
    obtain ⟨u1, u2⟩ := b
    unfold storeAll
    rw [List.forIn_cons]
    refine wpAny_bind (wpAny_bind (dset_run hu I dp r.1 r.2 fun s' I' => wpAny_pure ?_))
    exact stAll_run hu t I' h
def tDispV (o0 : HO) (trs : List (TE × TE)) : TE := fun σ H Q => ∀ p, H p = none → tPairs trs σ (upd H p o0) fun ps H2 => StAll p (fun H3 => Q (.ref p) H3) ps H2
theorem pe_dispV {o0 : HO} {keys : List (Option Expr)} {values : List Expr} {trs : List (TE × TE)} (n0 : New0 o0) (hu : X.A.units < cLine) (h : PPs X pos keys values trs) (hall : keys.all (·.isSome) = true) (hl : keys.length = values.length) (h0 : keys ≠ []) (h15 : keys.length ≤ 15) :
    PE X (.Dict keys values pos) (tDispV o0 trs) := by
  refine ⟨fun pins s σ H Q I q => ?_⟩
  have fr := I.hok.fresh (Nat.le_refl s.heap.objs.size)
  have I1 := I.laid (a := s.heap.objs.size) (o := o0) (t' := s.toks) (fun _ _ q => Heap.get?_push_of_some _ q) (Nat.le_refl _) (n0.ok s.heap I.big)
  refine wpAny_Dict_any hall hl h0 h15 (thn (h.run pins _ σ _ _ I1 (q _ fr)) fun us s2 ⟨ps, H2, I2, rel, st⟩ => ?_)
  exact thn (stAll_run hu rel I2 st) fun _ s3 ⟨H3, I3, q3⟩ => ⟨.ref s.heap.objs.size, H3, I3, rfl, q3⟩
theorem vf_disp (b : Bool) (hu : X.A.units < cLine) (h : VPs W X E pos ks vs prs) (hall : ks.all (·.isSome) = true) (hl : ks.length = vs.length) (h0 : ks ≠ []) (h15 : ks.length ≤ 15) : VF W X E (.Dict ks vs pos) (fDisp b prs) :=
  PE.imp (pe_dispV (o0_new b) hu h hall hl h0 h15) fun σ H Q ⟨G0, ρ, s0, r0, hq⟩ => fun D hD => by
    have dF : G0.F D = none := r0.toRelW.free hD
    have dA : ∀ i, ¬ G0.ad i D := fun i z => by
      obtain ⟨_, ⟨o, e, _⟩, _⟩ := r0.own i D z
      rw [hD] at e; cases e
    have dP : ¬ G0.fp D := fun z => by
      obtain ⟨_, ⟨o, e⟩, _⟩ := W.own r0.wrl z
      rw [hD] at e; cases e
    have x0 := (Nx.refl G0 H).lay (o := o0 b) hD
    have rr := r0.lay dF dP dA (o0_rep (K := X.K) (F := G0.F) b).nt
    refine disp_run (kf := fun ps s1 => match putAllV b ps [] with | some kvs => R.ok (OT.oD b kvs) s1 | none => .bad) x0 rr hq fun G2 s2 H2 ps m x2 r2 rp h2 => ?_
    -- the stores
    have go : ∀ {ps : List (V × V)} {m acc out : List (Val × Val)} {o : HO} {H3 : Hp}, Rep2 X.K G2.F ps m → putAllV b m acc = some out → RepD X.K G2.F o b acc → H3 D = some o → Nx G0 G2 H H3 → Rel W X.K G2 ρ s2 σ H3 → G2.F D = none → ¬ G2.fp D → 
        Pst W X.K E (pF X.K H) G0 ρ σ H (.ok (.oD b out) s2) Q → StAll D (fun H3 => Q (.ref D) H3) ps H3 := by
      intro ps
      induction ps with
      | nil =>
        intro m acc out o H3 rp e rd eD x3 r3 f1 f2 hq
        cases rp
        cases e
        refine hq G2 H3 (.ref D) x3 r3 ⟨fun a => a = D, rd.own eD, ?_⟩
        rintro a rfl
        exact ⟨hD, f1, ⟨_, eD, rd.nt⟩, f2, fun j => by rw [x3.ad]; exact dA j⟩
      | cons p ps ih =>
        intro m acc out o H3 rp e rd eD x3 r3 f1 f2 hq
        cases rp with
        | cons rk rv rt =>
          unfold putAllV at e
          split at e
          · rename_i d ed
            split at e
            · rename_i hz
              obtain ⟨o', dp, rd'⟩ := rd.put eD r3.sub rk rv ed hz.1 hz.2
              exact ⟨_, dp, ih rt e rd' upd_same (x3.lay hD) (r3.lay f1 f2 (fun j => by rw [x3.ad]; exact dA j) rd'.nt) f1 f2 hq⟩
            · cases e
          · cases e
    have h2 : Pst W X.K E (pF X.K H) G0 ρ σ H (match putAllV b m [] with | some kvs => R.ok (OT.oD b kvs) s2 | none => .bad) Q := h2
    obtain ⟨e2, f1, f2⟩ := x2.bare r2.toRelW (D := D) (o := o0 b) upd_same (o0_rep (K := X.K) (F := G0.F) b).nt dF dP
    cases q : putAllV b m [] with
    | none => rw [q] at h2; exact h2.elim
    | some out =>
      rw [q] at h2
      exact go rp q (o0_rep b) e2 (x0.trans x2) r2 f1 f2 h2

/-! ### 2. new things made of new things -/
theorem vf_e {e : Expr} {f : Ev W} (h : VE W X E e f) : VF W X E e (pE f) := PE.imp h fun σ H Q hq => by
  obtain ⟨G, ρ, s, r, hq⟩ := hq
  refine ⟨G, ρ, s, r, Pst.mono (Pst.bind (P := pV X.K H) hq) ?_⟩
  rintro w H1 ⟨G1, s1, v, x1, r1, rp, h'⟩
  exact h'.done r1 ⟨fun _ => False, .sh rp, fun _ z => z.elim⟩
def pFs (K : PySem.W.Frag) : Hp → RP (List V) (List OT) := fun H0 G H ws ts => ∃ A, RepOs K G.F H A ws ts ∧ ∀ a, A a → H0 a = none ∧ G.F a = none ∧ (∃ o, H a = some o ∧ ∀ ws, o ≠ .tup ws) ∧ ¬ G.fp a ∧ ∀ i, ¬ G.ad i a
def VAF (W : Wo) (X : Cx) (E : WX) (es : List Expr) (f : Sm W (List OT)) : Prop := PA X es (tG W X.K E (pFs X.K) f)
def fNil : Sm W (List OT) := fun _ s => .ok [] s
def fCons (f : Sm W OT) (r : Sm W (List OT)) : Sm W (List OT) := fun ρ s => (f ρ s).bind fun v s1 => (r ρ s1).bind fun vs s2 => .ok (v :: vs) s2
variable {e : Expr} {es : List Expr} {f : Sm W OT} {fs : Sm W (List OT)}
theorem vaf_nil : VAF W X E [] fNil := PA.imp pa_nil fun σ H Q ⟨G, ρ, s, r, h⟩ => Pst.done r h ⟨fun _ => False, .nil, fun _ z => z.elim⟩
theorem vaf_cons (h : VF W X E e f) (hr : VAF W X E es fs) (hs : starEach (e :: es) X.env = (false, eval e X.env) :: starEach es X.env := by rfl) : VAF W X E (e :: es) (fCons f fs) := PA.imp (pa_cons h hr hs) fun σ H Q hq => by
  obtain ⟨G, ρ, s, r, hq⟩ := hq
  refine tG.mk r (Pst.mono (Pst.bind (P := pF X.K H) hq) ?_)
  rintro w H1 ⟨G1, s1, t, x1, r1, p1, h1⟩
  refine tG.mk r1 (Pst.mono (Pst.bind (P := pFs X.K H1) h1) ?_)
  rintro ws H2 ⟨G2, s2, ts, x2, r2, ⟨A2, ro2, hA2⟩, h2⟩
  obtain ⟨A1, ro0, hA0⟩ := p1
  have bare : ∀ a, A1 a → H a = none ∧ G2.F a = none ∧ (∃ o, H2 a = some o ∧ ∀ ws, o ≠ .tup ws) ∧ ¬ G2.fp a ∧ ∀ i, ¬ G2.ad i a := fun a z => by
    obtain ⟨h0, h1, ⟨o, e, nt⟩, n, na⟩ := hA0 a z
    obtain ⟨e', f1, f2⟩ := x2.bare r2.toRelW e nt h1 n
    exact ⟨h0, f1, ⟨o, e', nt⟩, f2, fun i => by rw [x2.ad]; exact na i⟩
  have ro1 := ro0.mono x2.sub (fun _ z => z) fun a z => by
    obtain ⟨h0, h1, ⟨o, e, nt⟩, n, na⟩ := hA0 a z
    rw [e]; exact x2.keep a o e n
  refine h2.done r2 ⟨fun a => A1 a ∨ A2 a, .cons ro1 ro2 (fun a z y => ?_) (fun _ z => .inl z) (fun _ z => .inr z), fun a z => ?_⟩
  · obtain ⟨_, _, ⟨o, e, _⟩, _⟩ := hA0 a z
    have z2 := (hA2 a y).1
    rw [e] at z2; cases z2
  · rcases z with z | z
    · exact bare a z
    · obtain ⟨h1, h2⟩ := hA2 a z
      exact ⟨x1.there a h1, h2⟩
def fTup (fs : Sm W (List OT)) : Sm W OT := fun ρ s => (fs ρ s).bind fun ts s1 => small ts.length (.oT ts) s1
theorem vf_tup {k : Nat} (h : VAF W X E es fs) : VF W X E (.Tuple es k pos) (fTup fs) := PE.imp (pe_tup h) fun σ H Q hq => by
  obtain ⟨G, ρ, s, r, hq⟩ := hq
  refine tG.mk r (Pst.mono (Pst.bind (P := pFs X.K H) hq) ?_)
  rintro ws H1 ⟨G1, s1, ts, x1, r1, ⟨A, ro, hA⟩, h1⟩
  obtain ⟨hz, h1⟩ := Pst.small h1
  refine ⟨by rw [ro.length]; exact hz, fun p hp => ?_⟩
  obtain ⟨x, r2⟩ := pV.new (o := .tup ws) r1 hp (nd_tup ws)
  have ne : ∀ a, A a → a ≠ p := fun a z => by
    obtain ⟨_, _, ⟨o, e, _⟩, _⟩ := hA a z
    exact ne_of_none e hp
  refine h1 _ _ _ x r2 ⟨A, .oT upd_same (ro.mono (Sub.upd (r1.toRelW.free hp)) (fun _ z => z) fun a z => upd_ne (ne a z)), fun a z => ?_⟩
  obtain ⟨h0, h2, h3, h4, h5⟩ := hA a z
  refine ⟨h0, ?_, ?_, h4, h5⟩
  · show upd G1.F p _ a = none
    rw [upd_ne (ne a z)]; exact h2
  · rw [upd_ne (ne a z)]; exact h3

/-! ### 3. repr -/
mutual
def Val.noL : Val → Bool
  | .lst _ => false
  | .wlst _ => false
  | .adr _ => false
  | .exv _ _ _ _ => false
  | .err _ _ => false
  | .tup xs => Val.noLs xs
  | .wtup xs => Val.noLs xs
  | .dic _ kvs => Val.noLp kvs
  | _ => true
def Val.noLs : List Val → Bool
  | [] => true
  | x :: r => x.noL && Val.noLs r
def Val.noLp : List (Val × Val) → Bool
  | [] => true
  | p :: r => Val.noL2 p && Val.noLp r
def Val.noL2 : Val × Val → Bool
  | (_, v) => v.noL
end
section
variable {pins : List (Addr × Obj)} {σ : L2.St} {H B : Hp} {s : Shared}
theorem dt_keys0 (I : Inv X pins σ H s) {l : List (List Key × V)} {xs : List (List Key × Addr × Value)} (kt : KT H l xs) : ∀ {kvs : List (Val × Val)}, RepP X.K B (l.map kT) kvs → ReadsAll s.heap (xs.map fun x => Value.ref x.2.1) ((Val.toDp kvs).map (·.1)) [] := by
  induction kt with
  | nil => intro kvs rp; cases rp; exact .nil
  | @cons a b la lb q t ih =>
    intro kvs rp
    cases rp with
    | cons r rs =>
      obtain ⟨its, rv, ⟨o, g, c, n, d⟩, _⟩ := I.tuple (SqT.of q.2.1)
      have h2 : Reads s.heap (.ref b.2.1) (Val.toD (.tup (a.1.map kVal))) [] := .tuple g c d (by simpa using reads_keys rv)
      exact .cons (as := []) (bs := []) h2 (ih rs)
mutual
theorem Rep.readsN (I : Inv X pins σ H s) (sb : Sub B H) : ∀ {v : Val} {w : V} {u : Value}, Rep X.K B w v → RelV w u → v.noL = true → ∃ as, Reads s.heap u v.toD as ∧ sysModules ∉ as
  | .non, _, _, .non, r, _ => by cases r; exact ⟨[], .none, by simp⟩
  | .bl b, _, _, .bl _, r, _ => by cases r; exact ⟨[], .bool b, by simp⟩
  | .int i, _, _, .int _, r, _ => by obtain ⟨t, rfl⟩ := r; exact ⟨[], .int i t, by simp⟩
  | .str x, _, _, .str _, r, _ => by obtain ⟨t, rfl⟩ := r; exact ⟨[], .str x t, by simp⟩
  | .tup xs, _, _, .tup e rs, r, hp => by
    cases r
    obtain ⟨its, rv, ⟨o, g, c, n, d⟩, _⟩ := I.tuple (SqT.of (sb _ _ e))
    obtain ⟨as, h, hn⟩ := Reps.readsN I sb rs rv hp
    exact ⟨as, .tuple g c d (by simpa using h), hn⟩
  | .wtup xs, _, _, .tupW (a := a) (ws := ws) e rs, r, hp => by
    cases r
    have e' : SqT X.K H a ws := by
      rcases e with (e | ⟨o, e⟩) | e
      · cases e
      · cases e
      · exact .inr e
    obtain ⟨its, rv, ⟨o, g, c, n, d⟩, _⟩ := I.tuple e'
    obtain ⟨as, h, hn⟩ := Reps.readsN I sb rs rv hp
    exact ⟨as, .tuple g c d (by simpa using h), hn⟩
  | .dic false kvs, _, _, .dK (l := l) e rp, r, hp => by
    cases r
    obtain ⟨_, lo, vs, kv, o, es, ep, g, c, d, hk, pr, _⟩ := dk_rd I.hok (sb.rd e)
    obtain ⟨bs, h, hn⟩ := RepP.readsN I sb rp (dk_vals kv) hp
    rw [← pairs_vals pr] at h
    refine ⟨_, .dict g c.1 d (dk_keys kv pr rp) h, ?_⟩
    have := beq_eq_false_iff_ne.mp lo
    simp only [List.cons_append, List.nil_append, List.mem_cons, not_or]
    exact ⟨Ne.symm this, hn⟩
  | .dic true kvs, _, _, .dT (l := l) e rp, r, hp => by
    cases r
    obtain ⟨_, lo, xs, kt, o, es, ep, g, c, d, le, _, _⟩ := dt_rd I.hok (sb.rd e)
    obtain ⟨bs, h, hn⟩ := RepP.readsN I sb rp (dt_vals kt) hp
    have e1 : es.toList.map (·.val) = xs.map (·.2.2) := by rw [le, List.map_map]; rfl
    have e2 : es.toList.map (·.key) = xs.map fun x => Value.ref x.2.1 := by rw [le, List.map_map]; rfl
    rw [← e1] at h
    have h2 := dt_keys0 I kt rp
    rw [← e2] at h2
    refine ⟨_, .dict g c.1 d h2 h, ?_⟩
    have := beq_eq_false_iff_ne.mp lo
    simp only [List.cons_append, List.nil_append, List.mem_cons, not_or]
    exact ⟨Ne.symm this, hn⟩
theorem Reps.readsN (I : Inv X pins σ H s) (sb : Sub B H) : ∀ {vs : List Val} {ws : List V} {us : List Value}, Reps X.K B ws vs → Vals ws us → Val.noLs vs = true → ∃ as, ReadsAll s.heap us (Val.toDs vs) as ∧ sysModules ∉ as
  | [], _, _, .nil, .nil, _ => ⟨[], .nil, by simp⟩
  | v :: vs, _, _, .cons r rs, .cons q qs, hp => by
    have hp : (v.noL && Val.noLs vs) = true := hp
    rw [Bool.and_eq_true] at hp
    obtain ⟨as, h1, n1⟩ := Rep.readsN I sb r q hp.1
    obtain ⟨bs, h2, n2⟩ := Reps.readsN I sb rs qs hp.2
    exact ⟨as ++ bs, .cons h1 h2, by rw [List.mem_append]; exact fun z => z.elim n1 n2⟩
theorem RepP.readsN (I : Inv X pins σ H s) (sb : Sub B H) : ∀ {kvs : List (Val × Val)} {l : List (Val × V)} {us : List Value}, RepP X.K B l kvs → Vals (l.map (·.2)) us → Val.noLp kvs = true → ∃ as, ReadsAll s.heap us ((Val.toDp kvs).map (·.2)) as ∧ sysModules ∉ as
  | [], _, _, .nil, .nil, _ => ⟨[], .nil, by simp⟩
  | (k, v) :: kvs, _, _, .cons r rs, .cons q qs, hp => by
    have hp : (v.noL && Val.noLp kvs) = true := hp
    rw [Bool.and_eq_true] at hp
    obtain ⟨as, h1, n1⟩ := Rep.readsN I sb r q hp.1
    obtain ⟨bs, h2, n2⟩ := RepP.readsN I sb rs qs hp.2
    exact ⟨as ++ bs, .cons h1 h2, by rw [List.mem_append]; exact fun z => z.elim n1 n2⟩
end
end
def reprOk (v : Val) : Bool := v.noL && v.toD.showable && v.toD.leavesShort 13 && decide (v.toD.weight ≤ 2 ^ 20) && decide (v.toD.depth ≤ 50)
def Val.isRef : Val → Bool
  | .tup _ => true
  | .wtup _ => true
  | .dic _ _ => true
  | _ => false
def gRepr : List Val → Option Val
  | [v] => if (v.isRef && reprOk v) = true then some (.str v.toD.shown) else none
  | _ => none
def rRepr (K : PySem.W.Frag) : List V → Hp → VK → Prop := fun xs H Q => ∃ w v, xs = [w] ∧ Rep K H w v ∧ v.isRef = true ∧ reprOk v = true ∧ Q (.str v.toD.shown) H
theorem call_reprV (hg : X.A.guards = some []) (hu : X.A.units + 64 < cLine) : CallR X (.builtin "repr") (rRepr X.K) := by
  intro pins s σ H xs us Q I r h
  obtain ⟨w, v, rfl, rp, hr, ok, q⟩ := h
  obtain ⟨u, rfl, rx⟩ := vals1 r
  unfold reprOk at ok
  simp only [Bool.and_eq_true] at ok
  obtain ⟨⟨⟨⟨h1, h2⟩, h3⟩, h4⟩, h5⟩ := ok
  have h5 := of_decide_eq_true h5
  obtain ⟨as, rd, hn⟩ := Rep.readsN I (Sub.refl _) rp rx h1
  obtain ⟨a, rfl⟩ : ∃ a, u = .ref a := by
    cases rp <;> first | (cases hr; done) | exact ⟨_, rx⟩
  exact repr_of_reads' (hsz := PyData.shown_fits (B := 13) (by omega) (Nat.le_refl _) h3 (of_decide_eq_true h4)) rd h2 (fun _ => hn) hg (by omega) (fun _ _ e => e) fun h' u tk hk => ⟨.str v.toD.shown, H, I.kept hk, ⟨u, rfl⟩, q⟩
theorem ve_repr {a : Expr} {fa : Ev W} {p1 : Pos} (hgd : X.A.guards = some []) (hu : X.A.units + 64 < cLine) (hg : Gl X "repr") (hm : X.mg "repr" = none) (ha : VB W X E a fa) (h1 : starEach [a] X.env = (false, eval a X.env) :: starEach [] X.env := by rfl) :
    VE W X E (.Call (.Name "repr" p1) [a] [] pos) (eCl gRepr (eCons fa eNil)) :=
  ve_callB (call_reprV hgd hu) (fun H ws vs v Q rs e q => by
    unfold gRepr at e
    split at e
    · split at e
      · rename_i hk
        cases e
        rw [Bool.and_eq_true] at hk
        obtain ⟨w, rfl, r1⟩ := rs.one
        exact ⟨w, _, rfl, r1, hk.1, hk.2, q _ fun F => .str _⟩
      · cases e
    · cases e) hg hm (by rfl) (vab_cons ha vab_nil h1) (he := h1)
end
end VL

/-! VL18: list of a dict's items. -/
namespace VL
open PySem PySem.Spec PyProof.Rows L2
/-- tuples of two at the addresses -/
def putTs : Hp → List Addr → List (V × V) → Hp
  | H, a :: as, r :: rows => putTs (upd H a (.tup [r.1, r.2])) as rows
  | H, _, _ => H
theorem putTs_off {b : Addr} : ∀ (as : List Addr) (rows : List (V × V)) (H : Hp), b ∉ as → putTs H as rows b = H b
  | [], _, _, _ => rfl
  | _ :: _, [], _, _ => rfl
  | a :: as, r :: rows, H, h => by
    show putTs (upd H a _) as rows b = H b
    have h1 : b ≠ a := fun z => h (by rw [z]; exact List.mem_cons_self)
    rw [putTs_off as rows _ (fun z => h (List.mem_cons_of_mem _ z)), upd_ne h1]
theorem putTs_at {t : Addr} {r : V × V} : ∀ (as : List Addr) (rows : List (V × V)) (H : Hp) (j : Nat), as.Nodup → as[j]? = some t → rows[j]? = some r → putTs H as rows t = some (.tup [r.1, r.2])
  | [], _, _, j, _, h, _ => by simp at h
  | _ :: _, [], _, j, _, _, h => by simp at h
  | a :: as, r0 :: rows, H, 0, hn, h1, h2 => by
    have h1 : a = t := by simpa using h1
    have h2 : r0 = r := by simpa using h2
    subst h1 h2
    show putTs (upd H a _) as rows a = _
    rw [putTs_off as rows _ (List.nodup_cons.mp hn).1, upd_same]
  | a :: as, r0 :: rows, H, j + 1, hn, h1, h2 => putTs_at as rows (upd H a _) j (List.nodup_cons.mp hn).2 (by simpa using h1) (by simpa using h2)
theorem putTs_new {W : Wo} {K : PySem.W.Frag} {ρ : En} {σ : L2.St} {s : W.S} : ∀ {as : List Addr} {rows : List (V × V)} {m : List (Val × Val)} {G : Gh} {H : Hp}, Rel W K G ρ s σ H → as.Nodup → (∀ t ∈ as, H t = none) → as.length = rows.length → Rep2 K G.F rows m →
    ∃ G', Nx G G' H (putTs H as rows) ∧ Rel W K G' ρ s σ (putTs H as rows) ∧ Reps K G'.F (as.map V.ref) (m.map fun p => .tup [p.1, p.2])
  | [], [], _, G, H, r, _, _, _, .nil => ⟨G, Nx.refl _ _, r, .nil⟩
  | [], _ :: _, _, G, H, r, _, _, h, _ => by cases h
  | _ :: _, [], _, G, H, r, _, _, h, _ => by cases h
  | a :: as, (k, v) :: rows, _, G, H, r, hn, hf, hl, .cons (k := x) (v := y) rk rv rp => by
    have hn' := List.nodup_cons.mp hn
    have fa := hf a List.mem_cons_self
    obtain ⟨hF, hH⟩ := r.toRelW.fresh (o := .tup [k, v]) fa (nd_tup _)
    have r1 := r.next hF hH
    obtain ⟨G', x2, r2, rs⟩ := putTs_new r1 hn'.2 (fun t ht => by rw [upd_ne (fun z => hn'.1 (by rw [← z]; exact ht))]; exact hf t (List.mem_cons_of_mem _ ht)) (Nat.succ.inj hl) (rp.mono hF.sub)
    refine ⟨G', hF.trans x2, r2, .cons (.tup (x2.sub _ _ (show upd G.F a _ a = _ from upd_same)) ?_) rs⟩
    exact .cons (rk.mono (hF.sub.trans x2.sub)) (.cons (rv.mono (hF.sub.trans x2.sub)) .nil)
section
variable {X : Cx} {pins : List (Addr × Obj)} {σ : L2.St} {H : Hp} {s : Shared}
theorem rowsV_laid {h' : Heap} {tk : Nat} {rows : List (V × V)} {es : Array DictEntry} {acc : Array Value} {c : Nat} {as : List Addr} (I : Inv X pins σ H s) (hz : rows.length ≤ sizeLine) (hk : ∀ b o, s.heap.get? b = some o → h'.get? b = some o)
    (hS : h'.get? s.heap.objs.size = some { cls := .type "list", dict := none, data := .seq acc c, slots := #[] }) (hl : as.length = es.size) (hG : PySem.W.DilG es s.heap.objs.size h' as) (hacc : acc.toList = as.map Value.ref) (hr : rows.length = es.size)
    (hv : ∀ (j : Nat) (hj : j < es.size), ∃ p, rows[j]? = some p ∧ RelV p.1 es[j].key ∧ RelV p.2 es[j].val) :
    as.Nodup ∧ (∀ t ∈ as, H t = none) ∧ s.heap.objs.size ∉ as ∧ Inv X pins σ (upd (putTs H as rows) s.heap.objs.size (.lst (as.map V.ref))) { s with heap := h', toks := tk } := by
  have nS : s.heap.objs.size ∉ as := fun z => Nat.lt_irrefl _ (hG.above _ z)
  have nd : as.Nodup := List.Pairwise.imp (fun {a b} (h : a < b) => Nat.ne_of_lt h) hG.rise
  have new : ∀ t ∈ as, H t = none := fun t ht => I.hok.fresh (Nat.le_of_lt (hG.above t ht))
  have newS : H s.heap.objs.size = none := I.hok.fresh (Nat.le_refl _)
  have off : ∀ b, b ∉ as → b ≠ s.heap.objs.size → (upd (putTs H as rows) s.heap.objs.size (.lst (as.map V.ref))) b = H b := fun b h1 h2 => by rw [upd_ne h2, putTs_off as rows _ h1]
  have low : ∀ b o, s.heap.get? b = some o → b ∉ as ∧ b ≠ s.heap.objs.size := fun b o e => ⟨fun z => absurd (Heap.lt_size e) (Nat.not_lt.mpr (Nat.le_of_lt (hG.above b z))), Nat.ne_of_lt (Heap.lt_size e)⟩
  have kp : ∀ b u, H b = some u → (upd (putTs H as rows) s.heap.objs.size (.lst (as.map V.ref))) b = some u := fun b u e => by
    rw [off b (fun z => by rw [new b z] at e; cases e) (fun z => by rw [z, newS] at e; cases e)]
    exact e
  refine ⟨nd, new, nS, ?_⟩
  refine I.call' (ch := []) rfl ⟨fun b o q _ _ _ => hk b o q, fun b o q _ _ _ => ⟨o.slots, hk b o q⟩, fun b o q n _ => ?_, fun b o q _ => ⟨o, hk b o q⟩, fun b xs q => kp b _ q, fun b o u q => kp b _ q, fun b ps q => ⟨#[], by rw [kp b _ q]; simp⟩⟩ (fun b u q => ?_) I.bare fun b z => by simp at z
  · obtain ⟨z1, z2⟩ := low b o q
    rw [off b z1 z2]
    exact n
  · by_cases hb2 : b = s.heap.objs.size
    · subst hb2
      rw [upd_same] at q
      cases q
      have e1 : (as.map V.ref).length = rows.length := by rw [List.length_map]; omega
      refine ⟨by rw [e1]; exact hz, acc.toList, c, by rw [hacc]; exact vals_refs as, ?_⟩
      rw [Array.toArray_toList]
      exact hS
    · by_cases hb : b ∈ as
      · rw [upd_ne hb2] at q
        obtain ⟨j, e1⟩ := List.mem_iff_getElem?.mp hb
        obtain ⟨hj, f3⟩ := hG.pairs j b e1
        obtain ⟨p, e2, g1, g2⟩ := hv j hj
        rw [putTs_at as rows H j nd e1 e2] at q
        cases q
        exact ⟨by show 2 ≤ sizeLine; decide, [es[j].key, es[j].val], .cons g1 (.cons g2 .nil), ⟨_, f3, rfl, _, rfl⟩⟩
      · rw [off b hb hb2] at q
        exact (I.hok b u q).stay (fun d v _ y => hk d v y) (fun d y => kp d _ y) fun d xs y => kp d _ y
/-- the rows of a dict's items -/
def RowsOf (H : Hp) (d : Addr) (rows : List (V × V)) : Prop := (∃ l, Rd H d (.dK l) ∧ rows = l.map fun p => (kV p.1, p.2)) ∨ ∃ (l : List (List Key × V)) (bs : List Addr), Rd H d (.dT l) ∧ IsKeys H l bs ∧ rows = (bs.zip l).map fun p => (V.ref p.1, p.2.2)
def tItemsL (te : TE) : TE := fun σ H Q => te σ H fun x H1 => ∃ d, x = .ref d ∧ ((∃ l, Rd H1 d (.dK l)) ∨ ∃ l, Rd H1 d (.dT l)) ∧ ∀ rows p as, RowsOf H1 d rows → H1 p = none → as.Nodup → (∀ t ∈ as, H1 t = none) → p ∉ as → as.length = rows.length → Q (.ref p) (upd (putTs H1 as rows) p (.lst (as.map V.ref)))
theorem rowsT_at {l : List (List Key × V)} {xs : List (List Key × Addr × Value)} {H : Hp} (kt : KT H l xs) : ∀ {j : Nat} {b : List Key × Addr × Value}, xs[j]? = some b → ∃ p, (((xs.map fun x => x.2.1).zip l).map fun p => (V.ref p.1, p.2.2))[j]? = some p ∧ RelV p.1 (.ref b.2.1) ∧ RelV p.2 b.2.2 := by
  induction kt with
  | nil => intro j b e; simp at e
  | @cons a b0 la lb h t ih =>
    intro j b e
    cases j with
    | zero => cases e; exact ⟨_, rfl, rfl, h.2.2⟩
    | succ j => simpa using ih (by simpa using e)
theorem rowsK_at {l : List (Key × V)} {vs : List (Key × Value)} (kv : KV l vs) : ∀ {P : Program} {w : World} {es : List DictEntry}, Pairs (mixKind P w) es vs → ∀ {j : Nat} {e : DictEntry}, es[j]? = some e → ∃ p, (l.map fun p => (kV p.1, p.2))[j]? = some p ∧ RelV p.1 e.key ∧ RelV p.2 e.val := by
  unfold KV at kv
  induction kv with
  | nil => intro P w es p j e h; cases p; simp at h
  | @cons a b la lb q t ih =>
    intro P w es p j e h
    cases p with
    | cons h1 h2 h3 =>
      cases j with
      | zero =>
        cases h
        refine ⟨_, rfl, ?_, ?_⟩
        · show RelV (kV a.1) _
          rw [q.1]; exact relV_key h1
        · rw [h2]; exact q.2
      | succ j => exact ih h3 (by simpa using h)
theorem pe_itemsV {e : Expr} {te : TE} {p apos cpos pos : Pos} (hc : X.calm = true) (he : PE X e te) (hg : Gl X "list") (hm : X.mg "list" = none) (hv : bootBuiltins "list" = some (.type "list")) (hbase : attributeBase e "items" X.env (eval e X.env) = eval e X.env) (hline : (apos.endLine == cpos.line) = true)
    (hs : starEach [.Call (.Attribute e "items" apos) [] [] cpos] X.env = (false, eval (.Call (.Attribute e "items" apos) [] [] cpos) X.env) :: starEach [] X.env) :
    PE X (.Call (.Name "list" p) [.Call (.Attribute e "items" apos) [] [] cpos] [] pos) (tItemsL te) := by
  refine ⟨fun pins s σ H Q I hq => ?_⟩
  refine wpAny_Call_Name_kw (ld_blt I hg hm hv ?_)
  refine PyProof.Rows.callWith_type1 ?_ hs rfl
  rw [hs]
  show wpAny _ _ (spliced ((false, eval (.Call (.Attribute e "items" apos) [] [] cpos) X.env) :: backTo pos (starEach [] X.env))) _ _ s
  refine Calls.spliced_cons ?_
  refine wpAny_Call_method (T := "dict") (id := "dict.items") hbase rfl hline F.plainAttrs_dict F.slot_dict_items F.type_dict_items (thn (he.run pins s σ H _ I hq) fun u s1 ⟨x, H1, I1, rx, d, ex, hd, q⟩ => ?_)
  subst ex
  obtain rfl : u = Value.ref d := rx
  -- the entries
  obtain ⟨hs0, es, ep, hraw, rows, hz, hro, hlen, hval⟩ : (d == sysModules) = false ∧ ∃ (es : Array DictEntry) (ep : Nat), s1.heap.DictRaw d es ep ∧ ∃ rows, rows.length ≤ sizeLine ∧ RowsOf H1 d rows ∧ rows.length = es.size ∧
      ∀ (j : Nat) (hj : j < es.size), ∃ p, rows[j]? = some p ∧ RelV p.1 es[j].key ∧ RelV p.2 es[j].val := by
    rcases hd with ⟨l, hd⟩ | ⟨l, hd⟩
    · obtain ⟨z, lo, vs, kv, o, es, ep, g, c, hdt, hk, pr, _⟩ := dk_rd I1.hok hd
      have l1 : es.size = vs.length := by rw [← pr.length]; simp
      have l2 := kv.length
      refine ⟨lo, es, ep, ⟨o, g, c, hdt⟩, _, by rw [List.length_map]; exact z, .inl ⟨l, hd, rfl⟩, by rw [List.length_map]; omega, fun j hj => ?_⟩
      exact rowsK_at kv pr (j := j) (e := es[j]) (by simp [hj])
    · obtain ⟨z, lo, xs, kt, o, es, ep, g, c, hdt, he, _, _⟩ := dt_rd I1.hok hd
      have l1 : es.size = xs.length := size_of_entries he
      have l2 : l.length = xs.length := Paired.length kt
      refine ⟨lo, es, ep, ⟨o, g, c, hdt⟩, ((xs.map fun x => x.2.1).zip l).map fun p => (V.ref p.1, p.2.2), ?_, .inr ⟨l, _, hd, isKeys_of kt, rfl⟩, ?_, fun j hj => ?_⟩
      · rw [List.length_map, List.length_zip, List.length_map]; omega
      · rw [List.length_map, List.length_zip, List.length_map]; omega
      · have hx : xs[j]? = some xs[j] := List.getElem?_eq_getElem (by omega)
        obtain ⟨p, e1, g1, g2⟩ := rowsT_at kt hx
        have qe := entry_at he j
        rw [hx] at qe
        have e3 : es[j]? = some es[j] := Array.getElem?_eq_getElem hj
        rw [e3] at qe
        have qe := Option.some.inj qe
        refine ⟨p, e1, ?_, ?_⟩
        · rw [qe]; exact g1
        · rw [qe]; exact g2
  have I2 : Inv X pins σ H1 { s1 with heap := s1.heap.push { cls := .type "dict_items", data := .fields #[.ref d] } } := I1.kept (t' := s1.toks) fun b ob q => Heap.get?_push_of_some _ q
  refine ⟨hraw.typeIs, ?_, ?_⟩
  · obtain ⟨o, g, c, _⟩ := hraw
    exact fun a e => by cases e; exact ⟨o, g, c.2.1⟩
  show wpAny _ _ (callWith cpos (.builtin "dict.items") [.ref d] [] []) _ X.xe s1
  refine method_meetsIn F.slot_dict_items F.entry_dict_items rfl (PySem.evalArgs_none ⟨rfl, hraw.typeIs, F.args_dict_items_1 _, _, meets_dict_items_raw d hs0, ⟨es, ep, hraw⟩, ?_⟩)
  refine Calls.spliced_nil ?_
  refine PySem.W.dil_call (es := es) (ep := ep) (I1.ok.hd hc) ⟨_, Heap.get?_push_size _ rfl, rfl, rfl⟩ (hraw.at fun o e => Heap.get?_push_of_some _ e) (by omega) fun h' tk acc c as hk hS hl hG hacc => ?_
  obtain ⟨k1, k2, k3, J⟩ := rowsV_laid (tk := tk) I2 hz hk hS hl hG hacc hlen hval
  exact ⟨.ref _, _, J, rfl, q rows _ as hro (I2.hok.fresh (Nat.le_refl _)) k1 k2 k3 (by omega)⟩
end
section
variable {W : Wo} {X : Cx} {E : WX}
def fItems (p : Sm W OT) : Sm W OT := fun ρ s => (p ρ s).bind fun t s1 => match t.dict with
  | some d => .ok (.oL (d.2.map fun p => .tup [p.1, p.2])) s1
  | none => .bad
theorem rep2_K {K : PySem.W.Frag} {F : Hp} : ∀ {l : List (Key × V)} {kvs : List (Val × Val)}, RepP K F (l.map kK) kvs → Rep2 K F (l.map fun p => (kV p.1, p.2)) kvs
  | [], _, h => by cases h; exact .nil
  | (.inl i, w) :: l, _, h => by
    cases h with
    | cons r t => exact .cons (.int i) r (rep2_K t)
  | (.inr x, w) :: l, _, h => by
    cases h with
    | cons r t => exact .cons (.str x) r (rep2_K t)
theorem rep2_T {K : PySem.W.Frag} {F H : Hp} (st : Sub (TupOf H) F) : ∀ {l : List (List Key × V)} {bs : List Addr} {kvs : List (Val × Val)}, RepP K F (l.map kT) kvs → IsKeys H l bs → Rep2 K F ((bs.zip l).map fun p => (V.ref p.1, p.2.2)) kvs
  | [], [], _, h, _ => by cases h; exact .nil
  | [], _ :: _, _, h, k => by cases k
  | _ :: _, [], _, h, k => by cases k
  | (ks, w) :: l, b :: bs, _, h, k => by
    cases h with
    | cons r t =>
      cases k with
      | cons hb kt => exact .cons (.tup (st _ _ (TupOf.at hb)) (Reps.keys ks)) r (rep2_T st t kt)
theorem vf_items {e : Expr} {p : Sm W OT} {p1 apos cpos pos : Pos} (hc : X.calm = true) (he : VP W X E e p) (hg : Gl X "list") (hm : X.mg "list" = none) (hbase : attributeBase e "items" X.env (eval e X.env) = eval e X.env := by rfl) (hline : (apos.endLine == cpos.line) = true := by rfl)
    (hs : starEach [.Call (.Attribute e "items" apos) [] [] cpos] X.env = (false, eval (.Call (.Attribute e "items" apos) [] [] cpos) X.env) :: starEach [] X.env := by rfl) :
    VF W X E (.Call (.Name "list" p1) [.Call (.Attribute e "items" apos) [] [] cpos] [] pos) (fItems p) := PE.imp (pe_itemsV hc he hg hm (by rfl) hbase hline hs) fun σ H Q hq => by
  obtain ⟨G, ρ, s, r, hq⟩ := hq
  refine tG.mk r (Pst.mono (Pst.bind (P := pP X.K H) hq) ?_)
  rintro w H1 ⟨G1, s1, t, x1, r1, ⟨A, ro, hA⟩, h1⟩
  cases ed : t.dict with
  | none => rw [ed] at h1; exact h1.elim
  | some d =>
    obtain ⟨b, kvs⟩ := d
    rw [ed] at h1
    obtain ⟨a, rfl, hd⟩ := dict_rep r1.sub ro ed
    refine ⟨a, rfl, ?_, fun rows q as hro hq nd new nq hl => ?_⟩
    · rcases hd with ⟨_, l, h, _⟩ | ⟨_, l, h, _⟩
      · exact .inl ⟨l, h⟩
      · exact .inr ⟨l, h⟩
    have rr : Rep2 X.K G1.F rows kvs := by
      rcases hd with ⟨rfl, l, h, rp⟩ | ⟨rfl, l, h, rp⟩
      · rcases hro with ⟨l', h', rfl⟩ | ⟨l', bs, h', _, _⟩
        · have : l' = l := by
            rcases h with h | ⟨o, h⟩ <;> rcases h' with h' | ⟨o', h'⟩ <;> rw [h] at h' <;> cases h' <;> rfl
          subst this
          exact rep2_K rp
        · exfalso
          rcases h with h | ⟨o, h⟩ <;> rcases h' with h' | ⟨o', h'⟩ <;> rw [h] at h' <;> cases h'
      · rcases hro with ⟨l', h', rfl⟩ | ⟨l', bs, h', hk, rfl⟩
        · exfalso
          rcases h with h | ⟨o, h⟩ <;> rcases h' with h' | ⟨o', h'⟩ <;> rw [h] at h' <;> cases h'
        · have : l' = l := by
            rcases h with h | ⟨o, h⟩ <;> rcases h' with h' | ⟨o', h'⟩ <;> rw [h] at h' <;> cases h' <;> rfl
          subst this
          exact rep2_T (TupOf.le r1.toRelW) rp hk
    obtain ⟨G2, x2, r2, rs⟩ := putTs_new r1 nd new hl rr
    have hq2 : putTs H1 as rows q = none := by rw [putTs_off as rows _ nq]; exact hq
    obtain ⟨x3, r3, ⟨A3, ro3, hA3⟩⟩ := pF.new (o := .lst (as.map V.ref)) (t := .oL (kvs.map fun p => .tup [p.1, p.2])) r2 hq2 (nd_lst _).2 (.oL upd_same rfl rs)
    exact h1 _ _ _ (x2.trans x3) r3 ⟨A3, ro3, fun a z => ⟨x1.there a (x2.there a (hA3 a z).1), (hA3 a z).2⟩⟩
end
end VL

/-! VL19: the law's def, called by the claim's own caller (whose guards are known: repr). -/
namespace VL
open PySem PySem.Spec PyProof.Rows L2
/-- what the law's def promises to the claim's caller -/
def TopRun (P : Program) (w : World) (K : PySem.W.Frag) (mg : Str → Option Value) (base : Heap) (fa : Addr) (fd : FuncData) (x : Str) (sp : Sp) : Prop :=
  ∀ (s : Shared) (H : Hp) (v : V) (u : Value) (Q : VK) (E : XK), Env0 P w K mg base callerA [] s H → BindsTo s fd ⟨[u], []⟩ [(x, u)] → RelV v u → sp [v] H Q E → codeAny (model P w) callerA (.call (.ref fa) ⟨[u], []⟩) (CR CX0 [] P w H s Q E) s
section
variable {P : Program} {w : World} {K : PySem.W.Frag} {mg : Str → Option Value} {base : Heap}
/-- a def's body from one caller -/
theorem Fun.top {x qual p : Str} {st : Stmt} {f : Addr} {fd : FuncData} {N : List Str} {k : Nat} {sp : Sp} (F : Fun K x qual st f fd) (S : FnScope N [p] (defScope st)) (hr : Room (k + 1) callerA)
    (body : ∀ (cdv : Value) (s : Shared) (H : Hp) (v : V) (Q : VK) (E : XK), Room k (callerA.deeper (envOfC qual (defScope st) s.heap.objs.size f cdv)) → sp [v] H Q E →
      ∃ t, PSs (cxV P w K mg base N qual (defScope st) f cdv callerA [] s H E) (defBody st) t ∧ t { nx := fun _ H' => Q .non H', rt := Q } (L2.start N [v]) H) : TopRun P w K mg base f fd p sp := by
  intro s H v u Q E e0 hb rv hsp
  obtain ⟨oc, od, kV, doc, pm, an, cdv, ct, osl, rfl, lk, hcd⟩ := F.ex
  have inK : K.In s.heap := e0.mod.kin.keeps fun b o e => (e0.bs b o e).1
  have free : s.heap.NoLimit := e0.mod.nolimit.keeps fun b o e => (e0.bs b o e).1
  have kinds : ∀ y ∈ [p].zip [u], (defScope st).names.lookup y.1 = some .local ∨ ((defScope st).names.lookup y.1 = some .cell ∧ ((cellsFrom (s.heap.objs.size + 1) (defScope st).names []).lookup y.1).isSome = true) := fun ⟨n, z⟩ hy =>
    (S.par n (List.of_mem_zip hy).1).imp id fun q => ⟨q, PySem.W.cellsFrom_some _ _ _ (.inl q)⟩
  refine codeAny_call_function hr.depth (inK _ _ lk) rfl S.co S.gen rfl (PySem.W.codeRec_of inK hcd) (hb _ _ _ _ ?_)
  refine wpAny_newFunctionEnv_cells S.kind kinds fun env he s1 call => ?_
  subst he
  refine ⟨free.keeps call.toInCall.keep, codeAny_func ?_⟩
  obtain ⟨t, ht, hq⟩ := body cdv s H v Q E (hr.deeper _) hsp
  have I0 := inv_start (CX := CX0) (P := P) (w := w) (mg := mg) (base := base) (E := E) S hr.hd e0 (vs := [v]) (us := [u]) rfl (.cons rv .nil) call
  refine wpAny_mono (ht.nox.run [] s1 _ H _ I0 hq) (fun fl s' hs => ?_) fun e s' hs => hs
  cases fl with
  | ret z =>
    obtain ⟨y, σ', H', J, ry, q⟩ := hs
    exact ⟨y, H', J.os, J.bare, J.base, J.hok, ry, q⟩
  | next =>
    obtain ⟨σ', H', J, q⟩ := hs
    exact ⟨V.non, H', J.os, J.bare, J.base, J.hok, rfl, q⟩
  | brk => exact hs.elim fun _ z => z.elim fun _ z => z.2.elim
  | cont => exact hs.elim fun _ z => z.elim fun _ z => z.2.elim
/-- the heap behind the top, the script known -/
theorem top_call {mb : Str → Option Value} {fa a : Addr} {fd : FuncData} {x : Str} {sp : Sp} {s₁ : Shared} {vs : List Value} {ns : List Int}
    (inK : K.In s₁.heap) (gl : s₁.heap.Ns mainGlobals mg) (bl : s₁.heap.Ns builtinsNs mb) (boot : ∀ x : Str, x ≠ "__name__" → mb x = bootBuiltins x) (free : s₁.heap.NoLimit) (g0 : s₁.gens = #[])
    (ha : s₁.heap.get? a = some { cls := .type "list", data := .seq vs.toArray }) (hi : IntsAre vs ns) (hl : ns.length ≤ sizeLine)
    (T : ∀ base : Heap, K.In base → base.Ns mainGlobals mg → TopRun P w K mg base fa fd x sp) (hbind : ∀ (s : Shared) (u : Value), BindsTo s fd ⟨[u], []⟩ [(x, u)])
    (hsp : ∀ H : Hp, Only H → SqL K H a (ns.map V.int) → sp [.ref a] H (fun v _ => v = .bl true) fun _ _ _ => False) :
    codeAny (model P w) callerA (.call (.ref fa) ⟨[.ref a], []⟩) (fun r s' => r = .ok (.ret (.bool true)) ∧ OldK s₁.heap s'.heap ∧ s'.os = s₁.os ∧ AllBare s'.gens) s₁ := by
  have rv := vals_ints hi
  have lv := hi.length
  -- whatever of the script is tracked
  have main : ∀ H : Hp, Only H → SqL K H a (ns.map V.int) → HOk P w H s₁.heap → (∀ b, H b ≠ none → b = a) → (H a ≠ none → K.lookup a = none) →
      codeAny (model P w) callerA (.call (.ref fa) ⟨[.ref a], []⟩) (fun r s' => r = .ok (.ret (.bool true)) ∧ OldK s₁.heap s'.heap ∧ s'.os = s₁.os ∧ AllBare s'.gens) s₁ := by
    intro H only sq ok at_a off_a
    have only_a : ∀ {b : Addr} {u : HO}, H b = some u → b = a := fun {b u} q => at_a b (by rw [q]; simp)
    have notDict : ∀ {b : Addr} {o : Obj} {es : Array DictEntry} {ep : Nat}, s₁.heap.get? b = some o → o.data = .dict es ep → H b = none := fun {b o es ep} e d => by
      cases q : H b with
      | none => rfl
      | some u =>
        have := only_a q
        subst this
        rw [ha] at e; cases e
        have d2 : Data.seq vs.toArray _ = Data.dict es ep := d
        cases d2
    have ns2 : ∀ {b : Addr} {m : Str → Option Value}, s₁.heap.Ns b m → (hidT s₁.heap H).Ns b m := fun {b m} ⟨o, es, ep, e, d, r⟩ => ⟨o, es, ep, hidT_get e (notDict e d), d, r⟩
    have inB : K.In (hidT s₁.heap H) := fun b o e => hidT_get (inK b o e) (by
      cases q : H b with
      | none => rfl
      | some u =>
        have := only_a q
        subst this
        rw [off_a (by rw [q]; simp)] at e; cases e)
    have md : Mod K mg (hidT s₁.heap H) := ⟨inB, ns2 gl, ⟨mb, ns2 bl, boot⟩, let ⟨mc, h1, h2⟩ := free; ⟨mc, ns2 h1, h2⟩⟩
    have e0 : Env0 P w K mg (hidT s₁.heap H) callerA [] s₁ H := ⟨rfl, md, fun b o e => of_hidT e, Nat.le_of_eq (hidT_size _ _), trivial, fun b hb => absurd (show b ∈ ([] : List Addr) from hb) (by simp), ok, .of_eq g0⟩
    refine codeAny_mono (T _ inB (ns2 gl) s₁ H (.ref a) (.ref a) _ _ e0 (hbind s₁ (.ref a)) rfl (hsp H only sq)) fun r s' h => ?_
    cases r with
    | error e => exact h.elim
    | ok fl =>
      cases fl with
      | ret u =>
        obtain ⟨v, H', os, bare, un, ok2, ru, q⟩ := h
        obtain rfl : v = .bl true := q
        obtain rfl : u = Value.bool true := ru
        refine ⟨rfl, OldK.of_keep fun b o e => ?_, os, bare⟩
        cases q : H b with
        | none => exact un.keep b o e q (fun z => absurd (show b ∈ ([] : List Addr) from z) (by simp)) (by simp)
        | some u =>
          rcases only b with z | ⟨ob, xs, z⟩
          · rw [q] at z; cases z
          · obtain ⟨e1, _⟩ := ok b _ z
            obtain ⟨e2, _⟩ := ok2 b _ (un.frzs b ob _ z)
            rw [e] at e1; cases e1
            exact e2
      | next => exact h.elim
      | brk => exact h.elim
      | cont => exact h.elim
  cases q : K.lookup a with
  | some o =>
    have e := inK a o q
    rw [ha] at e
    cases e
    refine main (fun _ => none) (fun _ => .inl rfl) (.inr ⟨_, vs.toArray, _, q, rfl, rfl, rfl, by rw [List.size_toArray, lv]; exact hl, by simpa using rv⟩) (fun b u z => by have z : (none : Option HO) = some u := z; cases z) (fun b z => absurd rfl z) fun z => absurd rfl z
  | none =>
    have hit : ∀ {b : Addr} {u : HO}, (if b = a then some (HO.frz { cls := .type "list", data := .seq vs.toArray } (.lst (ns.map V.int))) else none) = some u → b = a ∧ u = .frz { cls := .type "list", data := .seq vs.toArray } (.lst (ns.map V.int)) := fun {b u} z => by
      split at z
      · cases z; exact ⟨by assumption, rfl⟩
      · cases z
    refine main (fun b => if b = a then some (.frz { cls := .type "list", data := .seq vs.toArray } (.lst (ns.map V.int))) else none) (fun b => ?_) (.inl (.inr ⟨{ cls := .type "list", data := .seq vs.toArray }, if_pos rfl⟩)) (fun b u z => ?_) (fun b z => ?_) fun _ => q
    · by_cases hb : b = a
      · exact .inr ⟨_, _, if_pos hb⟩
      · exact .inl (if_neg hb)
    · obtain ⟨rfl, rfl⟩ := hit z
      exact ⟨ha, by rw [List.length_map]; exact hl, vs, _, rv, ha⟩
    · by_cases hb : b = a
      · exact hb
      · exact absurd (if_neg hb) z
end
/-- the goal that k_head leaves -/
theorem top_walk {l : PySem.W.OpenLaw} {n : Nat} {q : Program} {loose : List Str} {XP : (Str → Option Value) → Heap → Prop} {YP : World → Heap → Prop} {d : DefRec} {K : Params → PySem.W.Frag} {sp : World → Sp} {x : Str}
    (hn : l.most = some n) (hn2 : n ≤ sizeLine) (hdf : d.params.defaults = []) (hY : ∀ (w : World) (h : Heap), YP w h → (K w.params).In h)
    (T : ∀ (w : World) (mg : Str → Option Value) (fa : Addr) (h : Heap), (K w.params).In h → h.Ns mainGlobals mg → mg d.name = some (.ref fa) →
      ∃ fd : FuncData, (∀ (s : Shared) (u : Value), BindsTo s fd ⟨[u], []⟩ [(x, u)]) ∧ ∀ base : Heap, (K w.params).In base → base.Ns mainGlobals mg → TopRun l.prog w (K w.params) mg base fa fd x (sp w))
    (hsp : ∀ (w : World) (H : Hp) (a : Addr) (ns : List Int), ns.length ≤ n → (∀ z ∈ ns, Builtin.Int.intBits z ≤ 1048576) → Only H → SqL (K w.params) H a (ns.map V.int) → sp w [.ref a] H (fun v _ => v = .bl true) fun _ _ _ => False) :
    PySem.W.WalkO q loose XP YP l.row.toRowW d [] (fun f vs => PySem.call f vs) := by
  refine Att.attach_callB hn hdf fun w s₀ s₁ mg mb fa o pm cd doc a vs ns G Y ho hd hcd hmg hobj hints hlen hbits hg => ?_
  have inK := hY w _ Y
  obtain ⟨fd, hb, hT⟩ := T w mg fa _ inK G.T.g hmg
  exact top_call (sp := sp w) inK G.T.g G.T.b G.T.builtins G.T.nolimit hg hobj hints (Nat.le_trans hlen hn2) hT hb fun H only sq => hsp w H a ns hlen hbits only sq
/-- the law answers True -/
theorem law_sp {K : PySem.W.Frag} {f : Fv W0} {H : Hp} {a : Addr} {ns : List Int} (only : Only H) (sq : SqL K H a (ns.map V.int)) (h : ∃ s', f [.wlst (ns.map Val.int)] () = .ok (.sh (.bl true)) s') : VSp W0 K 1 f [.ref a] H (fun v _ => v = .bl true) fun _ _ _ => False := by
  have rw0 : RelW W0 ⟨H, fun _ => False, fun _ _ => False⟩ () H := by
    refine ⟨Sub.refl _, fun a ws e => ?_, fun b => ⟨fun l e => ?_, fun l e => ?_⟩, fun a z => z⟩
    · exact e
    · rcases only b with z | ⟨o, xs, z⟩
      · have e : H b = some (.dK l) := e
        rw [z] at e; cases e
      · have e : H b = some (.dK l) := e
        rw [z] at e; cases e
    · rcases only b with z | ⟨o, xs, z⟩
      · have e : H b = some (.dT l) := e
        rw [z] at e; cases e
      · have e : H b = some (.dT l) := e
        rw [z] at e; cases e
  refine ⟨⟨H, fun _ => False, fun _ _ => False⟩, (), [.wlst (ns.map Val.int)], rw0, .cons (.lstW sq (Reps.ints ns)) .nil, rfl, ?_⟩
  obtain ⟨s', e⟩ := h
  rw [e]
  rintro G' H' v x r' ⟨A, ro, _⟩
  cases ro with
  | sh rp => exact rp.bl_inv
end VL

/-! VL20: odds and ends. -/
namespace VL
open PySem PySem.Spec PyProof.Rows L2
section
variable {W : Wo} {X : Cx} {E : WX} {T T' : List Nat} {st : Stmt} {sts : List Stmt} {c : Cm W}
theorem vs_mono (h : VS W X E T st c) (ht : ∀ i ∈ T, i ∈ T') : VS W X E T' st c := PS.imp h fun D σ H ⟨G, ρ, s, r, hq⟩ => ⟨G, ρ, s, r, PstS.mono ht hq⟩
theorem vss_mono (h : VSs W X E T sts c) (ht : ∀ i ∈ T, i ∈ T') : VSs W X E T' sts c := PSs.imp h fun D σ H ⟨G, ρ, s, r, hq⟩ => ⟨G, ρ, s, r, PstS.mono ht hq⟩
def subB (a b : List Nat) : Bool := a.all fun i => b.contains i
theorem sub_of {a b : List Nat} (h : subB a b = true) : ∀ i ∈ a, i ∈ b := fun i hi => by
  unfold subB at h
  rw [List.all_eq_true] at h
  have := h i hi
  simpa using this
end
section
variable {W : Wo} {X : Cx} {E : WX} {T : List Nat} {st : Stmt}
/-- what slot i owns is shared from here on -/
def cFrz (i : Nat) (c : Cm W) : Cm W := fun ρ s => match ρ[i]? with
  | some (some t) => if t.free = true then c (ρ.set i (some (.sh t.val))) s else .bad
  | _ => .bad
theorem frz_lk {c : Cm W} {i : Nat} {D : Ends} {σ : L2.St} {H : Hp} (hi : i ∈ T) (h : tS W X.K E T (cFrz i c) D σ H) : Lk (fun H' => tS W X.K E T c D σ H') H := by
  obtain ⟨G, ρ, s, r, hq⟩ := h
  unfold cFrz at hq
  split at hq
  · rename_i t e
    split at hq
    · rename_i hf
      obtain ⟨w, h1, ro⟩ := r.slot i t e
      have hA : ∀ a, G.ad i a → G.F a = none ∧ ¬ G.fp a := fun a z => ⟨(r.own i a z).1, (r.own i a z).2.2⟩
      refine (ro.frz r.toRelW hA hf).bind fun H' ⟨G', f, rp⟩ => .here ?_
      have il : i < ρ.length := (List.getElem?_eq_some_iff.mp e).1
      have rel : Rel W X.K (G'.put i fun _ => False) (ρ.set i (some (.sh t.val))) s σ H' := by
        refine ⟨⟨f.rw'.sub, f.rw'.tups, f.rw'.lk, f.rw'.wrl⟩, by rw [List.length_set]; exact r.len, fun j t' ej => ?_, fun j a z => ?_, fun j k a hjk z y => ?_⟩
        · by_cases q : j = i
          · subst q
            rw [List.getElem?_set_self il] at ej
            cases ej
            exact ⟨w, h1, .sh rp⟩
          · rw [List.getElem?_set_ne (Ne.symm q)] at ej
            obtain ⟨w', h3, h4⟩ := r.slot j t' ej
            refine ⟨w', h3, h4.mono f.sub (fun a z => ?_) fun a z => (f.off a fun y => r.dis j i a q z y).1⟩
            rw [Gh.put_ne q, f.ad]; exact z
        · by_cases q : j = i
          · subst q; rw [Gh.put_same] at z; exact z.elim
          · rw [Gh.put_ne q, f.ad] at z
            have na : ¬ G.ad i a := fun y => r.dis j i a q z y
            show G'.F a = none ∧ _ ∧ ¬ G'.fp a
            rw [(f.off a na).1, (f.off a na).2, f.fp]
            exact r.own j a z
        · by_cases q : j = i
          · subst q; rw [Gh.put_same] at z; exact z
          · by_cases q2 : k = i
            · subst q2; rw [Gh.put_same] at y; exact y
            · rw [Gh.put_ne q, f.ad] at z
              rw [Gh.put_ne q2, f.ad] at y
              exact r.dis j k a hjk z y
      have ns : Ns T G (G'.put i fun _ => False) H H' := Ns.put (G := G') (H := H') ⟨f.sub, fun a o e n d => by rw [(f.off a fun z => d i hi z).1]; exact e, fun a h => (by
          cases q : H a with
          | none => rfl
          | some o => obtain ⟨o', e'⟩ := f.on a o q; rw [h] at e'; cases e'), fun j _ => by rw [f.ad], fun j a hj z => by rw [f.ad] at z; exact .inl ⟨j, hj, z⟩, fun a z => by rw [f.fp] at z; exact .inl z, fun a o e => by
          by_cases z : G.ad i a
          · exact .inr (.inr (.inr (.inl ⟨i, hi, z⟩)))
          · rw [(f.off a z).2] at e; exact .inl e⟩ hi fun _ z => z.elim
      exact ⟨_, _, s, rel, PstS.from ns (Off.set hi) (Off.refl _ _) hq⟩
    · exact .here (hq.elim)
  · exact .here (hq.elim)
theorem vs_frz {c : Cm W} (i : Nat) (hi : i ∈ T) (h : VS W X E T st c) : VS W X E T st (cFrz i c) := PS.imp (ps_lk h) fun D σ H q => frz_lk hi q
/-- .. behind the statement -/
theorem ps_lkE {t : TS} (h : PS X st t) : PS X st fun D σ H => t { D with nx := fun σ' H' => Lk (fun H2 => D.nx σ' H2) H' } σ H := ⟨fun pins s σ H D I hw =>
  thn (h.run pins s σ H _ I hw) fun f s1 q => by
    cases f with
    | next =>
      obtain ⟨σ', H', I', q⟩ := q
      obtain ⟨H2, I2, q2⟩ := q.inv I'
      exact ⟨σ', H2, I2, q2⟩
    | brk => exact q
    | cont => exact q
    | ret v => exact q⟩
def cThenF (i : Nat) (c : Cm W) : Cm W := fun ρ s => (c ρ s).then (cFrz i cNx)
theorem vs_thenF {c : Cm W} (i : Nat) (hi : i ∈ T) (h : VS W X E T st c) : VS W X E T st (cThenF i c) := PS.imp (ps_lkE h) fun D σ H ⟨G, ρ, s, r, hq⟩ =>
  ⟨G, ρ, s, r, PstS.ends (PstS.then hq) (fun σ' H' q => (frz_lk hi q).bind fun H2 ⟨G2, ρ2, s2, r2, q2⟩ => .here (q2.nx' r2)) (fun _ _ q => q) (fun _ _ q => q) fun _ _ q => q⟩
end
section
variable {W : Wo} {P : Program} {w : World} {K : PySem.W.Frag} {mg : Str → Option Value} {base : Heap}
/-- the law's def -/
theorem Fun.topV {x qual p : Str} {st : Stmt} {f : Addr} {fd : FuncData} {N : List Str} {k : Nat} {T : List Nat} {c : Cm W} (F : Fun K x qual st f fd) (S : FnScope N [p] (defScope st)) (hN : 1 ≤ N.length) (hr : Room (k + 1) callerA)
    (hbody : ∀ (cdv : Value) (s : Shared) (H : Hp) (EX : XK), Room k (callerA.deeper (envOfC qual (defScope st) s.heap.objs.size f cdv)) → VSs W (cxV P w K mg base N qual (defScope st) f cdv callerA [] s H EX) eN T (defBody st) c) :
    TopRun P w K mg base f fd p (VSp W K 1 (cDef0 N.length c)) := by
  refine Fun.top F S hr fun cdv s H v Q E hr h => ?_
  obtain ⟨G, s0, xs, r, rs, hl, h⟩ := h
  refine ⟨_, hbody cdv s H E hr, def_run (EX := fun _ _ _ => False) r rs (by omega) ?_ fun _ _ _ _ z => z⟩
  have h : PstC W K G H (cDef N.length c xs s0).calm Q E := h
  cases q : cDef N.length c xs s0 with
  | bad => rw [q] at h; exact h.elim
  | ok t s' => rw [q] at h; exact h
  | exc cc n s' => rw [q] at h; exact h.elim
end
end VL
namespace VL
open PySem PySem.Spec PyProof.Rows L2
/-- a def that may be called -/
def Cal {W : Wo} (P : Program) (w : World) (K : PySem.W.Frag) (mg : Str → Option Value) (base : Heap) (x : Str) (k n : Nat) (F : Fv W) : Prop :=
  ∃ (f : Addr) (fd : FuncData) (ps : List Str), FnOk P w K mg base CX0 k f fd ps (VSp W K n F) ∧ mg x = some (.ref f) ∧ PySem.W.keepIn K (.ref f) = true ∧ Binds K fd ps []
section
variable {W : Wo} {X : Cx} {E : WX} {k n : Nat} {F : Fv W} {x : Str} {p pos : Pos} {e : Expr} {es : List Expr} {fs : Sm W (List Val)}
theorem vf_cal (C : Cal X.prog X.w X.K X.mg X.base x k n F) (hr : Room k X.A) (hg : Gl X x) (ha : VA W X E (e :: es) fs) (hdb : (x == ("__debug__" : Str)) = false := by decide)
    (he : starEach (e :: es) X.env = (false, eval e X.env) :: starEach es X.env := by rfl) (hpl : (backTo pos (starEach es X.env)).any (·.1) = false := by rfl) : VF W X E (.Call (.Name x p) (e :: es) [] pos) (fCall n F fs) := by
  obtain ⟨f, fd, ps, ok, m, kp, b⟩ := C
  exact vf_call ok hr hg m kp b pass_0 ha hdb he hpl
theorem vf_cal0 (C : Cal X.prog X.w X.K X.mg X.base x k n F) (hr : Room k X.A) (hg : Gl X x) (hdb : (x == ("__debug__" : Str)) = false := by decide) : VF W X E (.Call (.Name x p) [] [] pos) (fCall n F eNil) := by
  obtain ⟨f, fd, ps, ok, m, kp, b⟩ := C
  exact vf_call0 ok hr hg m kp b pass_0 hdb
/-- -x -/
def gNeg : Val → Option Val
  | .int i => some (.int (-i))
  | _ => none
theorem ve_neg {a : Expr} {f : Ev W} (ha : VB W X E a f) : VE W X E (.UnaryOp .USub a pos) (e1 gNeg f) := PE.imp (pe_un un_neg ha) fun σ H Q hq => by
  refine (tG.bind (P := pB X.K) hq).mono ?_
  rintro w H1 ⟨G, ρ, s, v, r, ⟨B, sb, nb, rp⟩, h'⟩
  obtain ⟨u, e, h'⟩ := Pst.opt h'
  unfold gNeg at e
  split at e
  · cases e
    cases rp.int_inv
    exact ⟨_, rfl, h'.done r (.int _)⟩
  · cases e
end
end VL

/-! VL21: reckoning with the semantics: rows of turns, comprehensions, dicts by their keys. -/
namespace VL
open PySem PySem.Spec PyProof.Rows L2
/-! ### 1. dicts by keys -/
section
variable {κ : Type} [DecidableEq κ]
/-- how keys are written as values -/
structure Enc (κ : Type) where
  e : κ → Val
  c : κ → DK
  b : Bool
  key : ∀ k, dkey (e k) = some (c k)
  inj : ∀ a b, c a = c b → a = b
  isT : ∀ k, DK.isT (c k) = b
def Enc.d (E : Enc κ) (l : List (κ × Val)) : List (Val × Val) := l.map fun p => (E.e p.1, p.2)
def getL {α : Type} (l : List (κ × α)) (k : κ) : Option α := (l.find? fun p => decide (p.1 = k)).map (·.2)
def putL {α : Type} (l : List (κ × α)) (k : κ) (v : α) : List (κ × α) := if (l.any fun p => decide (p.1 = k)) = true then l.map (fun p => if p.1 = k then (p.1, v) else p) else l ++ [(k, v)]
variable (E : Enc κ)
theorem Enc.iff (a b : κ) : dkey (E.e a) = some (E.c b) ↔ a = b := by
  rw [E.key]
  exact ⟨fun h => E.inj _ _ (Option.some.inj h), fun h => by rw [h]⟩
theorem Enc.get (k : κ) : ∀ l : List (κ × Val), vget (E.d l) (E.c k) = getL l k
  | [] => rfl
  | p :: l => by
    have ih := Enc.get k l
    unfold vget getL Enc.d at *
    rw [List.map_cons, List.find?_cons, List.find?_cons]
    by_cases q : p.1 = k
    · subst q
      have h1 := E.key p.1
      simp only [h1, decide_true]
      rfl
    · have h1 : ¬ dkey (E.e p.1) = some (E.c k) := fun z => q ((E.iff _ _).mp z)
      simp only [h1, q, decide_false]
      exact ih
theorem Enc.any (k : κ) : ∀ l : List (κ × Val), ((E.d l).any fun p => decide (dkey p.1 = some (E.c k))) = l.any fun p => decide (p.1 = k)
  | [] => rfl
  | p :: l => by
    show (((E.e p.1, p.2) :: E.d l).any _) = _
    rw [List.any_cons, List.any_cons, Enc.any k l]
    congr 1
    exact decide_eq_decide.mpr (E.iff _ _)
theorem Enc.put (k : κ) (v : Val) (l : List (κ × Val)) : vput (E.d l) (E.e k) (E.c k) v = E.d (putL l k v) := by
  unfold vput putL
  rw [E.any]
  split
  · unfold Enc.d
    rw [List.map_map, List.map_map]
    apply List.map_congr_left
    intro p _
    by_cases q : p.1 = k
    · have h1 := (E.iff p.1 k).mpr q
      show (if dkey (E.e p.1) = some (E.c k) then (E.e p.1, v) else (E.e p.1, p.2)) = (E.e (if p.1 = k then (p.1, v) else p).1, (if p.1 = k then (p.1, v) else p).2)
      rw [if_pos h1, if_pos q]
    · have h1 : ¬ dkey (E.e p.1) = some (E.c k) := fun z => q ((E.iff _ _).mp z)
      show (if dkey (E.e p.1) = some (E.c k) then (E.e p.1, v) else (E.e p.1, p.2)) = (E.e (if p.1 = k then (p.1, v) else p).1, (if p.1 = k then (p.1, v) else p).2)
      rw [if_neg h1, if_neg q]
  · unfold Enc.d; rw [List.map_append]; rfl
theorem Enc.dget (k : κ) (l : List (κ × Val)) : VL.dget E.b (E.d l) (E.e k) = some (getL l k) := by
  unfold VL.dget
  rw [E.key]
  show (if DK.isT (E.c k) = E.b then some (vget (E.d l) (E.c k)) else none) = _
  rw [if_pos (E.isT k), E.get]
theorem getL_map {α β : Type} (f : α → β) (k : κ) : ∀ l : List (κ × α), getL (l.map fun p => (p.1, f p.2)) k = (getL l k).map f
  | [] => rfl
  | p :: l => by
    have ih := getL_map f k l
    unfold getL at *
    rw [List.map_cons, List.find?_cons, List.find?_cons]
    by_cases q : p.1 = k
    · simp [q]
    · simp only [q, decide_false]
      exact ih
theorem getL_some {α : Type} {k : κ} {v : α} : ∀ {l : List (κ × α)}, getL l k = some v → (k, v) ∈ l
  | [], h => by cases h
  | p :: l, h => by
    unfold getL at h
    rw [List.find?_cons] at h
    by_cases q : p.1 = k
    · simp [q] at h
      rw [← q, ← h]; exact List.mem_cons_self
    · simp only [q, decide_false] at h
      exact List.mem_cons_of_mem _ (getL_some (l := l) h)
theorem getL_of_mem {α : Type} {k : κ} {v : α} : ∀ {l : List (κ × α)}, (l.map (·.1)).Nodup → (k, v) ∈ l → getL l k = some v
  | [], _, h => by cases h
  | p :: l, hn, h => by
    rw [List.map_cons, List.nodup_cons] at hn
    unfold getL
    rw [List.find?_cons]
    rcases List.mem_cons.mp h with rfl | h
    · simp
    · have q : ¬ p.1 = k := fun e => hn.1 (by rw [e]; exact List.mem_map.mpr ⟨_, h, rfl⟩)
      simp only [q, decide_false]
      exact getL_of_mem hn.2 h
theorem getL_none {α : Type} {k : κ} : ∀ {l : List (κ × α)}, getL l k = none ↔ k ∉ l.map (·.1)
  | [] => by simp [getL]
  | p :: l => by
    have ih := getL_none (k := k) (l := l)
    unfold getL at *
    rw [List.find?_cons, List.map_cons, List.mem_cons]
    by_cases q : p.1 = k
    · simp [q]
    · simp only [q, decide_false]
      rw [ih]
      simp [Ne.symm q]
theorem putL_new {α : Type} {l : List (κ × α)} {k : κ} {v : α} (h : k ∉ l.map (·.1)) : putL l k v = l ++ [(k, v)] := by
  unfold putL
  rw [if_neg]
  intro z
  obtain ⟨p, hp, e⟩ := List.any_eq_true.mp z
  exact h (List.mem_map.mpr ⟨p, hp, of_decide_eq_true e⟩)
end
/-- pairs of whole numbers; whole numbers -/
abbrev PP := Int × Int
def pv (p : PP) : Val := .tup [.int p.1, .int p.2]
def encP : Enc PP where
  e := pv
  c p := .inr [.inl p.1, .inl p.2]
  b := true
  key _ := rfl
  inj a b h := by
    obtain ⟨a1, a2⟩ := a
    obtain ⟨b1, b2⟩ := b
    cases h
    rfl
  isT _ := rfl
def encI : Enc Int where
  e := .int
  c n := .inl (.inl n)
  b := false
  key _ := rfl
  inj a b h := Sum.inl.inj (Sum.inl.inj h)
  isT _ := rfl

/-! ### 2. rows of turns -/
theorem forS_inv {W : Wo} {p : Pu} {b : Cm W} (I : Nat → En → W.S → Prop) : ∀ {xs : List Val} {n : Nat} {ρ : En} {s : W.S}, I n ρ s →
    (∀ i x ρ s, xs[i]? = some x → I (n + i) ρ s → ∃ ρ1, p x ρ = some ρ1 ∧ ∃ ρ2 s2, (b ρ1 s = .nx ρ2 s2 ∨ b ρ1 s = .ct ρ2 s2) ∧ I (n + i + 1) ρ2 s2) → ∃ ρ2 s2, forS p b xs ρ s = .nx ρ2 s2 ∧ I (n + xs.length) ρ2 s2
  | [], n, ρ, s, h0, _ => ⟨ρ, s, rfl, h0⟩
  | x :: xs, n, ρ, s, h0, h => by
    obtain ⟨ρ1, e1, ρ2, s2, e2, h2⟩ := h 0 x ρ s rfl h0
    obtain ⟨ρ3, s3, e3, h3⟩ := forS_inv (xs := xs) (n := n + 1) I h2 (fun i y ρ s hi hI => by
      have := h (i + 1) y ρ s (by simpa using hi) (by have e : n + (i + 1) = n + 1 + i := by omega
                                                      rw [e]; exact hI)
      have e : n + (i + 1) + 1 = n + 1 + i + 1 := by omega
      rw [e] at this
      exact this)
    refine ⟨ρ3, s3, ?_, by rw [List.length_cons]; have e : n + (xs.length + 1) = n + 1 + xs.length := by omega
                           rw [e]; exact h3⟩
    unfold forS
    rw [e1]
    rcases e2 with e2 | e2 <;> simp only [e2] <;> exact e3
theorem compS_map {W : Wo} {ρ : En} {vs : List Nat} {i : Nat} {t : Sm W Bool} {f : Ev W} {s : W.S} (Pd : Val → Bool) (g : Val → Val) : ∀ {xs acc : List Val}, (∀ x ∈ xs, t ((wipeE ρ vs).set i (some (.sh x))) s = .ok (Pd x) s) →
    (∀ x ∈ xs, Pd x = true → f ((wipeE ρ vs).set i (some (.sh x))) s = .ok (g x) s) → acc.length + xs.length ≤ sizeLine → compS ρ vs (puN i) t f xs acc s = .ok (.oL (acc ++ (xs.filter Pd).map g)) s
  | [], acc, _, _, _ => by simp [compS]
  | x :: xs, acc, h1, h2, hz => by
    have hx := h1 x List.mem_cons_self
    have ih := fun acc' => compS_map (acc := acc') Pd g (fun y hy => h1 y (List.mem_cons_of_mem _ hy)) (fun y hy => h2 y (List.mem_cons_of_mem _ hy))
    rw [List.length_cons] at hz
    unfold compS
    simp only [puN, hx]
    by_cases q : Pd x = true
    · rw [if_pos q]
      simp only [h2 x List.mem_cons_self q]
      rw [if_pos (by omega), ih _ (by rw [List.length_append, List.length_singleton]; omega), List.filter_cons, if_pos q]
      simp
    · rw [if_neg q, ih _ (by omega), List.filter_cons, if_neg q]
def putsV (m : List (Val × Val)) (ps : List (Val × Val)) : List (Val × Val) := ps.foldl (fun m p => match dkey p.1 with
  | some d => vput m p.1 d p.2
  | none => m) m
theorem vput_len (m : List (Val × Val)) (k : Val) (d : DK) (v : Val) : (vput m k d v).length ≤ m.length + 1 := by
  unfold vput
  split
  · rw [List.length_map]; omega
  · rw [List.length_append, List.length_singleton]; exact Nat.le_refl _
theorem compD_map {W : Wo} {b : Bool} {ρ : En} {vs : List Nat} {i : Nat} {t : Sm W Bool} {kf vf : Ev W} {s : W.S} (Pd : Val → Bool) (k g : Val → Val) : ∀ {xs : List Val} {acc : List (Val × Val)}, (∀ x ∈ xs, t ((wipeE ρ vs).set i (some (.sh x))) s = .ok (Pd x) s) →
    (∀ x ∈ xs, Pd x = true → kf ((wipeE ρ vs).set i (some (.sh x))) s = .ok (k x) s ∧ vf ((wipeE ρ vs).set i (some (.sh x))) s = .ok (g x) s ∧ ∃ d, dkey (k x) = some d ∧ DK.isT d = b) → acc.length + xs.length ≤ sizeLine →
    compD b ρ vs (puN i) t kf vf xs acc s = .ok (.oD b (putsV acc ((xs.filter Pd).map fun x => (k x, g x)))) s
  | [], acc, _, _, _ => by simp [compD, putsV]
  | x :: xs, acc, h1, h2, hz => by
    have hx := h1 x List.mem_cons_self
    have ih := fun acc' => compD_map (acc := acc') Pd k g (fun y hy => h1 y (List.mem_cons_of_mem _ hy)) (fun y hy => h2 y (List.mem_cons_of_mem _ hy))
    rw [List.length_cons] at hz
    unfold compD
    simp only [puN, hx]
    by_cases q : Pd x = true
    · obtain ⟨e1, e2, d, e3, e4⟩ := h2 x List.mem_cons_self q
      rw [if_pos q]
      simp only [e1, e2, e3]
      have := vput_len acc (k x) d (g x)
      rw [if_pos ⟨e4, by omega⟩, ih _ (by omega), List.filter_cons, if_pos q]
      simp [putsV, e3]
    · rw [if_neg q, ih _ (by omega), List.filter_cons, if_neg q]
theorem Enc.puts {κ : Type} [DecidableEq κ] (E : Enc κ) : ∀ (ps l : List (κ × Val)), (l.map (·.1) ++ ps.map (·.1)).Nodup → putsV (E.d l) (E.d ps) = E.d (l ++ ps)
  | [], l, _ => by simp [putsV, Enc.d]
  | p :: ps, l, hn => by
    have h1 : putsV (E.d l) (E.d (p :: ps)) = putsV (vput (E.d l) (E.e p.1) (E.c p.1) p.2) (E.d ps) := by
      show putsV (E.d l) ((E.e p.1, p.2) :: E.d ps) = _
      unfold putsV
      rw [List.foldl_cons, E.key]
    have hp : p.1 ∉ l.map (·.1) := fun z => by
      rw [List.map_cons, List.nodup_append] at hn
      exact hn.2.2 _ z _ List.mem_cons_self rfl
    rw [h1, E.put, putL_new hp, Enc.puts E ps _ (by
      rw [List.map_append, List.append_assoc]
      simpa using hn), List.append_assoc]
    rfl

/-! ### 3. pairs in order -/
def leP (p q : PP) : Bool := decide (p.1 < q.1 ∨ (p.1 = q.1 ∧ p.2 ≤ q.2))
theorem leV_pv (p q : PP) : leV (pv p) (pv q) = leP p q := by
  have h := congrFun (congrFun (PySem.W.dataLe_ii (β := PP) (fun b => b.1) (fun b => b.2)) p) q
  exact h
theorem leP_trans (a b c : PP) (h1 : leP a b = true) (h2 : leP b c = true) : leP a c = true := by
  unfold leP at *
  have h1 := of_decide_eq_true h1
  have h2 := of_decide_eq_true h2
  exact decide_eq_true (by omega)
theorem leP_total (a b : PP) : (leP a b || leP b a) = true := by
  unfold leP
  rw [Bool.or_eq_true, decide_eq_true_eq, decide_eq_true_eq]
  omega
theorem leP_anti (a b : PP) (h1 : leP a b = true) (h2 : leP b a = true) : a = b := by
  unfold leP at *
  have h1 := of_decide_eq_true h1
  have h2 := of_decide_eq_true h2
  obtain ⟨a1, a2⟩ := a
  obtain ⟨b1, b2⟩ := b
  simp only at h1 h2
  have e1 : a1 = b1 := by omega
  have e2 : a2 = b2 := by omega
  rw [e1, e2]
def sortP (l : List PP) : List PP := l.mergeSort leP
theorem sortP_vals (l : List PP) : (l.map pv).mergeSort leV = (sortP l).map pv := by
  unfold sortP
  rw [List.map_mergeSort (f := pv) (r := leP) (s := leV) (l := l) fun a _ b _ => (leV_pv a b).symm]
theorem sortP_perm (l : List PP) : (sortP l).Perm l := List.mergeSort_perm _ _
theorem sortP_eq {l m : List PP} (h : l.Perm m) : sortP l = sortP m := by
  apply List.Perm.eq_of_pairwise (le := fun a b => leP a b = true)
  · intro a b _ _ h1 h2; exact leP_anti a b h1 h2
  · exact List.pairwise_mergeSort leP_trans leP_total l
  · exact List.pairwise_mergeSort leP_trans leP_total m
  · exact (sortP_perm l).trans (h.trans (sortP_perm m).symm)
theorem pures_pv : ∀ l : List PP, Val.pures (l.map pv) = true
  | [] => rfl
  | _ :: l => pures_pv l
theorem alike_pv (p q : PP) : PySem.W.alike (pv p).toD (pv q).toD = true := by
  show PySem.W.alike (.tuple [.int p.1, .int p.2]) (.tuple [.int q.1, .int q.2]) = true
  simp [PySem.W.alike, PySem.W.alikeAll]
theorem sortOk_pv {l : List PP} (h : l.length ≤ sizeLine) : sortOk (l.map pv) = true := by
  have e1 : Val.toDs (l.map pv) = l.map fun p => (pv p).toD := by rw [toDs_map, List.map_map]; rfl
  have h1 : allAlikeB (Val.toDs (l.map pv)) = true := by
    rw [e1]
    unfold allAlikeB
    rw [List.all_eq_true]
    intro d hd
    obtain ⟨p, _, rfl⟩ := List.mem_map.mp hd
    rw [List.all_eq_true]
    intro d' hd'
    obtain ⟨q, _, rfl⟩ := List.mem_map.mp hd'
    exact alike_pv p q
  have h2 : sortableB (Val.toDs (l.map pv)) = true := by
    rw [e1]
    unfold sortableB
    rw [Bool.or_eq_true]
    refine .inl ?_
    rw [List.all_eq_true]
    intro d hd
    obtain ⟨p, _, rfl⟩ := List.mem_map.mp hd
    rfl
  have h3 : (l.map pv).all dep50 = true := by
    rw [List.all_eq_true]
    intro v hv
    obtain ⟨p, _, rfl⟩ := List.mem_map.mp hv
    rfl
  unfold sortOk
  rw [pures_pv, h1, h2, h3, List.length_map, decide_eq_true h]
  rfl
theorem sortL_pv {l : List PP} (h : l.length ≤ sizeLine) : sortL (l.map pv) = some ((sortP l).map pv) := by
  unfold sortL
  rw [if_pos (sortOk_pv h), sortP_vals]
end VL

/-! VL22: the semantics' equations, for simp. -/
namespace VL
open PySem PySem.Spec PyProof.Rows L2
section
variable {W : Wo} {S α β : Type} {ρ ρ' : En} {s s1 : W.S} {σ : S}
@[simp] theorem s_bind (a : α) (f : α → S → R S β) : (R.ok a σ).bind f = f a σ := rfl
@[simp] theorem s_go (a : α) (f : α → S → Out S) : (R.ok a σ).go ρ f = f a σ := rfl
@[simp] theorem s_opt (a : α) : R.opt (some a) σ = .ok a σ := rfl
@[simp] theorem s_calm (a : α) : (R.ok a σ).calm = .ok a σ := rfl
@[simp] theorem s_nx (f : En → S → Out S) : (Out.nx ρ σ).then f = f ρ σ := rfl
@[simp] theorem s_rt (t : OT) (f : En → S → Out S) : (Out.rt t σ).then f = .rt t σ := rfl
@[simp] theorem s_ct (f : En → S → Out S) : (Out.ct ρ σ).then f = .ct ρ σ := rfl
@[simp] theorem s_bk (f : En → S → Out S) : (Out.bk ρ σ).then f = .bk ρ σ := rfl
@[simp] theorem s_fnx : (Out.nx ρ σ).fin = .ok (.sh .non) σ := rfl
@[simp] theorem s_frt (t : OT) : (Out.rt t σ).fin = .ok t σ := rfl
@[simp] theorem s_eC (v : Val) : (eC v : Ev W) ρ s = .ok v s := rfl
theorem s_pVar (i : Nat) (t : OT) (h : ρ[i]? = some (some t)) : (pVar i : Sm W OT) ρ s = .ok t s := by unfold pVar; rw [h]
@[simp] theorem s_pVar' (i : Nat) : (pVar i : Sm W OT) ρ s = match ρ[i]? with | some (some t) => .ok t s | _ => .bad := rfl
@[simp] theorem s_eP (p : Sm W OT) : eP p ρ s = (p ρ s).bind fun t s1 => R.opt t.shv s1 := rfl
@[simp] theorem s_shv (v : Val) : (OT.sh v).shv = some v := rfl
@[simp] theorem s_bP (p : Sm W OT) : bP p ρ s = (p ρ s).bind fun t s1 => .ok t.val s1 := rfl
@[simp] theorem s_val (v : Val) : (OT.sh v).val = v := rfl
@[simp] theorem s_valL (v : List Val) : (OT.oL v).val = .lst v := rfl
@[simp] theorem s_valD (b : Bool) (v : List (Val × Val)) : (OT.oD b v).val = .dic b v := rfl
@[simp] theorem s_valR (b : Bool) (v : List (Val × Val)) : (OT.oR b v).val = .dic b v := rfl
@[simp] theorem s_pE (f : Ev W) : pE f ρ s = (f ρ s).bind fun v s1 => .ok (.sh v) s1 := rfl
@[simp] theorem s_eF (f : Sm W OT) : eF f ρ s = (f ρ s).bind fun t s1 => if t.free = true then .ok t.val s1 else .bad := rfl
@[simp] theorem s_fr1 (v : Val) : (OT.sh v).free = true := rfl
@[simp] theorem s_fr2 (v : List Val) : (OT.oL v).free = true := rfl
@[simp] theorem s_fr3 (b : Bool) (v : List (Val × Val)) : (OT.oD b v).free = true := rfl
@[simp] theorem s_e2 (g : Val → Val → Option Val) (a b : Ev W) : e2 g a b ρ s = (a ρ s).bind fun x s1 => (b ρ s1).bind fun y s2 => R.opt (g x y) s2 := rfl
@[simp] theorem s_e1 (g : Val → Option Val) (a : Ev W) : e1 g a ρ s = (a ρ s).bind fun x s1 => R.opt (g x) s1 := rfl
@[simp] theorem s_tst (f : Ev W) : tst f ρ s = (f ρ s).bind fun v s1 => match v with | .bl b => .ok b s1 | _ => .bad := rfl
@[simp] theorem s_and (t u : Sm W Bool) : tAndS t u ρ s = (t ρ s).bind fun c s1 => if c = true then u ρ s1 else .ok false s1 := rfl
@[simp] theorem s_or (t u : Sm W Bool) : tOrS t u ρ s = (t ρ s).bind fun c s1 => if c = true then .ok true s1 else u ρ s1 := rfl
@[simp] theorem s_not (t : Sm W Bool) : tNotS t ρ s = (t ρ s).bind fun c s1 => .ok (!c) s1 := rfl
@[simp] theorem s_andV (f g : Ev W) : eAndV f g ρ s = (tst f ρ s).bind fun c s1 => if c = true then g ρ s1 else .ok (.bl false) s1 := rfl
@[simp] theorem s_orV (f g : Ev W) : eOrV f g ρ s = (tst f ρ s).bind fun c s1 => if c = true then .ok (.bl true) s1 else g ρ s1 := rfl
@[simp] theorem s_notV (f : Ev W) : eNotV f ρ s = (tst f ρ s).bind fun c s1 => .ok (.bl (!c)) s1 := rfl
@[simp] theorem s_if (t : Sm W Bool) (f g : Sm W α) : eIf t f g ρ s = (t ρ s).bind fun c s1 => if c = true then f ρ s1 else g ρ s1 := rfl
@[simp] theorem s_nil : (eNil : Sm W (List Val)) ρ s = .ok [] s := rfl
@[simp] theorem s_cons (f : Ev W) (r : Sm W (List Val)) : eCons f r ρ s = (f ρ s).bind fun v s1 => (r ρ s1).bind fun vs s2 => .ok (v :: vs) s2 := rfl
@[simp] theorem s_tTrue : (tTrue : Sm W Bool) ρ s = .ok true s := rfl
theorem s_small {n : Nat} {a : α} (h : n ≤ sizeLine) : (small n a s : R W.S α) = .ok a s := by unfold small; rw [if_pos h]
@[simp] theorem s_lst (fs : Sm W (List Val)) : fLst fs ρ s = (fs ρ s).bind fun vs s1 => small vs.length (.oL vs) s1 := rfl
@[simp] theorem s_tup (fs : Sm W (List Val)) : eTup fs ρ s = (fs ρ s).bind fun vs s1 => small vs.length (.tup vs) s1 := rfl
@[simp] theorem s_d0 (b : Bool) : (fD0 b : Sm W OT) ρ s = .ok (.oD b []) s := rfl
@[simp] theorem s_ix (p : Sm W OT) (f : Ev W) : pIx p f ρ s = (p ρ s).bind fun t s1 => (f ρ s1).bind fun v s2 => R.opt (ixO t v) s2 := rfl
@[simp] theorem s_dg (p : Sm W OT) (f : Ev W) : eDg p f ρ s = (p ρ s).bind fun t s1 => (f ρ s1).bind fun v s2 => R.opt ((dgO t v).bind id) s2 := rfl
@[simp] theorem s_cl (g : List Val → Option Val) (fs : Sm W (List Val)) : eCl g fs ρ s = (fs ρ s).bind fun vs s1 => R.opt (g vs) s1 := rfl
@[simp] theorem s_fcl (g : OT → Option OT) (p : Sm W OT) : fCl g p ρ s = (p ρ s).bind fun t s1 => R.opt (g t) s1 := rfl
@[simp] theorem s_call (n : Nat) (F : Fv W) (fs : Sm W (List Val)) : fCall n F fs ρ s = (fs ρ s).bind fun xs s1 => if xs.length = n then F xs s1 else .bad := rfl
@[simp] theorem s_iOf (g : OT → Option (List Val)) (p : Sm W OT) : iOf g p ρ s = (p ρ s).bind fun t s1 => R.opt (g t) s1 := rfl
@[simp] theorem s_cNx : (cNx : Cm W) ρ s = .nx ρ s := rfl
@[simp] theorem s_cCt : (cCt : Cm W) ρ s = .ct ρ s := rfl
@[simp] theorem s_cBk : (cBk : Cm W) ρ s = .bk ρ s := rfl
@[simp] theorem s_seq (c d : Cm W) : cSeq c d ρ s = (c ρ s).then d := rfl
@[simp] theorem s_set (i : Nat) (f : Ev W) : cSet i f ρ s = (f ρ s).go ρ fun v s1 => .nx (ρ.set i (some (.sh v))) s1 := rfl
@[simp] theorem s_setF (i : Nat) (f : Sm W OT) : cSetF i f ρ s = (f ρ s).go ρ fun t s1 => .nx (ρ.set i (some t)) s1 := rfl
@[simp] theorem s_cif (t : Sm W Bool) (c d : Cm W) : cIf t c d ρ s = (t ρ s).go ρ fun b s1 => if b = true then c ρ s1 else d ρ s1 := rfl
@[simp] theorem s_ret (f : Ev W) : cRet f ρ s = (f ρ s).go ρ fun v s1 => .rt (.sh v) s1 := rfl
@[simp] theorem s_retF (f : Sm W OT) : cRetF f ρ s = (f ρ s).go ρ fun t s1 => .rt t s1 := rfl
@[simp] theorem s_app (i : Nat) (π : List Nat) (f : Ev W) : cApp i π f ρ s = match ownAt ρ i π with
  | some (t, .oL vs) => (f ρ s).go ρ fun v s1 => if vs.length < sizeLine then .nx (ρ.set i (some (OT.up π t (.oL (vs ++ [v]))))) s1 else .bad
  | _ => .bad := rfl
@[simp] theorem s_ext (i : Nat) (π : List Nat) (f : Ev W) : cExt i π f ρ s = match ownAt ρ i π with
  | some (t, .oL vs) => (f ρ s).go ρ fun v s1 => match v with
    | .lst us => if vs.length + us.length ≤ sizeLine then .nx (ρ.set i (some (OT.up π t (.oL (vs ++ us))))) s1 else .bad
    | _ => .bad
  | _ => .bad := rfl
@[simp] theorem s_pop (j i : Nat) (π : List Nat) : (cPop j i π : Cm W) ρ s = match ownAt ρ i π with
  | some (t, .oL vs) => match vs[vs.length - 1]? with
    | some v => .nx ((ρ.set i (some (OT.up π t (.oL vs.dropLast)))).set j (some (.sh v))) s
    | none => .bad
  | _ => .bad := rfl
@[simp] theorem s_put (i : Nat) (π : List Nat) (k v : Ev W) : cPut i π k v ρ s = (v ρ s).go ρ fun y s1 => match ownAt ρ i π with
  | some _ => (k ρ s1).go ρ fun x s2 => match putD ρ i π x y with
    | some ρ' => .nx ρ' s2
    | none => .bad
  | none => .bad := rfl
@[simp] theorem s_own (i : Nat) (π : List Nat) : ownAt ρ i π = match ρ[i]? with
  | some (some t) => (OT.at π t).map fun t1 => (t, t1)
  | _ => none := rfl
@[simp] theorem s_at (t : OT) : OT.at [] t = some t := by cases t <;> rfl
@[simp] theorem s_up (t u : OT) : OT.up [] t u = u := by cases t <;> rfl
@[simp] theorem s_asg (p : Pu) (f : Ev W) : cAsg p f ρ s = (f ρ s).go ρ fun v s1 => match p v ρ with
  | some ρ' => .nx ρ' s1
  | none => .bad := rfl
@[simp] theorem s_for (f : Sm W (List Val)) (p : Pu) (b : Cm W) : cFor f p b ρ s = (f ρ s).go ρ fun xs s1 => forS p b xs ρ s1 := rfl
@[simp] theorem s_while (m : En → Nat) (t : Sm W Bool) (b : Cm W) : cWhile m t b ρ s = whileS t b (m ρ) ρ s := rfl
@[simp] theorem s_frz (i : Nat) (c : Cm W) : cFrz i c ρ s = match ρ[i]? with
  | some (some t) => if t.free = true then c (ρ.set i (some (.sh t.val))) s else .bad
  | _ => .bad := rfl
@[simp] theorem s_thenF (i : Nat) (c : Cm W) : cThenF i c ρ s = (c ρ s).then (cFrz i cNx) := rfl
@[simp] theorem s_flc (vs : List Nat) (it : Sm W (List Val)) (p : Pu) (t : Sm W Bool) (f : Ev W) : fLc vs it p t f ρ s = (it ρ s).bind fun xs s1 => compS ρ vs p t f xs [] s1 := rfl
@[simp] theorem s_fdc (b : Bool) (vs : List Nat) (it : Sm W (List Val)) (p : Pu) (t : Sm W Bool) (kf vf : Ev W) : fDc b vs it p t kf vf ρ s = (it ρ s).bind fun xs s1 => compD b ρ vs p t kf vf xs [] s1 := rfl
@[simp] theorem s_cat (p q : Sm W OT) : fCat p q ρ s = (p ρ s).bind fun t s1 => (q ρ s1).bind fun u s2 => match t.listI, u.listI with
  | some xs, some ys => if xs.length + ys.length ≤ sizeLine then .ok (.oL (xs ++ ys)) s2 else .bad
  | _, _ => .bad := rfl
@[simp] theorem s_items (p : Sm W OT) : fItems p ρ s = (p ρ s).bind fun t s1 => match t.dict with
  | some d => .ok (.oL (d.2.map fun p => .tup [p.1, p.2])) s1
  | none => .bad := rfl
@[simp] theorem s_li1 (xs : List Val) : (OT.sh (.lst xs)).listI = some xs := rfl
@[simp] theorem s_li2 (xs : List Val) : (OT.oL xs).listI = some xs := rfl
@[simp] theorem s_ki1 (b : Bool) (m : List (Val × Val)) : (OT.sh (.dic b m)).keysI = some (m.map (·.1)) := rfl
@[simp] theorem s_ki2 (b : Bool) (m : List (Val × Val)) : (OT.oR b m).keysI = some (m.map (·.1)) := rfl
@[simp] theorem s_di1 (b : Bool) (m : List (Val × Val)) : (OT.sh (.dic b m)).dict = some (b, m) := rfl
@[simp] theorem s_di2 (b : Bool) (m : List (Val × Val)) : (OT.oD b m).dict = some (b, m) := rfl
@[simp] theorem s_di3 (b : Bool) (m : List (Val × Val)) : (OT.oR b m).dict = some (b, m) := rfl
@[simp] theorem s_add (i j : Int) : gAdd (.int i) (.int j) = some (.int (i + j)) := rfl
@[simp] theorem s_sub (i j : Int) : gSub (.int i) (.int j) = some (.int (i - j)) := rfl
theorem s_mul {i j : Int} (h : i.natAbs.log2 + j.natAbs.log2 < 1000000) : gMul (.int i) (.int j) = some (.int (i * j)) := by
  show (if cMul i j then some (Val.int (i * j)) else none) = _
  rw [if_pos (show cMul i j = true from decide_eq_true h)]
theorem s_mod {i j : Int} (h : 0 < j) : gMod (.int i) (.int j) = some (.int (i % j)) := by
  show (if cMod i j then some (Val.int (i % j)) else none) = _
  rw [if_pos (show cMod i j = true from decide_eq_true h)]
theorem s_div {i j : Int} (h : 0 < j) (h2 : j.natAbs.log2 < 9000) : gDiv (.int i) (.int j) = some (.int (i / j)) := by
  show (if cDiv i j then some (Val.int (i / j)) else none) = _
  rw [if_pos (show cDiv i j = true by unfold cDiv; rw [decide_eq_true h, decide_eq_true h2]; rfl)]
@[simp] theorem s_lt (i j : Int) : gLt (.int i) (.int j) = some (.bl (decide (i < j))) := rfl
@[simp] theorem s_le (i j : Int) : gLe (.int i) (.int j) = some (.bl (decide (i ≤ j))) := rfl
@[simp] theorem s_gt (i j : Int) : gGt (.int i) (.int j) = some (.bl (decide (j < i))) := rfl
@[simp] theorem s_ge (i j : Int) : gGe (.int i) (.int j) = some (.bl (decide (j ≤ i))) := rfl
@[simp] theorem s_isN (b : Bool) (v : Val) : gIsN b v .non = some (.bl (v.isN != b)) := rfl
@[simp] theorem s_int1 (i : Int) : gInt [.int i] = some (.int i) := rfl
@[simp] theorem s_int2 (b : Bool) : gInt [.bl b] = some (.int (if b then 1 else 0)) := rfl
@[simp] theorem s_abs (i : Int) : gAbs [.int i] = some (.int (if i < 0 then -i else i)) := rfl
@[simp] theorem s_min (i j : Int) : gMin [.int i, .int j] = some (.int (if j < i then j else i)) := rfl
@[simp] theorem s_lenL (xs : List Val) : gLen [.lst xs] = some (.int xs.length) := rfl
@[simp] theorem s_lenV (xs : List Val) : gLen [.wlst xs] = some (.int xs.length) := rfl
@[simp] theorem s_puN (i : Nat) (v : Val) : puN i v ρ = some (ρ.set i (some (.sh v))) := rfl
end
end VL

/-! VL23: the laws' own draws and mixes. -/
namespace VL
open PySem PySem.Spec PyProof.Rows L2
section
variable {W : Wo} {u : W.S}
def cDraws : Cm W := (cSeq (cSetF 1 (fLst eNil)) (cSeq (cFor (iR1 (eCl gMin (eCons (eC (.int 63)) (eCons (eCl gLen (eCons (bP (pVar 0)) eNil)) eNil)))) (puN 2) (cSeq (cSet 3 (eCl gAbs (eCons (bP (pIx (pVar 0) (eP (pVar 2)))) eNil))) (cIf (tst (e2 gGe (bP (pVar 3)) (e2 gPow (eC (.int 10)) (eC (.int 18))))) (cFor (iR1 (eC (.int 60))) (puN 4) (cIf (tst (e2 gGt (bP (pVar 3)) (eC (.int 0)))) (cSeq (cApp 1 [] (e2 gMod (eCl gInt (eCons (bP (pVar 3)) eNil)) (eC (.int 65536)))) (cSet 3 (e2 gDiv (bP (pVar 3)) (eC (.int 65536))))) cNx)) (cSeq (cSet 5 (e2 gMod (eCl gInt (eCons (e2 gAdd (e2 gMul (bP (pVar 3)) (eC (.int 48271))) (e2 gMul (e2 gAdd (bP (pVar 2)) (eC (.int 1))) (eC (.int 69621)))) eNil)) (eC (.int 2147483647)))) (cSeq (cSet 5 (e2 gMod (eCl gInt (eCons (e2 gAdd (e2 gAdd (e2 gMul (bP (pVar 5)) (eC (.int 16807))) (e2 gMul (eC (.int 11)) (bP (pVar 2)))) (eC (.int 5))) eNil)) (eC (.int 2147483629)))) (cSeq (cApp 1 [] (e2 gMod (eCl gInt (eCons (bP (pVar 5)) eNil)) (eC (.int 65536)))) (cApp 1 [] (e2 gMod (eCl gInt (eCons (e2 gDiv (bP (pVar 5)) (eC (.int 65536))) eNil)) (eC (.int 32768)))))))))) (cRetF (pVar 1))))
def cMix : Cm W := (cSeq (cSet 3 (eC (.int 0))) (cSeq (cIf (tst (e2 gGt (eCl gLen (eCons (bP (pVar 0)) eNil)) (eC (.int 0)))) (cSet 3 (eP (pIx (pVar 0) (e2 gMod (eCl gInt (eCons (bP (pVar 1)) eNil)) (eCl gLen (eCons (bP (pVar 0)) eNil)))))) cNx) (cSeq (cIf (tst (e2 gLt (bP (pVar 1)) (eCl gLen (eCons (bP (pVar 0)) eNil)))) (cRet (e2 gMod (eCl gInt (eCons (bP (pVar 3)) eNil)) (bP (pVar 2)))) cNx) (cRet (e2 gMod (eCl gInt (eCons (e2 gDiv (eCl gInt (eCons (e2 gAdd (e2 gMul (bP (pVar 3)) (eC (.int 7919))) (e2 gMul (bP (pVar 1)) (eC (.int 104729)))) eNil)) (eC (.int 3))) eNil)) (bP (pVar 2)))))))
/-- numbers as given -/
def Dr (ds : List Int) : Prop := ds.length ≤ 3780 ∧ ∀ d ∈ ds, 0 ≤ d ∧ d < 65536
theorem log_le {i : Int} {n : Nat} (h : i.natAbs < 2 ^ n) (hn : 0 < n) : i.natAbs.log2 ≤ n - 1 := by
  by_cases h0 : i.natAbs = 0
  · rw [h0]; simp
  · have := (Nat.log2_lt h0).mpr h
    omega
theorem mul_ok {i j : Int} (h : i.natAbs < 2 ^ 200) (h2 : j.natAbs < 2 ^ 200) : gMul (.int i) (.int j) = some (.int (i * j)) := by
  apply s_mul
  have a := log_le h (by decide)
  have b := log_le h2 (by decide)
  omega
theorem atI_ints {ds : List Int} {k : Nat} (h : k < ds.length) : atI (ds.map Val.int) (k : Int) = some (.int ds[k]) := by
  have e : ixN (ds.map Val.int).length (k : Int) = some k := by
    unfold ixN
    rw [if_pos (by omega), List.length_map, if_pos (by omega)]
    rfl
  unfold atI
  rw [e]
  show (ds.map Val.int)[k]? = _
  rw [List.getElem?_map, List.getElem?_eq_getElem h]
  rfl
theorem mix_run {ds : List Int} (hd : Dr ds) {k m : Int} (hk : 0 ≤ k) (hk2 : k < 10 ^ 9) (hm : 0 < m) : ∃ r : Int, 0 ≤ r ∧ r < m ∧ cDef0 4 cMix [.lst (ds.map .int), .int k, .int m] u = (.ok (.sh (.int r)) u : R W.S OT) := by
  obtain ⟨cell, hc0, hc1, hc⟩ : ∃ cell : Int, 0 ≤ cell ∧ cell < 65536 ∧ ((cSet 3 (eC (.int 0)) : Cm W) [some (.sh (.lst (ds.map .int))), some (.sh (.int k)), some (.sh (.int m)), none] u).then (cIf (tst (e2 gGt (eCl gLen (eCons (bP (pVar 0)) eNil)) (eC (.int 0)))) (cSet 3 (eP (pIx (pVar 0) (e2 gMod (eCl gInt (eCons (bP (pVar 1)) eNil)) (eCl gLen (eCons (bP (pVar 0)) eNil)))))) cNx) = .nx [some (.sh (.lst (ds.map .int))), some (.sh (.int k)), some (.sh (.int m)), some (.sh (.int cell))] u := by
    by_cases h : 0 < ds.length
    · have hz : (0 : Int) < (ds.length : Int) := by omega
      have e1 := s_mod (i := k) (j := ((ds.map Val.int).length : Int)) (by rw [List.length_map]; exact hz)
      have h3 : 0 ≤ k % (ds.length : Int) := Int.emod_nonneg _ (by omega)
      have h4 : k % (ds.length : Int) < ds.length := Int.emod_lt_of_pos _ hz
      obtain ⟨i, hi⟩ := Int.eq_ofNat_of_zero_le h3
      have h5 : i < ds.length := by omega
      have e2 := atI_ints h5
      refine ⟨ds[i], (hd.2 _ (List.getElem_mem h5)).1, (hd.2 _ (List.getElem_mem h5)).2, ?_⟩
      rw [List.length_map, hi] at e1
      have e3 : ixO (.sh (.lst (ds.map .int))) (.int (i : Int)) = some (.sh (.int ds[i])) := by show (atI (ds.map .int) (i : Int)).map OT.sh = _; rw [e2]; rfl
      simp [h, e1, e3]
    · have h : ds = [] := by cases ds with
        | nil => rfl
        | cons _ _ => simp at h
      subst h
      exact ⟨0, by omega, by omega, by simp⟩
  rw [show cDef0 4 cMix [.lst (ds.map .int), .int k, .int m] u = ((((cSet 3 (eC (.int 0)) : Cm W) [some (.sh (.lst (ds.map .int))), some (.sh (.int k)), some (.sh (.int m)), none] u).then (cSeq (cIf (tst (e2 gGt (eCl gLen (eCons (bP (pVar 0)) eNil)) (eC (.int 0)))) (cSet 3 (eP (pIx (pVar 0) (e2 gMod (eCl gInt (eCons (bP (pVar 1)) eNil)) (eCl gLen (eCons (bP (pVar 0)) eNil)))))) cNx) (cSeq (cIf (tst (e2 gLt (bP (pVar 1)) (eCl gLen (eCons (bP (pVar 0)) eNil)))) (cRet (e2 gMod (eCl gInt (eCons (bP (pVar 3)) eNil)) (bP (pVar 2)))) cNx) (cRet (e2 gMod (eCl gInt (eCons (e2 gDiv (eCl gInt (eCons (e2 gAdd (e2 gMul (bP (pVar 3)) (eC (.int 7919))) (e2 gMul (bP (pVar 1)) (eC (.int 104729)))) eNil)) (eC (.int 3))) eNil)) (bP (pVar 2))))))).fin.calm : R W.S OT) from rfl]
  have hc' : ∀ c : Cm W, ((cSet 3 (eC (.int 0)) : Cm W) [some (.sh (.lst (ds.map .int))), some (.sh (.int k)), some (.sh (.int m)), none] u).then (cSeq (cIf (tst (e2 gGt (eCl gLen (eCons (bP (pVar 0)) eNil)) (eC (.int 0)))) (cSet 3 (eP (pIx (pVar 0) (e2 gMod (eCl gInt (eCons (bP (pVar 1)) eNil)) (eCl gLen (eCons (bP (pVar 0)) eNil)))))) cNx) c) = c [some (.sh (.lst (ds.map .int))), some (.sh (.int k)), some (.sh (.int m)), some (.sh (.int cell))] u := by
    intro c
    simp only [s_set, s_eC, s_go, s_nx, s_seq] at hc ⊢
    rw [hc]
    rfl
  rw [hc']
  have m1 := mul_ok (i := cell) (j := 7919) (by omega) (by decide)
  have m2 := mul_ok (i := k) (j := 104729) (by omega) (by decide)
  have m3 := s_mod (i := cell) (j := m) hm
  have m4 := s_div (i := cell * 7919 + k * 104729) (j := 3) (by omega) (by decide)
  have m5 := s_mod (i := (cell * 7919 + k * 104729) / 3) (j := m) hm
  by_cases hl : k < (ds.length : Int)
  · exact ⟨cell % m, Int.emod_nonneg _ (by omega), Int.emod_lt_of_pos _ hm, by simp [hl, m3]⟩
  · exact ⟨(cell * 7919 + k * 104729) / 3 % m, Int.emod_nonneg _ (by omega), Int.emod_lt_of_pos _ hm, by simp [hl, m1, m2, m4, m5]⟩
theorem fin_calm {S : Type} (t : OT) (s : S) : (Out.rt t s).fin.calm = .ok t s := rfl
theorem big_turns {a0 : Option OT} {x2 x5 : Option OT} {c : Int} : ∀ (xs : List Val) (ds : List Int) (r : Int) (x4 : Option OT), 0 ≤ r → (∀ d ∈ ds, 0 ≤ d ∧ d < 65536) → ds.length + xs.length ≤ 3780 →
    ∃ (ds' : List Int) (r' : Int) (y4 : Option OT), (∀ d ∈ ds', 0 ≤ d ∧ d < 65536) ∧ ds'.length ≤ ds.length + xs.length ∧
      forS (puN 4) (cIf (tst (e2 gGt (bP (pVar 3)) (eC (.int 0)))) (cSeq (cApp 1 [] (e2 gMod (eCl gInt (eCons (bP (pVar 3)) eNil)) (eC (.int 65536)))) (cSet 3 (e2 gDiv (bP (pVar 3)) (eC (.int 65536))))) cNx) xs [a0, some (.oL (ds.map .int)), x2, some (.sh (.int r)), x4, x5] u =
        (.nx [a0, some (.oL (ds'.map .int)), x2, some (.sh (.int r')), y4, x5] u : Out W.S) := by
  intro xs
  induction xs with
  | nil => intro ds r x4 _ hd hz; exact ⟨ds, r, x4, hd, by simp, rfl⟩
  | cons x xs ih =>
    intro ds r x4 hr hd hz
    rw [List.length_cons] at hz
    have e1 := s_mod (i := r) (j := 65536) (by decide)
    have e2 := s_div (i := r) (j := 65536) (by decide) (by decide)
    have hl : ds.length < sizeLine := by rw [sizeLine_eq]; omega
    by_cases h : 0 < r
    · obtain ⟨ds', r', y4, h1, h2, h3⟩ := ih (ds ++ [r % 65536]) (r / 65536) (some (.sh x)) (Int.ediv_nonneg hr (by decide)) (fun d hm => by
        rcases List.mem_append.mp hm with z | z
        · exact hd d z
        · rw [List.mem_singleton] at z
          subst z
          exact ⟨Int.emod_nonneg _ (by decide), Int.emod_lt_of_pos _ (by decide)⟩) (by simp; omega)
      refine ⟨ds', r', y4, h1, by simp at h2 ⊢; omega, ?_⟩
      rw [← h3]
      simp [forS, h, e1, e2, hl]
    · obtain ⟨ds', r', y4, h1, h2, h3⟩ := ih ds r (some (.sh x)) hr hd (by omega)
      refine ⟨ds', r', y4, h1, by simp at h2 ⊢; omega, ?_⟩
      rw [← h3]
      simp [forS, h]
theorem draws_run (ns : List Int) : ∃ ds : List Int, Dr ds ∧ cDef0 6 cDraws [.wlst (ns.map .int)] u = (.ok (.oL (ds.map .int)) u : R W.S OT) := by
  obtain ⟨ρ2, s2, row, rfl, ds, x2, x3, x4, x5, hd, hl, rfl⟩ := forS_inv (W := W) (p := puN 2) (b := (cSeq (cSet 3 (eCl gAbs (eCons (bP (pIx (pVar 0) (eP (pVar 2)))) eNil))) (cIf (tst (e2 gGe (bP (pVar 3)) (e2 gPow (eC (.int 10)) (eC (.int 18))))) (cFor (iR1 (eC (.int 60))) (puN 4) (cIf (tst (e2 gGt (bP (pVar 3)) (eC (.int 0)))) (cSeq (cApp 1 [] (e2 gMod (eCl gInt (eCons (bP (pVar 3)) eNil)) (eC (.int 65536)))) (cSet 3 (e2 gDiv (bP (pVar 3)) (eC (.int 65536))))) cNx)) (cSeq (cSet 5 (e2 gMod (eCl gInt (eCons (e2 gAdd (e2 gMul (bP (pVar 3)) (eC (.int 48271))) (e2 gMul (e2 gAdd (bP (pVar 2)) (eC (.int 1))) (eC (.int 69621)))) eNil)) (eC (.int 2147483647)))) (cSeq (cSet 5 (e2 gMod (eCl gInt (eCons (e2 gAdd (e2 gAdd (e2 gMul (bP (pVar 5)) (eC (.int 16807))) (e2 gMul (eC (.int 11)) (bP (pVar 2)))) (eC (.int 5))) eNil)) (eC (.int 2147483629)))) (cSeq (cApp 1 [] (e2 gMod (eCl gInt (eCons (bP (pVar 5)) eNil)) (eC (.int 65536)))) (cApp 1 [] (e2 gMod (eCl gInt (eCons (e2 gDiv (bP (pVar 5)) (eC (.int 65536))) eNil)) (eC (.int 32768))))))))))
    (fun i ρ s => u = s ∧ ∃ (ds : List Int) (x2 x3 x4 x5 : Option OT), (∀ d ∈ ds, 0 ≤ d ∧ d < 65536) ∧ ds.length ≤ 60 * i ∧ ρ = [some (.sh (.wlst (ns.map .int))), some (.oL (ds.map .int)), x2, x3, x4, x5])
    (xs := rngI 0 (min 63 ns.length)) (n := 0) (ρ := [some (.sh (.wlst (ns.map .int))), some (.oL []), none, none, none, none]) (s := u) ⟨rfl, [], _, _, _, _, by simp, by simp, rfl⟩ (by
      rintro i x ρ s hx ⟨rfl, ds, x2, x3, x4, x5, hd, hl, rfl⟩
      rw [Nat.zero_add] at hl ⊢
      unfold rngI at hx
      rw [List.getElem?_map] at hx
      have hi : i < min 63 ns.length := by
        by_cases h : i < min 63 ns.length
        · exact h
        · rw [List.getElem?_eq_none (by rw [List.length_range]; omega)] at hx
          cases hx
      rw [List.getElem?_range hi] at hx
      have hx : x = .int (i : Int) := by
        have := (Option.some.inj hx).symm
        rw [this]; simp
      subst hx
      have hi2 : i < ns.length := by omega
      have e1 : ixO (.sh (.wlst (ns.map .int))) (.int (i : Int)) = some (.sh (.int ns[i])) := by show (atI (ns.map .int) (i : Int)).map OT.sh = _; rw [atI_ints hi2]; rfl
      generalize hr : (if ns[i] < 0 then -ns[i] else ns[i]) = r at *
      have hr0 : 0 ≤ r := by rw [← hr]; split <;> omega
      have e2 : gPow (.int 10) (.int 18) = some (.int (10 ^ 18)) := rfl
      have lz : ds.length + 1 < sizeLine := by rw [sizeLine_eq]; omega
      by_cases hb : 10 ^ 18 ≤ r
      · obtain ⟨ds', r', y4, h1, h2, h3⟩ := big_turns (W := W) (u := u) (a0 := some (.sh (.wlst (ns.map .int)))) (x2 := some (.sh (.int (i : Int)))) (x5 := x5) (c := 0) (rngI 0 60) ds r x4 hr0 hd (by unfold rngI; simp; omega)
        refine ⟨_, rfl, [some (.sh (.wlst (ns.map .int))), some (.oL (ds'.map .int)), some (.sh (.int (i : Int))), some (.sh (.int r')), y4, x5], u, .inl ?_, rfl, ds', _, _, _, _, h1, ?_, rfl⟩
        · have e3 : small62 60 = true := by decide
          have hb2 : (1000000000000000000 : Int) ≤ r := hb
          simp [e1, hr, e2, hb2, iR1, e3]
          exact h3
        · have : (rngI 0 60).length = 60 := by unfold rngI; simp
          omega
      · have hb2 : ¬ (1000000000000000000 : Int) ≤ r := hb
        have m1 := mul_ok (i := r) (j := 48271) (by omega) (by decide)
        have m2 := mul_ok (i := (i : Int) + 1) (j := 69621) (by omega) (by decide)
        have m3 := s_mod (i := r * 48271 + ((i : Int) + 1) * 69621) (j := 2147483647) (by decide)
        have b3 : 0 ≤ (r * 48271 + ((i : Int) + 1) * 69621) % 2147483647 ∧ (r * 48271 + ((i : Int) + 1) * 69621) % 2147483647 < 2147483647 := ⟨Int.emod_nonneg _ (by decide), Int.emod_lt_of_pos _ (by decide)⟩
        generalize (r * 48271 + ((i : Int) + 1) * 69621) % 2147483647 = t at m3 b3
        have m4 := mul_ok (i := t) (j := 16807) (by omega) (by decide)
        have m5 := mul_ok (i := 11) (j := (i : Int)) (by decide) (by omega)
        have m6 := s_mod (i := t * 16807 + 11 * (i : Int) + 5) (j := 2147483629) (by decide)
        generalize (t * 16807 + 11 * (i : Int) + 5) % 2147483629 = q at m6
        have m7 := s_mod (i := q) (j := 65536) (by decide)
        have m8 := s_div (i := q) (j := 65536) (by decide) (by decide)
        have m9 := s_mod (i := q / 65536) (j := 32768) (by decide)
        have lz0 : ds.length < sizeLine := by omega
        refine ⟨_, rfl, [some (.sh (.wlst (ns.map .int))), some (.oL ((ds ++ [q % 65536, q / 65536 % 32768]).map .int)), some (.sh (.int (i : Int))), some (.sh (.int r)), x4, some (.sh (.int q))], u, .inl ?_, rfl, _, _, _, _, _, ?_, ?_, rfl⟩
        · simp [e1, hr, e2, hb2, m1, m2, m3, m4, m5, m6, m7, m8, m9, lz, lz0]
        · intro d hm
          rcases List.mem_append.mp hm with z | z
          · exact hd d z
          · rcases List.mem_cons.mp z with rfl | z
            · exact ⟨Int.emod_nonneg _ (by decide), Int.emod_lt_of_pos _ (by decide)⟩
            · rw [List.mem_singleton] at z
              subst z
              exact ⟨Int.emod_nonneg _ (by decide), Int.lt_trans (Int.emod_lt_of_pos _ (by decide)) (by decide)⟩
        · simp; omega)
  have lr : (rngI 0 (min 63 ns.length)).length = min 63 ns.length := by unfold rngI; simp
  refine ⟨ds, ⟨by omega, hd⟩, ?_⟩
  have e4 : small62 (if (ns.length : Int) < 63 then (ns.length : Int) else 63) = true := by
    unfold small62
    split <;> simp <;> omega
  have e5 : (if (ns.length : Int) < 63 then (ns.length : Int) else 63).toNat = min 63 ns.length := by split <;> omega
  have e6 : (0 : Nat) ≤ sizeLine := Nat.zero_le _
  rw [← e5] at row
  unfold cDef0 cDef cDraws
  simp [enter, iR1, e4, row, small]
end
end VL

/-! VL24: more equations; dicts of pairs by keys of a kind. -/
namespace VL
open PySem PySem.Spec PyProof.Rows L2
section
variable {W : Wo} {S α β : Type} {ρ ρ' : En} {s s1 : W.S} {σ : S}
@[simp] theorem s_flock (i : Nat) (f : Sm W OT) : fLock i f ρ s = match ρ[i]? with
  | some (some (.oD b kvs)) => match f (ρ.set i (some (.oR b kvs))) s with
    | .ok t s' => .ok t s'
    | _ => .bad
  | _ => .bad := rfl
@[simp] theorem s_clock (i : Nat) (c : Cm W) : cLock i c ρ s = match ρ[i]? with
  | some (some (.oD b kvs)) => match c (ρ.set i (some (.oR b kvs))) s with
    | .nx ρ' s' => .nx (ρ'.set i (some (.oD b kvs))) s'
    | .bk ρ' s' => .bk (ρ'.set i (some (.oD b kvs))) s'
    | .ct ρ' s' => .ct (ρ'.set i (some (.oD b kvs))) s'
    | .rt (.sh v) s' => .rt (.sh v) s'
    | _ => .bad
  | _ => .bad := rfl
@[simp] theorem s_fNil : (fNil : Sm W (List OT)) ρ s = .ok [] s := rfl
@[simp] theorem s_fCons (f : Sm W OT) (r : Sm W (List OT)) : fCons f r ρ s = (f ρ s).bind fun v s1 => (r ρ s1).bind fun vs s2 => .ok (v :: vs) s2 := rfl
@[simp] theorem s_ftup (fs : Sm W (List OT)) : fTup fs ρ s = (fs ρ s).bind fun ts s1 => small ts.length (.oT ts) s1 := rfl
@[simp] theorem s_ir1 (f : Ev W) : iR1 f ρ s = (f ρ s).bind fun v s1 => match v with
  | .int j => if small62 j = true then .ok (rngI 0 j.toNat) s1 else .bad
  | _ => .bad := rfl
@[simp] theorem s_valT (ts : List OT) : (OT.oT ts).val = .tup (OT.vals ts) := rfl
@[simp] theorem s_vals0 : OT.vals [] = [] := rfl
@[simp] theorem s_vals1 (t : OT) (ts : List OT) : OT.vals (t :: ts) = t.val :: OT.vals ts := rfl
theorem s_dgS (b : Bool) (m : List (Val × Val)) (v : Val) : dgO (.sh (.dic b m)) v = dget b m v := rfl
theorem s_dgD (b : Bool) (m : List (Val × Val)) (v : Val) : dgO (.oD b m) v = dget b m v := rfl
theorem s_dgR (b : Bool) (m : List (Val × Val)) (v : Val) : dgO (.oR b m) v = dget b m v := rfl
@[simp] theorem s_puT (p : Pus) (vs : List Val) : puT p (.tup vs) ρ = p vs ρ := rfl
@[simp] theorem s_puNil : puNil [] ρ = some ρ := rfl
@[simp] theorem s_puCons (p : Pu) (q : Pus) (v : Val) (r : List Val) : puCons p q (v :: r) ρ = (p v ρ).bind fun ρ1 => q r ρ1 := rfl
@[simp] theorem s_disp0 : (dispS [] : Sm W (List (Val × Val))) ρ s = .ok [] s := rfl
@[simp] theorem s_disp1 (k v : Ev W) (r : List (Ev W × Ev W)) : dispS ((k, v) :: r) ρ s = (k ρ s).bind fun x s1 => (v ρ s1).bind fun y s2 => (dispS r ρ s2).bind fun ps s3 => .ok ((x, y) :: ps) s3 := rfl
@[simp] theorem s_fdisp (b : Bool) (prs : List (Ev W × Ev W)) : fDisp b prs ρ s = (dispS prs ρ s).bind fun ps s1 => match putAllV b ps [] with
  | some kvs => .ok (.oD b kvs) s1
  | none => .bad := rfl
end
theorem pairs_puts {κ : Type} [DecidableEq κ] (E : Enc κ) : ∀ (L : List (κ × Val)) (acc : List (Val × Val)), pairsV E.b (L.map fun e => .tup [E.e e.1, e.2]) acc = some (putsV acc (E.d L))
  | [], acc => rfl
  | e :: L, acc => by
    show (match dkey (E.e e.1) with
      | some d => if DK.isT d = E.b then pairsV E.b (L.map fun e => .tup [E.e e.1, e.2]) (vput acc (E.e e.1) d e.2) else none
      | none => none) = some (putsV acc ((E.e e.1, e.2) :: E.d L))
    rw [E.key]
    show (if DK.isT (E.c e.1) = E.b then _ else none) = _
    rw [if_pos (E.isT _), pairs_puts E L]
    unfold putsV
    rw [List.foldl_cons, E.key]
theorem puts0 {κ : Type} [DecidableEq κ] (E : Enc κ) {A : List (κ × Val)} (h : (A.map (·.1)).Nodup) : putsV [] (E.d A) = E.d A := by
  have := E.puts A [] (by simpa using h)
  simpa [Enc.d] using this
theorem pairs_of {κ : Type} [DecidableEq κ] (E : Enc κ) {L : List (κ × Val)} (h : (L.map (·.1)).Nodup) : gPairs E.b (.sh (.lst (L.map fun e => .tup [E.e e.1, e.2]))) = some (.oD E.b (E.d L)) := by
  show (pairsV E.b (L.map fun e => .tup [E.e e.1, e.2]) []).map _ = _
  rw [pairs_puts, puts0 E h]
  rfl
/-- a store into an own dict, at the top or within an own tuple -/
theorem putD_at {κ : Type} [DecidableEq κ] (E : Enc κ) {ρ : En} {i : Nat} {π : List Nat} {t : OT} {A : List (κ × Val)} {k : κ} {v : Val} (e : ownAt ρ i π = some (t, .oD E.b (E.d A))) (hz : A.length ≤ 5000) : putD ρ i π (E.e k) v = some (ρ.set i (some (OT.up π t (.oD E.b (E.d (putL A k v)))))) := by
  have hl : (E.d A).length < sizeLine := by unfold Enc.d; rw [List.length_map, sizeLine_eq]; omega
  unfold putD
  rw [e]
  show (match dkey (E.e k) with
    | some d => if DK.isT d = E.b ∧ (E.d A).length < sizeLine then some (ρ.set i (some (OT.up π t (.oD E.b (vput (E.d A) (E.e k) d v))))) else none
    | none => none) = _
  rw [E.key]
  show (if DK.isT (E.c k) = E.b ∧ (E.d A).length < sizeLine then _ else none) = _
  rw [if_pos ⟨E.isT _, hl⟩, E.put]
theorem putL_last {κ : Type} [DecidableEq κ] {α : Type} {A : List (κ × α)} {k : κ} {v w : α} (h : k ∉ A.map (·.1)) : putL (A ++ [(k, v)]) k w = A ++ [(k, w)] := by
  unfold putL
  have h1 : ((A ++ [(k, v)]).any fun p => decide (p.1 = k)) = true := by
    rw [List.any_append]; simp
  rw [if_pos h1, List.map_append]
  congr 1
  · have : ∀ p ∈ A, (if p.1 = k then (p.1, w) else p) = p := fun p hp => by
      rw [if_neg fun e => h (List.mem_map.mpr ⟨p, hp, e⟩)]
    rw [List.map_congr_left this, List.map_id']
  · simp
theorem atI_map {α : Type} {L : List α} {f : α → Val} {k : Nat} (h : k < L.length) : atI (L.map f) (k : Int) = some (f L[k]) := by
  have e : ixN (L.map f).length (k : Int) = some k := by
    unfold ixN
    rw [if_pos (by omega), List.length_map, if_pos (by omega)]
    rfl
  unfold atI
  rw [e]
  show (L.map f)[k]? = _
  rw [List.getElem?_map, List.getElem?_eq_getElem h]
  rfl
theorem ix_map {α : Type} {L : List α} {f : α → Val} {r : Int} (h0 : 0 ≤ r) (h : r < L.length) : ∃ x ∈ L, ixO (.sh (.lst (L.map f))) (.int r) = some (.sh (f x)) := by
  obtain ⟨k, rfl⟩ := Int.eq_ofNat_of_zero_le h0
  have hk : k < L.length := by omega
  refine ⟨L[k], List.getElem_mem hk, ?_⟩
  show (atI (L.map f) (k : Int)).map OT.sh = _
  rw [atI_map hk]
  rfl
theorem int_iff (i j : Int) : PyData.eqv (.int i) (.int j) = decide (i = j) := by
  simp only [PyData.eqv]
  rw [Bool.eq_iff_iff]
  simp
theorem gEq_int (i j : Int) : gEq (.int i) (.int j) = some (.bl (decide (i = j))) := by
  have h : (dfree (.int i) && dfree (.int j)) = true := by unfold dfree; rfl
  unfold gEq
  rw [show vok (.int i) (.int j) = true by unfold vok; rw [h]; rfl, show dep64 (.int i) = true from rfl, veq_df h]
  show some (Val.bl (PyData.eqv (.int i) (.int j))) = _
  rw [int_iff]
theorem gInD_of {κ : Type} [DecidableEq κ] (E : Enc κ) (k : κ) (A : List (κ × Val)) : gInD false (E.e k) (.dic E.b (E.d A)) = some (.bl (decide (k ∈ A.map (·.1)))) := by
  show (VL.dget E.b (E.d A) (E.e k)).map _ = _
  rw [E.dget]
  show some (Val.bl ((getL A k).isSome != false)) = _
  congr 2
  cases h : getL A k with
  | none =>
    rw [decide_eq_false (getL_none.mp h)]; rfl
  | some v =>
    rw [decide_eq_true (List.mem_map.mpr ⟨(k, v), getL_some h, rfl⟩)]; rfl
end VL

/-! VL25: errors: raised, passed on by calls, caught. -/
namespace VL
open PySem PySem.Spec PyProof.Rows L2
section
variable {W : Wo} {P : Program} {w : World} {K : PySem.W.Frag} {mg : Str → Option Value} {base : Heap}
/-! ### 1. defs that may raise -/
abbrev cxX (P : Program) (w : World) (K : PySem.W.Frag) (mg : Str → Option Value) (base : Heap) (N : List Str) (qual : Str) (sc : Scope) (f : Addr) (cdv : Value) (A : Around) (outer : List Env) (s : Shared) (H : Hp) (EX : XK) : Cx :=
  cxOf (L2N.CX P w) P w K mg base N qual sc f cdv A outer s H EX
/-- what leaves the def -/
def eX (EX : XK) : WX := fun cls d _ H => EX cls d H
theorem takes_X {N : List Str} {qual : Str} {sc : Scope} {f : Addr} {cdv : Value} {A : Around} {outer : List Env} {s : Shared} {H : Hp} {EX : XK} : L2N.Takes (cxX P w K mg base N qual sc f cdv A outer s H EX) (eX EX) := L2N.takes_of rfl rfl rfl rfl
theorem takes_N {X : Cx} : L2N.Takes X eN := fun u s' ⟨_, _, _, _, _, _, _, _, _, _, _, _, _, _, _, _, h⟩ => h.elim
theorem Fun.okVX {x qual : Str} {st : Stmt} {f : Addr} {fd : FuncData} {N ps : List Str} {k : Nat} {T : List Nat} {c : Cm W} (F : Fun K x qual st f fd) (S : FnScope N ps (defScope st)) (hN : ps.length ≤ N.length)
    (hbody : ∀ (cdv : Value) (A : Around) (outer : List Env) (s : Shared) (H : Hp) (EX : XK), Room k (A.deeper (envOfC qual (defScope st) s.heap.objs.size f cdv)) → VSs W (cxX P w K mg base N qual (defScope st) f cdv A outer s H EX) (eX EX) T (defBody st) c) :
    FnOk P w K mg base (L2N.CX P w) (k + 1) f fd ps (VSp W K ps.length (cDef N.length c)) := by
  obtain ⟨oc, od, kV, doc, pm, an, cdv0, ct, osl, rfl, hl, hcd⟩ := F.ex
  refine fn_of hl hcd S (fun vs H Q E h => ?_) (fun A outer s H vs Q E hr h => ?_)
  · obtain ⟨G, s, xs, _, rs, hl, _⟩ := h
    rw [rs.length, hl]
  · obtain ⟨G, s0, xs, r, rs, hl, h⟩ := h
    exact ⟨_, hbody cdv0 A outer s H E hr, def_run r rs (by omega) h fun _ _ _ _ z => z⟩
/-- a def that may be called and may raise -/
def CalX (P : Program) (w : World) (K : PySem.W.Frag) (mg : Str → Option Value) (base : Heap) (x : Str) (k n : Nat) (F : Fv W) : Prop :=
  ∃ (f : Addr) (fd : FuncData) (ps : List Str), FnOk P w K mg base (L2N.CX P w) k f fd ps (VSp W K n F) ∧ mg x = some (.ref f) ∧ PySem.W.keepIn K (.ref f) = true ∧ Binds K fd ps []
end
section
variable {W : Wo} {X : Cx} {E : WX} {T : List Nat} {k n : Nat} {F : Fv W} {x : Str} {p pos : Pos} {e : Expr} {es : List Expr} {fs : Sm W (List Val)} {f : Ev W}
theorem vf_calX (C : CalX X.prog X.w X.K X.mg X.base x k n F) (tk : L2N.Takes X E) (hr : Room k X.A) (hg : Gl X x) (ha : VA W X E (e :: es) fs) (hdb : (x == ("__debug__" : Str)) = false := by decide)
    (he : starEach (e :: es) X.env = (false, eval e X.env) :: starEach es X.env := by rfl) (hpl : (backTo pos (starEach es X.env)).any (·.1) = false := by rfl) : VF W X E (.Call (.Name x p) (e :: es) [] pos) (fCall n F fs) := by
  obtain ⟨f, fd, ps, ok, m, kp, b⟩ := C
  exact vf_call ok hr hg m kp b (pass_N tk) ha hdb he hpl
/-! ### 2. raise -/
def cRaise (C : Addr) (f : Ev W) : Cm W := fun ρ s => (f ρ s).go ρ fun v s1 => match v with
  | .int n => .exc C n ρ s1
  | _ => .bad
theorem vs_raise {C : Addr} {a : Expr} {pos2 : Pos} (hc : X.calm = true) (TE : VX.Err X.prog X.K X.mg x C) (hr : Room k X.A) (tk : L2N.Takes X E) (ha : VE W X E a f) (hg : Gl X x := by rfl) (hdb : (x == ("__debug__" : Str)) = false := by decide)
    (he : starEach (a :: []) X.env = (false, eval a X.env) :: starEach [] X.env := by rfl) (hpl : (backTo pos (starEach [] X.env)).any (·.1) = false := by rfl) :
    VS W X E T (.Raise (some (.Call (.Name x p) [a] [] pos)) none pos2) (cRaise C f) := PS.imp (L2N.ps_raise hc tk (VX.pmk_ke TE hr (va_cons ha va_nil he) hg hdb he hpl)) fun D σ H ⟨G, ρ, s, r, h⟩ => by
  show VX.tMkE C (tG W X.K E (pVs X.K) (eCons f eNil)) σ H _
  refine ⟨G, ρ, s, r, ?_⟩
  unfold eCons
  have h' := PstS.go (P := pV X.K H) h
  cases q : f ρ s with
  | bad => rw [q] at h'; exact h'.elim
  | exc c n s1 => rw [q] at h'; exact h'
  | ok v s1 =>
    rw [q] at h'
    intro G1 H1 ws x1 r1 rs
    have rs : Reps X.K G1.F ws [v] := rs
    cases rs with
    | cons rv rn =>
      cases rn
      rename_i w
      obtain ⟨G2, s2, v2, x2, r2, rv2, h2⟩ := h' G1 H1 w x1 r1 rv
      cases v2 with
      | int m =>
        cases rv2.int_inv
        refine ⟨.int m, rfl, fun d hd => ?_⟩
        obtain ⟨x3, rw3⟩ := r2.toRelW.laid (o := .xd (atF m)) hd fun _ z => by cases z
        exact h2 _ _ _ d (x3.ns T) (Off.refl _ _) (Off.refl _ _) (r2.next x3 rw3) hd upd_same
      | _ => exact h2.elim
/-- a row of statements that is not reached -/
def cBad : Cm W := fun _ _ => .bad
theorem vs_bad {st : Stmt} {t : TS} (h : PS X st t) : VS W X E T st cBad := PS.imp h fun D σ H ⟨_, _, _, _, h⟩ => h.elim
end
end VL

/-! VX4: try .. except X as e: in the suite the error is a value. -/
namespace VX
open PySem PySem.Spec PyProof.Rows L2
section
variable {X : Cx}
theorem inv_track {pins : List (Addr × Obj)} {σ : L2.St} {H : Hp} {s : Shared} {a C d : Addr} {oe : Obj} {vs : Array Value} (I : Inv X pins σ H s) (he : s.heap.get? a = some oe) (hc : oe.cls = .ref C) (hd : oe.dict = some d) (hv : oe.data = .fields vs) (h2 : vs[2]? = some .none) (hn : H a = none) (hl : a ≠ X.env.locals)
    (h0 : X.s_0.heap.get? a = none) (hp : ∀ p ∈ X.pn ++ pins, p.1 ≠ a) : Inv X pins σ (upd H a (erO a C d)) s where
  ok := I.ok
  os := I.os
  bare := I.bare
  base := ⟨I.base.keep, I.base.slot, fun b o e z n => by rw [upd_ne (fun q => by rw [q, h0] at e; cases e)]; exact I.base.free b o e z n, I.base.there,
    fun b xs q => by have q' := I.base.tups b xs q; rw [upd_ne (ne_of_none q' hn)]; exact q',
    fun b o u q => by have q' := I.base.frzs b o u q; rw [upd_ne (ne_of_none q' hn)]; exact q',
    fun b ps q => by obtain ⟨more, q'⟩ := I.base.tbls b ps q; exact ⟨more, by rw [upd_ne (ne_of_none q' hn)]; exact q'⟩⟩
  loc := I.loc
  cell := I.cell
  free := by rw [upd_ne (Ne.symm hl)]; exact I.free
  freeC := fun x c e => by
    have hc : c ≠ a := fun q => by
      obtain ⟨v, o, e1, e2⟩ := I.cell x c e
      rw [q, he] at e1
      cases e1
      rw [hv] at e2
      cases e2
    rw [upd_ne hc]
    exact I.freeC x c e
  pin := fun p z => by
    obtain ⟨h1, h2, h3⟩ := I.pin p z
    exact ⟨h1, by rw [upd_ne (hp p z)]; exact h2, h3⟩
  hok := fun b u q => by
    by_cases hb : b = a
    · subst hb
      rw [upd_same] at q
      cases q
      exact ⟨⟨oe, vs, he, hc, hd, hv, h2⟩, ⟨_, he⟩, fun h1 h2 ⟨o, vs, z, z2⟩ k => ⟨o, vs, k _ z, z2⟩⟩
    · rw [upd_ne hb] at q
      exact ObjOk.stay (I.hok b u q) (fun c v x q => q) (fun c q => by rw [upd_ne (ne_of_none q hn)]; exact q) fun c xs q => by rw [upd_ne (ne_of_none q hn)]; exact q
  len := I.len
theorem inv_suite {pins : List (Addr × Obj)} {σ : L2.St} {H : Hp} {s : Shared} (I : Inv X pins σ H s) (a : Addr) : Inv (X.suite a (X.pn ++ pins)) [] σ H s where
  ok := { mod := I.ok.mod, kind := I.ok.kind, glob := I.ok.glob, blt := I.ok.blt, above := I.ok.above, inj := I.ok.inj, has := I.ok.has, cab := I.ok.cab, hd := fun z => (by cases z), frames := I.ok.frames, stk := I.ok.stk, exf := I.ok.exf, bs := I.ok.bs, bsz := I.ok.bsz, noex := I.ok.noex, exfs := I.ok.exfs, funs := I.ok.funs, frf := I.ok.frf }
  os := I.os
  bare := I.bare
  base := I.base
  loc := I.loc
  cell := I.cell
  free := I.free
  freeC := I.freeC
  pin := fun p z => I.pin p (by rw [List.append_nil] at z; exact z)
  hok := I.hok
  len := I.len
theorem inv_unsuite {pins pn' : List (Addr × Obj)} {σ : L2.St} {H : Hp} {s : Shared} {a : Addr} (I : Inv (X.suite a (X.pn ++ pins)) pn' σ H s) (ok : X.Ok) : Inv X pins σ H s where
  ok := ok
  os := I.os
  bare := I.bare
  base := I.base
  loc := I.loc
  cell := I.cell
  free := I.free
  freeC := I.freeC
  pin := fun p z => I.pin p (List.mem_append_left _ z)
  hok := I.hok
  len := I.len
/-- what the try wants of an error: the suite's reading, the error a value in slot i -/
def wAsV (K : PySem.W.Frag) (c : Value) (i : Nat) (ts : TS) (D : Ends) : WX := fun cls d σ H => ∃ C dd, cls = .ref C ∧ d = some dd ∧ PySem.W.exmOne K cls c = some true ∧ ∀ a, H a = none →
  ts { nx := fun σ' H' => D.nx (List.set σ' i none) H', rt := D.rt, bk := fun σ' H' => D.bk (List.set σ' i none) H', ct := fun σ' H' => D.ct (List.set σ' i none) H' } (List.set σ i (some (.ref a))) (upd H a (erO a C dd))
theorem ps_try_asV {x n : Str} {c : Value} {i : Nat} {body suite : List Stmt} {b₀ : Stmt} {np pos pos' : Pos} {tb : WX → TS} {ts : TS} (hs : X.stack = X.env :: X.outer) (hex : X.ex = []) (hf : X.env.frame = some X.env.locals) (hN : X.N.Nodup) (hi : X.N[i]? = some n)
    (hln : X.env.kindOf n = some .local) (hc : Names X x c)
    (hb : ∀ (W : WX) (pn : List (Addr × Obj)) (xe : Value → Shared → Prop), L2N.Takes (X.tr pn xe) W → PassesOwn (model X.prog X.w) X.A X.env xe → PSs (X.tr pn xe) body (tb W))
    (hsu : ∀ (a : Addr) (pn : List (Addr × Obj)), PSs (X.suite a pn) (b₀ :: suite) ts) :
    PS X (.Try body [.ExceptHandler (some (.Name x np)) (some n) (b₀ :: suite) pos'] [] [] pos) fun D σ H => tb (wAsV X.K c i ts D) D σ H := by
  refine ⟨fun pins s σ H D I h => ?_⟩
  have ok := I.ok
  have hfr : X.A.frames = some (X.env :: X.outer) := by rw [ok.frames, hs]
  have hloc : Loc X.env.scope n := Or.inl hln
  refine wpAny_Try_except (wpAny_mono ((hb (wAsV X.K c i ts D) (X.pn ++ pins) (fun e s₁ => wpAny (model X.prog X.w) X.A (noteFrame e X.env) (fun _ s₂ => wpAny (model X.prog X.w) X.A (setFlight e none) (fun _ s₃ => wpAny (model X.prog X.w) X.A (handleBy e X.env [ExceptHandler.ExceptHandler (some (Expr.Name x np)) (some n) (b₀ :: suite) pos']) (SP X pins D) X.xe s₃) X.xe s₂) X.xe s₁) (fun u s' xx => ?_) PassesOwn.looking).run [] s σ H D (Inv.toTry I _) h) (fun f s1 hsp => ?_) fun e s1 he => he)
  · obtain ⟨a, B, sI, pins', σ', H', cls, d, rfl, J', nb, up, sky, na, os, ag, C, dd, rfl, rfl, hm, hyes⟩ := xx
    have J := Inv.ofTry J' ok
    have sky' : Sky B (X.env :: X.outer) a (L2N.Zn (.ref C) (some dd)) X.env.locals s'.heap := by
      have z : Sky B X.stack a (L2N.Zn (.ref C) (some dd)) X.env.locals s'.heap := sky
      rw [hs] at z
      exact z
    refine L2N.Sky.land L2N.Zn.steady hfr hf sky' fun h3 fl3 up3 => ?_
    have J3 : Inv X pins σ' H' ⟨h3, s'.gens, s'.drawn, s'.toks, s'.os⟩ := Inv.landed (s' := ⟨h3, s'.gens, s'.drawn, s'.toks, s'.os⟩) J nb fl3.1 (Heap.UpToSlots.trans up up3) os ag
    obtain ⟨oe3, vs3, he3, hz3, hd3⟩ := HandSPX.FlyingZ.there fl3
    have notFr : ∀ {h : Heap} {o : Obj} {vs : Array Value}, h.FunFrames B (X.env :: X.outer) → h.get? a = some o → o.data = .fields vs → ¬ a ∈ frs (X.env :: X.outer) := by
      intro h o vs ff e dd hm
      obtain ⟨_, o', e', hnf⟩ := Heap.FunFrames.mem ff hm
      rw [e] at e'
      cases e'
      exact hnf vs dd
    have nfr := notFr fl3.2.2.1 he3 hd3
    have nL : a ≠ X.env.locals := fun z => nfr (List.mem_filterMap.mpr ⟨X.env, List.mem_cons_self, by rw [hf, z]⟩)
    have hsI : sI.heap.get? a = none := by
      cases q : sI.heap.get? a with
      | none => rfl
      | some o =>
        have q2 := nb a o q (by rw [show frs X.stack = frs (X.env :: X.outer) by rw [hs]]; exact nfr)
        rw [fl3.2.1] at q2
        cases q2
    have h0 : X.s_0.heap.get? a = none := by
      cases q : X.s_0.heap.get? a with
      | none => rfl
      | some o =>
        obtain ⟨o', q2⟩ := J.base.there a o q (by rw [hex]; exact List.not_mem_nil)
        rw [hsI] at q2
        cases q2
    have hpn : ∀ p ∈ X.pn ++ pins, p.1 ≠ a := fun p z q => by
      have q2 := (J.pin p z).1
      rw [q, hsI] at q2
      cases q2
    have S3 := inv_suite J3 a
    refine wpAny_handleBy_cons (codeAny_handlers_test ?_) (fun q => by cases q)
    have LT : PySem.W.Looks (model X.prog X.w) h3 (typeOf (.ref a)) (.ref C) := fun A Q E s k q => wpAny_typeOf_ref (k a oe3 he3) (by rw [hz3.1]; exact q)
    have LM := PySem.W.exm_one (M := model X.prog X.w) (Inv.kIn J3) LT hm
    have test : ∀ {Q : Value → Shared → Prop} {E : Value → Shared → Prop}, Q c ⟨h3, s'.gens, s'.drawn, s'.toks, s'.os⟩ → wpAny (model X.prog X.w) (X.A.mark (some (.ref a))) (eval (.Name x np) X.env) Q E ⟨h3, s'.gens, s'.drawn, s'.toks, s'.os⟩ := by
      intro Q E q
      obtain ⟨hg, hdbg, hm | ⟨hm, hv, hnn⟩⟩ := hc
      · exact ld_glob S3 hg hm q hdbg
      · exact ld_blt S3 hg hm hv q hnn hdbg
    refine test (PySem.W.Looks.here LM ?_)
    refine codeAny_handlers_suite_as (HandSPX.lands_againZ fl3 fun h4 fl4 up4 => ?_)
    have J4 : Inv X pins σ' H' ⟨h4, s'.gens, s'.drawn, s'.toks, s'.os⟩ := Inv.landed (s' := ⟨h4, s'.gens, s'.drawn, s'.toks, s'.os⟩) J nb fl4.1 (Heap.UpToSlots.trans (Heap.UpToSlots.trans up up3) up4) os ag
    obtain ⟨oe4, vs4, he4, hz4, hd4⟩ := HandSPX.FlyingZ.there fl4
    have T4 := inv_track J4 he4 hz4.1 hz4.2.1 hd4 (hz4.2.2 _ hd4) na nL h0 hpn
    have S4 := inv_suite T4 a
    refine store_ok (X := X.suite a (X.pn ++ pins)) (v := .ref a) S4 hN hi hloc (show RelV (.ref a) (.ref a) from rfl) (fun s5 S5 => wpAny_mono ((hsu a (X.pn ++ pins)).run [] s5 _ _ _ S5 (hyes a na)) (fun f s6 hsp => ?_) fun e s6 z => z.elim) (Or.inr hln)
    have end_ : ∀ {σ6 : L2.St} {H6 : Hp} {Q : Unit → Shared → Prop}, Inv (X.suite a (X.pn ++ pins)) [] σ6 H6 s6 → (∀ s', Inv X pins (List.set σ6 i none) H6 s' → Q () s') → wpAny (model X.prog X.w) X.A (do bindName X.env n Value.none; unbindBehindTheSuite X.env n pos') Q X.xe s6 := fun S6 hq => gone_ok (inv_unsuite S6 ok) hN hi hln hq
    cases f with
    | next => obtain ⟨σ6, H6, S6, q6⟩ := hsp; exact end_ S6 fun s7 J7 => ⟨_, H6, J7, q6⟩
    | brk => obtain ⟨σ6, H6, S6, q6⟩ := hsp; exact end_ S6 fun s7 J7 => ⟨_, H6, J7, q6⟩
    | cont => obtain ⟨σ6, H6, S6, q6⟩ := hsp; exact end_ S6 fun s7 J7 => ⟨_, H6, J7, q6⟩
    | ret u => obtain ⟨v6, σ6, H6, S6, r6, q6⟩ := hsp; exact end_ S6 fun s7 J7 => ⟨v6, _, H6, J7, r6, q6⟩
  · cases f with
    | next => obtain ⟨σ', H', J', q⟩ := hsp; exact wpAny_execs_nil ⟨σ', H', Inv.ofTry J' ok, q⟩
    | brk => obtain ⟨σ', H', J', q⟩ := hsp; exact ⟨σ', H', Inv.ofTry J' ok, q⟩
    | cont => obtain ⟨σ', H', J', q⟩ := hsp; exact ⟨σ', H', Inv.ofTry J' ok, q⟩
    | ret u => obtain ⟨v, σ', H', J', r, q⟩ := hsp; exact ⟨v, σ', H', Inv.ofTry J' ok, r, q⟩
end
end VX

/-! VL26: try .. except X as e; what all addresses have in common. -/
namespace VL
open PySem PySem.Spec PyProof.Rows L2
/-! ### 1. what does not lean on an address -/
open Classical in
noncomputable def uni {α β : Type} [Inhabited β] (g : α → β) : β := if h : ∃ o, ∀ a, g a = o then h.choose else default
theorem uni_const {α β : Type} [Inhabited α] [Inhabited β] (o : β) : uni (fun _ : α => o) = o := by
  unfold uni
  have h : ∃ o' : β, ∀ a : α, (fun _ : α => o) a = o' := ⟨o, fun _ => rfl⟩
  rw [dif_pos h]
  exact (h.choose_spec default).symm
theorem uni_of {α β : Type} [Inhabited β] {g : α → β} (hg : uni g ≠ default) (a : α) : g a = uni g := by
  unfold uni at hg ⊢
  split
  · rename_i h
    exact h.choose_spec a
  · rename_i h
    rw [dif_neg h] at hg
    exact absurd rfl hg
instance {S : Type} : Inhabited (Out S) := ⟨.bad⟩
instance {S α : Type} : Inhabited (R S α) := ⟨.bad⟩
/-! ### 2. a thing that is one's own, without an address -/
section
variable {K : PySem.W.Frag} {F H : Hp} {d : Addr} {fs : List (Str × V)}
mutual
theorem RepO.off (hd : H d = some (.xd fs)) : ∀ {A : Addr → Prop} {w : V} {t : OT}, RepO K F H A w t → RepO K F H (fun a => A a ∧ a ≠ d) w t
  | _, _, _, .sh r => .sh r
  | _, _, _, .oL e a r => .oL e ⟨a, fun q => by rw [q, hd] at e; cases e⟩ r
  | _, _, _, .oK e a r => .oK e ⟨a, fun q => by rw [q, hd] at e; cases e⟩ r
  | _, _, _, .oDT e a r => .oDT e ⟨a, fun q => by rw [q, hd] at e; cases e⟩ r
  | _, _, _, .oRK e a r => .oRK e ⟨a, fun q => by rw [q, hd] at e; cases e⟩ r
  | _, _, _, .oRT e a r => .oRT e ⟨a, fun q => by rw [q, hd] at e; cases e⟩ r
  | _, _, _, .oT e r => .oT e (RepOs.off hd r)
theorem RepOs.off (hd : H d = some (.xd fs)) : ∀ {A : Addr → Prop} {ws : List V} {ts : List OT}, RepOs K F H A ws ts → RepOs K F H (fun a => A a ∧ a ≠ d) ws ts
  | _, _, _, .nil => .nil
  | _, _, _, .cons r t d1 h1 h2 => .cons (RepO.off hd r) (RepOs.off hd t) (fun a z y => d1 a z.1 y.1) (fun a z => ⟨h1 a z.1, z.2⟩) (fun a z => ⟨h2 a z.1, z.2⟩)
end
end
section
variable {W : Wo} {K : PySem.W.Frag} {E : WX} {T : List Nat}
/-- an error's dict is locked -/
theorem hold_dict {G G' : Gh} {ρ ρ' : En} {s0 s' : W.S} {σ σ' : L2.St} {H H' : Hp} {d : Addr} {n : Int} (x : Ns T G G' H H') (hrel : Rel W K G ρ s0 σ H) (r : Rel W K G' ρ' s' σ' H') (hd : H d = none) (hd' : H' d = some (.xd (atF n))) :
    ∃ G2, Ns T G G2 H H' ∧ Rel W K G2 ρ' s' σ' H' ∧ G2.F = upd G'.F d (.xd (atF n)) := by
  have hnt : ∀ ws, HO.xd (atF n) ≠ .tup ws := fun _ z => by cases z
  have hfp : ¬ G'.fp d := fun z => (W.own r.wrl z).2.2.2 _ hd'
  have hF : G.F d = none := hrel.sub.none hd
  -- the locked part
  have rw2 : RelW W { G' with F := upd G'.F d (.xd (atF n)) } s' H' := by
    have h0 : upd H' d (.xd (atF n)) = H' := upd_eq hd'
    cases q : G'.F d with
    | none =>
      have := r.toRelW.freeze (o := .xd (atF n)) hd' q hfp ⟨fun _ z => (by cases z), fun _ z => (by cases z)⟩ hnt
      rw [h0] at this
      exact this
    | some o =>
      have e := r.sub d o q
      rw [hd'] at e
      cases e
      rw [show upd G'.F d (.xd (atF n)) = G'.F from upd_eq q]
      exact ⟨r.sub, r.tups, r.lk, r.wrl⟩
  have sub2 : Sub G'.F (upd G'.F d (.xd (atF n))) := fun b o e => by
    by_cases q : b = d
    · subst q
      have := r.sub b o e
      rw [hd'] at this
      cases this
      rw [upd_same]
    · rw [upd_ne q]; exact e
  let G2 : Gh := { F := upd G'.F d (.xd (atF n)), fp := G'.fp, ad := fun j b => G'.ad j b ∧ b ≠ d }
  have r2 : Rel W K G2 ρ' s' σ' H' := by
    refine { sub := rw2.sub, tups := rw2.tups, lk := rw2.lk, wrl := rw2.wrl, len := r.len, slot := fun j t e => ?_, own := fun j b z => ?_, dis := fun j k b h z y => r.dis j k b h z.1 y.1 }
    · obtain ⟨w, h1, h2⟩ := r.slot j t e
      exact ⟨w, h1, (h2.off hd').mono sub2 (fun _ z => z) fun _ _ => rfl⟩
    · obtain ⟨h1, h2, h3⟩ := r.own j b z.1
      refine ⟨?_, h2, h3⟩
      show upd G'.F d _ b = none
      rw [upd_ne z.2]; exact h1
  have x2 : Ns T G G2 H H' := by
    refine ⟨x.sub.trans sub2, x.keep, x.there, fun j hj => ?_, fun j b hj z => x.adT j b hj z.1, x.fp, fun b o e => ?_⟩
    · have e := x.adN j hj
      funext b
      refine propext ⟨fun z => by rw [← e]; exact z.1, fun z => ⟨by rw [e]; exact z, fun q => ?_⟩⟩
      obtain ⟨_, ⟨o, e2, _⟩, _⟩ := hrel.own j b z
      rw [q, hd] at e2; cases e2
    · by_cases q : b = d
      · subst q; exact .inr (.inl hd)
      · have e' : upd G'.F d (.xd (atF n)) b = some o := e
        rw [upd_ne q] at e'
        exact x.fz b o e'
  exact ⟨G2, x2, r2, rfl⟩
/-- .. and the error put into the slot i -/
theorem hold_err {G G' : Gh} {ρ ρ' : En} {s0 s' : W.S} {σ σ' : L2.St} {H H' : Hp} {a c d : Addr} {n : Int} {i : Nat} (hi : i ∈ T) (x : Ns T G G' H H') (hrel : Rel W K G ρ s0 σ H) (r : Rel W K G' ρ' s' σ' H') (hd : H d = none) (hd' : H' d = some (.xd (atF n))) (ha : H' a = none) :
    ∃ G2, Ns T G G2 H (upd H' a (VX.erO a c d)) ∧ Rel W K G2 (ρ'.set i (some (.sh (.err c n)))) s' (σ'.set i (some (.ref a))) (upd H' a (VX.erO a c d)) := by
  obtain ⟨x1, rw1⟩ := r.toRelW.fresh (o := VX.erO a c d) ha ⟨fun _ z => (by cases z), fun _ z => (by cases z)⟩
  have r1 := r.next x1 rw1
  have nda : d ≠ a := ne_of_none hd' ha
  obtain ⟨G2, x2, r2, e2⟩ := hold_dict (n := n) (x.trans (x1.ns T)) hrel r1 hd (by rw [upd_ne nda]; exact hd')
  have e3 : G2.F a = some (VX.erO a c d) := by
    rw [e2, upd_ne (Ne.symm nda)]
    exact upd_same
  have e4 : G2.F d = some (.xd (atF n)) := by rw [e2]; exact upd_same
  have rx : Rep K G2.F (.ref a) (.err c n) := .err e3 e4
  exact ⟨G2.put i (fun _ => False), Ns.put x2 hi (fun _ z => z.elim), r2.put (.sh rx) fun _ z => z.elim⟩
end
section
variable {W : Wo} {X : Cx} {E : WX} {T : List Nat}
/-- behind the suite the name is gone -/
def Out.unset {S : Type} (i : Nat) (o : Out S) : Out S := match o with
  | .nx ρ s => .nx (ρ.set i none) s
  | .bk ρ s => .bk (ρ.set i none) s
  | .ct ρ s => .ct (ρ.set i none) s
  | .rt t s => .rt t s
  | _ => .bad
def cTry (m : Addr → Bool) (i : Nat) (c : Cm W) (d : Cm W) : Cm W := fun ρ s => match c ρ s with
  | .exc cc n ρ' s' => if m cc = true then (d (ρ'.set i (some (.sh (.err cc n)))) s').unset i else .bad
  | o => o
theorem Ns.gone {G G' : Gh} {H H' : Hp} {i : Nat} (x : Ns T G G' H H') (hi : i ∈ T) : Ns T G (G'.put i fun _ => False) H H' := Ns.put x hi fun _ z => z.elim
theorem Rel.gone {K : PySem.W.Frag} {G : Gh} {ρ : En} {s : W.S} {σ : L2.St} {H : Hp} {i : Nat} (r : Rel W K G ρ s σ H) : Rel W K (G.put i fun _ => False) (ρ.set i none) s (σ.set i none) H where
  sub := r.sub
  tups := r.tups
  lk := r.lk
  wrl := r.wrl
  len := by rw [List.length_set, List.length_set]; exact r.len
  slot := fun j t e => by
    by_cases q : j = i
    · subst q
      by_cases hl : j < ρ.length
      · rw [List.getElem?_set_self hl] at e; cases e
      · rw [List.getElem?_eq_none (by rw [List.length_set]; omega)] at e; cases e
    · rw [List.getElem?_set_ne (Ne.symm q)] at e ⊢
      obtain ⟨w, h1, h2⟩ := r.slot j t e
      exact ⟨w, h1, by rw [Gh.put_ne q]; exact h2⟩
  own := fun j a z => by
    by_cases q : j = i
    · subst q; rw [Gh.put_same] at z; exact z.elim
    · rw [Gh.put_ne q] at z; exact r.own j a z
  dis := fun j k a h z y => by
    by_cases q : j = i
    · subst q; rw [Gh.put_same] at z; exact z.elim
    · by_cases q2 : k = i
      · subst q2; rw [Gh.put_same] at y; exact y.elim
      · rw [Gh.put_ne q] at z
        rw [Gh.put_ne q2] at y
        exact r.dis j k a h z y
theorem PstS.unset {K : PySem.W.Frag} {G : Gh} {ρ : En} {σ : L2.St} {H : Hp} {i : Nat} {o : Out W.S} {D : Ends} {E' : WX} (hi : i ∈ T) (h : PstS W K E T G ρ σ H (o.unset i) D) :
    PstS W K E' T G ρ σ H o { nx := fun σ' H' => D.nx (σ'.set i none) H', rt := D.rt, bk := fun σ' H' => D.bk (σ'.set i none) H', ct := fun σ' H' => D.ct (σ'.set i none) H' } := by
  cases o with
  | nx ρ' s' => exact fun G' H' σ' x a b r => h _ _ _ (x.gone hi) (a.trans (Off.set hi)) (b.trans (Off.set hi)) r.gone
  | bk ρ' s' => exact fun G' H' σ' x a b r => h _ _ _ (x.gone hi) (a.trans (Off.set hi)) (b.trans (Off.set hi)) r.gone
  | ct ρ' s' => exact fun G' H' σ' x a b r => h _ _ _ (x.gone hi) (a.trans (Off.set hi)) (b.trans (Off.set hi)) r.gone
  | rt t s' => exact h
  | exc c n ρ' s' => exact h.elim
  | bad => exact h.elim
theorem vs_try {x n : Str} {cv : Value} {i : Nat} {m : Addr → Bool} {body suite : List Stmt} {b₀ : Stmt} {np pos pos' : Pos} {c d : Cm W} (hi : i ∈ T) (hm : ∀ cc, m cc = true → PySem.W.exmOne X.K (.ref cc) cv = some true)
    (hs : X.stack = X.env :: X.outer) (hex : X.ex = []) (hf : X.env.frame = some X.env.locals) (hN : X.N.Nodup) (hx : X.N[i]? = some n) (hk : X.env.kindOf n = some .local) (hn : Names X x cv)
    (hb : ∀ (E' : WX) (pn : List (Addr × Obj)) (xe : Value → Shared → Prop), L2N.Takes (X.tr pn xe) E' → PassesOwn (model X.prog X.w) X.A X.env xe → VSs W (X.tr pn xe) E' T body c)
    (hS : ∀ (a : Addr) (pn : List (Addr × Obj)), VSs W (X.suite a pn) eN T (b₀ :: suite) d) :
    VS W X E T (.Try body [.ExceptHandler (some (.Name x np)) (some n) (b₀ :: suite) pos'] [] [] pos) (cTry m i c d) := by
  have h0 := VX.ps_try_asV (X := X) (x := x) (n := n) (c := cv) (i := i) (body := body) (suite := suite) (b₀ := b₀) (np := np) (pos := pos) (pos' := pos') (tb := fun E' => tS W X.K E' T c)
    (ts := tS W X.K eN T d) hs hex hf hN hx hk hn (fun E' pn xe tk hp => hb E' pn xe tk hp) (fun a pn => hS a pn)
  refine PS.imp h0 fun D σ H ⟨G, ρ, s, r, h⟩ => ⟨G, ρ, s, r, ?_⟩
  unfold cTry at h
  cases q : c ρ s with
  | nx ρ' s' => rw [q] at h; exact h
  | bk ρ' s' => rw [q] at h; exact h
  | ct ρ' s' => rw [q] at h; exact h
  | rt t s' => rw [q] at h; exact h
  | bad => rw [q] at h; exact h
  | exc cc n ρ' s' =>
    rw [q] at h
    have h : PstS W X.K E T G ρ σ H (if m cc = true then (d (ρ'.set i (some (.sh (.err cc n)))) s').unset i else .bad) D := h
    split at h
    · rename_i hmc
      intro G' H' σ' dd x a b r' hd hd'
      refine ⟨cc, dd, rfl, rfl, hm cc hmc, fun ea ha => ?_⟩
      obtain ⟨G2, x2, r2⟩ := hold_err (a := ea) (c := cc) (i := i) hi x r r' hd hd' ha
      exact ⟨G2, _, s', r2, PstS.unset hi (PstS.from x2 (a.trans (Off.set hi)) (b.trans (Off.set hi)) h)⟩
    · exact h.elim
end
end VL

/-! VX5: the facts of a class of errors, gathered. -/
namespace VX
open PySem PySem.W PySem.Calls PyProof.Rows PySem.HandSPX
/-- the row of facts of one class -/
structure Own (K : Frag) (D fI C : Addr) (bm : List Value) : Prop where
  l : ∃ nm q N bs sn sub ab col dd k0 k1 k2 k3 k5, K.lookup C = some (excClassObj nm q C N bs bm true sn sub ab col dd k0 k1 k2 k3 k5 "ValueError.__new__")
  sa : findIn K (.ref C) "__setattr__" = some (some (.builtin "object.__setattr__"))
  ga : findIn K (.ref C) "__getattribute__" = some (some (.builtin "BaseException.__getattribute__"))
  gg : findIn K (.ref C) "__getattr__" = some none
  nb : findIn K (.ref C) "at" = some none
  ca : findIn K (.ref C) "__class__" = some (some (.builtin "object.__class__"))
  a1 : findIn K (.ref C) "__init__" = some (some (.ref fI))
  kC : keepIn K (.ref C) = true
  tC : typeIn K (.ref C) = some (.type "type")
  sI : ks_superIn K C D "__init__" = some (some (.builtin "ValueError.__init__"))
/-- what the chain of bases has -/
structure Chain (D C : Addr) (bm : List Value) : Prop where
  ve : refsVE bm = true
  b : bm.contains (.type "BaseException") = true
  v : bm.contains (.type "ValueError") = true
  o : bm.contains (.type "object") = true
  d : (Value.ref C :: bm).contains (.ref D) = true
section
variable {prog : Program} {K : Frag} {mg : Str → Option Value} {D fI C cc : Addr} {bm : List Value}
theorem Own.cls (O : Own K D fI C bm) : ∃ cd, clsIn K C = some cd ∧ cd.mro = .ref C :: bm ∧ cd.hasDict = true := by
  obtain ⟨nm, q, N, bs, sn, sub, ab, col, dd, k0, k1, k2, k3, k5, hC⟩ := O.l
  refine ⟨{ name := nm, bases := bs, mro := .ref C :: bm, ns := N, qualname := q, hasDict := true, slotNames := sn, subclasses := sub, abstract := ab, collection := col, hasDel := false }, ?_, rfl, rfl⟩
  unfold clsIn
  rw [hC] <;> rfl
theorem Own.mro (O : Own K D fI C bm) (b : Value) : mroIn K C b = some ((Value.ref C :: bm).contains b) := by
  obtain ⟨cd, h1, h2, h3⟩ := O.cls
  unfold mroIn
  rw [h1, Option.bind_some, h2]
  rfl
theorem contains_tail {a b : Value} {l : List Value} (h : l.contains b = true) : (a :: l).contains b = true := by
  rw [List.contains_cons, h, Bool.or_true]
theorem Own.hd (O : Own K D fI C bm) : hasDictIn K C = true := by
  obtain ⟨cd, h1, h2, h3⟩ := O.cls
  unfold hasDictIn
  rw [h1]
  exact h3
theorem Own.sub (O : Own K D fI C bm) {b : Value} (h : (Value.ref C :: bm).contains b = true) : subIn K (.ref C) b = some true := by
  show mroIn K C b = some true
  rw [O.mro b, h]
theorem Own.fam (O : Own K D fI C bm) (H : Chain D C bm) (t1 : typeIn K (.ref fI) = some (.type "function")) : Fam K D fI C := by
  obtain ⟨nm, q, N, bs, sn, sub, ab, col, dd, k0, k1, k2, k3, k5, hC⟩ := O.l
  exact ⟨⟨nm, q, N, bs, bm, sn, sub, ab, col, dd, k0, k1, k2, k3, k5, hC, H.ve⟩, O.sa, O.ga, O.gg, O.nb, O.a1, t1, O.kC, O.sub (contains_tail H.b), O.tC, O.hd, by rw [O.mro, H.d], O.sI, O.sub (contains_tail H.v)⟩
theorem Own.err (O : Own K D fI C bm) (H : Chain D C bm) (t1 : typeIn K (.ref fI) = some (.type "function")) (B : Bas prog K D fI cc) {x : Str} (at_ : mg x = some (.ref C)) (sup : mg "super" = none) : Err prog K mg x C :=
  ⟨at_, sup, D, fI, cc, B, O.fam H t1⟩
theorem Own.seen (O : Own K D fI C bm) (H : Chain D C bm) (sp : specialIn K (.builtin "object.__class__") "__get__" = some (some (.builtin "getset_descriptor.__get__"))) (tk : takesIn K (.builtin "object.__class__") = some true) : Seen K C :=
  ⟨⟨O.ga, O.gg, O.sub (contains_tail H.b), O.hd, O.ca, sp, tk, by rw [O.mro, contains_tail H.o]⟩, O.nb⟩
theorem Own.kit {C2 : Addr} {bm2 : List Value} (O : Own K D fI C bm) (O2 : Own K D fI C2 bm2) : kitOne K (.ref C) (.ref C2) = some ((Value.ref C :: bm).contains (.ref C2)) := by
  unfold kitOne
  split
  · rename_i h
    rw [eq_of_beq h, List.contains_cons, beq_self_eq_true, Bool.true_or]
  · obtain ⟨cd, h1, h2, h3⟩ := O2.cls
    unfold kitCls
    dsimp only
    rw [h1, O2.tC]
    exact O.mro _
theorem Own.kitT (O : Own K D fI C bm) {T : String} (h : kitMeta T = true) : kitOne K (.ref C) (.type T) = some (bm.contains (.type T)) := by
  unfold kitOne
  rw [if_neg (by simp)]
  unfold kitCls
  dsimp only
  rw [if_pos h]
  show mroIn K C _ = _
  rw [O.mro, List.contains_cons]
  rw [show (Value.type T == Value.ref C) = false from by simp, Bool.false_or]
theorem Own.exm {C2 : Addr} {bm2 : List Value} (O : Own K D fI C bm) (O2 : Own K D fI C2 bm2) (H2 : Chain D C2 bm2) : exmOne K (.ref C) (.ref C2) = some ((Value.ref C :: bm).contains (.ref C2)) := by
  obtain ⟨cd, h1, h2, h3⟩ := O2.cls
  unfold exmOne
  rw [O2.sub (contains_tail H2.b)]
  rw [if_pos (by rfl)]
  unfold kitCls
  dsimp only
  rw [h1, O2.tC]
  exact O.mro _
theorem chain_base (D : Addr) : Chain D D [.type "ValueError", .type "Exception", .type "BaseException", .type "object"] := ⟨by rfl, by decide, by decide, by decide, by rw [List.contains_cons, beq_self_eq_true, Bool.true_or]⟩
theorem chain_sub (D C : Addr) : Chain D C [.ref D, .type "ValueError", .type "Exception", .type "BaseException", .type "object"] :=
  ⟨by rfl, contains_tail (by decide), contains_tail (by decide), contains_tail (by decide), contains_tail (by rw [List.contains_cons, beq_self_eq_true, Bool.true_or])⟩
end
end VX

/-! VL27: errors as values; chains of comparisons. -/
namespace VL
open PySem PySem.Spec PyProof.Rows L2
section
variable {W : Wo} {X : Cx} {E : WX} {T : List Nat} {x : Str} {a b c e : Expr} {p pos : Pos} {f fa fb fc : Ev W}
/-- X(e), a value -/
def gNewE (C : Addr) : Val → Option Val
  | .int n => some (.err C n)
  | _ => none
def eNewE (C : Addr) (f : Ev W) : Ev W := e1 (gNewE C) f
theorem ve_newE {C : Addr} {k : Nat} (TE : VX.Err X.prog X.K X.mg x C) (hr : Room k X.A) (ha : VE W X E a f) (hg : Gl X x := by rfl) (hdb : (x == ("__debug__" : Str)) = false := by decide)
    (he : starEach (a :: []) X.env = (false, eval a X.env) :: starEach [] X.env := by rfl) (hpl : (backTo pos (starEach [] X.env)).any (·.1) = false := by rfl) :
    VE W X E (.Call (.Name x p) [a] [] pos) (eNewE C f) := PE.imp (VX.pe_newE TE hr (va_cons ha va_nil he) hg hdb he hpl) fun σ H Q ⟨G, ρ, s, r, h⟩ => by
  show VX.tNewE C (tG W X.K E (pVs X.K) (eCons f eNil)) σ H _
  refine ⟨G, ρ, s, r, ?_⟩
  unfold eCons
  have h : Pst W X.K E (pV X.K H) G ρ σ H ((f ρ s).bind fun v s1 => R.opt (gNewE C v) s1) Q := h
  cases q : f ρ s with
  | bad => rw [q] at h; exact h.elim
  | exc c n s1 => rw [q] at h; exact h
  | ok v s1 =>
    rw [q] at h
    have h : Pst W X.K E (pV X.K H) G ρ σ H (R.opt (gNewE C v) s1) Q := h
    intro G1 H1 ws x1 r1 rs
    have rs : Reps X.K G1.F ws [v] := rs
    cases rs with
    | cons rv rn =>
      cases rn
      rename_i w
      obtain ⟨u, eu, h⟩ := Pst.opt h
      cases v with
      | int n =>
        cases eu
        cases rv.int_inv
        refine ⟨.int n, rfl, fun ea d hea hd hne => ?_⟩
        obtain ⟨x2, rw2⟩ := r1.toRelW.fresh (o := .xd (atF n)) hd ⟨fun _ z => (by cases z), fun _ z => (by cases z)⟩
        have r2 := r1.next x2 rw2
        have he2 : upd H1 d (.xd (atF n)) ea = none := by rw [upd_ne (Ne.symm hne)]; exact hea
        obtain ⟨x3, rw3⟩ := r2.toRelW.fresh (o := VX.erO ea C d) he2 ⟨fun _ z => (by cases z), fun _ z => (by cases z)⟩
        have r3 := r2.next x3 rw3
        refine h _ _ _ (x1.trans (x2.trans x3)) r3 (.err (d := d) upd_same ?_)
        show upd (upd G1.F d (.xd (atF n))) ea (VX.erO ea C d) d = _
        rw [upd_ne hne, upd_same]
      | _ => cases eu
theorem Rep.err_inv {K : PySem.W.Frag} {F : Hp} {w : V} {c : Addr} {n : Int} (r : Rep K F w (.err c n)) : ∃ a d, w = .ref a ∧ F a = some (VX.erO a c d) ∧ F d = some (.xd (atF n)) := by
  cases r with
  | err h1 h2 => exact ⟨_, _, rfl, h1, h2⟩
/-- e.at -/
def gAt (fam : Addr → Bool) : Val → Option Val
  | .err c n => if fam c = true then some (.int n) else none
  | _ => none
theorem ve_at {fam : Addr → Bool} (hfam : ∀ c, fam c = true → VX.Seen X.K c) (ha : VE W X E e f) (hb : attributeBase e "at" X.env (eval e X.env) = eval e X.env := by rfl) : VE W X E (.Attribute e "at" pos) (e1 (gAt fam) f) := PE.imp (VX.pe_at ha hb) fun σ H Q hq => by
  have h' := seq1 (P := pV X.K) (P' := pV X.K) (f := f) (g := fun v _ s1 => R.opt (gAt fam v) s1) pV.back hq
  refine h'.mono ?_
  rintro w H1 ⟨G, ρ, s, v, r, rp, h'⟩
  have rp : Rep X.K G.F w v := rp
  obtain ⟨u, eu, h'⟩ := Pst.opt h'
  cases v with
  | err c n =>
    have eu : (if fam c = true then some (Val.int n) else none) = some u := eu
    split at eu
    · rename_i hc
      cases eu
      obtain ⟨ea, d, rfl, h1, h2⟩ := rp.err_inv
      exact ⟨ea, c, d, .int n, rfl, r.sub _ _ h1, hfam c hc, r.sub _ _ h2, h'.done r (.int n)⟩
    · cases eu
  | _ => cases eu
/-- isinstance(e, C), e an error -/
def gIs (isa : Addr → Option Bool) : Val → Option Val
  | .err c _ => (isa c).map .bl
  | _ => none
/-- what names a class -/
def ClsE (X : Cx) (ce : Expr) (wc : V) (cv : Value) : Prop := PE X ce (fun σ H Q => Q wc H) ∧ ∀ u, RelV wc u → u = cv
theorem cls_glob {C : Addr} (hg : Gl X x) (hm : X.mg x = some (.ref C)) (hd : (x == ("__debug__" : Str)) = false := by decide) : ClsE X (.Name x pos) (.ref C) (.ref C) := ⟨pe_glob hg hm rfl hd, fun u r => r⟩
theorem cls_bltn {t : String} (hg : Gl X x) (hm : X.mg x = none) (hv : bootBuiltins x = some (.type t)) (hn : x ≠ "__name__" := by decide) (hd : (x == ("__debug__" : Str)) = false := by decide) : ClsE X (.Name x pos) (.ty t) (.type t) := ⟨pe_bltn hg hm hv rfl hn hd, fun u r => r⟩
theorem ve_isE {isa : Addr → Option Bool} {wc : V} {cv : Value} {p2 : Pos} (hisa : ∀ c b, isa c = some b → VX.Seen X.K c ∧ PySem.W.kitOne X.K (.ref c) cv = some b) (hc : ClsE X c wc cv) (hg : Gl X "isinstance") (hm : X.mg "isinstance" = none) (ha : VE W X E e f)
    (h1 : starEach [e, c] X.env = (false, eval e X.env) :: starEach [c] X.env := by rfl) (h2 : starEach [c] X.env = (false, eval c X.env) :: starEach [] X.env := by rfl) (hpl : (backTo pos (starEach [c] X.env)).any (·.1) = false := by rfl) :
    VE W X E (.Call (.Name "isinstance" p2) [e, c] [] pos) (e1 (gIs isa) f) :=
  PE.imp (pe_callB VX.call_isV hg hm (by decide +kernel) (pa_cons ha (pa_cons hc.1 pa_nil h2) h1) (by decide) (by decide) h1 hpl) fun σ H Q hq => by
  have h' := seq1 (P := pV X.K) (P' := pV X.K) (f := f) (g := fun v _ s1 => R.opt (gIs isa v) s1) pV.back hq
  refine h'.mono ?_
  rintro w H1 ⟨G, ρ, s, v, r, rp, h'⟩
  have rp : Rep X.K G.F w v := rp
  obtain ⟨u, eu, h'⟩ := Pst.opt h'
  cases v with
  | err cc n =>
    have eu : (isa cc).map Val.bl = some u := eu
    cases q : isa cc with
    | none => rw [q] at eu; cases eu
    | some b =>
      rw [q] at eu
      cases eu
      obtain ⟨ea, d, rfl, h1, h2⟩ := rp.err_inv
      obtain ⟨hs, hk⟩ := hisa cc b q
      exact ⟨ea, cc, d, .int n, wc, cv, b, r.sub _ _ h1, hs, r.sub _ _ h2, rfl, hc.2, hk, h'.done r (.bl b)⟩
  | _ => cases eu
/-- isinstance(n, T), n a whole number -/
def gIsI (b : Bool) : Val → Option Val
  | .int _ => some (.bl b)
  | _ => none
theorem ve_isI {t : String} {bb : Bool} {p2 : Pos} (hk : PySem.W.kitOne X.K (.type "int") (.type t) = some bb) (hc : ClsE X c (.ty t) (.type t)) (hg : Gl X "isinstance") (hm : X.mg "isinstance" = none) (ha : VE W X E e f)
    (h1 : starEach [e, c] X.env = (false, eval e X.env) :: starEach [c] X.env := by rfl) (h2 : starEach [c] X.env = (false, eval c X.env) :: starEach [] X.env := by rfl) (hpl : (backTo pos (starEach [c] X.env)).any (·.1) = false := by rfl) :
    VE W X E (.Call (.Name "isinstance" p2) [e, c] [] pos) (e1 (gIsI bb) f) :=
  PE.imp (pe_callB call_isi hg hm (by decide +kernel) (pa_cons ha (pa_cons hc.1 pa_nil h2) h1) (by decide) (by decide) h1 hpl) fun σ H Q hq => by
  have h' := seq1 (P := pV X.K) (P' := pV X.K) (f := f) (g := fun v _ s1 => R.opt (gIsI bb v) s1) pV.back hq
  refine h'.mono ?_
  rintro w H1 ⟨G, ρ, s, v, r, rp, h'⟩
  have rp : Rep X.K G.F w v := rp
  obtain ⟨u, eu, h'⟩ := Pst.opt h'
  cases v with
  | int n =>
    cases eu
    cases rp.int_inv
    exact ⟨.int n, .ty t, .type "int", .type t, bb, rfl, .ty t, .base (.int n), hk, h'.done r (.bl bb)⟩
  | _ => cases eu
/-- a op b op' c -/
def eChain (g g' : Val → Val → Option Val) (fa fb fc : Ev W) : Ev W := fun ρ s => (fa ρ s).bind fun x s1 => (fb ρ s1).bind fun y s2 => (R.opt (g x y) s2).bind fun k s3 => match k with
  | .bl true => (fc ρ s3).bind fun z s4 => R.opt (g' y z) s4
  | .bl false => .ok (.bl false) s3
  | _ => .bad
theorem chain_run {r r' : R2} {g g' : Val → Val → Option Val} {σ : L2.St} {H : Hp} {Q : VK} (hr : Flat2 X.K r g) (hr' : Flat2 X.K r' g') (hq : tG W X.K E (pV X.K) (eChain g g' fa fb fc) σ H Q) :
    tChain r r' (tG W X.K E (pB X.K) fa) (tG W X.K E (pB X.K) fb) (tG W X.K E (pB X.K) fc) σ H Q := by
  have h' := seq2 (P := pB X.K) (P' := pB X.K) (P2 := pV X.K) (f := fa) (f2 := fb) (g := fun x y ρ s2 => (R.opt (g x y) s2).bind fun k s3 => match k with
    | .bl true => (fc ρ s3).bind fun z s4 => R.opt (g' y z) s4
    | .bl false => .ok (.bl false) s3
    | _ => .bad) pV.back pB.keeps hq
  refine h'.mono fun w H1 h' => h'.mono ?_
  rintro u H2 ⟨G, ρ, s, x, y, rl, p1, p2, h'⟩
  cases q : g x y with
  | none => rw [q] at h'; exact h'.elim
  | some k =>
    rw [q] at h'
    obtain ⟨B, sb, r1, r2⟩ := Rep.two p1 p2
    refine hr B H2 w u x y k _ sb r1 r2 q fun z rz => ?_
    cases k with
    | bl bb =>
      refine ⟨bb, (rz (fun _ => none)).bl_inv, ?_⟩
      cases bb with
      | true =>
        rw [if_pos rfl]
        refine ⟨G, ρ, s, rl, ?_⟩
        have h'' : Pst W X.K E (pV X.K H2) G ρ σ H2 ((fc ρ s).bind fun z s4 => R.opt (g' y z) s4) Q := h'
        refine Pst.mono (Pst.bind (P := pB X.K H2) h'') ?_
        rintro v H3 ⟨G3, s3, z3, x3, r3, p3, h3⟩
        obtain ⟨v3, e3, h3⟩ := Pst.opt h3
        obtain ⟨B3, sb3, q1, q2⟩ := Rep.two (pB.keeps rl r3 x3 p2) p3
        exact hr' B3 H3 u v y z3 v3 Q sb3 q1 q2 e3 fun z rz => h3.done r3 (rz _)
      | false =>
        rw [if_neg Bool.false_ne_true]
        have h'' : Pst W X.K E (pV X.K H2) G ρ σ H2 (.ok (.bl false) s) Q := h'
        exact h''.done rl (.bl false)
    | _ => exact h'.elim
theorem vc_chain {op op' : CmpOp} {r r' : R2} {g g' : Val → Val → Option Val} (ho : OpR X (compareOp op) r) (ho' : OpR X (compareOp op') r') (hr : Flat2 X.K r g) (hr' : Flat2 X.K r' g') (ha : VB W X E a fa) (hb : VB W X E b fb) (hc : VB W X E c fc) (hl : lastMarks [op, op'] [b, c] = false := by rfl) :
    VE W X E (.Compare a [op, op'] [b, c] pos) (eChain g g' fa fb fc) ∧ VT W X E (.Compare a [op, op'] [b, c] pos) (tst (eChain g g' fa fb fc)) :=
  ⟨PE.imp (pe_chain ho ho' ha hb hc hl) fun _ _ _ h => chain_run hr hr' h, PT.imp (pt_chain ho ho' ha hb hc hl) fun _ _ _ h => chain_run hr hr' (tst_val h)⟩
theorem fl_lt {K : PySem.W.Frag} : Flat2 K (rI0 fun i j => .bl (decide (i < j))) gLt := flat_B
theorem fl_le {K : PySem.W.Frag} : Flat2 K (rI0 fun i j => .bl (decide (i ≤ j))) gLe := flat_B
/-- statements that are not reached -/
theorem vss_bad {sts : List Stmt} : VSs W X E T sts cBad := ⟨fun _ _ _ _ _ _ ⟨_, _, _, _, h⟩ => h.elim⟩
end
end VL

/-! VL28: the classes of errors by number; expressions as statements. -/
namespace VL
open PySem PySem.Spec PyProof.Rows L2
section
variable {W : Wo} {X : Cx} {E : WX} {T : List Nat} {e : Expr} {pos : Pos} {f : Ev W}
def cExpr (f : Sm W OT) : Cm W := fun ρ s => (f ρ s).go ρ fun _ s1 => .nx ρ s1
theorem vs_expr {f : Sm W OT} (h : VF W X E e f) (hs : swapsWith e none pos.line X.env = pure false := by rfl) : VS W X E T (.Expr e pos) (cExpr f) := PS.imp (ps_expr h hs) fun D σ H hq => by
  obtain ⟨G, ρ, s, r, hq⟩ := hq
  refine tG.mk (P := pF X.K) r (Pst.mono (PstS.go (P := pF X.K H) hq) ?_)
  rintro z H1 ⟨G1, s1, v, x1, r1, rv, h1⟩
  exact h1.nx' r1
end
section
variable {W : Wo} {X : Cx} {E : WX}
/-- a module's number -/
theorem ve_gint {x : Str} {i : Int} {pos : Pos} (hg : Gl X x) (hm : ∃ t, X.mg x = some (.int i t)) (hd : (x == ("__debug__" : Str)) = false := by decide) : VE W X E (.Name x pos) (eC (.int i)) := by
  obtain ⟨t, hm⟩ := hm
  exact ve_glob hg hm (w := .int i) ⟨_, rfl⟩ (fun F => .int i) hd
end
/-- the classes by number: N of them -/
structure CE (N : Nat) where
  ce : Nat → Addr
  cn : Addr → Nat
  hc : ∀ i, i < N → cn (ce i) = i
  hn : ∀ c, cn c < N → ce (cn c) = c
@[simp] theorem CE.cn_ce {N : Nat} (Z : CE N) {i : Nat} (h : i < N) : Z.cn (Z.ce i) = i := Z.hc i h
/-- what is asked of them; the class b is the base of all -/
structure CEs (P : Program) (K : PySem.W.Frag) (mg : Str → Option Value) (ns : List Str) (b : Nat) {N : Nat} (Z : CE N) : Prop where
  len : ns.length = N
  err : ∀ i x, ns[i]? = some x → VX.Err P K mg x (Z.ce i)
  seen : ∀ i, i < N → VX.Seen K (Z.ce i)
  kit : ∀ i j, i < N → j < N → PySem.W.kitOne K (.ref (Z.ce i)) (.ref (Z.ce j)) = some (i == j || j == b)
  kitV : ∀ i, i < N → PySem.W.kitOne K (.ref (Z.ce i)) (.type "ValueError") = some true
  exm : ∀ i j, i < N → j < N → PySem.W.exmOne K (.ref (Z.ce i)) (.ref (Z.ce j)) = some (i == j || j == b)
def CE.fam {N : Nat} (Z : CE N) (c : Addr) : Bool := decide (Z.cn c < N)
def CE.isa {N : Nat} (Z : CE N) (b j : Nat) (c : Addr) : Option Bool := if Z.cn c < N then some (Z.cn c == j || j == b) else none
def CE.isV {N : Nat} (Z : CE N) (c : Addr) : Option Bool := if Z.cn c < N then some true else none
def CE.mat {N : Nat} (Z : CE N) (b j : Nat) (c : Addr) : Bool := decide (Z.cn c < N) && (Z.cn c == j || j == b)
section
variable {P : Program} {K : PySem.W.Frag} {mg : Str → Option Value} {ns : List Str} {b N : Nat} {Z : CE N}
theorem CEs.fam (S : CEs P K mg ns b Z) : ∀ c, Z.fam c = true → VX.Seen K c := fun c h => by
  have h := of_decide_eq_true h
  rw [← Z.hn c h]
  exact S.seen _ h
theorem CEs.isa (S : CEs P K mg ns b Z) {j : Nat} (hj : j < N) : ∀ c r, Z.isa b j c = some r → VX.Seen K c ∧ PySem.W.kitOne K (.ref c) (.ref (Z.ce j)) = some r := fun c r h => by
  unfold CE.isa at h
  split at h
  · rename_i hc
    cases h
    have k := S.kit _ j hc hj
    have s := S.seen _ hc
    rw [Z.hn c hc] at k s
    exact ⟨s, k⟩
  · cases h
theorem CEs.isV (S : CEs P K mg ns b Z) : ∀ c r, Z.isV c = some r → VX.Seen K c ∧ PySem.W.kitOne K (.ref c) (.type "ValueError") = some r := fun c r h => by
  unfold CE.isV at h
  split at h
  · rename_i hc
    cases h
    have k := S.kitV _ hc
    have s := S.seen _ hc
    rw [Z.hn c hc] at k s
    exact ⟨s, k⟩
  · cases h
theorem CEs.mat (S : CEs P K mg ns b Z) {j : Nat} (hj : j < N) : ∀ c, Z.mat b j c = true → PySem.W.exmOne K (.ref c) (.ref (Z.ce j)) = some true := fun c h => by
  unfold CE.mat at h
  rw [Bool.and_eq_true] at h
  have hc := of_decide_eq_true h.1
  have k := S.exm _ j hc hj
  rw [Z.hn c hc, h.2] at k
  exact k
/-- made of a row of addresses -/
def CE.of (l : List Addr) (h : l.Nodup) : CE l.length where
  ce := fun i => l.getD i 0
  cn := fun c => l.idxOf c
  hc := fun i hi => by
    rw [List.getD_eq_getElem?_getD, List.getElem?_eq_getElem hi, Option.getD_some]
    exact h.idxOf_getElem i hi
  hn := fun c hc => by
    rw [List.getD_eq_getElem?_getD, List.getElem?_eq_getElem hc, Option.getD_some]
    exact List.getElem_idxOf hc
end
end VL

/-! VL29: == on values of numbers, texts, None, tuples and lists (no bools): the same value. -/
namespace VL
open PySem PySem.Spec PyProof.Rows L2
def cn : Nat → Val → Bool
  | _, .non => true
  | _, .int _ => true
  | _, .str _ => true
  | n + 1, .tup xs => xs.all (cn n)
  | n + 1, .lst xs => xs.all (cn n)
  | _, _ => false
theorem toDs_all {Pd : Val → Prop} {Qd : PyData → Prop} : ∀ {xs : List Val}, (∀ x ∈ xs, Qd x.toD) → ∀ d ∈ Val.toDs xs, Qd d
  | [], _ => fun d h => by cases h
  | x :: xs, h => fun d hd => by
    rcases List.mem_cons.mp hd with rfl | hd
    · exact h x List.mem_cons_self
    · exact toDs_all (Pd := Pd) (fun y hy => h y (List.mem_cons_of_mem _ hy)) d hd
theorem cn_pures {n : Nat} (ih : ∀ x, cn n x = true → x.pure = true) : ∀ xs : List Val, xs.all (cn n) = true → Val.pures xs = true
  | [], _ => rfl
  | x :: xs, h => by
    rw [List.all_cons, Bool.and_eq_true] at h
    show (x.pure && Val.pures xs) = true
    rw [ih x h.1, cn_pures ih xs h.2]; rfl
theorem cn_pure : ∀ (n : Nat) (x : Val), cn n x = true → x.pure = true
  | _, .non, _ => rfl
  | _, .int _, _ => rfl
  | _, .str _, _ => rfl
  | n + 1, .tup xs, h => cn_pures (cn_pure n) xs h
  | n + 1, .lst xs, h => cn_pures (cn_pure n) xs h
  | 0, .tup _, h => by cases h
  | 0, .lst _, h => by cases h
  | 0, .bl _, h => by cases h
  | _ + 1, .bl _, h => by cases h
  | 0, .wtup _, h => by cases h
  | _ + 1, .wtup _, h => by cases h
  | 0, .wlst _, h => by cases h
  | _ + 1, .wlst _, h => by cases h
  | 0, .dic _ _, h => by cases h
  | _ + 1, .dic _ _, h => by cases h
  | 0, .adr _, h => by cases h
  | _ + 1, .adr _, h => by cases h
  | 0, .exv _ _ _ _, h => by cases h
  | _ + 1, .exv _ _ _ _, h => by cases h
  | 0, .err _ _, h => by cases h
  | _ + 1, .err _ _, h => by cases h
/-- the cases of such a value -/
theorem cn_cases {n : Nat} {x : Val} (h : cn n x = true) {C : Val → Prop} (h0 : C .non) (h1 : ∀ i, C (.int i)) (h2 : ∀ z, C (.str z)) (h3 : ∀ m xs, n = m + 1 → xs.all (cn m) = true → C (.tup xs)) (h4 : ∀ m xs, n = m + 1 → xs.all (cn m) = true → C (.lst xs)) : C x := by
  cases x with
  | non => exact h0
  | int i => exact h1 i
  | str z => exact h2 z
  | tup xs => cases n with
    | zero => cases h
    | succ m => exact h3 m xs rfl h
  | lst xs => cases n with
    | zero => cases h
    | succ m => exact h4 m xs rfl h
  | _ => cases n <;> cases h
theorem cn_plains {n : Nat} (ih : ∀ x, cn n x = true → PyData.plain x.toD = true) : ∀ xs : List Val, xs.all (cn n) = true → PyData.plainAll (Val.toDs xs) = true
  | [], _ => rfl
  | x :: xs, h => by
    rw [List.all_cons, Bool.and_eq_true] at h
    show PyData.plainAll (x.toD :: Val.toDs xs) = true
    simp only [PyData.plainAll, ih x h.1, cn_plains ih xs h.2, Bool.and_true]
theorem cn_plain (n : Nat) : ∀ x : Val, cn n x = true → PyData.plain x.toD = true := by
  induction n with
  | zero => exact fun x h => cn_cases (C := fun x => PyData.plain x.toD = true) h rfl (fun _ => rfl) (fun _ => rfl) (fun m _ e => by cases e) fun m _ e => by cases e
  | succ n ih =>
    refine fun x h => cn_cases (C := fun x => PyData.plain x.toD = true) h rfl (fun _ => rfl) (fun _ => rfl) (fun m xs e hx => ?_) fun m xs e hx => ?_
    · cases e
      show PyData.plain (.tuple (Val.toDs xs)) = true
      simp only [PyData.plain, cn_plains ih xs hx]
    · cases e
      show PyData.plain (.list (Val.toDs xs)) = true
      simp only [PyData.plain, cn_plains ih xs hx]
theorem cn_dfree {n : Nat} {x : Val} (h : cn n x = true) : dfree x = true := by
  unfold dfree
  rw [cn_pure n x h, cn_plain n x h]; rfl
theorem cn_depths {n k : Nat} (ih : ∀ x, cn n x = true → PyData.depth x.toD ≤ k) : ∀ xs : List Val, xs.all (cn n) = true → PyData.depthAll (Val.toDs xs) ≤ k
  | [], _ => by
    show PyData.depthAll [] ≤ k
    simp only [PyData.depthAll]; omega
  | x :: xs, h => by
    rw [List.all_cons, Bool.and_eq_true] at h
    show PyData.depthAll (x.toD :: Val.toDs xs) ≤ k
    have h1 := ih x h.1
    have h2 := cn_depths ih xs h.2
    simp only [PyData.depthAll]
    omega
theorem cn_depth (n : Nat) : ∀ x : Val, cn n x = true → PyData.depth x.toD ≤ n + 1 := by
  have b0 : ∀ k, PyData.depth .none ≤ k + 1 := fun k => by simp only [PyData.depth]; omega
  have b1 : ∀ k i, PyData.depth (.int i) ≤ k + 1 := fun k i => by simp only [PyData.depth]; omega
  have b2 : ∀ k z, PyData.depth (.str z) ≤ k + 1 := fun k i => by simp only [PyData.depth]; omega
  induction n with
  | zero => exact fun x h => cn_cases (C := fun x => PyData.depth x.toD ≤ 0 + 1) h (b0 _) (b1 _) (b2 _) (fun m _ e => by cases e) fun m _ e => by cases e
  | succ n ih =>
    refine fun x h => cn_cases (C := fun x => PyData.depth x.toD ≤ n + 1 + 1) h (b0 _) (b1 _) (b2 _) (fun m xs e hx => ?_) fun m xs e hx => ?_
    · cases e
      show PyData.depth (.tuple (Val.toDs xs)) ≤ _
      have := cn_depths ih xs hx
      simp only [PyData.depth]; omega
    · cases e
      show PyData.depth (.list (Val.toDs xs)) ≤ _
      have := cn_depths ih xs hx
      simp only [PyData.depth]; omega
theorem cn_dep {n : Nat} (hn : n ≤ 40) {x : Val} (h : cn n x = true) : dep64 x = true := by
  unfold dep64
  have := cn_depth n x h
  exact decide_eq_true (by omega)
theorem cn_eqvs {n : Nat} (ih : ∀ x y, cn n x = true → cn n y = true → (PyData.eqv x.toD y.toD = true ↔ x = y)) : ∀ xs ys : List Val, xs.all (cn n) = true → ys.all (cn n) = true → (PyData.eqvAll (Val.toDs xs) (Val.toDs ys) = true ↔ xs = ys)
  | [], [], _, _ => by
    show PyData.eqvAll [] [] = true ↔ _
    simp only [PyData.eqvAll]
  | [], y :: ys, _, _ => by
    show PyData.eqvAll [] (y.toD :: Val.toDs ys) = true ↔ _
    simp [PyData.eqvAll]
  | x :: xs, [], _, _ => by
    show PyData.eqvAll (x.toD :: Val.toDs xs) [] = true ↔ _
    simp [PyData.eqvAll]
  | x :: xs, y :: ys, h, h2 => by
    rw [List.all_cons, Bool.and_eq_true] at h h2
    show PyData.eqvAll (x.toD :: Val.toDs xs) (y.toD :: Val.toDs ys) = true ↔ _
    simp only [PyData.eqvAll, Bool.and_eq_true, List.cons.injEq]
    rw [ih x y h.1 h2.1, cn_eqvs ih xs ys h.2 h2.2]
theorem cn_eqv (n : Nat) : ∀ x y : Val, cn n x = true → cn n y = true → (PyData.eqv x.toD y.toD = true ↔ x = y) := by
  induction n with
  | zero =>
    refine fun x y h h2 => cn_cases (C := fun x => PyData.eqv x.toD y.toD = true ↔ x = y) h ?_ ?_ ?_ (fun m _ e => by cases e) fun m _ e => by cases e
    · exact cn_cases (C := fun y => PyData.eqv _ y.toD = true ↔ _ = y) h2 (by simp [Val.toD, PyData.eqv]) (fun _ => by simp [Val.toD, PyData.eqv]) (fun _ => by simp [Val.toD, PyData.eqv]) (fun m _ e => by cases e) fun m _ e => by cases e
    · exact fun i => cn_cases (C := fun y => PyData.eqv _ y.toD = true ↔ _ = y) h2 (by simp [Val.toD, PyData.eqv]) (fun _ => by simp [Val.toD, PyData.eqv]) (fun _ => by simp [Val.toD, PyData.eqv]) (fun m _ e => by cases e) fun m _ e => by cases e
    · exact fun i => cn_cases (C := fun y => PyData.eqv _ y.toD = true ↔ _ = y) h2 (by simp [Val.toD, PyData.eqv]) (fun _ => by simp [Val.toD, PyData.eqv]) (fun _ => by simp [Val.toD, PyData.eqv]) (fun m _ e => by cases e) fun m _ e => by cases e
  | succ n ih =>
    refine fun x y h h2 => cn_cases (C := fun x => PyData.eqv x.toD y.toD = true ↔ x = y) h ?_ ?_ ?_ ?_ ?_
    · exact cn_cases (C := fun y => PyData.eqv _ y.toD = true ↔ _ = y) h2 (by simp [Val.toD, PyData.eqv]) (fun _ => by simp [Val.toD, PyData.eqv]) (fun _ => by simp [Val.toD, PyData.eqv]) (fun m _ e _ => by simp [Val.toD, PyData.eqv]) fun m _ e _ => by simp [Val.toD, PyData.eqv]
    · exact fun i => cn_cases (C := fun y => PyData.eqv _ y.toD = true ↔ _ = y) h2 (by simp [Val.toD, PyData.eqv]) (fun _ => by simp [Val.toD, PyData.eqv]) (fun _ => by simp [Val.toD, PyData.eqv]) (fun m _ e _ => by simp [Val.toD, PyData.eqv]) fun m _ e _ => by simp [Val.toD, PyData.eqv]
    · exact fun i => cn_cases (C := fun y => PyData.eqv _ y.toD = true ↔ _ = y) h2 (by simp [Val.toD, PyData.eqv]) (fun _ => by simp [Val.toD, PyData.eqv]) (fun _ => by simp [Val.toD, PyData.eqv]) (fun m _ e _ => by simp [Val.toD, PyData.eqv]) fun m _ e _ => by simp [Val.toD, PyData.eqv]
    · intro m xs e hx
      cases e
      refine cn_cases (C := fun y => PyData.eqv _ y.toD = true ↔ _ = y) h2 (by simp [Val.toD, PyData.eqv]) (fun _ => by simp [Val.toD, PyData.eqv]) (fun _ => by simp [Val.toD, PyData.eqv]) (fun m ys e hy => ?_) fun m _ e _ => by simp [Val.toD, PyData.eqv]
      cases e
      have := cn_eqvs ih xs ys hx hy
      simp only [Val.toD, PyData.eqv, Val.tup.injEq]
      exact this
    · intro m xs e hx
      cases e
      refine cn_cases (C := fun y => PyData.eqv _ y.toD = true ↔ _ = y) h2 (by simp [Val.toD, PyData.eqv]) (fun _ => by simp [Val.toD, PyData.eqv]) (fun _ => by simp [Val.toD, PyData.eqv]) (fun m _ e _ => by simp [Val.toD, PyData.eqv]) (fun m ys e hy => ?_)
      cases e
      have := cn_eqvs ih xs ys hx hy
      simp only [Val.toD, PyData.eqv, Val.lst.injEq]
      exact this
open Classical in
theorem gEq_cn {n : Nat} (hn : n ≤ 40) {x y : Val} (hx : cn n x = true) (hy : cn n y = true) : gEq x y = some (.bl (decide (x = y))) := by
  have h : (dfree x && dfree y) = true := by rw [cn_dfree hx, cn_dfree hy]; rfl
  unfold gEq
  rw [show vok x y = true by unfold vok; rw [h]; rfl, cn_dep hn hx, veq_df h]
  show some (Val.bl (PyData.eqv x.toD y.toD)) = _
  congr 2
  rw [Bool.eq_iff_iff, cn_eqv n x y hx hy, decide_eq_true_iff]
open Classical in
theorem gNe_cn {n : Nat} (hn : n ≤ 40) {x y : Val} (hx : cn n x = true) (hy : cn n y = true) : gNe x y = some (.bl (!decide (x = y))) := by
  have h : (dfree x && dfree y) = true := by rw [cn_dfree hx, cn_dfree hy]; rfl
  have e : veq x y = decide (x = y) := by
    rw [veq_df h, Bool.eq_iff_iff, cn_eqv n x y hx hy, decide_eq_true_iff]
  unfold gNe
  rw [show vok x y = true by unfold vok; rw [h]; rfl, cn_dep hn hx, h, e]
  cases x <;> cases y <;> rfl
/-! ### rows of bools -/
theorem toDs_bls : ∀ l : List Bool, Val.toDs (l.map .bl) = l.map .bool
  | [] => rfl
  | b :: l => by
    show PyData.bool b :: Val.toDs (l.map .bl) = _
    rw [toDs_bls l]; rfl
theorem eqv_bls : ∀ l m : List Bool, PyData.eqvAll (l.map .bool) (m.map .bool) = decide (l = m)
  | [], [] => rfl
  | [], b :: m => by rw [decide_eq_false (by simp)]; simp [PyData.eqvAll]
  | a :: l, [] => by rw [decide_eq_false (by simp)]; simp [PyData.eqvAll]
  | a :: l, b :: m => by
    have ih := eqv_bls l m
    rw [List.map_cons, List.map_cons]
    simp only [PyData.eqvAll, PyData.eqv, ih]
    rw [Bool.eq_iff_iff]
    simp
theorem pures_bls : ∀ l : List Bool, Val.pures (l.map .bl) = true
  | [] => rfl
  | b :: l => by
    show ((Val.bl b).pure && Val.pures (l.map .bl)) = true
    rw [pures_bls l]; rfl
theorem plain_bls : ∀ l : List Bool, PyData.plainAll (l.map .bool) = true
  | [] => rfl
  | b :: l => by
    rw [List.map_cons]
    simp only [PyData.plainAll, PyData.plain, plain_bls l, Bool.and_true]
theorem depth_bls : ∀ l : List Bool, PyData.depthAll (l.map .bool) ≤ 1
  | [] => by simp [PyData.depthAll]
  | b :: l => by
    have := depth_bls l
    rw [List.map_cons]
    simp only [PyData.depthAll, PyData.depth]
    omega
theorem dfree_bls (l : List Bool) : dfree (.lst (l.map .bl)) = true := by
  unfold dfree
  rw [Bool.and_eq_true]
  refine ⟨pures_bls l, ?_⟩
  show PyData.plain (.list (Val.toDs (l.map .bl))) = true
  rw [toDs_bls]
  simp only [PyData.plain, plain_bls]
theorem veq_bls (l m : List Bool) : veq (.lst (l.map .bl)) (.lst (m.map .bl)) = decide (l = m) := by
  have h : (dfree (.lst (l.map .bl)) && dfree (.lst (m.map .bl))) = true := by rw [dfree_bls, dfree_bls]; rfl
  rw [veq_df h]
  show PyData.eqv (.list (Val.toDs (l.map .bl))) (.list (Val.toDs (m.map .bl))) = _
  rw [toDs_bls, toDs_bls]
  simp only [PyData.eqv]
  exact eqv_bls l m
theorem dep_bls (l : List Bool) : dep64 (.lst (l.map .bl)) = true := by
  unfold dep64
  refine decide_eq_true ?_
  show PyData.depth (.list (Val.toDs (l.map .bl))) ≤ 50
  rw [toDs_bls]
  have := depth_bls l
  simp only [PyData.depth]
  omega
theorem gEq_bls (l m : List Bool) : gEq (.lst (l.map .bl)) (.lst (m.map .bl)) = some (.bl (decide (l = m))) := by
  have h : (dfree (.lst (l.map .bl)) && dfree (.lst (m.map .bl))) = true := by rw [dfree_bls, dfree_bls]; rfl
  unfold gEq
  rw [show vok (.lst (l.map .bl)) (.lst (m.map .bl)) = true by unfold vok; rw [h]; rfl, dep_bls, veq_bls]
  rfl
theorem gNe_bls (l m : List Bool) : gNe (.lst (l.map .bl)) (.lst (m.map .bl)) = some (.bl (!decide (l = m))) := by
  have h : (dfree (.lst (l.map .bl)) && dfree (.lst (m.map .bl))) = true := by rw [dfree_bls, dfree_bls]; rfl
  unfold gNe
  rw [show vok (.lst (l.map .bl)) (.lst (m.map .bl)) = true by unfold vok; rw [h]; rfl, dep_bls, h, veq_bls]
  rfl
end VL

/-! VL30: the equations of errors, for simp. -/
namespace VL
open PySem PySem.Spec PyProof.Rows L2
section
variable {W : Wo} {S α β : Type} {ρ ρ' : En} {s s1 : W.S} {σ : S} {N : Nat}
@[simp] theorem s_xbind (c : Addr) (n : Int) (f : α → S → R S β) : (R.exc c n σ).bind f = .exc c n σ := rfl
@[simp] theorem s_xgo (c : Addr) (n : Int) (f : α → S → Out S) : (R.exc c n σ : R S α).go ρ f = .exc c n ρ σ := rfl
@[simp] theorem s_xthen (c : Addr) (n : Int) (f : En → S → Out S) : (Out.exc c n ρ σ).then f = .exc c n ρ σ := rfl
@[simp] theorem s_xfin (c : Addr) (n : Int) : (Out.exc c n ρ σ).fin = .exc c n σ := rfl
@[simp] theorem s_raise (C : Addr) (f : Ev W) : cRaise C f ρ s = (f ρ s).go ρ fun v s1 => match v with
  | .int n => .exc C n ρ s1
  | _ => .bad := rfl
@[simp] theorem s_expr (f : Sm W OT) : cExpr f ρ s = (f ρ s).go ρ fun _ s1 => .nx ρ s1 := rfl
@[simp] theorem s_try (m : Addr → Bool) (i : Nat) (c d : Cm W) : cTry m i c d ρ s = match c ρ s with
  | .exc cc n ρ' s' => if m cc = true then (d (ρ'.set i (some (.sh (.err cc n)))) s').unset i else .bad
  | o => o := rfl
@[simp] theorem s_un1 (i : Nat) : (Out.nx ρ σ).unset i = .nx (ρ.set i none) σ := rfl
@[simp] theorem s_un2 (i : Nat) (t : OT) : (Out.rt t σ).unset i = .rt t σ := rfl
@[simp] theorem s_newE (C : Addr) (f : Ev W) : eNewE C f ρ s = (f ρ s).bind fun v s1 => R.opt (gNewE C v) s1 := rfl
@[simp] theorem s_gnew (C : Addr) (n : Int) : gNewE C (.int n) = some (.err C n) := rfl
@[simp] theorem s_gat (fam : Addr → Bool) (c : Addr) (n : Int) : gAt fam (.err c n) = if fam c = true then some (.int n) else none := rfl
@[simp] theorem s_gis (isa : Addr → Option Bool) (c : Addr) (n : Int) : gIs isa (.err c n) = (isa c).map .bl := rfl
@[simp] theorem s_gisI (b : Bool) (n : Int) : gIsI b (.int n) = some (.bl b) := rfl
theorem CE.fam_ce (Z : CE N) {i : Nat} (h : i < N) : Z.fam (Z.ce i) = true := by unfold CE.fam; rw [Z.hc i h]; exact decide_eq_true h
theorem CE.isa_ce (Z : CE N) {b i j : Nat} (h : i < N) : Z.isa b j (Z.ce i) = some (i == j || j == b) := by unfold CE.isa; rw [Z.hc i h, if_pos h]
theorem CE.isV_ce (Z : CE N) {i : Nat} (h : i < N) : Z.isV (Z.ce i) = some true := by unfold CE.isV; rw [Z.hc i h, if_pos h]
theorem CE.mat_ce (Z : CE N) {b i j : Nat} (h : i < N) : Z.mat b j (Z.ce i) = (i == j || j == b) := by unfold CE.mat; rw [Z.hc i h, decide_eq_true h, Bool.true_and]
@[simp] theorem s_chain (g g' : Val → Val → Option Val) (fa fb fc : Ev W) : eChain g g' fa fb fc ρ s = (fa ρ s).bind fun x s1 => (fb ρ s1).bind fun y s2 => (R.opt (g x y) s2).bind fun k s3 => match k with
  | .bl true => (fc ρ s3).bind fun z s4 => R.opt (g' y z) s4
  | .bl false => .ok (.bl false) s3
  | _ => .bad := rfl
@[simp] theorem s_neg (i : Int) : gNeg (.int i) = some (.int (-i)) := rfl
@[simp] theorem s_cBad : (cBad : Cm W) ρ s = .bad := rfl
theorem gIn_bls (b : Bool) (l : List Bool) : gIn false (.bl b) (.lst (l.map .bl)) = some (.bl (decide (b ∈ l))) := by
  have h : dfree (.bl b) = true := by unfold dfree; rfl
  have h2 : dep50 (.bl b) = true := by unfold dep50; refine decide_eq_true ?_; show PyData.depth (.bool b) ≤ _; simp only [PyData.depth]; omega
  unfold gIn inL
  rw [h, dfree_bls, h2]
  show (some ((l.map Val.bl).any fun z => PyData.eqv z.toD (Val.bl b).toD)).map _ = _
  rw [List.any_map]
  have : (l.any ((fun z : Val => PyData.eqv z.toD (Val.bl b).toD) ∘ Val.bl)) = decide (b ∈ l) := by
    rw [Bool.eq_iff_iff, List.any_eq_true]
    simp only [Function.comp, Val.toD, PyData.eqv, decide_eq_true_eq]
    constructor
    · rintro ⟨x, h, e⟩; rw [← eq_of_beq e]; exact h
    · intro h; exact ⟨b, h, by simp⟩
  rw [this]
  simp
end
end VL

/-! VL31: the classes of errors, from the facts of the top. -/
namespace VL
open PySem PySem.Spec PyProof.Rows L2
abbrev baseL : List Value := [.type "ValueError", .type "Exception", .type "BaseException", .type "object"]
def bmOf (D : Addr) (isB : Bool) : List Value := if isB then baseL else .ref D :: baseL
theorem ref_beq (a b : Addr) : (Value.ref a == Value.ref b) = decide (a = b) := by
  rw [Bool.eq_iff_iff, beq_iff_eq, decide_eq_true_iff]
  exact ⟨fun h => Value.ref.inj h, fun h => by rw [h]⟩
theorem has_ref (D C x : Addr) (isB : Bool) (h : isB = true → C = D) : (Value.ref C :: bmOf D isB).contains (.ref x) = (decide (x = C) || decide (x = D)) := by
  have e : (baseL).contains (Value.ref x) = false := rfl
  unfold bmOf
  cases isB with
  | true =>
    have := h rfl
    subst this
    rw [if_pos rfl, List.contains_cons, e, ref_beq]
    simp
  | false =>
    rw [if_neg Bool.false_ne_true, List.contains_cons, List.contains_cons, e, ref_beq, ref_beq]
    simp
theorem chain_of (D C : Addr) (isB : Bool) (h : isB = true → C = D) : VX.Chain D C (bmOf D isB) := by
  unfold bmOf
  cases isB with
  | true =>
    have := h rfl
    subst this
    exact VX.chain_base _
  | false => exact VX.chain_sub D C
theorem ces_of {P : Program} {K : PySem.W.Frag} {mg : Str → Option Value} {ns : List Str} {b N : Nat} {Z : CE N} {fI cc : Addr} (hb : b < N) (hlen : ns.length = N) (hO : ∀ i, i < N → VX.Own K (Z.ce b) fI (Z.ce i) (bmOf (Z.ce b) (i == b)))
    (t1 : PySem.W.typeIn K (.ref fI) = some (.type "function")) (B : VX.Bas P K (Z.ce b) fI cc) (at_ : ∀ i x, ns[i]? = some x → mg x = some (.ref (Z.ce i))) (sup : mg "super" = none)
    (sp : PySem.W.specialIn K (.builtin "object.__class__") "__get__" = some (some (.builtin "getset_descriptor.__get__"))) (tk : PySem.W.takesIn K (.builtin "object.__class__") = some true) : CEs P K mg ns b Z := by
  have hB : ∀ i, (i == b) = true → Z.ce i = Z.ce b := fun i h => by rw [eq_of_beq h]
  have inj : ∀ i j, i < N → j < N → Z.ce i = Z.ce j → i = j := fun i j hi hj h => by rw [← Z.hc i hi, ← Z.hc j hj, h]
  have row : ∀ i j, i < N → j < N → (Value.ref (Z.ce i) :: bmOf (Z.ce b) (i == b)).contains (.ref (Z.ce j)) = (i == j || j == b) := fun i j hi hj => by
    rw [has_ref _ _ _ _ (hB i), Bool.eq_iff_iff]
    simp only [Bool.or_eq_true, decide_eq_true_eq, beq_iff_eq]
    constructor
    · rintro (h | h)
      · exact .inl (inj j i hj hi h).symm
      · exact .inr (inj j b hj hb h)
    · rintro (h | h)
      · exact .inl (by rw [h])
      · exact .inr (by rw [h])
  refine ⟨hlen, fun i x h => ?_, fun i hi => (hO i hi).seen (chain_of _ _ _ (hB i)) sp tk, fun i j hi hj => ?_, fun i hi => ?_, fun i j hi hj => ?_⟩
  · have hi : i < N := by rw [← hlen]; exact (List.getElem?_eq_some_iff.mp h).1
    exact (hO i hi).err (chain_of _ _ _ (hB i)) t1 B (at_ i x h) sup
  · rw [(hO i hi).kit (hO j hj), row i j hi hj]
  · rw [(hO i hi).kitT (by decide +kernel), (chain_of _ _ _ (hB i)).v]
  · rw [(hO i hi).exm (hO j hj) (chain_of _ _ _ (hB j)), row i j hi hj]
/-- a class's name -/
def nmOf (K : PySem.W.Frag) (a : Addr) : Option Str := match K.lookup a with
  | some ⟨_, _, .cls cd, _⟩ => some cd.name
  | _ => none
theorem nodup_names {K : PySem.W.Frag} {l : List Addr} {ns : List Str} (h : l.map (nmOf K) = ns.map some) (hn : ns.Nodup) : l.Nodup := by
  have h2 : (l.map (nmOf K)).Nodup := by
    rw [h]
    exact List.pairwise_map.mpr (hn.imp fun q e => q (Option.some.inj e))
  exact (List.pairwise_map.mp h2).imp fun q e => q (by rw [e])
/-- the law's promise, whatever it leans on -/
def spT (K : PySem.W.Frag) : Sp := fun vs H Q E => ∃ (a : Addr) (ns : List Int), vs = [.ref a] ∧ Only H ∧ SqL K H a (ns.map V.int) ∧ Q = (fun v _ => v = .bl true) ∧ E = fun _ _ _ => False
theorem top_spT {P : Program} {w : World} {K : PySem.W.Frag} {mg : Str → Option Value} {base : Heap} {fa : Addr} {fd : FuncData} {x : Str} {f : Fv W0} (h : TopRun P w K mg base fa fd x (VSp W0 K 1 f)) (hf : ∀ ns : List Int, ∃ s', f [.wlst (ns.map Val.int)] () = .ok (.sh (.bl true)) s') :
    TopRun P w K mg base fa fd x (spT K) := fun s H v u Q E e b r ⟨a, ns, e1, only, sq, q1, q2⟩ => h s H v u Q E e b r (by
  subst q1
  subst q2
  rw [e1]
  exact law_sp only sq (hf ns))
end VL

namespace K00
open PySem PySem.Spec PyProof.Rows L2 VL
def top (i : Nat) : Stmt := PySem.Challenge.pw_keysreach_k00_errors_are_apart.main.body.getD i (.Pass ⟨0, 0, 0, 0⟩)
structure Txt (mg : Str → Option Value) : Prop where
  ValueError : mg "ValueError" = none
  abs : mg "abs" = none
  bool : mg "bool" = none
  int : mg "int" = none
  isinstance : mg "isinstance" = none
  len : mg "len" = none
  min : mg "min" = none
  range : mg "range" = none
  g_MOST_PROGRAMS : ∃ t, mg "MOST_PROGRAMS" = some (.int (16) t)
def ns : List Str := ["OutOfRange", "TooMany", "WrongSize", "NotASet", "BadAddress", "BadBlock", "NoHand", "Busy", "NoCall", "NotOpen", "BadCode", "NoRoom", "BadUnit", "BadSizes", "BadTime", "BadWord", "BadTree", "TooLong", "BadLine", "KernelError"]
section
variable {P : Program} {w : World} {K : PySem.W.Frag} {mg : Str → Option Value} {base : Heap}
/-! first_state -/
abbrev s_first_state : Stmt := top 32
theorem sc_first_state : FnScope ["programs", "objects", "state", "slot", "number"] ["programs"] (defScope s_first_state) := ⟨rfl, rfl, rfl, by decide +kernel, rfl, by decide +kernel, by decide +kernel⟩
def c_first_state (Z : CE 20) : Cm W0 := (cSeq (cIf (tNotS (tst (eChain gLe gLe (eC (.int 1)) (bP (pVar 0)) (eC (.int 16))))) (cRaise (Z.ce 0) (eP (pVar 0))) cNx) cBad)
def F_first_state (Z : CE 20) : Fv W0 := cDef 5 (c_first_state Z)
theorem d_first_state (TB : Txt mg) {Z : CE 20} (TE : CEs P K mg ns 19 Z)  (f : Addr) (cdv : Value) (A : Around) (outer : List Env) (s : Shared) (H : Hp) (EX : XK) (hr : Room 0 (A.deeper (envOfC "first_state" (defScope s_first_state) s.heap.objs.size f cdv))) :
    VSs W0 (cxX P w K mg base ["programs", "objects", "state", "slot", "number"] "first_state" (defScope s_first_state) f cdv A outer s H EX) (eX EX) [0, 1, 2, 3, 4] (defBody s_first_state) (c_first_state Z) := by
  have hu1 := hu_of hr
  have S := sc_first_state
  exact (vss_cons (vs_if (vt_not (vc_chain op_le op_le fl_le fl_le (vb_of ve_int) (vb_p (vp_var 0)) (vb_of (ve_gint (by rfl) TB.g_MOST_PROGRAMS))).2) (vss_one (vs_raise (by rfl) (TE.err 0 _ rfl) hr takes_X (ve_p (vp_var 0)))) vss_nil) vss_bad)
theorem cal_first_state (TB : Txt mg) {Z : CE 20} (TE : CEs P K mg ns 19 Z)  {f : Addr} {fd : FuncData} (F : Fun K "first_state" "first_state" s_first_state f fd) (b : Binds K fd ["programs"] []) (m : mg "first_state" = some (.ref f)) : CalX P w K mg base "first_state" 1 1 (F_first_state Z) :=
  ⟨f, fd, ["programs"], VL.Fun.okVX F sc_first_state (by decide) fun cdv A outer s H EX hr => d_first_state TB TE  f cdv A outer s H EX hr, m, F.kp, b⟩
/-! _law_draws -/
abbrev s__law_draws : Stmt := top 34
theorem sc__law_draws : FnScope ["script", "draws", "k", "rest", "turn", "stirred"] ["script"] (defScope s__law_draws) := ⟨rfl, rfl, rfl, by decide +kernel, rfl, by decide +kernel, by decide +kernel⟩
def c__law_draws (Z : CE 20) : Cm W0 := (cSeq (cSetF 1 (fLst eNil)) (cSeq (cFor (iR1 (eCl gMin (eCons (eC (.int 63)) (eCons (eCl gLen (eCons (bP (pVar 0)) eNil)) eNil)))) (puN 2) (cSeq (cSet 3 (eCl gAbs (eCons (bP (pIx (pVar 0) (eP (pVar 2)))) eNil))) (cIf (tst (e2 gGe (bP (pVar 3)) (e2 gPow (eC (.int 10)) (eC (.int 18))))) (cFor (iR1 (eC (.int 60))) (puN 4) (cIf (tst (e2 gGt (bP (pVar 3)) (eC (.int 0)))) (cSeq (cApp 1 [] (e2 gMod (eCl gInt (eCons (bP (pVar 3)) eNil)) (eC (.int 65536)))) (cSet 3 (e2 gDiv (bP (pVar 3)) (eC (.int 65536))))) cNx)) (cSeq (cSet 5 (e2 gMod (eCl gInt (eCons (e2 gAdd (e2 gMul (bP (pVar 3)) (eC (.int 48271))) (e2 gMul (e2 gAdd (bP (pVar 2)) (eC (.int 1))) (eC (.int 69621)))) eNil)) (eC (.int 2147483647)))) (cSeq (cSet 5 (e2 gMod (eCl gInt (eCons (e2 gAdd (e2 gAdd (e2 gMul (bP (pVar 5)) (eC (.int 16807))) (e2 gMul (eC (.int 11)) (bP (pVar 2)))) (eC (.int 5))) eNil)) (eC (.int 2147483629)))) (cSeq (cApp 1 [] (e2 gMod (eCl gInt (eCons (bP (pVar 5)) eNil)) (eC (.int 65536)))) (cApp 1 [] (e2 gMod (eCl gInt (eCons (e2 gDiv (bP (pVar 5)) (eC (.int 65536))) eNil)) (eC (.int 32768)))))))))) (cRetF (pVar 1))))
def F__law_draws (Z : CE 20) : Fv W0 := cDef0 6 (c__law_draws Z)
theorem d__law_draws (TB : Txt mg) {Z : CE 20} (TE : CEs P K mg ns 19 Z)  (f : Addr) (cdv : Value) (A : Around) (outer : List Env) (s : Shared) (H : Hp) (EX : XK) (hr : Room 0 (A.deeper (envOfC "_law_draws" (defScope s__law_draws) s.heap.objs.size f cdv))) :
    VSs W0 (cxV P w K mg base ["script", "draws", "k", "rest", "turn", "stirred"] "_law_draws" (defScope s__law_draws) f cdv A outer s H EX) eN [0, 1, 2, 3, 4, 5] (defBody s__law_draws) (c__law_draws Z) := by
  have hu1 := hu_of hr
  have S := sc__law_draws
  exact (vss_cons (vs_setF (by decide) S.nd (vf_lst va_nil)) (vss_cons (vs_for PassesOwn.never (by rfl) (vi_r1 (U := []) (by rfl) TB.range (ve_min (by rfl) (by rfl) TB.min (vb_of ve_int) (vb_of (ve_len (by rfl) TB.len (vb_p (vp_var 0)))))) (vg_name (by decide) S.nd) (vss_cons (vs_set (by decide) S.nd (ve_abs (by rfl) TB.abs (vb_p (vp_ix (vp_var 0) (ve_p (vp_var 2)))))) (vss_one (vs_if (vt_cmp (vc_ge (vb_p (vp_var 3)) (vb_of (ve_pow (vb_of ve_int) (vb_of ve_int))))) (vss_one (vs_for PassesOwn.never (by rfl) (vi_r1 (U := []) (by rfl) TB.range ve_int) (vg_name (by decide) S.nd) (vss_one (vs_if (vt_cmp (vc_gt (vb_p (vp_var 3)) (vb_of ve_int))) (vss_cons (vs_app (by decide) (vo_var 1) (ve_mod (vb_of (ve_intc (by rfl) TB.int (vb_p (vp_var 3)))) (vb_of ve_int))) (vss_one (vs_set (by decide) S.nd (ve_div (vb_p (vp_var 3)) (vb_of ve_int))))) vss_nil)) (by decide))) (vss_cons (vs_set (by decide) S.nd (ve_mod (vb_of (ve_intc (by rfl) TB.int (vb_of (ve_add (vb_of (ve_mul (vb_p (vp_var 3)) (vb_of ve_int))) (vb_of (ve_mul (vb_of (ve_add (vb_p (vp_var 2)) (vb_of ve_int))) (vb_of ve_int))))))) (vb_of ve_int))) (vss_cons (vs_set (by decide) S.nd (ve_mod (vb_of (ve_intc (by rfl) TB.int (vb_of (ve_add (vb_of (ve_add (vb_of (ve_mul (vb_p (vp_var 5)) (vb_of ve_int))) (vb_of (ve_mul (vb_of ve_int) (vb_p (vp_var 2)))))) (vb_of ve_int))))) (vb_of ve_int))) (vss_cons (vs_app (by decide) (vo_var 1) (ve_mod (vb_of (ve_intc (by rfl) TB.int (vb_p (vp_var 5)))) (vb_of ve_int))) (vss_one (vs_app (by decide) (vo_var 1) (ve_mod (vb_of (ve_intc (by rfl) TB.int (vb_of (ve_div (vb_p (vp_var 5)) (vb_of ve_int))))) (vb_of ve_int)))))))))) (by decide)) (vss_one (vs_retP (vp_var 1)))))
theorem cal__law_draws (TB : Txt mg) {Z : CE 20} (TE : CEs P K mg ns 19 Z)  {f : Addr} {fd : FuncData} (F : Fun K "_law_draws" "_law_draws" s__law_draws f fd) (b : Binds K fd ["script"] []) (m : mg "_law_draws" = some (.ref f)) : Cal P w K mg base "_law_draws" 1 1 (F__law_draws Z) :=
  ⟨f, fd, ["script"], VL.Fun.okV F sc__law_draws (by decide) fun cdv A outer s H EX hr => d__law_draws TB TE  f cdv A outer s H EX hr, m, F.kp, b⟩
/-! _law_mix -/
abbrev s__law_mix : Stmt := top 35
theorem sc__law_mix : FnScope ["draws", "k", "many", "cell"] ["draws", "k", "many"] (defScope s__law_mix) := ⟨rfl, rfl, rfl, by decide +kernel, rfl, by decide +kernel, by decide +kernel⟩
def c__law_mix (Z : CE 20) : Cm W0 := (cSeq (cSet 3 (eC (.int 0))) (cSeq (cIf (tst (e2 gGt (eCl gLen (eCons (bP (pVar 0)) eNil)) (eC (.int 0)))) (cSet 3 (eP (pIx (pVar 0) (e2 gMod (eCl gInt (eCons (bP (pVar 1)) eNil)) (eCl gLen (eCons (bP (pVar 0)) eNil)))))) cNx) (cSeq (cIf (tst (e2 gLt (bP (pVar 1)) (eCl gLen (eCons (bP (pVar 0)) eNil)))) (cRet (e2 gMod (eCl gInt (eCons (bP (pVar 3)) eNil)) (bP (pVar 2)))) cNx) (cRet (e2 gMod (eCl gInt (eCons (e2 gDiv (eCl gInt (eCons (e2 gAdd (e2 gMul (bP (pVar 3)) (eC (.int 7919))) (e2 gMul (bP (pVar 1)) (eC (.int 104729)))) eNil)) (eC (.int 3))) eNil)) (bP (pVar 2)))))))
def F__law_mix (Z : CE 20) : Fv W0 := cDef0 4 (c__law_mix Z)
theorem d__law_mix (TB : Txt mg) {Z : CE 20} (TE : CEs P K mg ns 19 Z)  (f : Addr) (cdv : Value) (A : Around) (outer : List Env) (s : Shared) (H : Hp) (EX : XK) (hr : Room 0 (A.deeper (envOfC "_law_mix" (defScope s__law_mix) s.heap.objs.size f cdv))) :
    VSs W0 (cxV P w K mg base ["draws", "k", "many", "cell"] "_law_mix" (defScope s__law_mix) f cdv A outer s H EX) eN [0, 1, 2, 3] (defBody s__law_mix) (c__law_mix Z) := by
  have hu1 := hu_of hr
  have S := sc__law_mix
  exact (vss_cons (vs_set (by decide) S.nd ve_int) (vss_cons (vs_if (vt_cmp (vc_gt (vb_of (ve_len (by rfl) TB.len (vb_p (vp_var 0)))) (vb_of ve_int))) (vss_one (vs_set (by decide) S.nd (ve_p (vp_ix (vp_var 0) (ve_mod (vb_of (ve_intc (by rfl) TB.int (vb_p (vp_var 1)))) (vb_of (ve_len (by rfl) TB.len (vb_p (vp_var 0))))))))) vss_nil) (vss_cons (vs_if (vt_cmp (vc_lt (vb_p (vp_var 1)) (vb_of (ve_len (by rfl) TB.len (vb_p (vp_var 0)))))) (vss_one (vs_ret (ve_mod (vb_of (ve_intc (by rfl) TB.int (vb_p (vp_var 3)))) (vb_p (vp_var 2))))) vss_nil) (vss_one (vs_ret (ve_mod (vb_of (ve_intc (by rfl) TB.int (vb_of (ve_div (vb_of (ve_intc (by rfl) TB.int (vb_of (ve_add (vb_of (ve_mul (vb_p (vp_var 3)) (vb_of ve_int))) (vb_of (ve_mul (vb_p (vp_var 1)) (vb_of ve_int))))))) (vb_of ve_int))))) (vb_p (vp_var 2))))))))
theorem cal__law_mix (TB : Txt mg) {Z : CE 20} (TE : CEs P K mg ns 19 Z)  {f : Addr} {fd : FuncData} (F : Fun K "_law_mix" "_law_mix" s__law_mix f fd) (b : Binds K fd ["draws", "k", "many"] []) (m : mg "_law_mix" = some (.ref f)) : Cal P w K mg base "_law_mix" 1 3 (F__law_mix Z) :=
  ⟨f, fd, ["draws", "k", "many"], VL.Fun.okV F sc__law_mix (by decide) fun cdv A outer s H EX hr => d__law_mix TB TE  f cdv A outer s H EX hr, m, F.kp, b⟩
/-! _law_kinds -/
abbrev s__law_kinds : Stmt := top 36
theorem sc__law_kinds : FnScope ["e"] ["e"] (defScope s__law_kinds) := ⟨rfl, rfl, rfl, by decide +kernel, rfl, by decide +kernel, by decide +kernel⟩
def c__law_kinds (Z : CE 20) : Cm W0 := (cRetF (fLst (eCons (e1 (gIs (Z.isa 19 0)) (eP (pVar 0))) (eCons (e1 (gIs (Z.isa 19 1)) (eP (pVar 0))) (eCons (e1 (gIs (Z.isa 19 2)) (eP (pVar 0))) (eCons (e1 (gIs (Z.isa 19 3)) (eP (pVar 0))) (eCons (e1 (gIs (Z.isa 19 4)) (eP (pVar 0))) (eCons (e1 (gIs (Z.isa 19 5)) (eP (pVar 0))) (eCons (e1 (gIs (Z.isa 19 6)) (eP (pVar 0))) (eCons (e1 (gIs (Z.isa 19 7)) (eP (pVar 0))) (eCons (e1 (gIs (Z.isa 19 8)) (eP (pVar 0))) (eCons (e1 (gIs (Z.isa 19 9)) (eP (pVar 0))) (eCons (e1 (gIs (Z.isa 19 10)) (eP (pVar 0))) (eCons (e1 (gIs (Z.isa 19 11)) (eP (pVar 0))) (eCons (e1 (gIs (Z.isa 19 12)) (eP (pVar 0))) (eCons (e1 (gIs (Z.isa 19 13)) (eP (pVar 0))) (eCons (e1 (gIs (Z.isa 19 14)) (eP (pVar 0))) (eCons (e1 (gIs (Z.isa 19 15)) (eP (pVar 0))) (eCons (e1 (gIs (Z.isa 19 16)) (eP (pVar 0))) (eCons (e1 (gIs (Z.isa 19 17)) (eP (pVar 0))) (eCons (e1 (gIs (Z.isa 19 18)) (eP (pVar 0))) eNil)))))))))))))))))))))
def F__law_kinds (Z : CE 20) : Fv W0 := cDef0 1 (c__law_kinds Z)
theorem d__law_kinds (TB : Txt mg) {Z : CE 20} (TE : CEs P K mg ns 19 Z)  (f : Addr) (cdv : Value) (A : Around) (outer : List Env) (s : Shared) (H : Hp) (EX : XK) (hr : Room 0 (A.deeper (envOfC "_law_kinds" (defScope s__law_kinds) s.heap.objs.size f cdv))) :
    VSs W0 (cxV P w K mg base ["e"] "_law_kinds" (defScope s__law_kinds) f cdv A outer s H EX) eN [0] (defBody s__law_kinds) (c__law_kinds Z) := by
  have hu1 := hu_of hr
  have S := sc__law_kinds
  exact (vss_one (vs_retF (vf_lst (va_cons (ve_isE (TE.isa (j := 0) (by decide)) (cls_glob (by rfl) (TE.err 0 _ rfl).at_) (by rfl) TB.isinstance (ve_p (vp_var 0))) (va_cons (ve_isE (TE.isa (j := 1) (by decide)) (cls_glob (by rfl) (TE.err 1 _ rfl).at_) (by rfl) TB.isinstance (ve_p (vp_var 0))) (va_cons (ve_isE (TE.isa (j := 2) (by decide)) (cls_glob (by rfl) (TE.err 2 _ rfl).at_) (by rfl) TB.isinstance (ve_p (vp_var 0))) (va_cons (ve_isE (TE.isa (j := 3) (by decide)) (cls_glob (by rfl) (TE.err 3 _ rfl).at_) (by rfl) TB.isinstance (ve_p (vp_var 0))) (va_cons (ve_isE (TE.isa (j := 4) (by decide)) (cls_glob (by rfl) (TE.err 4 _ rfl).at_) (by rfl) TB.isinstance (ve_p (vp_var 0))) (va_cons (ve_isE (TE.isa (j := 5) (by decide)) (cls_glob (by rfl) (TE.err 5 _ rfl).at_) (by rfl) TB.isinstance (ve_p (vp_var 0))) (va_cons (ve_isE (TE.isa (j := 6) (by decide)) (cls_glob (by rfl) (TE.err 6 _ rfl).at_) (by rfl) TB.isinstance (ve_p (vp_var 0))) (va_cons (ve_isE (TE.isa (j := 7) (by decide)) (cls_glob (by rfl) (TE.err 7 _ rfl).at_) (by rfl) TB.isinstance (ve_p (vp_var 0))) (va_cons (ve_isE (TE.isa (j := 8) (by decide)) (cls_glob (by rfl) (TE.err 8 _ rfl).at_) (by rfl) TB.isinstance (ve_p (vp_var 0))) (va_cons (ve_isE (TE.isa (j := 9) (by decide)) (cls_glob (by rfl) (TE.err 9 _ rfl).at_) (by rfl) TB.isinstance (ve_p (vp_var 0))) (va_cons (ve_isE (TE.isa (j := 10) (by decide)) (cls_glob (by rfl) (TE.err 10 _ rfl).at_) (by rfl) TB.isinstance (ve_p (vp_var 0))) (va_cons (ve_isE (TE.isa (j := 11) (by decide)) (cls_glob (by rfl) (TE.err 11 _ rfl).at_) (by rfl) TB.isinstance (ve_p (vp_var 0))) (va_cons (ve_isE (TE.isa (j := 12) (by decide)) (cls_glob (by rfl) (TE.err 12 _ rfl).at_) (by rfl) TB.isinstance (ve_p (vp_var 0))) (va_cons (ve_isE (TE.isa (j := 13) (by decide)) (cls_glob (by rfl) (TE.err 13 _ rfl).at_) (by rfl) TB.isinstance (ve_p (vp_var 0))) (va_cons (ve_isE (TE.isa (j := 14) (by decide)) (cls_glob (by rfl) (TE.err 14 _ rfl).at_) (by rfl) TB.isinstance (ve_p (vp_var 0))) (va_cons (ve_isE (TE.isa (j := 15) (by decide)) (cls_glob (by rfl) (TE.err 15 _ rfl).at_) (by rfl) TB.isinstance (ve_p (vp_var 0))) (va_cons (ve_isE (TE.isa (j := 16) (by decide)) (cls_glob (by rfl) (TE.err 16 _ rfl).at_) (by rfl) TB.isinstance (ve_p (vp_var 0))) (va_cons (ve_isE (TE.isa (j := 17) (by decide)) (cls_glob (by rfl) (TE.err 17 _ rfl).at_) (by rfl) TB.isinstance (ve_p (vp_var 0))) (va_cons (ve_isE (TE.isa (j := 18) (by decide)) (cls_glob (by rfl) (TE.err 18 _ rfl).at_) (by rfl) TB.isinstance (ve_p (vp_var 0))) va_nil))))))))))))))))))))))
theorem cal__law_kinds (TB : Txt mg) {Z : CE 20} (TE : CEs P K mg ns 19 Z)  {f : Addr} {fd : FuncData} (F : Fun K "_law_kinds" "_law_kinds" s__law_kinds f fd) (b : Binds K fd ["e"] []) (m : mg "_law_kinds" = some (.ref f)) : Cal P w K mg base "_law_kinds" 1 1 (F__law_kinds Z) :=
  ⟨f, fd, ["e"], VL.Fun.okV F sc__law_kinds (by decide) fun cdv A outer s H EX hr => d__law_kinds TB TE  f cdv A outer s H EX hr, m, F.kp, b⟩
/-! _law_made -/
abbrev s__law_made : Stmt := top 37
theorem sc__law_made : FnScope ["n"] ["n"] (defScope s__law_made) := ⟨rfl, rfl, rfl, by decide +kernel, rfl, by decide +kernel, by decide +kernel⟩
def c__law_made (Z : CE 20) : Cm W0 := (cRetF (fLst (eCons (eNewE (Z.ce 0) (e2 gAdd (bP (pVar 0)) (eC (.int 0)))) (eCons (eNewE (Z.ce 1) (e2 gAdd (bP (pVar 0)) (eC (.int 1)))) (eCons (eNewE (Z.ce 2) (e2 gAdd (bP (pVar 0)) (eC (.int 2)))) (eCons (eNewE (Z.ce 3) (e2 gAdd (bP (pVar 0)) (eC (.int 3)))) (eCons (eNewE (Z.ce 4) (e2 gAdd (bP (pVar 0)) (eC (.int 4)))) (eCons (eNewE (Z.ce 5) (e2 gAdd (bP (pVar 0)) (eC (.int 5)))) (eCons (eNewE (Z.ce 6) (e2 gAdd (bP (pVar 0)) (eC (.int 6)))) (eCons (eNewE (Z.ce 7) (e2 gAdd (bP (pVar 0)) (eC (.int 7)))) (eCons (eNewE (Z.ce 8) (e2 gAdd (bP (pVar 0)) (eC (.int 8)))) (eCons (eNewE (Z.ce 9) (e2 gAdd (bP (pVar 0)) (eC (.int 9)))) (eCons (eNewE (Z.ce 10) (e2 gAdd (bP (pVar 0)) (eC (.int 10)))) (eCons (eNewE (Z.ce 11) (e2 gAdd (bP (pVar 0)) (eC (.int 11)))) (eCons (eNewE (Z.ce 12) (e2 gAdd (bP (pVar 0)) (eC (.int 12)))) (eCons (eNewE (Z.ce 13) (e2 gAdd (bP (pVar 0)) (eC (.int 13)))) (eCons (eNewE (Z.ce 14) (e2 gAdd (bP (pVar 0)) (eC (.int 14)))) (eCons (eNewE (Z.ce 15) (e2 gAdd (bP (pVar 0)) (eC (.int 15)))) (eCons (eNewE (Z.ce 16) (e2 gAdd (bP (pVar 0)) (eC (.int 16)))) (eCons (eNewE (Z.ce 17) (e2 gAdd (bP (pVar 0)) (eC (.int 17)))) (eCons (eNewE (Z.ce 18) (e2 gAdd (bP (pVar 0)) (eC (.int 18)))) eNil)))))))))))))))))))))
def F__law_made (Z : CE 20) : Fv W0 := cDef0 1 (c__law_made Z)
theorem d__law_made (TB : Txt mg) {Z : CE 20} (TE : CEs P K mg ns 19 Z)  (f : Addr) (cdv : Value) (A : Around) (outer : List Env) (s : Shared) (H : Hp) (EX : XK) (hr : Room 0 (A.deeper (envOfC "_law_made" (defScope s__law_made) s.heap.objs.size f cdv))) :
    VSs W0 (cxV P w K mg base ["n"] "_law_made" (defScope s__law_made) f cdv A outer s H EX) eN [0] (defBody s__law_made) (c__law_made Z) := by
  have hu1 := hu_of hr
  have S := sc__law_made
  exact (vss_one (vs_retF (vf_lst (va_cons (ve_newE (TE.err 0 _ rfl) hr (ve_add (vb_p (vp_var 0)) (vb_of ve_int))) (va_cons (ve_newE (TE.err 1 _ rfl) hr (ve_add (vb_p (vp_var 0)) (vb_of ve_int))) (va_cons (ve_newE (TE.err 2 _ rfl) hr (ve_add (vb_p (vp_var 0)) (vb_of ve_int))) (va_cons (ve_newE (TE.err 3 _ rfl) hr (ve_add (vb_p (vp_var 0)) (vb_of ve_int))) (va_cons (ve_newE (TE.err 4 _ rfl) hr (ve_add (vb_p (vp_var 0)) (vb_of ve_int))) (va_cons (ve_newE (TE.err 5 _ rfl) hr (ve_add (vb_p (vp_var 0)) (vb_of ve_int))) (va_cons (ve_newE (TE.err 6 _ rfl) hr (ve_add (vb_p (vp_var 0)) (vb_of ve_int))) (va_cons (ve_newE (TE.err 7 _ rfl) hr (ve_add (vb_p (vp_var 0)) (vb_of ve_int))) (va_cons (ve_newE (TE.err 8 _ rfl) hr (ve_add (vb_p (vp_var 0)) (vb_of ve_int))) (va_cons (ve_newE (TE.err 9 _ rfl) hr (ve_add (vb_p (vp_var 0)) (vb_of ve_int))) (va_cons (ve_newE (TE.err 10 _ rfl) hr (ve_add (vb_p (vp_var 0)) (vb_of ve_int))) (va_cons (ve_newE (TE.err 11 _ rfl) hr (ve_add (vb_p (vp_var 0)) (vb_of ve_int))) (va_cons (ve_newE (TE.err 12 _ rfl) hr (ve_add (vb_p (vp_var 0)) (vb_of ve_int))) (va_cons (ve_newE (TE.err 13 _ rfl) hr (ve_add (vb_p (vp_var 0)) (vb_of ve_int))) (va_cons (ve_newE (TE.err 14 _ rfl) hr (ve_add (vb_p (vp_var 0)) (vb_of ve_int))) (va_cons (ve_newE (TE.err 15 _ rfl) hr (ve_add (vb_p (vp_var 0)) (vb_of ve_int))) (va_cons (ve_newE (TE.err 16 _ rfl) hr (ve_add (vb_p (vp_var 0)) (vb_of ve_int))) (va_cons (ve_newE (TE.err 17 _ rfl) hr (ve_add (vb_p (vp_var 0)) (vb_of ve_int))) (va_cons (ve_newE (TE.err 18 _ rfl) hr (ve_add (vb_p (vp_var 0)) (vb_of ve_int))) va_nil))))))))))))))))))))))
theorem cal__law_made (TB : Txt mg) {Z : CE 20} (TE : CEs P K mg ns 19 Z)  {f : Addr} {fd : FuncData} (F : Fun K "_law_made" "_law_made" s__law_made f fd) (b : Binds K fd ["n"] []) (m : mg "_law_made" = some (.ref f)) : Cal P w K mg base "_law_made" 1 1 (F__law_made Z) :=
  ⟨f, fd, ["n"], VL.Fun.okV F sc__law_made (by decide) fun cdv A outer s H EX hr => d__law_made TB TE  f cdv A outer s H EX hr, m, F.kp, b⟩
/-! _law_raised -/
abbrev s__law_raised : Stmt := top 38
theorem sc__law_raised : FnScope ["many", "e"] ["many"] (defScope s__law_raised) := ⟨rfl, rfl, rfl, by decide +kernel, rfl, by decide +kernel, by decide +kernel⟩
def c__law_raised (Z : CE 20) : Cm W0 := (cSeq (cTry (Z.mat 19 19) 1 (cExpr (fCall 1 (F_first_state Z) (eCons (eP (pVar 0)) eNil))) (cRet (eP (pVar 1)))) (cRet (eC .non)))
def F__law_raised (Z : CE 20) : Fv W0 := cDef0 2 (c__law_raised Z)
theorem d__law_raised (TB : Txt mg) {Z : CE 20} (TE : CEs P K mg ns 19 Z) (C_first_state : CalX P w K mg base "first_state" 1 1 (F_first_state Z)) (f : Addr) (cdv : Value) (A : Around) (outer : List Env) (s : Shared) (H : Hp) (EX : XK) (hr : Room 1 (A.deeper (envOfC "_law_raised" (defScope s__law_raised) s.heap.objs.size f cdv))) :
    VSs W0 (cxV P w K mg base ["many", "e"] "_law_raised" (defScope s__law_raised) f cdv A outer s H EX) eN [0, 1] (defBody s__law_raised) (c__law_raised Z) := by
  have hu1 := hu_of hr
  have S := sc__law_raised
  exact (vss_cons (vs_try (by decide) (TE.mat (j := 19) (by decide)) (by rfl) (by rfl) (by rfl) S.nd (by rfl) (by rfl) ⟨by rfl, by decide, .inl (TE.err 19 _ rfl).at_⟩ (fun _ _ _ tk _ => (vss_one (vs_expr (vf_calX C_first_state tk (hr.mono (by decide)) (by rfl) (va_cons (ve_p (vp_var 0)) va_nil))))) (fun _ _ => (vss_one (vs_ret (ve_p (vp_var 1)))))) (vss_one (vs_ret ve_non)))
theorem cal__law_raised (TB : Txt mg) {Z : CE 20} (TE : CEs P K mg ns 19 Z) (C_first_state : CalX P w K mg base "first_state" 1 1 (F_first_state Z)) {f : Addr} {fd : FuncData} (F : Fun K "_law_raised" "_law_raised" s__law_raised f fd) (b : Binds K fd ["many"] []) (m : mg "_law_raised" = some (.ref f)) : Cal P w K mg base "_law_raised" 2 1 (F__law_raised Z) :=
  ⟨f, fd, ["many"], VL.Fun.okV F sc__law_raised (by decide) fun cdv A outer s H EX hr => d__law_raised TB TE C_first_state f cdv A outer s H EX hr, m, F.kp, b⟩
/-! law -/
abbrev s_law : Stmt := top 39
theorem sc_law : FnScope ["script", "draws", "number", "made", "k", "base", "many", "told", "t"] ["script"] (defScope s_law) := ⟨rfl, rfl, rfl, by decide +kernel, rfl, by decide +kernel, by decide +kernel⟩
def c_law (Z : CE 20) : Cm W0 := (cSeq (cSet 1 (eF (fCall 1 (F__law_draws Z) (eCons (eP (pVar 0)) eNil)))) (cSeq (cSet 2 (e2 gSub (eF (fCall 3 (F__law_mix Z) (eCons (eP (pVar 1)) (eCons (eC (.int 0)) (eCons (eC (.int 60000)) eNil))))) (eC (.int 30000)))) (cSeq (cSet 3 (eF (fCall 1 (F__law_made Z) (eCons (eP (pVar 2)) eNil)))) (cSeq (cFor (iR1 (eCl gLen (eCons (bP (pVar 3)) eNil))) (puN 4) (cSeq (cIf (tOrS (tNotS (tst (e1 (gIs (Z.isa 19 19)) (eP (pIx (pVar 3) (eP (pVar 4))))))) (tOrS (tNotS (tst (e1 (gIs Z.isV) (eP (pIx (pVar 3) (eP (pVar 4))))))) (tst (e2 gNe (e1 (gAt Z.fam) (eP (pIx (pVar 3) (eP (pVar 4))))) (e2 gAdd (bP (pVar 2)) (bP (pVar 4))))))) (cRet (eC (.bl false))) cNx) (cSeq (cIf (tst (e2 gNe (eF (fCall 1 (F__law_kinds Z) (eCons (eP (pIx (pVar 3) (eP (pVar 4)))) eNil))) (eF (fLc [8] (iR1 (eCl gLen (eCons (bP (pVar 3)) eNil))) (puN 8) tTrue (e2 gEq (bP (pVar 8)) (bP (pVar 4))))))) (cRet (eC (.bl false))) cNx) (cIf (tOrS (tst (e1 (gIsI false) (e1 (gAt Z.fam) (eP (pIx (pVar 3) (eP (pVar 4))))))) (tNotS (tst (e1 (gIsI true) (e1 (gAt Z.fam) (eP (pIx (pVar 3) (eP (pVar 4))))))))) (cRet (eC (.bl false))) cNx)))) (cSeq (cSet 5 (eNewE (Z.ce 19) (eP (pVar 2)))) (cSeq (cIf (tOrS (tst (e2 gNe (e1 (gAt Z.fam) (eP (pVar 5))) (bP (pVar 2)))) (tOrS (tst (e2 (gIn false) (eC (.bl true)) (eF (fCall 1 (F__law_kinds Z) (eCons (eP (pVar 5)) eNil))))) (tNotS (tst (e1 (gIs Z.isV) (eP (pVar 5))))))) (cRet (eC (.bl false))) cNx) (cSeq (cSet 6 (eP (pIx (pE (eF (fLst (eCons (eC (.int 0)) (eCons (eC (.int 17)) (eCons (eC (.int 99)) (eCons (e1 gNeg (eC (.int 30))) eNil))))))) (eF (fCall 3 (F__law_mix Z) (eCons (eP (pVar 1)) (eCons (eC (.int 1)) (eCons (eC (.int 4)) eNil)))))))) (cSeq (cSet 7 (eF (fCall 1 (F__law_raised Z) (eCons (eP (pVar 6)) eNil)))) (cRet (eAndV (e2 (gIsN true) (bP (pVar 7)) (eC .non)) (eAndV (e2 gEq (e1 (gAt Z.fam) (eP (pVar 7))) (bP (pVar 6))) (e2 gEq (eF (fCall 1 (F__law_kinds Z) (eCons (eP (pVar 7)) eNil))) (eF (fLc [8] (iR1 (eCl gLen (eCons (bP (pVar 3)) eNil))) (puN 8) tTrue (e2 gEq (bP (pVar 8)) (eC (.int 0)))))))))))))))))
def F_law (Z : CE 20) : Fv W0 := cDef0 9 (c_law Z)
theorem d_law (TB : Txt mg) {Z : CE 20} (TE : CEs P K mg ns 19 Z) (C__law_draws : Cal P w K mg base "_law_draws" 1 1 (F__law_draws Z)) (C__law_mix : Cal P w K mg base "_law_mix" 1 3 (F__law_mix Z)) (C__law_made : Cal P w K mg base "_law_made" 1 1 (F__law_made Z)) (C__law_kinds : Cal P w K mg base "_law_kinds" 1 1 (F__law_kinds Z)) (C__law_raised : Cal P w K mg base "_law_raised" 2 1 (F__law_raised Z)) (f : Addr) (cdv : Value) (s : Shared) (H : Hp) (EX : XK) (hr : Room 2 (callerA.deeper (envOfC "law" (defScope s_law) s.heap.objs.size f cdv))) :
    VSs W0 (cxV P w K mg base ["script", "draws", "number", "made", "k", "base", "many", "told", "t"] "law" (defScope s_law) f cdv callerA [] s H EX) eN [0, 1, 2, 3, 4, 5, 6, 7] (defBody s_law) (c_law Z) := by
  have hu1 := hu_of hr
  have S := sc_law
  exact (vss_cons (vs_set (by decide) S.nd (ve_f (vf_cal C__law_draws (hr.mono (by decide)) (by rfl) (va_cons (ve_p (vp_var 0)) va_nil)))) (vss_cons (vs_set (by decide) S.nd (ve_sub (vb_of (ve_f (vf_cal C__law_mix (hr.mono (by decide)) (by rfl) (va_cons (ve_p (vp_var 1)) (va_cons ve_int (va_cons ve_int va_nil)))))) (vb_of ve_int))) (vss_cons (vs_set (by decide) S.nd (ve_f (vf_cal C__law_made (hr.mono (by decide)) (by rfl) (va_cons (ve_p (vp_var 2)) va_nil)))) (vss_cons (vs_for PassesOwn.never (by rfl) (vi_r1 (U := []) (by rfl) TB.range (ve_len (by rfl) TB.len (vb_p (vp_var 3)))) (vg_name (by decide) S.nd) (vss_cons (vs_if (vt_w (vw_or (vt_not (vt_of (ve_isE (TE.isa (j := 19) (by decide)) (cls_glob (by rfl) (TE.err 19 _ rfl).at_) (by rfl) TB.isinstance (ve_p (vp_ix (vp_var 3) (ve_p (vp_var 4))))))) (vw_or (vt_not (vt_of (ve_isE TE.isV (cls_bltn (by rfl) TB.ValueError (by decide +kernel)) (by rfl) TB.isinstance (ve_p (vp_ix (vp_var 3) (ve_p (vp_var 4))))))) (vw_or1 (vt_cmp (vc_ne hr.units (vb_of (ve_at TE.fam (ve_p (vp_ix (vp_var 3) (ve_p (vp_var 4)))))) (vb_of (ve_add (vb_p (vp_var 2)) (vb_p (vp_var 4)))))))))) (vss_one (vs_ret ve_bl)) vss_nil) (vss_cons (vs_if (vt_cmp (vc_ne hr.units (vb_of (ve_f (vf_cal C__law_kinds (hr.mono (by decide)) (by rfl) (va_cons (ve_p (vp_ix (vp_var 3) (ve_p (vp_var 4)))) va_nil)))) (vb_of (ve_f (vf_lc (by rfl) S.nd (blkOk_by (N := ["script", "draws", "number", "made", "k", "base", "many", "told", "t"]) (sc := defScope s_law) (own := [("t", 8)]) (by decide +kernel)) (by rfl) (vi_r1 (U := []) (by rfl) TB.range (ve_len (by rfl) TB.len (vb_p (vp_var 3)))) (fun _ _ _ _ _ => (vg_name (by decide) S.nd)) (fun _ _ _ _ _ => vts_nil) (fun _ _ _ _ _ => (ve_cmp (vc_eq hr.units (vb_p (vp_var 8)) (vb_p (vp_var 4)))))))))) (vss_one (vs_ret ve_bl)) vss_nil) (vss_one (vs_if (vt_w (vw_or (vt_of (ve_isI (t := "bool") (by first | rfl | decide +kernel) (cls_bltn (by rfl) TB.bool (by decide +kernel)) (by rfl) TB.isinstance (ve_at TE.fam (ve_p (vp_ix (vp_var 3) (ve_p (vp_var 4))))))) (vw_or1 (vt_not (vt_of (ve_isI (t := "int") (by first | rfl | decide +kernel) (cls_bltn (by rfl) TB.int (by decide +kernel)) (by rfl) TB.isinstance (ve_at TE.fam (ve_p (vp_ix (vp_var 3) (ve_p (vp_var 4))))))))))) (vss_one (vs_ret ve_bl)) vss_nil)))) (by decide)) (vss_cons (vs_set (by decide) S.nd (ve_newE (TE.err 19 _ rfl) hr (ve_p (vp_var 2)))) (vss_cons (vs_if (vt_w (vw_or (vt_cmp (vc_ne hr.units (vb_of (ve_at TE.fam (ve_p (vp_var 5)))) (vb_p (vp_var 2)))) (vw_or (vt_cmp (vc_in hr.units (vb_of ve_bl) (vb_of (ve_f (vf_cal C__law_kinds (hr.mono (by decide)) (by rfl) (va_cons (ve_p (vp_var 5)) va_nil)))))) (vw_or1 (vt_not (vt_of (ve_isE TE.isV (cls_bltn (by rfl) TB.ValueError (by decide +kernel)) (by rfl) TB.isinstance (ve_p (vp_var 5))))))))) (vss_one (vs_ret ve_bl)) vss_nil) (vss_cons (vs_set (by decide) S.nd (ve_p (vp_ix (vp_f (vf_lst (va_cons ve_int (va_cons ve_int (va_cons ve_int (va_cons (ve_neg (vb_of ve_int)) va_nil)))))) (ve_f (vf_cal C__law_mix (hr.mono (by decide)) (by rfl) (va_cons (ve_p (vp_var 1)) (va_cons ve_int (va_cons ve_int va_nil)))))))) (vss_cons (vs_set (by decide) S.nd (ve_f (vf_cal C__law_raised (hr.mono (by decide)) (by rfl) (va_cons (ve_p (vp_var 6)) va_nil)))) (vss_one (vs_ret (ve_and (ve_cmp (vc_notN (vb_p (vp_var 7)))) (ve_and (ve_cmp (vc_eq hr.units (vb_of (ve_at TE.fam (ve_p (vp_var 7)))) (vb_p (vp_var 6)))) (ve_one (ve_cmp (vc_eq hr.units (vb_of (ve_f (vf_cal C__law_kinds (hr.mono (by decide)) (by rfl) (va_cons (ve_p (vp_var 7)) va_nil)))) (vb_of (ve_f (vf_lc (by rfl) S.nd (blkOk_by (N := ["script", "draws", "number", "made", "k", "base", "many", "told", "t"]) (sc := defScope s_law) (own := [("t", 8)]) (by decide +kernel)) (by rfl) (vi_r1 (U := []) (by rfl) TB.range (ve_len (by rfl) TB.len (vb_p (vp_var 3)))) (fun _ _ _ _ _ => (vg_name (by decide) S.nd)) (fun _ _ _ _ _ => vts_nil) (fun _ _ _ _ _ => (ve_cmp (vc_eq hr.units (vb_p (vp_var 8)) (vb_of ve_int))))))))))))))))))))))
theorem top_law (TB : Txt mg) {Z : CE 20} (TE : CEs P K mg ns 19 Z) (C__law_draws : Cal P w K mg base "_law_draws" 1 1 (F__law_draws Z)) (C__law_mix : Cal P w K mg base "_law_mix" 1 3 (F__law_mix Z)) (C__law_made : Cal P w K mg base "_law_made" 1 1 (F__law_made Z)) (C__law_kinds : Cal P w K mg base "_law_kinds" 1 1 (F__law_kinds Z)) (C__law_raised : Cal P w K mg base "_law_raised" 2 1 (F__law_raised Z)) {f : Addr} {fd : FuncData} (F : Fun K "law" "law" s_law f fd) (hr : Room 3 callerA) : TopRun P w K mg base f fd "script" (VSp W0 K 1 (F_law Z)) :=
  VL.Fun.topV F sc_law (by decide) hr fun cdv s H EX hr => d_law TB TE C__law_draws C__law_mix C__law_made C__law_kinds C__law_raised f cdv s H EX hr
end
end K00

/-! K00m: what the law of k00 answers. -/
namespace K00
open PySem PySem.Spec PyProof.Rows L2 VL
variable {u : W0.S} (Z : CE 20)
def made (n : Int) : List Val := (List.range 19).map fun i => .err (Z.ce i) (n + (i : Nat))
def kinds (i : Nat) : List Bool := (List.range 19).map fun j => i == j
theorem made_run (n : Int) : F__law_made Z [.int n] u = .ok (.oL (made Z n)) u := by
  have z : 19 ≤ sizeLine := by rw [sizeLine_eq]; omega
  have e : made Z n = [.err (Z.ce 0) (n + 0), .err (Z.ce 1) (n + 1), .err (Z.ce 2) (n + 2), .err (Z.ce 3) (n + 3), .err (Z.ce 4) (n + 4), .err (Z.ce 5) (n + 5), .err (Z.ce 6) (n + 6), .err (Z.ce 7) (n + 7), .err (Z.ce 8) (n + 8), .err (Z.ce 9) (n + 9), .err (Z.ce 10) (n + 10), .err (Z.ce 11) (n + 11), .err (Z.ce 12) (n + 12), .err (Z.ce 13) (n + 13), .err (Z.ce 14) (n + 14), .err (Z.ce 15) (n + 15), .err (Z.ce 16) (n + 16), .err (Z.ce 17) (n + 17), .err (Z.ce 18) (n + 18)] := rfl
  rw [e]
  unfold F__law_made c__law_made cDef0 cDef
  simp [enter, small, z]
theorem kinds_run {i : Nat} (h : i < 20) (n : Int) : F__law_kinds Z [.err (Z.ce i) n] u = .ok (.oL ((kinds i).map .bl)) u := by
  have z : 19 ≤ sizeLine := by rw [sizeLine_eq]; omega
  have e : (kinds i).map Val.bl = [.bl (i == 0), .bl (i == 1), .bl (i == 2), .bl (i == 3), .bl (i == 4), .bl (i == 5), .bl (i == 6), .bl (i == 7), .bl (i == 8), .bl (i == 9), .bl (i == 10), .bl (i == 11), .bl (i == 12), .bl (i == 13), .bl (i == 14), .bl (i == 15), .bl (i == 16), .bl (i == 17), .bl (i == 18)] := rfl
  rw [e]
  unfold F__law_kinds c__law_kinds cDef0 cDef
  simp [enter, small, z, CE.isa_ce Z h]
theorem first_run {m : Int} (h : ¬ (1 ≤ m ∧ m ≤ 16)) : F_first_state Z [.int m] u = .exc (Z.ce 0) m u := by
  unfold F_first_state c_first_state cDef
  by_cases h1 : 1 ≤ m
  · have h2 : ¬ m ≤ 16 := fun z => h ⟨h1, z⟩
    simp [enter, h1, h2]
  · simp [enter, h1]
theorem raised_run {m : Int} (h : ¬ (1 ≤ m ∧ m ≤ 16)) : F__law_raised Z [.int m] u = .ok (.sh (.err (Z.ce 0) m)) u := by
  have e := first_run Z (u := u) h
  unfold F__law_raised c__law_raised cDef0 cDef
  simp [enter, e, CE.mat_ce Z (i := 0) (by decide : 0 < 20)]
end K00

/-! K00t: the law's parts, by name (printed). -/
namespace K00
open PySem PySem.Spec PyProof.Rows L2 VL
def tBody (Z : CE 20) : Cm W0 := (cSeq (cIf (tOrS (tNotS (tst (e1 (gIs (Z.isa 19 19)) (eP (pIx (pVar 3) (eP (pVar 4))))))) (tOrS (tNotS (tst (e1 (gIs Z.isV) (eP (pIx (pVar 3) (eP (pVar 4))))))) (tst (e2 gNe (e1 (gAt Z.fam) (eP (pIx (pVar 3) (eP (pVar 4))))) (e2 gAdd (bP (pVar 2)) (bP (pVar 4))))))) (cRet (eC (.bl false))) cNx) (cSeq (cIf (tst (e2 gNe (eF (fCall 1 (F__law_kinds Z) (eCons (eP (pIx (pVar 3) (eP (pVar 4)))) eNil))) (eF (fLc [8] (iR1 (eCl gLen (eCons (bP (pVar 3)) eNil))) (puN 8) tTrue (e2 gEq (bP (pVar 8)) (bP (pVar 4))))))) (cRet (eC (.bl false))) cNx) (cIf (tOrS (tst (e1 (gIsI false) (e1 (gAt Z.fam) (eP (pIx (pVar 3) (eP (pVar 4))))))) (tNotS (tst (e1 (gIsI true) (e1 (gAt Z.fam) (eP (pIx (pVar 3) (eP (pVar 4))))))))) (cRet (eC (.bl false))) cNx)))
def tFin (Z : CE 20) : Cm W0 := (cSeq (cSet 5 (eNewE (Z.ce 19) (eP (pVar 2)))) (cSeq (cIf (tOrS (tst (e2 gNe (e1 (gAt Z.fam) (eP (pVar 5))) (bP (pVar 2)))) (tOrS (tst (e2 (gIn false) (eC (.bl true)) (eF (fCall 1 (F__law_kinds Z) (eCons (eP (pVar 5)) eNil))))) (tNotS (tst (e1 (gIs Z.isV) (eP (pVar 5))))))) (cRet (eC (.bl false))) cNx) (cSeq (cSet 6 (eP (pIx (pE (eF (fLst (eCons (eC (.int 0)) (eCons (eC (.int 17)) (eCons (eC (.int 99)) (eCons (e1 gNeg (eC (.int 30))) eNil))))))) (eF (fCall 3 (F__law_mix Z) (eCons (eP (pVar 1)) (eCons (eC (.int 1)) (eCons (eC (.int 4)) eNil)))))))) (cSeq (cSet 7 (eF (fCall 1 (F__law_raised Z) (eCons (eP (pVar 6)) eNil)))) (cRet (eAndV (e2 (gIsN true) (bP (pVar 7)) (eC .non)) (eAndV (e2 gEq (e1 (gAt Z.fam) (eP (pVar 7))) (bP (pVar 6))) (e2 gEq (eF (fCall 1 (F__law_kinds Z) (eCons (eP (pVar 7)) eNil))) (eF (fLc [8] (iR1 (eCl gLen (eCons (bP (pVar 3)) eNil))) (puN 8) tTrue (e2 gEq (bP (pVar 8)) (eC (.int 0)))))))))))))
theorem law_parts (Z : CE 20) : c_law Z = (cSeq (cSet 1 (eF (fCall 1 (F__law_draws Z) (eCons (eP (pVar 0)) eNil)))) (cSeq (cSet 2 (e2 gSub (eF (fCall 3 (F__law_mix Z) (eCons (eP (pVar 1)) (eCons (eC (.int 0)) (eCons (eC (.int 60000)) eNil))))) (eC (.int 30000)))) (cSeq (cSet 3 (eF (fCall 1 (F__law_made Z) (eCons (eP (pVar 2)) eNil)))) (cSeq (cFor (iR1 (eCl gLen (eCons (bP (pVar 3)) eNil))) (puN 4) (tBody Z)) (tFin Z))))) := rfl
end K00

/-! K00n: what the law of k00 answers. -/
namespace K00
open PySem PySem.Spec PyProof.Rows L2 VL
variable {u : W0.S} (Z : CE 20)
theorem ix_made {k : Nat} (h : k < 19) (n : Int) : ixO (.sh (.lst (made Z n))) (.int (k : Int)) = some (.sh (.err (Z.ce k) (n + (k : Int)))) := by
  show (atI (made Z n) (k : Int)).map OT.sh = _
  unfold made
  rw [atI_map (by rw [List.length_range]; exact h)]
  simp
theorem len_made (n : Int) : (made Z n).length = 19 := by unfold made; rw [List.length_map, List.length_range]
theorem row_run {a0 a1 a2 a3 a4 a5 a6 a7 : Option OT} {f : Ev W0} {g : Int → Bool} (hf : ∀ t : Int, f [a0, a1, a2, a3, a4, a5, a6, a7, some (.sh (.int t))] u = .ok (.bl (g t)) u) :
    compS [a0, a1, a2, a3, a4, a5, a6, a7, none] [8] (puN 8) tTrue f (rngI 0 19) [] u = (.ok (.oL (((List.range 19).map fun t => g (t : Nat)).map .bl)) u : R W0.S OT) := by
  have e := compS_map (W := W0) (ρ := [a0, a1, a2, a3, a4, a5, a6, a7, none]) (vs := [8]) (i := 8) (t := tTrue) (f := f) (s := u) (fun _ => true) (fun v => match v with | .int t => .bl (g t) | _ => .non) (xs := rngI 0 19) (acc := []) (fun _ _ => rfl) (fun x hx _ => by
      unfold rngI at hx
      obtain ⟨t, _, rfl⟩ := List.mem_map.mp hx
      exact hf _) (by rw [sizeLine_eq]; unfold rngI; simp)
  rw [e]
  congr 2
theorem turn_run {n : Int} {k : Nat} (h : k < 19) {a0 a1 : Option OT} {b4 : Option OT} :
    tBody Z [a0, a1, some (.sh (.int n)), some (.sh (.lst (made Z n))), some (.sh (.int (k : Int))), none, none, none, none] u = .nx [a0, a1, some (.sh (.int n)), some (.sh (.lst (made Z n))), some (.sh (.int (k : Int))), none, none, none, none] u := by
  have hk : k < 20 := by omega
  have e1 := ix_made Z h n
  have k2 := kinds_run Z (u := u) hk (n + (k : Int))
  have e3 := row_run (u := u) (a0 := a0) (a1 := a1) (a2 := some (.sh (.int n))) (a3 := some (.sh (.lst (made Z n)))) (a4 := some (.sh (.int (k : Int)))) (a5 := none) (a6 := none) (a7 := none)
    (f := e2 gEq (bP (pVar 8)) (bP (pVar 4))) (g := fun t => decide (t = (k : Int))) (fun t => by simp [gEq_int])
  have e4 : kinds k = (List.range 19).map fun t => decide (((t : Nat) : Int) = (k : Int)) := by
    unfold kinds
    refine List.map_congr_left fun t _ => ?_
    rw [Bool.eq_iff_iff]
    simp only [beq_iff_eq, decide_eq_true_eq]
    omega
  have e5 := gNe_bls (kinds k) (kinds k)
  have e6 : gNe (.int (n + (k : Int))) (.int (n + (k : Int))) = some (.bl false) := by
    rw [gNe_cn (n := 0) (by omega) rfl rfl]; simp
  have l19 := len_made Z n
  have s62 : small62 19 = true := by decide
  rw [← e4] at e3
  rw [decide_eq_true rfl] at e5
  generalize hM : made Z n = M at e1 e3 l19 ⊢
  generalize hKs : (kinds k).map Val.bl = Ks at k2 e3 e5
  unfold tBody
  simp [e1, k2, e3, e5, e6, l19, s62, CE.isa_ce Z hk, CE.isV_ce Z hk, CE.fam_ce Z hk]
theorem mix {ds : List Int} (hd : Dr ds) {k m : Int} (hk : 0 ≤ k) (hk2 : k < 10 ^ 9) (hm : 0 < m) : ∃ r : Int, 0 ≤ r ∧ r < m ∧ F__law_mix Z [.lst (ds.map .int), .int k, .int m] u = .ok (.sh (.int r)) u := mix_run hd hk hk2 hm
theorem fin_run {n : Int} {ds : List Int} (hd : Dr ds) {a0 : Option OT} {b4 : Option OT} :
    tFin Z [a0, some (.sh (.lst (ds.map .int))), some (.sh (.int n)), some (.sh (.lst (made Z n))), b4, none, none, none, none] u = .rt (.sh (.bl true)) u := by
  obtain ⟨r, r0, r1, er⟩ := mix Z (u := u) hd (k := 1) (m := 4) (by decide) (by decide) (by decide)
  obtain ⟨m, hm, ix⟩ : ∃ m : Int, ¬ (1 ≤ m ∧ m ≤ 16) ∧ ixO (.sh (.lst [.int 0, .int 17, .int 99, .int (-30)])) (.int r) = some (.sh (.int m)) := by
    have h : r = 0 ∨ r = 1 ∨ r = 2 ∨ r = 3 := by omega
    rcases h with rfl | rfl | rfl | rfl
    · exact ⟨0, by omega, rfl⟩
    · exact ⟨17, by omega, rfl⟩
    · exact ⟨99, by omega, rfl⟩
    · exact ⟨-30, by omega, rfl⟩
  have h20 : 19 < 20 := by omega
  have h0 : 0 < 20 := by omega
  have kb := kinds_run Z (u := u) h20 n
  have k0 := kinds_run Z (u := u) h0 m
  have er2 := raised_run Z (u := u) hm
  have g1 : gNe (.int n) (.int n) = some (.bl false) := by
    rw [gNe_cn (n := 0) (by omega) rfl rfl]; simp
  have g2 : gIn false (.bl true) (.lst ((kinds 19).map .bl)) = some (.bl false) := by rw [gIn_bls, decide_eq_false (by decide)]
  have e3 := row_run (u := u) (a0 := a0) (a1 := some (.sh (.lst (ds.map .int)))) (a2 := some (.sh (.int n))) (a3 := some (.sh (.lst (made Z n)))) (a4 := b4) (a5 := some (.sh (.err (Z.ce 19) n))) (a6 := some (.sh (.int m))) (a7 := some (.sh (.err (Z.ce 0) m)))
    (f := e2 gEq (bP (pVar 8)) (eC (.int 0))) (g := fun t => decide (t = 0)) (fun t => by simp [gEq_int])
  have e4 : kinds 0 = (List.range 19).map fun t => decide (((t : Nat) : Int) = 0) := by decide
  have e5 := gEq_bls (kinds 0) (kinds 0)
  rw [decide_eq_true rfl] at e5
  rw [← e4] at e3
  have l19 := len_made Z n
  have s62 : small62 19 = true := by decide
  have z4 : 4 ≤ sizeLine := by rw [sizeLine_eq]; omega
  generalize hM : made Z n = M at e3 l19 ⊢
  generalize hD : ds.map Val.int = D at er e3 ⊢
  generalize hKs : (kinds 0).map Val.bl = Ks at k0 e3 e5
  generalize hKb : (kinds 19).map Val.bl = Kb at kb g2
  unfold tFin
  simp [kb, k0, er, er2, ix, g1, g2, e3, e5, l19, s62, small, z4, gEq_int, CE.isV_ce Z h20, CE.fam_ce Z h20, CE.fam_ce Z h0, Val.isN]
theorem law_run (ns : List Int) : F_law Z [.wlst (ns.map .int)] u = .ok (.sh (.bl true)) u := by
  obtain ⟨ds, hd, e1⟩ := draws_run (W := W0) (u := u) ns
  have e1 : F__law_draws Z [.wlst (ns.map .int)] u = .ok (.oL (ds.map .int)) u := e1
  obtain ⟨c, c0, c1, em⟩ := mix Z (u := u) hd (k := 0) (m := 60000) (by decide) (by decide) (by decide)
  have mr := made_run Z (u := u) (c - 30000)
  have l19 := len_made Z (c - 30000)
  have s62 : small62 19 = true := by decide
  obtain ⟨ρ2, s2, row, rfl, ⟨b4, rfl⟩, _⟩ := forS_inv (W := W0) (p := puN 4) (b := tBody Z) (fun i ρ s => u = s ∧ (∃ b4, ρ = [some (.sh (.wlst (ns.map .int))), some (.sh (.lst (ds.map .int))), some (.sh (.int (c - 30000))), some (.sh (.lst (made Z (c - 30000)))), b4, none, none, none, none]) ∧ True)
    (xs := rngI 0 19) (n := 0) (ρ := [some (.sh (.wlst (ns.map .int))), some (.sh (.lst (ds.map .int))), some (.sh (.int (c - 30000))), some (.sh (.lst (made Z (c - 30000)))), none, none, none, none, none]) (s := u)
    ⟨rfl, ⟨none, rfl⟩, trivial⟩ (by
      rintro i x ρ s hx ⟨rfl, ⟨b4, rfl⟩, _⟩
      unfold rngI at hx
      rw [List.getElem?_map] at hx
      have hi : i < 19 := by
        by_cases h : i < 19
        · exact h
        · rw [List.getElem?_eq_none (by rw [List.length_range]; omega)] at hx
          cases hx
      rw [List.getElem?_range hi] at hx
      have hx : x = .int (i : Int) := by
        have := (Option.some.inj hx).symm
        rw [this]; simp
      subst hx
      exact ⟨_, rfl, _, u, .inl (turn_run Z (u := u) hi (b4 := b4)), rfl, ⟨_, rfl⟩, trivial⟩)
  have fr := fin_run Z (u := u) (n := c - 30000) hd (a0 := some (.sh (.wlst (ns.map .int)))) (b4 := b4)
  unfold F_law cDef0 cDef
  rw [law_parts]
  generalize hM : made Z (c - 30000) = M at mr l19 row fr
  generalize hD : ds.map Val.int = D at e1 em row fr
  generalize hN : ns.map Val.int = N at e1 row fr
  simp [enter, e1, em, mr, l19, s62, row, fr]
end K00

/-! The head: what the top has written (printed by genhead.py). -/
namespace K00
open PySem PySem.Spec PyProof.Rows L2 VL PySem.W PySem.HandSPX
theorem all_mk {l : PySem.W.OpenLaw} {w : World} {K : PySem.W.Frag} {h : Heap} {mg : Str → Option Value} {fa f1 f2 f3 f4 f5 f6 f7 : Addr} {D fI xcc xcd : Addr} {E0 E1 E2 E3 E4 E5 E6 E7 E8 E9 E10 E11 E12 E13 E14 E15 E16 E17 E18 : Addr} {xp1 xp2 xp0 xr1 xr2 xr3 xr4 xr5 xq1 xq2 xq3 xq4 : Pos} {xod xan xcdd xcld : Option Addr} {xsl xccs xcsl : Array (Option Value)} {xvs : Array Value} {xoc xdc xpm xct xccl xcl : Value} {xfile : Str} {xtf : Tok} {eq0 eq1 eq2 eq3 eq4 eq5 eq6 eq7 eq8 eq9 eq10 eq11 eq12 eq13 eq14 eq15 eq16 eq17 eq18 eq19 : Str} {eN0 eN1 eN2 eN3 eN4 eN5 eN6 eN7 eN8 eN9 eN10 eN11 eN12 eN13 eN14 eN15 eN16 eN17 eN18 eN19 : Addr} {eb0 es0 eb1 es1 eb2 es2 eb3 es3 eb4 es4 eb5 es5 eb6 es6 eb7 es7 eb8 es8 eb9 es9 eb10 es10 eb11 es11 eb12 es12 eb13 es13 eb14 es14 eb15 es15 eb16 es16 eb17 es17 eb18 es18 eb19 es19 : List Value} {en0 en1 en2 en3 en4 en5 en6 en7 en8 en9 en10 en11 en12 en13 en14 en15 en16 en17 en18 en19 : List Str} {ev0 ev1 ev2 ev3 ev4 ev5 ev6 ev7 ev8 ev9 ev10 ev11 ev12 ev13 ev14 ev15 ev16 ev17 ev18 ev19 : Bool} {eo0 eo1 eo2 eo3 eo4 eo5 eo6 eo7 eo8 eo9 eo10 eo11 eo12 eo13 eo14 eo15 eo16 eo17 eo18 eo19 : Option Bool} {ed0 ed1 ed2 ed3 ed4 ed5 ed6 ed7 ed8 ed9 ed10 ed11 ed12 ed13 ed14 ed15 ed16 ed17 ed18 ed19 : Option Addr} {eka0 ekb0 ekc0 ekd0 eke0 eka1 ekb1 ekc1 ekd1 eke1 eka2 ekb2 ekc2 ekd2 eke2 eka3 ekb3 ekc3 ekd3 eke3 eka4 ekb4 ekc4 ekd4 eke4 eka5 ekb5 ekc5 ekd5 eke5 eka6 ekb6 ekc6 ekd6 eke6 eka7 ekb7 ekc7 ekd7 eke7 eka8 ekb8 ekc8 ekd8 eke8 eka9 ekb9 ekc9 ekd9 eke9 eka10 ekb10 ekc10 ekd10 eke10 eka11 ekb11 ekc11 ekd11 eke11 eka12 ekb12 ekc12 ekd12 eke12 eka13 ekb13 ekc13 ekd13 eke13 eka14 ekb14 ekc14 ekd14 eke14 eka15 ekb15 ekc15 ekd15 eke15 eka16 ekb16 ekc16 ekd16 eke16 eka17 ekb17 ekc17 ekd17 eke17 eka18 ekb18 ekc18 ekd18 eke18 eka19 ekb19 ekc19 ekd19 eke19 : Option Value} {gt_MOST_PROGRAMS : Tok} (X : K.In h) (G : h.Ns mainGlobals mg) (hfa : mg "law" = some (.ref fa))
    {od1 an1 od2 an2 od3 an3 od4 an4 od5 an5 od6 an6 od7 an7 : Option Addr} {sl1 sl2 sl3 sl4 sl5 sl6 sl7 : Array (Option Value)} {oc1 kV1 dc1 pm1 cd1 ct1 oc2 kV2 dc2 pm2 cd2 ct2 oc3 kV3 dc3 pm3 cd3 ct3 oc4 kV4 dc4 pm4 cd4 ct4 oc5 kV5 dc5 pm5 cd5 ct5 oc6 kV6 dc6 pm6 cd6 ct6 oc7 kV7 dc7 pm7 cd7 ct7 : Value}
    (a1 : PySem.W.nsIn K mainGlobals "first_state" = some (some (.ref f1))) (l1 : K.lookup f1 = some ⟨oc1, od1, .func (PySem.W.fnOf "first_state" "first_state" (defArgs s_first_state) (defBody s_first_state) (defScope s_first_state) .none kV1 dc1 pm1 an1 cd1 ct1), sl1⟩) (c1 : PySem.W.codeIn K cd1 "first_state" = true) (k1 : PySem.W.keepIn K (.ref f1) = true)
    (a2 : PySem.W.nsIn K mainGlobals "_law_draws" = some (some (.ref f2))) (l2 : K.lookup f2 = some ⟨oc2, od2, .func (PySem.W.fnOf "_law_draws" "_law_draws" (defArgs s__law_draws) (defBody s__law_draws) (defScope s__law_draws) .none kV2 dc2 pm2 an2 cd2 ct2), sl2⟩) (c2 : PySem.W.codeIn K cd2 "_law_draws" = true) (k2 : PySem.W.keepIn K (.ref f2) = true)
    (a3 : PySem.W.nsIn K mainGlobals "_law_mix" = some (some (.ref f3))) (l3 : K.lookup f3 = some ⟨oc3, od3, .func (PySem.W.fnOf "_law_mix" "_law_mix" (defArgs s__law_mix) (defBody s__law_mix) (defScope s__law_mix) .none kV3 dc3 pm3 an3 cd3 ct3), sl3⟩) (c3 : PySem.W.codeIn K cd3 "_law_mix" = true) (k3 : PySem.W.keepIn K (.ref f3) = true)
    (a4 : PySem.W.nsIn K mainGlobals "_law_kinds" = some (some (.ref f4))) (l4 : K.lookup f4 = some ⟨oc4, od4, .func (PySem.W.fnOf "_law_kinds" "_law_kinds" (defArgs s__law_kinds) (defBody s__law_kinds) (defScope s__law_kinds) .none kV4 dc4 pm4 an4 cd4 ct4), sl4⟩) (c4 : PySem.W.codeIn K cd4 "_law_kinds" = true) (k4 : PySem.W.keepIn K (.ref f4) = true)
    (a5 : PySem.W.nsIn K mainGlobals "_law_made" = some (some (.ref f5))) (l5 : K.lookup f5 = some ⟨oc5, od5, .func (PySem.W.fnOf "_law_made" "_law_made" (defArgs s__law_made) (defBody s__law_made) (defScope s__law_made) .none kV5 dc5 pm5 an5 cd5 ct5), sl5⟩) (c5 : PySem.W.codeIn K cd5 "_law_made" = true) (k5 : PySem.W.keepIn K (.ref f5) = true)
    (a6 : PySem.W.nsIn K mainGlobals "_law_raised" = some (some (.ref f6))) (l6 : K.lookup f6 = some ⟨oc6, od6, .func (PySem.W.fnOf "_law_raised" "_law_raised" (defArgs s__law_raised) (defBody s__law_raised) (defScope s__law_raised) .none kV6 dc6 pm6 an6 cd6 ct6), sl6⟩) (c6 : PySem.W.codeIn K cd6 "_law_raised" = true) (k6 : PySem.W.keepIn K (.ref f6) = true)
    (a7 : PySem.W.nsIn K mainGlobals "law" = some (some (.ref f7))) (l7 : K.lookup f7 = some ⟨oc7, od7, .func (PySem.W.fnOf "law" "law" (defArgs s_law) (defBody s_law) (defScope s_law) .none kV7 dc7 pm7 an7 cd7 ct7), sl7⟩) (c7 : PySem.W.codeIn K cd7 "law" = true) (k7 : PySem.W.keepIn K (.ref f7) = true)
    (ea0 : PySem.W.nsIn K mainGlobals "OutOfRange" = some (some (.ref E0))) (el0 : K.lookup E0 = some (excClassObj "OutOfRange" eq0 E0 eN0 eb0 [.ref D, .type "ValueError", .type "Exception", .type "BaseException", .type "object"] true en0 es0 ev0 eo0 ed0 eka0 ekb0 ekc0 ekd0 eke0 "ValueError.__new__")) (esa0 : PySem.W.findIn K (.ref E0) "__setattr__" = some (some (.builtin "object.__setattr__"))) (ega0 : PySem.W.findIn K (.ref E0) "__getattribute__" = some (some (.builtin "BaseException.__getattribute__"))) (egg0 : PySem.W.findIn K (.ref E0) "__getattr__" = some none) (enb0 : PySem.W.findIn K (.ref E0) "at" = some none) (eca0 : PySem.W.findIn K (.ref E0) "__class__" = some (some (.builtin "object.__class__"))) (ei0 : PySem.W.findIn K (.ref E0) "__init__" = some (some (.ref fI))) (ek0 : PySem.W.keepIn K (.ref E0) = true) (et0 : PySem.W.typeIn K (.ref E0) = some (.type "type")) (esi0 : PySem.W.ks_superIn K E0 D "__init__" = some (some (.builtin "ValueError.__init__")))
    (ea1 : PySem.W.nsIn K mainGlobals "TooMany" = some (some (.ref E1))) (el1 : K.lookup E1 = some (excClassObj "TooMany" eq1 E1 eN1 eb1 [.ref D, .type "ValueError", .type "Exception", .type "BaseException", .type "object"] true en1 es1 ev1 eo1 ed1 eka1 ekb1 ekc1 ekd1 eke1 "ValueError.__new__")) (esa1 : PySem.W.findIn K (.ref E1) "__setattr__" = some (some (.builtin "object.__setattr__"))) (ega1 : PySem.W.findIn K (.ref E1) "__getattribute__" = some (some (.builtin "BaseException.__getattribute__"))) (egg1 : PySem.W.findIn K (.ref E1) "__getattr__" = some none) (enb1 : PySem.W.findIn K (.ref E1) "at" = some none) (eca1 : PySem.W.findIn K (.ref E1) "__class__" = some (some (.builtin "object.__class__"))) (ei1 : PySem.W.findIn K (.ref E1) "__init__" = some (some (.ref fI))) (ek1 : PySem.W.keepIn K (.ref E1) = true) (et1 : PySem.W.typeIn K (.ref E1) = some (.type "type")) (esi1 : PySem.W.ks_superIn K E1 D "__init__" = some (some (.builtin "ValueError.__init__")))
    (ea2 : PySem.W.nsIn K mainGlobals "WrongSize" = some (some (.ref E2))) (el2 : K.lookup E2 = some (excClassObj "WrongSize" eq2 E2 eN2 eb2 [.ref D, .type "ValueError", .type "Exception", .type "BaseException", .type "object"] true en2 es2 ev2 eo2 ed2 eka2 ekb2 ekc2 ekd2 eke2 "ValueError.__new__")) (esa2 : PySem.W.findIn K (.ref E2) "__setattr__" = some (some (.builtin "object.__setattr__"))) (ega2 : PySem.W.findIn K (.ref E2) "__getattribute__" = some (some (.builtin "BaseException.__getattribute__"))) (egg2 : PySem.W.findIn K (.ref E2) "__getattr__" = some none) (enb2 : PySem.W.findIn K (.ref E2) "at" = some none) (eca2 : PySem.W.findIn K (.ref E2) "__class__" = some (some (.builtin "object.__class__"))) (ei2 : PySem.W.findIn K (.ref E2) "__init__" = some (some (.ref fI))) (ek2 : PySem.W.keepIn K (.ref E2) = true) (et2 : PySem.W.typeIn K (.ref E2) = some (.type "type")) (esi2 : PySem.W.ks_superIn K E2 D "__init__" = some (some (.builtin "ValueError.__init__")))
    (ea3 : PySem.W.nsIn K mainGlobals "NotASet" = some (some (.ref E3))) (el3 : K.lookup E3 = some (excClassObj "NotASet" eq3 E3 eN3 eb3 [.ref D, .type "ValueError", .type "Exception", .type "BaseException", .type "object"] true en3 es3 ev3 eo3 ed3 eka3 ekb3 ekc3 ekd3 eke3 "ValueError.__new__")) (esa3 : PySem.W.findIn K (.ref E3) "__setattr__" = some (some (.builtin "object.__setattr__"))) (ega3 : PySem.W.findIn K (.ref E3) "__getattribute__" = some (some (.builtin "BaseException.__getattribute__"))) (egg3 : PySem.W.findIn K (.ref E3) "__getattr__" = some none) (enb3 : PySem.W.findIn K (.ref E3) "at" = some none) (eca3 : PySem.W.findIn K (.ref E3) "__class__" = some (some (.builtin "object.__class__"))) (ei3 : PySem.W.findIn K (.ref E3) "__init__" = some (some (.ref fI))) (ek3 : PySem.W.keepIn K (.ref E3) = true) (et3 : PySem.W.typeIn K (.ref E3) = some (.type "type")) (esi3 : PySem.W.ks_superIn K E3 D "__init__" = some (some (.builtin "ValueError.__init__")))
    (ea4 : PySem.W.nsIn K mainGlobals "BadAddress" = some (some (.ref E4))) (el4 : K.lookup E4 = some (excClassObj "BadAddress" eq4 E4 eN4 eb4 [.ref D, .type "ValueError", .type "Exception", .type "BaseException", .type "object"] true en4 es4 ev4 eo4 ed4 eka4 ekb4 ekc4 ekd4 eke4 "ValueError.__new__")) (esa4 : PySem.W.findIn K (.ref E4) "__setattr__" = some (some (.builtin "object.__setattr__"))) (ega4 : PySem.W.findIn K (.ref E4) "__getattribute__" = some (some (.builtin "BaseException.__getattribute__"))) (egg4 : PySem.W.findIn K (.ref E4) "__getattr__" = some none) (enb4 : PySem.W.findIn K (.ref E4) "at" = some none) (eca4 : PySem.W.findIn K (.ref E4) "__class__" = some (some (.builtin "object.__class__"))) (ei4 : PySem.W.findIn K (.ref E4) "__init__" = some (some (.ref fI))) (ek4 : PySem.W.keepIn K (.ref E4) = true) (et4 : PySem.W.typeIn K (.ref E4) = some (.type "type")) (esi4 : PySem.W.ks_superIn K E4 D "__init__" = some (some (.builtin "ValueError.__init__")))
    (ea5 : PySem.W.nsIn K mainGlobals "BadBlock" = some (some (.ref E5))) (el5 : K.lookup E5 = some (excClassObj "BadBlock" eq5 E5 eN5 eb5 [.ref D, .type "ValueError", .type "Exception", .type "BaseException", .type "object"] true en5 es5 ev5 eo5 ed5 eka5 ekb5 ekc5 ekd5 eke5 "ValueError.__new__")) (esa5 : PySem.W.findIn K (.ref E5) "__setattr__" = some (some (.builtin "object.__setattr__"))) (ega5 : PySem.W.findIn K (.ref E5) "__getattribute__" = some (some (.builtin "BaseException.__getattribute__"))) (egg5 : PySem.W.findIn K (.ref E5) "__getattr__" = some none) (enb5 : PySem.W.findIn K (.ref E5) "at" = some none) (eca5 : PySem.W.findIn K (.ref E5) "__class__" = some (some (.builtin "object.__class__"))) (ei5 : PySem.W.findIn K (.ref E5) "__init__" = some (some (.ref fI))) (ek5 : PySem.W.keepIn K (.ref E5) = true) (et5 : PySem.W.typeIn K (.ref E5) = some (.type "type")) (esi5 : PySem.W.ks_superIn K E5 D "__init__" = some (some (.builtin "ValueError.__init__")))
    (ea6 : PySem.W.nsIn K mainGlobals "NoHand" = some (some (.ref E6))) (el6 : K.lookup E6 = some (excClassObj "NoHand" eq6 E6 eN6 eb6 [.ref D, .type "ValueError", .type "Exception", .type "BaseException", .type "object"] true en6 es6 ev6 eo6 ed6 eka6 ekb6 ekc6 ekd6 eke6 "ValueError.__new__")) (esa6 : PySem.W.findIn K (.ref E6) "__setattr__" = some (some (.builtin "object.__setattr__"))) (ega6 : PySem.W.findIn K (.ref E6) "__getattribute__" = some (some (.builtin "BaseException.__getattribute__"))) (egg6 : PySem.W.findIn K (.ref E6) "__getattr__" = some none) (enb6 : PySem.W.findIn K (.ref E6) "at" = some none) (eca6 : PySem.W.findIn K (.ref E6) "__class__" = some (some (.builtin "object.__class__"))) (ei6 : PySem.W.findIn K (.ref E6) "__init__" = some (some (.ref fI))) (ek6 : PySem.W.keepIn K (.ref E6) = true) (et6 : PySem.W.typeIn K (.ref E6) = some (.type "type")) (esi6 : PySem.W.ks_superIn K E6 D "__init__" = some (some (.builtin "ValueError.__init__")))
    (ea7 : PySem.W.nsIn K mainGlobals "Busy" = some (some (.ref E7))) (el7 : K.lookup E7 = some (excClassObj "Busy" eq7 E7 eN7 eb7 [.ref D, .type "ValueError", .type "Exception", .type "BaseException", .type "object"] true en7 es7 ev7 eo7 ed7 eka7 ekb7 ekc7 ekd7 eke7 "ValueError.__new__")) (esa7 : PySem.W.findIn K (.ref E7) "__setattr__" = some (some (.builtin "object.__setattr__"))) (ega7 : PySem.W.findIn K (.ref E7) "__getattribute__" = some (some (.builtin "BaseException.__getattribute__"))) (egg7 : PySem.W.findIn K (.ref E7) "__getattr__" = some none) (enb7 : PySem.W.findIn K (.ref E7) "at" = some none) (eca7 : PySem.W.findIn K (.ref E7) "__class__" = some (some (.builtin "object.__class__"))) (ei7 : PySem.W.findIn K (.ref E7) "__init__" = some (some (.ref fI))) (ek7 : PySem.W.keepIn K (.ref E7) = true) (et7 : PySem.W.typeIn K (.ref E7) = some (.type "type")) (esi7 : PySem.W.ks_superIn K E7 D "__init__" = some (some (.builtin "ValueError.__init__")))
    (ea8 : PySem.W.nsIn K mainGlobals "NoCall" = some (some (.ref E8))) (el8 : K.lookup E8 = some (excClassObj "NoCall" eq8 E8 eN8 eb8 [.ref D, .type "ValueError", .type "Exception", .type "BaseException", .type "object"] true en8 es8 ev8 eo8 ed8 eka8 ekb8 ekc8 ekd8 eke8 "ValueError.__new__")) (esa8 : PySem.W.findIn K (.ref E8) "__setattr__" = some (some (.builtin "object.__setattr__"))) (ega8 : PySem.W.findIn K (.ref E8) "__getattribute__" = some (some (.builtin "BaseException.__getattribute__"))) (egg8 : PySem.W.findIn K (.ref E8) "__getattr__" = some none) (enb8 : PySem.W.findIn K (.ref E8) "at" = some none) (eca8 : PySem.W.findIn K (.ref E8) "__class__" = some (some (.builtin "object.__class__"))) (ei8 : PySem.W.findIn K (.ref E8) "__init__" = some (some (.ref fI))) (ek8 : PySem.W.keepIn K (.ref E8) = true) (et8 : PySem.W.typeIn K (.ref E8) = some (.type "type")) (esi8 : PySem.W.ks_superIn K E8 D "__init__" = some (some (.builtin "ValueError.__init__")))
    (ea9 : PySem.W.nsIn K mainGlobals "NotOpen" = some (some (.ref E9))) (el9 : K.lookup E9 = some (excClassObj "NotOpen" eq9 E9 eN9 eb9 [.ref D, .type "ValueError", .type "Exception", .type "BaseException", .type "object"] true en9 es9 ev9 eo9 ed9 eka9 ekb9 ekc9 ekd9 eke9 "ValueError.__new__")) (esa9 : PySem.W.findIn K (.ref E9) "__setattr__" = some (some (.builtin "object.__setattr__"))) (ega9 : PySem.W.findIn K (.ref E9) "__getattribute__" = some (some (.builtin "BaseException.__getattribute__"))) (egg9 : PySem.W.findIn K (.ref E9) "__getattr__" = some none) (enb9 : PySem.W.findIn K (.ref E9) "at" = some none) (eca9 : PySem.W.findIn K (.ref E9) "__class__" = some (some (.builtin "object.__class__"))) (ei9 : PySem.W.findIn K (.ref E9) "__init__" = some (some (.ref fI))) (ek9 : PySem.W.keepIn K (.ref E9) = true) (et9 : PySem.W.typeIn K (.ref E9) = some (.type "type")) (esi9 : PySem.W.ks_superIn K E9 D "__init__" = some (some (.builtin "ValueError.__init__")))
    (ea10 : PySem.W.nsIn K mainGlobals "BadCode" = some (some (.ref E10))) (el10 : K.lookup E10 = some (excClassObj "BadCode" eq10 E10 eN10 eb10 [.ref D, .type "ValueError", .type "Exception", .type "BaseException", .type "object"] true en10 es10 ev10 eo10 ed10 eka10 ekb10 ekc10 ekd10 eke10 "ValueError.__new__")) (esa10 : PySem.W.findIn K (.ref E10) "__setattr__" = some (some (.builtin "object.__setattr__"))) (ega10 : PySem.W.findIn K (.ref E10) "__getattribute__" = some (some (.builtin "BaseException.__getattribute__"))) (egg10 : PySem.W.findIn K (.ref E10) "__getattr__" = some none) (enb10 : PySem.W.findIn K (.ref E10) "at" = some none) (eca10 : PySem.W.findIn K (.ref E10) "__class__" = some (some (.builtin "object.__class__"))) (ei10 : PySem.W.findIn K (.ref E10) "__init__" = some (some (.ref fI))) (ek10 : PySem.W.keepIn K (.ref E10) = true) (et10 : PySem.W.typeIn K (.ref E10) = some (.type "type")) (esi10 : PySem.W.ks_superIn K E10 D "__init__" = some (some (.builtin "ValueError.__init__")))
    (ea11 : PySem.W.nsIn K mainGlobals "NoRoom" = some (some (.ref E11))) (el11 : K.lookup E11 = some (excClassObj "NoRoom" eq11 E11 eN11 eb11 [.ref D, .type "ValueError", .type "Exception", .type "BaseException", .type "object"] true en11 es11 ev11 eo11 ed11 eka11 ekb11 ekc11 ekd11 eke11 "ValueError.__new__")) (esa11 : PySem.W.findIn K (.ref E11) "__setattr__" = some (some (.builtin "object.__setattr__"))) (ega11 : PySem.W.findIn K (.ref E11) "__getattribute__" = some (some (.builtin "BaseException.__getattribute__"))) (egg11 : PySem.W.findIn K (.ref E11) "__getattr__" = some none) (enb11 : PySem.W.findIn K (.ref E11) "at" = some none) (eca11 : PySem.W.findIn K (.ref E11) "__class__" = some (some (.builtin "object.__class__"))) (ei11 : PySem.W.findIn K (.ref E11) "__init__" = some (some (.ref fI))) (ek11 : PySem.W.keepIn K (.ref E11) = true) (et11 : PySem.W.typeIn K (.ref E11) = some (.type "type")) (esi11 : PySem.W.ks_superIn K E11 D "__init__" = some (some (.builtin "ValueError.__init__")))
    (ea12 : PySem.W.nsIn K mainGlobals "BadUnit" = some (some (.ref E12))) (el12 : K.lookup E12 = some (excClassObj "BadUnit" eq12 E12 eN12 eb12 [.ref D, .type "ValueError", .type "Exception", .type "BaseException", .type "object"] true en12 es12 ev12 eo12 ed12 eka12 ekb12 ekc12 ekd12 eke12 "ValueError.__new__")) (esa12 : PySem.W.findIn K (.ref E12) "__setattr__" = some (some (.builtin "object.__setattr__"))) (ega12 : PySem.W.findIn K (.ref E12) "__getattribute__" = some (some (.builtin "BaseException.__getattribute__"))) (egg12 : PySem.W.findIn K (.ref E12) "__getattr__" = some none) (enb12 : PySem.W.findIn K (.ref E12) "at" = some none) (eca12 : PySem.W.findIn K (.ref E12) "__class__" = some (some (.builtin "object.__class__"))) (ei12 : PySem.W.findIn K (.ref E12) "__init__" = some (some (.ref fI))) (ek12 : PySem.W.keepIn K (.ref E12) = true) (et12 : PySem.W.typeIn K (.ref E12) = some (.type "type")) (esi12 : PySem.W.ks_superIn K E12 D "__init__" = some (some (.builtin "ValueError.__init__")))
    (ea13 : PySem.W.nsIn K mainGlobals "BadSizes" = some (some (.ref E13))) (el13 : K.lookup E13 = some (excClassObj "BadSizes" eq13 E13 eN13 eb13 [.ref D, .type "ValueError", .type "Exception", .type "BaseException", .type "object"] true en13 es13 ev13 eo13 ed13 eka13 ekb13 ekc13 ekd13 eke13 "ValueError.__new__")) (esa13 : PySem.W.findIn K (.ref E13) "__setattr__" = some (some (.builtin "object.__setattr__"))) (ega13 : PySem.W.findIn K (.ref E13) "__getattribute__" = some (some (.builtin "BaseException.__getattribute__"))) (egg13 : PySem.W.findIn K (.ref E13) "__getattr__" = some none) (enb13 : PySem.W.findIn K (.ref E13) "at" = some none) (eca13 : PySem.W.findIn K (.ref E13) "__class__" = some (some (.builtin "object.__class__"))) (ei13 : PySem.W.findIn K (.ref E13) "__init__" = some (some (.ref fI))) (ek13 : PySem.W.keepIn K (.ref E13) = true) (et13 : PySem.W.typeIn K (.ref E13) = some (.type "type")) (esi13 : PySem.W.ks_superIn K E13 D "__init__" = some (some (.builtin "ValueError.__init__")))
    (ea14 : PySem.W.nsIn K mainGlobals "BadTime" = some (some (.ref E14))) (el14 : K.lookup E14 = some (excClassObj "BadTime" eq14 E14 eN14 eb14 [.ref D, .type "ValueError", .type "Exception", .type "BaseException", .type "object"] true en14 es14 ev14 eo14 ed14 eka14 ekb14 ekc14 ekd14 eke14 "ValueError.__new__")) (esa14 : PySem.W.findIn K (.ref E14) "__setattr__" = some (some (.builtin "object.__setattr__"))) (ega14 : PySem.W.findIn K (.ref E14) "__getattribute__" = some (some (.builtin "BaseException.__getattribute__"))) (egg14 : PySem.W.findIn K (.ref E14) "__getattr__" = some none) (enb14 : PySem.W.findIn K (.ref E14) "at" = some none) (eca14 : PySem.W.findIn K (.ref E14) "__class__" = some (some (.builtin "object.__class__"))) (ei14 : PySem.W.findIn K (.ref E14) "__init__" = some (some (.ref fI))) (ek14 : PySem.W.keepIn K (.ref E14) = true) (et14 : PySem.W.typeIn K (.ref E14) = some (.type "type")) (esi14 : PySem.W.ks_superIn K E14 D "__init__" = some (some (.builtin "ValueError.__init__")))
    (ea15 : PySem.W.nsIn K mainGlobals "BadWord" = some (some (.ref E15))) (el15 : K.lookup E15 = some (excClassObj "BadWord" eq15 E15 eN15 eb15 [.ref D, .type "ValueError", .type "Exception", .type "BaseException", .type "object"] true en15 es15 ev15 eo15 ed15 eka15 ekb15 ekc15 ekd15 eke15 "ValueError.__new__")) (esa15 : PySem.W.findIn K (.ref E15) "__setattr__" = some (some (.builtin "object.__setattr__"))) (ega15 : PySem.W.findIn K (.ref E15) "__getattribute__" = some (some (.builtin "BaseException.__getattribute__"))) (egg15 : PySem.W.findIn K (.ref E15) "__getattr__" = some none) (enb15 : PySem.W.findIn K (.ref E15) "at" = some none) (eca15 : PySem.W.findIn K (.ref E15) "__class__" = some (some (.builtin "object.__class__"))) (ei15 : PySem.W.findIn K (.ref E15) "__init__" = some (some (.ref fI))) (ek15 : PySem.W.keepIn K (.ref E15) = true) (et15 : PySem.W.typeIn K (.ref E15) = some (.type "type")) (esi15 : PySem.W.ks_superIn K E15 D "__init__" = some (some (.builtin "ValueError.__init__")))
    (ea16 : PySem.W.nsIn K mainGlobals "BadTree" = some (some (.ref E16))) (el16 : K.lookup E16 = some (excClassObj "BadTree" eq16 E16 eN16 eb16 [.ref D, .type "ValueError", .type "Exception", .type "BaseException", .type "object"] true en16 es16 ev16 eo16 ed16 eka16 ekb16 ekc16 ekd16 eke16 "ValueError.__new__")) (esa16 : PySem.W.findIn K (.ref E16) "__setattr__" = some (some (.builtin "object.__setattr__"))) (ega16 : PySem.W.findIn K (.ref E16) "__getattribute__" = some (some (.builtin "BaseException.__getattribute__"))) (egg16 : PySem.W.findIn K (.ref E16) "__getattr__" = some none) (enb16 : PySem.W.findIn K (.ref E16) "at" = some none) (eca16 : PySem.W.findIn K (.ref E16) "__class__" = some (some (.builtin "object.__class__"))) (ei16 : PySem.W.findIn K (.ref E16) "__init__" = some (some (.ref fI))) (ek16 : PySem.W.keepIn K (.ref E16) = true) (et16 : PySem.W.typeIn K (.ref E16) = some (.type "type")) (esi16 : PySem.W.ks_superIn K E16 D "__init__" = some (some (.builtin "ValueError.__init__")))
    (ea17 : PySem.W.nsIn K mainGlobals "TooLong" = some (some (.ref E17))) (el17 : K.lookup E17 = some (excClassObj "TooLong" eq17 E17 eN17 eb17 [.ref D, .type "ValueError", .type "Exception", .type "BaseException", .type "object"] true en17 es17 ev17 eo17 ed17 eka17 ekb17 ekc17 ekd17 eke17 "ValueError.__new__")) (esa17 : PySem.W.findIn K (.ref E17) "__setattr__" = some (some (.builtin "object.__setattr__"))) (ega17 : PySem.W.findIn K (.ref E17) "__getattribute__" = some (some (.builtin "BaseException.__getattribute__"))) (egg17 : PySem.W.findIn K (.ref E17) "__getattr__" = some none) (enb17 : PySem.W.findIn K (.ref E17) "at" = some none) (eca17 : PySem.W.findIn K (.ref E17) "__class__" = some (some (.builtin "object.__class__"))) (ei17 : PySem.W.findIn K (.ref E17) "__init__" = some (some (.ref fI))) (ek17 : PySem.W.keepIn K (.ref E17) = true) (et17 : PySem.W.typeIn K (.ref E17) = some (.type "type")) (esi17 : PySem.W.ks_superIn K E17 D "__init__" = some (some (.builtin "ValueError.__init__")))
    (ea18 : PySem.W.nsIn K mainGlobals "BadLine" = some (some (.ref E18))) (el18 : K.lookup E18 = some (excClassObj "BadLine" eq18 E18 eN18 eb18 [.ref D, .type "ValueError", .type "Exception", .type "BaseException", .type "object"] true en18 es18 ev18 eo18 ed18 eka18 ekb18 ekc18 ekd18 eke18 "ValueError.__new__")) (esa18 : PySem.W.findIn K (.ref E18) "__setattr__" = some (some (.builtin "object.__setattr__"))) (ega18 : PySem.W.findIn K (.ref E18) "__getattribute__" = some (some (.builtin "BaseException.__getattribute__"))) (egg18 : PySem.W.findIn K (.ref E18) "__getattr__" = some none) (enb18 : PySem.W.findIn K (.ref E18) "at" = some none) (eca18 : PySem.W.findIn K (.ref E18) "__class__" = some (some (.builtin "object.__class__"))) (ei18 : PySem.W.findIn K (.ref E18) "__init__" = some (some (.ref fI))) (ek18 : PySem.W.keepIn K (.ref E18) = true) (et18 : PySem.W.typeIn K (.ref E18) = some (.type "type")) (esi18 : PySem.W.ks_superIn K E18 D "__init__" = some (some (.builtin "ValueError.__init__")))
    (ea19 : PySem.W.nsIn K mainGlobals "KernelError" = some (some (.ref D))) (el19 : K.lookup D = some (excClassObj "KernelError" eq19 D eN19 eb19 [.type "ValueError", .type "Exception", .type "BaseException", .type "object"] true en19 es19 ev19 eo19 ed19 eka19 ekb19 ekc19 ekd19 eke19 "ValueError.__new__")) (esa19 : PySem.W.findIn K (.ref D) "__setattr__" = some (some (.builtin "object.__setattr__"))) (ega19 : PySem.W.findIn K (.ref D) "__getattribute__" = some (some (.builtin "BaseException.__getattribute__"))) (egg19 : PySem.W.findIn K (.ref D) "__getattr__" = some none) (enb19 : PySem.W.findIn K (.ref D) "at" = some none) (eca19 : PySem.W.findIn K (.ref D) "__class__" = some (some (.builtin "object.__class__"))) (ei19 : PySem.W.findIn K (.ref D) "__init__" = some (some (.ref fI))) (ek19 : PySem.W.keepIn K (.ref D) = true) (et19 : PySem.W.typeIn K (.ref D) = some (.type "type")) (esi19 : PySem.W.ks_superIn K D D "__init__" = some (some (.builtin "ValueError.__init__")))
    (xt : PySem.W.typeIn K (.ref fI) = some (.type "function")) (xl : K.lookup fI = some ⟨xoc, xod, .func (PySem.W.ksFn "__init__" "KernelError.__init__" (VX.iA xp1 xp2) (VX.iB xp0 xr1 xr2 xr3 xr4 xr5 xq1 xq2 xq3 xq4) VX.iS .none .none xdc xpm xan (.ref xcd) xct xcc), xsl⟩) (xc : PySem.W.codeIn K (.ref xcd) "KernelError.__init__" = true) (xlc : K.lookup xcd = some ⟨xccl, xcdd, .fields xvs, xccs⟩) (xlv : xvs[2]? = some (.str xfile xtf)) (xlf : ((l.prog.main.file : Str) == xfile) = true) (xcc1 : K.lookup xcc = some ⟨xcl, xcld, .cell (some (.ref D)), xcsl⟩) (xzs : PySem.W.nsIn K mainGlobals "super" = some none) (xza : PySem.W.nsIn K cStatics "thirdparty.any" = some none) (xtop : (l.prog.main.scope.names.lookup ("super" : Str)).isSome = false) (xzl : (xr2.endLine == xr4.line) = true) (xiD : (PySem.W.clsIn K D).isSome = true) (xsp : PySem.W.specialIn K (.builtin "object.__class__") "__get__" = some (some (.builtin "getset_descriptor.__get__"))) (xtk : PySem.W.takesIn K (.builtin "object.__class__") = some true)
    (gi_MOST_PROGRAMS : PySem.W.nsIn K mainGlobals "MOST_PROGRAMS" = some (some (.int (16) gt_MOST_PROGRAMS)))
    (z_ValueError : PySem.W.nsIn K mainGlobals "ValueError" = some none) (z_abs : PySem.W.nsIn K mainGlobals "abs" = some none) (z_bool : PySem.W.nsIn K mainGlobals "bool" = some none) (z_int : PySem.W.nsIn K mainGlobals "int" = some none) (z_isinstance : PySem.W.nsIn K mainGlobals "isinstance" = some none) (z_len : PySem.W.nsIn K mainGlobals "len" = some none) (z_min : PySem.W.nsIn K mainGlobals "min" = some none) (z_range : PySem.W.nsIn K mainGlobals "range" = some none) :
    ∃ fd : FuncData, (∀ (s : Shared) (v : Value), BindsTo s fd ⟨[v], []⟩ [("script", v)]) ∧ ∀ base : Heap, K.In base → base.Ns mainGlobals mg → TopRun l.prog w K mg base fa fd "script" (spT K) := by
  have e := hfa.symm.trans (PySem.W.mg_of X G a7)
  cases e
  have TB : Txt mg := ⟨PySem.W.mg_none_of X G z_ValueError, PySem.W.mg_none_of X G z_abs, PySem.W.mg_none_of X G z_bool, PySem.W.mg_none_of X G z_int, PySem.W.mg_none_of X G z_isinstance, PySem.W.mg_none_of X G z_len, PySem.W.mg_none_of X G z_min, PySem.W.mg_none_of X G z_range, ⟨_, PySem.W.mg_of X G gi_MOST_PROGRAMS⟩⟩
  have n0 : nmOf K E0 = some ("OutOfRange" : Str) := by unfold nmOf; rw [el0]
  have n1 : nmOf K E1 = some ("TooMany" : Str) := by unfold nmOf; rw [el1]
  have n2 : nmOf K E2 = some ("WrongSize" : Str) := by unfold nmOf; rw [el2]
  have n3 : nmOf K E3 = some ("NotASet" : Str) := by unfold nmOf; rw [el3]
  have n4 : nmOf K E4 = some ("BadAddress" : Str) := by unfold nmOf; rw [el4]
  have n5 : nmOf K E5 = some ("BadBlock" : Str) := by unfold nmOf; rw [el5]
  have n6 : nmOf K E6 = some ("NoHand" : Str) := by unfold nmOf; rw [el6]
  have n7 : nmOf K E7 = some ("Busy" : Str) := by unfold nmOf; rw [el7]
  have n8 : nmOf K E8 = some ("NoCall" : Str) := by unfold nmOf; rw [el8]
  have n9 : nmOf K E9 = some ("NotOpen" : Str) := by unfold nmOf; rw [el9]
  have n10 : nmOf K E10 = some ("BadCode" : Str) := by unfold nmOf; rw [el10]
  have n11 : nmOf K E11 = some ("NoRoom" : Str) := by unfold nmOf; rw [el11]
  have n12 : nmOf K E12 = some ("BadUnit" : Str) := by unfold nmOf; rw [el12]
  have n13 : nmOf K E13 = some ("BadSizes" : Str) := by unfold nmOf; rw [el13]
  have n14 : nmOf K E14 = some ("BadTime" : Str) := by unfold nmOf; rw [el14]
  have n15 : nmOf K E15 = some ("BadWord" : Str) := by unfold nmOf; rw [el15]
  have n16 : nmOf K E16 = some ("BadTree" : Str) := by unfold nmOf; rw [el16]
  have n17 : nmOf K E17 = some ("TooLong" : Str) := by unfold nmOf; rw [el17]
  have n18 : nmOf K E18 = some ("BadLine" : Str) := by unfold nmOf; rw [el18]
  have n19 : nmOf K D = some ("KernelError" : Str) := by unfold nmOf; rw [el19]
  have hnd : ([E0, E1, E2, E3, E4, E5, E6, E7, E8, E9, E10, E11, E12, E13, E14, E15, E16, E17, E18, D] : List Addr).Nodup := nodup_names (K := K) (ns := ns) (by simp only [List.map_cons, List.map_nil, n0, n1, n2, n3, n4, n5, n6, n7, n8, n9, n10, n11, n12, n13, n14, n15, n16, n17, n18, n19, ns]) (by decide +kernel)
  let Z : CE 20 := CE.of [E0, E1, E2, E3, E4, E5, E6, E7, E8, E9, E10, E11, E12, E13, E14, E15, E16, E17, E18, D] hnd
  have O0 : VX.Own K D fI E0 (bmOf D false) := ⟨⟨_, _, _, _, _, _, _, _, _, _, _, _, _, _, el0⟩, esa0, ega0, egg0, enb0, eca0, ei0, ek0, et0, esi0⟩
  have O1 : VX.Own K D fI E1 (bmOf D false) := ⟨⟨_, _, _, _, _, _, _, _, _, _, _, _, _, _, el1⟩, esa1, ega1, egg1, enb1, eca1, ei1, ek1, et1, esi1⟩
  have O2 : VX.Own K D fI E2 (bmOf D false) := ⟨⟨_, _, _, _, _, _, _, _, _, _, _, _, _, _, el2⟩, esa2, ega2, egg2, enb2, eca2, ei2, ek2, et2, esi2⟩
  have O3 : VX.Own K D fI E3 (bmOf D false) := ⟨⟨_, _, _, _, _, _, _, _, _, _, _, _, _, _, el3⟩, esa3, ega3, egg3, enb3, eca3, ei3, ek3, et3, esi3⟩
  have O4 : VX.Own K D fI E4 (bmOf D false) := ⟨⟨_, _, _, _, _, _, _, _, _, _, _, _, _, _, el4⟩, esa4, ega4, egg4, enb4, eca4, ei4, ek4, et4, esi4⟩
  have O5 : VX.Own K D fI E5 (bmOf D false) := ⟨⟨_, _, _, _, _, _, _, _, _, _, _, _, _, _, el5⟩, esa5, ega5, egg5, enb5, eca5, ei5, ek5, et5, esi5⟩
  have O6 : VX.Own K D fI E6 (bmOf D false) := ⟨⟨_, _, _, _, _, _, _, _, _, _, _, _, _, _, el6⟩, esa6, ega6, egg6, enb6, eca6, ei6, ek6, et6, esi6⟩
  have O7 : VX.Own K D fI E7 (bmOf D false) := ⟨⟨_, _, _, _, _, _, _, _, _, _, _, _, _, _, el7⟩, esa7, ega7, egg7, enb7, eca7, ei7, ek7, et7, esi7⟩
  have O8 : VX.Own K D fI E8 (bmOf D false) := ⟨⟨_, _, _, _, _, _, _, _, _, _, _, _, _, _, el8⟩, esa8, ega8, egg8, enb8, eca8, ei8, ek8, et8, esi8⟩
  have O9 : VX.Own K D fI E9 (bmOf D false) := ⟨⟨_, _, _, _, _, _, _, _, _, _, _, _, _, _, el9⟩, esa9, ega9, egg9, enb9, eca9, ei9, ek9, et9, esi9⟩
  have O10 : VX.Own K D fI E10 (bmOf D false) := ⟨⟨_, _, _, _, _, _, _, _, _, _, _, _, _, _, el10⟩, esa10, ega10, egg10, enb10, eca10, ei10, ek10, et10, esi10⟩
  have O11 : VX.Own K D fI E11 (bmOf D false) := ⟨⟨_, _, _, _, _, _, _, _, _, _, _, _, _, _, el11⟩, esa11, ega11, egg11, enb11, eca11, ei11, ek11, et11, esi11⟩
  have O12 : VX.Own K D fI E12 (bmOf D false) := ⟨⟨_, _, _, _, _, _, _, _, _, _, _, _, _, _, el12⟩, esa12, ega12, egg12, enb12, eca12, ei12, ek12, et12, esi12⟩
  have O13 : VX.Own K D fI E13 (bmOf D false) := ⟨⟨_, _, _, _, _, _, _, _, _, _, _, _, _, _, el13⟩, esa13, ega13, egg13, enb13, eca13, ei13, ek13, et13, esi13⟩
  have O14 : VX.Own K D fI E14 (bmOf D false) := ⟨⟨_, _, _, _, _, _, _, _, _, _, _, _, _, _, el14⟩, esa14, ega14, egg14, enb14, eca14, ei14, ek14, et14, esi14⟩
  have O15 : VX.Own K D fI E15 (bmOf D false) := ⟨⟨_, _, _, _, _, _, _, _, _, _, _, _, _, _, el15⟩, esa15, ega15, egg15, enb15, eca15, ei15, ek15, et15, esi15⟩
  have O16 : VX.Own K D fI E16 (bmOf D false) := ⟨⟨_, _, _, _, _, _, _, _, _, _, _, _, _, _, el16⟩, esa16, ega16, egg16, enb16, eca16, ei16, ek16, et16, esi16⟩
  have O17 : VX.Own K D fI E17 (bmOf D false) := ⟨⟨_, _, _, _, _, _, _, _, _, _, _, _, _, _, el17⟩, esa17, ega17, egg17, enb17, eca17, ei17, ek17, et17, esi17⟩
  have O18 : VX.Own K D fI E18 (bmOf D false) := ⟨⟨_, _, _, _, _, _, _, _, _, _, _, _, _, _, el18⟩, esa18, ega18, egg18, enb18, eca18, ei18, ek18, et18, esi18⟩
  have O19 : VX.Own K D fI D (bmOf D true) := ⟨⟨_, _, _, _, _, _, _, _, _, _, _, _, _, _, el19⟩, esa19, ega19, egg19, enb19, eca19, ei19, ek19, et19, esi19⟩
  have Bs : VX.Bas l.prog K D fI xcc := ⟨⟨_, _, _, _, _, _, _, _, _, _, _, _, _, _, _, _, _, _, _, _, _, _, _, _, _, _, xl, xc, xlc, xlv, xlf, xzl⟩, ⟨_, _, _, xcc1⟩, xiD, xzs, xtop, xza⟩
  have TE : CEs l.prog K mg ns 19 Z := ces_of (fI := fI) (cc := xcc) (by decide) rfl (fun i hi => match i, hi with
    | 0, _ => O0
    | 1, _ => O1
    | 2, _ => O2
    | 3, _ => O3
    | 4, _ => O4
    | 5, _ => O5
    | 6, _ => O6
    | 7, _ => O7
    | 8, _ => O8
    | 9, _ => O9
    | 10, _ => O10
    | 11, _ => O11
    | 12, _ => O12
    | 13, _ => O13
    | 14, _ => O14
    | 15, _ => O15
    | 16, _ => O16
    | 17, _ => O17
    | 18, _ => O18
    | 19, _ => O19
    | n + 20, h => absurd h (by omega)) xt Bs (fun i x h => match i, h with
    | 0, h => by cases h; exact PySem.W.mg_of X G ea0
    | 1, h => by cases h; exact PySem.W.mg_of X G ea1
    | 2, h => by cases h; exact PySem.W.mg_of X G ea2
    | 3, h => by cases h; exact PySem.W.mg_of X G ea3
    | 4, h => by cases h; exact PySem.W.mg_of X G ea4
    | 5, h => by cases h; exact PySem.W.mg_of X G ea5
    | 6, h => by cases h; exact PySem.W.mg_of X G ea6
    | 7, h => by cases h; exact PySem.W.mg_of X G ea7
    | 8, h => by cases h; exact PySem.W.mg_of X G ea8
    | 9, h => by cases h; exact PySem.W.mg_of X G ea9
    | 10, h => by cases h; exact PySem.W.mg_of X G ea10
    | 11, h => by cases h; exact PySem.W.mg_of X G ea11
    | 12, h => by cases h; exact PySem.W.mg_of X G ea12
    | 13, h => by cases h; exact PySem.W.mg_of X G ea13
    | 14, h => by cases h; exact PySem.W.mg_of X G ea14
    | 15, h => by cases h; exact PySem.W.mg_of X G ea15
    | 16, h => by cases h; exact PySem.W.mg_of X G ea16
    | 17, h => by cases h; exact PySem.W.mg_of X G ea17
    | 18, h => by cases h; exact PySem.W.mg_of X G ea18
    | 19, h => by cases h; exact PySem.W.mg_of X G ea19
    | n + 20, h => by cases h) (PySem.W.mg_none_of X G xzs) xsp xtk
  refine ⟨PySem.W.fnOf "law" "law" (defArgs s_law) (defBody s_law) (defScope s_law) .none kV7 dc7 pm7 an7 cd7 ct7, fun s v => .of_eq rfl, fun base _ _ => VL.top_spT (f := F_law Z) ?_ fun ns => ⟨(), law_run Z ns⟩⟩
  have F1 := fun_mk (st := s_first_state) l1 c1 k1
  have b1 := F1.binds (ps := ["programs"]) fun _ _ _ _ _ _ us hl => match us, hl with | [_], _ => rfl
  have C_first_state := cal_first_state (P := l.prog) (w := w) (base := base) TB TE  F1 b1 (PySem.W.mg_of X G a1)
  have F2 := fun_mk (st := s__law_draws) l2 c2 k2
  have b2 := F2.binds (ps := ["script"]) fun _ _ _ _ _ _ us hl => match us, hl with | [_], _ => rfl
  have C__law_draws := cal__law_draws (P := l.prog) (w := w) (base := base) TB TE  F2 b2 (PySem.W.mg_of X G a2)
  have F3 := fun_mk (st := s__law_mix) l3 c3 k3
  have b3 := F3.binds (ps := ["draws", "k", "many"]) fun _ _ _ _ _ _ us hl => match us, hl with | [_, _, _], _ => rfl
  have C__law_mix := cal__law_mix (P := l.prog) (w := w) (base := base) TB TE  F3 b3 (PySem.W.mg_of X G a3)
  have F4 := fun_mk (st := s__law_kinds) l4 c4 k4
  have b4 := F4.binds (ps := ["e"]) fun _ _ _ _ _ _ us hl => match us, hl with | [_], _ => rfl
  have C__law_kinds := cal__law_kinds (P := l.prog) (w := w) (base := base) TB TE  F4 b4 (PySem.W.mg_of X G a4)
  have F5 := fun_mk (st := s__law_made) l5 c5 k5
  have b5 := F5.binds (ps := ["n"]) fun _ _ _ _ _ _ us hl => match us, hl with | [_], _ => rfl
  have C__law_made := cal__law_made (P := l.prog) (w := w) (base := base) TB TE  F5 b5 (PySem.W.mg_of X G a5)
  have F6 := fun_mk (st := s__law_raised) l6 c6 k6
  have b6 := F6.binds (ps := ["many"]) fun _ _ _ _ _ _ us hl => match us, hl with | [_], _ => rfl
  have C__law_raised := cal__law_raised (P := l.prog) (w := w) (base := base) TB TE C_first_state F6 b6 (PySem.W.mg_of X G a6)
  exact top_law TB TE C__law_draws C__law_mix C__law_made C__law_kinds C__law_raised (fun_mk (st := s_law) l7 c7 k7) ⟨rfl, by decide, by decide⟩
theorem walk {l : PySem.W.OpenLaw} {q : Program} {loose : List Str} {XP : (Str → Option Value) → Heap → Prop} {YP : World → Heap → Prop} {d : DefRec} {K : Params → PySem.W.Frag} (hn : l.most = some 63) (hdf : d.params.defaults = [])
    (hY : ∀ (w : World) (h : Heap), YP w h → (K w.params).In h)
    (F : ∀ (w : World) (mg : Str → Option Value) (fa : Addr) (h : Heap), (K w.params).In h → h.Ns mainGlobals mg → mg d.name = some (.ref fa) →
      ∃ fd : FuncData, (∀ (s : Shared) (u : Value), BindsTo s fd ⟨[u], []⟩ [("script", u)]) ∧ ∀ base : Heap, (K w.params).In base → base.Ns mainGlobals mg → TopRun l.prog w (K w.params) mg base fa fd "script" (spT (K w.params))) :
    PySem.W.WalkO q loose XP YP l.row.toRowW d [] (fun f vs => PySem.call f vs) :=
  VL.top_walk (n := 63) (x := "script") (sp := fun w => spT (K w.params)) hn (by decide) hdf hY F fun w H a ns _ _ only sq => ⟨a, ns, rfl, only, sq, rfl, rfl⟩
end K00

open PySem PySem.W PyProof.Rows in
set_option maxRecDepth 100000 in
set_option maxHeartbeats 0 in
theorem PySem.Challenge.cw_keysreach_k00_errors_are_apart_holds : PySem.Challenge.rw_keysreach_k00_errors_are_apart.Holds := by
  w_on; o_law; k_head; (case hw => w_witness2)
  k_fill
  refine K00.walk (l := PySem.Challenge.rw_keysreach_k00_errors_are_apart) rfl rfl (fun w h Y => PySem.W.kIn_of Y) ?F
  case F =>
    intro w mg fa h KX G hmg
    refine' K00.all_mk KX G hmg ?a1 ?l1 ?c1 ?k1 ?a2 ?l2 ?c2 ?k2 ?a3 ?l3 ?c3 ?k3 ?a4 ?l4 ?c4 ?k4 ?a5 ?l5 ?c5 ?k5 ?a6 ?l6 ?c6 ?k6 ?a7 ?l7 ?c7 ?k7 ?ea0 ?el0 ?esa0 ?ega0 ?egg0 ?enb0 ?eca0 ?ei0 ?ek0 ?et0 ?esi0 ?ea1 ?el1 ?esa1 ?ega1 ?egg1 ?enb1 ?eca1 ?ei1 ?ek1 ?et1 ?esi1 ?ea2 ?el2 ?esa2 ?ega2 ?egg2 ?enb2 ?eca2 ?ei2 ?ek2 ?et2 ?esi2 ?ea3 ?el3 ?esa3 ?ega3 ?egg3 ?enb3 ?eca3 ?ei3 ?ek3 ?et3 ?esi3 ?ea4 ?el4 ?esa4 ?ega4 ?egg4 ?enb4 ?eca4 ?ei4 ?ek4 ?et4 ?esi4 ?ea5 ?el5 ?esa5 ?ega5 ?egg5 ?enb5 ?eca5 ?ei5 ?ek5 ?et5 ?esi5 ?ea6 ?el6 ?esa6 ?ega6 ?egg6 ?enb6 ?eca6 ?ei6 ?ek6 ?et6 ?esi6 ?ea7 ?el7 ?esa7 ?ega7 ?egg7 ?enb7 ?eca7 ?ei7 ?ek7 ?et7 ?esi7 ?ea8 ?el8 ?esa8 ?ega8 ?egg8 ?enb8 ?eca8 ?ei8 ?ek8 ?et8 ?esi8 ?ea9 ?el9 ?esa9 ?ega9 ?egg9 ?enb9 ?eca9 ?ei9 ?ek9 ?et9 ?esi9 ?ea10 ?el10 ?esa10 ?ega10 ?egg10 ?enb10 ?eca10 ?ei10 ?ek10 ?et10 ?esi10 ?ea11 ?el11 ?esa11 ?ega11 ?egg11 ?enb11 ?eca11 ?ei11 ?ek11 ?et11 ?esi11 ?ea12 ?el12 ?esa12 ?ega12 ?egg12 ?enb12 ?eca12 ?ei12 ?ek12 ?et12 ?esi12 ?ea13 ?el13 ?esa13 ?ega13 ?egg13 ?enb13 ?eca13 ?ei13 ?ek13 ?et13 ?esi13 ?ea14 ?el14 ?esa14 ?ega14 ?egg14 ?enb14 ?eca14 ?ei14 ?ek14 ?et14 ?esi14 ?ea15 ?el15 ?esa15 ?ega15 ?egg15 ?enb15 ?eca15 ?ei15 ?ek15 ?et15 ?esi15 ?ea16 ?el16 ?esa16 ?ega16 ?egg16 ?enb16 ?eca16 ?ei16 ?ek16 ?et16 ?esi16 ?ea17 ?el17 ?esa17 ?ega17 ?egg17 ?enb17 ?eca17 ?ei17 ?ek17 ?et17 ?esi17 ?ea18 ?el18 ?esa18 ?ega18 ?egg18 ?enb18 ?eca18 ?ei18 ?ek18 ?et18 ?esi18 ?ea19 ?el19 ?esa19 ?ega19 ?egg19 ?enb19 ?eca19 ?ei19 ?ek19 ?et19 ?esi19 ?xt ?xl ?xc ?xlc ?xlv ?xlf ?xcc1 ?xzs ?xza ?xtop ?xzl ?xiD ?xsp ?xtk ?gi_MOST_PROGRAMS ?z_ValueError ?z_abs ?z_bool ?z_int ?z_isinstance ?z_len ?z_min ?z_range
    (case ea19 => k_is)
    (case a1 => k_is)
    (case l1 => k_is)
    (case c1 => k_is)
    (case k1 => k_is)
    (case a2 => k_is)
    (case l2 => k_is)
    (case c2 => k_is)
    (case k2 => k_is)
    (case a3 => k_is)
    (case l3 => k_is)
    (case c3 => k_is)
    (case k3 => k_is)
    (case a4 => k_is)
    (case l4 => k_is)
    (case c4 => k_is)
    (case k4 => k_is)
    (case a5 => k_is)
    (case l5 => k_is)
    (case c5 => k_is)
    (case k5 => k_is)
    (case a6 => k_is)
    (case l6 => k_is)
    (case c6 => k_is)
    (case k6 => k_is)
    (case a7 => k_is)
    (case l7 => k_is)
    (case c7 => k_is)
    (case k7 => k_is)
    (case ea0 => k_is)
    (case el0 => k_is)
    (case esa0 => k_is)
    (case ega0 => k_is)
    (case egg0 => k_is)
    (case enb0 => k_is)
    (case eca0 => k_is)
    (case ei0 => k_is)
    (case ek0 => k_is)
    (case et0 => k_is)
    (case esi0 => first | k_is | rfl)
    (case ea1 => k_is)
    (case el1 => k_is)
    (case esa1 => k_is)
    (case ega1 => k_is)
    (case egg1 => k_is)
    (case enb1 => k_is)
    (case eca1 => k_is)
    (case ei1 => k_is)
    (case ek1 => k_is)
    (case et1 => k_is)
    (case esi1 => first | k_is | rfl)
    (case ea2 => k_is)
    (case el2 => k_is)
    (case esa2 => k_is)
    (case ega2 => k_is)
    (case egg2 => k_is)
    (case enb2 => k_is)
    (case eca2 => k_is)
    (case ei2 => k_is)
    (case ek2 => k_is)
    (case et2 => k_is)
    (case esi2 => first | k_is | rfl)
    (case ea3 => k_is)
    (case el3 => k_is)
    (case esa3 => k_is)
    (case ega3 => k_is)
    (case egg3 => k_is)
    (case enb3 => k_is)
    (case eca3 => k_is)
    (case ei3 => k_is)
    (case ek3 => k_is)
    (case et3 => k_is)
    (case esi3 => first | k_is | rfl)
    (case ea4 => k_is)
    (case el4 => k_is)
    (case esa4 => k_is)
    (case ega4 => k_is)
    (case egg4 => k_is)
    (case enb4 => k_is)
    (case eca4 => k_is)
    (case ei4 => k_is)
    (case ek4 => k_is)
    (case et4 => k_is)
    (case esi4 => first | k_is | rfl)
    (case ea5 => k_is)
    (case el5 => k_is)
    (case esa5 => k_is)
    (case ega5 => k_is)
    (case egg5 => k_is)
    (case enb5 => k_is)
    (case eca5 => k_is)
    (case ei5 => k_is)
    (case ek5 => k_is)
    (case et5 => k_is)
    (case esi5 => first | k_is | rfl)
    (case ea6 => k_is)
    (case el6 => k_is)
    (case esa6 => k_is)
    (case ega6 => k_is)
    (case egg6 => k_is)
    (case enb6 => k_is)
    (case eca6 => k_is)
    (case ei6 => k_is)
    (case ek6 => k_is)
    (case et6 => k_is)
    (case esi6 => first | k_is | rfl)
    (case ea7 => k_is)
    (case el7 => k_is)
    (case esa7 => k_is)
    (case ega7 => k_is)
    (case egg7 => k_is)
    (case enb7 => k_is)
    (case eca7 => k_is)
    (case ei7 => k_is)
    (case ek7 => k_is)
    (case et7 => k_is)
    (case esi7 => first | k_is | rfl)
    (case ea8 => k_is)
    (case el8 => k_is)
    (case esa8 => k_is)
    (case ega8 => k_is)
    (case egg8 => k_is)
    (case enb8 => k_is)
    (case eca8 => k_is)
    (case ei8 => k_is)
    (case ek8 => k_is)
    (case et8 => k_is)
    (case esi8 => first | k_is | rfl)
    (case ea9 => k_is)
    (case el9 => k_is)
    (case esa9 => k_is)
    (case ega9 => k_is)
    (case egg9 => k_is)
    (case enb9 => k_is)
    (case eca9 => k_is)
    (case ei9 => k_is)
    (case ek9 => k_is)
    (case et9 => k_is)
    (case esi9 => first | k_is | rfl)
    (case ea10 => k_is)
    (case el10 => k_is)
    (case esa10 => k_is)
    (case ega10 => k_is)
    (case egg10 => k_is)
    (case enb10 => k_is)
    (case eca10 => k_is)
    (case ei10 => k_is)
    (case ek10 => k_is)
    (case et10 => k_is)
    (case esi10 => first | k_is | rfl)
    (case ea11 => k_is)
    (case el11 => k_is)
    (case esa11 => k_is)
    (case ega11 => k_is)
    (case egg11 => k_is)
    (case enb11 => k_is)
    (case eca11 => k_is)
    (case ei11 => k_is)
    (case ek11 => k_is)
    (case et11 => k_is)
    (case esi11 => first | k_is | rfl)
    (case ea12 => k_is)
    (case el12 => k_is)
    (case esa12 => k_is)
    (case ega12 => k_is)
    (case egg12 => k_is)
    (case enb12 => k_is)
    (case eca12 => k_is)
    (case ei12 => k_is)
    (case ek12 => k_is)
    (case et12 => k_is)
    (case esi12 => first | k_is | rfl)
    (case ea13 => k_is)
    (case el13 => k_is)
    (case esa13 => k_is)
    (case ega13 => k_is)
    (case egg13 => k_is)
    (case enb13 => k_is)
    (case eca13 => k_is)
    (case ei13 => k_is)
    (case ek13 => k_is)
    (case et13 => k_is)
    (case esi13 => first | k_is | rfl)
    (case ea14 => k_is)
    (case el14 => k_is)
    (case esa14 => k_is)
    (case ega14 => k_is)
    (case egg14 => k_is)
    (case enb14 => k_is)
    (case eca14 => k_is)
    (case ei14 => k_is)
    (case ek14 => k_is)
    (case et14 => k_is)
    (case esi14 => first | k_is | rfl)
    (case ea15 => k_is)
    (case el15 => k_is)
    (case esa15 => k_is)
    (case ega15 => k_is)
    (case egg15 => k_is)
    (case enb15 => k_is)
    (case eca15 => k_is)
    (case ei15 => k_is)
    (case ek15 => k_is)
    (case et15 => k_is)
    (case esi15 => first | k_is | rfl)
    (case ea16 => k_is)
    (case el16 => k_is)
    (case esa16 => k_is)
    (case ega16 => k_is)
    (case egg16 => k_is)
    (case enb16 => k_is)
    (case eca16 => k_is)
    (case ei16 => k_is)
    (case ek16 => k_is)
    (case et16 => k_is)
    (case esi16 => first | k_is | rfl)
    (case ea17 => k_is)
    (case el17 => k_is)
    (case esa17 => k_is)
    (case ega17 => k_is)
    (case egg17 => k_is)
    (case enb17 => k_is)
    (case eca17 => k_is)
    (case ei17 => k_is)
    (case ek17 => k_is)
    (case et17 => k_is)
    (case esi17 => first | k_is | rfl)
    (case ea18 => k_is)
    (case el18 => k_is)
    (case esa18 => k_is)
    (case ega18 => k_is)
    (case egg18 => k_is)
    (case enb18 => k_is)
    (case eca18 => k_is)
    (case ei18 => k_is)
    (case ek18 => k_is)
    (case et18 => k_is)
    (case esi18 => first | k_is | rfl)
    (case el19 => k_is)
    (case esa19 => k_is)
    (case ega19 => k_is)
    (case egg19 => k_is)
    (case enb19 => k_is)
    (case eca19 => k_is)
    (case ei19 => k_is)
    (case ek19 => k_is)
    (case et19 => k_is)
    (case esi19 => first | k_is | rfl)
    (case xt => k_is)
    (case xl => k_is)
    (case xc => k_is)
    (case xlc => k_is)
    (case xlv => first | k_is | rfl)
    (case xlf => first | k_is | rfl)
    (case xcc1 => k_is)
    (case xzs => k_is)
    (case xza => k_is)
    (case xtop => first | k_is | rfl)
    (case xzl => first | k_is | rfl)
    (case xiD => first | k_is | rfl)
    (case xsp => k_is)
    (case xtk => k_is)
    (case gi_MOST_PROGRAMS => k_is)
    (case z_ValueError => k_is)
    (case z_abs => k_is)
    (case z_bool => k_is)
    (case z_int => k_is)
    (case z_isinstance => k_is)
    (case z_len => k_is)
    (case z_min => k_is)
    (case z_range => k_is)

