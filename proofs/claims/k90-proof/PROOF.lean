import PyProof.Rows.All
import Wide.All
import OpenK.AllK
import Wide.FinOn
import KE.KExcSuper
import HandS.ForExc
import HandS.ForMost
import HandS.HeadHook2
import HandS.Base
import HandS.Call
import HandS.Exc
import HandS.List
import HandS.Comp
import HandS.SetKeys
import HandS.SetBool
import HandS.DictComp
import KE.GoesEnum
import HandS.Iter
import HandS.TupMul
import KE.KDictZip
import HandS.Dict
import HandS.Conv
import HandS.ForSpec
import HandS.Wide
import HandS.Flow
import HandS.IsInst
import HandS.Defaults
import HandS.TryOnly
import HandS.CallSlots
import HandS.ExcOwn
import HandS.ExcInit
import HandS.ExcField
import HandS.ExcIs
import HandS.TryMany
import HandS.Zip
import HandS.Style
import HandS.More
import HandS.Strs
import HandS.TupAny
import HandS.Deep
import PyProof.Rows.SortStr
import PyProof.Rows.StrMeet
import HandS.Small
import KE.KExcIs
import HandS.Gcd
import KE.KMathG
import KE.KStateDown
import HandS.Head0
import HandS.Head1
import HandS.Head2
import HandS.Head3
import HandS.HeadEnd
import PySem.Challenge.RW_kindstellterms_k90_loose_terms_and_steps
set_option Elab.async false
set_option linter.all false
set_option maxRecDepth 100000
set_option maxHeartbeats 2000000
/-! X1: an own error over ValueError whose __init__ (perhaps a base's) says super().__init__(text) and keeps one field. -/
namespace Sup
open PySem PySem.W PySem.Calls PyProof.Rows PySem.HandSPX L2
def iA (f : Str) (p1 p2 : Pos) : Arguments := { posonlyargs := [], args := [{ arg := "self", annotation := none, pos := p1 }, { arg := f, annotation := none, pos := p2 }], vararg := none, kwonlyargs := [], kw_defaults := [], kwarg := none, defaults := [] }
def iB (f text : Str) (j : Nat) (r1 r2 r3 r4 r5 r6 q1 q2 q3 q4 : Pos) : List Stmt :=
  [.Expr (.Call (.Attribute (.Call (.Name "super" r1) [] [] r2) "__init__" r3) [.Constant (.str text) j r4] [] r5) r6, .Assign [.Attribute (.Name "self" q1) f q2] (.Name f q3) q4]
def iS (f : Str) : Scope := { kind := .function, names := [("self", .local), (f, .local), ("__class__", .free), ("super", .globalImplicit)], isGenerator := false, isCoroutine := false, more := [] }
/-- how the call of super().__init__ is read -/
def Ev (text : Str) (j : Nat) (r1 r2 r3 r4 r5 : Pos) : Prop := ∀ env : Env, ∃ pl : Sem Bool, eval (.Call (.Attribute (.Call (.Name "super" r1) [] [] r2) "__init__" r3) [.Constant (.str text) j r4] [] r5) env = (do
      let ov ← attributeBase (.Call (.Name "super" r1) [] [] r2) "__init__" env (eval (.Call (.Name "super" r1) [] [] r2) env)
      standAt r3.atName
      let (g, first) ← holding [ov] (getMethod ov "__init__" pl)
      callWith r5 g first (backTo r5 (starEach [.Constant (.str text) j r4] env)) [])
/-- how __init__ binds; its names -/
structure Bd (f : Str) : Prop where
  b : ∀ (q : Str) (p1 p2 : Pos) (body : List Stmt) (doc pm : Value) (an : Option Addr) (cd ct : Value) (cc : Addr) (a b : Value), bindArgs (ksFn "__init__" q (iA f p1 p2) body (iS f) .none .none doc pm an cd ct cc) ⟨[a, b], []⟩ = pure [(("self" : Str), a), (f, b)]
  s : (iS f).names.lookup ("super" : Str) = some .globalImplicit
  c : (iS f).names.lookup ("__class__" : Str) = some .free
  l : (iS f).names.lookup f = some .local
  n : (f == ("self" : Str)) = false
  d : (f == ("__debug__" : Str)) = false
theorem bd_name : Bd "name" := ⟨fun _ _ _ _ _ _ _ _ _ _ _ _ => rfl, rfl, rfl, rfl, rfl, rfl⟩
theorem bd_letter : Bd "letter" := ⟨fun _ _ _ _ _ _ _ _ _ _ _ _ => rfl, rfl, rfl, rfl, rfl, rfl⟩
/-- what the written part says of the class at C, of its __init__ at fI (written in the class at D) -/
structure Txt (P : Program) (K : Frag) (f : Str) (C fI : Addr) : Prop where
  cls : ∃ nm q N bs bm sn sub ab col dd k0 k1 k2 k3 k5, K.lookup C = some (excClassObj nm q C N bs bm true sn sub ab col dd k0 k1 k2 k3 k5 "ValueError.__new__") ∧ refsVE bm = true
  sa : findIn K (.ref C) "__setattr__" = some (some (.builtin "object.__setattr__"))
  noN : findIn K (.ref C) f = some none
  iC : findIn K (.ref C) "__init__" = some (some (.ref fI))
  tC : typeIn K (.ref fI) = some (.type "function")
  kC : keepIn K (.ref C) = true
  exC : subIn K (.ref C) (.type "BaseException") = some true
  ei : excInitIn K C He.veBase "ValueError.__new__" = true
  veC : subIn K (.ref C) (.type "ValueError") = some true
  tyC : typeIn K (.ref C) = some (.type "type")
  bd : Bd f
  fn : ∃ (oc : Value) (od : Option Addr) (doc pm : Value) (an : Option Addr) (cda : Addr) (ct : Value) (cc : Addr) (osl : Array (Option Value)) (text q : Str) (j : Nat) (p1 p2 r1 r2 r3 r4 r5 r6 q1 q2 q3 q4 : Pos),
    K.lookup fI = some ⟨oc, od, .func (ksFn "__init__" q (iA f p1 p2) (iB f text j r1 r2 r3 r4 r5 r6 q1 q2 q3 q4) (iS f) .none .none doc pm an (.ref cda) ct cc), osl⟩ ∧ codeIn K (.ref cda) q = true ∧ Ev text j r1 r2 r3 r4 r5 ∧
    (∃ ccl cdd vs ccs file tf, K.lookup cda = some ⟨ccl, cdd, .fields vs, ccs⟩ ∧ vs[2]? = some (.str file tf) ∧ ((P.main.file : Str) == file) = true) ∧
    ∃ cl cld csl D cdD, K.lookup cc = some ⟨cl, cld, .cell (some (.ref D)), csl⟩ ∧ clsIn K D = some cdD ∧ mroIn K C (.ref D) = some true ∧ ks_superIn K C D "__init__" = some (some (.builtin "ValueError.__init__"))
  st : nsIn K cStatics "thirdparty.any" = some none
theorem one_size (v : Value) : [v].length ≤ sizeLine := by
  rw [sizeLine_eq]
  exact (by decide : 1 ≤ 16777216)
/-- what __init__ leaves of a fresh error at x; h: what stood ahead of it -/
structure InitEnd (f : Str) (h h' : Heap) (x C dx t1 : Addr) (v : Value) : Prop where
  keep : ∀ b o, h.get? b = some o → h'.get? b = some o
  obj : h'.get? x = some { cls := .ref C, dict := some dx, data := .fields #[.ref t1, .none, .none, .none, .bool false, .none] }
  dbig : h.objs.size ≤ dx
  dne : dx ≠ x
  ns : h'.Ns1 dx (fun y => if y = f then some v else none)
/-- a made error -/
structure OwnMade (f : Str) (h h' : Heap) (e C d : Addr) (v : Value) : Prop where
  keep : ∀ b o, h.get? b = some o → h'.get? b = some o
  new : h.objs.size ≤ e
  obj : ∃ oe vs, h'.get? e = some oe ∧ oe.cls = .ref C ∧ oe.dict = some d ∧ oe.data = .fields vs ∧ vs[1]? = some .none
  dbig : h.objs.size ≤ d
  dne : d ≠ e
  ns : h'.Ns1 d (fun y => if y = f then some v else none)
/-- the names around -/
structure Gnd (P : Program) (h : Heap) : Prop where
  g : ∃ mg, h.Ns mainGlobals mg ∧ mg "super" = none
  b : ∃ mb, h.Ns builtinsNs mb ∧ mb "super" = some (.type "super")
  top : (P.main.scope.names.lookup ("super" : Str)).isSome = false
theorem Gnd.keeps {P : Program} {h h' : Heap} (G : Gnd P h) (k : ∀ b o, h.get? b = some o → h'.get? b = some o) : Gnd P h' := by
  obtain ⟨⟨mg, g1, g2⟩, ⟨mb, b1, b2⟩, t⟩ := G
  exact ⟨⟨mg, g1.keeps k, g2⟩, ⟨mb, b1.keeps k, b2⟩, t⟩
section
variable {prog : Program} {w : World} {A : Around} {E : Value → Shared → Prop} {R : Result → Shared → Prop} {s : Shared} {K : Frag} {C fI : Addr} {f : Str}
theorem sup_init (T : Txt prog K f C fI) {h0 : Heap} (G : Gnd prog h0) {x t0 : Addr} {v : Value} (X0 : K.In h0) (k0 : ∀ b o, h0.get? b = some o → s.heap.get? b = some o) (z0 : h0.objs.size ≤ s.heap.objs.size) (hx0 : h0.get? x = none) (hlim : s.heap.NoLimit) (hx : s.heap.get? x = some (excO C t0)) (hroom : A.depth < recursionLimit)
    (hq : ∀ h' tk dx t1, InitEnd f h0 h' x C dx t1 v → R (.ok (.ret .none)) { s with heap := h', toks := tk }) :
    codeAny (model prog w) A (.call (.ref fI) ⟨[.ref x, v], []⟩) R s := by
  obtain ⟨oc, od, doc, pm, an, cda, ct, cc, osl, text, q, j, p1, p2, r1, r2, r3, r4, r5, r6, q1, q2, q3, q4, ho, hcd, hev, ⟨ccl, cdd, vs, ccs, file, tf, hcode, hvs, hfile⟩, cl, cld, csl, D, cdD, hcell, hD, hsub, hsup⟩ := T.fn
  obtain ⟨nm, qn, N, bs, bm, sn, sub, ab, col, dd, k0', k1, k2, k3, k5, hC, hbm⟩ := T.cls
  have hcl : clsIn K C = some { name := nm, bases := bs, mro := .ref C :: bm, ns := N, qualname := qn, hasDict := true, slotNames := sn, subclasses := sub, abstract := ab, collection := col, hasDel := false } := by unfold clsIn; rw [hC] <;> rfl
  have X := X0.keeps k0
  refine ks_codeAny_call_defAt (fd := ksFn "__init__" q (iA f p1 p2) (iB f text j r1 r2 r3 r4 r5 r6 q1 q2 q3 q4) (iS f) .none .none doc pm an (.ref cda) ct cc) (body := iB f text j r1 r2 r3 r4 r5 r6 q1 q2 q3 q4) (binds := [("self", .ref x), (f, v)])
    hroom (X _ _ ho) rfl hlim (codeRec_of X hcd) rfl (BindsTo.of_eq ?hb) ?hce ?hlo (fun h₁ hns hk₁ => ?_) rfl rfl rfl
  case hb => exact T.bd.b _ _ _ _ _ _ _ _ _ _ _ _
  case hce =>
    intro y hy
    have hy : y ∈ (iS f).names := hy
    simp only [iS, List.mem_cons, List.not_mem_nil, or_false] at hy
    rcases hy with rfl | rfl | rfl | rfl <;> simp
  case hlo =>
    intro y hy
    simp only [List.mem_cons, List.not_mem_nil, or_false] at hy
    have hfs := T.bd.n
    rcases hy with rfl | rfl
    · rfl
    · exact T.bd.l
  · have kb : ∀ b o, h0.get? b = some o → h₁.get? b = some o := fun b o e => hk₁ b o (k0 b o e)
    have nL : x ≠ s.heap.objs.size := Nat.ne_of_lt (Heap.lt_size hx)
    have F1 : Fr h0 s.heap.objs.size h₁ (fun y => [(("self" : Str), Value.ref x), (f, v)].reverse.lookup y) := ⟨hns, kb, z0⟩
    have N1 : News h0 s.heap.objs.size h₁ [(x, excObj C t0 none .none)] := fun p hp => by
      rw [List.mem_singleton.mp hp]
      exact ⟨hk₁ _ _ hx, nL, hx0⟩
    have hm1 : [(f, v), (("self" : Str), Value.ref x)].lookup ("self" : Str) = some (.ref x) := by
      have e : (("self" : Str) == f) = false := by
        have := T.bd.n
        rw [beq_eq_false_iff_ne] at this ⊢
        exact Ne.symm this
      simp [List.lookup, e]
    have hm2 : [(f, v), (("self" : Str), Value.ref x)].lookup f = some v := by simp [List.lookup]
    have X1 : K.In h₁ := X0.keeps kb
    obtain ⟨⟨mg, g1, g2⟩, ⟨mb, b1, b2⟩, top⟩ := G.keeps kb
    obtain ⟨oD, hD1, hD2⟩ : ∃ oD, h₁.get? D = some oD ∧ oD.data = .cls cdD := by
      unfold clsIn at hD
      split at hD
      · rename_i hz
        cases hD
        exact ⟨_, X1 _ _ hz, rfl⟩
      · cases hD
    -- super().__init__(text)
    obtain ⟨pl, hev⟩ := hev (ksEnv q (iS f) s.heap.objs.size fI (.ref cda) cc)
    refine ks_wpAt_execs_cons (ks_wpAt_Expr_any (ks_wpAt_MethodCall ?_ hev) (by rfl) (by rfl))
    refine ks_wpAt_super_base (f := fI) (cc := cda) T.bd.s T.bd.c (by decide) rfl (X1 _ _ ho) rfl rfl rfl (X1 _ _ hcode) rfl hvs hfile top ?_
    refine ks_loadName_global rfl T.bd.s (loadGlobal_builtin g1 g2 b1 b2 ⟨rfl, ?_⟩)
    refine wpAny_loadName_free rfl T.bd.c rfl ⟨_, X1 _ _ hcell, rfl⟩ ?_
    refine wpAny_loadName_local rfl rfl hns hm1 ?_
    refine ks_wpAny_isType_cls hD1 hD2 ⟨rfl, ?_⟩
    refine ks_wpAny_call_super hD1 hD2 (hk₁ _ _ hx) rfl (fun c e => by cases e) (looks_mroIn X1 hsub) (fun h₂ e₂ k₂ => ?_)
    have X2 : K.In h₂ := X1.keeps k₂
    have hal : alongIn K "__init__" (((Value.ref C :: bm).dropWhile (· != .ref D)).drop 1) = some (some (.builtin "ValueError.__init__")) := by
      have z := hsup
      unfold ks_superIn at z
      rw [hcl] at z
      exact z
    have hxo : h₂.get? x = some (excO C t0) := k₂ _ _ (hk₁ _ _ hx)
    have I2 : InstAt h₂ x (excO C t0) C none := ⟨hxo, rfl, rfl, trivial⟩
    refine kxs_getMethod kxs_ValueError e₂ (looks_opaque X2 T.st) (l₀ := .ref C :: bm) ((looks_clsIn X2 hcl).andThen .now) rfl X2 hal (I2.type.andThen (looks_subIn X2 T.veC)) (ks_ne X2 I2 hcl) (by decide) ?_
    show wpAny _ _ (callWith r5 (.ref h₂.objs.size) [] _ []) _ _ _
    have hu : (h₂.push (kxs_mw "ValueError.__init__" x)).get? h₂.objs.size = some (kxs_mw "ValueError.__init__" x) := Heap.get?_push_at rfl rfl
    refine kxs_callWith (i := "ValueError.__init__") (x := x) rfl (evalArgs_plain (spliced_cons (Constant_str (k := j) (pos := r4) (spliced_nil ⟨hu, ?_⟩))))
    have lt2 : h₁.objs.size < h₂.objs.size := Heap.lt_size e₂
    have lL : s.heap.objs.size < h₁.objs.size := hns.lt
    have k3 : ∀ b o, h₁.get? b = some o → (h₂.push (kxs_mw "ValueError.__init__" x)).get? b = some o := fun b o e => Heap.get?_push_of_some _ (k₂ b o e)
    have n0 : ∀ b : Addr, s.heap.objs.size ≤ b → h0.get? b = none := fun b hb => Heap.get?_none_of_le (Nat.le_trans z0 hb)
    have F3 : Fr h0 s.heap.objs.size (h₂.push (kxs_mw "ValueError.__init__" x)) (fun y => [(("self" : Str), Value.ref x), (f, v)].reverse.lookup y) := ⟨hns.keeps k3, fun b o e => k3 b o (kb b o e), z0⟩
    have hxu : x ≠ h₂.objs.size := Nat.ne_of_lt (Heap.lt_size hxo)
    have N3 : News h0 s.heap.objs.size (h₂.push (kxs_mw "ValueError.__init__" x)) [(h₂.objs.size, kxs_mw "ValueError.__init__" x), (x, excObj C t0 none .none)] := fun p hp => by
      rcases List.mem_cons.mp hp with rfl | hp
      · exact ⟨hu, Nat.ne_of_gt (Nat.lt_trans lL lt2), n0 _ (Nat.le_of_lt (Nat.lt_trans lL lt2))⟩
      · rw [List.mem_singleton.mp hp]
        exact ⟨Heap.get?_push_of_some _ hxo, nL, hx0⟩
    refine kxs_call (dv := none) (c2 := .none) F3 X0 N3 PySem.F.excBase_ValueError T.ei List.mem_cons_self (.tail (Ne.symm hxu) (.head fun p hp => nomatch hp)) (one_size _) (fun t1 h₄ F4 N4 l4 => ?_)
    have hx4 : h₄.get? x = some (excObj C t1 none .none) := (N4 _ (List.mem_cons_of_mem _ (List.mem_cons_of_mem _ List.mem_cons_self))).1
    have X4 : K.In h₄ := X0.keeps F4.keep
    -- self.f = f
    refine wpAt_of_wpAny ?_
    refine wpAny_execs_cons (plainObj_wpAny_Assign_Attribute ?_)
    refine wpAny_Name (wpAny_loadName_local rfl T.bd.l F4.ns hm2 ?_) T.bd.d
    refine wpAny_Name (wpAny_loadName_local rfl rfl F4.ns hm1 ?_) (by decide)
    refine set_plain X4 (ox := excObj C t1 none .none) (od := none) ⟨hx4, rfl, rfl, trivial⟩ T.sa ?_
    refine exc_osa X4 hx4 hcl (show refsVE (.ref C :: bm) = true from hbm) rfl T.noN (fun h₅ tk₅ dx k₅ dn dne hx₅ hn₅ => ?_)
    show wpAny _ _ (execs [] _) _ _ _
    have z4 : s.heap.objs.size < h₄.objs.size := F4.ns.lt
    refine wpAny_execs_nil (hq h₅ tk₅ dx t1 ⟨fun b o e => k₅ b o (fun z => by rw [z, hx0] at e; cases e) (F4.keep b o e), hx₅, Nat.le_trans z0 (Nat.le_of_lt (Nat.lt_of_lt_of_le z4 dn)), dne, hn₅⟩)
theorem sup_made (T : Txt prog K f C fI) (G : Gnd prog s.heap) {v : Value} (X : K.In s.heap) (hlim : s.heap.NoLimit) (hroom : A.depth + 1 < recursionLimit)
    (hq : ∀ h' tk e d, OwnMade f s.heap h' e C d v → R (.ok (.ret (.ref e))) { s with heap := h', toks := tk }) :
    codeAny (model prog w) A (.call (.ref C) ⟨[v], []⟩) R s := by
  obtain ⟨nm, qn, N, bs, bm, sn, sub, ab, col, dd, k0', k1, k2, k3, k5, hC, hbm⟩ := T.cls
  obtain ⟨hp, g, dr, tk, os⟩ := s
  have k : ∀ b o, hp.get? b = some o → ((hp.push (kdv_tup [v])).push (excO C hp.objs.size)).get? b = some o := fun b o e => Heap.get?_push_of_some _ (Heap.get?_push_of_some _ e)
  have hget : ((hp.push (kdv_tup [v])).push (excO C hp.objs.size)).get? (hp.objs.size + 1) = some (excO C hp.objs.size) := by heap_get
  refine call_own F.excBase_ValueError (fun Y => refsVE_contains Y bm hbm) (X _ _ hC) (looks_findIn X T.iC) (fun self => bind_fn X self T.tC) (one_size v) ?_
  refine sup_init (s := ⟨(hp.push (kdv_tup [v])).push (excO C hp.objs.size), g, dr, tk, os⟩) T (h0 := hp) G X k ?_ (Heap.get?_none_of_le (Nat.le_succ _)) (hlim.keeps k) hget ?_ fun h' tk' dx t1 ⟨k', hx, dn, dne, hns⟩ => ?_
  · show hp.objs.size ≤ ((hp.push (kdv_tup [v])).push (excO C hp.objs.size)).objs.size
    rw [Heap.size_push, Heap.size_push]
    omega
  · show A.depth + 1 < recursionLimit
    exact hroom
  · exact ⟨rfl, hq h' tk' (hp.objs.size + 1) dx ⟨k', Nat.le_succ _, ⟨_, _, hx, rfl, rfl, rfl, rfl⟩, dn, dne, hns⟩⟩
end
theorem gnd_of {X : Cx} {pins : List (Addr × Obj)} {σ : L2.St} {H : Hp} {s : Shared} (I : Inv X pins σ H s) (gs : X.mg "super" = none) (top : (X.prog.main.scope.names.lookup ("super" : Str)).isSome = false) : Gnd X.prog s.heap := by
  obtain ⟨mb, b1, b2⟩ := I.mod.blt
  exact ⟨⟨X.mg, I.mod.glob.keeps I.bk, gs⟩, ⟨mb, b1.keeps I.bk, (b2 _ (by decide)).trans (by kernel_rfl)⟩, top⟩
theorem relO_one {f : Str} {v : V} {u : Value} (r : RelV v u) (g : Str) : RelO (List.lookup g [(f, v)]) (if g = f then some u else none) := by
  by_cases h : g = f
  · subst h
    rw [if_pos rfl]
    have q : List.lookup g [(g, v)] = some v := by simp [List.lookup]
    rw [q]
    exact r
  · rw [if_neg h]
    have q1 : (g == f) = false := by simpa using h
    have q2 : List.lookup g [(f, v)] = none := by simp [List.lookup, q1]
    rw [q2]
    trivial
section
variable {X : Cx} {C fI : Addr} {f x : Str}
/-- x(e), to be raised -/
def tMk (f : Str) (C : Addr) (ta : TA) : L2.St → Hp → XK → Prop := fun σ H Q => ta σ H fun vs H1 => ∃ v, vs = [v] ∧ ∀ d, H1 d = none → Q (.ref C) (some d) (upd H1 d (.xd [(f, v)]))
theorem pmk_sup {a : Expr} {ta : TA} {p pos : Pos} {k : Nat} (T : Txt X.prog X.K f C fI) (gs : X.mg "super" = none) (top : (X.prog.main.scope.names.lookup ("super" : Str)).isSome = false) (gC : X.mg x = some (.ref C)) (hr : Room k X.A) (ha : PA X [a] ta) (hg : Gl X x)
    (hdb : (x == ("__debug__" : Str)) = false) (he : starEach (a :: []) X.env = (false, eval a X.env) :: starEach [] X.env) (hpl : (backTo pos (starEach [] X.env)).any (·.1) = false) :
    PMk X (.Call (.Name x p) [a] [] pos) (tMk f C ta) := by
  intro pins s σ H Q I h
  refine wpAny_Call_Name_kw (ld_glob I hg gC ?_ hdb)
  refine callWith_K (h₀ := X.base) I.ok.mod.kin T.kC (thn (ha.run pos pins s σ H _ I h) fun us s1 hh => ?_) he hpl
  obtain ⟨vs, H1, I1, rs, v, ev, q1⟩ := hh
  subst ev
  refine ⟨I1.kIn, ?_⟩
  cases rs with
  | cons rv rn =>
    rename_i u us'
    cases rn
    have G := gnd_of I1 gs top
    have hlim := I1.nolimit
    show wpAny _ _ (call (.ref C) [u]) _ _ _
    obtain ⟨hp, g, dr, tk, os⟩ := s1
    refine wpAny_call (sup_made T G I1.kIn hlim (by have := hr.dp; omega) fun h' tk' e d M => ?_)
    obtain ⟨oe, fv, hoe, hc, hd, hdat, h1⟩ := M.obj
    have hns := M.ns
    obtain ⟨B, b1, b2⟩ := restrict h' fun b => decide (b ≠ e)
    have bk : ∀ b, b ≠ e → B.get? b = h'.get? b := fun b hb => b1 b (decide_eq_true hb)
    have be : B.get? e = none := b2 e (by simp)
    have old : ∀ b o, hp.get? b = some o → B.get? b = some o := fun b o q => (bk b (Nat.ne_of_lt (Nat.lt_of_lt_of_le (Heap.lt_size q) M.new))).trans (M.keep b o q)
    have ob : ObjOk X.prog X.w (upd H1 d (.xd [(f, v)])) B d (.xd [(f, v)]) := ⟨_, hns.at (fun o q => (bk d M.dne).trans q), fun g => relO_one rv g⟩
    have J : Inv X pins σ (upd H1 d (.xd [(f, v)])) ⟨B, g, dr, tk', os⟩ := I1.laid (t' := tk') old M.dbig ob
    refine ⟨e, oe, fv, ⟨B, g, dr, tk', os⟩, _, .ref C, some d, rfl, J, fun b o q => ?_, be, hoe, ⟨hc, hd⟩, hdat, h1, ?_, rfl, I1.bare, raises_own T.exC T.tyC, q1 d (I1.hok.fresh M.dbig)⟩
    · by_cases hb : b = e
      · have q' : B.get? b = some o := q
        rw [hb, be] at q'; cases q'
      · exact (bk b hb).symm.trans q
    · rw [upd_ne (Ne.symm M.dne)]
      exact I1.hok.fresh M.new
end
end Sup

set_option Elab.async false
set_option linter.all false
set_option maxRecDepth 100000
/-! X2: a try with several except clauses, each with or without a name of its own. -/
namespace Sup
open PySem PySem.Spec PyProof.Rows L2
/-- a clause: its class, the slot of its name, its suite's reading -/
abbrev Cl : Type := Value × Option Nat × (Addr → Value → Option Addr → TS)
/-- the ways out of a suite whose name goes -/
def goneD (D : Ends) : Option Nat → Ends
  | none => D
  | some i => { nx := fun σ H => D.nx (σ.set i none) H, rt := D.rt, bk := fun σ H => D.bk (σ.set i none) H, ct := fun σ H => D.ct (σ.set i none) H }
def heldS (σ : L2.St) (a : Addr) : Option Nat → L2.St
  | none => σ
  | some i => σ.set i (some (.ref a))
def wCl (K : PySem.W.Frag) (Wout : WX) (D : Ends) : List Cl → WX
  | [] => Wout
  | q :: r => fun cls d σ H => ∃ b, PySem.W.exmOne K cls q.1 = some b ∧ (b = true → ∀ a, H a = none → q.2.2 a cls d (goneD D q.2.1) (heldS σ a q.2.1) H) ∧ (b = false → wCl K Wout D r cls d σ H)
abbrev SuOk (X : Cx) (b : List Stmt) (ts : Addr → Value → Option Addr → TS) : Prop := ∀ (a : Addr) (oe : Obj) (cls : Value) (d : Option Addr) (pn : List (Addr × Obj)), Zc cls d oe → (∃ vs, oe.data = .fields vs) → PSs (X.suite a ((a, oe) :: pn)) b (ts a cls d)
inductive ClsOk (X : Cx) : List ExceptHandler → List Cl → Prop
  | nil : ClsOk X [] []
  | bare {x : Str} {c : Value} {ts : Addr → Value → Option Addr → TS} {st : Stmt} {suite : List Stmt} {p q : Pos} {hds : List ExceptHandler} {l : List Cl} : Names X x c → SuOk X (st :: suite) ts → ClsOk X hds l → ClsOk X (.ExceptHandler (some (.Name x p)) none (st :: suite) q :: hds) ((c, none, ts) :: l)
  | named {x n : Str} {i : Nat} {c : Value} {ts : Addr → Value → Option Addr → TS} {st : Stmt} {suite : List Stmt} {p q : Pos} {hds : List ExceptHandler} {l : List Cl} : Names X x c → X.N[i]? = some n → X.env.kindOf n = some .local → SuOk X (st :: suite) ts → ClsOk X hds l →
      ClsOk X (.ExceptHandler (some (.Name x p)) (some n) (st :: suite) q :: hds) ((c, some i, ts) :: l)
section
variable {X : Cx} {body : List Stmt} {h1 : ExceptHandler} {hds : List ExceptHandler} {l : List Cl} {pos : Pos} {tb : WX → TS} {Wout : WX}
/-- behind the body's end -/
theorem sp_try {pins : List (Addr × Obj)} {D : Ends} {xe : Value → Shared → Prop} {fl : Flow} {s : Shared} (ok : X.Ok) (h : SP (X.tr (X.pn ++ pins) xe) [] D fl s) : SP X pins D fl s := by
  cases fl with
  | next => let ⟨σ, H, J, q⟩ := h; exact ⟨σ, H, J.ofTry ok, q⟩
  | brk => let ⟨σ, H, J, q⟩ := h; exact ⟨σ, H, J.ofTry ok, q⟩
  | cont => let ⟨σ, H, J, q⟩ := h; exact ⟨σ, H, J.ofTry ok, q⟩
  | ret u => let ⟨v, σ, H, J, r, q⟩ := h; exact ⟨v, σ, H, J.ofTry ok, r, q⟩
/-- what stands when an error of the body has come to the clauses -/
structure Ld (X : Cx) (pins : List (Addr × Obj)) (B : Heap) (sI s' : Shared) (h3 : Heap) (σ : L2.St) (H : Hp) (a : Addr) (cls : Value) (d : Option Addr) : Prop where
  J : Inv X pins σ H sI
  nb : ∀ b o, sI.heap.get? b = some o → b ∉ frs X.stack → B.get? b = some o
  up : sI.heap.UpToSlots h3
  fl : HandSPX.FlyingZ B (X.env :: X.outer) a (Zc cls d) h3
  na : H a = none
  os : s'.os = sI.os
  ag : AllBare s'.gens
section
variable {pins : List (Addr × Obj)} {B : Heap} {sI s' : Shared} {h3 h4 : Heap} {σ : L2.St} {H : Hp} {a : Addr} {cls : Value} {d : Option Addr} {D : Ends}
theorem Ld.inv (L : Ld X pins B sI s' h3 σ H a cls d) (fl4 : HandSPX.FlyingZ B (X.env :: X.outer) a (Zc cls d) h4) (u : h3.UpToSlots h4) : Inv X pins σ H { s' with heap := h4 } :=
  L.J.landed (s' := { s' with heap := h4 }) L.nb fl4.1 (L.up.trans u) L.os L.ag
theorem Ld.apart (L : Ld X pins B sI s' h3 σ H a cls d) (hf : X.env.frame = some X.env.locals) (fl4 : HandSPX.FlyingZ B (X.env :: X.outer) a (Zc cls d) h4) : a ≠ X.env.locals ∧ a ∉ X.fs := by
  obtain ⟨oe, vs, he, hz, hd⟩ := fl4.there
  have no : a ∉ frs (X.env :: X.outer) := fun hm => by
    obtain ⟨_, o2, e2, n2⟩ := fl4.2.2.1.mem hm
    rw [he] at e2; cases e2
    exact n2 _ hd
  refine ⟨fun z => no (List.mem_filterMap.mpr ⟨X.env, List.mem_cons_self, by rw [hf, z]⟩), fun hm => ?_⟩
  obtain ⟨e, he2, q⟩ := List.mem_filterMap.mp hm
  exact no (List.mem_filterMap.mpr ⟨e, List.mem_cons_of_mem _ he2, q⟩)
/-- the clauses, one behind another -/
theorem walk_cl (ok : X.Ok) (hs : X.stack = X.env :: X.outer) (hf : X.env.frame = some X.env.locals) (hN : X.N.Nodup) (tk : Takes X Wout) (L : Ld X pins B sI s' h3 σ H a cls d) : ∀ {hds : List ExceptHandler} {l : List Cl}, ClsOk X hds l → wCl X.K Wout D l cls d σ H →
    wpAny (model X.prog X.w) X.A (handleBy (.ref a) X.env hds) (SP X pins D) X.xe { s' with heap := h3 } := by
  have J3 : Inv X pins σ H { s' with heap := h3 } := L.inv L.fl (Heap.UpToSlots.refl _)
  obtain ⟨oe, vs, he, hz, hd⟩ := L.fl.there
  obtain ⟨nL, nF⟩ := L.apart hf L.fl
  have S3 := J3.suite he hd L.na nL nF
  intro hds l hk
  have test : ∀ {x : Str} {c : Value} {p : Pos} {Q : Value → Shared → Prop} {E : Value → Shared → Prop}, Names X x c → Q c { s' with heap := h3 } → wpAny (model X.prog X.w) (X.A.mark (some (.ref a))) (eval (.Name x p) X.env) Q E { s' with heap := h3 } := fun hn q => by
    rcases hn with ⟨g1, g2, g3 | ⟨g3, g4, g5⟩⟩
    · exact ld_glob (X := X.suite a ((a, oe) :: (X.pn ++ pins))) S3 g1 g3 q g2
    · exact ld_blt (X := X.suite a ((a, oe) :: (X.pn ++ pins))) S3 g1 g3 g4 q g5 g2
  have look : PySem.W.Looks (model X.prog X.w) h3 (typeOf (.ref a)) cls := fun A2 Q2 E2 s2 k2 q2 => wpAny_typeOf_ref (k2 _ _ he) (by rw [hz.1]; exact q2)
  induction hk with
  | nil =>
    intro w
    obtain ⟨_, _, _, oe1, vs1, T, oT, ts, he1, hz1, hd1, f1, _⟩ := id L.fl
    refine wpAny_handleBy_nil ?_
    unfold PySem.passOn
    refine wpAny_bind (wpAny_field he1 hd1 f1 ?_)
    rw [if_neg (show ¬ ((Value.ref T == Value.none) = true) from by simp)]
    have thrown : wpAny (model X.prog X.w) X.A (setFlight (.ref a) X.env.frame) (fun _ s2 => wpAny (model X.prog X.w) X.A (throw (.ref a) : Sem Flow) (SP X pins D) X.xe s2) X.xe { s' with heap := h3 } := by
      rw [hf]
      refine HandSPX.setFlight_upZ L.fl fun h5 f5 u5 => wpAny_throw (tk _ _ ?_)
      exact ⟨a, B, sI, pins, σ, H, cls, d, rfl, L.J, L.nb, L.up.trans u5, .inr (.inr (by rw [hs]; exact f5)), L.na, L.os, L.ag, w⟩
    first
      | exact wpAny_bind (wpAny_pure (wpAny_bind thrown))
      | exact wpAny_bind thrown
  | bare hn hsu r ih =>
    rintro ⟨b, e1, yes, no⟩
    refine wpAny_handleBy_cons (codeAny_handlers_test (test hn ((PySem.W.exm_one (M := model X.prog X.w) J3.kIn look e1).here ?_))) (by intro q; cases q)
    cases b with
    | false => exact ih (no rfl)
    | true =>
      refine codeAny_handlers_suite (HandSPX.lands_againZ L.fl fun h5 f5 u5 => ?_)
      have J5 := L.inv f5 u5
      obtain ⟨oe5, vs5, he5, hz5, hd5⟩ := f5.there
      refine wpAny_mono ((hsu a oe5 cls d (X.pn ++ pins) hz5 ⟨_, hd5⟩).run [] _ _ H D (J5.suite he5 hd5 L.na nL nF) (yes rfl a L.na)) (fun fl s6 out => ?_) fun _ _ z => z.elim
      cases fl with
      | next => let ⟨σ6, H6, S6, q6⟩ := out; exact ⟨σ6, H6, S6.unsuite ok, q6⟩
      | brk => let ⟨σ6, H6, S6, q6⟩ := out; exact ⟨σ6, H6, S6.unsuite ok, q6⟩
      | cont => let ⟨σ6, H6, S6, q6⟩ := out; exact ⟨σ6, H6, S6.unsuite ok, q6⟩
      | ret u => let ⟨v6, σ6, H6, S6, r6, q6⟩ := out; exact ⟨v6, σ6, H6, S6.unsuite ok, r6, q6⟩
  | @named x n i c ts st suite p q hds l hn hi hln hsu r ih =>
    rintro ⟨b, e1, yes, no⟩
    refine wpAny_handleBy_cons (codeAny_handlers_test (test hn ((PySem.W.exm_one (M := model X.prog X.w) J3.kIn look e1).here ?_))) (by intro q; cases q)
    cases b with
    | false => exact ih (no rfl)
    | true =>
      refine codeAny_handlers_suite_as (HandSPX.lands_againZ L.fl fun h5 f5 u5 => ?_)
      have J5 := L.inv f5 u5
      obtain ⟨oe5, vs5, he5, hz5, hd5⟩ := f5.there
      refine store_ok (X := X.suite a ((a, oe5) :: (X.pn ++ pins))) (v := .ref a) (J5.suite he5 hd5 L.na nL nF) hN hi (.inl hln) rfl (fun s5 S5 => ?_) (.inr hln)
      have gone : ∀ {σ6 : L2.St} {H6 : Hp} {s6 : Shared} {Q : Shared → Prop}, Inv (X.suite a ((a, oe5) :: (X.pn ++ pins))) [] σ6 H6 s6 → (∀ s7, Inv X pins (σ6.set i none) H6 s7 → Q s7) →
          wpAny (model X.prog X.w) X.A (do bindName X.env n .none; unbindBehindTheSuite X.env n q) (fun _ s7 => Q s7) X.xe s6 := fun S6 hq => gone_ok (S6.unsuite ok) hN hi hln hq
      refine wpAny_mono ((hsu a oe5 cls d (X.pn ++ pins) hz5 ⟨_, hd5⟩).run [] s5 _ H _ S5 (yes rfl a L.na)) (fun fl s6 out => ?_) fun _ _ z => z.elim
      cases fl with
      | next => let ⟨_, _, S6, q6⟩ := out; exact gone S6 fun s7 J7 => ⟨_, _, J7, q6⟩
      | brk => let ⟨_, _, S6, q6⟩ := out; exact gone S6 fun s7 J7 => ⟨_, _, J7, q6⟩
      | cont => let ⟨_, _, S6, q6⟩ := out; exact gone S6 fun s7 J7 => ⟨_, _, J7, q6⟩
      | ret u => let ⟨_, _, _, S6, r6, q6⟩ := out; exact gone S6 fun s7 J7 => ⟨_, _, _, J7, r6, q6⟩
end
/-- try: body; except C1 as n: .. except C2: .. -/
theorem ps_clauses (hs : X.stack = X.env :: X.outer) (hf : X.env.frame = some X.env.locals) (hN : X.N.Nodup) (tk : Takes X Wout)
    (hb : ∀ (W : WX) (pn : List (Addr × Obj)) (xe : Value → Shared → Prop), Takes (X.tr pn xe) W → PassesOwn (model X.prog X.w) X.A X.env xe → PSs (X.tr pn xe) body (tb W))
    (hh : ClsOk X (h1 :: hds) l) : PS X (.Try body (h1 :: hds) [] [] pos) (fun D σ H => tb (wCl X.K Wout D l) D σ H) := by
  refine ⟨fun pins s σ H D I h => ?_⟩
  have ok := I.ok
  have hfr : X.A.frames = some (X.env :: X.outer) := by rw [ok.frames, hs]
  refine wpAny_Try_except (wpAny_mono ((hb (wCl X.K Wout D l) (X.pn ++ pins) _ (fun u s' xx => ?_) PassesOwn.looking).run [] s σ H D (I.toTry _) h) (fun fl s1 out => ?_) fun e s1 he => he)
  · obtain ⟨a, B, sI, pins', σ', H', cls, d, rfl, J, nb, up, sky, na, os, ag, w⟩ := xx
    refine Sky.land Zc.steady hfr hf (by rw [← hs]; exact sky) fun h3 fl3 u3 => ?_
    exact walk_cl ok hs hf hN tk ⟨J.ofTry ok, nb, up.trans u3, fl3, na, os, ag⟩ hh w
  · have out := sp_try ok out
    cases fl with
    | next => exact wpAny_execs_nil out
    | brk => exact out
    | cont => exact out
    | ret u => exact out
end
end Sup

set_option Elab.async false
set_option linter.all false
set_option maxRecDepth 100000
set_option maxHeartbeats 2000000
/-! X3: {elt for target in iter if ..}, elt an int or a text. -/
namespace Sup
open PySem PySem.Spec PyProof.Rows L2
abbrev setObj (X : Cx) : Obj := { cls := .type "set", dict := none, data := .set #[] 0 (.fresh 0 0 (!X.w.params.followText "set-order")) }
abbrev K0 (X : Cx) (D : Addr) : HO := SetK X.prog X.w D (fun _ => false) 0
abbrev K1 (X : Cx) (D : Addr) (S : Key → Bool) (n : Nat) (k : Key) : HO := SetK X.prog X.w D (fun j => S j || decide (j = k)) (if S k = true then n else n + 1)
/-- a turn's wish: Nx holds of what stands behind it -/
def turnW (X : Cx) (D : Addr) (g : TG) (tt : TT) (te : TE) (vs : List Nat) (σ : L2.St) (x : V) (H : Hp) (Nx : Hp → Prop) : Prop := g x (wipe σ vs) H fun σ2 H2 => wipe σ2 vs = wipe σ vs ∧ tt σ2 H2 fun b H3 =>
  if b = true then te σ2 H3 fun y H4 => ∃ (k : Key) (S : Key → Bool) (n : Nat), y = kV k ∧ H4 D = some (SetK X.prog X.w D S n) ∧ n + 1 < scanBound ∧ Nx (upd H4 D (K1 X D S n k)) else Nx H3
def tSK (X : Cx) (wi : TI) (g : TG) (tt : TT) (te : TE) (vs : List Nat) : TE := fun σ H Q => wi σ H fun J H1 => ∀ D, H1 D = none → ∃ W : Nat → Nat → Hp → Prop, (∃ m, W 0 m (upd H1 D (K0 X D))) ∧ ∀ i m H, W i m H →
  (J.stop i H ∧ Q (.ref D) H) ∨ (J.go i H ∧ ∃ Nx : Hp → Prop, (∀ H', Nx H' → ∃ m', m' < m ∧ W (i + 1) m' H') ∧ ∀ x H', J.yld i H x H' → turnW X D g tt te vs σ x H' Nx)
section
variable {X : Cx} {pins : List (Addr × Obj)} {σ : L2.St} {H H' : Hp} {s s' : Shared}
theorem setK_empty {h : Heap} (P : Program) (w : World) : (h.push { cls := .type "set", dict := none, data := .set #[] 0 (.fresh 0 0 (!w.params.followText "set-order")) }).SetOf (mixKind P w) h.objs.size (fun _ => false) 0 :=
  ⟨_, #[], 0, _, Heap.get?_push_size _ rfl, ⟨rfl, rfl, rfl⟩, rfl, (fun e he => by simp at he), (fun k => by simp), (by decide), (by rfl), rfl⟩
/-- the comprehension's frame: what was pinned within a turn stands behind it -/
theorem stands {scope : Scope} {env : Env} {fp : List Addr} (I : Inv (X.blk s H scope env fp) [] σ H' s') (hn : ∀ b ∈ fp, H' b = none) : ∀ b ∈ fp, FpOk (X.blk s H scope env fp) [] H' b := fun b hb =>
  ⟨hn b hb, (I.ok.exf b hb).1, I.ok.exfs b hb, .inl hb, fun x c e => (I.ok.exf b hb).2 x c e, fun p hp => by
    have hp' : p ∈ ([] : List (Addr × Obj)) ++ [] := hp
    simp at hp'⟩
end
section
variable {X : Cx} {elt tg iter : Expr} {ifs : List Expr} {scope : Scope} {own : List (PySem.Str × Nat)} {pos : Pos} {wi : TI} {g : TG} {tt : TT} {te : TE}
/-- one loop of the block, from a state within it -/
theorem loopK {fp : List Addr} {it : Addr} {J : It} {tn : Nat → Heap → Prop} {s3 s4 : Shared} {H3 : Hp} {ce : Env} {D : Addr} {σ : L2.St} {W : Nat → Nat → Hp → Prop} {m0 : Nat} {R : Result → Shared → Prop}
    (hc : X.calm = true) (T : Turn X.prog X.w X.K tg J fp it tn)
    (pg : PG (X.blk s3 H3 scope ce fp) tg g) (pt : PTs (X.blk s3 H3 scope ce fp) ifs tt) (pe : PE (X.blk s3 H3 scope ce fp) elt te)
    (I4 : Inv (X.blk s3 H3 scope ce fp) [] (wipe σ (own.map (·.2))) H3 s4) (st4 : tn 0 s4.heap) (nf : ∀ b ∈ fp, H3 b = none) (w0 : W 0 m0 H3) {Q : VK}
    (turn : ∀ i m H, W i m H → (J.stop i H ∧ Q (.ref D) H) ∨ (J.go i H ∧ ∃ Nx : Hp → Prop, (∀ H', Nx H' → ∃ m', m' < m ∧ W (i + 1) m' H') ∧ ∀ x H', J.yld i H x H' → turnW X D g tt te (own.map (·.2)) σ x H' Nx))
    (out : ∀ (σ' : L2.St) (H' : Hp) (s' : Shared), Inv (X.blk s3 H3 scope ce fp) [] σ' H' s' → Q (.ref D) H' → R (.ok .next) s') :
    codeAny (model X.prog X.w) X.A (.compLoop (.SetComp elt [⟨tg, iter, ifs, 0⟩] scope pos) 0 (.ref it) (.ref D) ce) R s4 := by
  refine PpSet.compLoopS_any (fun n s' => ∃ i H', Inv (X.blk s3 H3 scope ce fp) [] (wipe σ (own.map (·.2))) H' s' ∧ tn i s'.heap ∧ (∀ b ∈ fp, H' b = none) ∧ W i n H') (fun n s5 hI => ?_) m0 ⟨0, H3, I4, st4, nf, w0⟩
  obtain ⟨i, H5, I5, st5, n5, w5⟩ := hI
  rcases turn i n H5 w5 with ⟨stop, fin⟩ | ⟨go, Nx, hNx, step⟩
  · refine thnF (T.done (X.blk s3 H3 scope ce fp) rfl rfl rfl hc i [] s5 _ H5 (fun _ _ => False) I5 (stands I5 n5) st5 stop) fun r s6 hr => ?_
    obtain ⟨rfl, I6⟩ := hr
    exact out _ _ _ I6 fin
  · refine thnF (T.item (X.blk s3 H3 scope ce fp) rfl rfl rfl hc i [] s5 _ H5 (fun _ _ => False) I5 (stands I5 n5) st5 go) fun r s6 hr => ?_
    obtain ⟨u, rfl, h6⟩ := hr
    refine thnF h6 fun _ s7 h7 => ?_
    obtain ⟨x, H7, I7, r7, y7, st7, n7⟩ := h7
    refine thnF (pg.run _ s7 _ H7 x u _ (I7.pinned (stands I7 n7) (T.obj _ _ st7)) r7 (step x H7 y7)) fun _ s8 h8 => ?_
    obtain ⟨σ8, H8, I8, e8, q8⟩ := h8
    refine thnF (pt.run _ s8 σ8 H8 _ I8 q8) fun b s9 h9 => ?_
    obtain ⟨H9, I9, q9⟩ := h9
    -- behind the turn
    have back : ∀ {sE : Shared} {HE : Hp}, Inv (X.blk s3 H3 scope ce fp) ([] ++ pinsAt fp s7.heap) σ8 HE sE → Nx HE → ∃ m, m < n ∧ ∃ i H', Inv (X.blk s3 H3 scope ce fp) [] (wipe σ (own.map (·.2))) H' sE ∧ tn i sE.heap ∧ (∀ b ∈ fp, H' b = none) ∧ W i m H' := by
      intro sE HE IE nx
      obtain ⟨m', hm, w'⟩ := hNx HE nx
      have there : ∀ b ∈ fp, ∀ o, s7.heap.get? b = some o → sE.heap.get? b = some o ∧ HE b = none := fun b hb o e => by
        obtain ⟨z1, z2, _⟩ := IE.pin (b, o) (List.mem_append_right _ (List.mem_append_right _ (mem_pinsAt hb e)))
        exact ⟨z1, z2⟩
      have len : (wipe σ (own.map (·.2))).length = σ8.length := by rw [← e8, wipe_length]
      refine ⟨m', hm, i + 1, HE, (IE.unpinned (pins := [])).weak len (fun j v e => (wipe_some (by rw [e8]; exact e)).1), T.keep _ _ _ st7 fun b hb o e => (there b hb o e).1, fun b hb => ?_, w'⟩
      obtain ⟨o, e, _⟩ := T.obj _ _ st7 b hb
      exact (there b hb o e).2
    cases b with
    | false =>
      simp only [Bool.false_eq_true, if_false] at q9 ⊢
      exact back I9 q9
    | true =>
      simp only [if_true] at q9 ⊢
      refine thnF (pe.run _ s9 σ8 H9 _ I9 q9) fun z s10 h10 => ?_
      obtain ⟨yv, H10, I10, r10, k, S, n0, rfl, hD, room, nx⟩ := h10
      exact thnF (mt_saddK (X := X.blk s3 H3 scope ce fp) _ s10 σ8 H10 (.ref D) [kV k] (.ref D) [z] (fun v HE => v = .non ∧ Nx HE) I10 rfl (.cons r10 .nil) ⟨D, k, S, n0, rfl, rfl, hD, room, rfl, nx⟩) fun v sE hE => by
        obtain ⟨y, HE, IE, _, _, nx'⟩ := hE
        exact back IE nx'
/-- the made thing is laid under the name -/
theorem asg_after {X : Cx} {pins : List (Addr × Obj)} {σ : L2.St} {H' : Hp} {s' : Shared} {i : Nat} {y : PySem.Str} {py : Pos} {D : Ends} {L C : Addr} {m : PySem.Str → Option Value} (hN : X.N.Nodup) (hy : X.N[i]? = some y) (hyl : X.env.scope.names.lookup y = some .local)
    (I' : Inv X pins σ H' s') (q : gName i (.ref L) σ H' D.nx) (hn : s'.heap.Ns C m) (f : FpOk X pins H' C) :
    wpAny (model X.prog X.w) X.A (assign (.Name y py) X.env (.ref L)) (fun _ s'' => ∃ m, s''.heap.Ns C m ∧ ∀ h', Heap.SameBut C s''.heap h' → SP X pins D .next { s'' with heap := h' }) X.xe s' := by
  refine wpAny_assign_Name (store_ok2 (v := V.ref L) I' hN hy (.inl hyl) rfl (fun s2 I2 ⟨a, sb, ha⟩ => ?_) (.inr hyl))
  obtain ⟨f0, f1, f2, f3, f4, f5⟩ := f
  have haC : C ≠ a := by
    rcases ha with z | z
    · rw [z]; exact f1
    · exact fun e => f4 y a z e.symm
  exact ⟨m, hn.sameBut sb haC, fun h3 sb3 => ⟨_, H', I2.turned (t' := s2.toks) (fun b o hb e => (sb3.2 b hb).trans e) f0 f1 f3 f4 f5, q⟩⟩
/-- the block alone; behind it the set is used, or handed out -/
theorem sc_core {pins : List (Addr × Obj)} {s : Shared} {σ : L2.St} {H : Hp} {Q : VK} {pos' : Pos} {use : Option (Value → Sem Unit)} {Qf : Value → Shared → Prop} (hc : X.calm = true) (hN : X.N.Nodup) (I : Inv X pins σ H s) (hi : PI X tg iter wi) (ok : BlkOk X.N X.env.scope scope own)
    (hg : ∀ (s : Shared) (H : Hp) (C : Addr) (cl : List (PySem.Str × Addr)) (fp : List Addr), PG (X.blk s H scope (compEnvC scope cl C X.env) fp) tg g)
    (ht : ∀ (s : Shared) (H : Hp) (C : Addr) (cl : List (PySem.Str × Addr)) (fp : List Addr), PTs (X.blk s H scope (compEnvC scope cl C X.env) fp) ifs tt)
    (he : ∀ (s : Shared) (H : Hp) (C : Addr) (cl : List (PySem.Str × Addr)) (fp : List Addr), PE (X.blk s H scope (compEnvC scope cl C X.env) fp) elt te) (hs : ∀ x, foldedSetIterable iter X.env x = pure x)
    (h : tSK X wi g tt te (own.map (·.2)) σ H Q)
    (hRR : ∀ D C s' m H', Inv X pins σ H' s' → Q (.ref D) H' → s'.heap.Ns C m → FpOk X pins H' C → compPost (model X.prog X.w) X.A X.xe use Qf (.ref D) C (.ok .next) s') :
    wpAny (model X.prog X.w) X.A (comprehension (.SetComp elt [⟨tg, iter, ifs, 0⟩] scope pos) scope X.env pos' (newSet (.type "set")) false (eval iter X.env) use) Qf X.xe s := by
  have clo : ∀ y ∈ scope.names, y.2 = .free → ∃ c, X.env.cells.lookup y.1 = some c := fun y hy e => (ok.free y hy e).elim (fun k => I.ok.has _ (.inl k)) fun k => I.ok.has _ (.inr k)
  refine wpAny_comprehension_free (use := use) rfl hs (closure_ok clo) ok.kind (fun y hy e => by rw [ok.uniq y hy, e]) (thn (hi.run pins s σ H _ I h) fun xv s1 hx => thn hx fun itv s2 h2 => ?_)
  obtain ⟨it, fp, tn, J, H2, rfl, I2, T, st2, f2, q⟩ := h2
  refine PpSet.newSet_ok (newEnv_comp ?_)
  obtain ⟨D, hD⟩ : ∃ D, D = s2.heap.objs.size := ⟨_, rfl⟩
  rw [← hD]
  obtain ⟨W, ⟨m0, w0⟩, turn⟩ := q D (I2.hok.fresh (Nat.le_of_eq hD.symm))
  obtain ⟨s3, es3⟩ : ∃ s3 : Shared, s3 = { s2 with heap := s2.heap.push (setObj X) } := ⟨_, rfl⟩
  have e3 : s3.heap = s2.heap.push (setObj X) := by rw [es3]
  have I3 : Inv X pins σ (upd H2 D (K0 X D)) s3 := by
    rw [es3]
    refine I2.laid (t' := s2.toks) (fun b o e => Heap.get?_push_of_some _ e) (Nat.le_of_eq hD.symm) ?_
    rw [hD]
    exact setK_new (setK_empty X.prog X.w)
  have low : ∀ b ∈ fp, b < s2.heap.objs.size := fun b hb => (T.obj _ _ st2 b hb).elim fun o e => Heap.lt_size e.1
  have f3 : ∀ b ∈ fp, FpOk X pins (upd H2 D (K0 X D)) b ∧ b < s3.heap.objs.size := fun b hb => by
    have lt := low b hb
    refine ⟨⟨?_, (f2 b hb).2⟩, by rw [e3, Heap.size_push]; exact Nat.lt_succ_of_lt lt⟩
    rw [upd_ne (by rw [hD]; exact Nat.ne_of_lt lt)]
    exact (f2 b hb).1
  have st3 : tn 0 s3.heap := T.keep _ _ _ st2 fun b _ o e => by rw [e3]; exact Heap.get?_push_of_some _ e
  have I4 := block_start I3 ok hN f3
  have nf : ∀ b ∈ fp, (upd H2 D (K0 X D)) b = none := fun b hb => (f3 b hb).1.1
  have st4 : tn 0 (pushCells (s3.heap.push { cls := .type "dict", data := .dict #[] }) scope.names) := T.keep _ _ _ st3 fun b _ o e => pushCells_keeps _ _ _ _ (Heap.get?_push_of_some _ e)
  rw [← es3]
  have loop : codeAny (model X.prog X.w) X.A (.compLoop (.SetComp elt [⟨tg, iter, ifs, 0⟩] scope pos) 0 (.ref it) (.ref D) (compEnvC scope (cellsFrom (s3.heap.objs.size + 1) scope.names (cloFrom X.env.cells scope.names [])) s3.heap.objs.size X.env))
      (compPost (model X.prog X.w) X.A X.xe use Qf (.ref D) s3.heap.objs.size) { s3 with heap := pushCells (s3.heap.push { cls := .type "dict", data := .dict #[] }) scope.names } := by
    refine loopK (own := own) hc T (hg s3 _ s3.heap.objs.size _ fp) (ht s3 _ s3.heap.objs.size _ fp) (he s3 _ s3.heap.objs.size _ fp) I4 st4 nf w0 turn fun σ6 H6 s6 I6 q6 => ?_
    have I7 : Inv X pins σ H6 s6 := I3.call' (ch := fp) I6.os I6.base I6.hok I6.bare fun b hb => ⟨(f3 b hb).1.2.2.2.1, (f3 b hb).1.2.1, (f3 b hb).1.2.2.2.2.1, (f3 b hb).1.2.2.2.2.2⟩
    have nC : H6 s3.heap.objs.size = none := I6.free
    obtain ⟨m, hn, _⟩ := I6.loc
    exact hRR D s3.heap.objs.size s6 m H6 I7 q6 hn (I3.fpOk (Nat.le_refl _) nC)
  exact PpSet.codeAny_compStart_set loop (T.self X.A 0 _ _ _ st4 loop)
theorem pe_setK (hc : X.calm = true) (hN : X.N.Nodup) (hi : PI X tg iter wi) (ok : BlkOk X.N X.env.scope scope own)
    (hg : ∀ (s : Shared) (H : Hp) (C : Addr) (cl : List (PySem.Str × Addr)) (fp : List Addr), PG (X.blk s H scope (compEnvC scope cl C X.env) fp) tg g)
    (ht : ∀ (s : Shared) (H : Hp) (C : Addr) (cl : List (PySem.Str × Addr)) (fp : List Addr), PTs (X.blk s H scope (compEnvC scope cl C X.env) fp) ifs tt)
    (he : ∀ (s : Shared) (H : Hp) (C : Addr) (cl : List (PySem.Str × Addr)) (fp : List Addr), PE (X.blk s H scope (compEnvC scope cl C X.env) fp) elt te) (hs : ∀ x, foldedSetIterable iter X.env x = pure x) :
    PE X (.SetComp elt [⟨tg, iter, ifs, 0⟩] scope pos) (tSK X wi g tt te (own.map (·.2))) := by
  refine ⟨fun pins s σ H Q I h => ?_⟩
  rw [PpSet.eval_SetComp]
  refine sc_core hc hN I hi ok hg ht he hs h fun D C s' m H' I' q hn f => ⟨m, hn, fun h'' sb => ?_⟩
  obtain ⟨f0, f1, f2, f3, f4, f5⟩ := f
  exact ⟨.ref D, H', I'.turned (t' := s'.toks) (fun b o hb e => (sb.2 b hb).trans e) f0 f1 f3 f4 f5, rfl, q⟩
/-- name = {..} on one line, the name a local -/
theorem ps_setSc {i : Nat} {y : PySem.Str} {py spos : Pos} (hy : X.N[i]? = some y) (hyl : X.env.scope.names.lookup y = some .local) (hsw : swapsWith (.SetComp elt [⟨tg, iter, ifs, 0⟩] scope pos) (some (.Name y py)) spos.line X.env = pure true) (hc : X.calm = true) (hN : X.N.Nodup) (hi : PI X tg iter wi) (ok : BlkOk X.N X.env.scope scope own)
    (hg : ∀ (s : Shared) (H : Hp) (C : Addr) (cl : List (PySem.Str × Addr)) (fp : List Addr), PG (X.blk s H scope (compEnvC scope cl C X.env) fp) tg g)
    (ht : ∀ (s : Shared) (H : Hp) (C : Addr) (cl : List (PySem.Str × Addr)) (fp : List Addr), PTs (X.blk s H scope (compEnvC scope cl C X.env) fp) ifs tt)
    (he : ∀ (s : Shared) (H : Hp) (C : Addr) (cl : List (PySem.Str × Addr)) (fp : List Addr), PE (X.blk s H scope (compEnvC scope cl C X.env) fp) elt te) (hs : ∀ x, foldedSetIterable iter X.env x = pure x) :
    PS X (.Assign [.Name y py] (.SetComp elt [⟨tg, iter, ifs, 0⟩] scope pos) spos) (tAsg (tSK X wi g tt te (own.map (·.2))) (gName i)) := by
  refine ⟨fun pins s σ H D I h => ?_⟩
  rw [exec_Assign_Name_used _ _ _ _ hsw]
  refine wpAny_bind (wpAny_standAt (wpAny_bind ?_))
  show wpAny _ X.A (do let _ ← comprehension (.SetComp elt [⟨tg, iter, ifs, 0⟩] scope pos) scope X.env (firstIterPos [⟨tg, iter, ifs, 0⟩] pos) (newSet (.type "set")) false (eval iter X.env) (some (assign (.Name y py) X.env))) _ _ s
  have h : tSK X wi g tt te (own.map (·.2)) σ H (fun x H1 => gName i x σ H1 D.nx) := h
  refine wpAny_bind (thn (sc_core (Qf := fun _ s' => SP X pins D .next s') hc hN I hi ok hg ht he hs h fun L C s' m H' I' q hn f => ?_) fun _ s' hq => wpAny_pure (wpAny_pure hq))
  exact asg_after hN hy hyl I' q hn f
/-- name = {k: v ..} on one line, the name a local -/
theorem ps_setDc {i : Nat} {y : PySem.Str} {py spos : Pos} {kx vx : Expr} {tk tv : TE} (hy : X.N[i]? = some y) (hyl : X.env.scope.names.lookup y = some .local) (hsw : swapsWith (.DictComp kx vx [⟨tg, iter, ifs, 0⟩] scope pos) (some (.Name y py)) spos.line X.env = pure true)
    (hc : X.calm = true) (hN : X.N.Nodup) (hi : PI X tg iter wi) (ok : BlkOk X.N X.env.scope scope own)
    (hg : ∀ (s : Shared) (H : Hp) (C : Addr) (cl : List (PySem.Str × Addr)) (fp : List Addr), PG (X.blk s H scope (compEnvC scope cl C X.env) fp) tg g)
    (ht : ∀ (s : Shared) (H : Hp) (C : Addr) (cl : List (PySem.Str × Addr)) (fp : List Addr), PTs (X.blk s H scope (compEnvC scope cl C X.env) fp) ifs tt)
    (hk : ∀ (s : Shared) (H : Hp) (C : Addr) (cl : List (PySem.Str × Addr)) (fp : List Addr), PE (X.blk s H scope (compEnvC scope cl C X.env) fp) kx tk)
    (he : ∀ (s : Shared) (H : Hp) (C : Addr) (cl : List (PySem.Str × Addr)) (fp : List Addr), PE (X.blk s H scope (compEnvC scope cl C X.env) fp) vx tv) (hs : ∀ x, foldedSetIterable iter X.env x = pure x) :
    PS X (.Assign [.Name y py] (.DictComp kx vx [⟨tg, iter, ifs, 0⟩] scope pos) spos) (tAsg (tDc wi g tt tk tv (own.map (·.2))) (gName i)) := by
  refine ⟨fun pins s σ H D I h => ?_⟩
  rw [exec_Assign_Name_used _ _ _ _ hsw]
  refine wpAny_bind (wpAny_standAt (wpAny_bind ?_))
  show wpAny _ X.A (do let _ ← comprehension (.DictComp kx vx [⟨tg, iter, ifs, 0⟩] scope pos) scope X.env (firstIterPos [⟨tg, iter, ifs, 0⟩] pos) newDict false (eval iter X.env) (some (assign (.Name y py) X.env))) _ _ s
  have h : tDc wi g tt tk tv (own.map (·.2)) σ H (fun x H1 => gName i x σ H1 D.nx) := h
  refine wpAny_bind (thn (dc_core (Qf := fun _ s' => SP X pins D .next s') hc hN I hi ok hg ht hk he hs h fun L C s' m H' I' q hn f => ?_) fun _ s' hq => wpAny_pure (wpAny_pure hq))
  exact asg_after hN hy hyl I' q hn f
end
end Sup

set_option Elab.async false
set_option linter.all false
set_option maxRecDepth 100000
set_option maxHeartbeats 2000000
/-! X4: for i, x in enumerate(t), t a tuple. -/
namespace Sup
open PySem PySem.Spec PyProof.Rows L2
theorem enumT_new {v : Value} {o : Obj} {H : Heap → Prop} (B : Begins v o H) : Meets (Builtin.«enumerate.__new__» ⟨[.type "enumerate", v], []⟩) (fun _ R s => H s.heap ∧ R (.ok (.ret (.ref (s.heap.push o).objs.size)))
    { s with heap := (s.heap.push o).push { cls := .type "enumerate", data := .fields #[.none, .bool false, .ref s.heap.objs.size, rawInt 0, .none, .none] } }) :=
  .of_wp fun prog w A R s hh => by
    obtain ⟨hp, g, d, tk, os⟩ := s
    obtain ⟨h1, h⟩ := hh
    have hsub := sub_enumerate
    have begins : ∀ {A2 : Around} {E Q : Value → Shared → Prop}, Q (.ref hp.objs.size) ⟨hp.push o, g, d, tk, os⟩ → wpAny (model prog w) A2 (pyIter v) Q E ⟨hp, g, d, tk, os⟩ := fun q => B.iter prog w _ _ ⟨hp, g, d, tk, os⟩ _ h1 q
    wp_walk using begins
    refine wpAny_stack_any fun st => wpAny_pure ?_
    split
    · rename_i c _ _ _ _ _
      cases (c == Value.type "enumerate") <;> (wp_walk using begins; exact ⟨_, rfl, h⟩)
    · wp_walk using begins
      exact ⟨_, rfl, h⟩
section
variable {prog : Program} {w : World} {A : Around} {E : Value → Shared → Prop} {s : Shared}
theorem enumT_call {v : Value} {o : Obj} {H : Heap → Prop} {Q : Value → Shared → Prop} (B : Begins v o H) (h1 : H s.heap)
    (h : ∀ h', IsEnum h' (s.heap.objs.size + 1) s.heap.objs.size 0 .none → h'.get? s.heap.objs.size = some o → (∀ b o, s.heap.get? b = some o → h'.get? b = some o) → Q (.ref (s.heap.objs.size + 1)) { s with heap := h' }) :
    wpAny (model prog w) A (call (.type "enumerate") [v]) Q E s := by
  refine callType_new F.called_enumerate (by decide) (F.typeCall_enumerate_1 _) (F.newCall_enumerate_1 _) (fun obj => F.args_object_init_2 obj _) F.entry_enumerate_new (enumT_new B) ⟨h1, ?_⟩
  have hz : (s.heap.push o).objs.size = s.heap.objs.size + 1 := Heap.size_push ..
  show _ ∧ _
  rw [hz]
  have he : IsEnum ((s.heap.push o).push { cls := .type "enumerate", data := .fields #[.none, .bool false, .ref s.heap.objs.size, rawInt 0, .none, .none] }) (s.heap.objs.size + 1) s.heap.objs.size 0 .none := by
    have z := Heap.get?_push_size (s.heap.push o) (o := { cls := .type "enumerate", data := .fields #[.none, .bool false, .ref s.heap.objs.size, rawInt 0, .none, .none] }) rfl
    rw [hz] at z
    exact z
  exact ⟨⟨_, he, rfl⟩, h _ he (Heap.get?_push_of_some _ (Heap.get?_push_size _ B.free)) fun b o x => Heap.get?_push_of_some _ (Heap.get?_push_of_some _ x)⟩
end
section
variable {prog : Program} {w : World} {A : Around} {E : Value → Shared → Prop} {s : Shared}
theorem enumT_end {e it l : Addr} {i : Nat} {j : Int} {items : Array Value} {old : Value} {Q : Option Value → Shared → Prop} (hh : A.handled = none) (he : IsEnum s.heap e it j old) (hit : s.heap.IsTupleIter it l i) (hl : s.heap.IsTuple l items) (hx : items[i]? = none)
    (hQ : ∀ h', Heap.ExtBut it s.heap h' → Q none { s with heap := h' }) : wpAny (model prog w) A (pyNext (.ref e)) Q E s := by
  have ty : s.TypeIs (.ref e) "enumerate" := ⟨_, he, rfl⟩
  unfold pyNext
  refine wpAny_bind (wpAny_attempt (wpAny_callSpecial?_slot (name := Str.ofString "__next__") ty F.slot_enumerate_next (wpAny_call_entry F.slot_enumerate_next ty F.entry_enumerate_next ?_ (F.args_enumerate_next_1 _))))
  show wpAny _ _ (field (.ref e) 2 >>= _) _ _ _
  refine wpAny_bind (wpAny_field he rfl (x := .ref it) rfl (wpAny_bind (wpAny_nextOf_tuple_end hh hit hl hx fun h2 x e2 hx2 => ?_)))
  obtain ⟨o, ho, hc⟩ := hx2
  exact wpAny_bind (wpAny_isInstance (T := "StopIteration") (b := true) ⟨o, ho, hc⟩ isSubtype_stop (wpAny_pure (hQ _ e2)))
end
/-- the tuple's items, each in a new pair with its number -/
def IteT (K : PySem.W.Frag) (a : Addr) : It :=
  ⟨fun i H => ∃ (xs : List V) (x : V), SqT K H a xs ∧ xs[i]? = some x, fun i H v H' => ∃ T x, v = .ref T ∧ H T = none ∧ H' = upd H T (.tup [.int (i : Nat), x]) ∧ ∀ xs, SqT K H a xs → xs[i]? = some x, fun i H => ∃ xs : List V, SqT K H a xs ∧ xs.length ≤ i⟩
theorem turn_enumT {P : Program} {w : World} {K : PySem.W.Frag} {elts : List Expr} {kk : Nat} {tpos : Pos} (a e it : Addr) (hai : a ≠ it) (hae : a ≠ e) :
    Turn P w K (.Tuple elts kk tpos) (IteT K a) [e, it] e (fun i h => (∃ old, IsEnum h e it ((i : Nat) : Int) old) ∧ h.IsTupleIter it a i ∧ e ≠ it) where
  mem := by simp
  obj := fun i h st b hb => by
    obtain ⟨⟨old, he⟩, ⟨o, ho, hc, hd⟩, _⟩ := st
    rcases (show b = e ∨ b = it by simpa using hb) with z | z
    · rw [z]; exact ⟨_, he, fun v q => nomatch q⟩
    · rw [z]; exact ⟨o, ho, fun v q => by rw [hd] at q; cases q⟩
  keep := fun i h h' ⟨⟨old, he⟩, hi, hne⟩ k => ⟨⟨old, k e (by simp) _ he⟩, hi.at fun o q => k it (by simp) o q, hne⟩
  item := by
    intro X hP hw hK hc i pins s σ H E I hf st hg
    subst hP hw hK
    obtain ⟨⟨old, he⟩, hit, hne⟩ := st
    obtain ⟨xs, x, hq, hx⟩ := hg
    obtain ⟨its, rv, p, hz⟩ := I.tuple hq
    obtain ⟨u, hu, ru⟩ := rv.get hx
    have hel : e < s.heap.objs.size := Heap.lt_size he
    have hil : it < s.heap.objs.size := by obtain ⟨_, q, _⟩ := hit; exact Heap.lt_size q
    have hlt : i < its.toArray.size := by
      have := (List.getElem?_eq_some_iff.mp hu).1
      simpa using this
    refine wpAny_pyNext_enum_itemD (Draws.tuple (A := X.A.in1) (I.ok.hd hc) it a hai its.toArray) he ⟨hit, p⟩ hlt hne (by simp; exact ⟨hne, Ne.symm hae⟩) fun y h' tk hy ho st' hT hsz hk => ?_
    have ey : y = u := by
      have h1 : its[i]? = some y := by simpa using hy
      rw [hu] at h1; cases h1; rfl
    subst ey
    refine ⟨_, rfl, wpAny_letOwnedTupleGo_enum (s := { s with heap := h', toks := tk + 1 }) ho fun h'' he' sb => ?_⟩
    have hT2 : h''.get? s.heap.objs.size = some { cls := .type "tuple", data := .seq #[.int i tk, y] } := (sb.2 _ (Nat.ne_of_gt hel)).trans hT
    have new : ObjOk X.prog X.w (upd H s.heap.objs.size (.tup [.int (i : Nat), x])) h'' s.heap.objs.size (.tup [.int (i : Nat), x]) := ⟨by show 2 ≤ sizeLine; decide, [.int i tk, y], .cons ⟨_, rfl⟩ (.cons ru .nil), ⟨_, hT2, rfl, _, rfl⟩⟩
    have I1 : Inv X pins σ (upd H s.heap.objs.size (.tup [.int (i : Nat), x])) { s with heap := h'', toks := tk + 1 } :=
      I.turnedNew (ch := [e, it]) (fun b ob hb q => (sb.2 b (fun z => hb (by simp [z]))).trans (hk b ob (fun z => hb (by simp [z])) (fun z => hb (by simp [z])) q)) hf (Nat.le_refl _) new
    refine ⟨.ref s.heap.objs.size, _, I1, rfl, ⟨_, x, rfl, I.hok.fresh (Nat.le_refl _), rfl, fun ys hy => by rw [I.tuple_inj hy hq]; exact hx⟩, ⟨⟨y, ?_⟩, st'.1.at fun o q => (sb.2 it (Ne.symm hne)).trans q, hne⟩, fun b hb => ?_⟩
    · have e1 : ((i + 1 : Nat) : Int) = (i : Int) + 1 := by omega
      rw [e1]; exact he'
    · have hb' : b < s.heap.objs.size := by
        rcases (show b = e ∨ b = it by simpa using hb) with z | z
        · rw [z]; exact hel
        · rw [z]; exact hil
      rw [upd_ne (Nat.ne_of_lt hb')]
      exact (hf b hb).1
  done := by
    intro X hP hw hK hc i pins s σ H E I hf st hg
    subst hP hw hK
    obtain ⟨⟨old, he⟩, hit, hne⟩ := st
    obtain ⟨xs, hq, hx⟩ := hg
    obtain ⟨its, rv, p, hz⟩ := I.tuple hq
    obtain ⟨f0, f1, f2, f3, f4, f5⟩ := hf it (by simp)
    have hl := rv.length
    exact enumT_end (I.ok.hd hc) he hit p (by simp; omega) fun h' eb => ⟨rfl, I.turned (t' := s.toks) (fun b o hb q => eb b o hb q) f0 f1 f3 f4 f5⟩
  self := fun A i s Q E ⟨⟨_, he⟩, _⟩ h => wpAny_pyIter_enum he h
def iEnumT (K : PySem.W.Frag) (ta : TA) : TI := fun σ H R => ta σ H fun vs H1 => ∃ a xs, vs = [.ref a] ∧ SqT K H1 a xs ∧ R (IteT K a) H1
theorem pi_enumT {X : Cx} {e : Expr} {ta : TA} {p pos tpos : Pos} {elts : List Expr} {kk : Nat} (hg : Gl X "enumerate") (hm : X.mg "enumerate" = none) (ha : PA X [e] ta) (hs : starEach [e] X.env = [(false, eval e X.env)]) :
    PI X (.Tuple elts kk tpos) (.Call (.Name "enumerate" p) [e] [] pos) (iEnumT X.K ta) := by
  refine ⟨fun pins s σ H R I h => ?_⟩
  refine Call_ (ld_blt I hg hm boot_enumerate (PyProof.Rows.callWith_type1 (thn (ha.run pos pins s σ H _ I h) fun us s1 ⟨vs, H1, I1, r1, a, xs, ev, hq, q⟩ => ?_) hs rfl))
  subst ev
  cases r1 with
  | cons r rr =>
    cases rr
    cases r
    obtain ⟨its, rv, pt, hz⟩ := I1.tuple hq
    have hal : a < s1.heap.objs.size := by obtain ⟨o, q0, _⟩ := pt; exact Heap.lt_size q0
    refine enumT_call (begins_tuple a its.toArray) pt fun h' he hit hk => wpAny_pyIter_enum he ?_
    have I2 : Inv X pins σ H1 { s1 with heap := h' } := I1.kept (t' := s1.toks) hk
    refine ⟨s1.heap.objs.size + 1, [s1.heap.objs.size + 1, s1.heap.objs.size], _, _, H1, rfl, I2, turn_enumT a (s1.heap.objs.size + 1) s1.heap.objs.size (Nat.ne_of_lt hal) (Nat.ne_of_lt (Nat.lt_succ_of_lt hal)), ⟨⟨.none, he⟩, ⟨_, hit, rfl, rfl⟩, Nat.succ_ne_self _⟩, fun b hb => ?_, q⟩
    have le : s1.heap.objs.size ≤ b := by
      rcases (show b = s1.heap.objs.size + 1 ∨ b = s1.heap.objs.size by simpa using hb) with z | z
      · rw [z]; exact Nat.le_add_right _ _
      · rw [z]; exact Nat.le_refl _
    exact I1.fpOk le (I1.hok.fresh le)
end Sup

set_option Elab.async false
set_option linter.all false
set_option maxRecDepth 100000
set_option maxHeartbeats 4000000
/-! X6: tuple * int, once or not at all. -/
namespace Sup
open PySem PySem.Spec PyProof.Rows L2
theorem tup_mulOne (l : Addr) (items : Array Value) (n : Nat) (dd : Option Addr) (sl : Array (Option Value)) (u : Tok) :
    Meets (Builtin.«tuple.__mul__» ⟨[.ref l, .int 1 u], []⟩) (fun _ R s => s.heap.get? l = some { cls := .type "tuple", dict := dd, data := .seq items n, slots := sl } ∧ R (.ok (.ret (Value.ref l))) s) :=
  .of_wp fun prog w A R s h => by
    obtain ⟨hp, g, d, tk, os⟩ := s
    obtain ⟨hl, h⟩ := h
    have f1 := AutoSeq1.idx_int
    have c1 : (items.isEmpty || (1 : Int) == 1) = true := by simp
    wp_walk using wpAny_loadPart' hl
    repeat (first
      | (refine wpAny_ite_true (decide_eq_true (by rw [c1])) ?_; wp_walk using wpAny_loadPart' hl)
      | (refine wpAny_ite_true (by first | rfl | simp) ?_; wp_walk using wpAny_loadPart' hl))
    exact ⟨_, rfl, h⟩
theorem tup_mulNone (l : Addr) (items : Array Value) (n : Nat) (dd : Option Addr) (sl : Array (Option Value)) (x : Int) (u : Tok) (c0 : (decide (x < -(2 ^ 63)) || decide (x ≥ 2 ^ 63)) = false) (c1 : (items.isEmpty || x == 1) = false) (c2 : (decide (x ≤ 0) || items.isEmpty) = true) :
    Meets (Builtin.«tuple.__mul__» ⟨[.ref l, .int x u], []⟩) (fun _ R s => s.heap.get? l = some { cls := .type "tuple", dict := dd, data := .seq items n, slots := sl } ∧ R (.ok (.ret (Value.ref s.heap.objs.size))) { s with heap := s.heap.push { cls := Value.type "tuple", data := Data.seq #[] }, toks := s.toks }) :=
  .of_wp fun prog w A R s h => by
    obtain ⟨hp, g, d, tk, os⟩ := s
    obtain ⟨hl, h⟩ := h
    have f1 := AutoSeq1.idx_int
    wp_walk using wpAny_loadPart' hl
    repeat (first
      | (refine wpAny_ite_false (decide_eq_false (by rw [c0]; exact Bool.false_ne_true)) ?_; wp_walk using wpAny_loadPart' hl)
      | (refine wpAny_ite_false (decide_eq_false (by rw [c1]; exact Bool.false_ne_true)) ?_; wp_walk using wpAny_loadPart' hl)
      | (refine wpAny_ite_true (decide_eq_true (by rw [c2])) ?_; wp_walk using wpAny_loadPart' hl))
    exact ⟨_, rfl, h⟩
def rFew (K : PySem.W.Frag) : R2 := fun x y H Q => ∃ l k xs, x = .ref l ∧ y = .int k ∧ SqT K H l xs ∧ xs ≠ [] ∧ -(2 ^ 63) ≤ k ∧ k ≤ 1 ∧ (k = 1 → Q (.ref l) H) ∧ (k ≤ 0 → ∀ p, H p = none → Q (.ref p) (upd H p (.tup [])))
theorem op_few {X : Cx} : OpR X (binaryOp .Mult) (rFew X.K) := by
  intro pins s σ H x y v u Q I rx ry h
  obtain ⟨l, k, xs, rfl, rfl, hT, hne, h1, h2, q1, q0⟩ := h
  cases rx
  obtain ⟨t, rfl⟩ := ry
  obtain ⟨its, r, ⟨⟨cls, dd, data, sl⟩, ho, hc, n, hd⟩, hs⟩ := I.tuple hT
  simp only at hc hd
  subst hc hd
  have hi : its.toArray.isEmpty = false := by
    cases its with
    | nil => exact absurd (List.eq_nil_of_length_eq_zero r.length) hne
    | cons a b => rfl
  by_cases hk : k = 1
  · subst hk
    exact wpAny_binaryOp_repeat_ref (T := "tuple") (U := "int") (by decide) ⟨_, ho, rfl⟩ (fun s' => typeIs_int s' 1 t) noFill_tuple_mul F.fills_int_mul F.slot_int_rmul repeat_tuple F.slot_int_index.lookup
      (call_meets F.slot_int_rmul (typeIs_int s 1 t) F.entry_int_rmul (F.args_int_rmul_2 _ _) (int_rmul_tuple 1 t l its.toArray n dd sl)
        ⟨ho, rfl, ⟨_, ho, rfl⟩, call_meets F.slot_tuple_mul ⟨_, ho, rfl⟩ F.entry_tuple_mul (F.args_tuple_mul_2 _ _) (tup_mulOne l its.toArray n dd sl t) ⟨ho, ⟨.ref l, H, I, rfl, q1 rfl⟩⟩⟩)
  · have k0 : k ≤ 0 := by omega
    have c0 : (decide (k < -(2 ^ 63)) || decide (k ≥ 2 ^ 63)) = false := by
      rw [decide_eq_false (by omega), decide_eq_false (by omega)] <;> rfl
    have c1 : (its.toArray.isEmpty || k == 1) = false := by
      rw [hi, Bool.false_or]
      exact beq_eq_false_iff_ne.mpr hk
    have c2 : (decide (k ≤ 0) || its.toArray.isEmpty) = true := by
      rw [decide_eq_true k0, Bool.true_or]
    refine wpAny_binaryOp_repeat_ref (T := "tuple") (U := "int") (by decide) ⟨_, ho, rfl⟩ (fun s' => typeIs_int s' k t) noFill_tuple_mul F.fills_int_mul F.slot_int_rmul repeat_tuple F.slot_int_index.lookup
      (call_meets F.slot_int_rmul (typeIs_int s k t) F.entry_int_rmul (F.args_int_rmul_2 _ _) (int_rmul_tuple k t l its.toArray n dd sl)
        ⟨ho, rfl, ⟨_, ho, rfl⟩, call_meets F.slot_tuple_mul ⟨_, ho, rfl⟩ F.entry_tuple_mul (F.args_tuple_mul_2 _ _) (tup_mulNone l its.toArray n dd sl k t c0 c1 c2) ⟨ho, ?_⟩⟩)
    refine ⟨.ref s.heap.objs.size, _, I.laid (t' := s.toks) (o := .tup []) (fun b ob q => Heap.get?_push_of_some _ q) (Nat.le_refl _) ?_, rfl, q0 k0 _ (I.hok.fresh (Nat.le_refl _))⟩
    exact ⟨Nat.zero_le _, [], .nil, IsTup.new _ _⟩
end Sup

set_option Elab.async false
set_option linter.all false
set_option maxRecDepth 100000
set_option maxHeartbeats 2000000
/-! X5: dict(zip(xs, ys)), two lists of one length. -/
namespace Sup
open PySem PySem.Spec PyProof.Rows L2
def tDz (K : PySem.W.Frag) (ta : TA) : TE := fun σ H Q => ta σ H fun vs H1 => ∃ (a b : Addr) (kvs : List (Key × V)), vs = [.ref a, .ref b] ∧ SqL K H1 a (kvs.map fun kv => kV kv.1) ∧ SqL K H1 b (kvs.map fun kv => kv.2) ∧ kvs.length ≤ 1000 ∧
  ∀ p, H1 p = none → Q (.ref p) (upd H1 p (.dK (mergeK [] kvs)))
theorem pairs_of {P : Program} {w : World} : ∀ {kvs : List (Key × V)} {us ws : List Value}, Vals (kvs.map fun kv => kV kv.1) us → Vals (kvs.map fun kv => kv.2) ws → ∃ rs : List (Key × Value), KV kvs rs ∧ rs.length = kvs.length ∧ us.length = kvs.length ∧ ws.length = kvs.length ∧ ∀ (i : Nat) u v, us[i]? = some u → ws[i]? = some v → ∃ k, rs[i]? = some (k, v) ∧ keyIs k u = true
  | [], _, _, .nil, .nil => ⟨[], .nil, rfl, rfl, rfl, fun i u v h => by simp at h⟩
  | p :: kvs, u :: us, v :: ws, .cons r1 t1, .cons r2 t2 => by
    obtain ⟨rs, h1, h2, h3, h4, h5⟩ := pairs_of (P := P) (w := w) t1 t2
    refine ⟨(p.1, v) :: rs, .cons ⟨rfl, r2⟩ h1, by simp [h2], by simp [h3], by simp [h4], fun i u' v' e1 e2 => ?_⟩
    cases i with
    | zero =>
      simp at e1 e2
      subst e1 e2
      exact ⟨p.1, rfl, kV_is (P := P) (w := w) r1⟩
    | succ i => simpa using h5 i u' v' (by simpa using e1) (by simpa using e2)
theorem pe_dictZip {X : Cx} {e1 e2 : Expr} {ta : TA} {p p2 pos pos2 : Pos} (hc : X.calm = true) (gd : Gl X "dict") (md : X.mg "dict" = none) (gz : Gl X "zip") (mz : X.mg "zip" = none) (ha : PA X [e1, e2] ta)
    (hs : starEach [e1, e2] X.env = (false, eval e1 X.env) :: starEach [e2] X.env) (hpl : (backTo pos2 (starEach [e2] X.env)).any (·.1) = false) :
    PE X (.Call (.Name "dict" p) [.Call (.Name "zip" p2) [e1, e2] [] pos2] [] pos) (tDz X.K ta) := by
  refine ⟨fun pins s σ H Q I h => ?_⟩
  have bd : bootBuiltins "dict" = some (.type "dict") := by kernel_rfl
  refine Call_ (ld_blt I gd md bd (PyProof.Rows.callWith_type1 (args_cons (Call_ (ld_blt I gz mz PyProof.Rows.boot_zip (PyProof.Rows.callWith_type1 (thn (ha.run pos2 pins s σ H _ I h) fun us s1 hh => ?_) hs hpl))) rfl) rfl))
  obtain ⟨vs, H1, I1, rv, a, b, kvs, rfl, hqx, hqy, hl, q⟩ := hh
  cases rv with
  | cons r rr =>
    cases rr with
    | cons r' rr =>
      cases rr
      cases r
      cases r'
      obtain ⟨its, v1, p1, _⟩ := I1.list hqx
      obtain ⟨its2, v2, p2', _⟩ := I1.list hqy
      obtain ⟨rs, hkv, l1, l2, l3, hrs⟩ := pairs_of (P := X.prog) (w := X.w) v1 v2
      refine call_zip_2 p1.isList p2'.isList fun h' hz hTI hTO hi1 hi2 hsz hk => args_nil ?_
      have I2 : Inv X pins σ H1 { s1 with heap := h' } := I1.kept (t' := s1.toks) hk
      have la : a < s1.heap.objs.size := p1.lt
      have lb : b < s1.heap.objs.size := p2'.lt
      have A := PairArg.zip (prog := X.prog) (w := X.w) (s1.heap.objs.size + 4) (s1.heap.objs.size + 2) (s1.heap.objs.size + 3) s1.heap.objs.size (s1.heap.objs.size + 1) a b (PySem.W.ktu_apart s1.heap.objs.size a b la lb) its.toArray its2.toArray
      have hn : min its.toArray.size its2.toArray.size = kvs.length := by simp [l2, l3]
      refine PySem.call_dict_pairs (knd := mixKind X.prog X.w) (kvs := rs) A (I2.ok.hd hc) ⟨hz, hTI, ⟨_, _, hTO⟩, hi1, hi2, p1.isList.at fun o e => hk _ _ e, p2'.isList.at fun o e => hk _ _ e⟩ ⟨by rw [l1, hn], fun i k v hr => ?_⟩ (by rw [hn]; exact Nat.le_trans hl (by rw [sizeLine_eq]; decide)) fun h2 tk hd hk2 => ?_
      · exact hrs i k v (by simpa using hr.1) (by simpa using hr.2)
      · have hD : s1.heap.objs.size ≤ h'.objs.size := by rw [hsz]; omega
        have old : ∀ b o, s1.heap.get? b = some o → h2.get? b = some o := fun b o e => by
          have lt := Heap.lt_size e
          refine hk2 b o (fun hm => ?_) (hk _ _ e)
          simp only [List.mem_cons, List.not_mem_nil, or_false] at hm
          rcases hm with h | h | h | h <;> (rw [h] at lt; first | exact absurd lt (Nat.lt_irrefl _) | exact absurd lt (Nat.not_lt.mpr (Nat.le_add_right _ _)))
        have rk : KV (mergeK [] kvs) (merged [] rs) := hkv.merge .nil
        have lz : (mergeK [] kvs).length ≤ sizeLine := by
          have h1 := length_mergeK kvs []
          rw [List.length_nil] at h1
          rw [sizeLine_eq]; omega
        have nm : (h'.objs.size == sysModules) = false := by
          exact beq_eq_false_iff_ne.mpr (Nat.ne_of_gt (Nat.lt_of_lt_of_le I1.big hD))
        exact ⟨.ref h'.objs.size, _, I1.laid (t' := tk) old hD (dk_new lz nm rk hd), rfl, q _ (I1.hok.fresh hD)⟩
end Sup

set_option Elab.async false
set_option linter.all false
set_option maxRecDepth 100000
/-! Mini 1: values, the abstract store and how a heap bears it. -/
namespace Mini
open PySem PySem.Spec PyProof.Rows L2

structure Fg where
  fr : PySem.W.Frag
  P : Program
  w : World
instance : Coe Fg PySem.W.Frag := ⟨Fg.fr⟩
end Mini
abbrev L2.Cx.G (X : L2.Cx) : Mini.Fg := ⟨X.K, X.prog, X.w⟩
namespace Mini
open PySem PySem.Spec PyProof.Rows L2

/-- data that no longer changes; rol: a list that is read alone -/
inductive D where
  | non | bl (b : Bool) | int (i : Int) | str (x : Str)
  | tup (xs : List D) | lst (xs : List D) | rol (xs : List D)
/-- a value: data, a cell of the store, nothing -/
inductive A where
  | d (x : D) | cell (n : Nat) | un
/-- a cell's content -/
inductive O where
  | lst (xs : List A) | frz (x : D)
  | tpl (xs : List A)
  | dct (kvs : List (Key × A)) | lck (kvs : List (Key × A))
  | set (ks : List Key)
  | obj (c : Str) (fs : List (Str × A))
  | exn (c : Str) (fs : List (Str × Str))
def O.isFrz : O → Bool
  | .frz _ => true
  | _ => false

inductive Al {α β : Type} (R : α → β → Prop) : List α → List β → Prop
  | nil : Al R [] []
  | cons {a b xs ys} : R a b → Al R xs ys → Al R (a :: xs) (b :: ys)
namespace Al
variable {α β : Type} {R R' : α → β → Prop}
theorem mono (h : ∀ a b, R a b → R' a b) : ∀ {xs : List α} {ys : List β}, Al R xs ys → Al R' xs ys
  | _, _, .nil => .nil
  | _, _, .cons r t => .cons (h _ _ r) (mono h t)
theorem length : ∀ {xs : List α} {ys : List β}, Al R xs ys → xs.length = ys.length
  | _, _, .nil => rfl
  | _, _, .cons _ t => congrArg (· + 1) (length t)
theorem get : ∀ {xs : List α} {ys : List β} {i : Nat} {b : β}, Al R xs ys → ys[i]? = some b → ∃ a, xs[i]? = some a ∧ R a b
  | _, _, _, _, .nil, e => by simp at e
  | _, _, 0, _, .cons r _, e => by simp at e; subst e; exact ⟨_, rfl, r⟩
  | _, _, i + 1, _, .cons _ t, e => by simpa using get (i := i) t (by simpa using e)
theorem getL : ∀ {xs : List α} {ys : List β} {i : Nat} {a : α}, Al R xs ys → xs[i]? = some a → ∃ b, ys[i]? = some b ∧ R a b
  | _, _, _, _, .nil, e => by simp at e
  | _, _, 0, _, .cons r _, e => by simp at e; subst e; exact ⟨_, rfl, r⟩
  | _, _, i + 1, _, .cons _ t, e => by simpa using getL (i := i) t (by simpa using e)
theorem append : ∀ {xs : List α} {ys : List β} {xs' : List α} {ys' : List β}, Al R xs ys → Al R xs' ys' → Al R (xs ++ xs') (ys ++ ys')
  | _, _, _, _, .nil, s => s
  | _, _, _, _, .cons r t, s => .cons r (append t s)
theorem set : ∀ {xs : List α} {ys : List β} {a : α} {b : β} (i : Nat), R a b → Al R xs ys → Al R (xs.set i a) (ys.set i b)
  | _, _, _, _, _, _, .nil => .nil
  | _, _, _, _, 0, q, .cons _ t => .cons q t
  | _, _, _, _, i + 1, q, .cons r t => .cons r (set i q t)
theorem take : ∀ {xs : List α} {ys : List β} (n : Nat), Al R xs ys → Al R (xs.take n) (ys.take n)
  | _, _, 0, _ => .nil
  | _, _, _ + 1, .nil => .nil
  | _, _, n + 1, .cons r t => .cons r (take n t)
theorem drop : ∀ {xs : List α} {ys : List β} (n : Nat), Al R xs ys → Al R (xs.drop n) (ys.drop n)
  | _, _, 0, r => r
  | _, _, _ + 1, .nil => .nil
  | _, _, n + 1, .cons _ t => drop n t
theorem split : ∀ {xs xs' : List α} {ys ys' : List β}, xs.length = ys.length → Al R (xs ++ xs') (ys ++ ys') → Al R xs ys ∧ Al R xs' ys'
  | [], _, [], _, _, h => ⟨.nil, h⟩
  | [], _, _ :: _, _, e, _ => by simp at e
  | _ :: _, _, [], _, e, _ => by simp at e
  | a :: xs, xs', b :: ys, ys', e, h => by
    cases h with
    | cons r t =>
      obtain ⟨h1, h2⟩ := split (by simpa using e) t
      exact ⟨.cons r h1, h2⟩
theorem rep {xs : List α} {ys : List β} (h : Al R xs ys) : ∀ n : Nat, Al R (List.replicate n xs).flatten (List.replicate n ys).flatten
  | 0 => .nil
  | n + 1 => by simpa [List.replicate_succ] using h.append (rep h n)
theorem reverse : ∀ {xs : List α} {ys : List β}, Al R xs ys → Al R xs.reverse ys.reverse
  | _, _, .nil => .nil
  | _, _, .cons r t => by simpa using (reverse t).append (.cons r .nil)
theorem dropLast : ∀ {xs : List α} {ys : List β}, Al R xs ys → Al R xs.dropLast ys.dropLast
  | _, _, h => by rw [List.dropLast_eq_take, List.dropLast_eq_take, h.length]; exact h.take _
end Al

/-! ### data at a value -/
mutual
inductive Rep (K : Fg) (F : Hp) : V → D → Prop
  | non : Rep K F .non .non
  | bl (b : Bool) : Rep K F (.bl b) (.bl b)
  | int (i : Int) : Rep K F (.int i) (.int i)
  | str (x : Str) : Rep K F (.str x) (.str x)
  | tup {a : Addr} {xs : List V} {ds : List D} : SqT K F a xs → Reps K F xs ds → Rep K F (.ref a) (.tup ds)
  | lst {a : Addr} {xs : List V} {ds : List D} : F a = some (.lst xs) → Reps K F xs ds → Rep K F (.ref a) (.lst ds)
  | rol {a : Addr} {xs : List V} {ds : List D} : SqL K F a xs → Reps K F xs ds → Rep K F (.ref a) (.rol ds)
inductive Reps (K : Fg) (F : Hp) : List V → List D → Prop
  | nil : Reps K F [] []
  | cons {v : V} {vs : List V} {d : D} {ds : List D} : Rep K F v d → Reps K F vs ds → Reps K F (v :: vs) (d :: ds)
end
theorem Reps.al {K : Fg} {F : Hp} : ∀ {vs : List V} {ds : List D}, Reps K F vs ds → Al (Rep K F) vs ds
  | _, _, .nil => .nil
  | _, _, .cons r t => .cons r (Reps.al t)
theorem Reps.of {K : Fg} {F : Hp} : ∀ {vs : List V} {ds : List D}, Al (Rep K F) vs ds → Reps K F vs ds
  | _, _, .nil => .nil
  | _, _, .cons r t => .cons r (Reps.of t)
theorem same_seqT {K : Fg} {H H' : Hp} {a : Addr} {xs : List V} (e : Same H H') (h : SqT K H a xs) : SqT K H' a xs := by
  rcases h with (h | ⟨o, h⟩) | h
  · exact .inl (.inl (e _ _ h))
  · exact .inl (.inr ⟨o, e _ _ h⟩)
  · exact .inr h
mutual
theorem Rep.mono {K : Fg} {F F' : Hp} (e : Same F F') : ∀ (d : D) (v : V), Rep K F v d → Rep K F' v d
  | .non, _, h => by cases h; exact .non
  | .bl b, _, h => by cases h; exact .bl b
  | .int i, _, h => by cases h; exact .int i
  | .str x, _, h => by cases h; exact .str x
  | .tup ds, _, h => by
    cases h with
    | tup hs ha => exact .tup (same_seqT e hs) (Reps.mono e ds _ ha)
  | .lst ds, _, h => by
    cases h with
    | lst hs ha => exact .lst (e _ _ hs) (Reps.mono e ds _ ha)
  | .rol ds, _, h => by
    cases h with
    | rol hs ha => exact .rol (e.seq hs) (Reps.mono e ds _ ha)
theorem Reps.mono {K : Fg} {F F' : Hp} (e : Same F F') : ∀ (ds : List D) (vs : List V), Reps K F vs ds → Reps K F' vs ds
  | [], _, h => by cases h; exact .nil
  | d :: ds, _, h => by
    cases h with
    | cons h1 h2 => exact .cons (Rep.mono e d _ h1) (Reps.mono e ds _ h2)
end
theorem Rep.up {K : Fg} {F F' : Hp} {v : V} {d : D} (h : Rep K F v d) (e : Same F F') : Rep K F' v d := Rep.mono e d v h
theorem Reps.up {K : Fg} {F F' : Hp} {vs : List V} {ds : List D} (h : Reps K F vs ds) (e : Same F F') : Reps K F' vs ds := Reps.mono e ds vs h

theorem same_upd {H : Hp} {p : Addr} {o : HO} (h : H p = none) : Same H (upd H p o) := fun b x e => by
  rw [upd_ne (ne_of_none e h)]
  exact e

/-- a value of the store -/
def RelA (K : Fg) (F : Hp) (own : List Addr) (v : V) : A → Prop
  | .d x => Rep K F v x
  | .cell n => ∃ l, own[n]? = some l ∧ v = .ref l
  | .un => False
def RelS (K : Fg) (F : Hp) (own : List Addr) (o : Option V) (a : A) : Prop := a = .un ∨ ∃ v, o = some v ∧ RelA K F own v a
theorem RelA.up {K : Fg} {F F' : Hp} {own t : List Addr} {v : V} {a : A} (h : RelA K F own v a) (e : Same F F') : RelA K F' (own ++ t) v a := by
  cases a with
  | d x => exact Rep.up h e
  | cell n =>
    obtain ⟨l, h1, h2⟩ := h
    exact ⟨l, by rw [List.getElem?_append_left (List.getElem?_eq_some_iff.mp h1).1]; exact h1, h2⟩
  | un => exact h
theorem RelA.upF {K : Fg} {F F' : Hp} {own : List Addr} {v : V} {a : A} (h : RelA K F own v a) (e : Same F F') : RelA K F' own v a := by
  have := h.up (t := []) e
  rwa [List.append_nil] at this
theorem RelS.up {K : Fg} {F F' : Hp} {own t : List Addr} {o : Option V} {a : A} (h : RelS K F own o a) (e : Same F F') : RelS K F' (own ++ t) o a := by
  rcases h with h | ⟨v, h1, h2⟩
  · exact .inl h
  · exact .inr ⟨v, h1, h2.up e⟩
/-- entries: the same key, a value of the store -/
abbrev RelP {κ : Type} (K : Fg) (F : Hp) (own : List Addr) : κ × V → κ × A → Prop := fun p q => p.1 = q.1 ∧ RelA K F own p.2 q.2
theorem RelP.up {κ : Type} {K : Fg} {F F' : Hp} {own t : List Addr} {v : κ × V} {a : κ × A} (h : RelP K F own v a) (e : Same F F') : RelP K F' (own ++ t) v a := ⟨h.1, h.2.up e⟩
/-- things that belong to another one -/
def aux : HO → Prop
  | .own _ => True
  | .xd _ => True
  | _ => False
/-- an error that an except clause holds -/
def exH (l : Addr) (c : Addr) (d : Option Addr) : HO := .ext fun h => ∃ oe, h.get? l = some oe ∧ oe.cls = .ref c ∧ oe.dict = d ∧ ∃ vs, oe.data = .fields vs
/-- a cell's object -/
def OOk (K : Fg) (F : Hp) (own : List Addr) (H : Hp) (l : Addr) : O → Prop
  | .lst xs => ∃ vs, H l = some (.lst vs) ∧ Al (RelA K F own) vs xs
  | .frz x => Rep K F (.ref l) x ∧ F l ≠ none
  | .tpl xs => ∃ vs, H l = some (.tup vs) ∧ Al (RelA K F own) vs xs
  | .dct kvs => ∃ ws, H l = some (.dK ws) ∧ Al (RelP K F own) ws kvs
  | .lck kvs => ∃ od ws, H l = some (.frz od (.dK ws)) ∧ Al (RelP K F own) ws kvs
  | .set ks => ∃ S n, H l = some (SetK K.P K.w l S n) ∧ n ≤ ks.length ∧ ∀ k, S k = ks.any fun j => decide (k = j)
  | .obj c fs => ∃ dx ws, H l = some (.ins (He.ga K c) dx ws) ∧ H dx = some (.own l) ∧ Al (RelP K F own) ws fs
  | .exn c fs => ∃ d, H l = some (exH l (He.ga K c) (some d)) ∧ H d = some (.xd (fs.map fun p => (p.1, V.str p.2)))
theorem aux_set {P : Program} {w : World} {l : Addr} {S : Key → Bool} {n : Nat} : ¬ aux (SetK P w l S n) := fun h => h
theorem aux_exH {l c : Addr} {d : Option Addr} : ¬ aux (exH l c d) := fun h => h
theorem OOk.to {K : Fg} {F F' : Hp} {own t : List Addr} {H H' : Hp} {l : Addr} {o : O} (h : OOk K F own H l o) (sF : Same F F') (hk : ∀ a u, (a = l ∨ aux u) → H a = some u → H' a = some u) : OOk K F' (own ++ t) H' l o := by
  cases o with
  | lst xs => obtain ⟨vs, hv, ha⟩ := h; exact ⟨vs, hk _ _ (.inl rfl) hv, ha.mono fun _ _ r => r.up sF⟩
  | frz x =>
    refine ⟨h.1.up sF, ?_⟩
    cases z : F l with
    | none => exact absurd z h.2
    | some u => rw [sF _ _ z]; simp
  | tpl xs => obtain ⟨vs, hv, ha⟩ := h; exact ⟨vs, hk _ _ (.inl rfl) hv, ha.mono fun _ _ r => r.up sF⟩
  | dct kvs => obtain ⟨vs, hv, ha⟩ := h; exact ⟨vs, hk _ _ (.inl rfl) hv, ha.mono fun _ _ r => r.up sF⟩
  | lck kvs => obtain ⟨od, vs, hv, ha⟩ := h; exact ⟨od, vs, hk _ _ (.inl rfl) hv, ha.mono fun _ _ r => r.up sF⟩
  | set ks => obtain ⟨S, n, hv, ha⟩ := h; exact ⟨S, n, hk _ _ (.inl rfl) hv, ha⟩
  | obj c fs => obtain ⟨dx, vs, hv, hd, ha⟩ := h; exact ⟨dx, vs, hk _ _ (.inl rfl) hv, hk _ _ (.inr trivial) hd, ha.mono fun _ _ r => r.up sF⟩
  | exn c fs => obtain ⟨d, hv, hd⟩ := h; exact ⟨d, hk _ _ (.inl rfl) hv, hk _ _ (.inr trivial) hd⟩
theorem OOk.to0 {K : Fg} {F F' : Hp} {own : List Addr} {H H' : Hp} {l : Addr} {o : O} (h : OOk K F own H l o) (sF : Same F F') (hk : ∀ a u, (a = l ∨ aux u) → H a = some u → H' a = some u) : OOk K F' own H' l o := by
  have := h.to (t := []) sF hk
  rwa [List.append_nil] at this
/-- where one started: the frozen part, the heap, the cells that were there -/
structure Base where
  F_0 : Hp
  H_0 : Hp
  ps : List Addr
structure Core (K : Fg) (B : Base) (H F : Hp) (own : List Addr) (M : List O) : Prop where
  len : own.length = M.length
  nd : own.Nodup
  fh : Same F H
  f0 : Same B.F_0 F
  hh : ∀ a o, a ∉ B.ps → B.H_0 a = some o → H a = some o
  new : ∀ a, a ∉ B.ps → B.F_0 a = none → B.H_0 a ≠ none → F a = none
  obj : ∀ (n : Nat) l o, own[n]? = some l → M[n]? = some o → OOk K F own H l o
  mtb : ∀ (n : Nat) l o, own[n]? = some l → M[n]? = some o → o.isFrz = false → F l = none ∧ (l ∈ B.ps ∨ B.H_0 l = none)
  pre : ∃ t, own = B.ps ++ t
section
variable {K : Fg} {B : Base} {H F H' F' : Hp} {own own' : List Addr} {M M' : List O}
theorem OOk.some {l : Addr} {o : O} (h : OOk K F own H l o) (e : Same F H) : H l ≠ none := by
  cases o with
  | lst xs => obtain ⟨vs, q, _⟩ := h; rw [q]; simp
  | frz x =>
    obtain ⟨_, q⟩ := h
    cases r : F l with
    | none => exact absurd r q
    | some o => rw [e _ _ r]; simp
  | tpl xs => obtain ⟨vs, q, _⟩ := h; rw [q]; simp
  | dct xs => obtain ⟨vs, q, _⟩ := h; rw [q]; simp
  | lck xs => obtain ⟨od, vs, q, _⟩ := h; rw [q]; simp
  | set xs => obtain ⟨S, n, q, _⟩ := h; rw [q]; simp
  | obj c xs => obtain ⟨dx, vs, q, _⟩ := h; rw [q]; simp
  | exn c xs => obtain ⟨d, q, _⟩ := h; rw [q]; simp
/-- no cell lies where another's belongings lie -/
theorem ook_noaux {l : Addr} {o : O} (h : OOk K F own H l o) (h0 : o.isFrz = false) : ∀ u, H l = some u → ¬ aux u := by
  intro u hu
  cases o with
  | lst xs => obtain ⟨vs, q, _⟩ := h; rw [q] at hu; cases hu; exact fun z => z
  | frz x => cases h0
  | tpl xs => obtain ⟨vs, q, _⟩ := h; rw [q] at hu; cases hu; exact fun z => z
  | dct xs => obtain ⟨vs, q, _⟩ := h; rw [q] at hu; cases hu; exact fun z => z
  | lck xs => obtain ⟨od, vs, q, _⟩ := h; rw [q] at hu; cases hu; exact fun z => z
  | set xs => obtain ⟨S, n, q, _⟩ := h; rw [q] at hu; cases hu; exact aux_set
  | obj c xs => obtain ⟨dx, vs, q, _⟩ := h; rw [q] at hu; cases hu; exact fun z => z
  | exn c xs => obtain ⟨d, q, _⟩ := h; rw [q] at hu; cases hu; exact aux_exH
theorem Core.at_own (c : Core K B H F own M) {l : Addr} (h : l ∈ own) : ∃ (n : Nat) (o : O), own[n]? = some l ∧ M[n]? = some o := by
  obtain ⟨n, hn⟩ := List.getElem?_of_mem h
  have hl := (List.getElem?_eq_some_iff.mp hn).1
  exact ⟨n, M[n]'(by rw [← c.len]; exact hl), hn, List.getElem?_eq_getElem _⟩
theorem Core.own_some (c : Core K B H F own M) {l : Addr} (h : l ∈ own) : H l ≠ none := by
  obtain ⟨n, o, h1, h2⟩ := c.at_own h
  exact (c.obj n l o h1 h2).some c.fh
/-- a new start, here -/
theorem Core.rebase (c : Core K B H F own M) : Core K ⟨F, H, own⟩ H F own M where
  len := c.len
  nd := c.nd
  fh := c.fh
  f0 := Same.refl F
  hh := fun _ _ _ h => h
  new := fun _ _ h _ => h
  obj := c.obj
  mtb := fun n l o h1 h2 h3 => ⟨(c.mtb n l o h1 h2 h3).1, .inl (List.mem_of_getElem? h1)⟩
  pre := ⟨[], by simp⟩
/-- of what is ours (not frozen) nothing stood at the start but the given cells -/
theorem Core.own_new (c : Core K B H F own M) {l : Addr} (h : l ∈ own) (hf : F l = none) : l ∈ B.ps ∨ B.H_0 l = none := by
  obtain ⟨n, o, h1, h2⟩ := c.at_own h
  cases q : o.isFrz with
  | false => exact (c.mtb n l o h1 h2 q).2
  | true =>
    cases o with
    | frz x => exact absurd hf (c.obj n l _ h1 h2).2
    | _ => cases q
theorem Core.unbase (c : Core K B H F own M) (c' : Core K ⟨F, H, own⟩ H' F' own' M') : Core K B H' F' own' M' where
  len := c'.len
  nd := c'.nd
  fh := c'.fh
  f0 := c.f0.trans c'.f0
  hh := fun a o hp h0 => by
    have h1 := c.hh a o hp h0
    by_cases ha : a ∈ own
    · cases hf : F a with
      | none =>
        rcases c.own_new ha hf with z | z
        · exact absurd z hp
        · rw [z] at h0; cases h0
      | some u =>
        have := c.fh _ _ hf
        rw [h1] at this; cases this
        exact c'.fh _ _ (c'.f0 _ _ hf)
    · exact c'.hh a o ha h1
  new := fun a hp h0 h1 => by
    have hf := c.new a hp h0 h1
    have hH : H a ≠ none := by
      cases q : B.H_0 a with
      | none => exact absurd q h1
      | some o => rw [c.hh a o hp q]; simp
    by_cases ha : a ∈ own
    · rcases c.own_new ha hf with z | z
      · exact absurd z hp
      · exact absurd z h1
    · exact c'.new a ha hf hH
  obj := c'.obj
  mtb := fun n l o h1 h2 h3 => by
    obtain ⟨hf, hl⟩ := c'.mtb n l o h1 h2 h3
    refine ⟨hf, ?_⟩
    have hF : F l = none := by
      cases q : F l with
      | none => rfl
      | some u => rw [c'.f0 _ _ q] at hf; cases hf
    rcases hl with hl | hl
    · exact c.own_new hl hF
    · by_cases hp : l ∈ B.ps
      · exact .inl hp
      · cases q : B.H_0 l with
        | none => exact .inr rfl
        | some u =>
          have e1 := c.hh l u hp q
          have e2 : H l = none := hl
          rw [e2] at e1; cases e1
  pre := by
    obtain ⟨t, e⟩ := c.pre
    obtain ⟨t', e'⟩ := c'.pre
    refine ⟨t ++ t', ?_⟩
    have e2 : own' = own ++ t' := e'
    rw [e2, e, List.append_assoc]
/-- an empty store, here -/
theorem core_nil (e : Same F H) : Core K ⟨F, H, []⟩ H F [] [] where
  len := rfl
  nd := List.nodup_nil
  fh := e
  f0 := Same.refl F
  hh := fun _ _ _ h => h
  new := fun _ _ h _ => h
  obj := fun n l o h => by simp at h
  mtb := fun n l o h => by simp at h
  pre := ⟨[], rfl⟩
/-- behind a call that got no cells -/
theorem Core.after (c : Core K B H F own M) (c' : Core K ⟨F, H, []⟩ H' F' own' M') : Core K B H' F' own M where
  len := c.len
  nd := c.nd
  fh := c'.fh
  f0 := c.f0.trans c'.f0
  hh := fun a o hp h0 => c'.hh a o (by simp) (c.hh a o hp h0)
  new := fun a hp h0 h1 => by
    have hf := c.new a hp h0 h1
    have hH : H a ≠ none := by
      cases q : B.H_0 a with
      | none => exact absurd q h1
      | some o => rw [c.hh a o hp q]; simp
    exact c'.new a (by simp) hf hH
  obj := fun n l o h1 h2 => by
    exact (c.obj n l o h1 h2).to0 c'.f0 fun a u _ hu => c'.hh a u (by simp) hu
  mtb := fun n l o h1 h2 h3 => by
    obtain ⟨hf, hl⟩ := c.mtb n l o h1 h2 h3
    have hm := List.mem_of_getElem? h1
    exact ⟨c'.new l (by simp) hf (c.own_some hm), hl⟩
  pre := c.pre
/-- the same, what was frozen for the call alone is free again -/
theorem Core.back (c : Core K B H F own M) {F1 : Hp} (e1 : Same F F1) (c' : Core K ⟨F1, H, []⟩ H' F' own' M') : Core K B H' F own M where
  len := c.len
  nd := c.nd
  fh := (e1.trans c'.f0).trans c'.fh
  f0 := c.f0
  hh := fun a o hp h0 => c'.hh a o (by simp) (c.hh a o hp h0)
  new := c.new
  obj := fun n l o h1 h2 => by
    exact (c.obj n l o h1 h2).to0 (Same.refl F) fun a u _ hu => c'.hh a u (by simp) hu
  mtb := c.mtb
  pre := c.pre
/-- something new, frozen at once -/
theorem Core.laid (c : Core K B H F own M) {p : Addr} {o : HO} (hp : H p = none) : Core K B (upd H p o) (upd F p o) own M ∧ Same F (upd F p o) := by
  have fp : F p = none := c.fh.free hp
  have ne : ∀ l, l ∈ own → l ≠ p := fun l hl e => by subst e; exact c.own_some hl hp
  have sF : Same F (upd F p o) := same_upd fp
  refine ⟨⟨c.len, c.nd, fun b x e => ?_, c.f0.trans sF, fun a x ha h0 => ?_, fun a ha h0 h1 => ?_, fun n l ob h1 h2 => ?_, fun n l ob h1 h2 h3 => ?_, c.pre⟩, sF⟩
  · by_cases hb : b = p
    · subst hb; rw [upd_same] at e ⊢; exact e
    · rw [upd_ne hb] at e ⊢; exact c.fh _ _ e
  · have := c.hh a x ha h0
    rw [upd_ne (ne_of_none this hp)]; exact this
  · have hne : a ≠ p := fun e => by
      subst e
      cases q : B.H_0 a with
      | none => exact h1 q
      | some u => rw [c.hh a u ha q] at hp; cases hp
    rw [upd_ne hne]; exact c.new a ha h0 h1
  · exact (c.obj n l ob h1 h2).to0 sF fun a u _ hu => by rw [upd_ne (ne_of_none hu hp)]; exact hu
  · have hl := ne l (List.mem_of_getElem? h1)
    rw [upd_ne hl]; exact c.mtb n l ob h1 h2 h3
/-- a new cell -/
theorem Core.push (c : Core K B H F own M) {p : Addr} {o : HO} {u : O} (hp : H p = none) (hu : u.isFrz = false) (hok : ∀ own', (∃ t, own' = own ++ t) → OOk K F own' (upd H p o) p u) : Core K B (upd H p o) F (own ++ [p]) (M ++ [u]) := by
  have fp : F p = none := c.fh.free hp
  have hnm : p ∉ own := fun h => c.own_some h hp
  have ne : ∀ l, l ∈ own → l ≠ p := fun l hl e => hnm (e ▸ hl)
  refine ⟨by simp [c.len], List.nodup_append.mpr ⟨c.nd, by simp, fun a ha b hb => ?_⟩, fun b x e => ?_, c.f0, fun a x ha h0 => ?_, c.new, fun n l ob h1 h2 => ?_, fun n l ob h1 h2 h3 => ?_, ?_⟩
  · simp at hb; subst hb; exact ne a ha
  · rw [upd_ne (ne_of_none (c.fh _ _ e) hp)]; exact c.fh _ _ e
  · have := c.hh a x ha h0
    rw [upd_ne (ne_of_none this hp)]; exact this
  · by_cases hn : n < own.length
    · rw [List.getElem?_append_left hn] at h1
      rw [List.getElem?_append_left (c.len ▸ hn)] at h2
      have hl := ne l (List.mem_of_getElem? h1)
      exact (c.obj n l ob h1 h2).to (Same.refl F) fun a u _ hu => by rw [upd_ne (ne_of_none hu hp)]; exact hu
    · have hz : n = own.length := by
        have := (List.getElem?_eq_some_iff.mp h1).1
        simp at this; omega
      subst hz
      have e1 : l = p := by simpa using h1.symm
      have e2 : ob = u := by rw [c.len] at h2; simpa using h2.symm
      subst e1; subst e2
      exact hok _ ⟨_, rfl⟩
  · by_cases hn : n < own.length
    · rw [List.getElem?_append_left hn] at h1
      rw [List.getElem?_append_left (c.len ▸ hn)] at h2
      exact c.mtb n l ob h1 h2 h3
    · have hz : n = own.length := by
        have := (List.getElem?_eq_some_iff.mp h1).1
        simp at this; omega
      subst hz
      have e1 : l = p := by simpa using h1.symm
      subst e1
      refine ⟨fp, ?_⟩
      by_cases hps : l ∈ B.ps
      · exact .inl hps
      · cases q : B.H_0 l with
        | none => exact .inr rfl
        | some w => rw [c.hh l w hps q] at hp; cases hp
  · obtain ⟨t, e⟩ := c.pre
    exact ⟨t ++ [p], by rw [e, List.append_assoc]⟩
/-- a cell's content is changed -/
theorem Core.store (c : Core K B H F own M) {n : Nat} {p : Addr} {o : HO} {u0 u : O} (hn : own[n]? = some p) (hM : M[n]? = some u0) (h0 : u0.isFrz = false) (hu : u.isFrz = false) (hok : OOk K F own (upd H p o) p u) : Core K B (upd H p o) F own (M.set n u) := by
  have fp := (c.mtb n p u0 hn hM h0).1
  have fps := (c.mtb n p u0 hn hM h0).2
  refine ⟨by simp [c.len], c.nd, fun b x e => ?_, c.f0, fun a x ha hx => ?_, c.new, fun m l ob h1 h2 => ?_, fun m l ob h1 h2 h3 => ?_, c.pre⟩
  · rw [upd_ne (ne_of_none e fp)]; exact c.fh _ _ e
  · have hne : a ≠ p := fun e => by
      subst e
      rcases fps with z | z
      · exact ha z
      · rw [z] at hx; cases hx
    rw [upd_ne hne]; exact c.hh a x ha hx
  · by_cases hm : m = n
    · subst hm
      rw [hn] at h1; cases h1
      have hlt : m < M.length := (List.getElem?_eq_some_iff.mp hM).1
      rw [List.getElem?_set_self hlt] at h2; cases h2
      exact hok
    · rw [List.getElem?_set_ne (Ne.symm hm)] at h2
      have hl : l ≠ p := fun e => by
        subst e
        obtain ⟨q1, e1⟩ := List.getElem?_eq_some_iff.mp h1
        obtain ⟨q2, e2⟩ := List.getElem?_eq_some_iff.mp hn
        exact hm ((List.getElem_inj c.nd).mp (e1.trans e2.symm))
      have na := ook_noaux (c.obj n p u0 hn hM) h0
      refine (c.obj m l ob h1 h2).to0 (Same.refl F) fun a u hau hu => ?_
      have hne : a ≠ p := fun e => by
        rcases hau with z | z
        · exact hl (z.symm.trans e)
        · rw [e] at hu; exact na u hu z
      rw [upd_ne hne]; exact hu
  · by_cases hm : m = n
    · subst hm
      rw [hn] at h1; cases h1
      exact ⟨fp, fps⟩
    · rw [List.getElem?_set_ne (Ne.symm hm)] at h2
      exact c.mtb m l ob h1 h2 h3
/-- a cell is frozen as it stands -/
theorem Core.freeze (c : Core K B H F own M) {n : Nat} {p : Addr} {o : HO} {u0 : O} {x : D} (hn : own[n]? = some p) (hM : M[n]? = some u0) (h0 : u0.isFrz = false) (hH : H p = some o) (hr : Rep K (upd F p o) (.ref p) x) :
    Core K B H (upd F p o) own (M.set n (.frz x)) ∧ Same F (upd F p o) := by
  have fp := (c.mtb n p u0 hn hM h0).1
  have fps := (c.mtb n p u0 hn hM h0).2
  have sF : Same F (upd F p o) := same_upd fp
  have neq : ∀ {m : Nat} {l : Addr}, own[m]? = some l → m ≠ n → l ≠ p := fun {m l} h1 hm e => by
    subst e
    obtain ⟨q1, e1⟩ := List.getElem?_eq_some_iff.mp h1
    obtain ⟨q2, e2⟩ := List.getElem?_eq_some_iff.mp hn
    exact hm ((List.getElem_inj c.nd).mp (e1.trans e2.symm))
  refine ⟨⟨by simp [c.len], c.nd, fun b y e => ?_, c.f0.trans sF, c.hh, fun a ha hx hy => ?_, fun m l ob h1 h2 => ?_, fun m l ob h1 h2 h3 => ?_, c.pre⟩, sF⟩
  · by_cases hb : b = p
    · subst hb; rw [upd_same] at e; cases e; exact hH
    · rw [upd_ne hb] at e; exact c.fh _ _ e
  · have hne : a ≠ p := fun e => by
      subst e
      rcases fps with z | z
      · exact ha z
      · exact hy z
    rw [upd_ne hne]; exact c.new a ha hx hy
  · by_cases hm : m = n
    · subst hm
      rw [hn] at h1; cases h1
      have hlt : m < M.length := (List.getElem?_eq_some_iff.mp hM).1
      rw [List.getElem?_set_self hlt] at h2; cases h2
      exact ⟨hr, by rw [upd_same]; simp⟩
    · rw [List.getElem?_set_ne (Ne.symm hm)] at h2
      have hl := neq h1 hm
      exact (c.obj m l ob h1 h2).to0 sF fun a u _ hu => hu
  · by_cases hm : m = n
    · subst hm
      have hlt : m < M.length := (List.getElem?_eq_some_iff.mp hM).1
      rw [List.getElem?_set_self hlt] at h2; cases h2
      cases h3
    · rw [List.getElem?_set_ne (Ne.symm hm)] at h2
      have hl := neq h1 hm
      rw [upd_ne hl]; exact c.mtb m l ob h1 h2 h3
end
end Mini

set_option Elab.async false
set_option linter.all false
set_option maxRecDepth 100000
/-! Mini 2: a small language and what it does on the abstract store. -/
namespace Mini
open PySem PySem.Spec PyProof.Rows L2

/-- an error: its class's name, its fields -/
structure Ex where
  c : Str
  fs : List (Str × Str)
inductive R (α : Type) where
  | ok (a : α) (M : List O) | ex (x : Ex) (M : List O) | no
def R.bind {α β : Type} : R α → (α → List O → R β) → R β
  | .ok a M, f => f a M
  | .ex x M, _ => .ex x M
  | .no, _ => .no
@[simp] theorem R.bind_ok {α β : Type} (a : α) (M : List O) (f : α → List O → R β) : (R.ok a M).bind f = f a M := rfl
@[simp] theorem R.bind_ex {α β : Type} (x : Ex) (M : List O) (f : α → List O → R β) : (R.ex x M).bind f = .ex x M := rfl
@[simp] theorem R.bind_no {α β : Type} (f : α → List O → R β) : (R.no).bind f = .no := rfl
/-- a statement's end -/
inductive RS where
  | nx (δ : List A) (M : List O) | rt (a : A) (M : List O) | bk (δ : List A) (M : List O) | ct (δ : List A) (M : List O) | ex (x : Ex) (δ : List A) (M : List O) | no
def RS.andThen : RS → (List A → List O → RS) → RS
  | .nx δ M, f => f δ M
  | r, _ => r
@[simp] theorem RS.andThen_nx (δ : List A) (M : List O) (f : List A → List O → RS) : (RS.nx δ M).andThen f = f δ M := rfl
@[simp] theorem RS.andThen_rt (a : A) (M : List O) (f : List A → List O → RS) : (RS.rt a M).andThen f = .rt a M := rfl
@[simp] theorem RS.andThen_bk (δ : List A) (M : List O) (f : List A → List O → RS) : (RS.bk δ M).andThen f = .bk δ M := rfl
@[simp] theorem RS.andThen_ct (δ : List A) (M : List O) (f : List A → List O → RS) : (RS.ct δ M).andThen f = .ct δ M := rfl
@[simp] theorem RS.andThen_ex (x : Ex) (δ : List A) (M : List O) (f : List A → List O → RS) : (RS.ex x δ M).andThen f = .ex x δ M := rfl
@[simp] theorem RS.andThen_no (f : List A → List O → RS) : (RS.no).andThen f = .no := rfl
def R.toS {α : Type} (r : R α) (δ : List A) (f : α → List O → RS) : RS := match r with
  | .ok a M => f a M
  | .ex x M => .ex x δ M
  | .no => .no
@[simp] theorem R.toS_ok {α : Type} (a : α) (M : List O) (δ : List A) (f : α → List O → RS) : (R.ok a M).toS δ f = f a M := rfl
@[simp] theorem R.toS_ex {α : Type} (x : Ex) (M : List O) (δ : List A) (f : α → List O → RS) : (R.ex x M).toS δ f = .ex x δ M := rfl
@[simp] theorem R.toS_no {α : Type} (δ : List A) (f : α → List O → RS) : (R.no : R α).toS δ f = .no := rfl

/-! ### looking into the store -/
def frzL (f : List O → A → Option (D × List O)) : List O → List A → Option (List D × List O)
  | M, [] => some ([], M)
  | M, a :: r => match f M a with
    | some (x, M1) => (match frzL f M1 r with
      | some (xs, M2) => some (x :: xs, M2)
      | none => none)
    | none => none
def frz : Nat → List O → A → Option (D × List O)
  | _, M, .d x => some (x, M)
  | _, _, .un => none
  | 0, _, .cell _ => none
  | k + 1, M, .cell n => match M[n]? with
    | some (.frz x) => some (x, M)
    | some (.lst xs) => (match frzL (frz k) M xs with
      | some (ds, M1) => (match M1[n]? with
        | some (.lst _) => some (.lst ds, M1.set n (.frz (.lst ds)))
        | _ => none)
      | none => none)
    | _ => none
/-- a list's items -/
def lsv (M : List O) : A → Option (List A)
  | .d (.lst ds) => some (ds.map .d)
  | .d (.rol ds) => some (ds.map .d)
  | .cell n => (match M[n]? with
    | some (.lst xs) => some xs
    | some (.frz (.lst ds)) => some (ds.map .d)
    | _ => none)
  | _ => none
/-- .. of a list that is no read-only one -/
def lsw (M : List O) : A → Option (List A)
  | .d (.lst ds) => some (ds.map .d)
  | .cell n => (match M[n]? with
    | some (.lst xs) => some xs
    | some (.frz (.lst ds)) => some (ds.map .d)
    | _ => none)
  | _ => none
def tpv (M : List O) : A → Option (List D)
  | .d (.tup ds) => some ds
  | _ => none
def newL (M : List O) (xs : List A) : R A := .ok (.cell M.length) (M ++ [.lst xs])
/-- a new list of these -/
def mkL (M : List O) (xs : List A) : R A := if xs.length ≤ sizeLine then newL M xs else .no

def tru (M : List O) : A → Option Bool
  | .d .non => some false
  | .d (.bl b) => some b
  | .d (.int i) => some (i != 0)
  | .d (.str y) => if y.length ≤ sizeLine then some ((y.length : Int) != 0) else none
  | .d (.tup ds) => some (!ds.isEmpty)
  | a => (match lsv M a with
    | some xs => some (!xs.isEmpty)
    | none => none)

/-! ### keys -/
def keyD : D → Option Key
  | .int i => some (.inl i)
  | .str x => some (.inr x)
  | _ => none
def keyA : A → Option Key
  | .d x => keyD x
  | _ => none
def keyB : Key → A
  | .inl i => .d (.int i)
  | .inr x => .d (.str x)
def valA (kvs : List (Key × A)) (k : Key) : Option A := (kvs.find? fun kv => decide (kv.1 = k)).map (·.2)
def putA (kvs : List (Key × A)) (k : Key) (v : A) : List (Key × A) := if (kvs.any fun kv => decide (kv.1 = k)) = true then kvs.map (fun kv => if kv.1 = k then (kv.1, v) else kv) else kvs ++ [(k, v)]
def dropA (kvs : List (Key × A)) (k : Key) : List (Key × A) := kvs.filter fun kv => decide (kv.1 ≠ k)
def setFd (f : Str) (v : A) : List (Str × A) → List (Str × A)
  | [] => [(f, v)]
  | (g, x) :: r => if g = f then (g, v) :: r else (g, x) :: setFd f v r
/-- a dict's entries -/
def dcv (M : List O) : A → Option (List (Key × A))
  | .cell n => (match M[n]? with
    | some (.dct kvs) => some kvs
    | some (.lck kvs) => some kvs
    | _ => none)
  | _ => none
def dcw (M : List O) : A → Option (List (Key × A))
  | .cell n => (match M[n]? with
    | some (.dct kvs) => some kvs
    | _ => none)
  | _ => none
/-! ### operators -/
inductive Bin where | add | sub | mul | fdv | mod | pow
inductive Cmp where | eq | ne | lt | le | gt | ge | isN | notN | inn | nin
inductive Ty where | non | bool | int | str | tup | lst | dic
  deriving DecidableEq
inductive Bi where | len | int | str | abs | max | min | list | tuple | comb | all | sorted
inductive Mt where | append | pop | join | extend | popi | insert
inductive IK where | seq | r1 | r2 | enum
inductive Tg where | one (i : Nat) | many (is : List Nat)

/-- a range's end is no huge number (by Nat.ble: nothing to peel where it is no numeral) -/
def inR (j : Int) : Bool := Nat.ble j.natAbs 4611686018427387903
theorem inR_ok {j : Int} (h : inR j = true) : -(2 ^ 62) ≤ j ∧ j < 2 ^ 62 := by
  have := Nat.le_of_ble_eq_true h
  omega
def bits (i : Int) : Nat := i.natAbs.log2
def okMul (i j : Int) : Bool := decide (bits i + bits j < 1000000)
def okDiv (j : Int) : Bool := decide (0 < j) && decide (bits j < 9000)
def okPow (i j : Int) : Bool := decide (0 ≤ j) && decide (j ≤ 1000000) && decide (i.natAbs < 2 ^ 64)
def addA (a b : A) (M : List O) : R A := match a, b with
  | .d (.int i), .d (.int j) => .ok (.d (.int (i + j))) M
  | .d (.str x), .d (.str y) => if x.length + y.length ≤ sizeLine then .ok (.d (.str (x ++ y))) M else .no
  | .d (.tup x), .d (.tup y) => if x.length + y.length ≤ sizeLine then .ok (.d (.tup (x ++ y))) M else .no
  | a, b => (match lsw M a, lsw M b with
    | some xs, some ys => mkL M (xs ++ ys)
    | _, _ => .no)
def subA (a b : A) (M : List O) : R A := match a, b with
  | .d (.int i), .d (.int j) => .ok (.d (.int (i - j))) M
  | _, _ => .no
def mulA (a b : A) (M : List O) : R A := match a, b with
  | .d (.int i), .d (.int j) => if okMul i j then .ok (.d (.int (i * j))) M else .no
  | .d (.tup ds), .d (.int k) => if ds.isEmpty = false ∧ inR k = true ∧ k ≤ 1000 ∧ ds.length ≤ 1000 then .ok (.d (.tup (List.replicate k.toNat ds).flatten)) M else .no
  | a, .d (.int k) => (match lsw M a with
    | some xs => if inR k && decide (xs.length * k.toNat ≤ sizeLine) then newL M (List.replicate k.toNat xs).flatten else .no
    | none => .no)
  | _, _ => .no
def fdvA (a b : A) (M : List O) : R A := match a, b with
  | .d (.int i), .d (.int j) => if okDiv j then .ok (.d (.int (i / j))) M else .no
  | _, _ => .no
def modA (a b : A) (M : List O) : R A := match a, b with
  | .d (.int i), .d (.int j) => if 0 < j then .ok (.d (.int (i % j))) M else .no
  | _, _ => .no
def powA (a b : A) (M : List O) : R A := match a, b with
  | .d (.int i), .d (.int j) => if okPow i j then .ok (.d (.int (i ^ j.toNat))) M else .no
  | _, _ => .no
def bin : Bin → A → A → List O → R A
  | .add => addA
  | .sub => subA
  | .mul => mulA
  | .fdv => fdvA
  | .mod => modA
  | .pow => powA

/-- scalars as values -/
def D.sv : D → Option V
  | .non => some .non
  | .bl b => some (.bl b)
  | .int i => some (.int i)
  | .str x => some (.str x)
  | _ => none
mutual
def D.py : D → PyData
  | .non => .none
  | .bl b => .bool b
  | .int i => .int i
  | .str x => .str x
  | .tup ds => .tuple (D.pys ds)
  | .lst ds => .list (D.pys ds)
  | .rol ds => .list (D.pys ds)
def D.pys : List D → List PyData
  | [] => []
  | d :: r => D.py d :: D.pys r
end
/-- ==, no dicts -/
def eqB (a b : A) (M : List O) : Option Bool := match a, b with
  | .d (.int i), .d (.int j) => some (i == j)
  | .d (.str x), .d (.str y) => some (x == y)
  | .d (.bl x), .d (.bl y) => some (x == y)
  | .d .non, .d .non => some true
  | a, b => (match frz 8 M a with
    | some (x, M1) => (match frz 8 M1 b with
      | some (y, _) => if SeqAt.shaped x.py && SeqAt.shaped y.py then some (PyData.eqv x.py y.py) else none
      | none => none)
    | none => none)
def eqA (a b : A) (M : List O) : Option Bool := match dcw M a, dcw M b with
  | none, none => eqB a b M
  | some ks, some ls => if ks.isEmpty && ls.isEmpty then some true else none
  | _, _ => none
def neA (a b : A) (M : List O) : Option Bool := match eqA a b M with
  | some k => some (!k)
  | none => none
def isNA (a b : A) (_ : List O) : Option Bool := match b with
  | .d .non => (match a with
    | .d .non => some true
    | .d _ => some false
    | .cell _ => some false
    | .un => none)
  | _ => none
def notNA (a b : A) (M : List O) : Option Bool := match isNA a b M with
  | some k => some (!k)
  | none => none
def ltA (a b : A) (_ : List O) : Option Bool := match a, b with
  | .d (.int i), .d (.int j) => some (decide (i < j))
  | _, _ => none
def leA (a b : A) (_ : List O) : Option Bool := match a, b with
  | .d (.int i), .d (.int j) => some (decide (i ≤ j))
  | _, _ => none
def gtA (a b : A) (_ : List O) : Option Bool := match a, b with
  | .d (.int i), .d (.int j) => some (decide (j < i))
  | _, _ => none
def geA (a b : A) (_ : List O) : Option Bool := match a, b with
  | .d (.int i), .d (.int j) => some (decide (j ≤ i))
  | _, _ => none
/-- == of scalars -/
def eqS : D → D → Bool
  | .non, .non => true
  | .bl a, .bl b => a == b
  | .bl a, .int b => (if a then 1 else 0) == b
  | .int a, .bl b => a == (if b then 1 else 0)
  | .int a, .int b => a == b
  | .str a, .str b => a == b
  | _, _ => false
def D.isSc : D → Bool
  | .non => true
  | .bl _ => true
  | .int _ => true
  | .str _ => true
  | _ => false
def scs : List A → Option (List D)
  | [] => some []
  | .d x :: r => if x.isSc then (match scs r with
    | some xs => some (x :: xs)
    | none => none) else none
  | _ :: _ => none
def seqv (M : List O) : A → Option (List A)
  | .d (.tup ds) => some (ds.map .d)
  | a => lsv M a
def sgn (x : Str) : Option Nat := match x.cps.toList with
  | [c] => some c
  | _ => none
def stv (M : List O) : A → Option (List Key)
  | .cell n => (match M[n]? with
    | some (.set ks) => some ks
    | _ => none)
  | _ => none
/-- in, by flat items -/
def innL (a b : A) (M : List O) : Option Bool := match seqv M b with
  | some ys => (match scs [a], scs ys with
    | some [x], some zs => some (zs.any fun y => eqS y x)
    | _, _ => none)
  | none => none
def innA (a b : A) (M : List O) : Option Bool := match b with
  | .d (.str y) => (match a with
    | .d (.str x) => (match sgn x with
      | some c => some (decide (c ∈ y.cps.toList))
      | none => none)
    | _ => none)
  | b => (match dcv M b with
    | some kvs => (match keyA a with
      | some k => some (valA kvs k).isSome
      | none => none)
    | none => (match stv M b with
      | some ks => (match keyA a with
        | some k => some (ks.any fun j => decide (k = j))
        | none => none)
      | none => innL a b M))
def ninA (a b : A) (M : List O) : Option Bool := match innA a b M with
  | some k => some (!k)
  | none => none
def cmp : Cmp → A → A → List O → Option Bool
  | .eq => eqA
  | .ne => neA
  | .lt => ltA
  | .le => leA
  | .gt => gtA
  | .ge => geA
  | .isN => isNA
  | .notN => notNA
  | .inn => innA
  | .nin => ninA
/-- a comparison's value -/
def cmpR (o : Cmp) (a b : A) (M : List O) : R A := match cmp o a b M with
  | some k => .ok (.d (.bl k)) M
  | none => .no
def tyOf (M : List O) : A → Option Ty
  | .d .non => some .non
  | .d (.bl _) => some .bool
  | .d (.int _) => some .int
  | .d (.str _) => some .str
  | .d (.tup _) => some .tup
  | .d (.lst _) => some .lst
  | .d (.rol _) => none
  | .cell n => (match M[n]? with
    | some (.lst _) => some .lst
    | some (.frz (.lst _)) => some .lst
    | some (.dct _) => some .dic
    | _ => none)
  | .un => none
def Ty.sub (a b : Ty) : Bool := decide (a = b) || (match a, b with
  | .bool, .int => true
  | _, _ => false)

/-! ### items, slices -/
def cutA {α : Type} (xs : List α) (lo hi : Option Int) : List α := (xs.drop (HT.sIx xs.length 0 lo)).take (HT.sIx xs.length xs.length hi - HT.sIx xs.length 0 lo)
def tlv (M : List O) : A → Option (List A)
  | .cell n => (match M[n]? with
    | some (.tpl xs) => some xs
    | _ => none)
  | _ => none
def ixL (M : List O) (a b : A) : R A := match b with
  | .d (.int i) => (match a with
    | .d (.tup ds) => (match atI ds i with
      | some x => .ok (.d x) M
      | none => .no)
    | .d (.str z) => if z.length ≤ sizeLine then (match atI z.cps.toList i with
        | some c => .ok (.d (.str ⟨#[c]⟩)) M
        | none => .no) else .no
    | a => (match lsv M a with
      | some xs => (match atI xs i with
        | some x => .ok x M
        | none => .no)
      | none => (match tlv M a with
        | some xs => (match atI xs i with
          | some x => .ok x M
          | none => .no)
        | none => .no)))
  | _ => .no
def ixA (M : List O) (a b : A) : R A := match dcv M a with
  | some kvs => (match keyA b with
    | some k => (match valA kvs k with
      | some v => .ok v M
      | none => .no)
    | none => .no)
  | none => ixL M a b
/-- a slice's end: written or not -/
def part : Bool → A → Option (Option Int)
  | false, _ => some none
  | true, .d (.int i) => some (some i)
  | _, _ => none
def slA (M : List O) (a : A) (l h : Option Int) : R A := match a with
  | .d (.tup ds) => if HT.sIx ds.length 0 l = 0 ∧ HT.sIx ds.length ds.length h = ds.length then .no else .ok (.d (.tup (cutA ds l h))) M
  | .d (.str z) => if z.length ≤ sizeLine then .ok (.d (.str (cutS z l h))) M else .no
  | a => (match lsv M a with
    | some xs => newL M (cutA xs l h)
    | none => .no)

/-! ### built-ins -/
def lenA (M : List O) : A → Option Nat
  | .d (.str z) => if z.length ≤ sizeLine then some z.length else none
  | .d (.tup ds) => some ds.length
  | a => (match lsv M a with
    | some xs => some xs.length
    | none => none)
/-- math.comb, as the text's own computation of it -/
def combI (n k : Int) : Int := Builtin.Math.fallingProduct n (min k (n - k)).toNat / Builtin.Math.fallingProduct (min k (n - k)) (min k (n - k)).toNat
def strsA : List A → Option (List Str)
  | [] => some []
  | .d (.str x) :: r => (match strsA r with
    | some xs => some (x :: xs)
    | none => none)
  | _ :: _ => none
def blsA : List A → Option (List Bool)
  | [] => some []
  | .d (.bl x) :: r => (match blsA r with
    | some xs => some (x :: xs)
    | none => none)
  | _ :: _ => none
/-- texts by their signs, as the insertion puts them -/
def leS (x y : Str) : Bool := !ltCps y.cps.toList x.cps.toList
def insS (x : Str) : List Str → List Str
  | [] => [x]
  | y :: r => if leS x y then x :: y :: r else y :: insS x r
def sortS : List Str → List Str
  | [] => []
  | x :: r => insS x (sortS r)
def bi (b : Bi) (as : List A) (M : List O) : R A := match b, as with
  | .len, [a] => (match lenA M a with
    | some n => .ok (.d (.int (n : Int))) M
    | none => .no)
  | .int, [.d (.int i)] => .ok (.d (.int i)) M
  | .int, [.d (.bl k)] => .ok (.d (.int (if k then 1 else 0))) M
  | .str, [.d (.int i)] => if i.natAbs.log2 < 1920 then .ok (.d (.str (toString i))) M else .no
  | .abs, [.d (.int i)] => .ok (.d (.int (if i < 0 then -i else i))) M
  | .max, [.d (.int i), .d (.int j)] => .ok (.d (.int (if j > i then j else i))) M
  | .min, [.d (.int i), .d (.int j)] => .ok (.d (.int (if j < i then j else i))) M
  | .comb, [.d (.int n), .d (.int k)] => if 0 ≤ n ∧ 0 ≤ k ∧ n ≤ 1000 then (if n < k then .ok (.d (.int 0)) M else if (combI n k).natAbs.log2 < bitsLine then .ok (.d (.int (combI n k))) M else .no) else .no
  | .all, [a] => (match lsv M a with
    | some xs => (match blsA xs with
      | some bs => .ok (.d (.bl (bs.all id))) M
      | none => .no)
    | none => .no)
  | .sorted, [a] => (match lsv M a with
    | some xs => (match strsA xs with
      | some ys => if ys.length < 64 then newL M ((sortS ys).map fun z => A.d (.str z)) else .no
      | none => .no)
    | none => .no)
  | .list, [a] => (match a with
    | .d (.tup ds) => newL M (ds.map .d)
    | a => (match lsv M a with
      | some xs => newL M xs
      | none => (match a with
        | .cell n => (match M[n]? with
          | some (.dct kvs) => newL M (kvs.map fun kv => keyB kv.1)
          | _ => .no)
        | _ => .no)))
  | .tuple, [a] => (match a with
    | .d (.tup ds) => .ok (.d (.tup ds)) M
    | a => (match lsv M a with
      | some xs => (match frzL (frz 8) M xs with
        | some (ds, M1) => .ok (.d (.tup ds)) M1
        | none => .no)
      | none => .no))
  | _, _ => .no
def mt (m : Mt) (a : A) (as : List A) (M : List O) : R A := match m, a, as with
  | .append, .cell n, [y] => (match M[n]? with
    | some (.lst xs) => if xs.length < sizeLine then .ok (.d .non) (M.set n (.lst (xs ++ [y]))) else .no
    | _ => .no)
  | .pop, .cell n, [] => (match M[n]? with
    | some (.lst xs) => (match xs[xs.length - 1]? with
      | some y => .ok y (M.set n (.lst xs.dropLast))
      | none => .no)
    | _ => .no)
  | .extend, .cell n, [b] => (match M[n]? with
    | some (.lst xs) => (match lsw M b with
      | some ys => if xs.length + ys.length ≤ sizeLine then .ok (.d .non) (M.set n (.lst (xs ++ ys))) else .no
      | none => .no)
    | _ => .no)
  | .popi, .cell n, [.d (.int i)] => (match M[n]? with
    | some (.lst xs) => if inR i then (match seqIndex? i xs.length with
      | some k => (match xs[k]? with
        | some y => .ok y (M.set n (.lst (xs.eraseIdx k)))
        | none => .no)
      | none => .no) else .no
    | _ => .no)
  | .insert, .cell n, [.d (.int i), y] => (match M[n]? with
    | some (.lst xs) => if xs.length < sizeLine ∧ 0 ≤ i ∧ inR i = true then .ok (.d .non) (M.set n (.lst (xs.take i.toNat ++ [y] ++ xs.drop i.toNat))) else .no
    | _ => .no)
  | .join, .d (.str z), [b] => (match lsw M b with
    | some xs => (match strsA xs with
      | some ys => if (ys.map (·.length)).sum + ys.length * z.length ≤ 16777216 then .ok (.d (.str (Txt.join z ys))) M else .no
      | none => .no)
    | none => .no)
  | _, _, _ => .no

/-- whose method it is -/
def rcv (m : Mt) (M : List O) (a : A) : Bool := match m with
  | .append => (lsv M a).isSome
  | .pop => (lsv M a).isSome
  | .extend => (lsv M a).isSome
  | .popi => (lsv M a).isSome
  | .insert => (lsv M a).isSome
  | .join => (match a with
    | .d (.str _) => true
    | _ => false)

/-! ### targets, what is walked -/
def setTg (tg : Tg) (a : A) (δ : List A) : Option (List A) := match tg with
  | .one i => some (δ.set i a)
  | .many is => (match a with
    | .d (.tup ds) => if ds.length = is.length then some ((is.zip ds).foldl (fun δ p => δ.set p.1 (.d p.2)) δ) else none
    | _ => none)
/-- the items: data; a list of the store is frozen -/
def seqIt (M : List O) : A → Option (List D × List O)
  | .d (.tup ds) => some (ds, M)
  | .d (.str z) => some (z.cps.toList.map fun c => D.str ⟨#[c]⟩, M)
  | a => (match frz 8 M a with
    | some (.lst ds, M1) => some (ds, M1)
    | some (.rol ds, M1) => some (ds, M1)
    | _ => none)
def numD : Nat → List D → List D
  | _, [] => []
  | n, d :: r => D.tup [.int (n : Nat), d] :: numD (n + 1) r
def keyE : Key → D
  | .inl i => .int i
  | .inr x => .str x
def Tg.all : Tg → List Nat
  | .one i => [i]
  | .many is => is
def items (k : IK) (as : List A) (M : List O) : Option (List D × List O) := match k, as with
  | .seq, [a] => seqIt M a
  | .r1, [.d (.int j)] => if inR j then some ((List.range j.toNat).map fun i => D.int (i : Nat), M) else none
  | .enum, [a] => (match a with
    | .d (.str _) => none
    | a => (match seqIt M a with
      | some (ds, M1) => some (numD 0 ds, M1)
      | none => none))
  | .r2, [.d (.int i), .d (.int j)] => if inR i && inR j then some ((List.range (j - i).toNat).map fun n => D.int (i + (n : Nat)), M) else none
  | _, _ => none
def wipeA (δ : List A) : List Nat → List A
  | [] => δ
  | v :: vs => (wipeA δ vs).set v .un

/-! ### calls -/
def give (M1 M2 : List O) (k : Nat) : R A := match M2[k]? with
  | some (.frz x) => .ok (.d x) M1
  | some (.lst xs) => (match frzL (frz 8) M2 xs with
    | some (ys, M3) => (match M3[k]? with
      | some (.lst _) => .ok (.cell M1.length) (M1 ++ [.lst (ys.map .d)])
      | _ => .no)
    | none => .no)
  | _ => .no
/-- a call whose arguments are data: the store is left out -/
def pcallF (run : List A → List O → R A) (as : List A) (M : List O) : R A := match frzL (frz 8) M as with
  | none => .no
  | some (ds, M1) => match run (ds.map .d) [] with
    | .no => .no
    | .ex x _ => .ex x M
    | .ok (.d x) _ => if x.isSc then .ok (.d x) M else .ok (.d x) M1
    | .ok (.cell k) M2 => give M1 M2 k
    | .ok .un _ => .no

/-- reading, nothing is frozen -/
def denL (f : A → Option D) : List A → Option (List D)
  | [] => some []
  | a :: r => match f a, denL f r with
    | some x, some xs => some (x :: xs)
    | _, _ => none
def den : Nat → List O → A → Option D
  | _, _, .d x => some x
  | _, _, .un => none
  | 0, _, .cell _ => none
  | k + 1, M, .cell n => match M[n]? with
    | some (.frz x) => some x
    | some (.lst xs) => (match denL (den k M) xs with
      | some ds => some (.lst ds)
      | none => none)
    | _ => none
/-- a call: where a scalar comes back the store stays as it was -/
def pcall (run : List A → List O → R A) (as : List A) (M : List O) : R A := match denL (den 8 M) as with
  | none => .no
  | some ds => match run (ds.map .d) [] with
    | .no => .no
    | .ex x _ => .ex x M
    | .ok (.d x) _ => if x.isSc then .ok (.d x) M else pcallF run as M
    | .ok _ _ => pcallF run as M

/-! ### the language -/
/-- where a parameter's value comes from -/
inductive Pl where
  | arg (i : Nat) | cst (x : D)
def fill {α : Type} (c : D → α) : List Pl → List α → List α
  | [], xs => xs
  | pl, xs => pl.map fun
    | .arg i => xs.getD i (c .non)
    | .cst x => c x
inductive E where
  | var (i : Nat) | cst (x : D)
  | bin (o : Bin) (a b : E) | neg (a : E)
  | cmp (o : Cmp) (a b : E) | chn (o p : Cmp) (a b c : E)
  | nt (a : E) | an (a b : E) | orr (a b : E)
  | ifx (t a b : E)
  | tup (es : List E) | lst (es : List E)
  | ix (a b : E) | sl (bl bh : Bool) (a lo hi : E)
  | call (f : Nat) (es ks : List E) (pl : List Pl) | mcall (f : Nat) (es ks : List E) (pl : List Pl)
  | bi (b : Bi) (es : List E)
  | mt (m : Mt) (a : E) (es : List E)
  | isi (a : E) (ts : List Ty)
  | attr (a : E) (f : Str)
  | new (c : Str) (f : Nat) (es : List E)
  | meth (c m : Str) (f : Nat) (o : E) (es : List E)
  | dnew | dget (d k x : E) | dpop (d k : E) | dzip (a b : E)
  | rev (a : E) | lrg (k : IK) (its : List E) | kix (tb : List (Str × D)) (a : E)
  | dcomp (ky vl : E) (tg : Tg) (k : IK) (its : List E) (ifs : List E) (own : List Nat)
  | scomp (elt : E) (tg : Tg) (k : IK) (its : List E) (ifs : List E) (own : List Nat)
  | comp (elt : E) (tg : Tg) (k : IK) (its : List E) (ifs : List E) (own : List Nat)
/-- what an except clause gives back -/
inductive XE where
  | cst (x : D) | fld (f : Str) | nisi (c : Str) | nil | tup (es : List XE)
mutual
def xev (sub : Str → Str → Bool) (x : Ex) : XE → Option D
  | .cst d => some d
  | .fld f => (match x.fs.lookup f with
    | some z => some (.str z)
    | none => none)
  | .nisi c => some (.bl (!sub x.c c))
  | .nil => some (.lst [])
  | .tup es => (match xevs sub x es with
    | some ds => some (.tup ds)
    | none => none)
def xevs (sub : Str → Str → Bool) (x : Ex) : List XE → Option (List D)
  | [] => some []
  | e :: r => (match xev sub x e, xevs sub x r with
    | some d, some ds => some (d :: ds)
    | _, _ => none)
end
inductive S where
  | asg (tg : Tg) (e : E) | aug (i : Nat) (o : Bin) (e : E)
  | ex (e : E) | ret (e : E) | retN
  | ifS (t : E) (a b : List S)
  | forS (tg : Tg) (k : IK) (its : List E) (body : List S)
  | whl (t : E) (body : List S)
  | pass | brk | cnt
  | raise (c : Str) | raiseF (c f : Str) (e : E)
  | tryS (body : List S) (c : Str) (suite : List S) | tryM (body : List S) (cls : List (Str × XE))
  | puti (o i e : E) | putf (o : E) (f : Str) (e : E) | putm (o : E) (f g : Str) (e : E)
  | nev

/-- what surrounds a body: the defs, the subclasses, the turns that a while may take -/
structure W where
  run : Nat → List A → List O → R A
  sub : Str → Str → Bool
  turns : Nat

def compL (n : Nat) (tg : Tg) (δ : List A) (ts : List A → List O → R Bool) (el : List A → List O → R A) : List D → List O → R Unit
  | [], M => .ok () M
  | a :: r, M => match setTg tg (.d a) δ with
    | none => .no
    | some δ1 => match ts δ1 M with
      | .ok true M1 => (match el δ1 M1 with
        | .ok y M2 => (match M2[n]? with
          | some (.lst acc) => if acc.length < sizeLine then compL n tg δ ts el r (M2.set n (.lst (acc ++ [y]))) else .no
          | _ => .no)
        | _ => .no)
      | .ok false M1 => compL n tg δ ts el r M1
      | _ => .no
/-- a set's, a dict's loop -/
def compS (n : Nat) (tg : Tg) (δ : List A) (ts : List A → List O → R Bool) (el : List A → List O → R A) : List D → List O → R Unit
  | [], M => .ok () M
  | a :: r, M => match setTg tg (.d a) δ with
    | none => .no
    | some δ1 => match ts δ1 M with
      | .ok true M1 => (match el δ1 M1 with
        | .ok y M2 => (match M2[n]?, keyA y with
          | some (.set ks), some k => if ks.length + 1 < scanBound then compS n tg δ ts el r (M2.set n (.set (k :: ks))) else .no
          | _, _ => .no)
        | _ => .no)
      | .ok false M1 => compS n tg δ ts el r M1
      | _ => .no
def compD (n : Nat) (tg : Tg) (δ : List A) (ts : List A → List O → R Bool) (ky vl : List A → List O → R A) : List D → List O → R Unit
  | [], M => .ok () M
  | a :: r, M => match setTg tg (.d a) δ with
    | none => .no
    | some δ1 => match ts δ1 M with
      | .ok true M1 => (match ky δ1 M1 with
        | .ok y M2 => (match keyA y with
          | some k => (match vl δ1 M2 with
            | .ok z M3 => (match M3[n]? with
              | some (.dct kvs) => if kvs.length < sizeLine then compD n tg δ ts ky vl r (M3.set n (.dct (putA kvs k z))) else .no
              | _ => .no)
            | _ => .no)
          | none => .no)
        | _ => .no)
      | .ok false M1 => compD n tg δ ts ky vl r M1
      | _ => .no
def setR (tg : Tg) (k : IK) (own : List Nat) (its : List A → List O → R (List A)) (ts : List A → List O → R Bool) (el : List A → List O → R A) (δ : List A) (M : List O) : R A :=
  (its δ M).bind fun as M1 => match items k as M1 with
    | none => .no
    | some (xs, M2) => match compS M2.length tg (wipeA δ own) ts el xs (M2 ++ [.set []]) with
      | .ok _ M3 => .ok (.cell M2.length) M3
      | _ => .no
def dctR (tg : Tg) (k : IK) (own : List Nat) (its : List A → List O → R (List A)) (ts : List A → List O → R Bool) (ky vl : List A → List O → R A) (δ : List A) (M : List O) : R A :=
  (its δ M).bind fun as M1 => match items k as M1 with
    | none => .no
    | some (xs, M2) => match compD M2.length tg (wipeA δ own) ts ky vl xs (M2 ++ [.dct []]) with
      | .ok _ M3 => .ok (.cell M2.length) M3
      | _ => .no
/-! ### objects, dicts -/
def attA (M : List O) (f : Str) : A → R A
  | .cell n => (match M[n]? with
    | some (.obj _ fs) => (match fs.lookup f with
      | some v => .ok v M
      | none => .no)
    | _ => .no)
  | _ => .no
def newA (run : List A → List O → R A) (c : Str) (as : List A) (M : List O) : R A := match run (.cell M.length :: as) (M ++ [.obj c []]) with
  | .ok (.d .non) M2 => .ok (.cell M.length) M2
  | .ok _ _ => .no
  | .ex x M2 => .ex x M2
  | .no => .no
def isOb (M : List O) (c m : Str) : A → Bool
  | .cell n => (match M[n]? with
    | some (.obj c' fs) => decide (c' = c) && (fs.lookup m).isNone
    | _ => false)
  | _ => false
def dgtA (M : List O) (d k x : A) : R A := match dcv M d, keyA k with
  | some kvs, some k => (match valA kvs k with
    | some v => .ok v M
    | none => .ok x M)
  | _, _ => .no
def dppA (M : List O) (d k : A) : R A := match d with
  | .cell n => (match M[n]?, keyA k with
    | some (.dct kvs), some k => (match valA kvs k with
      | some v => .ok v (M.set n (.dct (dropA kvs k)))
      | none => .no)
    | _, _ => .no)
  | _ => .no
def keysA : List A → Option (List Key)
  | [] => some []
  | a :: r => match keyA a, keysA r with
    | some k, some ks => some (k :: ks)
    | _, _ => none
def mergeA : List (Key × A) → List (Key × A) → List (Key × A)
  | acc, [] => acc
  | acc, p :: r => mergeA (putA acc p.1 p.2) r
def dzpA (M : List O) (a b : A) : R A := match lsv M a, lsv M b with
  | some xs, some ys => if xs.length = ys.length ∧ xs.length ≤ 1000 then (match keysA xs with
    | some ks => .ok (.cell M.length) (M ++ [.dct (mergeA [] (ks.zip ys))])
    | none => .no) else .no
  | _, _ => .no
def revA (M : List O) (a : A) : R A := match lsv M a with
  | some xs => newL M xs.reverse
  | none => .no
def lrgA (k : IK) (as : List A) (M : List O) : R A := match k, as with
  | .r1, [.d (.int j)] => if inR j && decide (j.toNat ≤ 1000000) then newL M ((List.range j.toNat).map fun i => A.d (.int (i : Nat))) else .no
  | .r2, [.d (.int i), .d (.int j)] => if inR i && inR j && decide ((j - i).toNat ≤ 1000000) then newL M ((List.range (j - i).toNat).map fun n => A.d (.int (i + (n : Nat)))) else .no
  | _, _ => .no
def kixA (tb : List (Str × D)) (M : List O) (a : A) : R A := match a with
  | .d (.str z) => (match tb.lookup z with
    | some v => .ok (.d v) M
    | none => .no)
  | _ => .no
def compR (tg : Tg) (k : IK) (own : List Nat) (its : List A → List O → R (List A)) (ts : List A → List O → R Bool) (el : List A → List O → R A) (δ : List A) (M : List O) : R A :=
  (its δ M).bind fun as M1 => match items k as M1 with
    | none => .no
    | some (xs, M2) => match compL M2.length tg (wipeA δ own) ts el xs (M2 ++ [.lst []]) with
      | .ok _ M3 => .ok (.cell M2.length) M3
      | _ => .no

def isiF (f : List A → List O → R A) (ts : List Ty) : List A → List O → R A := fun δ M => (f δ M).bind fun x M1 => match tyOf M1 x with
    | some t => .ok (.d (.bl (ts.any fun u => t.sub u))) M1
    | none => .no
def slF (bl bh : Bool) (f g h : List A → List O → R A) : List A → List O → R A := fun δ M => (f δ M).bind fun x M1 => (g δ M1).bind fun l M2 => match part bl l with
    | some l => (h δ M2).bind fun u M3 => (match part bh u with
      | some u => slA M3 x l u
      | none => .no)
    | none => .no
def chF (o p : Cmp) (f g h : List A → List O → R A) : List A → List O → R A := fun δ M => (f δ M).bind fun x M1 => (g δ M1).bind fun y M2 => match cmp o x y M2 with
    | some true => (h δ M2).bind fun z M3 => cmpR p y z M3
    | some false => .ok (.d (.bl false)) M2
    | none => .no
/-- a tuple: of data, or of things that change -/
def tupA (M : List O) (as : List A) : R A := match frzL (frz 8) M as with
  | some (ds, M2) => if ds.length ≤ sizeLine then .ok (.d (.tup ds)) M2 else .no
  | none => if as.length ≤ sizeLine then .ok (.cell M.length) (M ++ [.tpl as]) else .no
/-- an expression's readings: its value, as a test -/
structure EF where
  v : List A → List O → R A
  t : List A → List O → R Bool
def dT (f : List A → List O → R A) : List A → List O → R Bool := fun δ M => (f δ M).bind fun x M1 => match tru M1 x with
    | some k => .ok k M1
    | none => .no
def mkF (f : List A → List O → R A) : EF := ⟨f, dT f⟩
structure LF where
  v : List A → List O → R (List A)
  t : List A → List O → R Bool
mutual
def evP (w : W) : E → EF
  | .var i => mkF fun δ M => match δ[i]? with
    | some (.un) => .no
    | some a => .ok a M
    | none => .no
  | .cst x => mkF fun _ M => .ok (.d x) M
  | .bin o a b => mkF fun δ M => ((evP w a).v δ M).bind fun x M1 => ((evP w b).v δ M1).bind fun y M2 => bin o x y M2
  | .neg a => mkF fun δ M => ((evP w a).v δ M).bind fun x M1 => match x with
    | .d (.int i) => .ok (.d (.int (-i))) M1
    | _ => .no
  | .cmp o a b => mkF fun δ M => ((evP w a).v δ M).bind fun x M1 => ((evP w b).v δ M1).bind fun y M2 => cmpR o x y M2
  | .chn o p a b c => mkF (chF o p (evP w a).v (evP w b).v (evP w c).v)
  | .nt a => ⟨fun δ M => ((evP w a).v δ M).bind fun x M1 => match tru M1 x with
    | some k => .ok (.d (.bl (!k))) M1
    | none => .no, fun δ M => ((evP w a).t δ M).bind fun k M1 => .ok (!k) M1⟩
  | .an a b => ⟨fun δ M => ((evP w a).v δ M).bind fun x M1 => match tru M1 x with
    | some true => (evP w b).v δ M1
    | some false => .ok x M1
    | none => .no, fun δ M => ((evP w a).t δ M).bind fun k M1 => if k then (evP w b).t δ M1 else .ok false M1⟩
  | .orr a b => ⟨fun δ M => ((evP w a).v δ M).bind fun x M1 => match tru M1 x with
    | some true => .ok x M1
    | some false => (evP w b).v δ M1
    | none => .no, fun δ M => ((evP w a).t δ M).bind fun k M1 => if k then .ok true M1 else (evP w b).t δ M1⟩
  | .ifx t a b => ⟨fun δ M => ((evP w t).t δ M).bind fun k M1 => if k then (evP w a).v δ M1 else (evP w b).v δ M1, fun δ M => ((evP w t).t δ M).bind fun k M1 => if k then (evP w a).t δ M1 else (evP w b).t δ M1⟩
  | .tup es => mkF fun δ M => ((evQ w es).v δ M).bind fun as M1 => tupA M1 as
  | .lst es => mkF fun δ M => ((evQ w es).v δ M).bind fun as M1 => mkL M1 as
  | .ix a b => mkF fun δ M => ((evP w a).v δ M).bind fun x M1 => ((evP w b).v δ M1).bind fun y M2 => ixA M2 x y
  | .sl bl bh a lo hi => mkF (slF bl bh (evP w a).v (evP w lo).v (evP w hi).v)
  | .call f es ks pl => mkF fun δ M => ((evQ w es).v δ M).bind fun as M1 => ((evQ w ks).v δ M1).bind fun bs M2 => pcall (w.run f) (fill A.d pl (as ++ bs)) M2
  | .mcall f es ks pl => mkF fun δ M => ((evQ w es).v δ M).bind fun as M1 => ((evQ w ks).v δ M1).bind fun bs M2 => w.run f (fill A.d pl (as ++ bs)) M2
  | .bi b es => mkF fun δ M => ((evQ w es).v δ M).bind fun as M1 => bi b as M1
  | .mt m a es => mkF fun δ M => ((evP w a).v δ M).bind fun x M1 => if rcv m M1 x then ((evQ w es).v δ M1).bind fun as M2 => mt m x as M2 else .no
  | .isi a ts => mkF (isiF (evP w a).v ts)
  | .comp elt tg k its ifs own => mkF fun δ M => compR tg k own (evQ w its).v (evQ w ifs).t (evP w elt).v δ M
  | .scomp elt tg k its ifs own => mkF fun δ M => setR tg k own (evQ w its).v (evQ w ifs).t (evP w elt).v δ M
  | .dcomp ky vl tg k its ifs own => mkF fun δ M => dctR tg k own (evQ w its).v (evQ w ifs).t (evP w ky).v (evP w vl).v δ M
  | .attr a f => mkF fun δ M => ((evP w a).v δ M).bind fun x M1 => attA M1 f x
  | .new c f es => mkF fun δ M => ((evQ w es).v δ M).bind fun as M1 => newA (w.run f) c as M1
  | .meth c m f o es => mkF fun δ M => ((evP w o).v δ M).bind fun x M1 => if isOb M1 c m x then ((evQ w es).v δ M1).bind fun as M2 => w.run f (x :: as) M2 else .no
  | .dnew => mkF fun _ M => .ok (.cell M.length) (M ++ [.dct []])
  | .dget d k x => mkF fun δ M => ((evP w d).v δ M).bind fun a M1 => if (dcv M1 a).isSome then ((evP w k).v δ M1).bind fun b M2 => ((evP w x).v δ M2).bind fun c M3 => dgtA M3 a b c else .no
  | .dpop d k => mkF fun δ M => ((evP w d).v δ M).bind fun a M1 => if (dcv M1 a).isSome then ((evP w k).v δ M1).bind fun b M2 => dppA M2 a b else .no
  | .dzip a b => mkF fun δ M => ((evP w a).v δ M).bind fun x M1 => ((evP w b).v δ M1).bind fun y M2 => dzpA M2 x y
  | .rev a => mkF fun δ M => ((evP w a).v δ M).bind fun x M1 => revA M1 x
  | .lrg k its => mkF fun δ M => ((evQ w its).v δ M).bind fun as M1 => lrgA k as M1
  | .kix tb a => mkF fun δ M => ((evP w a).v δ M).bind fun x M1 => kixA tb M1 x
/-- several; a comprehension's tests: none or one -/
def evQ (w : W) : List E → LF
  | [] => ⟨fun _ M => .ok [] M, fun _ M => .ok true M⟩
  | e :: r => ⟨fun δ M => ((evP w e).v δ M).bind fun x M1 => ((evQ w r).v δ M1).bind fun xs M2 => .ok (x :: xs) M2, (evP w e).t⟩
end
abbrev ev (w : W) (e : E) : List A → List O → R A := (evP w e).v
abbrev evT (w : W) (e : E) : List A → List O → R Bool := (evP w e).t
abbrev evs (w : W) (es : List E) : List A → List O → R (List A) := (evQ w es).v
abbrev evA (w : W) (es : List E) : List A → List O → R Bool := (evQ w es).t

def forR (tg : Tg) (body : List A → List O → RS) : List D → List A → List O → RS
  | [], δ, M => .nx δ M
  | a :: r, δ, M => match setTg tg (.d a) δ with
    | none => .no
    | some δ1 => match body δ1 M with
      | .nx δ2 M2 => forR tg body r δ2 M2
      | .ct δ2 M2 => forR tg body r δ2 M2
      | .bk δ2 M2 => .nx δ2 M2
      | x => x
def whlR (t : List A → List O → R Bool) (body : List A → List O → RS) : Nat → List A → List O → RS
  | 0, _, _ => .no
  | n + 1, δ, M => (t δ M).toS δ fun k M1 => if k then (match body δ M1 with
      | .nx δ2 M2 => whlR t body n δ2 M2
      | .ct δ2 M2 => whlR t body n δ2 M2
      | .bk δ2 M2 => .nx δ2 M2
      | x => x) else .nx δ M1

/-- i op= e, numbers alone -/
def augF (i : Nat) (o : Bin) (f : List A → List O → R A) (δ : List A) (M : List O) : RS := match δ[i]? with
  | some (.d (.int x)) => (f δ M).toS δ fun b M1 => (match b with
    | .d (.int y) => (match o with
      | .add => .nx (δ.set i (.d (.int (x + y)))) M1
      | .sub => .nx (δ.set i (.d (.int (x - y)))) M1
      | _ => .no)
    | _ => .no)
  | _ => .no
/-- o[i] = v -/
def putI (M : List O) (a b v : A) : Option (List O) := match a with
  | .cell n => (match M[n]? with
    | some (.lst xs) => (match b with
      | .d (.int i) => if inR i then (match seqIndex? i xs.length with
        | some k => some (M.set n (.lst (xs.set k v)))
        | none => none) else none
      | _ => none)
    | some (.dct kvs) => (match keyA b with
      | some k => if kvs.length < sizeLine then some (M.set n (.dct (putA kvs k v))) else none
      | none => none)
    | _ => none)
  | _ => none
/-- o.f = v -/
def putFd (M : List O) (f : Str) (a v : A) : Option (List O) := match a with
  | .cell n => (match M[n]? with
    | some (.obj c fs) => if fs.length < 1000 then some (M.set n (.obj c (setFd f v fs))) else none
    | _ => none)
  | _ => none
/-- the clauses -/
def clsR (sub : Str → Str → Bool) (x : Ex) (δ : List A) (M : List O) : List (Str × XE) → RS
  | [] => .ex x δ M
  | q :: r => if sub x.c q.1 then (match xev sub x q.2 with
    | some d => .rt (.d d) M
    | none => .no) else clsR sub x δ M r
/-- an except clause's end: it raises nothing -/
def RS.noX : RS → RS
  | .ex _ _ _ => .no
  | r => r
mutual
def exS (w : W) : S → List A → List O → RS
  | .asg tg e => fun δ M => (ev w e δ M).toS δ fun a M1 => match setTg tg a δ with
    | some δ1 => .nx δ1 M1
    | none => .no
  | .aug i o e => augF i o (ev w e)
  | .ex e => fun δ M => (ev w e δ M).toS δ fun _ M1 => .nx δ M1
  | .ret e => fun δ M => (ev w e δ M).toS δ fun a M1 => .rt a M1
  | .retN => fun _ M => .rt (.d .non) M
  | .ifS t a b => fun δ M => (evT w t δ M).toS δ fun k M1 => if k then exs w a δ M1 else exs w b δ M1
  | .forS tg k its body => fun δ M => (evs w its δ M).toS δ fun as M1 => match items k as M1 with
    | some (xs, M2) => forR tg (exs w body) xs δ M2
    | none => .no
  | .whl t body => fun δ M => whlR (evT w t) (exs w body) w.turns δ M
  | .pass => fun δ M => .nx δ M
  | .brk => fun δ M => .bk δ M
  | .cnt => fun δ M => .ct δ M
  | .raise c => fun δ M => .ex ⟨c, []⟩ δ M
  | .raiseF c f e => fun δ M => (ev w e δ M).toS δ fun a M1 => (match a with
    | .d (.str z) => .ex ⟨c, [(f, z)]⟩ δ M1
    | _ => .no)
  | .tryM body cls => fun δ M => match exs w body δ M with
    | .ex x δ1 M1 => clsR w.sub x δ1 M1 cls
    | r => r
  | .puti o i e => fun δ M => (ev w e δ M).toS δ fun v M1 => (ev w o δ M1).toS δ fun a M2 => (ev w i δ M2).toS δ fun b M3 => (match putI M3 a b v with
    | some M4 => .nx δ M4
    | none => .no)
  | .putf o f e => fun δ M => (ev w e δ M).toS δ fun v M1 => (ev w o δ M1).toS δ fun a M2 => (match putFd M2 f a v with
    | some M3 => .nx δ M3
    | none => .no)
  | .putm o f g e => fun δ M => (ev w e δ M).toS δ fun v M1 => (match v with
    | .d (.tup [x, y]) => (ev w o δ M1).toS δ fun a M2 => (match putFd M2 f a (.d x) with
      | some M3 => (ev w o δ M3).toS δ fun b M4 => (match putFd M4 g b (.d y) with
        | some M5 => .nx δ M5
        | none => .no)
      | none => .no)
    | _ => .no)
  | .tryS body c suite => fun δ M => match exs w body δ M with
    | .ex x δ1 M1 => if w.sub x.c c then (exs w suite δ1 M1).noX else .ex x δ1 M1
    | r => r
  | .nev => fun _ _ => .no
def exs (w : W) : List S → List A → List O → RS
  | [] => fun δ M => .nx δ M
  | s :: r => fun δ M => (exS w s δ M).andThen fun δ1 M1 => exs w r δ1 M1
end

/-- a def: how many names, its body -/
structure Fn where
  loc : Nat
  body : List S
def Fn.go (f : Fn) (w : W) (as : List A) (M : List O) : R A := match exs w f.body (as ++ List.replicate (f.loc - as.length) .un) M with
  | .nx _ M1 => .ok (.d .non) M1
  | .rt a M1 => .ok a M1
  | .ex x _ M1 => .ex x M1
  | _ => .no
structure Prg where
  fns : List Fn
  sub : Str → Str → Bool
  turns : Nat
def Prg.run (p : Prg) : Nat → Nat → List A → List O → R A
  | 0, _, _, _ => .no
  | n + 1, f, as, M => match p.fns[f]? with
    | some fn => fn.go ⟨p.run n, p.sub, p.turns⟩ as M
    | none => .no
end Mini

set_option Elab.async false
set_option linter.all false
set_option maxRecDepth 100000
/-! Mini 3: what the small language says holds of the hand layer's readings: expressions. -/
namespace Mini
open PySem PySem.Spec L2

section
variable {K : Fg} {B : Base} {H F : Hp} {own : List Addr} {M : List O}
theorem frzL_ok {f : List O → A → Option (D × List O)}
    (hf : ∀ M a d M', f M a = some (d, M') → ∀ F v, Core K B H F own M → RelA K F own v a → ∃ F', Core K B H F' own M' ∧ Same F F' ∧ Rep K F' v d) :
    ∀ (as : List A) (M : List O) (ds : List D) (M' : List O), frzL f M as = some (ds, M') → ∀ F vs, Core K B H F own M → Al (RelA K F own) vs as → ∃ F', Core K B H F' own M' ∧ Same F F' ∧ Al (Rep K F') vs ds
  | [], M, ds, M', e, F, vs, c, h => by
    simp only [frzL, Option.some.injEq, Prod.mk.injEq] at e
    obtain ⟨rfl, rfl⟩ := e
    cases h
    exact ⟨F, c, Same.refl F, .nil⟩
  | a :: r, M, ds, M', e, F, vs, c, h => by
    cases h with
    | cons h1 h2 =>
      unfold frzL at e
      split at e
      · rename_i x M1 e1
        obtain ⟨F1, c1, s1, r1⟩ := hf _ _ _ _ e1 _ _ c h1
        split at e
        · rename_i xs M2 e2
          simp only [Option.some.injEq, Prod.mk.injEq] at e
          obtain ⟨rfl, rfl⟩ := e
          obtain ⟨F2, c2, s2, r2⟩ := frzL_ok hf r M1 xs _ e2 F1 _ c1 (h2.mono fun _ _ q => q.upF s1)
          exact ⟨F2, c2, s1.trans s2, .cons (r1.up s2) r2⟩
        · cases e
      · cases e
theorem frz_ok : ∀ (k : Nat) (M : List O) (a : A) (d : D) (M' : List O), frz k M a = some (d, M') → ∀ F v, Core K B H F own M → RelA K F own v a → ∃ F', Core K B H F' own M' ∧ Same F F' ∧ Rep K F' v d
  | k, M, .d x, d, M', e, F, v, c, h => by
    have e2 : some (x, M) = some (d, M') := by cases k <;> exact e
    simp only [Option.some.injEq, Prod.mk.injEq] at e2
    obtain ⟨rfl, rfl⟩ := e2
    exact ⟨F, c, Same.refl F, h⟩
  | k, M, .un, d, M', e, F, v, c, h => h.elim
  | 0, M, .cell n, d, M', e, F, v, c, h => by cases e
  | k + 1, M, .cell n, d, M', e, F, v, c, h => by
    unfold frz at e
    obtain ⟨l, hl, rfl⟩ := h
    split at e
    · rename_i x hM
      simp only [Option.some.injEq, Prod.mk.injEq] at e
      obtain ⟨rfl, rfl⟩ := e
      exact ⟨F, c, Same.refl F, (c.obj n l _ hl hM).1⟩
    · rename_i xs hM
      split at e
      · rename_i ds M1 e1
        obtain ⟨vs, hv, ha⟩ := c.obj n l _ hl hM
        obtain ⟨F1, c1, s1, r1⟩ := frzL_ok (fun M a d M' e F v c h => frz_ok k M a d M' e F v c h) xs M ds M1 e1 F vs c ha
        split at e
        · rename_i ys hM1
          simp only [Option.some.injEq, Prod.mk.injEq] at e
          obtain ⟨rfl, rfl⟩ := e
          have fl := (c1.mtb n l _ hl hM1 rfl).1
          have sF : Same F1 (upd F1 l (.lst vs)) := same_upd fl
          have hr : Rep K (upd F1 l (.lst vs)) (.ref l) (.lst ds) := .lst upd_same (Reps.of (r1.mono fun _ _ q => q.up sF))
          obtain ⟨c2, s2⟩ := c1.freeze hl hM1 rfl hv hr
          exact ⟨_, c2, s1.trans s2, hr⟩
        · cases e
      · cases e
    · cases e
theorem frzs_ok {as : List A} {ds : List D} {M' : List O} {vs : List V} (e : frzL (frz 8) M as = some (ds, M')) (c : Core K B H F own M) (h : Al (RelA K F own) vs as) : ∃ F', Core K B H F' own M' ∧ Same F F' ∧ Al (Rep K F') vs ds :=
  frzL_ok (fun M a d M' e F v c h => frz_ok 8 M a d M' e F v c h) as M ds M' e F vs c h
theorem al_d {vs : List V} : ∀ {ws : List V} {ds : List D}, Al (Rep K F) ws ds → Al (RelA K F own) ws (ds.map .d)
  | _, _, .nil => .nil
  | _, _, .cons r t => .cons r (al_d (vs := vs) t)
theorem al_D {ws : List V} {ds : List D} (h : Al (Rep K F) ws ds) : Al (RelA K F own) ws (ds.map .d) := al_d (vs := []) h
theorem lsw_ok {a : A} {xs : List A} {v : V} (e : lsw M a = some xs) (c : Core K B H F own M) (h : RelA K F own v a) : ∃ p ws, v = .ref p ∧ H p = some (.lst ws) ∧ Al (RelA K F own) ws xs := by
  unfold lsw at e
  split at e
  · cases e
    cases h with
    | lst hs hr => exact ⟨_, _, rfl, c.fh _ _ hs, al_D hr.al⟩
  · rename_i n
    obtain ⟨l, hl, rfl⟩ := h
    split at e
    · rename_i ys hM
      cases e
      obtain ⟨vs, hv, ha⟩ := c.obj n l _ hl hM
      exact ⟨_, _, rfl, hv, ha⟩
    · rename_i ds hM
      cases e
      obtain ⟨hr, _⟩ := c.obj n l _ hl hM
      cases hr with
      | lst hs hr => exact ⟨_, _, rfl, c.fh _ _ hs, al_D hr.al⟩
    · cases e
  · cases e
theorem lsv_ok {a : A} {xs : List A} {v : V} (e : lsv M a = some xs) (c : Core K B H F own M) (h : RelA K F own v a) : ∃ p ws, v = .ref p ∧ SqL K H p ws ∧ Al (RelA K F own) ws xs := by
  by_cases hr : ∃ ds, a = .d (.rol ds)
  · obtain ⟨ds, rfl⟩ := hr
    cases e
    cases h with
    | rol hs hr => exact ⟨_, _, rfl, c.fh.seq hs, al_D hr.al⟩
  · have e2 : lsw M a = some xs := by
      unfold lsv at e
      unfold lsw
      split at e
      · exact e
      · rename_i ds; exact absurd ⟨ds, rfl⟩ hr
      · exact e
      · cases e
    obtain ⟨p, ws, h1, h2, h3⟩ := lsw_ok e2 c h
    exact ⟨p, ws, h1, SqL.of h2, h3⟩
theorem tup_ok {ds : List D} {v : V} (c : Core K B H F own M) (h : Rep K F v (.tup ds)) : ∃ p ws, v = .ref p ∧ SqT K H p ws ∧ Al (Rep K F) ws ds := by
  cases h with
  | tup hs hr => exact ⟨_, _, rfl, same_seqT c.fh hs, hr.al⟩
end

theorem relS_up {K : Fg} {F F' : Hp} {own : List Addr} {σ : L2.St} {δ : List A} (h : Al (RelS K F own) σ δ) (e : Same F F') : Al (RelS K F' own) σ δ := h.mono fun _ _ r => by
  have := r.up (t := []) e
  rwa [List.append_nil] at this
theorem relA_up {K : Fg} {F F' : Hp} {own : List Addr} {vs : List V} {as : List A} (h : Al (RelA K F own) vs as) (e : Same F F') : Al (RelA K F' own) vs as := h.mono fun _ _ r => r.upF e
/-! ### states -/
def At (K : Fg) (B : Base) (σ : St) (H : Hp) (δ : List A) (M : List O) (vs : List V) (as : List A) : Prop :=
  ∃ F own, Core K B H F own M ∧ Al (RelS K F own) σ δ ∧ Al (RelA K F own) vs as
section
variable {K : Fg} {B : Base} {σ : St} {H F : Hp} {own : List Addr} {δ : List A} {M : List O} {vs : List V} {as : List A}
theorem At.pop {v : V} {a : A} (h : At K B σ H δ M (v :: vs) (a :: as)) : At K B σ H δ M vs as := by
  obtain ⟨F, own, c, hs, hv⟩ := h
  cases hv with
  | cons r t => exact ⟨F, own, c, hs, t⟩
theorem At.popL {ws : List V} {bs : List A} (h : At K B σ H δ M (ws ++ vs) (bs ++ as)) (hl : ws.length = bs.length) : At K B σ H δ M vs as := by
  obtain ⟨F, own, c, hs, hv⟩ := h
  exact ⟨F, own, c, hs, (hv.split hl).2⟩
/-- scalars -/
theorem rep_sc {d : D} {v : V} (h : Rep K F v d) (hd : d.isSc = true) (F' : Hp) : Rep K F' v d := by
  cases h with
  | non => exact .non
  | bl b => exact .bl b
  | int i => exact .int i
  | str x => exact .str x
  | tup _ _ => cases hd
  | lst _ _ => cases hd
  | rol _ _ => cases hd
theorem newL_at {ws : List V} {xs : List A} {p : Addr} (c : Core K B H F own M) (hs : Al (RelS K F own) σ δ) (hv : Al (RelA K F own) vs as) (hw : Al (RelA K F own) ws xs) (hp : H p = none) :
    At K B σ (upd H p (.lst ws)) δ (M ++ [.lst xs]) (.ref p :: vs) (.cell M.length :: as) := by
  have c' := c.push (u := .lst xs) (o := .lst ws) hp rfl (fun own' ⟨t, e⟩ => ⟨ws, upd_same, by subst e; exact hw.mono fun _ _ r => r.up (Same.refl F)⟩)
  refine ⟨F, own ++ [p], c', hs.mono fun _ _ r => r.up (Same.refl F), .cons ⟨p, ?_, rfl⟩ (hv.mono fun _ _ r => r.up (Same.refl F))⟩
  rw [← c.len]; simp
end

/-- how an error lies -/
def ExR (C : Str → Addr) (x : Ex) (cls : Value) (d : Option Addr) (H : Hp) : Prop := cls = .ref (C x.c) ∧ ((x.fs = [] ∧ d = none) ∨ ∃ dd, d = some dd ∧ H dd = some (.xd (x.fs.map fun p => (p.1, V.str p.2))))

/-! ### readings -/
section
variable (K : Fg) (C : Str → Addr) (W : WX)
def GE (B : Base) (σ : St) (δ : List A) (vs : List V) (as : List A) (Q : VK) : R A → Prop
  | .ok a M' => ∀ v H', At K B σ H' δ M' (v :: vs) (a :: as) → Q v H'
  | .ex x M' => ∀ cls d H', ExR C x cls d H' → At K B σ H' δ M' vs as → W cls d σ H'
  | .no => False
def GT (B : Base) (σ : St) (δ : List A) (vs : List V) (as : List A) (Q : Bool → Hp → Prop) : R Bool → Prop
  | .ok k M' => ∀ H', At K B σ H' δ M' vs as → Q k H'
  | .ex x M' => ∀ cls d H', ExR C x cls d H' → At K B σ H' δ M' vs as → W cls d σ H'
  | .no => False
def GA (B : Base) (σ : St) (δ : List A) (vs : List V) (as : List A) (Q : List V → Hp → Prop) : R (List A) → Prop
  | .ok bs M' => ∀ ws H', ws.length = bs.length → At K B σ H' δ M' (ws ++ vs) (bs ++ as) → Q ws H'
  | .ex x M' => ∀ cls d H', ExR C x cls d H' → At K B σ H' δ M' vs as → W cls d σ H'
  | .no => False
def tE (f : List A → List O → R A) : TE := fun σ H Q => ∃ B δ M vs as, At K B σ H δ M vs as ∧ GE K C W B σ δ vs as Q (f δ M)
def tT (f : List A → List O → R Bool) : TT := fun σ H Q => ∃ B δ M vs as, At K B σ H δ M vs as ∧ GT K C W B σ δ vs as Q (f δ M)
def tA (f : List A → List O → R (List A)) : TA := fun σ H Q => ∃ B δ M vs as, At K B σ H δ M vs as ∧ GA K C W B σ δ vs as Q (f δ M)
end
theorem pe_imp {X : Cx} {e : Expr} {t t' : TE} (h : PE X e t) (hi : ∀ σ H Q, t' σ H Q → t σ H Q) : PE X e t' := ⟨fun pins s σ H Q I q => h.run pins s σ H Q I (hi σ H Q q)⟩
theorem pt_imp {X : Cx} {e : Expr} {t t' : TT} (h : PT X e t) (hi : ∀ σ H Q, t' σ H Q → t σ H Q) : PT X e t' := ⟨fun pins s σ H Q I q => h.run pins s σ H Q I (hi σ H Q q)⟩
theorem pa_imp {X : Cx} {e : List Expr} {t t' : TA} (h : PA X e t) (hi : ∀ σ H Q, t' σ H Q → t σ H Q) : PA X e t' := ⟨fun pos pins s σ H Q I q => h.run pos pins s σ H Q I (hi σ H Q q)⟩
theorem ps_imp {X : Cx} {e : Stmt} {t t' : TS} (h : PS X e t) (hi : ∀ D σ H, t' D σ H → t D σ H) : PS X e t' := ⟨fun pins s σ H D I q => h.run pins s σ H D I (hi D σ H q)⟩

section
variable {X : Cx} {C : Str → Addr} {W : WX} {B : Base} {σ : St} {H : Hp} {δ : List A} {M : List O} {vs : List V} {as : List A} {Q : VK}
theorem tE_at {f : List A → List O → R A} (h : At X.G B σ H δ M vs as) (g : GE X.G C W B σ δ vs as Q (f δ M)) : tE X.G C W f σ H Q := ⟨B, δ, M, vs, as, h, g⟩
/-- the first part's reading, from the whole's -/
theorem GE.bind {Q' : VK} {r : R A} {k : A → List O → R A} (h : GE X.G C W B σ δ vs as Q (r.bind k)) (hk : ∀ a M' v H', At X.G B σ H' δ M' (v :: vs) (a :: as) → GE X.G C W B σ δ vs as Q (k a M') → Q' v H') : GE X.G C W B σ δ vs as Q' r := by
  cases r with
  | ok a M' => exact fun v H' hat => hk a M' v H' hat h
  | ex x M' => exact h
  | no => exact h
/-- an error behind something laid -/
theorem GE.under {v : V} {a : A} {r : R A} {Q' : VK} (h : GE X.G C W B σ δ vs as Q r) (hq : ∀ b M' w H', r = .ok b M' → At X.G B σ H' δ M' (w :: v :: vs) (b :: a :: as) → Q' w H') : GE X.G C W B σ δ (v :: vs) (a :: as) Q' r := by
  cases r with
  | ok b M' => exact fun w H' hat => hq b M' w H' rfl hat
  | ex x M' => exact fun cls d H' hx hat => h cls d H' hx hat.pop
  | no => exact h

/-! ### two operands -/
/-- the semantics g is carried by the rule r -/
def OpS (X : Cx) (f : Value → Value → Sem Value) (g : A → A → List O → R A) : Prop :=
  ∀ (pins : List (Addr × Obj)) (s : Shared) (σ : St) (H : Hp) (x y : V) (v u : Value) (Q : VK), Inv X pins σ H s → RelV x v → RelV y u →
    ∀ (B : Base) (σ' : St) (δ : List A) (M : List O) (vs : List V) (as : List A) (a b c : A) (M' : List O), At X.G B σ' H δ M (y :: x :: vs) (b :: a :: as) → g a b M = .ok c M' →
      (∀ v H', At X.G B σ' H' δ M' (v :: vs) (c :: as) → Q v H') → wpAny (model X.prog X.w) X.A (f v u) (EP X pins σ Q) X.xe s
def rOp (K : Fg) (g : A → A → List O → R A) : R2 := fun x y H Q => ∃ (B : Base) (σ' : St) (δ : List A) (M : List O) (vs : List V) (as : List A) (a b c : A) (M' : List O), At K B σ' H δ M (y :: x :: vs) (b :: a :: as) ∧ g a b M = .ok c M' ∧
      (∀ v H', At K B σ' H' δ M' (v :: vs) (c :: as) → Q v H')
theorem OpS.r {f : Value → Value → Sem Value} {g : A → A → List O → R A} (h : OpS X f g) : OpR X f (rOp X.G g) := by
  intro pins s σ H x y v u Q I rx ry q
  obtain ⟨B, σ', δ, M, vs, as, a, b, c, M', h1, h2, h3⟩ := q
  exact h pins s σ H x y v u Q I rx ry B σ' δ M vs as a b c M' h1 h2 h3
end

/-! ### the operators -/
section
variable {X : Cx}
theorem int_of {K : Fg} {F : Hp} {own : List Addr} {x : V} {i : Int} (h : RelA K F own x (.d (.int i))) : x = .int i := by
  cases h
  rfl
theorem str_of {K : Fg} {F : Hp} {own : List Addr} {x : V} {z : Str} (h : RelA K F own x (.d (.str z))) : x = .str z := by
  cases h
  rfl
theorem bl_of {K : Fg} {F : Hp} {own : List Addr} {x : V} {z : Bool} (h : RelA K F own x (.d (.bl z))) : x = .bl z := by
  cases h
  rfl
theorem non_of {K : Fg} {F : Hp} {own : List Addr} {x : V} (h : RelA K F own x (.d .non)) : x = .non := by
  cases h
  rfl
theorem opS_add : OpS X (binaryOp .Add) addA := by
  intro pins s σ H x y v u Q I rx ry B σ' δ M vs as a b c M' hat hg hq
  obtain ⟨F, own, cc, hs, hv⟩ := hat
  cases hv with
  | cons ry' t =>
  cases t with
  | cons rx' hv =>
  unfold addA at hg
  split at hg
  · cases int_of rx'
    cases int_of ry'
    cases hg
    exact op_add pins s σ H _ _ v u Q I rx ry ⟨_, _, rfl, rfl, hq _ _ ⟨F, own, cc, hs, .cons (.int _) hv⟩⟩
  · cases str_of rx'
    cases str_of ry'
    split at hg
    · cases hg
      exact op_add_str pins s σ H _ _ v u Q I rx ry ⟨_, _, rfl, rfl, ‹_›, hq _ _ ⟨F, own, cc, hs, .cons (.str _) hv⟩⟩
    · cases hg
  · split at hg
    · rename_i hz
      cases hg
      obtain ⟨p, ws, rfl, hp, hp'⟩ := tup_ok cc rx'
      obtain ⟨q, zs, rfl, hr, hr'⟩ := tup_ok cc ry'
      refine op_catA pins s σ H _ _ v u Q I rx ry ⟨p, q, ws, zs, rfl, rfl, hp, hr, ?_, fun e => ?_, fun _ e => ?_, fun _ _ t ht => hq _ _ ?_⟩
      · rw [hp'.length, hr'.length]; exact hz
      · subst e
        cases hp'
        exact hq _ _ ⟨F, own, cc, hs, .cons ry' hv⟩
      · subst e
        cases hr'
        rw [List.append_nil] at hq
        exact hq _ _ ⟨F, own, cc, hs, .cons rx' hv⟩
      · obtain ⟨c2, s2⟩ := cc.laid (o := .tup (ws ++ zs)) ht
        refine ⟨_, own, c2, hs.mono fun _ _ r => ?_, .cons (.tup (.inl (.inl upd_same)) (Reps.of ((hp'.append hr').mono fun _ _ r => r.up s2))) (hv.mono fun _ _ r => r.upF s2)⟩
        have := r.up (t := []) s2
        rwa [List.append_nil] at this
    · cases hg
  · split at hg
    · rename_i xs ys e1 e2
      unfold mkL at hg
      split at hg
      · rename_i hz
        cases hg
        obtain ⟨p, ws, rfl, hp, hp'⟩ := lsw_ok e1 cc rx'
        obtain ⟨q, zs, rfl, hr, hr'⟩ := lsw_ok e2 cc ry'
        refine op_cat pins s σ H _ _ v u Q I rx ry ⟨p, q, ws, zs, rfl, rfl, hp, hr, ?_, fun t ht => hq _ _ (newL_at cc hs hv (hp'.append hr') ht)⟩
        rw [hp'.length, hr'.length]
        simpa using hz
      · cases hg
    · cases hg
theorem opS_sub : OpS X (binaryOp .Sub) subA := by
  intro pins s σ H x y v u Q I rx ry B σ' δ M vs as a b c M' hat hg hq
  obtain ⟨F, own, cc, hs, hv⟩ := hat
  cases hv with
  | cons ry' t =>
  cases t with
  | cons rx' hv =>
  unfold subA at hg
  split at hg
  · cases int_of rx'
    cases int_of ry'
    cases hg
    exact op_sub pins s σ H _ _ v u Q I rx ry ⟨_, _, rfl, rfl, hq _ _ ⟨F, own, cc, hs, .cons (.int _) hv⟩⟩
  · cases hg
theorem opS_mul : OpS X (binaryOp .Mult) mulA := by
  intro pins s σ H x y v u Q I rx ry B σ' δ M vs as a b c M' hat hg hq
  obtain ⟨F, own, cc, hs, hv⟩ := hat
  cases hv with
  | cons ry' t =>
  cases t with
  | cons rx' hv =>
  unfold mulA at hg
  split at hg
  · cases int_of rx'
    cases int_of ry'
    split at hg
    · cases hg
      rename_i hz
      exact op_mulW pins s σ H _ _ v u Q I rx ry ⟨_, _, rfl, rfl, (show bits _ + bits _ < 1000000 from of_decide_eq_true hz), hq _ _ ⟨F, own, cc, hs, .cons (.int _) hv⟩⟩
    · cases hg
  · rename_i ds k
    split at hg
    · rename_i hz
      cases hg
      obtain ⟨z1, z2, z3, z4⟩ := hz
      have z2 := inR_ok z2
      cases int_of ry'
      obtain ⟨p, ws, rfl, hp, hp'⟩ := tup_ok cc rx'
      have hne : ws ≠ [] := fun e => by
        subst e
        cases hp'
        simp at z1
      by_cases hk : 2 ≤ k
      · refine op_repT pins s σ H _ _ v u Q I rx ry ⟨p, k, ws, rfl, rfl, hp, hne, hk, z3, by rw [hp'.length]; exact z4, fun t ht => hq _ _ ?_⟩
        obtain ⟨c2, s2⟩ := cc.laid (o := .tup (List.replicate k.toNat ws).flatten) ht
        exact ⟨_, own, c2, relS_up hs s2, .cons (.tup (.inl (.inl upd_same)) (Reps.of ((hp'.rep k.toNat).mono fun _ _ r => r.up s2))) (relA_up hv s2)⟩
      · refine Sup.op_few pins s σ H _ _ v u Q I rx ry ⟨p, k, ws, rfl, rfl, hp, hne, by omega, by omega, fun e => ?_, fun e t ht => ?_⟩
        · subst e
          have e1 : (List.replicate (1 : Int).toNat ds).flatten = ds := by simp
          rw [e1] at hq
          exact hq _ _ ⟨F, own, cc, hs, .cons rx' hv⟩
        · have e0 : k.toNat = 0 := by omega
          rw [e0] at hq
          obtain ⟨c2, s2⟩ := cc.laid (o := .tup []) ht
          exact hq _ _ ⟨_, own, c2, relS_up hs s2, .cons (.tup (.inl (.inl upd_same)) .nil) (relA_up hv s2)⟩
    · cases hg
  · rename_i k _ _
    cases int_of ry'
    split at hg
    · rename_i xs e1
      split at hg
      · rename_i hz
        rw [Bool.and_eq_true_iff, decide_eq_true_eq] at hz
        have z2 := inR_ok hz.1
        cases hg
        obtain ⟨p, ws, rfl, hp, hp'⟩ := lsw_ok e1 cc rx'
        exact op_rep pins s σ H _ _ v u Q I rx ry ⟨p, k, ws, rfl, rfl, hp, by omega, by omega, by rw [hp'.length]; exact hz.2, fun t ht => hq _ _ (newL_at cc hs hv (hp'.rep k.toNat) ht)⟩
      · cases hg
    · cases hg
  · cases hg
theorem opS_fdv : OpS X (binaryOp .FloorDiv) fdvA := by
  intro pins s σ H x y v u Q I rx ry B σ' δ M vs as a b c M' hat hg hq
  obtain ⟨F, own, cc, hs, hv⟩ := hat
  cases hv with
  | cons ry' t =>
  cases t with
  | cons rx' hv =>
  unfold fdvA at hg
  split at hg
  · cases int_of rx'
    cases int_of ry'
    split at hg
    · cases hg
      rename_i hz
      have hz2 := Bool.and_eq_true_iff.mp hz
      exact op_fdivW pins s σ H _ _ v u Q I rx ry ⟨_, _, rfl, rfl, ⟨of_decide_eq_true hz2.1, of_decide_eq_true hz2.2⟩, hq _ _ ⟨F, own, cc, hs, .cons (.int _) hv⟩⟩
    · cases hg
  · cases hg
theorem opS_mod : OpS X (binaryOp .Mod) modA := by
  intro pins s σ H x y v u Q I rx ry B σ' δ M vs as a b c M' hat hg hq
  obtain ⟨F, own, cc, hs, hv⟩ := hat
  cases hv with
  | cons ry' t =>
  cases t with
  | cons rx' hv =>
  unfold modA at hg
  split at hg
  · cases int_of rx'
    cases int_of ry'
    split at hg
    · cases hg
      rename_i hz
      exact op_mod pins s σ H _ _ v u Q I rx ry ⟨_, _, rfl, rfl, hz, hq _ _ ⟨F, own, cc, hs, .cons (.int _) hv⟩⟩
    · cases hg
  · cases hg
theorem opS_pow : OpS X (binaryOp .Pow) powA := by
  intro pins s σ H x y v u Q I rx ry B σ' δ M vs as a b c M' hat hg hq
  obtain ⟨F, own, cc, hs, hv⟩ := hat
  cases hv with
  | cons ry' t =>
  cases t with
  | cons rx' hv =>
  unfold powA at hg
  split at hg
  · cases int_of rx'
    cases int_of ry'
    split at hg
    · cases hg
      rename_i hz
      have hz2 := Bool.and_eq_true_iff.mp hz
      have hz3 := Bool.and_eq_true_iff.mp hz2.1
      exact op_pow pins s σ H _ _ v u Q I rx ry ⟨_, _, rfl, rfl, ⟨of_decide_eq_true hz3.1, of_decide_eq_true hz3.2, of_decide_eq_true hz2.2⟩, hq _ _ ⟨F, own, cc, hs, .cons (.int _) hv⟩⟩
    · cases hg
  · cases hg
end
end Mini

set_option Elab.async false
set_option linter.all false
set_option maxRecDepth 100000
/-! Mini 4: comparisons, truth, items, slices, built-ins, methods. -/
namespace Mini
open PySem PySem.Spec L2

theorem al_zero {α β : Type} {R : α → β → Prop} {xs : List α} (h : Al R xs ([] : List β)) : xs = [] := by
  cases h; rfl

section
variable {K : Fg} {B : Base} {H F : Hp} {own : List Addr} {M : List O}
mutual
theorem Rep.dp {F' : Hp} (e : Same F F') : ∀ (d : D) (v : V), Rep K F v d → Dp K F' v d.py
  | .non, _, h => by cases h; exact .non
  | .bl b, _, h => by cases h; exact .bl b
  | .int i, _, h => by cases h; exact .int i
  | .str x, _, h => by cases h; exact .str x
  | .tup ds, _, h => by
    cases h with
    | tup hs ha => exact .tup (same_seqT e hs) (Reps.dp e ds _ ha)
  | .lst ds, _, h => by
    cases h with
    | lst hs ha => exact .lst (SqL.of (e _ _ hs)) (Reps.dp e ds _ ha)
  | .rol ds, _, h => by
    cases h with
    | rol hs ha => exact .lst (e.seq hs) (Reps.dp e ds _ ha)
theorem Reps.dp {F' : Hp} (e : Same F F') : ∀ (ds : List D) (vs : List V), Reps K F vs ds → DpAll K F' vs (D.pys ds)
  | [], _, h => by cases h; exact .nil
  | d :: ds, _, h => by
    cases h with
    | cons h1 h2 => exact .cons (Rep.dp e d _ h1) (Reps.dp e ds _ h2)
end
end
section
variable {X : Cx}
theorem dcw_ok {K : Fg} {B : Base} {H F : Hp} {own : List Addr} {M : List O} {a : A} {kvs : List (Key × A)} {v : V} (e : dcw M a = some kvs) (c : Core K B H F own M) (h : RelA K F own v a) : ∃ (n : Nat) (p : Addr) (ws : List (Key × V)), a = .cell n ∧ own[n]? = some p ∧ M[n]? = some (.dct kvs) ∧ v = .ref p ∧ H p = some (.dK ws) ∧ Al (RelP K F own) ws kvs := by
  unfold dcw at e
  split at e
  · rename_i n
    obtain ⟨l, hl, rfl⟩ := h
    split at e
    · rename_i hM
      cases e
      obtain ⟨ws, hv, ha⟩ := c.obj n l _ hl hM
      exact ⟨n, l, ws, rfl, hl, hM, rfl, hv, ha⟩
    · cases e
  · cases e
theorem dct_nil {K : Fg} {B : Base} {H F : Hp} {own : List Addr} {M : List O} {a : A} {v : V} (e : dcw M a = some []) (c : Core K B H F own M) (h : RelA K F own v a) : ∃ p ws, v = .ref p ∧ H p = some (.dK ws) ∧ ws = [] := by
  obtain ⟨n, p, ws, _, _, _, h1, h2, h3⟩ := dcw_ok e c h
  exact ⟨p, ws, h1, h2, al_zero h3⟩
theorem eqA_cases {a b : A} {M : List O} {k : Bool} (h : eqA a b M = some k) : eqB a b M = some k ∨ (k = true ∧ dcw M a = some [] ∧ dcw M b = some []) := by
  unfold eqA at h
  split at h
  · exact .inl h
  · rename_i ks ls e1 e2
    split at h
    · rename_i hz
      rw [Bool.and_eq_true_iff, List.isEmpty_iff, List.isEmpty_iff] at hz
      obtain ⟨rfl, rfl⟩ := hz
      cases h
      exact .inr ⟨rfl, e1, e2⟩
    · cases h
  · cases h
/-- a comparison's answer carried by a rule -/
theorem opS_eq (hu : X.A.units + 64 < cLine) : OpS X (compareOp .Eq) (cmpR .eq) := by
  intro pins s σ H x y v u Q I rx ry B σ' δ M vs as a b c M' hat hg hq
  have hat0 := hat
  obtain ⟨F, own, cc, hs, hv⟩ := hat
  cases hv with
  | cons ry' t =>
  cases t with
  | cons rx' hv =>
  unfold cmpR at hg
  split at hg
  · rename_i k hk
    cases hg
    have hk : eqA a b M = some k := hk
    have fin : ∀ k', k' = k → Q (.bl k') H := fun k' e => by subst e; exact hq _ _ ⟨F, own, cc, hs, .cons (.bl _) hv⟩
    rcases eqA_cases hk with hk | ⟨rfl, ha, hb⟩
    rotate_left
    · obtain ⟨p, ws, rfl, hp, e1⟩ := dct_nil ha cc rx'
      obtain ⟨q, zs, rfl, hq', e2⟩ := dct_nil hb cc ry'
      subst e1 e2
      exact op_eq_dictA (by omega) pins s σ H _ _ v u Q I rx ry ⟨p, q, [], [], rfl, rfl, hp, hq', rfl, fun _ h => by simp at h, fin _ rfl⟩
    unfold eqB at hk
    split at hk
    · cases int_of rx'; cases int_of ry'; cases hk
      exact op_eq pins s σ H _ _ v u Q I rx ry ⟨rfl, fin _ dec_int⟩
    · cases str_of rx'; cases str_of ry'; cases hk
      exact op_eq pins s σ H _ _ v u Q I rx ry ⟨rfl, fin _ dec_str⟩
    · cases bl_of rx'; cases bl_of ry'; cases hk
      exact op_eq pins s σ H _ _ v u Q I rx ry ⟨rfl, fin _ dec_bl⟩
    · cases non_of rx'; cases non_of ry'; cases hk
      exact op_eq pins s σ H _ _ v u Q I rx ry ⟨rfl, fin _ rfl⟩
    · split at hk
      · rename_i x' M1 e1
        split at hk
        · rename_i y' M2 e2
          split at hk
          · rename_i hz
            cases hk
            obtain ⟨F1, c1, s1, r1⟩ := frz_ok 8 _ _ _ _ e1 _ _ cc rx'
            obtain ⟨F2, c2, s2, r2⟩ := frz_ok 8 _ _ _ _ e2 _ _ c1 (ry'.upF s1)
            have hz2 := Bool.and_eq_true_iff.mp hz
            exact op_eqD hu pins s σ H _ _ v u Q I rx ry ⟨_, _, Rep.dp (s2.trans c2.fh) _ _ r1, Rep.dp c2.fh _ _ r2, hz2.1, hz2.2, fin _ rfl⟩
          · cases hk
        · cases hk
      · cases hk
  · cases hg
theorem opS_ne (hu : X.A.units + 64 < cLine) : OpS X (compareOp .NotEq) (cmpR .ne) := by
  intro pins s σ H x y v u Q I rx ry B σ' δ M vs as a b c M' hat hg hq
  have hat0 := hat
  obtain ⟨F, own, cc, hs, hv⟩ := hat
  cases hv with
  | cons ry' t =>
  cases t with
  | cons rx' hv =>
  unfold cmpR at hg
  split at hg
  · rename_i k hk
    cases hg
    have hk : neA a b M = some k := hk
    have fin : ∀ k', k' = k → Q (.bl k') H := fun k' e => by subst e; exact hq _ _ ⟨F, own, cc, hs, .cons (.bl _) hv⟩
    unfold neA at hk
    split at hk
    · rename_i k0 hk0
      cases hk
      rcases eqA_cases hk0 with hk0 | ⟨rfl, ha, hb⟩
      rotate_left
      · obtain ⟨p, ws, rfl, hp, e1⟩ := dct_nil ha cc rx'
        obtain ⟨q, zs, rfl, hq', e2⟩ := dct_nil hb cc ry'
        subst e1 e2
        exact op_ne_dictA (by omega) pins s σ H _ _ v u Q I rx ry ⟨p, q, [], [], rfl, rfl, hp, hq', rfl, fun _ h => by simp at h, fin _ rfl⟩
      unfold eqB at hk0
      split at hk0
      · cases int_of rx'; cases int_of ry'; cases hk0
        exact op_ne pins s σ H _ _ v u Q I rx ry ⟨rfl, fin _ (by rw [dec_int])⟩
      · cases str_of rx'; cases str_of ry'; cases hk0
        exact op_ne pins s σ H _ _ v u Q I rx ry ⟨rfl, fin _ (by rw [dec_str])⟩
      · cases bl_of rx'; cases bl_of ry'; cases hk0
        exact op_ne pins s σ H _ _ v u Q I rx ry ⟨rfl, fin _ (by rw [dec_bl])⟩
      · cases non_of rx'; cases non_of ry'; cases hk0
        exact op_ne pins s σ H _ _ v u Q I rx ry ⟨rfl, fin _ rfl⟩
      · split at hk0
        · rename_i x' M1 e1
          split at hk0
          · rename_i y' M2 e2
            split at hk0
            · rename_i hz
              cases hk0
              obtain ⟨F1, c1, s1, r1⟩ := frz_ok 8 _ _ _ _ e1 _ _ cc rx'
              obtain ⟨F2, c2, s2, r2⟩ := frz_ok 8 _ _ _ _ e2 _ _ c1 (ry'.upF s1)
              have hz2 := Bool.and_eq_true_iff.mp hz
              exact op_neD hu pins s σ H _ _ v u Q I rx ry ⟨_, _, Rep.dp (s2.trans c2.fh) _ _ r1, Rep.dp c2.fh _ _ r2, hz2.1, hz2.2, fin _ rfl⟩
            · cases hk0
          · cases hk0
        · cases hk0
    · cases hk
  · cases hg
theorem non_dec {K : Fg} {F : Hp} {own : List Addr} {x : V} {a b : A} {M : List O} {k : Bool} (h : isNA a b M = some k) (r : RelA K F own x a) : b = .d .non ∧ decide (x = .non) = k := by
  unfold isNA at h
  split at h
  · refine ⟨rfl, ?_⟩
    split at h
    · cases h; cases non_of r; rfl
    · rename_i z hz
      cases h
      cases r with
      | non => exact absurd rfl hz
      | bl b => rfl
      | int i => rfl
      | str x => rfl
      | tup _ _ => rfl
      | lst _ _ => rfl
      | rol _ _ => rfl
    · cases h
      obtain ⟨l, _, rfl⟩ := r
      rfl
    · cases h
  · cases h
theorem opS_isN : OpS X (compareOp .Is) (cmpR .isN) := by
  intro pins s σ H x y v u Q I rx ry B σ' δ M vs as a b c M' hat hg hq
  obtain ⟨F, own, cc, hs, hv⟩ := hat
  cases hv with
  | cons ry' t =>
  cases t with
  | cons rx' hv =>
  unfold cmpR at hg
  split at hg
  · rename_i k hk
    cases hg
    have hk : isNA a b M = some k := hk
    obtain ⟨rfl, hd⟩ := non_dec hk rx'
    cases non_of ry'
    exact op_isN pins s σ H _ _ v u Q I rx ry ⟨rfl, by rw [hd]; exact hq _ _ ⟨F, own, cc, hs, .cons (.bl _) hv⟩⟩
  · cases hg
theorem opS_notN : OpS X (compareOp .IsNot) (cmpR .notN) := by
  intro pins s σ H x y v u Q I rx ry B σ' δ M vs as a b c M' hat hg hq
  obtain ⟨F, own, cc, hs, hv⟩ := hat
  cases hv with
  | cons ry' t =>
  cases t with
  | cons rx' hv =>
  unfold cmpR at hg
  split at hg
  · rename_i k hk
    cases hg
    have hk : notNA a b M = some k := hk
    unfold notNA at hk
    split at hk
    · rename_i k0 hk0
      cases hk
      obtain ⟨rfl, hd⟩ := non_dec hk0 rx'
      cases non_of ry'
      exact op_notN pins s σ H _ _ v u Q I rx ry ⟨rfl, by rw [hd]; exact hq _ _ ⟨F, own, cc, hs, .cons (.bl _) hv⟩⟩
    · cases hk
  · cases hg
/-- an order of ints -/
theorem opS_ord {op : CmpOp} {o : Cmp} {g : Int → Int → Bool} (ho : OpR X (compareOp op) (rI0 fun i j => .bl (g i j))) (hg : ∀ a b M, cmp o a b M = match a, b with
    | .d (.int i), .d (.int j) => some (g i j)
    | _, _ => none) : OpS X (compareOp op) (cmpR o) := by
  intro pins s σ H x y v u Q I rx ry B σ' δ M vs as a b c M' hat hh hq
  obtain ⟨F, own, cc, hs, hv⟩ := hat
  cases hv with
  | cons ry' t =>
  cases t with
  | cons rx' hv =>
  unfold cmpR at hh
  split at hh
  · rename_i k hk
    cases hh
    rw [hg] at hk
    split at hk
    · cases int_of rx'; cases int_of ry'; cases hk
      exact ho pins s σ H _ _ v u Q I rx ry ⟨_, _, rfl, rfl, hq _ _ ⟨F, own, cc, hs, .cons (.bl _) hv⟩⟩
    · cases hk
  · cases hh
theorem opS_lt : OpS X (compareOp .Lt) (cmpR .lt) := opS_ord op_lt fun _ _ _ => rfl
theorem opS_le : OpS X (compareOp .LtE) (cmpR .le) := opS_ord op_le fun _ _ _ => rfl
theorem opS_gt : OpS X (compareOp .Gt) (cmpR .gt) := opS_ord op_gt fun _ _ _ => rfl
theorem opS_ge : OpS X (compareOp .GtE) (cmpR .ge) := opS_ord op_ge fun _ _ _ => rfl
/-! in -/
theorem sc_flat {K : Fg} {F : Hp} {v : V} {d : D} (h : Rep K F v d) (hd : d.isSc = true) : flatV v = true := by
  cases h with
  | non => rfl
  | bl b => rfl
  | int i => rfl
  | str x => rfl
  | tup _ _ => cases hd
  | lst _ _ => cases hd
  | rol _ _ => cases hd
theorem sc_eq {K : Fg} {F F' : Hp} {v w : V} {d e : D} (h : Rep K F v d) (hd : d.isSc = true) (h' : Rep K F' w e) (he : e.isSc = true) : eqV v w = eqS d e := by
  cases h <;> cases h' <;> first | rfl | cases hd | cases he
theorem scs_ok {K : Fg} {F : Hp} {own : List Addr} : ∀ {as : List A} {ds : List D} {ws : List V}, scs as = some ds → Al (RelA K F own) ws as → Al (fun v d => Rep K F v d ∧ D.isSc d = true) ws ds
  | [], ds, ws, e, h => by cases e; cases h; exact .nil
  | .d x :: r, ds, ws, e, h => by
    unfold scs at e
    split at e
    · rename_i hx
      split at e
      · rename_i xs e2
        cases e
        cases h with
        | cons h1 h2 => exact .cons ⟨h1, hx⟩ (scs_ok e2 h2)
      · cases e
    · cases e
  | .cell n :: r, ds, ws, e, h => by cases e
  | .un :: r, ds, ws, e, h => by cases e
theorem scs_flat {K : Fg} {F : Hp} : ∀ {ws : List V} {ds : List D}, Al (fun v d => Rep K F v d ∧ D.isSc d = true) ws ds → ws.all flatV = true
  | _, _, .nil => rfl
  | _, _, .cons r t => by rw [List.all_cons, sc_flat r.1 r.2, scs_flat t] <;> rfl
theorem scs_in {K : Fg} {F F' : Hp} {v : V} {d : D} (h : Rep K F v d) (hd : d.isSc = true) : ∀ {ws : List V} {ds : List D}, Al (fun v d => Rep K F' v d ∧ D.isSc d = true) ws ds → inV v ws = ds.any fun y => eqS y d
  | _, _, .nil => rfl
  | _, _, .cons (a := w) (b := e) r t => by
    have ih := scs_in h hd t
    unfold inV at ih ⊢
    rw [List.any_cons, List.any_cons, ih, sc_eq r.1 r.2 h hd]
theorem seqv_ok {K : Fg} {B : Base} {H F : Hp} {own : List Addr} {M : List O} {a : A} {xs : List A} {v : V} (e : seqv M a = some xs) (c : Core K B H F own M) (h : RelA K F own v a) : ∃ p ws, v = .ref p ∧ (SqL K H p ws ∨ SqT K H p ws) ∧ Al (RelA K F own) ws xs := by
  unfold seqv at e
  split at e
  · cases e
    obtain ⟨p, ws, h1, h2, h3⟩ := tup_ok c h
    exact ⟨p, ws, h1, .inr h2, al_D h3⟩
  · obtain ⟨p, ws, h1, h2, h3⟩ := lsv_ok e c h
    exact ⟨p, ws, h1, .inl h2, h3⟩
/-- keys -/
theorem keyA_ok {K : Fg} {F : Hp} {own : List Addr} {a : A} {k : Key} {v : V} (e : keyA a = some k) (h : RelA K F own v a) : v = kV k := by
  unfold keyA at e
  split at e
  · rename_i x
    unfold keyD at e
    split at e
    · cases e; exact int_of h
    · cases e; exact str_of h
    · cases e
  · cases e
theorem valA_ok {K : Fg} {F : Hp} {own : List Addr} {k : Key} : ∀ {ws : List (Key × V)} {kvs : List (Key × A)}, Al (RelP K F own) ws kvs → match valA kvs k with
    | some a => ∃ v, valV ws k = some v ∧ RelA K F own v a
    | none => valV ws k = none
  | _, _, .nil => rfl
  | (i, v) :: ws, (j, a) :: kvs, .cons r t => by
    obtain ⟨e, q⟩ := r
    have e : i = j := e
    subst e
    have ih := valA_ok (k := k) t
    unfold valA valV at ih ⊢
    rw [List.find?_cons, List.find?_cons]
    cases hd : decide (i = k) with
    | true => exact ⟨v, by simp [hd], q⟩
    | false => simpa [hd] using ih
theorem valA_isSome {K : Fg} {F : Hp} {own : List Addr} {k : Key} {ws : List (Key × V)} {kvs : List (Key × A)} (h : Al (RelP K F own) ws kvs) : (valV ws k).isSome = (valA kvs k).isSome := by
  have q := valA_ok (k := k) h
  cases e : valA kvs k with
  | none => rw [e] at q; rw [show valV ws k = none from q] <;> rfl
  | some a =>
    rw [e] at q
    obtain ⟨v, h1, _⟩ := q
    rw [h1] <;> rfl
theorem dcv_ok {K : Fg} {B : Base} {H F : Hp} {own : List Addr} {M : List O} {a : A} {kvs : List (Key × A)} {v : V} (e : dcv M a = some kvs) (c : Core K B H F own M) (h : RelA K F own v a) : ∃ (p : Addr) (ws : List (Key × V)), v = .ref p ∧ Rd H p (.dK ws) ∧ Al (RelP K F own) ws kvs := by
  unfold dcv at e
  split at e
  · rename_i n
    obtain ⟨l, hl, rfl⟩ := h
    split at e
    · rename_i hM
      cases e
      obtain ⟨ws, hv, ha⟩ := c.obj n l _ hl hM
      exact ⟨l, ws, rfl, .inl hv, ha⟩
    · rename_i hM
      cases e
      obtain ⟨od, ws, hv, ha⟩ := c.obj n l _ hl hM
      exact ⟨l, ws, rfl, .inr ⟨od, hv⟩, ha⟩
    · cases e
  · cases e
theorem stv_ok {K : Fg} {B : Base} {H F : Hp} {own : List Addr} {M : List O} {a : A} {ks : List Key} {v : V} (e : stv M a = some ks) (c : Core K B H F own M) (h : RelA K F own v a) : ∃ (p : Addr) (S : Key → Bool) (n : Nat), v = .ref p ∧ H p = some (SetK K.P K.w p S n) ∧ ∀ k, S k = ks.any fun j => decide (k = j) := by
  unfold stv at e
  split at e
  · rename_i n
    obtain ⟨l, hl, rfl⟩ := h
    split at e
    · rename_i hM
      cases e
      obtain ⟨S, m, hv, _, ha⟩ := c.obj n l _ hl hM
      exact ⟨l, S, m, rfl, hv, ha⟩
    · cases e
  · cases e
theorem sgn_ok {x : Str} {c : Nat} (h : sgn x = some c) : x = ⟨#[c]⟩ := by
  unfold sgn at h
  split at h
  · rename_i e
    cases h
    obtain ⟨cs⟩ := x
    exact congrArg Str.mk (Array.toList_inj.mp e)
  · cases h
def rDin (neg : Bool) : R2 := fun x y H Q => ∃ a ov, y = V.ref a ∧ DGet H a x ov ∧ Q (.bl (if neg then !ov.isSome else ov.isSome)) H
theorem op_din (hu : X.A.units + 64 < cLine) : OpR X (compareOp .In) (rDin false) := by
  intro pins s σ H x y v u Q I rx ry h
  obtain ⟨a, ov, rfl, g, q⟩ := h
  obtain rfl : u = Value.ref a := ry
  exact d_in (by omega) I g rx fun s3 I3 => ⟨.bl ov.isSome, H, I3, rfl, q⟩
theorem op_dnin (hu : X.A.units + 64 < cLine) : OpR X (compareOp .NotIn) (rDin true) := by
  intro pins s σ H x y v u Q I rx ry h
  obtain ⟨a, ov, rfl, g, q⟩ := h
  obtain rfl : u = Value.ref a := ry
  exact d_notIn (by omega) I g rx fun s3 I3 => ⟨.bl (!ov.isSome), H, I3, rfl, q⟩
def rSign (neg : Bool) : R2 := fun x y H Q => ∃ (c : Nat) (z : Str), x = .str ⟨#[c]⟩ ∧ y = .str z ∧ Q (.bl (if neg then !decide (c ∈ z.cps.toList) else decide (c ∈ z.cps.toList))) H
theorem opS_innG {op : CmpOp} {neg : Bool} (ho : OpR X (compareOp op) (rIn X.K neg)) (hd : OpR X (compareOp op) (rDin neg)) (hst : OpR X (compareOp op) (rSInK X.prog X.w neg)) (hsg : OpR X (compareOp op) (rSign neg)) {o : Cmp} (hcmp : ∀ a b M k, cmp o a b M = some k → ∃ k0, innA a b M = some k0 ∧ k = if neg then !k0 else k0) : OpS X (compareOp op) (cmpR o) := by
  intro pins s σ H x y v u Q I rx ry B σ' δ M vs as a b c M' hat hg hq
  obtain ⟨F, own, cc, hs, hv⟩ := hat
  cases hv with
  | cons ry' t =>
  cases t with
  | cons rx' hv =>
  unfold cmpR at hg
  split at hg
  · rename_i k hk
    cases hg
    obtain ⟨k0, hk0, rfl⟩ := hcmp _ _ _ _ hk
    unfold innA at hk0
    split at hk0
    · split at hk0
      · split at hk0
        · rename_i e1
          cases hk0
          cases str_of ry'
          cases str_of rx'
          exact hsg pins s σ H _ _ v u Q I rx ry ⟨_, _, by rw [sgn_ok e1], rfl, hq _ _ ⟨F, own, cc, hs, .cons (.bl _) hv⟩⟩
        · cases hk0
      · cases hk0
    · split at hk0
      · rename_i kvs e1
        split at hk0
        · rename_i k e2
          cases hk0
          obtain ⟨p, ws, rfl, hp, hr⟩ := dcv_ok e1 cc ry'
          have ek := keyA_ok e2 rx'
          subst ek
          refine hd pins s σ H _ _ v u Q I rx ry ⟨p, valV ws k, rfl, .inl ⟨ws, k, hp, rfl, rfl⟩, ?_⟩
          rw [valA_isSome hr]
          exact hq _ _ ⟨F, own, cc, hs, .cons (.bl _) hv⟩
        · cases hk0
      · split at hk0
        · rename_i ks e1
          split at hk0
          · rename_i k e2
            cases hk0
            obtain ⟨p, S, n, rfl, hp, hr⟩ := stv_ok e1 cc ry'
            have ek := keyA_ok e2 rx'
            subst ek
            refine hst pins s σ H _ _ v u Q I rx ry ⟨k, p, S, n, rfl, rfl, hp, ?_⟩
            rw [hr k]
            exact hq _ _ ⟨F, own, cc, hs, .cons (.bl _) hv⟩
          · cases hk0
        · unfold innL at hk0
          split at hk0
          · rename_i ys e1
            split at hk0
            · rename_i x1 zs e2 e3
              cases hk0
              obtain ⟨p, ws, rfl, hp, hw⟩ := seqv_ok e1 cc ry'
              have q2 := scs_ok e2 (.cons rx' .nil)
              have q3 := scs_ok e3 hw
              cases q2 with
              | cons q2 _ =>
              refine ho pins s σ H _ _ v u Q I rx ry ⟨p, ws, rfl, hp, sc_flat q2.1 q2.2, scs_flat q3, ?_⟩
              rw [scs_in q2.1 q2.2 q3]
              exact hq _ _ ⟨F, own, cc, hs, .cons (.bl _) hv⟩
            · cases hk0
          · cases hk0
  · cases hg
theorem opS_inn (hu : X.A.units + 64 < cLine) : OpS X (compareOp .In) (cmpR .inn) := opS_innG op_in_seq (op_din hu) or_sinK op_in_sign fun a b M k h => ⟨k, h, rfl⟩
theorem opS_nin (hu : X.A.units + 64 < cLine) : OpS X (compareOp .NotIn) (cmpR .nin) := opS_innG op_notIn_seq (op_dnin hu) or_snotinK op_notIn_sign fun a b M k h => by
  have h : ninA a b M = some k := h
  unfold ninA at h
  split at h
  · rename_i k0 hk0
    cases h
    exact ⟨k0, hk0, rfl⟩
  · cases h
end
end Mini

set_option Elab.async false
set_option linter.all false
/-! MnO: the order of texts. -/
namespace Mini
open PySem PySem.Spec PyProof.Rows L2
theorem leS_iff {x y : Str} : leS x y = true ↔ x.cps.toList ≤ y.cps.toList := by
  unfold leS
  rw [ltCps_eq, Bool.not_eq_true', decide_eq_false_iff_not]
  exact Iff.rfl
theorem leS_trans {x y z : Str} (h : leS x y = true) (h' : leS y z = true) : leS x z = true := leS_iff.mpr (List.le_trans (leS_iff.mp h) (leS_iff.mp h'))
theorem leS_antisymm {x y : Str} (h : leS x y = true) (h' : leS y x = true) : x = y := by
  have e := List.le_antisymm (leS_iff.mp h) (leS_iff.mp h')
  obtain ⟨a⟩ := x
  obtain ⟨b⟩ := y
  exact congrArg Str.mk (Array.toList_inj.mp e)
theorem leS_total {x y : Str} (h : leS x y = false) : leS y x = true := by
  have h : ¬ leS x y = true := by rw [h]; simp
  rw [leS_iff] at h ⊢
  rcases List.le_total x.cps.toList y.cps.toList with z | z
  · exact absurd z h
  · exact z
theorem risingS_pw : ∀ (r : List Str) (p : Str), risingS p r = true → (∀ x ∈ r, leS p x = true) ∧ r.Pairwise fun a b => leS a b = true
  | [], _, _ => ⟨by simp, .nil⟩
  | x :: r, p, h => by
    have h : (!ltCps x.cps.toList p.cps.toList && risingS x r) = true := h
    rw [Bool.and_eq_true_iff] at h
    obtain ⟨h1, h2⟩ := risingS_pw r x h.2
    have hp : leS p x = true := h.1
    refine ⟨fun y hy => ?_, .cons h1 h2⟩
    rcases List.mem_cons.mp hy with rfl | hy
    · exact hp
    · exact leS_trans hp (h1 y hy)
theorem sortedS_pw {l : List Str} (h : sortedS l = true) : l.Pairwise fun a b => leS a b = true := by
  cases l with
  | nil => exact .nil
  | cons x r => exact .cons (risingS_pw r x h).1 (risingS_pw r x h).2
theorem insS_perm (x : Str) : ∀ l : List Str, (insS x l).Perm (x :: l)
  | [] => .refl _
  | y :: r => by
    unfold insS
    split
    · exact .refl _
    · exact ((insS_perm x r).cons y).trans (.swap x y r)
theorem sortS_perm : ∀ l : List Str, (sortS l).Perm l
  | [] => .nil
  | x :: r => (insS_perm x _).trans ((sortS_perm r).cons x)
theorem insS_pw (x : Str) : ∀ l : List Str, (l.Pairwise fun a b => leS a b = true) → (insS x l).Pairwise fun a b => leS a b = true
  | [], _ => by simp [insS]
  | y :: r, h => by
    unfold insS
    cases h with
    | cons h1 h2 =>
    split
    · rename_i hx
      refine .cons (fun z hz => ?_) (.cons h1 h2)
      rcases List.mem_cons.mp hz with rfl | hz
      · exact hx
      · exact leS_trans hx (h1 z hz)
    · rename_i hx
      have hy : leS y x = true := leS_total (by simpa using hx)
      refine .cons (fun z hz => ?_) (insS_pw x r h2)
      have := (insS_perm x r).mem_iff.mp hz
      rcases List.mem_cons.mp this with rfl | hz
      · exact hy
      · exact h1 z hz
theorem sortS_pw : ∀ l : List Str, (sortS l).Pairwise fun a b => leS a b = true
  | [] => .nil
  | x :: r => insS_pw x _ (sortS_pw r)
theorem sort_uniq {xs ys : List Str} (p : ys.Perm xs) (h : sortedS ys = true) : ys = sortS xs :=
  List.Perm.eq_of_pairwise (le := fun a b => leS a b = true) (fun a b _ _ h1 h2 => leS_antisymm h1 h2) (sortedS_pw h) (sortS_pw xs) (p.trans (sortS_perm xs).symm)
end Mini

set_option Elab.async false
set_option linter.all false
set_option maxRecDepth 100000
/-! Mini 5: truth, items, slices, built-ins, methods. -/
namespace Mini
open PySem PySem.Spec L2

/-! ### truth -/
section
variable {K : Fg} {B : Base} {H F : Hp} {own : List Addr} {M : List O}
theorem isEmpty_al {α β : Type} {R : α → β → Prop} {xs : List α} {ys : List β} (h : Al R xs ys) : xs.isEmpty = ys.isEmpty := by
  cases h <;> rfl
theorem tru_of {a : A} {k : Bool} {v : V} (e : tru M a = some k) (c : Core K B H F own M) (h : RelA K F own v a) : TruV K v H k := by
  unfold tru at e
  split at e
  · cases e; cases non_of h; rfl
  · cases e; cases bl_of h; rfl
  · cases e; cases int_of h; rfl
  · cases str_of h
    split at e
    · cases e; exact ⟨‹_›, rfl⟩
    · cases e
  · cases e
    obtain ⟨p, ws, rfl, h1, h2⟩ := tup_ok c h
    exact .inr (.inl ⟨ws, h1, by rw [isEmpty_al h2]⟩)
  · split at e
    · rename_i xs e1
      cases e
      obtain ⟨p, ws, rfl, h1, h2⟩ := lsv_ok e1 c h
      exact .inl ⟨ws, h1, by rw [isEmpty_al h2]⟩
    · cases e
end

/-! ### items -/
theorem ixN_len {α β : Type} {xs : List α} {ys : List β} {i : Int} {b : β} (hl : xs.length = ys.length) {R : α → β → Prop} (h : Al R xs ys) (e : atI ys i = some b) : ∃ a, atI xs i = some a ∧ R a b := by
  unfold atI at e ⊢
  rw [hl]
  cases q : ixN ys.length i with
  | none => rw [q] at e; cases e
  | some j =>
    rw [q] at e
    exact h.get e
section
variable {X : Cx}
theorem ix_dict (hu : X.A.units + 64 < cLine) : IxR X (fun x y H Q => ∃ a v, x = V.ref a ∧ DGet H a y (some v) ∧ Q v H) := by
  intro value slice pins s σ H x y v u Q I rx ry q hs
  obtain ⟨a, z, rfl, g, q⟩ := q
  obtain rfl : v = Value.ref a := rx
  exact PyProof.Rows.tail_any (dict_typeIs I g) PySem.F.slot_dict_getitem.lookup (d_getItem (by omega) I g ry fun w' s3 I3 rw' => ⟨z, H, I3, rw', q⟩) hs
theorem tlv_ok {K : Fg} {B : Base} {H F : Hp} {own : List Addr} {M : List O} {a : A} {xs : List A} {v : V} (e : tlv M a = some xs) (c : Core K B H F own M) (h : RelA K F own v a) : ∃ p ws, v = .ref p ∧ SqT K H p ws ∧ Al (RelA K F own) ws xs := by
  unfold tlv at e
  split at e
  · obtain ⟨l, hl, rfl⟩ := h
    split at e
    · rename_i hM
      cases e
      obtain ⟨ws, hv, ha⟩ := c.obj _ l _ hl hM
      exact ⟨l, ws, rfl, .inl (.inl hv), ha⟩
    · cases e
  · cases e
theorem ixS (hu : X.A.units + 64 < cLine) : IxR X (rOp X.G fun a b M => ixA M a b) := by
  intro value slice pins s σ H x y v u Q I rx ry q hs
  obtain ⟨B, σ', δ, M, vs, as, a, b, c, M', hat, hg, hq⟩ := q
  have hat0 := hat
  obtain ⟨F, own, cc, hss, hv⟩ := hat
  cases hv with
  | cons ry' t =>
  cases t with
  | cons rx' hv =>
  have hg : ixA M a b = .ok c M' := hg
  unfold ixA at hg
  split at hg
  · rename_i kvs e1
    split at hg
    · rename_i k e2
      split at hg
      · rename_i z e3
        cases hg
        obtain ⟨p, ws, rfl, hp, hr⟩ := dcv_ok e1 cc rx'
        have ek := keyA_ok e2 ry'
        subst ek
        have q := valA_ok (k := k) hr
        rw [e3] at q
        obtain ⟨w, h1, h2⟩ := q
        exact ix_dict hu value slice pins s σ H _ _ v u Q I rx ry ⟨p, w, rfl, .inl ⟨ws, k, hp, rfl, h1.symm⟩, hq _ _ ⟨F, own, cc, hss, .cons h2 hv⟩⟩ hs
      · cases hg
    · cases hg
  unfold ixL at hg
  split at hg
  · cases int_of ry'
    split at hg
    · split at hg
      · rename_i e1
        cases hg
        obtain ⟨p, ws, rfl, h1, h2⟩ := tup_ok cc rx'
        obtain ⟨w, e2, r⟩ := ixN_len h2.length h2 e1
        exact ix_tup value slice pins s σ H _ _ v u Q I rx ry ⟨p, ws, _, w, rfl, rfl, h1, e2, hq _ _ ⟨F, own, cc, hss, .cons r hv⟩⟩ hs
      · cases hg
    · split at hg
      · split at hg
        · rename_i e1
          cases hg
          cases str_of rx'
          exact ix_str value slice pins s σ H _ _ v u Q I rx ry ⟨_, _, _, rfl, rfl, ‹_›, e1, hq _ _ ⟨F, own, cc, hss, .cons (.str _) hv⟩⟩ hs
        · cases hg
      · cases hg
    · split at hg
      · rename_i xs e1
        split at hg
        · rename_i e2
          cases hg
          obtain ⟨p, ws, rfl, h1, h2⟩ := lsv_ok e1 cc rx'
          obtain ⟨w, e3, r⟩ := ixN_len h2.length h2 e2
          exact ix_list value slice pins s σ H _ _ v u Q I rx ry ⟨p, ws, _, w, rfl, rfl, h1, e3, hq _ _ ⟨F, own, cc, hss, .cons r hv⟩⟩ hs
        · cases hg
      · split at hg
        · rename_i xs e1
          split at hg
          · rename_i e2
            cases hg
            obtain ⟨p, ws, rfl, h1, h2⟩ := tlv_ok e1 cc rx'
            obtain ⟨w, e3, r⟩ := ixN_len h2.length h2 e2
            exact ix_tup value slice pins s σ H _ _ v u Q I rx ry ⟨p, ws, _, w, rfl, rfl, h1, e3, hq _ _ ⟨F, own, cc, hss, .cons r hv⟩⟩ hs
          · cases hg
        · cases hg
  · cases hg
end
theorem cut_al {α β : Type} {R : α → β → Prop} {xs : List α} {ys : List β} (h : Al R xs ys) (lo hi : Option Int) : Al R (cutA xs lo hi) (cutA ys lo hi) := by
  unfold cutA
  rw [h.length]
  exact (h.drop _).take _

/-! ### calls by values -/
/-- a call of a known thing, the arguments on the stack -/
def rCl (K : Fg) (g : List A → List O → R A) : List V → Hp → VK → Prop := fun ws H Q => ∃ (B : Base) (σ' : L2.St) (δ : List A) (M : List O) (vs : List V) (bs as : List A) (c : A) (M' : List O), ws.length = bs.length ∧ At K B σ' H δ M (ws ++ vs) (bs ++ as) ∧ g bs M = .ok c M' ∧
      (∀ v H', At K B σ' H' δ M' (v :: vs) (c :: as) → Q v H')
def rMt (K : Fg) (g : A → List A → List O → R A) : V → List V → Hp → VK → Prop := fun x ws H Q => ∃ (B : Base) (σ' : L2.St) (δ : List A) (M : List O) (vs : List V) (a : A) (bs as : List A) (c : A) (M' : List O), ws.length = bs.length ∧ At K B σ' H δ M (ws ++ x :: vs) (bs ++ a :: as) ∧ g a bs M = .ok c M' ∧
      (∀ v H', At K B σ' H' δ M' (v :: vs) (c :: as) → Q v H')
theorem al_one {α β : Type} {R : α → β → Prop} {xs : List α} {y : β} (h : Al R xs [y]) : ∃ x, xs = [x] ∧ R x y := by
  cases h with
  | cons r t => cases t; exact ⟨_, rfl, r⟩
theorem keys_al {K : Fg} {F : Hp} {own : List Addr} : ∀ {ws : List (Key × V)} {kvs : List (Key × A)}, Al (RelP K F own) ws kvs → Al (RelA K F own) (ws.map fun kv => kV kv.1) (kvs.map fun kv => keyB kv.1)
  | _, _, .nil => .nil
  | (i, v) :: _, (j, a) :: _, .cons r t => by
    obtain ⟨e, _⟩ := r
    have e : i = j := e
    subst e
    refine .cons ?_ (keys_al t)
    cases i with
    | inl z => exact (Rep.int z : Rep K F (.int z) (.int z))
    | inr z => exact (Rep.str z : Rep K F (.str z) (.str z))
theorem strs_al {K : Fg} {F : Hp} {own : List Addr} : ∀ ys : List Str, Al (RelA K F own) (ys.map V.str) (ys.map fun z => A.d (.str z))
  | [] => .nil
  | y :: r => .cons (show RelA K F own (.str y) (.d (.str y)) from Rep.str y) (strs_al r)
theorem strsA_ok {K : Fg} {F : Hp} {own : List Addr} : ∀ {as : List A} {ys : List Str} {ws : List V}, strsA as = some ys → Al (RelA K F own) ws as → ws = ys.map V.str
  | [], ys, ws, e, h => by cases e; cases h; rfl
  | .d (.str x) :: r, ys, ws, e, h => by
    unfold strsA at e
    split at e
    · rename_i xs e2
      cases e
      cases h with
      | cons h1 h2 =>
        cases str_of h1
        rw [strsA_ok e2 h2] <;> rfl
    · cases e
  | .d .non :: r, ys, ws, e, h => by cases e
  | .d (.bl _) :: r, ys, ws, e, h => by cases e
  | .d (.int _) :: r, ys, ws, e, h => by cases e
  | .d (.tup _) :: r, ys, ws, e, h => by cases e
  | .d (.lst _) :: r, ys, ws, e, h => by cases e
  | .d (.rol _) :: r, ys, ws, e, h => by cases e
  | .cell n :: r, ys, ws, e, h => by cases e
  | .un :: r, ys, ws, e, h => by cases e
theorem blsA_ok {K : Fg} {F : Hp} {own : List Addr} : ∀ {as : List A} {ys : List Bool} {ws : List V}, blsA as = some ys → Al (RelA K F own) ws as → ws = ys.map V.bl
  | [], ys, ws, e, h => by cases e; cases h; rfl
  | .d (.bl x) :: r, ys, ws, e, h => by
    unfold blsA at e
    split at e
    · rename_i xs e2
      cases e
      cases h with
      | cons h1 h2 =>
        cases bl_of h1
        rw [blsA_ok e2 h2] <;> rfl
    · cases e
  | .d .non :: r, ys, ws, e, h => by cases e
  | .d (.str _) :: r, ys, ws, e, h => by cases e
  | .d (.int _) :: r, ys, ws, e, h => by cases e
  | .d (.tup _) :: r, ys, ws, e, h => by cases e
  | .d (.lst _) :: r, ys, ws, e, h => by cases e
  | .d (.rol _) :: r, ys, ws, e, h => by cases e
  | .cell n :: r, ys, ws, e, h => by cases e
  | .un :: r, ys, ws, e, h => by cases e
theorem al_two {α β : Type} {R : α → β → Prop} {xs : List α} {y z : β} (h : Al R xs [y, z]) : ∃ x w, xs = [x, w] ∧ R x y ∧ R w z := by
  cases h with
  | cons r t =>
    obtain ⟨x, rfl, q⟩ := al_one t
    exact ⟨_, _, rfl, r, q⟩
section
variable {X : Cx}
theorem clS_len : CallR X (.builtin "len") (rCl X.G (bi .len)) := by
  intro pins s σ H ws us Q I r h
  obtain ⟨B, σ', δ, M, vs, bs, as, c, M', hl, ⟨F, own, cc, hs, hv0⟩, hg, hq⟩ := h
  obtain ⟨hw, hv⟩ := hv0.split hl
  clear hv0
  unfold bi at hg
  split at hg <;> try (rename_i hb; cases hb; done)
  · obtain ⟨x, rfl, rx⟩ := al_one hw
    split at hg
    · rename_i n e
      cases hg
      refine call_len pins s σ H _ us Q I r ⟨x, n, rfl, ?_, hq _ _ ⟨F, own, cc, hs, .cons (.int _) hv⟩⟩
      unfold lenA at e
      split at e
      · cases str_of rx
        split at e
        · cases e; exact ⟨‹_›, rfl⟩
        · cases e
      · cases e
        obtain ⟨p, ws, rfl, h1, h2⟩ := tup_ok cc rx
        exact .inr ⟨ws, h1, h2.length.symm⟩
      · split at e
        · rename_i xs e1
          cases e
          obtain ⟨p, ws, rfl, h1, h2⟩ := lsv_ok e1 cc rx
          exact .inl ⟨ws, h1, h2.length.symm⟩
        · cases e
    · cases hg
  · cases hg
theorem clS_int : CallR X (.type "int") (rCl X.G (bi .int)) := by
  intro pins s σ H ws us Q I r h
  obtain ⟨B, σ', δ, M, vs, bs, as, c, M', hl, ⟨F, own, cc, hs, hv0⟩, hg, hq⟩ := h
  obtain ⟨hw, hv⟩ := hv0.split hl
  clear hv0
  unfold bi at hg
  split at hg <;> try (rename_i hb; cases hb; done)
  · obtain ⟨x, rfl, rx⟩ := al_one hw
    cases hg
    cases int_of rx
    exact call_int1 pins s σ H _ us Q I r (.inl ⟨_, rfl, hq _ _ ⟨F, own, cc, hs, .cons (.int _) hv⟩⟩)
  · obtain ⟨x, rfl, rx⟩ := al_one hw
    cases hg
    cases bl_of rx
    exact call_int1 pins s σ H _ us Q I r (.inr ⟨_, rfl, hq _ _ ⟨F, own, cc, hs, .cons (.int _) hv⟩⟩)
  · cases hg
theorem clS_str : CallR X (.type "str") (rCl X.G (bi .str)) := by
  intro pins s σ H ws us Q I r h
  obtain ⟨B, σ', δ, M, vs, bs, as, c, M', hl, ⟨F, own, cc, hs, hv0⟩, hg, hq⟩ := h
  obtain ⟨hw, hv⟩ := hv0.split hl
  clear hv0
  unfold bi at hg
  split at hg <;> try (rename_i hb; cases hb; done)
  · obtain ⟨x, rfl, rx⟩ := al_one hw
    split at hg
    · cases hg
      cases int_of rx
      exact call_str_int pins s σ H _ us Q I r ⟨_, rfl, ‹_›, hq _ _ ⟨F, own, cc, hs, .cons (.str _) hv⟩⟩
    · cases hg
  · cases hg
theorem clS_abs : CallR X (.builtin "abs") (rCl X.G (bi .abs)) := by
  intro pins s σ H ws us Q I r h
  obtain ⟨B, σ', δ, M, vs, bs, as, c, M', hl, ⟨F, own, cc, hs, hv0⟩, hg, hq⟩ := h
  obtain ⟨hw, hv⟩ := hv0.split hl
  clear hv0
  unfold bi at hg
  split at hg <;> try (rename_i hb; cases hb; done)
  · obtain ⟨x, rfl, rx⟩ := al_one hw
    cases hg
    cases int_of rx
    exact call_abs pins s σ H _ us Q I r ⟨_, rfl, hq _ _ ⟨F, own, cc, hs, .cons (.int _) hv⟩⟩
  · cases hg
theorem clS_max (hc : X.calm = true) : CallR X (.builtin "max") (rCl X.G (bi .max)) := by
  intro pins s σ H ws us Q I r h
  obtain ⟨B, σ', δ, M, vs, bs, as, c, M', hl, ⟨F, own, cc, hs, hv0⟩, hg, hq⟩ := h
  obtain ⟨hw, hv⟩ := hv0.split hl
  clear hv0
  unfold bi at hg
  split at hg <;> try (rename_i hb; cases hb; done)
  · obtain ⟨x, y, rfl, rx, ry⟩ := al_two hw
    cases hg
    cases int_of rx
    cases int_of ry
    exact call_max2 hc pins s σ H _ us Q I r ⟨_, _, rfl, hq _ _ ⟨F, own, cc, hs, .cons (.int _) hv⟩⟩
  · cases hg
theorem clS_min (hc : X.calm = true) : CallR X (.builtin "min") (rCl X.G (bi .min)) := by
  intro pins s σ H ws us Q I r h
  obtain ⟨B, σ', δ, M, vs, bs, as, c, M', hl, ⟨F, own, cc, hs, hv0⟩, hg, hq⟩ := h
  obtain ⟨hw, hv⟩ := hv0.split hl
  clear hv0
  unfold bi at hg
  split at hg <;> try (rename_i hb; cases hb; done)
  · obtain ⟨x, y, rfl, rx, ry⟩ := al_two hw
    cases hg
    cases int_of rx
    cases int_of ry
    exact call_min2 hc pins s σ H _ us Q I r ⟨_, _, rfl, hq _ _ ⟨F, own, cc, hs, .cons (.int _) hv⟩⟩
  · cases hg
theorem clS_list (hc : X.calm = true) : CallR X (.type "list") (rCl X.G (bi .list)) := by
  intro pins s σ H ws us Q I r h
  obtain ⟨B, σ', δ, M, vs, bs, as, c, M', hl, ⟨F, own, cc, hs, hv0⟩, hg, hq⟩ := h
  obtain ⟨hw, hv⟩ := hv0.split hl
  clear hv0
  unfold bi at hg
  split at hg <;> try (rename_i hb; cases hb; done)
  · obtain ⟨x, rfl, rx⟩ := al_one hw
    split at hg
    · cases hg
      obtain ⟨p, zs, rfl, h1, h2⟩ := tup_ok cc rx
      exact call_list_of pins s σ H _ us Q I r ⟨p, zs, rfl, .inr h1, fun l hl => hq _ _ (newL_at cc hs hv (al_D h2) hl)⟩
    · split at hg
      · rename_i xs e1
        cases hg
        obtain ⟨p, zs, rfl, h1, h2⟩ := lsv_ok e1 cc rx
        exact call_list_of pins s σ H _ us Q I r ⟨p, zs, rfl, .inl h1, fun l hl => hq _ _ (newL_at cc hs hv h2 hl)⟩
      · split at hg
        · obtain ⟨l, hl0, rfl⟩ := rx
          split at hg
          · rename_i hM
            cases hg
            obtain ⟨zs, h1, h2⟩ := cc.obj _ l _ hl0 hM
            exact call_list_dK hc pins s σ H _ us Q I r ⟨l, zs, rfl, h1, fun q hq' => hq _ _ (newL_at cc hs hv (keys_al h2) hq')⟩
          · cases hg
        · cases hg
  · cases hg
theorem clS_all (hc : X.calm = true) : CallR X (.builtin "all") (rCl X.G (bi .all)) := by
  intro pins s σ H ws us Q I r h
  obtain ⟨B, σ', δ, M, vs, bs, as, c, M', hl, ⟨F, own, cc, hs, hv0⟩, hg, hq⟩ := h
  obtain ⟨hw, hv⟩ := hv0.split hl
  clear hv0
  unfold bi at hg
  split at hg <;> try (rename_i hb; cases hb; done)
  · obtain ⟨x, rfl, rx⟩ := al_one hw
    split at hg
    · rename_i xs e1
      split at hg
      · rename_i bs e2
        cases hg
        obtain ⟨p, zs, rfl, h1, h2⟩ := lsv_ok e1 cc rx
        have := blsA_ok e2 h2
        subst this
        exact cr_all hc pins s σ H _ us Q I r ⟨p, bs, rfl, h1, hq _ _ ⟨F, own, cc, hs, .cons (.bl _) hv⟩⟩
      · cases hg
    · cases hg
  · cases hg
theorem clS_sorted : CallR X (.builtin "sorted") (rCl X.G (bi .sorted)) := by
  intro pins s σ H ws us Q I r h
  obtain ⟨B, σ', δ, M, vs, bs, as, c, M', hl, ⟨F, own, cc, hs, hv0⟩, hg, hq⟩ := h
  obtain ⟨hw, hv⟩ := hv0.split hl
  clear hv0
  unfold bi at hg
  split at hg <;> try (rename_i hb; cases hb; done)
  · obtain ⟨x, rfl, rx⟩ := al_one hw
    split at hg
    · rename_i xs e1
      split at hg
      · rename_i ys e2
        split at hg
        · cases hg
          obtain ⟨p, zs, rfl, h1, h2⟩ := lsv_ok e1 cc rx
          have := strsA_ok e2 h2
          subst this
          refine cr_sortedS pins s σ H _ us Q I r ⟨p, ys, rfl, h1, ‹_›, fun ys' q pm so hq' => ?_⟩
          rw [sort_uniq pm so]
          exact hq _ _ (newL_at cc hs hv (strs_al _) hq')
        · cases hg
      · cases hg
    · cases hg
  · cases hg
/-- something frozen is laid and stands on the stack -/
theorem laidT_at {K : Fg} {B : Base} {σ : L2.St} {H F : Hp} {own : List Addr} {δ : List A} {M : List O} {vs : List V} {as : List A} {ws : List V} {ds : List D} {p : Addr} (c : Core K B H F own M) (hs : Al (RelS K F own) σ δ) (hv : Al (RelA K F own) vs as)
    (hw : Al (Rep K F) ws ds) (hp : H p = none) : At K B σ (upd H p (.tup ws)) δ M (.ref p :: vs) (.d (.tup ds) :: as) := by
  obtain ⟨c2, s2⟩ := c.laid (o := .tup ws) hp
  refine ⟨_, own, c2, hs.mono fun _ _ r => ?_, .cons (.tup (.inl (.inl upd_same)) (Reps.of (hw.mono fun _ _ r => r.up s2))) (hv.mono fun _ _ r => r.upF s2)⟩
  have := r.up (t := []) s2
  rwa [List.append_nil] at this
theorem clS_tuple : CallR X (.type "tuple") (rCl X.G (bi .tuple)) := by
  intro pins s σ H ws us Q I r h
  obtain ⟨B, σ', δ, M, vs, bs, as, c, M', hl, ⟨F, own, cc, hs, hv0⟩, hg, hq⟩ := h
  obtain ⟨hw, hv⟩ := hv0.split hl
  clear hv0
  unfold bi at hg
  split at hg <;> try (rename_i hb; cases hb; done)
  · obtain ⟨x, rfl, rx⟩ := al_one hw
    split at hg
    · cases hg
      obtain ⟨p, zs, rfl, h1, h2⟩ := tup_ok cc rx
      exact call_tuple_of pins s σ H _ us Q I r ⟨p, zs, rfl, .inr ⟨h1, hq _ _ ⟨F, own, cc, hs, .cons rx hv⟩⟩⟩
    · split at hg
      · rename_i xs e1
        split at hg
        · rename_i ds M1 e2
          cases hg
          obtain ⟨p, zs, rfl, h1, h2⟩ := lsv_ok e1 cc rx
          obtain ⟨F1, c1, s1, r1⟩ := frzs_ok e2 cc h2
          exact call_tuple_of pins s σ H _ us Q I r ⟨p, zs, rfl, .inl ⟨h1, fun l hl => hq _ _ (laidT_at c1 (relS_up hs s1) (relA_up hv s1) r1 hl)⟩⟩
        · cases hg
      · cases hg
  · cases hg
theorem mtS_append : MtR X "list.append" (rMt X.G (mt .append)) := by
  intro pins s σ H x ws v us Q I rx rs h
  obtain ⟨B, σ', δ, M, vs, a, bs, as, c, M', hl, ⟨F, own, cc, hs, hv0⟩, hg, hq⟩ := h
  obtain ⟨hw, hv⟩ := hv0.split hl
  clear hv0
  cases hv with
  | cons ra hv =>
  unfold mt at hg
  split at hg <;> try (rename_i hb; cases hb; done)
  · rename_i n y
    obtain ⟨z, rfl, rz⟩ := al_one hw
    split at hg
    · rename_i xs hM
      split at hg
      · cases hg
        obtain ⟨l, hl, rfl⟩ := ra
        obtain ⟨zs, h1, h2⟩ := cc.obj _ l _ hl hM
        have hz := h2.length
        refine mt_append pins s σ H _ _ v us Q I rx rs ⟨l, zs, z, rfl, rfl, h1, by rw [hz]; assumption, hq _ _ ⟨F, own, ?_, hs, .cons .non hv⟩⟩
        exact cc.store hl hM rfl rfl ⟨_, upd_same, h2.append (.cons rz .nil)⟩
      · cases hg
    · cases hg
  · cases hg
theorem mtS_pop : MtR X "list.pop" (rMt X.G (mt .pop)) := by
  intro pins s σ H x ws v us Q I rx rs h
  obtain ⟨B, σ', δ, M, vs, a, bs, as, c, M', hl, ⟨F, own, cc, hs, hv0⟩, hg, hq⟩ := h
  obtain ⟨hw, hv⟩ := hv0.split hl
  clear hv0
  cases hv with
  | cons ra hv =>
  unfold mt at hg
  split at hg <;> try (rename_i hb; cases hb; done)
  · rename_i n
    cases al_zero hw
    split at hg
    · rename_i xs hM
      split at hg
      · rename_i y hy
        cases hg
        obtain ⟨l, hl, rfl⟩ := ra
        obtain ⟨zs, h1, h2⟩ := cc.obj _ l _ hl hM
        rw [← h2.length] at hy
        obtain ⟨z, hz, rz⟩ := h2.get hy
        refine mt_pop pins s σ H _ _ v us Q I rx rs ⟨l, zs, z, rfl, rfl, h1, hz, hq _ _ ⟨F, own, ?_, hs, .cons rz hv⟩⟩
        exact cc.store hl hM rfl rfl ⟨_, upd_same, h2.dropLast⟩
      · cases hg
    · cases hg
  · cases hg
theorem mtS_extend : MtR X "list.extend" (rMt X.G (mt .extend)) := by
  intro pins s σ H x ws v us Q I rx rs h
  obtain ⟨B, σ', δ, M, vs, a, bs, as, c, M', hl, ⟨F, own, cc, hs, hv0⟩, hg, hq⟩ := h
  obtain ⟨hw, hv⟩ := hv0.split hl
  clear hv0
  cases hv with
  | cons ra hv =>
  unfold mt at hg
  split at hg <;> try (rename_i hb; cases hb; done)
  · rename_i n b
    obtain ⟨z, rfl, rz⟩ := al_one hw
    split at hg
    · rename_i xs hM
      split at hg
      · rename_i ys e1
        split at hg
        · cases hg
          obtain ⟨l, hl2, rfl⟩ := ra
          obtain ⟨zs, h1, h2⟩ := cc.obj _ l _ hl2 hM
          obtain ⟨p, qs, rfl, h3, h4⟩ := lsw_ok e1 cc rz
          refine mt_extend pins s σ H _ _ v us Q I rx rs ⟨l, p, zs, qs, rfl, rfl, h1, h3, by rw [h2.length, h4.length]; assumption, hq _ _ ⟨F, own, ?_, hs, .cons .non hv⟩⟩
          exact cc.store hl2 hM rfl rfl ⟨_, upd_same, h2.append h4⟩
        · cases hg
      · cases hg
    · cases hg
  · cases hg
theorem Al.eraseIdx {α β : Type} {R : α → β → Prop} : ∀ {xs : List α} {ys : List β} (n : Nat), Al R xs ys → Al R (xs.eraseIdx n) (ys.eraseIdx n)
  | _, _, _, .nil => .nil
  | _, _, 0, .cons _ t => t
  | _, _, n + 1, .cons r t => .cons r (Al.eraseIdx n t)
theorem mtS_popi : MtR X "list.pop" (rMt X.G (mt .popi)) := by
  intro pins s σ H x ws v us Q I rx rs h
  obtain ⟨B, σ', δ, M, vs, a, bs, as, c, M', hl, ⟨F, own, cc, hs, hv0⟩, hg, hq⟩ := h
  obtain ⟨hw, hv⟩ := hv0.split hl
  clear hv0
  cases hv with
  | cons ra hv =>
  unfold mt at hg
  split at hg <;> try (rename_i hb; cases hb; done)
  · rename_i n i _
    obtain ⟨z, rfl, rz⟩ := al_one hw
    cases int_of rz
    split at hg
    · rename_i xs hM
      split at hg
      · rename_i hi
        have hi := inR_ok hi
        split at hg
        · rename_i k e1
          split at hg
          · rename_i y e2
            cases hg
            obtain ⟨l, hl2, rfl⟩ := ra
            obtain ⟨zs, h1, h2⟩ := cc.obj _ l _ hl2 hM
            obtain ⟨w, hw', rw'⟩ := h2.get e2
            refine mt_popAt pins s σ H _ _ v us Q I rx rs ⟨l, zs, i, k, w, rfl, rfl, h1, by omega, by omega, by rw [h2.length]; exact e1, hw', hq _ _ ⟨F, own, ?_, hs, .cons rw' hv⟩⟩
            exact cc.store hl2 hM rfl rfl ⟨_, upd_same, Al.eraseIdx k h2⟩
          · cases hg
        · cases hg
      · cases hg
    · cases hg
  · cases hg
theorem mtS_insert : MtR X "list.insert" (rMt X.G (mt .insert)) := by
  intro pins s σ H x ws v us Q I rx rs h
  obtain ⟨B, σ', δ, M, vs, a, bs, as, c, M', hl, ⟨F, own, cc, hs, hv0⟩, hg, hq⟩ := h
  obtain ⟨hw, hv⟩ := hv0.split hl
  clear hv0
  cases hv with
  | cons ra hv =>
  unfold mt at hg
  split at hg <;> try (rename_i hb; cases hb; done)
  · rename_i n i y _
    obtain ⟨z, w, rfl, rz, rw'⟩ := al_two hw
    cases int_of rz
    split at hg
    · rename_i xs hM
      split at hg
      · rename_i hi
        obtain ⟨z1, z2, z3⟩ := hi
        have z3 := inR_ok z3
        cases hg
        obtain ⟨l, hl2, rfl⟩ := ra
        obtain ⟨zs, h1, h2⟩ := cc.obj _ l _ hl2 hM
        refine mt_insert pins s σ H _ _ v us Q I rx rs ⟨l, zs, i, w, rfl, rfl, h1, by rw [h2.length]; exact z1, z2, by omega, hq _ _ ⟨F, own, ?_, hs, .cons .non hv⟩⟩
        exact cc.store hl2 hM rfl rfl ⟨_, upd_same, ((h2.take _).append (.cons rw' .nil)).append (h2.drop _)⟩
      · cases hg
    · cases hg
  · cases hg
theorem mtS_join : MtR X "str.join" (rMt X.G (mt .join)) := by
  intro pins s σ H x ws v us Q I rx rs h
  obtain ⟨B, σ', δ, M, vs, a, bs, as, c, M', hl, ⟨F, own, cc, hs, hv0⟩, hg, hq⟩ := h
  obtain ⟨hw, hv⟩ := hv0.split hl
  clear hv0
  cases hv with
  | cons ra hv =>
  unfold mt at hg
  split at hg <;> try (rename_i hb; cases hb; done)
  · rename_i z b
    obtain ⟨y, rfl, ry⟩ := al_one hw
    split at hg
    · rename_i xs e1
      split at hg
      · rename_i ys e2
        split at hg
        · cases hg
          cases str_of ra
          obtain ⟨p, zs, rfl, h1, h2⟩ := lsw_ok e1 cc ry
          have := strsA_ok e2 h2
          subst this
          exact mt_join pins s σ H _ _ v us Q I rx rs ⟨_, p, ys, rfl, rfl, .inl (SqL.of h1), ‹_›, hq _ _ ⟨F, own, cc, hs, .cons (.str _) hv⟩⟩
        · cases hg
      · cases hg
    · cases hg
  · cases hg
end
end Mini

set_option Elab.async false
set_option linter.all false
set_option maxRecDepth 100000
/-! Mini 6: what each form of an expression does, by what its parts do. -/
namespace Mini
open PySem PySem.Spec L2

abbrev PEf (X : Cx) (C : Str → Addr) (W : WX) (e : Expr) (f : List A → List O → R A) : Prop := PE X e (tE X.G C W f)
abbrev PTf (X : Cx) (C : Str → Addr) (W : WX) (e : Expr) (f : List A → List O → R Bool) : Prop := PT X e (tT X.G C W f)
abbrev PAf (X : Cx) (C : Str → Addr) (W : WX) (es : List Expr) (f : List A → List O → R (List A)) : Prop := PA X es (tA X.G C W f)
abbrev PKf (X : Cx) (C : Str → Addr) (W : WX) (es : List Keyword) (f : List A → List O → R (List A)) : Prop := PK X es (tA X.G C W f)

section
variable {X : Cx} {C : Str → Addr} {W : WX} {pos : Pos} {a b c : Expr} {f g h : List A → List O → R A} {t u : List A → List O → R Bool}

/-! ### names, constants -/
theorem f_var {i : Nat} {x : Str} (hN : X.N[i]? = some x) (hv : Vis X.env.scope x) (hd : (x == ("__debug__" : Str)) = false) (hcd : (x == ("__classdict__" : Str)) = false) : PEf X C W (.Name x pos) (fun δ M => match δ[i]? with
    | some (.un) => .no
    | some a => .ok a M
    | none => .no) := by
  refine pe_imp (pe_var hN hv hd hcd) fun σ H Q q => ?_
  obtain ⟨B, δ, M, vs, as, ⟨F, own, c, hs, hv⟩, hg⟩ := q
  cases e : δ[i]? with
  | none => simp only [e] at hg; exact hg.elim
  | some a =>
    obtain ⟨o, ho, r⟩ := hs.get e
    rcases r with rfl | ⟨v, rfl, r⟩
    · simp only [e] at hg; exact hg.elim
    · refine ⟨v, ho, ?_⟩
      cases a with
      | un => exact r.elim
      | d x => simp only [e] at hg; exact hg v H ⟨F, own, c, hs, .cons r hv⟩
      | cell n => simp only [e] at hg; exact hg v H ⟨F, own, c, hs, .cons r hv⟩
theorem f_cst {x : D} {v : V} (h : PE X a (tC v)) (hr : ∀ F, Rep X.G F v x) : PEf X C W a (fun _ M => .ok (.d x) M) := by
  refine pe_imp h fun σ H Q q => ?_
  obtain ⟨B, δ, M, vs, as, ⟨F, own, c, hs, hv⟩, hg⟩ := q
  exact hg v H ⟨F, own, c, hs, .cons (hr F) hv⟩

/-! ### operators -/
/-- two parts, then a rule -/
theorem two_imp {r : A → A → List O → R A} {σ : L2.St} {H : Hp} {Q : VK} (hr : ∀ a b M x M', r a b M = .ex x M' → False) (q : tE X.G C W (fun δ M => (f δ M).bind fun x M1 => (g δ M1).bind fun y M2 => r x y M2) σ H Q) :
    tOp (rOp X.G r) (tE X.G C W f) (tE X.G C W g) σ H Q := by
  obtain ⟨B, δ, M, vs, as, hat, hg⟩ := q
  refine ⟨B, δ, M, vs, as, hat, ?_⟩
  cases e : f δ M with
  | no => simp only [e, R.bind_no] at hg; exact hg
  | ex x M' => simp only [e, R.bind_ex] at hg; exact hg
  | ok x M1 =>
    simp only [e, R.bind_ok] at hg
    intro v H1 hat1
    refine ⟨B, δ, M1, v :: vs, x :: as, hat1, ?_⟩
    cases e1 : g δ M1 with
    | no => simp only [e1, R.bind_no] at hg; exact hg
    | ex x M' => simp only [e1, R.bind_ex] at hg; exact fun cls d H' hx h' => hg cls d H' hx h'.pop
    | ok y M2 =>
      simp only [e1, R.bind_ok] at hg
      intro w H2 hat2
      cases e2 : r x y M2 with
      | no => rw [e2] at hg; exact hg.elim
      | ex z M' => exact (hr _ _ _ _ _ e2).elim
      | ok z M3 =>
        rw [e2] at hg
        exact ⟨B, σ, δ, M2, vs, as, x, y, z, M3, hat2, e2, hg⟩
theorem addA_ex : ∀ a b M x M', addA a b M = .ex x M' → False := by
  intro a b M x M' h
  unfold addA mkL newL at h
  repeat' split at h
  all_goals cases h
theorem subA_ex : ∀ a b M x M', subA a b M = .ex x M' → False := by
  intro a b M x M' h
  unfold subA at h
  repeat' split at h
  all_goals cases h
theorem mulA_ex : ∀ a b M x M', mulA a b M = .ex x M' → False := by
  intro a b M x M' h
  unfold mulA newL at h
  repeat' split at h
  all_goals cases h
theorem fdvA_ex : ∀ a b M x M', fdvA a b M = .ex x M' → False := by
  intro a b M x M' h
  unfold fdvA at h
  repeat' split at h
  all_goals cases h
theorem modA_ex : ∀ a b M x M', modA a b M = .ex x M' → False := by
  intro a b M x M' h
  unfold modA at h
  repeat' split at h
  all_goals cases h
theorem powA_ex : ∀ a b M x M', powA a b M = .ex x M' → False := by
  intro a b M x M' h
  unfold powA at h
  repeat' split at h
  all_goals cases h
theorem ixA_ex : ∀ a b M x M', ixA M a b = .ex x M' → False := by
  intro a b M x M' h
  unfold ixA ixL at h
  repeat' split at h
  all_goals cases h
theorem cmpR_ex (o : Cmp) : ∀ a b M x M', cmpR o a b M = .ex x M' → False := by
  intro a b M x M' h
  unfold cmpR at h
  split at h <;> cases h
def binOp : Bin → Operator
  | .add => .Add
  | .sub => .Sub
  | .mul => .Mult
  | .fdv => .FloorDiv
  | .mod => .Mod
  | .pow => .Pow
theorem bin_ex (o : Bin) : ∀ a b M x M', bin o a b M = .ex x M' → False := by
  cases o
  · exact addA_ex
  · exact subA_ex
  · exact mulA_ex
  · exact fdvA_ex
  · exact modA_ex
  · exact powA_ex
theorem opS_bin (o : Bin) : OpS X (binaryOp (binOp o)) (bin o) := by
  cases o
  · exact opS_add
  · exact opS_sub
  · exact opS_mul
  · exact opS_fdv
  · exact opS_mod
  · exact opS_pow
theorem f_bin (o : Bin) (ha : PEf X C W a f) (hb : PEf X C W b g) : PEf X C W (.BinOp a (binOp o) b pos) (fun δ M => (f δ M).bind fun x M1 => (g δ M1).bind fun y M2 => bin o x y M2) :=
  pe_imp (pe_op (opS_bin o).r ha hb) fun _ _ _ q => two_imp (bin_ex o) q
theorem f_ix (hu : X.A.units + 64 < cLine) (ha : PEf X C W a f) (hb : PEf X C W b g) (hp : PlainIx b) : PEf X C W (.Subscript a b pos) (fun δ M => (f δ M).bind fun x M1 => (g δ M1).bind fun y M2 => ixA M2 x y) :=
  pe_imp (pe_ix (ixS hu) ha hb hp) fun _ _ _ q => two_imp (r := fun a b M => ixA M a b) ixA_ex q
def cmpOp : Cmp → CmpOp
  | .eq => .Eq
  | .ne => .NotEq
  | .lt => .Lt
  | .le => .LtE
  | .gt => .Gt
  | .ge => .GtE
  | .isN => .Is
  | .notN => .IsNot
  | .inn => .In
  | .nin => .NotIn
theorem opS_cmp (o : Cmp) (hu : X.A.units + 64 < cLine) : OpS X (compareOp (cmpOp o)) (cmpR o) := by
  cases o
  · exact opS_eq hu
  · exact opS_ne hu
  · exact opS_lt
  · exact opS_le
  · exact opS_gt
  · exact opS_ge
  · exact opS_isN
  · exact opS_notN
  · exact opS_inn hu
  · exact opS_nin hu
theorem f_cmp (o : Cmp) (hu : X.A.units + 64 < cLine) (ha : PEf X C W a f) (hb : PEf X C W b g) (hm : behindInMarks (cmpOp o) b = false) : PEf X C W (.Compare a [cmpOp o] [b] pos) (fun δ M => (f δ M).bind fun x M1 => (g δ M1).bind fun y M2 => cmpR o x y M2) :=
  pe_imp (pe_cmpR (opS_cmp o hu).r ha hb hm) fun _ _ _ q => two_imp (cmpR_ex o) q
theorem f_neg (ha : PEf X C W a f) : PEf X C W (.UnaryOp .USub a pos) (fun δ M => (f δ M).bind fun x M1 => match x with
    | .d (.int i) => .ok (.d (.int (-i))) M1
    | _ => .no) := by
  refine pe_imp (pe_un un_neg ha) fun σ H Q q => ?_
  obtain ⟨B, δ, M, vs, as, hat, hg⟩ := q
  refine ⟨B, δ, M, vs, as, hat, ?_⟩
  cases e : f δ M with
  | no => simp only [e, R.bind_no] at hg; exact hg
  | ex x M' => simp only [e, R.bind_ex] at hg; exact hg
  | ok x M1 =>
    simp only [e, R.bind_ok] at hg
    intro v H1 hat1
    obtain ⟨F, own, c, hs, hv⟩ := hat1
    cases hv with
    | cons r hv =>
    split at hg
    · cases int_of r
      exact ⟨_, rfl, hg _ _ ⟨F, own, c, hs, .cons (.int _) hv⟩⟩
    · exact hg.elim

/-! ### truth -/
theorem f_not (ha : PEf X C W a f) : PEf X C W (.UnaryOp .Not a pos) (fun δ M => (f δ M).bind fun x M1 => match tru M1 x with
    | some k => .ok (.d (.bl (!k))) M1
    | none => .no) := by
  refine pe_imp (pe_notT ha) fun σ H Q q => ?_
  obtain ⟨B, δ, M, vs, as, hat, hg⟩ := q
  refine ⟨B, δ, M, vs, as, hat, GE.bind hg fun x M1 v H1 hat1 hg1 => ?_⟩
  obtain ⟨F, own, c, hs, hv⟩ := hat1
  cases hv with
  | cons r hv =>
  split at hg1
  · rename_i k e
    exact ⟨k, tru_of e c r, hg1 _ _ ⟨F, own, c, hs, .cons (.bl _) hv⟩⟩
  · exact hg1.elim
theorem f_an {rest : List Expr} (ha : PEf X C W a f) (hb : PEf X C W (.BoolOp .And (b :: rest) pos) g) : PEf X C W (.BoolOp .And (a :: b :: rest) pos) (fun δ M => (f δ M).bind fun x M1 => match tru M1 x with
    | some true => g δ M1
    | some false => .ok x M1
    | none => .no) := by
  refine pe_imp (pe_andT ha hb) fun σ H Q q => ?_
  obtain ⟨B, δ, M, vs, as, hat, hg⟩ := q
  refine ⟨B, δ, M, vs, as, hat, GE.bind hg fun x M1 v H1 hat1 hg1 => ?_⟩
  have hat2 := hat1
  obtain ⟨F, own, c, hs, hv⟩ := hat1
  cases hv with
  | cons r hv =>
  split at hg1
  · rename_i e
    exact ⟨true, tru_of e c r, iteT ⟨B, δ, M1, vs, as, ⟨F, own, c, hs, hv⟩, hg1⟩⟩
  · rename_i e
    exact ⟨false, tru_of e c r, iteF (hg1 _ _ hat2)⟩
  · exact hg1.elim
theorem f_or {rest : List Expr} (ha : PEf X C W a f) (hb : PEf X C W (.BoolOp .Or (b :: rest) pos) g) : PEf X C W (.BoolOp .Or (a :: b :: rest) pos) (fun δ M => (f δ M).bind fun x M1 => match tru M1 x with
    | some true => .ok x M1
    | some false => g δ M1
    | none => .no) := by
  refine pe_imp (pe_orT ha hb) fun σ H Q q => ?_
  obtain ⟨B, δ, M, vs, as, hat, hg⟩ := q
  refine ⟨B, δ, M, vs, as, hat, GE.bind hg fun x M1 v H1 hat1 hg1 => ?_⟩
  have hat2 := hat1
  obtain ⟨F, own, c, hs, hv⟩ := hat1
  cases hv with
  | cons r hv =>
  split at hg1
  · rename_i e
    exact ⟨true, tru_of e c r, iteT (hg1 _ _ hat2)⟩
  · rename_i e
    exact ⟨false, tru_of e c r, iteF ⟨B, δ, M1, vs, as, ⟨F, own, c, hs, hv⟩, hg1⟩⟩
  · exact hg1.elim
/-- one operand left -/
theorem f_bool1 {op : BoolOp} (ha : PEf X C W a f) : PEf X C W (.BoolOp op [a] pos) f := ⟨fun pins s σ H Q I q => ha.run pins s σ H Q I q⟩

/-! ### tests -/
theorem t_tru (ha : PEf X C W a f) (he : ∀ whole, isTrue a X.env whole = (do let v ← whole; standAt a.pos; holding [v] (truthy v))) : PTf X C W a (fun δ M => (f δ M).bind fun x M1 => match tru M1 x with
    | some k => .ok k M1
    | none => .no) := by
  refine pt_imp (pt_truth ha he) fun σ H Q q => ?_
  obtain ⟨B, δ, M, vs, as, hat, hg⟩ := q
  refine ⟨B, δ, M, vs, as, hat, ?_⟩
  cases e : f δ M with
  | no => simp only [e, R.bind_no] at hg; exact hg
  | ex x M' => simp only [e, R.bind_ex] at hg; exact hg
  | ok x M1 =>
    simp only [e, R.bind_ok] at hg
    intro v H1 hat1
    obtain ⟨F, own, c, hs, hv⟩ := hat1
    cases hv with
    | cons r hv =>
    split at hg
    · rename_i k e
      exact ⟨k, tru_of e c r, hg _ ⟨F, own, c, hs, hv⟩⟩
    · exact hg.elim
theorem GT.bind {B : Base} {σ : L2.St} {δ : List A} {vs : List V} {as : List A} {r : R Bool} {k : Bool → List O → R Bool} {Q Q' : Bool → Hp → Prop} (hg : GT X.G C W B σ δ vs as Q (r.bind k)) (hk : ∀ x M1 H1, At X.G B σ H1 δ M1 vs as → GT X.G C W B σ δ vs as Q (k x M1) → Q' x H1) :
    GT X.G C W B σ δ vs as Q' r := by
  cases r with
  | ok a M' => exact fun H' hat => hk a M' H' hat hg
  | ex x M' => exact hg
  | no => exact hg
theorem t_not (ha : PTf X C W a t) : PTf X C W (.UnaryOp .Not a pos) (fun δ M => (t δ M).bind fun k M1 => .ok (!k) M1) := by
  refine pt_imp (pt_not ha) fun σ H Q q => ?_
  obtain ⟨B, δ, M, vs, as, hat, hg⟩ := q
  exact ⟨B, δ, M, vs, as, hat, GT.bind hg fun x M1 H1 hat1 hg1 => hg1 _ hat1⟩
/-- a chain of and, or -/
abbrev PWf (X : Cx) (C : Str → Addr) (W : WX) (e : Expr) (f : List A → List O → R Bool) : Prop := PW X e (tT X.G C W f)
theorem pw_imp {e : Expr} {t t' : TT} (h : PW X e t) (hi : ∀ σ H Q, t' σ H Q → t σ H Q) : PW X e t' := ⟨fun w pins s σ H Q I q => h.run w pins s σ H Q I (hi σ H Q q)⟩
theorem w_an {rest : List Expr} (ha : PTf X C W a t) (hb : PWf X C W (.BoolOp .And (b :: rest) pos) u) : PWf X C W (.BoolOp .And (a :: b :: rest) pos) (fun δ M => (t δ M).bind fun k M1 => if k then u δ M1 else .ok false M1) := by
  refine pw_imp (pw_and ha hb) fun σ H Q q => ?_
  obtain ⟨B, δ, M, vs, as, hat, hg⟩ := q
  refine ⟨B, δ, M, vs, as, hat, GT.bind hg fun x M1 H1 hat1 hg1 => ?_⟩
  cases x with
  | true => exact iteT ⟨B, δ, M1, vs, as, hat1, hg1⟩
  | false => exact iteF (hg1 _ hat1)
theorem w_or {rest : List Expr} (ha : PTf X C W a t) (hb : PWf X C W (.BoolOp .Or (b :: rest) pos) u) : PWf X C W (.BoolOp .Or (a :: b :: rest) pos) (fun δ M => (t δ M).bind fun k M1 => if k then .ok true M1 else u δ M1) := by
  refine pw_imp (pw_or ha hb) fun σ H Q q => ?_
  obtain ⟨B, δ, M, vs, as, hat, hg⟩ := q
  refine ⟨B, δ, M, vs, as, hat, GT.bind hg fun x M1 H1 hat1 hg1 => ?_⟩
  cases x with
  | true => exact iteT (hg1 _ hat1)
  | false => exact iteF ⟨B, δ, M1, vs, as, hat1, hg1⟩
theorem t_ifx (ht : PTf X C W a t) {p q : List A → List O → R Bool} (hp : PTf X C W b p) (hq : PTf X C W c q) : PTf X C W (.IfExp a b c pos) (fun δ M => (t δ M).bind fun k M1 => if k then p δ M1 else q δ M1) := by
  refine ⟨fun pins s σ H Q I z => ?_⟩
  obtain ⟨B, δ, M, vs, as, hat, hg⟩ := z
  show wpAny _ _ (do if ← isTrue a X.env (eval a X.env) then isTrue b X.env (eval b X.env) else isTrue c X.env (eval c X.env)) _ _ _
  refine wpAny_bind (thn (ht.run pins s σ H (fun k H1 => if k = true then tT X.G C W p σ H1 Q else tT X.G C W q σ H1 Q) I ⟨B, δ, M, vs, as, hat, GT.bind hg fun x M1 H1 hat1 hg1 => ?_⟩) fun d s1 ⟨H1, I1, q1⟩ => ?_)
  · cases x with
    | true => exact iteT ⟨B, δ, M1, vs, as, hat1, hg1⟩
    | false => exact iteF ⟨B, δ, M1, vs, as, hat1, hg1⟩
  · cases d with
    | true => exact hp.run pins s1 σ H1 Q I1 q1
    | false => exact hq.run pins s1 σ H1 Q I1 q1
theorem f_ifx (ht : PTf X C W a t) (hp : PEf X C W b f) (hq : PEf X C W c g) : PEf X C W (.IfExp a b c pos) (fun δ M => (t δ M).bind fun k M1 => if k then f δ M1 else g δ M1) := by
  refine pe_imp (pe_ifExp ht hp hq) fun σ H Q z => ?_
  obtain ⟨B, δ, M, vs, as, hat, hg⟩ := z
  refine ⟨B, δ, M, vs, as, hat, ?_⟩
  cases e : t δ M with
  | no => simp only [e, R.bind_no] at hg; exact hg
  | ex x M' => simp only [e, R.bind_ex] at hg; exact hg
  | ok x M1 =>
    simp only [e, R.bind_ok] at hg
    intro H1 hat1
    cases x with
    | true => exact iteT ⟨B, δ, M1, vs, as, hat1, hg⟩
    | false => exact iteF ⟨B, δ, M1, vs, as, hat1, hg⟩
/-! ### comparisons as tests; two in a row -/
/-- a reading whose value is a bool, as a test -/
theorem test_imp {F : List A → List O → R A} {σ : L2.St} {H : Hp} {Q : Bool → Hp → Prop} (hb : ∀ δ M x M1, F δ M = .ok x M1 → ∃ k, x = .d (.bl k)) (q : tT X.G C W (fun δ M => (F δ M).bind fun x M1 => match tru M1 x with
    | some k => .ok k M1
    | none => .no) σ H Q) : tE X.G C W F σ H (fun x H' => ∃ k, x = .bl k ∧ Q k H') := by
  obtain ⟨B, δ, M, vs, as, hat, hg⟩ := q
  refine ⟨B, δ, M, vs, as, hat, ?_⟩
  cases e : F δ M with
  | no => simp only [e, R.bind_no] at hg; exact hg
  | ex x M' => simp only [e, R.bind_ex] at hg; exact hg
  | ok x M1 =>
    obtain ⟨k, rfl⟩ := hb _ _ _ _ e
    simp only [e, R.bind_ok] at hg
    intro v H1 hat1
    obtain ⟨F', own, c, hs, hv⟩ := hat1
    cases hv with
    | cons r hv =>
      cases bl_of r
      exact ⟨k, rfl, hg _ ⟨F', own, c, hs, hv⟩⟩
theorem bind_bl {f g : List A → List O → R A} {o : Cmp} {δ : List A} {M : List O} {x : A} {M1 : List O} (h : ((f δ M).bind fun x M1 => (g δ M1).bind fun y M2 => cmpR o x y M2) = .ok x M1) : ∃ k, x = .d (.bl k) := by
  cases e : f δ M with
  | no => simp only [e, R.bind_no] at h; cases h
  | ex z M' => simp only [e, R.bind_ex] at h; cases h
  | ok z M2 =>
    simp only [e, R.bind_ok] at h
    cases e1 : g δ M2 with
    | no => simp only [e1, R.bind_no] at h; cases h
    | ex z M' => simp only [e1, R.bind_ex] at h; cases h
    | ok y M3 =>
      simp only [e1, R.bind_ok] at h
      unfold cmpR at h
      split at h
      · cases h; exact ⟨_, rfl⟩
      · cases h
theorem t_cmp (o : Cmp) (hu : X.A.units + 64 < cLine) (ha : PEf X C W a f) (hb : PEf X C W b g) (hm : behindInMarks (cmpOp o) b = false) : PTf X C W (.Compare a [cmpOp o] [b] pos) (fun δ M => ((f δ M).bind fun x M1 => (g δ M1).bind fun y M2 => cmpR o x y M2).bind fun x M1 => match tru M1 x with
    | some k => .ok k M1
    | none => .no) :=
  pt_imp (pt_cmpR (opS_cmp o hu).r ha hb hm) fun _ _ _ q => two_imp (cmpR_ex o) (test_imp (fun _ _ _ _ e => bind_bl e) q)
theorem ch_imp {o p : Cmp} {σ : L2.St} {H : Hp} {Q : VK} (q : tE X.G C W (chF o p f g h) σ H Q) : tChain (rOp X.G (cmpR o)) (rOp X.G (cmpR p)) (tE X.G C W f) (tE X.G C W g) (tE X.G C W h) σ H Q := by
  obtain ⟨B, δ, M, vs, as, hat, hg⟩ := q
  unfold chF at hg
  refine ⟨B, δ, M, vs, as, hat, GE.bind hg fun x M1 v H1 hat1 hg1 => ?_⟩
  refine ⟨B, δ, M1, v :: vs, x :: as, hat1, ?_⟩
  cases e1 : g δ M1 with
  | no => simp only [e1, R.bind_no] at hg1; exact hg1
  | ex z M' => simp only [e1, R.bind_ex] at hg1; exact fun cls d H' hx h' => hg1 cls d H' hx h'.pop
  | ok y M2 =>
    simp only [e1, R.bind_ok] at hg1
    intro w H2 hat2
    obtain ⟨F, own, cc, hs, hv⟩ := hat2
    cases hv with
    | cons rw t =>
    cases t with
    | cons rv hv =>
    cases e2 : cmp o x y M2 with
    | none => rw [e2] at hg1; exact hg1.elim
    | some k =>
      rw [e2] at hg1
      refine ⟨B, σ, δ, M2, w :: vs, y :: as, x, y, .d (.bl k), M2, ⟨F, own, cc, hs, .cons rw (.cons rv (.cons rw hv))⟩, by unfold cmpR; rw [e2], fun z H3 hat3 => ?_⟩
      obtain ⟨F3, own3, c3, hs3, hv3⟩ := hat3
      cases hv3 with
      | cons rz hv3 =>
      cases bl_of rz
      refine ⟨k, rfl, ?_⟩
      cases k with
      | false =>
        refine iteF (hg1 _ _ ⟨F3, own3, c3, hs3, .cons (.bl _) ?_⟩)
        cases hv3 with
        | cons _ t => exact t
      | true =>
        refine iteT ⟨B, δ, M2, w :: vs, y :: as, ⟨F3, own3, c3, hs3, hv3⟩, ?_⟩
        cases e3 : h δ M2 with
        | no => simp only [e3, R.bind_no] at hg1; exact hg1
        | ex z M' => simp only [e3, R.bind_ex] at hg1; exact fun cls d H' hx h' => hg1 cls d H' hx h'.pop
        | ok z M4 =>
          simp only [e3, R.bind_ok] at hg1
          intro u H4 hat4
          cases e4 : cmpR p y z M4 with
          | no => rw [e4] at hg1; exact hg1.elim
          | ex z M' => exact (cmpR_ex _ _ _ _ _ _ e4).elim
          | ok r M5 =>
            rw [e4] at hg1
            exact ⟨B, σ, δ, M4, vs, as, y, z, r, M5, hat4, e4, hg1⟩
theorem f_chn (o p : Cmp) (hu : X.A.units + 64 < cLine) (ha : PEf X C W a f) (hb : PEf X C W b g) (hc : PEf X C W c h) (hm : lastMarks [cmpOp o, cmpOp p] [b, c] = false) : PEf X C W (.Compare a [cmpOp o, cmpOp p] [b, c] pos) (chF o p f g h) :=
  pe_imp (pe_chain (opS_cmp o hu).r (opS_cmp p hu).r ha hb hc hm) fun _ _ _ q => ch_imp q
theorem chF_bl {o p : Cmp} {δ : List A} {M : List O} {x : A} {M1 : List O} (e : chF o p f g h δ M = .ok x M1) : ∃ k, x = .d (.bl k) := by
  unfold chF at e
  cases e1 : f δ M with
  | no => simp only [e1, R.bind_no] at e; cases e
  | ex z M' => simp only [e1, R.bind_ex] at e; cases e
  | ok z M2 =>
    simp only [e1, R.bind_ok] at e
    cases e2 : g δ M2 with
    | no => simp only [e2, R.bind_no] at e; cases e
    | ex z M' => simp only [e2, R.bind_ex] at e; cases e
    | ok y M3 =>
      simp only [e2, R.bind_ok] at e
      split at e
      · cases e3 : h δ M3 with
        | no => simp only [e3, R.bind_no] at e; cases e
        | ex z M' => simp only [e3, R.bind_ex] at e; cases e
        | ok w M4 =>
          simp only [e3, R.bind_ok] at e
          unfold cmpR at e
          split at e
          · cases e; exact ⟨_, rfl⟩
          · cases e
      · cases e; exact ⟨_, rfl⟩
      · cases e
theorem t_chn (o p : Cmp) (hu : X.A.units + 64 < cLine) (ha : PEf X C W a f) (hb : PEf X C W b g) (hc : PEf X C W c h) (hm : lastMarks [cmpOp o, cmpOp p] [b, c] = false) : PTf X C W (.Compare a [cmpOp o, cmpOp p] [b, c] pos) (fun δ M => (chF o p f g h δ M).bind fun x M1 => match tru M1 x with
    | some k => .ok k M1
    | none => .no) :=
  pt_imp (pt_chain (opS_cmp o hu).r (opS_cmp p hu).r ha hb hc hm) fun _ _ _ q => ch_imp (test_imp (fun _ _ _ _ e => chF_bl e) q)
end
end Mini

set_option Elab.async false
set_option linter.all false
set_option maxRecDepth 100000
/-! Mini 7: argument lists, displays, calls of built-ins and methods, isinstance. -/
namespace Mini
open PySem PySem.Spec L2

/-! ### the syntax's own conditions -/
def noStar : Expr → Bool
  | .Starred .. => false
  | _ => true
theorem star_one {e : Expr} (h : noStar e = true) (es : List Expr) (env : Env) : starEach (e :: es) env = (false, eval e env) :: starEach es env := by
  cases e <;> first | rfl | cases h
theorem star_any {es : List Expr} (h : es.all noStar = true) (pos : Pos) (env : Env) : (backTo pos (starEach es env)).any (·.1) = false := by
  induction es with
  | nil => rfl
  | cons e r ih =>
    rw [List.all_cons, Bool.and_eq_true_iff] at h
    rw [star_one h.1]
    show (false || (backTo pos (starEach r env)).any (·.1)) = false
    rw [ih h.2] <;> rfl
theorem star_all {es : List Expr} (h : es.all noStar = true) (pos : Pos) (env : Env) : (backTo pos (starEach es env)).all (fun x => !x.1) = true := by
  induction es with
  | nil => rfl
  | cons e r ih =>
    rw [List.all_cons, Bool.and_eq_true_iff] at h
    rw [star_one h.1]
    show (!false && (backTo pos (starEach r env)).all (fun x => !x.1)) = true
    rw [ih h.2] <;> rfl

section
variable {X : Cx} {C : Str → Addr} {W : WX} {pos : Pos} {a b c e : Expr} {es : List Expr} {f g h : List A → List O → R A} {fs : List A → List O → R (List A)}
/-! ### argument lists -/
theorem as_nil : PAf X C W [] (fun _ M => .ok [] M) := by
  refine pa_imp pa_nil fun σ H Q q => ?_
  obtain ⟨B, δ, M, vs, as, hat, hg⟩ := q
  exact hg [] H rfl hat
theorem al_move {α β : Type} {R : α → β → Prop} {v : α} {a : β} {ws vs : List α} {bs as : List β} (hl : ws.length = bs.length) (h : Al R (ws ++ v :: vs) (bs ++ a :: as)) : Al R ((v :: ws) ++ vs) ((a :: bs) ++ as) := by
  obtain ⟨h1, h2⟩ := h.split hl
  cases h2 with
  | cons r t => exact .cons r (h1.append t)
theorem two_args {σ : L2.St} {H : Hp} {Q : List V → Hp → Prop} (q : tA X.G C W (fun δ M => (f δ M).bind fun x M1 => (fs δ M1).bind fun xs M2 => .ok (x :: xs) M2) σ H Q) : tCons (tE X.G C W f) (tA X.G C W fs) σ H Q := by
  obtain ⟨B, δ, M, vs, as, hat, hg⟩ := q
  refine ⟨B, δ, M, vs, as, hat, ?_⟩
  cases e1 : f δ M with
  | no => simp only [e1, R.bind_no] at hg; exact hg
  | ex x M' => simp only [e1, R.bind_ex] at hg; exact hg
  | ok x M1 =>
    simp only [e1, R.bind_ok] at hg
    intro v H1 hat1
    refine ⟨B, δ, M1, v :: vs, x :: as, hat1, ?_⟩
    cases e2 : fs δ M1 with
    | no => simp only [e2, R.bind_no] at hg; exact hg
    | ex x M' => simp only [e2, R.bind_ex] at hg; exact fun cls d H' hx h' => hg cls d H' hx h'.pop
    | ok xs M2 =>
      simp only [e2, R.bind_ok] at hg
      intro ws H2 hl hat2
      obtain ⟨F, own, cc, hs, hv⟩ := hat2
      exact hg (v :: ws) H2 (by simp [hl]) ⟨F, own, cc, hs, al_move hl hv⟩
theorem as_cons (ha : PEf X C W e f) (hr : PAf X C W es fs) (hs : noStar e = true) : PAf X C W (e :: es) (fun δ M => (f δ M).bind fun x M1 => (fs δ M1).bind fun xs M2 => .ok (x :: xs) M2) :=
  pa_imp (pa_cons ha hr (star_one hs _ _)) fun _ _ _ q => two_args q
theorem ks_nil : PKf X C W [] (fun _ M => .ok [] M) := by
  refine ⟨fun pos pins s σ H Q I q => pk_nil.run pos pins s σ H Q I ?_⟩
  obtain ⟨B, δ, M, vs, as, hat, hg⟩ := q
  exact hg [] H rfl hat
theorem ks_cons {nm : Option Str} {kpos : Pos} {kws : List Keyword} (ha : PEf X C W e f) (hr : PKf X C W kws fs) : PKf X C W (⟨nm, e, kpos⟩ :: kws) (fun δ M => (f δ M).bind fun x M1 => (fs δ M1).bind fun xs M2 => .ok (x :: xs) M2) :=
  ⟨fun pos pins s σ H Q I q => (pk_cons ha hr).run pos pins s σ H Q I (two_args q)⟩

/-! ### displays -/
theorem f_lst (ha : PAf X C W es fs) : PEf X C W (.List es pos) (fun δ M => (fs δ M).bind fun as M1 => mkL M1 as) := by
  refine pe_imp (pe_lst ha) fun σ H Q q => ?_
  obtain ⟨B, δ, M, vs, as, hat, hg⟩ := q
  refine ⟨B, δ, M, vs, as, hat, ?_⟩
  cases e1 : fs δ M with
  | no => simp only [e1, R.bind_no] at hg; exact hg
  | ex x M' => simp only [e1, R.bind_ex] at hg; exact hg
  | ok xs M1 =>
    simp only [e1, R.bind_ok] at hg
    intro ws H1 hl hat1
    obtain ⟨F, own, cc, hs, hv⟩ := hat1
    obtain ⟨hw, hv⟩ := hv.split hl
    unfold mkL at hg
    split at hg
    · rename_i hz
      exact ⟨by rw [hl]; exact hz, fun p hp => hg _ _ (newL_at cc hs hv hw hp)⟩
    · exact hg.elim
theorem f_tup {k : Nat} (ha : PAf X C W es fs) : PEf X C W (.Tuple es k pos) (fun δ M => (fs δ M).bind fun as M1 => tupA M1 as) := by
  refine pe_imp (pe_tup ha) fun σ H Q q => ?_
  obtain ⟨B, δ, M, vs, as, hat, hg⟩ := q
  refine ⟨B, δ, M, vs, as, hat, ?_⟩
  cases e1 : fs δ M with
  | no => simp only [e1, R.bind_no] at hg; exact hg
  | ex x M' => simp only [e1, R.bind_ex] at hg; exact hg
  | ok xs M1 =>
    simp only [e1, R.bind_ok] at hg
    intro ws H1 hl hat1
    obtain ⟨F, own, cc, hs, hv⟩ := hat1
    obtain ⟨hw, hv⟩ := hv.split hl
    unfold tupA at hg
    split at hg
    · rename_i ds M2 e2
      obtain ⟨F1, c1, s1, r1⟩ := frzs_ok e2 cc hw
      split at hg
      · rename_i hz
        exact ⟨by rw [r1.length]; exact hz, fun p hp => hg _ _ (laidT_at c1 (relS_up hs s1) (relA_up hv s1) r1 hp)⟩
      · exact hg.elim
    · split at hg
      · rename_i hz
        refine ⟨by rw [hl]; exact hz, fun p hp => hg _ _ ?_⟩
        have c' := cc.push (u := .tpl xs) (o := .tup ws) hp rfl (fun own' ⟨t, e⟩ => ⟨ws, upd_same, by subst e; exact hw.mono fun _ _ r => r.up (Same.refl F)⟩)
        refine ⟨F, own ++ [p], c', hs.mono fun _ _ r => r.up (Same.refl F), .cons ⟨p, ?_, rfl⟩ (hv.mono fun _ _ r => r.up (Same.refl F))⟩
        rw [← cc.len]; simp
      · exact hg.elim

/-! ### built-ins -/
theorem call_imp {G : List A → List O → R A} (hG : ∀ as M x M', G as M = .ex x M' → False) {σ : L2.St} {H : Hp} {Q : VK} (q : tE X.G C W (fun δ M => (fs δ M).bind fun as M1 => G as M1) σ H Q) : tCB (rCl X.G G) (tA X.G C W fs) σ H Q := by
  obtain ⟨B, δ, M, vs, as, hat, hg⟩ := q
  refine ⟨B, δ, M, vs, as, hat, ?_⟩
  cases e1 : fs δ M with
  | no => simp only [e1, R.bind_no] at hg; exact hg
  | ex x M' => simp only [e1, R.bind_ex] at hg; exact hg
  | ok xs M1 =>
    simp only [e1, R.bind_ok] at hg
    intro ws H1 hl hat1
    cases e2 : G xs M1 with
    | no => rw [e2] at hg; exact hg.elim
    | ex x M' => exact (hG _ _ _ _ e2).elim
    | ok z M2 =>
      rw [e2] at hg
      exact ⟨B, σ, δ, M1, vs, xs, as, z, M2, hl, hat1, e2, hg⟩
theorem bi_ex (k : Bi) : ∀ as M x M', bi k as M = .ex x M' → False := by
  intro as M x M' h
  unfold bi newL at h
  repeat' split at h
  all_goals cases h
/-- f(e, ..), f a built-in function; a built-in type -/
theorem f_callB {x : Str} {p : Pos} {id : String} {G : List A → List O → R A} (hG : ∀ as M x M', G as M = .ex x M' → False) (hc : CallR X (.builtin id) (rCl X.G G)) (hg : Gl X x) (hm : X.mg x = none) (hv : bootBuiltins x = some (.builtin id)) (ha : PAf X C W (e :: es) fs)
    (hn : x ≠ "__name__") (hdb : (x == ("__debug__" : Str)) = false) (hs : (e :: es).all noStar = true) : PEf X C W (.Call (.Name x p) (e :: es) [] pos) (fun δ M => (fs δ M).bind fun as M1 => G as M1) := by
  rw [List.all_cons, Bool.and_eq_true_iff] at hs
  exact pe_imp (pe_callB hc hg hm hv ha hn hdb (star_one hs.1 _ _) (star_any hs.2 _ _)) fun _ _ _ q => call_imp hG q
theorem f_callT {x : Str} {p : Pos} {T : String} {G : List A → List O → R A} (hG : ∀ as M x M', G as M = .ex x M' → False) (hc : CallR X (.type T) (rCl X.G G)) (hg : Gl X x) (hm : X.mg x = none) (hv : bootBuiltins x = some (.type T)) (ha : PAf X C W (e :: es) fs)
    (hn : x ≠ "__name__") (hdb : (x == ("__debug__" : Str)) = false) (hs : (e :: es).all noStar = true) : PEf X C W (.Call (.Name x p) (e :: es) [] pos) (fun δ M => (fs δ M).bind fun as M1 => G as M1) := by
  rw [List.all_cons, Bool.and_eq_true_iff] at hs
  exact pe_imp (pe_callTy hc hg hm hv ha hn hdb (star_one hs.1 _ _) (star_any hs.2 _ _)) fun _ _ _ q => call_imp hG q

/-! ### methods of built-in types -/
def noCall0 : Expr → Bool
  | .Call _ [] [] _ => false
  | _ => true
theorem base_of {o : Expr} (h : noCall0 o = true) (attr : Str) (env : Env) (whole : Sem Value) : attributeBase o attr env whole = whole := by
  unfold attributeBase
  split
  · cases h
  · rfl
theorem mt_ex (m : Mt) : ∀ a as M x M', mt m a as M = .ex x M' → False := by
  intro a as M x M' h
  unfold mt at h
  repeat' split at h
  all_goals cases h
/-- whose method -/
def mtT : Mt → String
  | .append => "list"
  | .pop => "list"
  | .extend => "list"
  | .popi => "list"
  | .insert => "list"
  | .join => "str"
theorem rcv_ok {B : Base} {H F : Hp} {own : List Addr} {M : List O} {m : Mt} {x : A} {v : V} (c : Core X.G B H F own M) (r : RelA X.G F own v x) (h : rcv m M x = true) : tyV X.G (mtT m) v H := by
  unfold rcv at h
  cases m with
  | append =>
    obtain ⟨xs, e⟩ := Option.isSome_iff_exists.mp h
    obtain ⟨p, ws, rfl, h1, h2⟩ := lsv_ok e c r
    exact .inl ⟨rfl, ws, h1⟩
  | pop =>
    obtain ⟨xs, e⟩ := Option.isSome_iff_exists.mp h
    obtain ⟨p, ws, rfl, h1, h2⟩ := lsv_ok e c r
    exact .inl ⟨rfl, ws, h1⟩
  | extend =>
    obtain ⟨xs, e⟩ := Option.isSome_iff_exists.mp h
    obtain ⟨p, ws, rfl, h1, h2⟩ := lsv_ok e c r
    exact .inl ⟨rfl, ws, h1⟩
  | popi =>
    obtain ⟨xs, e⟩ := Option.isSome_iff_exists.mp h
    obtain ⟨p, ws, rfl, h1, h2⟩ := lsv_ok e c r
    exact .inl ⟨rfl, ws, h1⟩
  | insert =>
    obtain ⟨xs, e⟩ := Option.isSome_iff_exists.mp h
    obtain ⟨p, ws, rfl, h1, h2⟩ := lsv_ok e c r
    exact .inl ⟨rfl, ws, h1⟩
  | join =>
    cases x with
    | d z =>
      cases z with
      | str y => cases str_of r; rfl
      | _ => cases h
    | _ => cases h
/-- o.m(e, ..), m of a built-in type -/
theorem f_mt {name : Str} {apos : Pos} {id : String} {m : Mt} (pa : PlainAttrs (mtT m)) (slot : Slot (mtT m) name id) (hty : typeOf (.builtin id) = pure (.type "method_descriptor")) (hm : MtR X id (rMt X.G (mt m)))
    (ho : PEf X C W a f) (ha : PAf X C W (e :: es) fs) (hs : (e :: es).all noStar = true) (h0 : noCall0 a = true) (hfew : (e :: es).length < 30) (hline : (apos.endLine == pos.line) = true) :
    PEf X C W (.Call (.Attribute a name apos) (e :: es) [] pos) (fun δ M => (f δ M).bind fun x M1 => if rcv m M1 x then (fs δ M1).bind fun as M2 => mt m x as M2 else .no) := by
  have hs2 := hs
  rw [List.all_cons, Bool.and_eq_true_iff] at hs
  refine pe_imp (pe_bm pa slot hty hm ho ha (base_of h0 _ _ _) ?_ hline (star_one hs.1 _ _) (star_any hs.2 _ _)) fun σ H Q q => ?_
  · rw [star_all hs2]
    simp only [keywordEach, backToKw, List.map_nil, List.all_nil, Bool.and_true, Bool.true_and, List.length_nil, List.isEmpty_nil, if_true, Nat.add_zero, decide_eq_true_eq]
    exact hfew
  · obtain ⟨B, δ, M, vs, as, hat, hg⟩ := q
    refine ⟨B, δ, M, vs, as, hat, GE.bind hg fun x M1 v H1 hat1 hg1 => ?_⟩
    have hat1' := hat1
    obtain ⟨F, own, cc, hs, hv⟩ := hat1
    cases hv with
    | cons r hv =>
    split at hg1
    · rename_i hr
      refine ⟨rcv_ok cc r hr, B, δ, M1, v :: vs, x :: as, hat1', ?_⟩
      cases e1 : fs δ M1 with
      | no => simp only [e1, R.bind_no] at hg1; exact hg1.elim
      | ex z M' => simp only [e1, R.bind_ex] at hg1; exact fun cls d H' hx h' => hg1 cls d H' hx h'.pop
      | ok xs M2 =>
        simp only [e1, R.bind_ok] at hg1
        cases e2 : mt m x xs M2 with
        | no => rw [e2] at hg1; exact hg1.elim
        | ex z M' => exact (mt_ex _ _ _ _ _ _ e2).elim
        | ok z M3 =>
          rw [e2] at hg1
          intro ws H2 hl hat2
          exact ⟨B, σ, δ, M2, vs, x, xs, as, z, M3, hl, hat2, e2, hg1⟩
    · exact hg1.elim
theorem f_mt0 {name : Str} {apos : Pos} {id : String} {m : Mt} (pa : PlainAttrs (mtT m)) (slot : Slot (mtT m) name id) (hty : typeOf (.builtin id) = pure (.type "method_descriptor")) (hm : MtR X id (rMt X.G (mt m)))
    (ho : PEf X C W a f) (h0 : noCall0 a = true) (hline : (apos.endLine == pos.line) = true) :
    PEf X C W (.Call (.Attribute a name apos) [] [] pos) (fun δ M => (f δ M).bind fun x M1 => if rcv m M1 x then (R.ok [] M1).bind fun as M2 => mt m x as M2 else .no) := by
  refine pe_imp (pe_bm0 pa slot hty hm ho (base_of h0 _ _ _) hline) fun σ H Q q => ?_
  obtain ⟨B, δ, M, vs, as, hat, hg⟩ := q
  refine ⟨B, δ, M, vs, as, hat, GE.bind hg fun x M1 v H1 hat1 hg1 => ?_⟩
  have hat1' := hat1
  obtain ⟨F, own, cc, hs, hv⟩ := hat1
  cases hv with
  | cons r hv =>
  split at hg1
  · rename_i hr
    refine ⟨rcv_ok cc r hr, ?_⟩
    simp only [R.bind_ok] at hg1
    cases e2 : mt m x [] M1 with
    | no => rw [e2] at hg1; exact hg1.elim
    | ex z M' => exact (mt_ex _ _ _ _ _ _ e2).elim
    | ok z M3 =>
      rw [e2] at hg1
      exact ⟨B, σ, δ, M1, vs, x, [], as, z, M3, rfl, hat1', e2, hg1⟩
  · exact hg1.elim
/-! ### isinstance, built-in types -/
def Ty.nm : Ty → String
  | .non => "NoneType"
  | .bool => "bool"
  | .int => "int"
  | .str => "str"
  | .tup => "tuple"
  | .lst => "list"
  | .dic => "dict"
theorem kit_sub (t u : Ty) : kitB t.nm u.nm = some (t.sub u) := by
  cases t <;> cases u <;> decide +kernel
theorem tyX_ok {B : Base} {H F : Hp} {own : List Addr} {M : List O} {x : A} {v : V} {t : Ty} (c : Core X.G B H F own M) (r : RelA X.G F own v x) (h : tyOf M x = some t) : TyX X.G H v (.type t.nm) := by
  have lst : ∀ {p : Addr} {ws : List V}, H p = some (.lst ws) → TyX X.G H (.ref p) (.type Ty.lst.nm) := fun e => .base (.lst e)
  unfold tyOf at h
  split at h
  · cases h; cases non_of r; exact .base .non
  · cases h; cases bl_of r; exact .base (.bl _)
  · cases h; cases int_of r; exact .base (.int _)
  · cases h; cases str_of r; exact .base (.str _)
  · cases h
    obtain ⟨p, ws, rfl, h1, h2⟩ := tup_ok c r
    rcases h1 with (h1 | ⟨o, h1⟩) | ⟨o, its, n, hk, hc, _⟩
    · exact .base (.tup h1)
    · exact .fTuple h1
    · exact .kTuple hk hc
  · cases h
    cases r with
    | lst hs _ => exact lst (c.fh _ _ hs)
  · cases h
  · obtain ⟨l, hl, rfl⟩ := r
    split at h
    · rename_i hM
      cases h
      obtain ⟨ws, hv, _⟩ := c.obj _ l _ hl hM
      exact lst hv
    · rename_i hM
      cases h
      obtain ⟨hr, _⟩ := c.obj _ l _ hl hM
      cases hr with
      | lst hs _ => exact lst (c.fh _ _ hs)
    · rename_i hM
      cases h
      obtain ⟨ws, hv, _⟩ := c.obj _ l _ hl hM
      exact .base (.dK hv)
    · cases h
  · cases h
theorem Core.grow {K : Fg} {B : Base} {H F : Hp} {own : List Addr} {M : List O} (c : Core K B H F own M) {p : Addr} {o : HO} (hp : H p = none) : Core K B (upd H p o) F own M where
  len := c.len
  nd := c.nd
  fh := fun b x e => by rw [upd_ne (ne_of_none (c.fh _ _ e) hp)]; exact c.fh _ _ e
  f0 := c.f0
  hh := fun a x ha h0 => by
    have := c.hh a x ha h0
    rw [upd_ne (ne_of_none this hp)]; exact this
  new := c.new
  obj := fun n l ob h1 h2 => (c.obj n l ob h1 h2).to0 (Same.refl F) fun a u _ hu => by rw [upd_ne (ne_of_none hu hp)]; exact hu
  mtb := c.mtb
  pre := c.pre
/-- a built-in type by its name -/
structure TyN (X : Cx) (x : Str) (t : Ty) : Prop where
  g : Gl X x
  m : X.mg x = none
  b : bootBuiltins x = some (.type t.nm)
  n : x ≠ "__name__"
  d : (x == ("__debug__" : Str)) = false
theorem TyN.pe {x : Str} {t : Ty} (h : TyN X x t) : PE X (.Name x pos) (tC (.ty t.nm)) := pe_bltn h.g h.m h.b rfl h.n h.d
theorem kit_any {t : Ty} : ∀ ts : List Ty, PySem.W.kitAny X.G (.type t.nm) (ts.map fun u => Value.type u.nm) = some (ts.any fun u => t.sub u)
  | [] => kitAny_nil
  | u :: r => kitAny_cons (kit_ty (kit_sub t u)) (fun e => by rw [kit_any r, List.any_cons, e] <;> rfl) fun e => by rw [List.any_cons, e] <;> rfl
theorem f_isi {x : Str} {t : Ty} {p p2 : Pos} (hg : Gl X "isinstance") (hm : X.mg "isinstance" = none) (hv : bootBuiltins "isinstance" = some (.builtin "isinstance")) (ha : PEf X C W a f) (ht : TyN X x t) (hs : noStar a = true) :
    PEf X C W (.Call (.Name "isinstance" p) [a, .Name x p2] [] pos) (isiF f [t]) := by
  refine pe_imp (pe_callB call_isi hg hm hv (pa_cons ha (pa_cons ht.pe pa_nil rfl) (star_one hs _ _)) (by decide) (by decide) (star_one hs _ _) (star_any (es := [.Name x p2]) rfl _ _)) fun σ H Q q => ?_
  obtain ⟨B, δ, M, vs, as, hat, hg⟩ := q
  unfold isiF at hg
  refine ⟨B, δ, M, vs, as, hat, GE.bind hg fun y M1 v H1 hat1 hg1 => ?_⟩
  obtain ⟨F, own, cc, hs, hv⟩ := hat1
  cases hv with
  | cons r hv =>
  split at hg1
  · rename_i t' e1
    refine ⟨v, .ty t.nm, .type t'.nm, .type t.nm, t'.sub t, rfl, .ty _, tyX_ok cc r e1, kit_ty (kit_sub _ _), ?_⟩
    have : ([t].any fun u => t'.sub u) = t'.sub t := by simp
    rw [this] at hg1
    exact hg1 _ _ ⟨F, own, cc, hs, .cons (.bl _) hv⟩
  · exact hg1.elim
/-- names of built-in types, one behind another -/
inductive TyNs (X : Cx) : List Expr → List Ty → Prop
  | nil : TyNs X [] []
  | cons {x : Str} {p : Pos} {t : Ty} {es : List Expr} {ts : List Ty} : TyN X x t → TyNs X es ts → TyNs X (.Name x p :: es) (t :: ts)
def tTys : List Ty → TA
  | [] => tNil
  | t :: r => tCons (tC (.ty t.nm)) (tTys r)
theorem TyNs.pa {es : List Expr} {ts : List Ty} (h : TyNs X es ts) : PA X es (tTys ts) := by
  induction h with
  | nil => exact pa_nil
  | cons h _ ih => exact pa_cons h.pe ih rfl
theorem tTys_run (ts : List Ty) (σ : L2.St) (H : Hp) (Q : List V → Hp → Prop) (q : Q (ts.map fun t => V.ty t.nm) H) : tTys ts σ H Q := by
  induction ts generalizing Q with
  | nil => exact q
  | cons t r ih => exact ih _ q
theorem tys_cls : ∀ ts : List Ty, PySem.Paired ClsV (ts.map fun t => V.ty t.nm) (ts.map fun t => Value.type t.nm)
  | [] => .nil
  | t :: r => .cons (.ty _) (tys_cls r)
theorem f_isiT {k : Nat} {ts : List Ty} {p p2 : Pos} (hg : Gl X "isinstance") (hm : X.mg "isinstance" = none) (hv : bootBuiltins "isinstance" = some (.builtin "isinstance")) (ha : PEf X C W a f) (ht : TyNs X es ts) (hz : ts.length ≤ sizeLine) (hs : noStar a = true) :
    PEf X C W (.Call (.Name "isinstance" p) [a, .Tuple es k p2] [] pos) (isiF f ts) := by
  refine pe_imp (pe_callB call_isiT hg hm hv (pa_cons ha (pa_cons (pe_tup ht.pa) pa_nil rfl) (star_one hs _ _)) (by decide) (by decide) (star_one hs _ _) (star_any (es := [.Tuple es k p2]) rfl _ _)) fun σ H Q q => ?_
  obtain ⟨B, δ, M, vs, as, hat, hg⟩ := q
  unfold isiF at hg
  refine ⟨B, δ, M, vs, as, hat, GE.bind hg fun y M1 v H1 hat1 hg1 => ?_⟩
  obtain ⟨F, own, cc, hs, hv⟩ := hat1
  cases hv with
  | cons r hv =>
  split at hg1
  · rename_i t' e1
    refine tTys_run ts _ _ _ ⟨by rw [List.length_map]; exact hz, fun q hq => ?_⟩
    have c2 := cc.grow (o := .tup (ts.map fun t => V.ty t.nm)) hq
    exact ⟨v, q, _, .type t'.nm, _, _, rfl, upd_same, tys_cls ts, tyX_ok c2 r e1, kit_any ts, hg1 _ _ ⟨F, own, c2, hs, .cons (.bl _) hv⟩⟩
  · exact hg1.elim
end
end Mini

set_option Elab.async false
set_option linter.all false
set_option maxRecDepth 100000
/-! Mini 8: calls of the program's own defs. -/
namespace Mini
open PySem PySem.Spec L2

/-- a def's promise, by what the small language says of it -/
def Phi (K : Fg) (C : Str → Addr) (np : Nat) (run : List A → List O → R A) : Sp := fun vs H Q E => ∃ F own M as, as.length = np ∧ Core K ⟨F, H, own⟩ H F own M ∧ Al (RelA K F own) vs as ∧ match run as M with
  | .ok a M' => ∀ v H', At K ⟨F, H, own⟩ [] H' [] M' [v] [a] → Q v H'
  | .ex x M' => ∀ cls d H', ExR C x cls d H' → At K ⟨F, H, own⟩ [] H' [] M' [] [] → E cls d H'
  | .no => False
theorem Phi.len {K : Fg} {C : Str → Addr} {np : Nat} {run : List A → List O → R A} {vs : List V} {H : Hp} {Q : VK} {E : XK} (h : Phi K C np run vs H Q E) : vs.length = np := by
  obtain ⟨F, own, M, as, hl, c, ha, _⟩ := h
  rw [ha.length, hl]

/-- how a call's values come to the parameters: n positional ones, keywords ks, by the plan pl -/
structure BindG (K : PySem.W.Frag) (fd : FuncData) (ps : List Str) (n : Nat) (ks : List Str) (pl : List Pl) : Prop where
  ex : ∃ c : D → Value, RelV .non (c .non) ∧ (∀ x, Pl.cst x ∈ pl → ∃ v, x.sv = some v ∧ RelV v (c x)) ∧
    ∀ (s : Shared) (us ws : List Value), K.In s.heap → us.length = n → ws.length = ks.length → BindsTo s fd ⟨us, ks.zip ws⟩ (ps.zip (fill c pl (us ++ ws)))
def cV (x : D) : V := x.sv.getD .non
theorem cV_rep {K : Fg} {F : Hp} {x : D} {v : V} (h : x.sv = some v) : Rep K F (cV x) x := by
  unfold cV
  cases x with
  | non => exact .non
  | bl b => exact .bl b
  | int i => exact .int i
  | str y => exact .str y
  | tup _ => cases h
  | lst _ => cases h
  | rol _ => cases h
theorem al_getD {α β : Type} {R : α → β → Prop} {xs : List α} {ys : List β} {a : α} {b : β} (h : Al R xs ys) (hd : R a b) (i : Nat) : R (xs.getD i a) (ys.getD i b) := by
  rw [List.getD_eq_getElem?_getD, List.getD_eq_getElem?_getD]
  cases e : ys[i]? with
  | none =>
    have e2 : xs[i]? = none := by
      rw [List.getElem?_eq_none_iff] at e ⊢
      rw [h.length]; exact e
    rw [e2]; exact hd
  | some y =>
    obtain ⟨x, e2, r⟩ := h.get e
    rw [e2]; exact r
theorem fill_al {α β : Type} {R : α → β → Prop} {c : D → α} {c' : D → β} {pl : List Pl} {xs : List α} {ys : List β} (h : Al R xs ys) (h0 : R (c .non) (c' .non)) (hc : ∀ x, Pl.cst x ∈ pl → R (c x) (c' x)) : Al R (fill c pl xs) (fill c' pl ys) := by
  have go : ∀ pl : List Pl, (∀ x, Pl.cst x ∈ pl → R (c x) (c' x)) → Al R (pl.map fun
      | .arg i => xs.getD i (c .non)
      | .cst x => c x) (pl.map fun
      | .arg i => ys.getD i (c' .non)
      | .cst x => c' x) := by
    intro pl
    induction pl with
    | nil => intro _; exact .nil
    | cons p r ih =>
      intro hc
      refine .cons ?_ (ih fun x hx => hc x (List.mem_cons_of_mem _ hx))
      cases p with
      | arg i => exact al_getD h h0 i
      | cst x => exact hc x List.mem_cons_self
  unfold fill
  cases pl with
  | nil => exact h
  | cons p r => exact go _ hc
theorem vals_al : ∀ {vs : List V} {us : List Value}, Vals vs us → Al RelV vs us
  | _, _, .nil => .nil
  | _, _, .cons r t => .cons r (vals_al t)
theorem al_vals : ∀ {vs : List V} {us : List Value}, Al RelV vs us → Vals vs us
  | _, _, .nil => .nil
  | _, _, .cons r t => .cons r (al_vals t)
/-- what a callee made is taken over -/
theorem Core.adopt {K : Fg} {B : Base} {H F : Hp} {own : List Addr} {M : List O} (c : Core K B H F own M) {p : Addr} {u : O} (hf : F p = none) (hnm : p ∉ own) (h0 : p ∈ B.ps ∨ B.H_0 p = none) (hu : u.isFrz = false) (hok : ∀ own', (∃ t, own' = own ++ t) → OOk K F own' H p u) :
    Core K B H F (own ++ [p]) (M ++ [u]) := by
  have ne : ∀ l, l ∈ own → l ≠ p := fun l hl e => hnm (e ▸ hl)
  refine ⟨by simp [c.len], List.nodup_append.mpr ⟨c.nd, by simp, fun a ha b hb => ?_⟩, c.fh, c.f0, c.hh, c.new, fun n l ob h1 h2 => ?_, fun n l ob h1 h2 h3 => ?_, ?_⟩
  · simp at hb; subst hb; exact ne a ha
  · by_cases hn : n < own.length
    · rw [List.getElem?_append_left hn] at h1
      rw [List.getElem?_append_left (c.len ▸ hn)] at h2
      exact (c.obj n l ob h1 h2).to (Same.refl F) fun a u _ hu => hu
    · have hz : n = own.length := by
        have := (List.getElem?_eq_some_iff.mp h1).1
        simp at this; omega
      subst hz
      have e1 : l = p := by simpa using h1.symm
      have e2 : ob = u := by rw [c.len] at h2; simpa using h2.symm
      subst e1; subst e2
      exact hok _ ⟨_, rfl⟩
  · by_cases hn : n < own.length
    · rw [List.getElem?_append_left hn] at h1
      rw [List.getElem?_append_left (c.len ▸ hn)] at h2
      exact c.mtb n l ob h1 h2 h3
    · have hz : n = own.length := by
        have := (List.getElem?_eq_some_iff.mp h1).1
        simp at this; omega
      subst hz
      have e1 : l = p := by simpa using h1.symm
      subst e1
      exact ⟨hf, h0⟩
  · obtain ⟨t, e⟩ := c.pre
    exact ⟨t ++ [p], by rw [e, List.append_assoc]⟩
theorem Core.old_none {K : Fg} {B : Base} {H F : Hp} {own : List Addr} {M : List O} (c : Core K B H F own M) {p : Addr} (h : H p = none) : p ∈ B.ps ∨ B.H_0 p = none := by
  by_cases hp : p ∈ B.ps
  · exact .inl hp
  · cases q : B.H_0 p with
    | none => exact .inr rfl
    | some u => rw [c.hh p u hp q] at h; cases h
/-- the promise, where a call leaves the store out -/
theorem pcallF_phi {K : Fg} {C : Str → Addr} {W : WX} {np : Nat} {run : List A → List O → R A} {B : Base} {σ : L2.St} {H F : Hp} {own : List Addr} {δ : List A} {M : List O} {vs ws : List V} {as bs : List A} {Q : VK} (cc : Core K B H F own M) (hs : Al (RelS K F own) σ δ) (hv : Al (RelA K F own) vs as) (hw : Al (RelA K F own) ws bs)
    (hn : bs.length = np) (hg : GE K C W B σ δ vs as Q (pcallF run bs M)) : Phi K C np run ws H Q (WE W σ) := by
  unfold pcallF at hg
  split at hg
  · exact hg.elim
  · rename_i ds M1 e1
    obtain ⟨F1, c1, s1, r1⟩ := frzs_ok e1 cc hw
    refine ⟨F1, [], [], ds.map .d, by rw [List.length_map, ← r1.length, hw.length, hn], core_nil c1.fh, al_D r1, ?_⟩
    split at hg
    · exact hg.elim
    · rename_i x M' e2
      rw [e2]
      intro cls d H' hx hat
      obtain ⟨F', own', c', _, _⟩ := hat
      exact hg cls d H' hx ⟨F, own, cc.back s1 c', hs, hv⟩
    · rename_i x M' e2
      rw [e2]
      intro v H' hat
      obtain ⟨F', own', c', _, hv'⟩ := hat
      cases hv' with
      | cons r' _ =>
      split at hg
      · rename_i hsc
        exact hg v H' ⟨F, own, cc.back s1 c', hs, .cons (rep_sc r' hsc F) hv⟩
      · have s2 := s1.trans c'.f0
        exact hg v H' ⟨F', own, c1.after c', relS_up hs s2, .cons r' (relA_up hv s2)⟩
    · rename_i k M' e2
      rw [e2]
      intro v H' hat
      obtain ⟨F', own', c', _, hv'⟩ := hat
      cases hv' with
      | cons r' _ =>
      obtain ⟨l, hl, rfl⟩ := r'
      unfold give at hg
      split at hg
      · rename_i x hk
        have s2 := s1.trans c'.f0
        exact hg _ H' ⟨F', own, c1.after c', relS_up hs s2, .cons (c'.obj _ l _ hl hk).1 (relA_up hv s2)⟩
      · rename_i xs hk
        split at hg
        · rename_i ys M3 e3
          split at hg
          · rename_i zs hk3
            obtain ⟨us, hu, ha⟩ := c'.obj _ l _ hl hk
            obtain ⟨F2, c2, s2, r2⟩ := frzs_ok e3 c' ha
            have s3 := (s1.trans c'.f0).trans s2
            have q := c2.mtb _ l _ hl hk3 rfl
            have hl0 : H l = none := by
              rcases q.2 with z | z
              · cases z
              · exact z
            have c3 := c1.after c2
            have c4 := c3.adopt (p := l) (u := .lst (ys.map .d)) q.1 (fun hm => c1.own_some hm hl0) (c1.old_none hl0) rfl (fun own2 _ => ⟨us, hu, al_D r2⟩)
            refine hg _ H' ⟨F2, own ++ [l], c4, hs.mono fun _ _ r => r.up s3, .cons ⟨l, ?_, rfl⟩ (hv.mono fun _ _ r => r.up s3)⟩
            rw [← c1.len]; simp
          · exact hg.elim
        · exact hg.elim
      · exact hg.elim
    · exact hg.elim
theorem denL_ok {K : Fg} {H F : Hp} {own : List Addr} {f : A → Option D} (hf : ∀ a d v, f a = some d → RelA K F own v a → Rep K H v d) : ∀ {as : List A} {ds : List D} {vs : List V}, denL f as = some ds → Al (RelA K F own) vs as → Al (Rep K H) vs ds
  | [], _, _, e, h => by cases e; cases h; exact .nil
  | a :: r, _, _, e, h => by
    cases h with
    | cons h1 h2 =>
      unfold denL at e
      split at e
      · rename_i x xs e1 e2
        cases e
        exact .cons (hf _ _ _ e1 h1) (denL_ok hf e2 h2)
      · cases e
theorem den_ok {K : Fg} {B : Base} {H F : Hp} {own : List Addr} {M : List O} (c : Core K B H F own M) : ∀ (k : Nat) (a : A) (d : D) (v : V), den k M a = some d → RelA K F own v a → Rep K H v d
  | k, .d x, d, v, e, h => by
    have e2 : some x = some d := by cases k <;> exact e
    cases e2
    exact Rep.up h c.fh
  | k, .un, d, v, e, h => h.elim
  | 0, .cell n, d, v, e, h => by cases e
  | k + 1, .cell n, d, v, e, h => by
    unfold den at e
    obtain ⟨l, hl, rfl⟩ := h
    split at e
    · rename_i x hM
      cases e
      exact (c.obj n l _ hl hM).1.up c.fh
    · rename_i xs hM
      split at e
      · rename_i ds e1
        cases e
        obtain ⟨vs, hv, ha⟩ := c.obj n l _ hl hM
        exact .lst hv (Reps.of (denL_ok (fun a d v => den_ok c k a d v) e1 ha))
      · cases e
    · cases e
theorem pcall_phi {K : Fg} {C : Str → Addr} {W : WX} {np : Nat} {run : List A → List O → R A} {B : Base} {σ : L2.St} {H F : Hp} {own : List Addr} {δ : List A} {M : List O} {vs ws : List V} {as bs : List A} {Q : VK} (cc : Core K B H F own M) (hs : Al (RelS K F own) σ δ) (hv : Al (RelA K F own) vs as) (hw : Al (RelA K F own) ws bs)
    (hn : bs.length = np) (hg : GE K C W B σ δ vs as Q (pcall run bs M)) : Phi K C np run ws H Q (WE W σ) := by
  unfold pcall at hg
  split at hg
  · exact hg.elim
  · rename_i ds e1
    have r1 := denL_ok (fun a d v => den_ok cc 8 a d v) e1 hw
    split at hg
    · exact hg.elim
    · rename_i x M' e2
      refine ⟨H, [], [], ds.map .d, by rw [List.length_map, ← r1.length, hw.length, hn], core_nil (Same.refl H), al_D r1, ?_⟩
      rw [e2]
      intro cls d H' hx hat
      obtain ⟨F', own', c', _, _⟩ := hat
      exact hg cls d H' hx ⟨F, own, cc.back cc.fh c', hs, hv⟩
    · rename_i x M' e2
      split at hg
      · rename_i hsc
        refine ⟨H, [], [], ds.map .d, by rw [List.length_map, ← r1.length, hw.length, hn], core_nil (Same.refl H), al_D r1, ?_⟩
        rw [e2]
        intro v H' hat
        obtain ⟨F', own', c', _, hv'⟩ := hat
        cases hv' with
        | cons r' _ => exact hg v H' ⟨F, own, cc.back cc.fh c', hs, .cons (rep_sc r' hsc F) hv⟩
      · exact pcallF_phi cc hs hv hw hn hg
    · exact pcallF_phi cc hs hv hw hn hg
/-- the promise, where the callee has the store -/
theorem mcall_phi {K : Fg} {C : Str → Addr} {W : WX} {np : Nat} {run : List A → List O → R A} {B : Base} {σ : L2.St} {H F : Hp} {own : List Addr} {δ : List A} {M : List O} {vs ws : List V} {as bs : List A} {Q : VK} (cc : Core K B H F own M) (hs : Al (RelS K F own) σ δ) (hv : Al (RelA K F own) vs as) (hw : Al (RelA K F own) ws bs)
    (hn : bs.length = np) (hg : GE K C W B σ δ vs as Q (run bs M)) : Phi K C np run ws H Q (WE W σ) := by
  refine ⟨F, own, M, bs, hn, cc.rebase, hw, ?_⟩
  cases e : run bs M with
  | no => rw [e] at hg; exact hg
  | ex x M' =>
    rw [e] at hg
    intro cls d H' hx hat
    obtain ⟨F', own', c', _, _⟩ := hat
    obtain ⟨t, et⟩ := c'.pre
    have et : own' = own ++ t := et
    subst et
    exact hg cls d H' hx ⟨F', _, cc.unbase c', hs.mono fun _ _ r => r.up c'.f0, hv.mono fun _ _ r => r.up c'.f0⟩
  | ok a M' =>
    rw [e] at hg
    intro v H' hat
    obtain ⟨F', own', c', _, hv'⟩ := hat
    obtain ⟨t, et⟩ := c'.pre
    have et : own' = own ++ t := et
    subst et
    cases hv' with
    | cons r' _ => exact hg v H' ⟨F', _, cc.unbase c', hs.mono fun _ _ r => r.up c'.f0, .cons r' (hv.mono fun _ _ r => r.up c'.f0)⟩

/-! ### the call -/
section
variable {X : Cx} {C : Str → Addr} {W : WX} {pos p : Pos} {e : Expr} {es : List Expr} {kws : List Keyword} {f g : List A → List O → R (List A)}
theorem run_user {k : Nat} {fa : Addr} {fd : FuncData} {ps ks : List Str} {sp : Sp} {n : Nat} {pl : List Pl} (FO : FnOk X.prog X.w X.K X.mg X.base (L2.CX X.prog X.w) k fa fd ps sp) (hr : Room k X.A) (hb : BindG X.K fd ps n ks pl) (tk : Takes X W)
    {pins : List (Addr × Obj)} {s : Shared} {σ : L2.St} {H : Hp} {Q : VK} {us wv : List Value} {vs zs : List V} (I : Inv X pins σ H s) (r : Vals vs us) (rz : Vals zs wv) (l1 : vs.length = n) (l2 : zs.length = ks.length) (h : sp (fill cV pl (vs ++ zs)) H Q (WE W σ)) :
    wpAny (model X.prog X.w) X.A (call (.ref fa) us (ks.zip wv)) (EP X pins σ Q) X.xe s := by
  obtain ⟨c, c0, hc, hbind⟩ := hb.ex
  have l3 : us.length = n := r.length.symm.trans l1
  have l4 : wv.length = ks.length := rz.length.symm.trans l2
  have r2 : Vals (fill cV pl (vs ++ zs)) (fill c pl (us ++ wv)) := al_vals (fill_al ((vals_al r).append (vals_al rz)) c0 fun x hx => by
    obtain ⟨v, e1, r1⟩ := hc x hx
    show RelV (x.sv.getD .non) (c x)
    rw [e1]; exact r1)
  refine wpAny_call (codeAny_mono (FO.run X.A X.stack s H ⟨us, ks.zip wv⟩ _ _ Q (WE W σ) hr I.env0 (hbind s us wv I.kIn l3 l4) r2 h) fun r s' hq => ?_)
  cases r with
  | error e => exact passAt tk σ pins H s e s' I hq
  | ok fl =>
    cases fl with
    | ret u => exact I.after hq
    | next => exact False.elim hq
    | brk => exact False.elim hq
    | cont => exact False.elim hq
theorem kw_names (kws : List Keyword) (hall : kws.all (fun k => k.arg.isSome) = true) (pos : Pos) (env : Env) : (backToKw pos (keywordEach kws env)).all (·.1.isSome) = true ∧ (backToKw pos (keywordEach kws env)).filterMap (·.1) = kws.filterMap (fun k => k.arg) ∧ (backToKw pos (keywordEach kws env)).any (·.1.isNone) = false := by
  induction kws with
  | nil => exact ⟨rfl, rfl, rfl⟩
  | cons k r ih =>
    obtain ⟨n, v, kp⟩ := k
    rw [List.all_cons, Bool.and_eq_true_iff] at hall
    obtain ⟨h1, h2, h3⟩ := ih hall.2
    cases n with
    | none => cases hall.1
    | some n =>
      refine ⟨?_, ?_, ?_⟩
      · show ((some n).isSome && (backToKw pos (keywordEach r env)).all (·.1.isSome)) = true
        rw [h1] <;> rfl
      · show n :: (backToKw pos (keywordEach r env)).filterMap (·.1) = n :: r.filterMap (fun k => k.arg)
        rw [h2]
      · show ((some n).isNone || (backToKw pos (keywordEach r env)).any (·.1.isNone)) = false
        rw [h3] <;> rfl
theorem f_user {k : Nat} {x : Str} {fa : Addr} {fd : FuncData} {ps : List Str} {pl : List Pl} {np : Nat} {run G : List A → List O → R A} (hG : ∀ {B : Base} {σ : L2.St} {H F : Hp} {own : List Addr} {δ : List A} {M : List O} {vs ws : List V} {as bs : List A} {Q : VK}, Core X.G B H F own M → Al (RelS X.G F own) σ δ → Al (RelA X.G F own) vs as → Al (RelA X.G F own) ws bs →
      bs.length = np → GE X.G C W B σ δ vs as Q (G bs M) → Phi X.G C np run ws H Q (WE W σ))
    (FO : FnOk X.prog X.w X.K X.mg X.base (L2.CX X.prog X.w) k fa fd ps (Phi X.G C np run)) (hr : Room k X.A) (hb : BindG X.K fd ps (e :: es).length (kws.filterMap fun k => k.arg) pl) (hnp : ∀ xs : List A, xs.length = (e :: es).length + kws.length → (fill A.d pl xs).length = np) (tk : Takes X W)
    (hg : Gl X x) (hm : X.mg x = some (.ref fa)) (hk : PySem.W.keepIn X.K (.ref fa) = true) (ha : PAf X C W (e :: es) f) (hkw : PKf X C W kws g) (hall : kws.all (fun k => k.arg.isSome) = true) (hdb : (x == ("__debug__" : Str)) = false) (hs : (e :: es).all noStar = true)
    (hfl : ∀ δ M as M', f δ M = .ok as M' → as.length = (e :: es).length) (hgl : ∀ δ M as M', g δ M = .ok as M' → as.length = kws.length) (hpl : ∀ x, Pl.cst x ∈ pl → x.sv.isSome = true) :
    PEf X C W (.Call (.Name x p) (e :: es) kws pos) (fun δ M => (f δ M).bind fun as M1 => (g δ M1).bind fun bs M2 => G (fill A.d pl (as ++ bs)) M2) := by
  obtain ⟨k1, k2, k3⟩ := kw_names kws hall pos X.env
  have hks : kws.length = (kws.filterMap fun k => k.arg).length := by
    clear k1 k2 k3 hb hnp hkw hgl
    induction kws with
    | nil => rfl
    | cons k r ih =>
      rw [List.all_cons, Bool.and_eq_true_iff] at hall
      obtain ⟨n, hn⟩ := Option.isSome_iff_exists.mp hall.1
      rw [List.filterMap_cons, hn, List.length_cons, List.length_cons, ih hall.2]
  have hs2 := hs
  rw [List.all_cons, Bool.and_eq_true_iff] at hs
  refine ⟨fun pins s σ H Q I q => ?_⟩
  obtain ⟨B, δ, M, vs, as, hat, hg'⟩ := q
  refine wpAny_Call_Name_kw (ld_glob I hg hm ?_ hdb)
  refine PySem.W.callWith_KW (h₀ := X.base) I.ok.mod.kin hk k1 (thn (ha.run pos pins s σ H (fun ws H1 => ws.length = (e :: es).length ∧ tA X.G C W g σ H1 fun zs H2 => zs.length = kws.length ∧ Phi X.G C np run (fill cV pl (ws ++ zs)) H2 Q (WE W σ)) I ⟨B, δ, M, vs, as, hat, ?_⟩) fun us s1 ⟨ws, H1, I1, r, q1⟩ => ?_) ?_ (star_one hs.1 _ _)
  · cases e1 : f δ M with
    | no => simp only [e1, R.bind_no] at hg'; exact hg'
    | ex x M' => simp only [e1, R.bind_ex] at hg'; exact hg'
    | ok as1 M1 =>
      simp only [e1, R.bind_ok] at hg'
      intro ws H1 hl hat1
      refine ⟨hl.trans (hfl _ _ _ _ e1), B, δ, M1, ws ++ vs, as1 ++ as, hat1, ?_⟩
      cases e2 : g δ M1 with
      | no => simp only [e2, R.bind_no] at hg'; exact hg'
      | ex x M' => simp only [e2, R.bind_ex] at hg'; exact fun cls d H' hx h' => hg' cls d H' hx (h'.popL hl)
      | ok bs1 M2 =>
        simp only [e2, R.bind_ok] at hg'
        intro zs H2 hl2 hat2
        refine ⟨hl2.trans (hgl _ _ _ _ e2), ?_⟩
        obtain ⟨F, own, cc, hss, hv⟩ := hat2
        obtain ⟨hz, hv2⟩ := hv.split hl2
        obtain ⟨hw, hv3⟩ := hv2.split hl
        refine hG cc hss hv3 (fill_al (hw.append hz) (show RelA X.G F own (cV .non) (.d .non) from Rep.non) fun x hx => ?_) (hnp _ ?_) hg'
        · obtain ⟨v, ev⟩ := Option.isSome_iff_exists.mp (hpl x hx)
          exact cV_rep ev
        · rw [List.length_append, hfl _ _ _ _ e1, hgl _ _ _ _ e2]
  · obtain ⟨hlw, q1⟩ := q1
    refine thn (hkw.run pos pins s1 σ H1 _ I1 q1) fun wv s2 ⟨zs, H2, I2, rz, hlz, q2⟩ => ⟨I2.kIn, ?_⟩
    rw [k2]
    exact run_user FO hr hb tk I2 r rz hlw (hlz.trans hks) q2
  · rw [k3, star_one hs.1]
    show ((false || (backTo pos (starEach es X.env)).any (·.1)) || false) = false
    rw [star_any hs.2] <;> rfl
end
end Mini

set_option Elab.async false
set_option linter.all false
set_option maxRecDepth 100000
/-! Mini 9: slices, targets, what is walked, comprehensions. -/
namespace Mini
open PySem PySem.Spec L2

/-! ### slices -/
section
variable {X : Cx} {C : Str → Addr} {W : WX} {pos p2 : Pos} {a lo hi : Expr} {f g h : List A → List O → R A}
def rSl (K : Fg) : V → Option Int → Option Int → Hp → VK → Prop := fun x l u H Q => ∃ (B : Base) (σ' : L2.St) (δ : List A) (M : List O) (vs : List V) (as : List A) (b c : A) (M' : List O), At K B σ' H δ M (x :: vs) (b :: as) ∧ slA M b l u = .ok c M' ∧
      (∀ v H', At K B σ' H' δ M' (v :: vs) (c :: as) → Q v H')
theorem slS : SlR X (rSl X.G) := by
  intro pins s σ H x v vl vu lo hi sl Q I rx hs pl pu q
  obtain ⟨B, σ', δ, M, vs, as, b, c, M', ⟨F, own, cc, hss, hv⟩, hg, hq⟩ := q
  cases hv with
  | cons r hv =>
  unfold slA at hg
  split at hg
  · obtain ⟨p, ws, rfl, h1, h2⟩ := tup_ok cc r
    split at hg
    · cases hg
    · rename_i hw
      cases hg
      refine sl_tup pins s σ H _ v vl vu lo hi sl Q I rx hs pl pu ⟨p, ws, rfl, h1, by rw [h2.length]; exact hw, fun t ht => ?_⟩
      have h3 : Al (Rep X.G F) (cutV ws lo hi) (cutA _ lo hi) := cut_al h2 lo hi
      exact hq _ _ (laidT_at cc hss hv h3 ht)
  · split at hg
    · cases hg
      cases str_of r
      exact sl_str pins s σ H _ v vl vu lo hi sl Q I rx hs pl pu ⟨_, rfl, ‹_›, hq _ _ ⟨F, own, cc, hss, .cons (.str _) hv⟩⟩
    · cases hg
  · split at hg
    · rename_i xs e1
      cases hg
      obtain ⟨p, ws, rfl, h1, h2⟩ := lsv_ok e1 cc r
      refine sl_list pins s σ H _ v vl vu lo hi sl Q I rx hs pl pu ⟨p, ws, rfl, h1, fun t ht => ?_⟩
      have h3 : Al (RelA X.G F own) (cutV ws lo hi) (cutA xs lo hi) := cut_al h2 lo hi
      exact hq _ _ (newL_at cc hss hv h3 ht)
    · cases hg
theorem slA_ex : ∀ M b l u x M', slA M b l u = .ex x M' → False := by
  intro M b l u x M' h
  unfold slA newL at h
  repeat' split at h
  all_goals cases h
/-- a written part, or none -/
inductive PartF (X : Cx) (C : Str → Addr) (W : WX) : Option Expr → Bool → (List A → List O → R A) → Prop
  | none : PartF X C W none false (fun _ M => .ok (.d .non) M)
  | some {e : Expr} {f : List A → List O → R A} (h : PEf X C W e f) : PartF X C W (some e) true f
def tPt (K : Fg) (C : Str → Addr) (W : WX) (b : Bool) (f : List A → List O → R A) : TO := if b then tPart (tE K C W f) else tNoPart
theorem PartF.po {o : Option Expr} {b : Bool} {f : List A → List O → R A} (h : PartF X C W o b f) : PO X o (tPt X.G C W b f) := by
  cases h with
  | none => exact po_none
  | some h => exact po_some h
/-- a part's reading: what it gives, whatever is behind -/
theorem part_imp {o : Option Expr} {b : Bool} {f : List A → List O → R A} (h : PartF X C W o b f) {B : Base} {σ : L2.St} {H : Hp} {δ : List A} {M : List O} {vs : List V} {as : List A} {k : Option Int → List O → R A} {Q : VK} {Q' : Option Int → Hp → Prop} (hat : At X.G B σ H δ M vs as)
    {vs0 : List V} {as0 : List A} (hpop : ∀ H' M', At X.G B σ H' δ M' vs as → At X.G B σ H' δ M' vs0 as0)
    (hg : GE X.G C W B σ δ vs0 as0 Q ((f δ M).bind fun l M2 => match part b l with
      | some l => k l M2
      | none => .no)) (hk : ∀ l M2 H2, At X.G B σ H2 δ M2 vs as → GE X.G C W B σ δ vs0 as0 Q (k l M2) → Q' l H2) : tPt X.G C W b f σ H Q' := by
  cases h with
  | none => exact hk none M H hat hg
  | some h =>
    refine ⟨B, δ, M, vs, as, hat, ?_⟩
    cases e1 : f δ M with
    | no => simp only [e1, R.bind_no] at hg; exact hg
    | ex x M' => simp only [e1, R.bind_ex] at hg; exact fun cls d H' hx h' => hg cls d H' hx (hpop _ _ h')
    | ok y M2 =>
      simp only [e1, R.bind_ok] at hg
      intro v H2 hat2
      unfold part at hg
      split at hg
      · rename_i hp
        split at hp
        · rename_i hb; cases hb
        · cases hp
          obtain ⟨F, own, cc, hs, hv⟩ := hat2
          cases hv with
          | cons r hv =>
            cases int_of r
            exact ⟨_, rfl, hk _ _ _ ⟨F, own, cc, hs, hv⟩ hg⟩
        · cases hp
      · exact hg.elim
theorem f_sl {ol oh : Option Expr} {bl bh : Bool} (ha : PEf X C W a f) (hl : PartF X C W ol bl g) (hh : PartF X C W oh bh h) : PEf X C W (.Subscript a (.Slice ol oh none p2) pos) (slF bl bh f g h) := by
  refine pe_imp (pe_slice slS ha hl.po hh.po) fun σ H Q q => ?_
  obtain ⟨B, δ, M, vs, as, hat, hg⟩ := q
  unfold slF at hg
  refine ⟨B, δ, M, vs, as, hat, GE.bind hg fun x M1 v H1 hat1 hg1 => ?_⟩
  refine part_imp hl hat1 (fun _ _ z => z.pop) hg1 fun l M2 H2 hat2 hg2 => ?_
  refine part_imp (k := fun u M3 => slA M3 x l u) hh hat2 (fun _ _ z => z.pop) hg2 fun u M3 H3 hat3 hg3 => ?_
  cases e : slA M3 x l u with
  | no => rw [e] at hg3; exact hg3.elim
  | ex z M' => exact (slA_ex _ _ _ _ _ _ e).elim
  | ok z M4 =>
    rw [e] at hg3
    exact ⟨B, σ, δ, M3, vs, as, x, z, M4, hat3, e, hg3⟩
end

/-! ### targets -/
def gNs : List Nat → TGs
  | [] => gNil
  | i :: r => gCons (gName i) (gNs r)
def gT (K : Fg) : Tg → TG
  | .one i => gName i
  | .many is => gTup K is.length (gNs is)
theorem gNs_ok {K : Fg} {F : Hp} {own : List Addr} {Q : L2.St → Hp → Prop} {H : Hp} : ∀ (is : List Nat) (ds : List D) (ws : List V) (σ : L2.St) (δ : List A), ds.length = is.length → Al (Rep K F) ws ds → Al (RelS K F own) σ δ →
    (∀ σ', Al (RelS K F own) σ' ((is.zip ds).foldl (fun δ p => δ.set p.1 (.d p.2)) δ) → (∀ j, j ∉ is → σ'[j]? = σ[j]?) → σ'.length = σ.length → Q σ' H) → gNs is ws σ H Q
  | [], [], ws, σ, δ, _, hw, hs, q => by cases hw; exact ⟨rfl, q _ hs (fun _ _ => rfl) rfl⟩
  | [], _ :: _, _, _, _, e, _, _, _ => by cases e
  | _ :: _, [], _, _, _, e, _, _, _ => by cases e
  | i :: is, d :: ds, ws, σ, δ, e, hw, hs, q => by
    cases hw with
    | cons r t => exact ⟨_, _, rfl, gNs_ok is ds _ _ _ (by simpa using e) t (hs.set i (.inr ⟨_, rfl, show RelA K F own _ (.d d) from r⟩)) fun σ' h1 h2 h3 => q σ' h1 (fun j hj => by
        rw [h2 j (fun z => hj (List.mem_cons_of_mem _ z)), List.getElem?_set_ne (fun z => hj (by rw [z]; exact List.mem_cons_self))]) (by rw [h3, List.length_set])⟩
theorem set_ok {K : Fg} {σ : L2.St} {B : Base} {H F : Hp} {own : List Addr} {δ δ1 : List A} {M : List O} {tg : Tg} {a : A} {v : V} {Q : L2.St → Hp → Prop} (h : setTg tg a δ = some δ1) (c : Core K B H F own M) (hs : Al (RelS K F own) σ δ) (r : RelA K F own v a)
    (q : ∀ σ', Al (RelS K F own) σ' δ1 → (∀ j, j ∉ tg.all → σ'[j]? = σ[j]?) → σ'.length = σ.length → Q σ' H) : gT K tg v σ H Q := by
  unfold setTg at h
  split at h
  · cases h
    refine q _ (hs.set _ (.inr ⟨v, rfl, r⟩)) (fun j hj => ?_) (by rw [List.length_set])
    exact List.getElem?_set_ne (fun z => hj (by rw [z]; exact List.mem_cons_self))
  · split at h
    · split at h
      · rename_i hl
        cases h
        obtain ⟨p, ws, rfl, h1, h2⟩ := tup_ok c r
        exact ⟨p, ws, rfl, h1, h2.length.trans hl, gNs_ok _ _ _ _ _ hl h2 hs q⟩
      · cases h
    · cases h
/-! ### what is walked -/
/-- the walk J gives these, while its source stands -/
def ItOk (K : Fg) (J : It) (xs : List D) (sv : V) (sa : A) : Prop := ∀ (B : Base) (i : Nat) (F : Hp) (own : List Addr) (H : Hp) (M : List O), Core K B H F own M → RelA K F own sv sa →
  (xs.length ≤ i → J.stop i H) ∧ ∀ a, xs[i]? = some a → J.go i H ∧ ∀ x H', J.yld i H x H' → ∃ F', Core K B H' F' own M ∧ Same F F' ∧ Rep K F' x a
section
variable (K : Fg) (C : Str → Addr) (W : WX)
def GI (B : Base) (σ : L2.St) (δ : List A) (vs : List V) (as : List A) (k : IK) (Rr : It → Hp → Prop) : R (List A) → Prop
  | .ok bs M' => (match items k bs M' with
    | some (xs, M2) => ∀ J H' sv sa, At K B σ H' δ M2 (sv :: vs) (sa :: as) → ItOk K J xs sv sa → Rr J H'
    | none => False)
  | .ex x M' => ∀ cls d H', ExR C x cls d H' → At K B σ H' δ M' vs as → W cls d σ H'
  | .no => False
def wI (k : IK) (fs : List A → List O → R (List A)) : TI := fun σ H Rr => ∃ B δ M vs as, At K B σ H δ M vs as ∧ GI K C W B σ δ vs as k Rr (fs δ M)
end
theorem GI.ok {K : Fg} {C : Str → Addr} {W : WX} {B : Base} {σ : L2.St} {δ : List A} {vs : List V} {as bs : List A} {k : IK} {Rr : It → Hp → Prop} {M' : List O} (h : GI K C W B σ δ vs as k Rr (.ok bs M')) :
    ∃ xs M2, items k bs M' = some (xs, M2) ∧ ∀ J H' sv sa, At K B σ H' δ M2 (sv :: vs) (sa :: as) → ItOk K J xs sv sa → Rr J H' := by
  have h : (match items k bs M' with
    | some (xs, M2) => ∀ J H' sv sa, At K B σ H' δ M2 (sv :: vs) (sa :: as) → ItOk K J xs sv sa → Rr J H'
    | none => False) := h
  cases e : items k bs M' with
  | none => rw [e] at h; exact h.elim
  | some p =>
    obtain ⟨xs, M2⟩ := p
    rw [e] at h
    exact ⟨xs, M2, rfl, h⟩
theorem itOk_lst {K : Fg} {p : Addr} {ds : List D} : ItOk K (Itl K p) ds (.ref p) (.d (.lst ds)) := by
  intro B i F own H M c r
  cases r with
  | lst hs hr =>
    rename_i ws
    have hq : SqL K H p ws := SqL.of (c.fh _ _ hs)
    refine ⟨fun hi => ⟨ws, hq, by rw [hr.al.length]; exact hi⟩, fun a ha => ?_⟩
    obtain ⟨w, hw, rw'⟩ := hr.al.get ha
    refine ⟨⟨ws, w, hq, hw⟩, fun x H' hy => ?_⟩
    obtain ⟨rfl, hx⟩ := hy
    have := hx ws hq
    rw [hw] at this; cases this
    exact ⟨F, c, Same.refl F, rw'⟩
theorem itOk_rol {K : Fg} {p : Addr} {ds : List D} : ItOk K (Itl K p) ds (.ref p) (.d (.rol ds)) := by
  intro B i F own H M c r
  cases r with
  | rol hs hr =>
    rename_i ws
    have hq : SqL K H p ws := c.fh.seq hs
    refine ⟨fun hi => ⟨ws, hq, by rw [hr.al.length]; exact hi⟩, fun a ha => ?_⟩
    obtain ⟨w, hw, rw'⟩ := hr.al.get ha
    refine ⟨⟨ws, w, hq, hw⟩, fun x H' hy => ?_⟩
    obtain ⟨rfl, hx⟩ := hy
    have := hx ws hq
    rw [hw] at this; cases this
    exact ⟨F, c, Same.refl F, rw'⟩
theorem itOk_tup {K : Fg} {p : Addr} {ds : List D} : ItOk K (Itt K p) ds (.ref p) (.d (.tup ds)) := by
  intro B i F own H M c r
  cases r with
  | tup hs hr =>
    rename_i ws
    have hq : SqT K H p ws := same_seqT c.fh hs
    refine ⟨fun hi => ⟨ws, hq, by rw [hr.al.length]; exact hi⟩, fun a ha => ?_⟩
    obtain ⟨w, hw, rw'⟩ := hr.al.get ha
    refine ⟨⟨ws, w, hq, hw⟩, fun x H' hy => ?_⟩
    obtain ⟨rfl, hx⟩ := hy
    have := hx ws hq
    rw [hw] at this; cases this
    exact ⟨F, c, Same.refl F, rw'⟩
theorem items_r1 {xs : List A} {M M2 : List O} {ys : List D} (h : items .r1 xs M = some (ys, M2)) : ∃ j : Int, xs = [.d (.int j)] ∧ inR j = true ∧ ys = ((List.range j.toNat).map fun i => D.int (i : Nat)) ∧ M2 = M := by
  unfold items at h
  split at h <;> try (rename_i hk; cases hk; done)
  · rename_i j _
    split at h
    · cases h; exact ⟨j, rfl, ‹_›, rfl, rfl⟩
    · cases h
  · cases h
theorem items_r2 {xs : List A} {M M2 : List O} {ys : List D} (h : items .r2 xs M = some (ys, M2)) : ∃ i j : Int, xs = [.d (.int i), .d (.int j)] ∧ (inR i && inR j) = true ∧ ys = ((List.range (j - i).toNat).map fun n => D.int (i + (n : Nat))) ∧ M2 = M := by
  unfold items at h
  split at h <;> try (rename_i hk; cases hk; done)
  · rename_i i j _
    split at h
    · cases h; exact ⟨i, j, rfl, ‹_›, rfl, rfl⟩
    · cases h
  · cases h
theorem items_enum {xs : List A} {M M2 : List O} {ys : List D} (h : items .enum xs M = some (ys, M2)) : ∃ (a : A) (zs : List D), xs = [a] ∧ seqIt M a = some (zs, M2) ∧ ys = numD 0 zs ∧ ∀ z, a ≠ .d (.str z) := by
  unfold items at h
  split at h <;> try (rename_i hk; cases hk; done)
  · rename_i a _
    split at h
    · cases h
    · rename_i hn
      split at h
      · rename_i e
        cases h
        exact ⟨a, _, rfl, e, rfl, fun z e => hn z e⟩
      · cases h
  · cases h
theorem numD_get : ∀ (n i : Nat) (ds : List D), (numD n ds)[i]? = (ds[i]?).map fun d => D.tup [.int ((n + i : Nat) : Int), d]
  | n, i, [] => by simp [numD]
  | n, 0, d :: r => by simp [numD]
  | n, i + 1, d :: r => by
    have := numD_get (n + 1) i r
    simp only [numD, List.getElem?_cons_succ, this]
    have e : n + 1 + i = n + (i + 1) := by omega
    rw [e]
theorem numD_len : ∀ (n : Nat) (ds : List D), (numD n ds).length = ds.length
  | _, [] => rfl
  | n, d :: r => congrArg (· + 1) (numD_len (n + 1) r)
/-- a pair, laid -/
theorem pair_ok {K : Fg} {B : Base} {H F : Hp} {own : List Addr} {M : List O} {T : Addr} {x : V} {i : Nat} {d : D} (c : Core K B H F own M) (hT : H T = none) (r : Rep K F x d) : ∃ F', Core K B (upd H T (.tup [.int (i : Nat), x])) F' own M ∧ Same F F' ∧ Rep K F' (.ref T) (.tup [.int (i : Nat), d]) := by
  obtain ⟨c2, s2⟩ := c.laid (o := .tup [.int (i : Nat), x]) hT
  exact ⟨_, c2, s2, .tup (.inl (.inl upd_same)) (.cons (.int _) (.cons (r.up s2) .nil))⟩
theorem itOk_enumL {K : Fg} {p : Addr} {ds : List D} : ItOk K (Ite K p) (numD 0 ds) (.ref p) (.d (.lst ds)) := by
  intro B i F own H M c r
  cases r with
  | lst hs hr =>
    rename_i ws
    have hq : SqL K H p ws := SqL.of (c.fh _ _ hs)
    refine ⟨fun hi => ⟨ws, hq, by rw [hr.al.length]; rw [numD_len] at hi; exact hi⟩, fun a ha => ?_⟩
    rw [numD_get, Option.map_eq_some_iff] at ha
    obtain ⟨d, hd, rfl⟩ := ha
    obtain ⟨w, hw, rw'⟩ := hr.al.get hd
    refine ⟨⟨ws, w, hq, hw⟩, fun x H' hy => ?_⟩
    obtain ⟨T, y, rfl, hT, rfl, hx⟩ := hy
    have := hx ws hq
    rw [hw] at this; cases this
    rw [Nat.zero_add]
    exact pair_ok c hT rw'
theorem itOk_enumR {K : Fg} {p : Addr} {ds : List D} : ItOk K (Ite K p) (numD 0 ds) (.ref p) (.d (.rol ds)) := by
  intro B i F own H M c r
  cases r with
  | rol hs hr =>
    rename_i ws
    have hq : SqL K H p ws := c.fh.seq hs
    refine ⟨fun hi => ⟨ws, hq, by rw [hr.al.length]; rw [numD_len] at hi; exact hi⟩, fun a ha => ?_⟩
    rw [numD_get, Option.map_eq_some_iff] at ha
    obtain ⟨d, hd, rfl⟩ := ha
    obtain ⟨w, hw, rw'⟩ := hr.al.get hd
    refine ⟨⟨ws, w, hq, hw⟩, fun x H' hy => ?_⟩
    obtain ⟨T, y, rfl, hT, rfl, hx⟩ := hy
    have := hx ws hq
    rw [hw] at this; cases this
    rw [Nat.zero_add]
    exact pair_ok c hT rw'
theorem itOk_enumT {K : Fg} {p : Addr} {ds : List D} : ItOk K (Sup.IteT K p) (numD 0 ds) (.ref p) (.d (.tup ds)) := by
  intro B i F own H M c r
  cases r with
  | tup hs hr =>
    rename_i ws
    have hq : SqT K H p ws := same_seqT c.fh hs
    refine ⟨fun hi => ⟨ws, hq, by rw [hr.al.length]; rw [numD_len] at hi; exact hi⟩, fun a ha => ?_⟩
    rw [numD_get, Option.map_eq_some_iff] at ha
    obtain ⟨d, hd, rfl⟩ := ha
    obtain ⟨w, hw, rw'⟩ := hr.al.get hd
    refine ⟨⟨ws, w, hq, hw⟩, fun x H' hy => ?_⟩
    obtain ⟨T, y, rfl, hT, rfl, hx⟩ := hy
    have := hx ws hq
    rw [hw] at this; cases this
    rw [Nat.zero_add]
    exact pair_ok c hT rw'
theorem itOk_str {K : Fg} {z : Str} : ItOk K (Its z) (z.cps.toList.map fun c => D.str ⟨#[c]⟩) (.str z) (.d (.str z)) := by
  intro B i F own H M c r
  refine ⟨fun hi => ?_, fun a ha => ?_⟩
  · show z.cps.size ≤ i
    simpa using hi
  · rw [List.getElem?_map, Option.map_eq_some_iff] at ha
    obtain ⟨ch, hc, rfl⟩ := ha
    have hi : i < z.cps.size := by
      have := (List.getElem?_eq_some_iff.mp hc).1
      simpa using this
    refine ⟨hi, fun x H' hy => ?_⟩
    obtain ⟨rfl, c', hc', rfl⟩ := hy
    have e : c' = ch := by
      have : z.cps.toList[i]? = some c' := by simpa using hc'
      rw [this] at hc; cases hc; rfl
    subst e
    exact ⟨F, c, Same.refl F, .str _⟩
theorem itOk_rng {K : Fg} {lo : Int} {n : Nat} {sv : V} {sa : A} : ItOk K (Itr lo n) ((List.range n).map fun (i : Nat) => D.int (lo + (i : Nat))) sv sa := by
  intro B i F own H M c r
  refine ⟨fun hi => ?_, fun a ha => ?_⟩
  · show n ≤ i
    simpa using hi
  · rw [List.getElem?_map] at ha
    have hi : i < n := by
      cases e : (List.range n)[i]? with
      | none => rw [e] at ha; cases ha
      | some j => simpa using (List.getElem?_eq_some_iff.mp e).1
    rw [List.getElem?_range hi] at ha
    cases ha
    refine ⟨hi, fun x H' hy => ?_⟩
    obtain ⟨rfl, rfl⟩ := hy
    exact ⟨F, c, Same.refl F, .int _⟩
section
variable {X : Cx} {C : Str → Addr} {W : WX} {pos p : Pos} {a b tg : Expr} {f g : List A → List O → R A} {fs : List A → List O → R (List A)}
theorem pi_seq (ha : PEf X C W a f) : PI X tg a (wI X.G C W .seq (fun δ M => (f δ M).bind fun x M1 => .ok [x] M1)) := by
  refine ⟨fun pins s σ H Rr I q => ?_⟩
  obtain ⟨B, δ, M, vs, as, hat, hg⟩ := q
  cases e1 : f δ M with
  | no => simp only [e1, R.bind_no] at hg; exact hg.elim
  | ex x M' =>
    simp only [e1, R.bind_ex] at hg
    exact (pi_list ha).run pins s σ H Rr I ⟨B, δ, M, vs, as, hat, by rw [e1]; exact hg⟩
  | ok x M1 =>
    simp only [e1, R.bind_ok] at hg
    by_cases ht : ∃ ds, x = .d (.tup ds)
    · obtain ⟨ds, rfl⟩ := ht
      refine (pi_tup ha).run pins s σ H Rr I ⟨B, δ, M, vs, as, hat, ?_⟩
      rw [e1]
      intro v H1 hat1
      have hat1' := hat1
      obtain ⟨F, own, cc, hs, hv⟩ := hat1
      cases hv with
      | cons r hv =>
      have r' := r
      obtain ⟨p, ws, rfl, h1, h2⟩ := tup_ok cc r
      obtain ⟨xs, M2, e2, hg⟩ := hg.ok
      cases e2
      exact ⟨p, rfl, ⟨ws, h1⟩, hg _ _ _ _ hat1' itOk_tup⟩
    by_cases hz : ∃ z, x = .d (.str z)
    · obtain ⟨z, rfl⟩ := hz
      refine (pi_str ha).run pins s σ H Rr I ⟨B, δ, M, vs, as, hat, ?_⟩
      rw [e1]
      intro v H1 hat1
      obtain ⟨F, own, cc, hs, hv⟩ := id hat1
      cases hv with
      | cons r hv =>
      cases str_of r
      obtain ⟨xs, M2, e2, hg⟩ := hg.ok
      cases e2
      exact ⟨z, rfl, hg _ _ _ _ hat1 itOk_str⟩
    · refine (pi_list ha).run pins s σ H Rr I ⟨B, δ, M, vs, as, hat, ?_⟩
      rw [e1]
      intro v H1 hat1
      obtain ⟨F, own, cc, hs, hv⟩ := hat1
      cases hv with
      | cons r hv =>
      obtain ⟨xs, M2, e2, hg⟩ := hg.ok
      have e2 : seqIt M1 x = some (xs, M2) := e2
      unfold seqIt at e2
      · split at e2
        · exact absurd ⟨_, rfl⟩ ht
        · exact absurd ⟨_, rfl⟩ hz
        · split at e2
          · rename_i e3
            cases e2
            obtain ⟨F1, c1, s1, r1⟩ := frz_ok 8 _ _ _ _ e3 _ _ cc r
            have r1' := r1
            cases r1 with
            | lst hl hr => exact ⟨_, rfl, ⟨_, SqL.of (c1.fh _ _ hl)⟩, hg _ _ _ _ ⟨F1, own, c1, relS_up hs s1, .cons (show RelA X.G F1 own _ (.d _) from r1') (relA_up hv s1)⟩ itOk_lst⟩
          · rename_i e3
            cases e2
            obtain ⟨F1, c1, s1, r1⟩ := frz_ok 8 _ _ _ _ e3 _ _ cc r
            have r1' := r1
            cases r1 with
            | rol hl hr => exact ⟨_, rfl, ⟨_, c1.fh.seq hl⟩, hg _ _ _ _ ⟨F1, own, c1, relS_up hs s1, .cons (show RelA X.G F1 own _ (.d _) from r1') (relA_up hv s1)⟩ itOk_rol⟩
          · cases e2
theorem at_sc {K : Fg} {B : Base} {σ : L2.St} {H : Hp} {δ : List A} {M : List O} {vs : List V} {as : List A} (h : At K B σ H δ M vs as) : At K B σ H δ M (.non :: vs) (.d .non :: as) := by
  obtain ⟨F, own, c, hs, hv⟩ := h
  exact ⟨F, own, c, hs, .cons .non hv⟩
theorem pi_r1 (hg : Gl X "range") (hm : X.mg "range" = none) (ha : PAf X C W [a] fs) (hs : noStar a = true) : PI X tg (.Call (.Name "range" p) [a] [] pos) (wI X.G C W .r1 fs) := by
  refine ⟨fun pins s σ H Rr I q => (pi_range1 hg hm ha (star_one hs [] _)).run pins s σ H Rr I ?_⟩
  obtain ⟨B, δ, M, vs, as, hat, hg⟩ := q
  refine ⟨B, δ, M, vs, as, hat, ?_⟩
  cases e1 : fs δ M with
  | no => rw [e1] at hg; exact hg
  | ex x M' => rw [e1] at hg; exact hg
  | ok xs M1 =>
    rw [e1] at hg
    intro ws H1 hl hat1
    have hat2 := hat1.popL hl
    obtain ⟨F, own, cc, hss, hv⟩ := hat1
    obtain ⟨hw, _⟩ := hv.split hl
    obtain ⟨ys, M2, e2, hg2⟩ := GI.ok hg
    obtain ⟨j, rfl, hz, rfl, rfl⟩ := items_r1 e2
    · · obtain ⟨w, rfl, rw'⟩ := al_one hw
        cases int_of rw'
        refine ⟨j, rfl, (inR_ok hz).1, (inR_ok hz).2, hg2 _ _ _ _ (at_sc hat2) ?_⟩
        have := itOk_rng (K := X.G) (lo := 0) (n := j.toNat) (sv := .non) (sa := .d .non)
        simpa using this
theorem pi_r2 (hg : Gl X "range") (hm : X.mg "range" = none) (ha : PAf X C W [a, b] fs) (hs : noStar a = true) (hs2 : noStar b = true) : PI X tg (.Call (.Name "range" p) [a, b] [] pos) (wI X.G C W .r2 fs) := by
  refine ⟨fun pins s σ H Rr I q => (pi_range2 hg hm ha (by rw [star_one hs, star_one hs2] <;> rfl) (star_one hs2 [] _)).run pins s σ H Rr I ?_⟩
  obtain ⟨B, δ, M, vs, as, hat, hg⟩ := q
  refine ⟨B, δ, M, vs, as, hat, ?_⟩
  cases e1 : fs δ M with
  | no => rw [e1] at hg; exact hg
  | ex x M' => rw [e1] at hg; exact hg
  | ok xs M1 =>
    rw [e1] at hg
    intro ws H1 hl hat1
    have hat2 := hat1.popL hl
    obtain ⟨F, own, cc, hss, hv⟩ := hat1
    obtain ⟨hw, _⟩ := hv.split hl
    obtain ⟨ys, M2, e2, hg2⟩ := GI.ok hg
    obtain ⟨i, j, rfl, hz, rfl, rfl⟩ := items_r2 e2
    · · obtain ⟨w, w2, rfl, rw1, rw2⟩ := al_two hw
        cases int_of rw1
        cases int_of rw2
        rw [Bool.and_eq_true_iff] at hz
        exact ⟨_, _, rfl, ⟨(inR_ok hz.1).1, (inR_ok hz.1).2, (inR_ok hz.2).1, (inR_ok hz.2).2⟩, hg2 _ _ _ _ (at_sc hat2) itOk_rng⟩
/-- for i, x in enumerate(xs): a list, a tuple -/
theorem pi_en {elts : List Expr} {kk : Nat} {tpos : Pos} (hg : Gl X "enumerate") (hm : X.mg "enumerate" = none) (ha : PAf X C W [a] fs) (hs : noStar a = true) : PI X (.Tuple elts kk tpos) (.Call (.Name "enumerate" p) [a] [] pos) (wI X.G C W .enum fs) := by
  refine ⟨fun pins s σ H Rr I q => ?_⟩
  obtain ⟨B, δ, M, vs, as, hat, hg'⟩ := q
  cases e1 : fs δ M with
  | no => rw [e1] at hg'; exact hg'.elim
  | ex x M' => rw [e1] at hg'; exact (pi_enum hg hm ha (star_one hs [] _)).run pins s σ H Rr I ⟨B, δ, M, vs, as, hat, by rw [e1]; exact hg'⟩
  | ok xs M1 =>
    rw [e1] at hg'
    obtain ⟨ys, M2, e2, hg2⟩ := GI.ok hg'
    obtain ⟨x, zs, rfl, e3, rfl, hx⟩ := items_enum e2
    by_cases ht : ∃ ds, x = .d (.tup ds)
    · obtain ⟨ds, rfl⟩ := ht
      cases e3
      refine (Sup.pi_enumT hg hm ha (star_one hs [] _)).run pins s σ H Rr I ⟨B, δ, M, vs, as, hat, ?_⟩
      rw [e1]
      intro ws H1 hlw hat1
      obtain ⟨F, own, cc, hss, hv⟩ := id hat1
      obtain ⟨hw, hv2⟩ := hv.split hlw
      obtain ⟨w, rfl, rw'⟩ := al_one hw
      obtain ⟨q, us, rfl, h1, h2⟩ := tup_ok cc rw'
      exact ⟨q, us, rfl, h1, hg2 _ _ _ _ hat1 itOk_enumT⟩
    · refine (pi_enum hg hm ha (star_one hs [] _)).run pins s σ H Rr I ⟨B, δ, M, vs, as, hat, ?_⟩
      rw [e1]
      intro ws H1 hlw hat1
      obtain ⟨F, own, cc, hss, hv⟩ := hat1
      obtain ⟨hw, hv2⟩ := hv.split hlw
      obtain ⟨w, rfl, rw'⟩ := al_one hw
      unfold seqIt at e3
      split at e3
      · exact absurd ⟨_, rfl⟩ ht
      · exact absurd rfl (hx _)
      · split at e3
        · rename_i e4
          cases e3
          obtain ⟨F1, c1, s1, r1⟩ := frz_ok 8 _ _ _ _ e4 _ _ cc rw'
          have r1' := r1
          cases r1 with
          | lst hl hr => exact ⟨_, _, rfl, SqL.of (c1.fh _ _ hl), hg2 _ _ _ _ ⟨F1, own, c1, relS_up hss s1, .cons (show RelA X.G F1 own _ (.d _) from r1') (relA_up hv2 s1)⟩ itOk_enumL⟩
        · rename_i e4
          cases e3
          obtain ⟨F1, c1, s1, r1⟩ := frz_ok 8 _ _ _ _ e4 _ _ cc rw'
          have r1' := r1
          cases r1 with
          | rol hl hr => exact ⟨_, _, rfl, c1.fh.seq hl, hg2 _ _ _ _ ⟨F1, own, c1, relS_up hss s1, .cons (show RelA X.G F1 own _ (.d _) from r1') (relA_up hv2 s1)⟩ itOk_enumR⟩
        · cases e3
end
end Mini

set_option Elab.async false
set_option linter.all false
set_option maxRecDepth 100000
/-! Mini 10: comprehensions. -/
namespace Mini
open PySem PySem.Spec L2

theorem wipe_get (σ : L2.St) : ∀ (vs : List Nat) (j : Nat), (wipe σ vs)[j]? = if j ∈ vs then (σ[j]?).map (fun _ => none) else σ[j]?
  | [], j => by simp [wipe]
  | v :: vs, j => by
    show ((wipe σ vs).set v none)[j]? = _
    by_cases hj : j = v
    · subst hj
      rw [List.getElem?_set_self', wipe_get σ vs j]
      simp only [List.mem_cons, true_or, if_true]
      split <;> cases σ[j]? <;> rfl
    · rw [List.getElem?_set_ne (Ne.symm hj), wipe_get σ vs j]
      simp [hj]
theorem wipe_eq {σ σ' : L2.St} {vs : List Nat} (h : ∀ j, j ∉ vs → σ'[j]? = (wipe σ vs)[j]?) (hl : σ'.length = σ.length) : wipe σ' vs = wipe σ vs := by
  apply List.ext_getElem?
  intro j
  rw [wipe_get, wipe_get]
  by_cases hj : j ∈ vs
  · rw [if_pos hj, if_pos hj]
    by_cases hz : j < σ.length
    · rw [List.getElem?_eq_getElem hz, List.getElem?_eq_getElem (hl ▸ hz)] <;> rfl
    · rw [List.getElem?_eq_none (by omega), List.getElem?_eq_none (by omega)]
  · rw [if_neg hj, if_neg hj, h j hj, wipe_get, if_neg hj]
theorem wipe_al {K : Fg} {F : Hp} {own : List Addr} {σ : L2.St} {δ : List A} (h : Al (RelS K F own) σ δ) : ∀ vs : List Nat, Al (RelS K F own) (wipe σ vs) (wipeA δ vs)
  | [] => h
  | v :: vs => (wipe_al h vs).set v (.inl rfl)

theorem any_al {K : Fg} {F : Hp} {own : List Addr} {k : Key} : ∀ {ws : List (Key × V)} {kvs : List (Key × A)}, Al (RelP K F own) ws kvs → (ws.any fun kv => decide (kv.1 = k)) = (kvs.any fun kv => decide (kv.1 = k))
  | _, _, .nil => rfl
  | (i, v) :: _, (j, a) :: _, .cons r t => by
    obtain ⟨e, _⟩ := r
    have e : i = j := e
    subst e
    rw [List.any_cons, List.any_cons, any_al t]
theorem put1_al {K : Fg} {F : Hp} {own : List Addr} {k : Key} {v : V} {a : A} (r0 : RelA K F own v a) : ∀ {ws : List (Key × V)} {kvs : List (Key × A)}, Al (RelP K F own) ws kvs → Al (RelP K F own) (ws.map fun kv => if kv.1 = k then (kv.1, v) else kv) (kvs.map fun kv => if kv.1 = k then (kv.1, a) else kv)
  | _, _, .nil => .nil
  | (i, v1) :: _, (j, a1) :: _, .cons r t => by
    obtain ⟨e, r1⟩ := r
    have e : i = j := e
    subst e
    refine .cons ?_ (put1_al r0 t)
    show RelP K F own (if i = k then (i, v) else (i, v1)) (if i = k then (i, a) else (i, a1))
    split
    · exact ⟨rfl, r0⟩
    · exact ⟨rfl, r1⟩
theorem putA_al {K : Fg} {F : Hp} {own : List Addr} {k : Key} {v : V} {a : A} {ws : List (Key × V)} {kvs : List (Key × A)} (h : Al (RelP K F own) ws kvs) (r : RelA K F own v a) : Al (RelP K F own) (putK ws k v) (putA kvs k a) := by
  unfold putK putA
  rw [any_al h]
  split
  · exact put1_al r h
  · exact h.append (.cons ⟨rfl, r⟩ .nil)
theorem dropA_al {K : Fg} {F : Hp} {own : List Addr} {k : Key} : ∀ {ws : List (Key × V)} {kvs : List (Key × A)}, Al (RelP K F own) ws kvs → Al (RelP K F own) (dropK ws k) (dropA kvs k)
  | _, _, .nil => .nil
  | (i, v1) :: ws, (j, a1) :: kvs, .cons r t => by
    obtain ⟨e, r1⟩ := r
    have e : i = j := e
    subst e
    have ih := dropA_al (k := k) t
    unfold dropK dropA at ih ⊢
    rw [List.filter_cons, List.filter_cons]
    split
    · exact .cons ⟨rfl, r1⟩ ih
    · exact ih
section
variable {X : Cx} {C : Str → Addr} {W : WX}
abbrev W0 : WX := fun _ _ _ _ => False
theorem lc_imp {tg : Tg} {k : IK} {own : List Nat} {fs : List A → List O → R (List A)} {ts : List A → List O → R Bool} {el : List A → List O → R A} {σ : L2.St} {H : Hp} {Q : VK} (hin : ∀ j ∈ tg.all, j ∈ own) (q : tE X.G C W (compR tg k own fs ts el) σ H Q) :
    tLc (wI X.G C W k fs) (gT X.G tg) (tT X.G C W0 ts) (tE X.G C W0 el) own σ H Q := by
  obtain ⟨B, δ, M, vs, as, hat, hg⟩ := q
  refine ⟨B, δ, M, vs, as, hat, ?_⟩
  unfold compR at hg
  cases e1 : fs δ M with
  | no => simp only [e1, R.bind_no] at hg; exact hg
  | ex x M' => simp only [e1, R.bind_ex] at hg; exact hg
  | ok bs M1 =>
    simp only [e1, R.bind_ok] at hg
    show (match items k bs M1 with
      | some (xs, M2) => _
      | none => False)
    cases e2 : items k bs M1 with
    | none => rw [e2] at hg; exact hg
    | some p =>
      obtain ⟨xs, M2⟩ := p
      rw [e2] at hg
      simp only at hg ⊢
      intro J H1 sv sa hat1 hit Dl hD
      cases e3 : compL M2.length tg (wipeA δ own) ts el xs (M2 ++ [.lst []]) with
      | no => rw [e3] at hg; exact hg.elim
      | ex x M' => rw [e3] at hg; exact hg.elim
      | ok u M3 =>
        rw [e3] at hg
        obtain ⟨F, ow, cc, hs, hv⟩ := hat1
        have c0 := newL_at cc hs hv .nil hD
        refine ⟨fun i m H => m + i = xs.length ∧ ∃ Mi, At X.G B σ H δ Mi (.ref Dl :: sv :: vs) (.cell M2.length :: sa :: as) ∧ compL M2.length tg (wipeA δ own) ts el (xs.drop i) Mi = .ok u M3, ⟨xs.length, rfl, _, c0, by simpa using e3⟩, fun i m H hW => ?_⟩
        clear c0 hv hs cc e3
        obtain ⟨hm, Mi, ⟨F, ow, cc, hs, hv⟩, hci⟩ := hW
        have hv' := hv
        cases hv with
        | cons rD hv =>
        cases hv with
        | cons rS hv =>
        by_cases hi : i < xs.length
        · right
          have ha : xs[i]? = some xs[i] := List.getElem?_eq_getElem hi
          obtain ⟨hgo, hyl⟩ := (hit B i F ow H Mi cc rS).2 _ ha
          refine ⟨hgo, fun H' => (m - 1) + (i + 1) = xs.length ∧ ∃ Mi, At X.G B σ H' δ Mi (.ref Dl :: sv :: vs) (.cell M2.length :: sa :: as) ∧ compL M2.length tg (wipeA δ own) ts el (xs.drop (i + 1)) Mi = .ok u M3, fun H' hN => ⟨m - 1, by omega, hN⟩, fun x H' hy => ?_⟩
          obtain ⟨F', c', s', rx⟩ := hyl x H' hy
          rw [List.drop_eq_getElem_cons hi] at hci
          unfold compL at hci
          split at hci
          · cases hci
          · rename_i δ1 hδ
            refine set_ok hδ c' (wipe_al (relS_up hs s') own) rx fun σ2 hs2 hoth hlen => ⟨wipe_eq (fun j hj => hoth j fun z => hj (hin j z)) (by rw [hlen, wipe_length]), ?_⟩
            refine ⟨⟨F', H', ow⟩, δ1, Mi, _, _, ⟨F', ow, c'.rebase, hs2, relA_up hv' s'⟩, ?_⟩
            cases e4 : ts δ1 Mi with
            | no => rw [e4] at hci; cases hci
            | ex z M' => rw [e4] at hci; cases hci
            | ok b M4 =>
              rw [e4] at hci
              intro H3 hat3
              cases b with
              | false =>
                refine iteF ⟨by omega, M4, ?_, hci⟩
                obtain ⟨F3, ow3, c3, _, hv3⟩ := hat3
                obtain ⟨t, et⟩ := c3.pre
                have et : ow3 = ow ++ t := et
                subst et
                exact ⟨F3, _, c'.unbase c3, hs.mono fun _ _ r => r.up (s'.trans c3.f0), hv3⟩
              | true =>
                simp only at hci
                refine iteT ⟨_, δ1, M4, _, _, hat3, ?_⟩
                cases e5 : el δ1 M4 with
                | no => rw [e5] at hci; cases hci
                | ex z M' => rw [e5] at hci; cases hci
                | ok y M5 =>
                  rw [e5] at hci
                  intro yv H4 hat4
                  obtain ⟨F4, ow4, c4, _, hv4⟩ := hat4
                  cases hv4 with
                  | cons ry hv4 =>
                  have hv4' := hv4
                  cases hv4 with
                  | cons rD4 hv4 =>
                  obtain ⟨l, hl, el'⟩ := rD4
                  cases el'
                  have hci : (match M5[M2.length]? with
                    | some (.lst acc) => if acc.length < sizeLine then compL M2.length tg (wipeA δ own) ts el (xs.drop (i + 1)) (M5.set M2.length (.lst (acc ++ [y]))) else .no
                    | _ => .no) = R.ok u M3 := hci
                  split at hci
                  · rename_i acc hacc
                    split at hci
                    · rename_i hz
                      obtain ⟨accV, hH4, hal⟩ := c4.obj _ _ _ hl hacc
                      refine ⟨accV, hH4, by rw [hal.length]; exact hz, by omega, _, ?_, hci⟩
                      have c5 := c4.store (o := .lst (accV ++ [yv])) (u := .lst (acc ++ [y])) hl hacc rfl rfl ⟨_, upd_same, hal.append (.cons ry .nil)⟩
                      obtain ⟨t, et⟩ := c4.pre
                      have et : ow4 = ow ++ t := et
                      subst et
                      exact ⟨F4, _, c'.unbase c5, hs.mono fun _ _ r => r.up (s'.trans c4.f0), hv4'⟩
                    · cases hci
                  · cases hci
        · left
          have hi2 : xs.drop i = [] := List.drop_eq_nil_of_le (by omega)
          rw [hi2] at hci
          cases hci
          exact ⟨(hit B i F ow H _ cc rS).1 (by omega), hg _ _ ⟨F, ow, cc, hs, .cons rD hv⟩⟩

/-- [elt for tg in iter if ..] -/
theorem f_comp {elt tgE iter : Expr} {ifs : List Expr} {scope : Scope} {own : List (Str × Nat)} {pos : Pos} {tg : Tg} {k : IK} {fs : List A → List O → R (List A)} {ts : List A → List O → R Bool} {el : List A → List O → R A} (hc : X.calm = true) (hN : X.N.Nodup) (hi : PI X tgE iter (wI X.G C W k fs)) (ok : BlkOk X.N X.env.scope scope own)
    (hg : ∀ (s : Shared) (H : Hp) (Ca : Addr) (cl : List (Str × Addr)) (fp : List Addr), PG (X.blk s H scope (compEnvC scope cl Ca X.env) fp) tgE (gT X.G tg)) (ht : ∀ (s : Shared) (H : Hp) (Ca : Addr) (cl : List (Str × Addr)) (fp : List Addr), PTs (X.blk s H scope (compEnvC scope cl Ca X.env) fp) ifs (tT X.G C W0 ts))
    (he : ∀ (s : Shared) (H : Hp) (Ca : Addr) (cl : List (Str × Addr)) (fp : List Addr), PE (X.blk s H scope (compEnvC scope cl Ca X.env) fp) elt (tE X.G C W0 el)) (hs : ∀ x, foldedSetIterable iter X.env x = pure x) (hin : ∀ j ∈ tg.all, j ∈ own.map (·.2)) :
    PEf X C W (.ListComp elt [⟨tgE, iter, ifs, 0⟩] scope pos) (compR tg k (own.map (·.2)) fs ts el) :=
  pe_imp (pe_lc hc hN hi ok hg ht he hs) fun _ _ _ q => lc_imp hin q

/-! ### sets, dicts -/
theorem set_imp {tg : Tg} {k : IK} {own : List Nat} {fs : List A → List O → R (List A)} {ts : List A → List O → R Bool} {el : List A → List O → R A} {σ : L2.St} {H : Hp} {Q : VK} (hin : ∀ j ∈ tg.all, j ∈ own) (q : tE X.G C W (setR tg k own fs ts el) σ H Q) :
    Sup.tSK X (wI X.G C W k fs) (gT X.G tg) (tT X.G C W0 ts) (tE X.G C W0 el) own σ H Q := by
  obtain ⟨B, δ, M, vs, as, hat, hg⟩ := q
  refine ⟨B, δ, M, vs, as, hat, ?_⟩
  unfold setR at hg
  cases e1 : fs δ M with
  | no => simp only [e1, R.bind_no] at hg; exact hg
  | ex x M' => simp only [e1, R.bind_ex] at hg; exact hg
  | ok bs M1 =>
    simp only [e1, R.bind_ok] at hg
    show (match items k bs M1 with
      | some (xs, M2) => _
      | none => False)
    cases e2 : items k bs M1 with
    | none => rw [e2] at hg; exact hg
    | some p =>
      obtain ⟨xs, M2⟩ := p
      rw [e2] at hg
      simp only at hg ⊢
      intro J H1 sv sa hat1 hit Dl hD
      cases e3 : compS M2.length tg (wipeA δ own) ts el xs (M2 ++ [.set []]) with
      | no => rw [e3] at hg; exact hg.elim
      | ex x M' => rw [e3] at hg; exact hg.elim
      | ok u M3 =>
        rw [e3] at hg
        obtain ⟨F, ow, cc, hs, hv⟩ := hat1
        have c1 := cc.push (u := .set []) (o := Sup.K0 X Dl) hD rfl (fun own' _ => ⟨_, 0, upd_same, Nat.zero_le _, fun k => rfl⟩)
        have c0 : At X.G B σ (upd H1 Dl (Sup.K0 X Dl)) δ (M2 ++ [.set []]) (.ref Dl :: sv :: vs) (.cell M2.length :: sa :: as) :=
          ⟨F, ow ++ [Dl], c1, hs.mono fun _ _ r => r.up (Same.refl F), .cons ⟨Dl, by rw [← cc.len]; simp, rfl⟩ (hv.mono fun _ _ r => r.up (Same.refl F))⟩
        refine ⟨fun i m H => m + i = xs.length ∧ ∃ Mi, At X.G B σ H δ Mi (.ref Dl :: sv :: vs) (.cell M2.length :: sa :: as) ∧ compS M2.length tg (wipeA δ own) ts el (xs.drop i) Mi = .ok u M3, ⟨xs.length, rfl, _, c0, by simpa using e3⟩, fun i m H hW => ?_⟩
        clear c0 c1 hv hs cc e3
        obtain ⟨hm, Mi, ⟨F, ow, cc, hs, hv⟩, hci⟩ := hW
        have hv' := hv
        cases hv with
        | cons rD hv =>
        cases hv with
        | cons rS hv =>
        by_cases hi : i < xs.length
        · right
          have ha : xs[i]? = some xs[i] := List.getElem?_eq_getElem hi
          obtain ⟨hgo, hyl⟩ := (hit B i F ow H Mi cc rS).2 _ ha
          refine ⟨hgo, fun H' => (m - 1) + (i + 1) = xs.length ∧ ∃ Mi, At X.G B σ H' δ Mi (.ref Dl :: sv :: vs) (.cell M2.length :: sa :: as) ∧ compS M2.length tg (wipeA δ own) ts el (xs.drop (i + 1)) Mi = .ok u M3, fun H' hN => ⟨m - 1, by omega, hN⟩, fun x H' hy => ?_⟩
          obtain ⟨F', c', s', rx⟩ := hyl x H' hy
          rw [List.drop_eq_getElem_cons hi] at hci
          unfold compS at hci
          split at hci
          · cases hci
          · rename_i δ1 hδ
            refine set_ok hδ c' (wipe_al (relS_up hs s') own) rx fun σ2 hs2 hoth hlen => ⟨wipe_eq (fun j hj => hoth j fun z => hj (hin j z)) (by rw [hlen, wipe_length]), ?_⟩
            refine ⟨⟨F', H', ow⟩, δ1, Mi, _, _, ⟨F', ow, c'.rebase, hs2, relA_up hv' s'⟩, ?_⟩
            cases e4 : ts δ1 Mi with
            | no => rw [e4] at hci; cases hci
            | ex z M' => rw [e4] at hci; cases hci
            | ok b M4 =>
              rw [e4] at hci
              intro H3 hat3
              cases b with
              | false =>
                refine iteF ⟨by omega, M4, ?_, hci⟩
                obtain ⟨F3, ow3, c3, _, hv3⟩ := hat3
                obtain ⟨t, et⟩ := c3.pre
                have et : ow3 = ow ++ t := et
                subst et
                exact ⟨F3, _, c'.unbase c3, hs.mono fun _ _ r => r.up (s'.trans c3.f0), hv3⟩
              | true =>
                simp only at hci
                refine iteT ⟨_, δ1, M4, _, _, hat3, ?_⟩
                cases e5 : el δ1 M4 with
                | no => rw [e5] at hci; cases hci
                | ex z M' => rw [e5] at hci; cases hci
                | ok y M5 =>
                  rw [e5] at hci
                  intro yv H4 hat4
                  obtain ⟨F4, ow4, c4, _, hv4⟩ := hat4
                  cases hv4 with
                  | cons ry hv4 =>
                  have hv4' := hv4
                  cases hv4 with
                  | cons rD4 hv4 =>
                  obtain ⟨l, hl, el'⟩ := rD4
                  cases el'
                  have hci : (match M5[M2.length]?, keyA y with
                    | some (.set ks), some k => if ks.length + 1 < scanBound then compS M2.length tg (wipeA δ own) ts el (xs.drop (i + 1)) (M5.set M2.length (.set (k :: ks))) else .no
                    | _, _ => .no) = R.ok u M3 := hci
                  split at hci
                  · rename_i ks ky hacc hky
                    split at hci
                    · rename_i hz
                      obtain ⟨S, n, hH4, hn, hS⟩ := c4.obj _ _ _ hl hacc
                      refine ⟨ky, S, n, keyA_ok hky ry, hH4, by omega, by omega, _, ?_, hci⟩
                      have c5 := c4.store (o := Sup.K1 X Dl S n ky) (u := .set (ky :: ks)) hl hacc rfl rfl ⟨_, _, upd_same, by
                        show (if S ky = true then n else n + 1) ≤ _
                        rw [List.length_cons]
                        split <;> omega, fun j => by
                        rw [List.any_cons, hS j, Bool.or_comm]⟩
                      obtain ⟨t, et⟩ := c4.pre
                      have et : ow4 = ow ++ t := et
                      subst et
                      exact ⟨F4, _, c'.unbase c5, hs.mono fun _ _ r => r.up (s'.trans c4.f0), hv4'⟩
                    · cases hci
                  · cases hci
        · left
          have hi2 : xs.drop i = [] := List.drop_eq_nil_of_le (by omega)
          rw [hi2] at hci
          cases hci
          exact ⟨(hit B i F ow H _ cc rS).1 (by omega), hg _ _ ⟨F, ow, cc, hs, .cons rD hv⟩⟩
/-- {elt for tg in iter if ..} -/
theorem f_scomp {elt tgE iter : Expr} {ifs : List Expr} {scope : Scope} {own : List (Str × Nat)} {pos : Pos} {tg : Tg} {k : IK} {fs : List A → List O → R (List A)} {ts : List A → List O → R Bool} {el : List A → List O → R A} (hc : X.calm = true) (hN : X.N.Nodup) (hi : PI X tgE iter (wI X.G C W k fs)) (ok : BlkOk X.N X.env.scope scope own)
    (hg : ∀ (s : Shared) (H : Hp) (Ca : Addr) (cl : List (Str × Addr)) (fp : List Addr), PG (X.blk s H scope (compEnvC scope cl Ca X.env) fp) tgE (gT X.G tg)) (ht : ∀ (s : Shared) (H : Hp) (Ca : Addr) (cl : List (Str × Addr)) (fp : List Addr), PTs (X.blk s H scope (compEnvC scope cl Ca X.env) fp) ifs (tT X.G C W0 ts))
    (he : ∀ (s : Shared) (H : Hp) (Ca : Addr) (cl : List (Str × Addr)) (fp : List Addr), PE (X.blk s H scope (compEnvC scope cl Ca X.env) fp) elt (tE X.G C W0 el)) (hs : ∀ x, foldedSetIterable iter X.env x = pure x) (hin : ∀ j ∈ tg.all, j ∈ own.map (·.2)) :
    PEf X C W (.SetComp elt [⟨tgE, iter, ifs, 0⟩] scope pos) (setR tg k (own.map (·.2)) fs ts el) :=
  pe_imp (Sup.pe_setK hc hN hi ok hg ht he hs) fun _ _ _ q => set_imp hin q
theorem dct_imp {tg : Tg} {k : IK} {own : List Nat} {fs : List A → List O → R (List A)} {ts : List A → List O → R Bool} {ky vl : List A → List O → R A} {σ : L2.St} {H : Hp} {Q : VK} (hin : ∀ j ∈ tg.all, j ∈ own) (q : tE X.G C W (dctR tg k own fs ts ky vl) σ H Q) :
    tDc (wI X.G C W k fs) (gT X.G tg) (tT X.G C W0 ts) (tE X.G C W0 ky) (tE X.G C W0 vl) own σ H Q := by
  obtain ⟨B, δ, M, vs, as, hat, hg⟩ := q
  refine ⟨B, δ, M, vs, as, hat, ?_⟩
  unfold dctR at hg
  cases e1 : fs δ M with
  | no => simp only [e1, R.bind_no] at hg; exact hg
  | ex x M' => simp only [e1, R.bind_ex] at hg; exact hg
  | ok bs M1 =>
    simp only [e1, R.bind_ok] at hg
    show (match items k bs M1 with
      | some (xs, M2) => _
      | none => False)
    cases e2 : items k bs M1 with
    | none => rw [e2] at hg; exact hg
    | some p =>
      obtain ⟨xs, M2⟩ := p
      rw [e2] at hg
      simp only at hg ⊢
      intro J H1 sv sa hat1 hit Dl hD
      cases e3 : compD M2.length tg (wipeA δ own) ts ky vl xs (M2 ++ [.dct []]) with
      | no => rw [e3] at hg; exact hg.elim
      | ex x M' => rw [e3] at hg; exact hg.elim
      | ok u M3 =>
        rw [e3] at hg
        obtain ⟨F, ow, cc, hs, hv⟩ := hat1
        have c1 := cc.push (u := .dct []) (o := .dK []) hD rfl (fun own' _ => ⟨[], upd_same, .nil⟩)
        have c0 : At X.G B σ (upd H1 Dl (.dK [])) δ (M2 ++ [.dct []]) (.ref Dl :: sv :: vs) (.cell M2.length :: sa :: as) :=
          ⟨F, ow ++ [Dl], c1, hs.mono fun _ _ r => r.up (Same.refl F), .cons ⟨Dl, by rw [← cc.len]; simp, rfl⟩ (hv.mono fun _ _ r => r.up (Same.refl F))⟩
        refine ⟨fun i m H => m + i = xs.length ∧ ∃ Mi, At X.G B σ H δ Mi (.ref Dl :: sv :: vs) (.cell M2.length :: sa :: as) ∧ compD M2.length tg (wipeA δ own) ts ky vl (xs.drop i) Mi = .ok u M3, ⟨xs.length, rfl, _, c0, by simpa using e3⟩, fun i m H hW => ?_⟩
        clear c0 c1 hv hs cc e3
        obtain ⟨hm, Mi, ⟨F, ow, cc, hs, hv⟩, hci⟩ := hW
        have hv' := hv
        cases hv with
        | cons rD hv =>
        cases hv with
        | cons rS hv =>
        by_cases hi : i < xs.length
        · right
          have ha : xs[i]? = some xs[i] := List.getElem?_eq_getElem hi
          obtain ⟨hgo, hyl⟩ := (hit B i F ow H Mi cc rS).2 _ ha
          refine ⟨hgo, fun H' => (m - 1) + (i + 1) = xs.length ∧ ∃ Mi, At X.G B σ H' δ Mi (.ref Dl :: sv :: vs) (.cell M2.length :: sa :: as) ∧ compD M2.length tg (wipeA δ own) ts ky vl (xs.drop (i + 1)) Mi = .ok u M3, fun H' hN => ⟨m - 1, by omega, hN⟩, fun x H' hy => ?_⟩
          obtain ⟨F', c', s', rx⟩ := hyl x H' hy
          rw [List.drop_eq_getElem_cons hi] at hci
          unfold compD at hci
          split at hci
          · cases hci
          · rename_i δ1 hδ
            refine set_ok hδ c' (wipe_al (relS_up hs s') own) rx fun σ2 hs2 hoth hlen => ⟨wipe_eq (fun j hj => hoth j fun z => hj (hin j z)) (by rw [hlen, wipe_length]), ?_⟩
            refine ⟨⟨F', H', ow⟩, δ1, Mi, _, _, ⟨F', ow, c'.rebase, hs2, relA_up hv' s'⟩, ?_⟩
            cases e4 : ts δ1 Mi with
            | no => rw [e4] at hci; cases hci
            | ex z M' => rw [e4] at hci; cases hci
            | ok b M4 =>
              rw [e4] at hci
              intro H3 hat3
              cases b with
              | false =>
                refine iteF ⟨by omega, M4, ?_, hci⟩
                obtain ⟨F3, ow3, c3, _, hv3⟩ := hat3
                obtain ⟨t, et⟩ := c3.pre
                have et : ow3 = ow ++ t := et
                subst et
                exact ⟨F3, _, c'.unbase c3, hs.mono fun _ _ r => r.up (s'.trans c3.f0), hv3⟩
              | true =>
                simp only at hci
                refine iteT ⟨_, δ1, M4, _, _, hat3, ?_⟩
                cases e5 : ky δ1 M4 with
                | no => rw [e5] at hci; cases hci
                | ex z M' => rw [e5] at hci; cases hci
                | ok y M5 =>
                  rw [e5] at hci
                  simp only at hci
                  split at hci
                  · rename_i kk hky
                    intro yv H4 hat4
                    refine ⟨_, δ1, M5, _, _, hat4, ?_⟩
                    cases e6 : vl δ1 M5 with
                    | no => rw [e6] at hci; cases hci
                    | ex z M' => rw [e6] at hci; cases hci
                    | ok z M6 =>
                      rw [e6] at hci
                      intro zv H5 hat5
                      obtain ⟨F5, ow5, c5, _, hv5⟩ := hat5
                      cases hv5 with
                      | cons rz hv5 =>
                      cases hv5 with
                      | cons ry hv5 =>
                      have hv5' := hv5
                      cases hv5 with
                      | cons rD5 hv5 =>
                      obtain ⟨l, hl, el'⟩ := rD5
                      cases el'
                      have hci : (match M6[M2.length]? with
                        | some (.dct kvs) => if kvs.length < sizeLine then compD M2.length tg (wipeA δ own) ts ky vl (xs.drop (i + 1)) (M6.set M2.length (.dct (putA kvs kk z))) else .no
                        | _ => .no) = R.ok u M3 := hci
                      split at hci
                      · rename_i kvs hacc
                        split at hci
                        · rename_i hz
                          obtain ⟨ws, hH5, hal⟩ := c5.obj _ _ _ hl hacc
                          refine ⟨ws, kk, keyA_ok hky ry, hH5, by rw [hal.length]; exact hz, by omega, _, ?_, hci⟩
                          have c6 := c5.store (o := .dK (putK ws kk zv)) (u := .dct (putA kvs kk z)) hl hacc rfl rfl ⟨_, upd_same, putA_al hal rz⟩
                          obtain ⟨t, et⟩ := c5.pre
                          have et : ow5 = ow ++ t := et
                          subst et
                          exact ⟨F5, _, c'.unbase c6, hs.mono fun _ _ r => r.up (s'.trans c5.f0), hv5'⟩
                        · cases hci
                      · cases hci
                  · cases hci
        · left
          have hi2 : xs.drop i = [] := List.drop_eq_nil_of_le (by omega)
          rw [hi2] at hci
          cases hci
          exact ⟨(hit B i F ow H _ cc rS).1 (by omega), hg _ _ ⟨F, ow, cc, hs, .cons rD hv⟩⟩
/-- {ky: vl for tg in iter if ..} -/
theorem f_dcomp {kyE vlE tgE iter : Expr} {ifs : List Expr} {scope : Scope} {own : List (Str × Nat)} {pos : Pos} {tg : Tg} {k : IK} {fs : List A → List O → R (List A)} {ts : List A → List O → R Bool} {ky vl : List A → List O → R A} (hc : X.calm = true) (hN : X.N.Nodup) (hi : PI X tgE iter (wI X.G C W k fs)) (ok : BlkOk X.N X.env.scope scope own)
    (hg : ∀ (s : Shared) (H : Hp) (Ca : Addr) (cl : List (Str × Addr)) (fp : List Addr), PG (X.blk s H scope (compEnvC scope cl Ca X.env) fp) tgE (gT X.G tg)) (ht : ∀ (s : Shared) (H : Hp) (Ca : Addr) (cl : List (Str × Addr)) (fp : List Addr), PTs (X.blk s H scope (compEnvC scope cl Ca X.env) fp) ifs (tT X.G C W0 ts))
    (hk : ∀ (s : Shared) (H : Hp) (Ca : Addr) (cl : List (Str × Addr)) (fp : List Addr), PE (X.blk s H scope (compEnvC scope cl Ca X.env) fp) kyE (tE X.G C W0 ky)) (he : ∀ (s : Shared) (H : Hp) (Ca : Addr) (cl : List (Str × Addr)) (fp : List Addr), PE (X.blk s H scope (compEnvC scope cl Ca X.env) fp) vlE (tE X.G C W0 vl))
    (hs : ∀ x, foldedSetIterable iter X.env x = pure x) (hin : ∀ j ∈ tg.all, j ∈ own.map (·.2)) : PEf X C W (.DictComp kyE vlE [⟨tgE, iter, ifs, 0⟩] scope pos) (dctR tg k (own.map (·.2)) fs ts ky vl) :=
  pe_imp (pe_dc hc hN hi ok hg ht hk he hs) fun _ _ _ q => dct_imp hin q
end
end Mini

set_option Elab.async false
set_option linter.all false
set_option maxRecDepth 100000
/-! Mini 11: statements. -/
namespace Mini
open PySem PySem.Spec L2

theorem At.mid {K : Fg} {B : Base} {σ : L2.St} {H : Hp} {δ : List A} {M : List O} {vs : List V} {as : List A} {v w : V} {a b : A} (h : At K B σ H δ M (v :: w :: vs) (a :: b :: as)) : At K B σ H δ M (v :: vs) (a :: as) := by
  obtain ⟨F, own, c, hs, hv⟩ := h
  cases hv with
  | cons r t =>
  cases t with
  | cons r2 t => exact ⟨F, own, c, hs, .cons r t⟩
section
variable (K : Fg) (C : Str → Addr) (W : WX)
def GS (B : Base) (vs : List V) (as : List A) (D : Ends) : RS → Prop
  | .nx δ M => ∀ σ H, At K B σ H δ M vs as → D.nx σ H
  | .rt a M => ∀ v σ H δ, At K B σ H δ M (v :: vs) (a :: as) → D.rt v H
  | .bk δ M => ∀ σ H, At K B σ H δ M vs as → D.bk σ H
  | .ct δ M => ∀ σ H, At K B σ H δ M vs as → D.ct σ H
  | .ex x δ M => ∀ cls d σ H, ExR C x cls d H → At K B σ H δ M vs as → W cls d σ H
  | .no => False
def tS (f : List A → List O → RS) : TS := fun D σ H => ∃ B δ M vs as, At K B σ H δ M vs as ∧ GS K C W B vs as D (f δ M)
end
section
variable {K : Fg} {C : Str → Addr} {W : WX} {σ : L2.St} {H : Hp} {D : Ends} {f g : List A → List O → RS} {e : List A → List O → R A} {t : List A → List O → R Bool}
theorem seq_imp (q : tS K C W (fun δ M => (f δ M).andThen g) D σ H) : tSeq (tS K C W f) (tS K C W g) D σ H := by
  obtain ⟨B, δ, M, vs, as, hat, hg⟩ := q
  try dsimp only at hg
  refine ⟨B, δ, M, vs, as, hat, ?_⟩
  cases e1 : f δ M with
  | nx δ1 M1 =>
    rw [e1] at hg
    exact fun σ1 H1 hat1 => ⟨B, δ1, M1, vs, as, hat1, hg⟩
  | rt a M1 => rw [e1] at hg; exact hg
  | bk δ1 M1 => rw [e1] at hg; exact hg
  | ct δ1 M1 => rw [e1] at hg; exact hg
  | ex x δ1 M1 => rw [e1] at hg; exact hg
  | no => rw [e1] at hg; exact hg
theorem if_imp (q : tS K C W (fun δ M => (t δ M).toS δ fun k M1 => if k then f δ M1 else g δ M1) D σ H) : tIfS (tT K C W t) (tS K C W f) (tS K C W g) D σ H := by
  obtain ⟨B, δ, M, vs, as, hat, hg⟩ := q
  try dsimp only at hg
  refine ⟨B, δ, M, vs, as, hat, ?_⟩
  cases e1 : t δ M with
  | ok k M1 =>
    rw [e1] at hg
    intro H1 hat1
    cases k with
    | true => exact iteT ⟨B, δ, M1, vs, as, hat1, hg⟩
    | false => exact iteF ⟨B, δ, M1, vs, as, hat1, hg⟩
  | ex x M1 => rw [e1] at hg; exact fun cls d H' hx h' => hg cls d σ H' hx h'
  | no => rw [e1] at hg; exact hg
theorem asg_imp {tg : Tg} (q : tS K C W (fun δ M => (e δ M).toS δ fun a M1 => match setTg tg a δ with
    | some δ1 => .nx δ1 M1
    | none => .no) D σ H) : tAsg (tE K C W e) (gT K tg) D σ H := by
  obtain ⟨B, δ, M, vs, as, hat, hg⟩ := q
  try dsimp only at hg
  refine ⟨B, δ, M, vs, as, hat, ?_⟩
  cases e1 : e δ M with
  | ok a M1 =>
    rw [e1] at hg
    intro v H1 hat1
    obtain ⟨F, own, c, hs, hv⟩ := hat1
    cases hv with
    | cons r hv =>
    simp only [R.toS_ok] at hg
    cases e2 : setTg tg a δ with
    | none => rw [e2] at hg; exact hg.elim
    | some δ1 =>
      rw [e2] at hg
      exact set_ok e2 c hs r fun σ' hs' _ _ => hg σ' H1 ⟨F, own, c, hs', hv⟩
  | ex x M1 => rw [e1] at hg; exact fun cls d H' hx h' => hg cls d σ H' hx h'
  | no => rw [e1] at hg; exact hg
theorem drop_imp (q : tS K C W (fun δ M => (e δ M).toS δ fun _ M1 => .nx δ M1) D σ H) : tDrop (tE K C W e) D σ H := by
  obtain ⟨B, δ, M, vs, as, hat, hg⟩ := q
  try dsimp only at hg
  refine ⟨B, δ, M, vs, as, hat, ?_⟩
  cases e1 : e δ M with
  | ok a M1 => rw [e1] at hg; exact fun v H1 hat1 => hg σ H1 hat1.pop
  | ex x M1 => rw [e1] at hg; exact fun cls d H' hx h' => hg cls d σ H' hx h'
  | no => rw [e1] at hg; exact hg
theorem ret_imp (q : tS K C W (fun δ M => (e δ M).toS δ fun a M1 => .rt a M1) D σ H) : tRet (tE K C W e) D σ H := by
  obtain ⟨B, δ, M, vs, as, hat, hg⟩ := q
  try dsimp only at hg
  refine ⟨B, δ, M, vs, as, hat, ?_⟩
  cases e1 : e δ M with
  | ok a M1 => rw [e1] at hg; exact fun v H1 hat1 => hg v σ H1 δ hat1
  | ex x M1 => rw [e1] at hg; exact fun cls d H' hx h' => hg cls d σ H' hx h'
  | no => rw [e1] at hg; exact hg
theorem at_non {B : Base} {δ : List A} {M : List O} {vs : List V} {as : List A} (h : At K B σ H δ M vs as) : At K B σ H δ M (.non :: vs) (.d .non :: as) := at_sc h
theorem retN_imp (q : tS K C W (fun _ M => .rt (.d .non) M) D σ H) : tRetN D σ H := by
  obtain ⟨B, δ, M, vs, as, hat, hg⟩ := q
  try dsimp only at hg
  exact hg _ σ H δ (at_sc hat)
theorem while_imp {n : Nat} (q : tS K C W (fun δ M => whlR t f n δ M) D σ H) : tWhile (tT K C W t) (tS K C W f) D σ H := by
  obtain ⟨B, δ, M, vs, as, hat, hg⟩ := q
  try dsimp only at hg
  refine ⟨fun m σ H => ∃ δ M, At K B σ H δ M vs as ∧ GS K C W B vs as D (whlR t f m δ M), ⟨n, δ, M, hat, hg⟩, fun m σ H hW => ?_⟩
  obtain ⟨δ, M, hat, hg⟩ := hW
  cases m with
  | zero => exact hg.elim
  | succ m =>
    refine ⟨B, δ, M, vs, as, hat, ?_⟩
    unfold whlR at hg
    cases e1 : t δ M with
    | no => rw [e1] at hg; exact hg
    | ex x M1 => rw [e1] at hg; exact fun cls d H' hx h' => hg cls d σ H' hx h'
    | ok k M1 =>
      rw [e1] at hg
      intro H1 hat1
      cases k with
      | false => exact iteF (hg σ H1 hat1)
      | true =>
        refine iteT ⟨fun σ' H' => ∃ δ M, At K B σ' H' δ M vs as ∧ GS K C W B vs as D (whlR t f m δ M), fun σ' H' h => ⟨m, Nat.lt_succ_self _, h⟩, ?_⟩
        refine ⟨B, δ, M1, vs, as, hat1, ?_⟩
        simp only [R.toS_ok, if_true] at hg
        cases e2 : f δ M1 with
        | nx δ2 M2 => rw [e2] at hg; exact fun σ2 H2 hat2 => ⟨δ2, M2, hat2, hg⟩
        | ct δ2 M2 => rw [e2] at hg; exact fun σ2 H2 hat2 => ⟨δ2, M2, hat2, hg⟩
        | bk δ2 M2 => rw [e2] at hg; exact hg
        | rt a M2 => rw [e2] at hg; exact hg
        | ex x δ2 M2 => rw [e2] at hg; exact hg
        | no => rw [e2] at hg; exact hg
theorem for_imp {tg : Tg} {k : IK} {fs : List A → List O → R (List A)} (q : tS K C W (fun δ M => (fs δ M).toS δ fun as M1 => match items k as M1 with
    | some (xs, M2) => forR tg f xs δ M2
    | none => .no) D σ H) : tFor (wI K C W k fs) (gT K tg) (tS K C W f) D σ H := by
  obtain ⟨B, δ, M, vs, as, hat, hg⟩ := q
  try dsimp only at hg
  refine ⟨B, δ, M, vs, as, hat, ?_⟩
  cases e1 : fs δ M with
  | no => rw [e1] at hg; exact hg
  | ex x M1 => rw [e1] at hg; exact fun cls d H' hx h' => hg cls d σ H' hx h'
  | ok bs M1 =>
    rw [e1] at hg
    simp only [R.toS_ok] at hg
    show (match items k bs M1 with
      | some (xs, M2) => _
      | none => False)
    cases e2 : items k bs M1 with
    | none => rw [e2] at hg; exact hg
    | some p =>
      obtain ⟨xs, M2⟩ := p
      rw [e2] at hg
      simp only at hg ⊢
      intro J H1 sv sa hat1 hit
      refine ⟨fun i m σ H => m + i = xs.length ∧ ∃ δi Mi, At K B σ H δi Mi (sv :: vs) (sa :: as) ∧ GS K C W B vs as D (forR tg f (xs.drop i) δi Mi), ⟨xs.length, rfl, δ, M2, hat1, by simpa using hg⟩, fun i m σ H hW => ?_⟩
      obtain ⟨hm, δi, Mi, hat, hf⟩ := hW
      by_cases hi : i < xs.length
      · right
        obtain ⟨F, own, c, hs, hv⟩ := hat
        cases hv with
        | cons rS hv =>
        have ha : xs[i]? = some xs[i] := List.getElem?_eq_getElem hi
        obtain ⟨hgo, hyl⟩ := (hit B i F own H Mi c rS).2 _ ha
        refine ⟨hgo, fun σ' H' => (m - 1) + (i + 1) = xs.length ∧ ∃ δi Mi, At K B σ' H' δi Mi (sv :: vs) (sa :: as) ∧ GS K C W B vs as D (forR tg f (xs.drop (i + 1)) δi Mi), fun σ' H' hN => ⟨m - 1, by omega, hN⟩, fun x H' hy => ?_⟩
        obtain ⟨F', c', s', rx⟩ := hyl x H' hy
        rw [List.drop_eq_getElem_cons hi] at hf
        unfold forR at hf
        split at hf
        · exact hf.elim
        · rename_i δ1 hδ
          refine set_ok hδ c' (relS_up hs s') rx fun σ2 hs2 _ _ => ?_
          refine ⟨B, δ1, Mi, sv :: vs, sa :: as, ⟨F', own, c', hs2, .cons (rS.upF s') (relA_up hv s')⟩, ?_⟩
          cases e4 : f δ1 Mi with
          | nx δ2 M3 => rw [e4] at hf; exact fun σ3 H3 hat3 => ⟨by omega, _, _, hat3, hf⟩
          | ct δ2 M3 => rw [e4] at hf; exact fun σ3 H3 hat3 => ⟨by omega, _, _, hat3, hf⟩
          | bk δ2 M3 => rw [e4] at hf; exact fun σ3 H3 hat3 => hf _ _ hat3.pop
          | rt a M3 => rw [e4] at hf; exact fun v σ3 H3 δ3 hat3 => hf v σ3 H3 δ3 hat3.mid
          | ex x δ2 M3 => rw [e4] at hf; exact fun cls d σ3 H3 hx hat3 => hf cls d σ3 H3 hx hat3.pop
          | no => rw [e4] at hf; exact hf
      · left
        have hi2 : xs.drop i = [] := List.drop_eq_nil_of_le (by omega)
        rw [hi2] at hf
        have hat' := hat
        obtain ⟨F, own, c, hs, hv⟩ := hat
        cases hv with
        | cons rS hv => exact ⟨(hit B i F own H Mi c rS).1 (by omega), hf _ _ hat'.pop⟩
theorem aug_imp {i : Nat} {o : Bin} {fo : Int → Int → Int} (ho : (o = .add ∧ fo = fun i j => i + j) ∨ (o = .sub ∧ fo = fun i j => i - j)) (q : tS K C W (augF i o e) D σ H) : tAug i (tE K C W e) (ipI fo) D σ H := by
  obtain ⟨B, δ, M, vs, as, hat, hg⟩ := q
  try dsimp only at hg
  unfold augF at hg
  split at hg
  · rename_i x hx
    obtain ⟨F, own, c, hs, hv⟩ := id hat
    obtain ⟨ov, ho', r⟩ := hs.get hx
    rcases r with r | ⟨v, rfl, r⟩
    · cases r
    · cases int_of r
      refine ⟨_, ho', B, δ, M, vs, as, hat, ?_⟩
      cases e1 : e δ M with
      | no => rw [e1] at hg; exact hg
      | ex z M1 => rw [e1] at hg; exact fun cls d H' hx h' => hg cls d σ H' hx h'
      | ok b M1 =>
        rw [e1] at hg
        simp only [R.toS_ok] at hg
        intro w H1 hat1
        obtain ⟨F1, own1, c1, hs1, hv1⟩ := hat1
        cases hv1 with
        | cons r1 hv1 =>
        split at hg
        · rename_i y
          cases int_of r1
          refine ⟨_, _, rfl, rfl, ?_⟩
          rcases ho with ⟨rfl, rfl⟩ | ⟨rfl, rfl⟩
          · exact hg _ _ ⟨F1, own1, c1, hs1.set _ (.inr ⟨_, rfl, .int _⟩), hv1⟩
          · exact hg _ _ ⟨F1, own1, c1, hs1.set _ (.inr ⟨_, rfl, .int _⟩), hv1⟩
        · exact hg.elim
  · exact hg.elim
theorem try_imp {c : Str} {sub : Str → Str → Bool} (hsub : ∀ i, PySem.W.exmOne K (.ref (C i)) (.ref (C c)) = some (sub i c)) (q : tS K C W (fun δ M => match f δ M with
    | .ex x δ1 M1 => if sub x.c c then (g δ1 M1).noX else .ex x δ1 M1
    | r => r) D σ H) : tS K C (wOnly K (.ref (C c)) (fun _ _ _ => tS K C W0 g) W D) f D σ H := by
  obtain ⟨B, δ, M, vs, as, hat, hg⟩ := q
  try dsimp only at hg
  refine ⟨B, δ, M, vs, as, hat, ?_⟩
  cases e1 : f δ M with
  | nx δ1 M1 => rw [e1] at hg; exact hg
  | rt a M1 => rw [e1] at hg; exact hg
  | bk δ1 M1 => rw [e1] at hg; exact hg
  | ct δ1 M1 => rw [e1] at hg; exact hg
  | no => rw [e1] at hg; exact hg
  | ex x δ1 M1 =>
    rw [e1] at hg
    simp only at hg
    intro cls d σ1 H1 hx hat1
    have hx' := hx
    obtain ⟨rfl, _⟩ := hx'
    refine ⟨sub x.c c, hsub _, fun hb a ha => ?_, fun hb => ?_⟩
    · rw [hb, if_pos rfl] at hg
      refine ⟨B, δ1, M1, vs, as, hat1, ?_⟩
      cases e2 : g δ1 M1 with
      | nx δ2 M2 => rw [e2] at hg; exact hg
      | rt a M2 => rw [e2] at hg; exact hg
      | bk δ2 M2 => rw [e2] at hg; exact hg
      | ct δ2 M2 => rw [e2] at hg; exact hg
      | no => rw [e2] at hg; exact hg
      | ex y δ2 M2 => rw [e2] at hg; exact hg.elim
    · rw [hb] at hg
      exact hg _ _ _ _ hx hat1
end
abbrev PSf (X : Cx) (C : Str → Addr) (W : WX) (s : Stmt) (f : List A → List O → RS) : Prop := PS X s (tS X.G C W f)
abbrev PSsf (X : Cx) (C : Str → Addr) (W : WX) (s : List Stmt) (f : List A → List O → RS) : Prop := PSs X s (tS X.G C W f)
theorem pss_imp {X : Cx} {e : List Stmt} {t t' : TS} (h : PSs X e t) (hi : ∀ D σ H, t' D σ H → t D σ H) : PSs X e t' := ⟨fun pins s σ H D I q => h.run pins s σ H D I (hi D σ H q)⟩
section
variable {X : Cx} {C : Str → Addr} {W : WX} {pos : Pos} {tg e iter c : Expr} {f : List A → List O → R A} {fs : List A → List O → R (List A)} {t : List A → List O → R Bool} {st : Stmt} {rest a b : List Stmt} {g h : List A → List O → RS}
theorem s_nil : PSsf X C W [] (fun δ M => .nx δ M) := pss_imp pss_nil fun D σ H ⟨B, δ, M, vs, as, hat, hg⟩ => hg σ H hat
theorem s_cons (h1 : PSf X C W st g) (h2 : PSsf X C W rest h) : PSsf X C W (st :: rest) (fun δ M => (g δ M).andThen h) := pss_imp (pss_cons h1 h2) fun D σ H q => seq_imp q
theorem s_pass : PSf X C W (.Pass pos) (fun δ M => .nx δ M) := ps_imp ps_pass fun D σ H ⟨B, δ, M, vs, as, hat, hg⟩ => hg σ H hat
theorem s_doc {x : Str} {j : Nat} {pos' : Pos} : PSf X C W (.Expr (.Constant (.str x) j pos) pos') (fun δ M => .nx δ M) := ps_imp ps_doc fun D σ H ⟨B, δ, M, vs, as, hat, hg⟩ => hg σ H hat
theorem s_brk : PSf X C W (.Break pos) (fun δ M => .bk δ M) := ps_imp ps_break fun D σ H ⟨B, δ, M, vs, as, hat, hg⟩ => hg σ H hat
theorem s_cnt : PSf X C W (.Continue pos) (fun δ M => .ct δ M) := ps_imp ps_continue fun D σ H ⟨B, δ, M, vs, as, hat, hg⟩ => hg σ H hat
theorem s_nev : PSf X C W st (fun _ _ => .no) := ps_imp ps_never fun D σ H ⟨B, δ, M, vs, as, hat, hg⟩ => hg.elim
theorem s_expr (he : PEf X C W e f) (hs : swapsWith e none pos.line X.env = pure false) : PSf X C W (.Expr e pos) (fun δ M => (f δ M).toS δ fun _ M1 => .nx δ M1) := ps_imp (ps_expr he hs) fun D σ H q => drop_imp q
theorem s_ret (he : PEf X C W e f) : PSf X C W (.Return (some e) pos) (fun δ M => (f δ M).toS δ fun a M1 => .rt a M1) := ps_imp (ps_ret he) fun D σ H q => ret_imp q
theorem s_retN : PSf X C W (.Return none pos) (fun _ M => .rt (.d .non) M) := ps_imp ps_retN fun D σ H q => retN_imp q
theorem s_if (hc : PTf X C W c t) (ha : PSsf X C W a g) (hb : PSsf X C W b h) : PSf X C W (.If c a b pos) (fun δ M => (t δ M).toS δ fun k M1 => if k then g δ M1 else h δ M1) := ps_imp (ps_if hc ha hb) fun D σ H q => if_imp q
theorem s_whl {n : Nat} (hp : PassesOwn (model X.prog X.w) X.A X.env X.xe) (hc : PTf X C W c t) (hb : PSsf X C W b g) : PSf X C W (.While c b [] pos) (whlR t g n) := ps_imp (ps_while hp hc hb) fun D σ H q => while_imp q
theorem s_for {tgt : Tg} {k : IK} (hp : PassesOwn (model X.prog X.w) X.A X.env X.xe) (hc : X.calm = true) (hi : PI X tg iter (wI X.G C W k fs)) (hg : PG X tg (gT X.G tgt)) (hb : PSsf X C W b g) (hs : ∀ x, foldedSetIterable iter X.env x = pure x) :
    PSf X C W (.For tg iter b [] pos) (fun δ M => (fs δ M).toS δ fun as M1 => match items k as M1 with
    | some (xs, M2) => forR tgt g xs δ M2
    | none => .no) := ps_imp (ps_for hp hc hi hg hb hs) fun D σ H q => for_imp q
theorem s_asg {tgt : Tg} (he : PEf X C W e f) (hg : PG X tg (gT X.G tgt)) (hs : swapsWithSole [tg] e pos.line X.env = pure false) (hw : swappedStores [tg] e X.env = pure none)
    (h1 : (assignEach [tg] X.env).map (·.2) = [assign tg X.env]) : PSf X C W (.Assign [tg] e pos) (fun δ M => (f δ M).toS δ fun a M1 => match setTg tgt a δ with
    | some δ1 => .nx δ1 M1
    | none => .no) := ps_imp (ps_asg he hg hs hw h1) fun D σ H q => asg_imp q
theorem s_set {i : Nat} {x : Str} {pos' : Pos} (hN : X.N.Nodup) (hi : X.N[i]? = some x) (hx : X.env.scope.names.lookup x = some .local) (he : PEf X C W e f) (hs : swapsWith e (some (.Name x pos')) pos.line X.env = pure false) :
    PSf X C W (.Assign [.Name x pos'] e pos) (fun δ M => (f δ M).toS δ fun a M1 => match setTg (.one i) a δ with
    | some δ1 => .nx δ1 M1
    | none => .no) := ps_imp (ps_set hN hi (.inl hx) he hs (.inr hx)) fun D σ H q => asg_imp (tg := .one i) q
theorem s_setL {i : Nat} {x : Str} {pos' : Pos} (hN : X.N.Nodup) (hi : X.N[i]? = some x) (hx : Loc X.env.scope x) (hf : X.fn x = true ∨ X.env.scope.names.lookup x = some .local) (he : PEf X C W e f) (hs : swapsWith e (some (.Name x pos')) pos.line X.env = pure false) :
    PSf X C W (.Assign [.Name x pos'] e pos) (fun δ M => (f δ M).toS δ fun a M1 => match setTg (.one i) a δ with
    | some δ1 => .nx δ1 M1
    | none => .no) := ps_imp (ps_set hN hi hx he hs hf) fun D σ H q => asg_imp (tg := .one i) q
theorem s_aug {i : Nat} {x : Str} {pos' : Pos} {o : Bin} (ho : o = .add ∨ o = .sub) (hN : X.N.Nodup) (hi : X.N[i]? = some x) (hx : Loc X.env.scope x) (hf : X.fn x = true ∨ X.env.scope.names.lookup x = some .local) (he : PEf X C W e f) : PSf X C W (.AugAssign (.Name x pos') (binOp o) e pos) (augF i o f) := by
  rcases ho with rfl | rfl
  · exact ps_imp (ps_aug hN hi hx he ip_add hf) fun D σ H q => aug_imp (.inl ⟨rfl, rfl⟩) q
  · exact ps_imp (ps_aug hN hi hx he ip_sub hf) fun D σ H q => aug_imp (.inr ⟨rfl, rfl⟩) q
theorem s_raise {n : Str} (hc : X.calm = true) (tk : Takes X W) (he : PMk X e (fun _ H Q => Q (.ref (C n)) none H)) : PSf X C W (.Raise (some e) none pos) (fun δ M => .ex ⟨n, []⟩ δ M) := by
  refine ps_imp (ps_raise hc tk he) fun D σ H q => ?_
  obtain ⟨B, δ, M, vs, as, hat, hg⟩ := q
  try dsimp only at hg
  exact hg _ _ σ H ⟨rfl, .inl ⟨rfl, rfl⟩⟩ hat
theorem s_try {x : Str} {np pos' : Pos} {n : Str} {b₀ : Stmt} {sub : Str → Str → Bool} (hsub : ∀ i, PySem.W.exmOne X.G (.ref (C i)) (.ref (C n)) = some (sub i n)) (hs : X.stack = X.env :: X.outer) (hf : X.env.frame = some X.env.locals) (hc : Names X x (.ref (C n))) (tk : Takes X W)
    (hb : ∀ (W : WX) (pn : List (Addr × Obj)) (xe : Value → Shared → Prop), Takes (X.tr pn xe) W → PassesOwn (model X.prog X.w) X.A X.env xe → PSsf (X.tr pn xe) C W a g)
    (hsu : ∀ (ad : Addr) (pn : List (Addr × Obj)), PSsf (X.suite ad pn) C W0 (b₀ :: b) h) :
    PSf X C W (.Try a [.ExceptHandler (some (.Name x np)) none (b₀ :: b) pos'] [] [] pos) (fun δ M => match g δ M with
    | .ex x δ1 M1 => if sub x.c n then (h δ1 M1).noX else .ex x δ1 M1
    | r => r) := ps_imp (ps_try_only (tb := fun W2 => tS X.G C W2 g) (ts := fun _ _ _ => tS X.G C W0 h) hs hf hc tk hb fun a oe cls d pn _ _ => hsu a _) fun D σ H q => try_imp hsub q
/-- x = [..] on one line -/
theorem s_setLc {i : Nat} {y : Str} {py : Pos} {elt tgE iter : Expr} {ifs : List Expr} {scope : Scope} {own : List (Str × Nat)} {pos spos : Pos} {tgt : Tg} {k : IK} {fs : List A → List O → R (List A)} {ts : List A → List O → R Bool} {el : List A → List O → R A} (hc : X.calm = true) (hN : X.N.Nodup) (hy : X.N[i]? = some y) (hyl : X.env.scope.names.lookup y = some .local)
    (hsw : swapsWith (.ListComp elt [⟨tgE, iter, ifs, 0⟩] scope pos) (some (.Name y py)) spos.line X.env = pure true) (hi : PI X tgE iter (wI X.G C W k fs)) (ok : BlkOk X.N X.env.scope scope own)
    (hg : ∀ (s : Shared) (H : Hp) (Ca : Addr) (cl : List (Str × Addr)) (fp : List Addr), PG (X.blk s H scope (compEnvC scope cl Ca X.env) fp) tgE (gT X.G tgt)) (ht : ∀ (s : Shared) (H : Hp) (Ca : Addr) (cl : List (Str × Addr)) (fp : List Addr), PTs (X.blk s H scope (compEnvC scope cl Ca X.env) fp) ifs (tT X.G C W0 ts))
    (he : ∀ (s : Shared) (H : Hp) (Ca : Addr) (cl : List (Str × Addr)) (fp : List Addr), PE (X.blk s H scope (compEnvC scope cl Ca X.env) fp) elt (tE X.G C W0 el)) (hs : ∀ x, foldedSetIterable iter X.env x = pure x) (hin : ∀ j ∈ tgt.all, j ∈ own.map (·.2)) :
    PSf X C W (.Assign [.Name y py] (.ListComp elt [⟨tgE, iter, ifs, 0⟩] scope pos) spos) (fun δ M => (compR tgt k (own.map (·.2)) fs ts el δ M).toS δ fun a M1 => match setTg (.one i) a δ with
    | some δ1 => .nx δ1 M1
    | none => .no) := by
  refine ps_imp (ps_setLc hc hN hy hyl hsw hi ok hg ht he hs) fun D σ H q => ?_
  have q := asg_imp (tg := .one i) q
  exact lc_imp hin q
end
/-- x = {..}, x = {k: v ..} on one line -/
theorem s_setSc {X : Cx} {C : Str → Addr} {W : WX} {i : Nat} {y : Str} {py : Pos} {elt tgE iter : Expr} {ifs : List Expr} {scope : Scope} {own : List (Str × Nat)} {pos spos : Pos} {tgt : Tg} {k : IK} {fs : List A → List O → R (List A)} {ts : List A → List O → R Bool} {el : List A → List O → R A} (hc : X.calm = true) (hN : X.N.Nodup) (hy : X.N[i]? = some y) (hyl : X.env.scope.names.lookup y = some .local)
    (hsw : swapsWith (.SetComp elt [⟨tgE, iter, ifs, 0⟩] scope pos) (some (.Name y py)) spos.line X.env = pure true) (hi : PI X tgE iter (wI X.G C W k fs)) (ok : BlkOk X.N X.env.scope scope own)
    (hg : ∀ (s : Shared) (H : Hp) (Ca : Addr) (cl : List (Str × Addr)) (fp : List Addr), PG (X.blk s H scope (compEnvC scope cl Ca X.env) fp) tgE (gT X.G tgt)) (ht : ∀ (s : Shared) (H : Hp) (Ca : Addr) (cl : List (Str × Addr)) (fp : List Addr), PTs (X.blk s H scope (compEnvC scope cl Ca X.env) fp) ifs (tT X.G C W0 ts))
    (he : ∀ (s : Shared) (H : Hp) (Ca : Addr) (cl : List (Str × Addr)) (fp : List Addr), PE (X.blk s H scope (compEnvC scope cl Ca X.env) fp) elt (tE X.G C W0 el)) (hs : ∀ x, foldedSetIterable iter X.env x = pure x) (hin : ∀ j ∈ tgt.all, j ∈ own.map (·.2)) :
    PSf X C W (.Assign [.Name y py] (.SetComp elt [⟨tgE, iter, ifs, 0⟩] scope pos) spos) (fun δ M => (setR tgt k (own.map (·.2)) fs ts el δ M).toS δ fun a M1 => match setTg (.one i) a δ with
    | some δ1 => .nx δ1 M1
    | none => .no) := by
  refine ps_imp (Sup.ps_setSc hy hyl hsw hc hN hi ok hg ht he hs) fun D σ H q => ?_
  have q := asg_imp (tg := .one i) q
  exact set_imp hin q
theorem s_setDc {X : Cx} {C : Str → Addr} {W : WX} {i : Nat} {y : Str} {py : Pos} {kyE vlE tgE iter : Expr} {ifs : List Expr} {scope : Scope} {own : List (Str × Nat)} {pos spos : Pos} {tgt : Tg} {k : IK} {fs : List A → List O → R (List A)} {ts : List A → List O → R Bool} {ky vl : List A → List O → R A} (hc : X.calm = true) (hN : X.N.Nodup) (hy : X.N[i]? = some y) (hyl : X.env.scope.names.lookup y = some .local)
    (hsw : swapsWith (.DictComp kyE vlE [⟨tgE, iter, ifs, 0⟩] scope pos) (some (.Name y py)) spos.line X.env = pure true) (hi : PI X tgE iter (wI X.G C W k fs)) (ok : BlkOk X.N X.env.scope scope own)
    (hg : ∀ (s : Shared) (H : Hp) (Ca : Addr) (cl : List (Str × Addr)) (fp : List Addr), PG (X.blk s H scope (compEnvC scope cl Ca X.env) fp) tgE (gT X.G tgt)) (ht : ∀ (s : Shared) (H : Hp) (Ca : Addr) (cl : List (Str × Addr)) (fp : List Addr), PTs (X.blk s H scope (compEnvC scope cl Ca X.env) fp) ifs (tT X.G C W0 ts))
    (hk : ∀ (s : Shared) (H : Hp) (Ca : Addr) (cl : List (Str × Addr)) (fp : List Addr), PE (X.blk s H scope (compEnvC scope cl Ca X.env) fp) kyE (tE X.G C W0 ky)) (he : ∀ (s : Shared) (H : Hp) (Ca : Addr) (cl : List (Str × Addr)) (fp : List Addr), PE (X.blk s H scope (compEnvC scope cl Ca X.env) fp) vlE (tE X.G C W0 vl))
    (hs : ∀ x, foldedSetIterable iter X.env x = pure x) (hin : ∀ j ∈ tgt.all, j ∈ own.map (·.2)) :
    PSf X C W (.Assign [.Name y py] (.DictComp kyE vlE [⟨tgE, iter, ifs, 0⟩] scope pos) spos) (fun δ M => (dctR tgt k (own.map (·.2)) fs ts ky vl δ M).toS δ fun a M1 => match setTg (.one i) a δ with
    | some δ1 => .nx δ1 M1
    | none => .no) := by
  refine ps_imp (Sup.ps_setDc hy hyl hsw hc hN hi ok hg ht hk he hs) fun D σ H q => ?_
  have q := asg_imp (tg := .one i) q
  exact dct_imp hin q

/-! ### raise C(e), C's own __init__ keeps e -/
theorem At.aside {K : Fg} {B : Base} {σ : L2.St} {H : Hp} {δ : List A} {M : List O} {vs : List V} {as : List A} {v : V} {a : A} {p : Addr} {o : HO} (h : At K B σ H δ M (v :: vs) (a :: as)) (hp : H p = none) : At K B σ (upd H p o) δ M vs as := by
  obtain ⟨F, own, c, hs, hv⟩ := h
  cases hv with
  | cons r t =>
    obtain ⟨c', s'⟩ := c.laid (o := o) hp
    exact ⟨_, own, c', relS_up hs s', relA_up t s'⟩
theorem s_raiseF {X : Cx} {C : Str → Addr} {W : WX} {pos : Pos} {e : Expr} {n f : Str} {ef : List A → List O → R A} (hc : X.calm = true) (tk : Takes X W) (he : PMk X e (Sup.tMk f (C n) (tA X.G C W fun δ M => (ef δ M).bind fun x M1 => .ok [x] M1))) :
    PSf X C W (.Raise (some e) none pos) (fun δ M => (ef δ M).toS δ fun a M1 => (match a with
    | .d (.str z) => .ex ⟨n, [(f, z)]⟩ δ M1
    | _ => .no)) := by
  refine ps_imp (ps_raise hc tk he) fun D σ H q => ?_
  obtain ⟨B, δ, M, vs, as, hat, hg⟩ := q
  try dsimp only at hg
  refine ⟨B, δ, M, vs, as, hat, ?_⟩
  show GA _ _ _ _ _ _ _ _ _ ((ef δ M).bind fun x M1 => R.ok [x] M1)
  cases e1 : ef δ M with
  | no => rw [e1] at hg; exact hg
  | ex x M1 => rw [e1] at hg; exact fun cls d H' hx h' => hg cls d σ H' hx h'
  | ok a M1 =>
    rw [e1] at hg
    simp only [R.toS_ok] at hg
    rw [R.bind_ok]
    intro ws H1 hl hat1
    split at hg
    · rename_i z
      match ws, hl with
      | [v], _ =>
        have hv : v = .str z := by
          obtain ⟨F, own, c, hs, hv⟩ := hat1
          cases hv with
          | cons r t => exact str_of r
        refine ⟨v, rfl, fun d hd => hg _ _ σ _ ⟨rfl, .inr ⟨d, rfl, ?_⟩⟩ (At.aside (a := .d (.str z)) (v := v) hat1 hd)⟩
        rw [upd_same, hv]; rfl
    · exact hg.elim

/-! ### o[i] = v -/
theorem ixN_of {n : Nat} {i : Int} {k : Nat} (h : seqIndex? i n = some k) : ixN n i = some k := by
  unfold seqIndex? at h
  unfold ixN
  simp only [Bool.and_eq_true, decide_eq_true_eq] at h
  by_cases h0 : i < 0
  · rw [if_pos h0] at h
    rw [if_neg (by omega)]
    split at h
    · rw [if_pos (by omega)]; exact h
    · cases h
  · rw [if_neg h0] at h
    rw [if_pos (by omega)]
    split at h
    · rw [if_pos (by omega)]; exact h
    · cases h
def rPut (K : Fg) : TSet := fun o i v H Q => ∃ (B : Base) (σ' : L2.St) (δ : List A) (M M' : List O) (vs : List V) (as : List A) (a b c : A), At K B σ' H δ M (i :: o :: v :: vs) (b :: a :: c :: as) ∧ putI M a b c = some M' ∧ ∀ H', At K B σ' H' δ M' vs as → Q H'
theorem set_put {X : Cx} (hu : X.A.units + 1 < cLine) : PSet X (rPut X.G) := by
  intro pins s σ H o i v ov iv u Q I ro ri rv h
  obtain ⟨B, σ', δ, M, M', vs, as, a, b, c, hat, hp, hq⟩ := h
  obtain ⟨F, own, cc, hs, hv⟩ := hat
  cases hv with
  | cons r1 hv =>
  cases hv with
  | cons r2 hv =>
  cases hv with
  | cons r3 hv =>
  unfold putI at hp
  split at hp
  · rename_i n
    obtain ⟨p, h1, rfl⟩ := r2
    split at hp
    · rename_i xs hM
      obtain ⟨ws, hH, hal⟩ := cc.obj n p _ h1 hM
      split at hp
      · rename_i j
        split at hp
        · rename_i hj
          split at hp
          · rename_i k hk
            cases hp
            cases int_of r1
            refine set_list pins s σ H _ _ v ov iv u Q I ro ri rv ⟨p, ws, j, k, rfl, rfl, hH, ?_, hq _ ?_⟩
            · rw [hal.length]; exact ixN_of hk
            · have c' := cc.store (o := .lst (ws.set k v)) (u := .lst (xs.set k c)) h1 hM rfl rfl ⟨_, upd_same, hal.set k r3⟩
              exact ⟨F, own, c', hs, hv⟩
          · cases hp
        · cases hp
      · cases hp
    · rename_i kvs hM
      obtain ⟨ws, hH, hal⟩ := cc.obj n p _ h1 hM
      split at hp
      · rename_i k hk
        split at hp
        · rename_i hz
          cases hp
          have ek := keyA_ok hk r1
          subst ek
          refine set_dict hu pins s σ H _ _ v ov iv u Q I ro ri rv ⟨p, _, rfl, .k hH (by rw [hal.length]; exact hz), hq _ ?_⟩
          have c' := cc.store (o := .dK (putK ws k v)) (u := .dct (putA kvs k c)) h1 hM rfl rfl ⟨_, upd_same, putA_al hal r3⟩
          exact ⟨F, own, c', hs, hv⟩
        · cases hp
      · cases hp
    · cases hp
  · cases hp
theorem s_puti {X : Cx} {C : Str → Addr} {W : WX} {pos p2 : Pos} {o i e : Expr} {fo fi fe : List A → List O → R A} (hu : X.A.units + 1 < cLine) (ho : PEf X C W o fo) (hi : PEf X C W i fi) (he : PEf X C W e fe)
    (ha : ∀ v, assign (.Subscript o i p2) X.env v = (do
      let ov ← holding [v] (eval o X.env)
      let iv ← holding [v, ov] (eval i X.env)
      standAt p2
      holding [v, ov, iv] (setItem ov iv v)
      release [v, ov, iv] [])) (hs : swapsWithSole [.Subscript o i p2] e pos.line X.env = pure false) (hw : swappedStores [.Subscript o i p2] e X.env = pure none)
    (h1 : (assignEach [.Subscript o i p2] X.env).map (·.2) = [assign (.Subscript o i p2) X.env]) :
    PSf X C W (.Assign [.Subscript o i p2] e pos) (fun δ M => (fe δ M).toS δ fun v M1 => (fo δ M1).toS δ fun a M2 => (fi δ M2).toS δ fun b M3 => (match putI M3 a b v with
    | some M4 => .nx δ M4
    | none => .no)) := by
  refine ps_imp (ps_asg he (pg_sub ho hi (set_put hu) ha) hs hw h1) fun D σ H q => ?_
  obtain ⟨B, δ, M, vs, as, hat, hg⟩ := q
  try dsimp only at hg
  refine ⟨B, δ, M, vs, as, hat, ?_⟩
  cases e1 : fe δ M with
  | no => rw [e1] at hg; exact hg
  | ex x M1 => rw [e1] at hg; exact fun cls d H' hx h' => hg cls d σ H' hx h'
  | ok c M1 =>
    rw [e1] at hg
    simp only [R.toS_ok] at hg
    intro v H1 hat1
    refine ⟨B, δ, M1, v :: vs, c :: as, hat1, ?_⟩
    cases e2 : fo δ M1 with
    | no => rw [e2] at hg; exact hg
    | ex x M2 => rw [e2] at hg; exact fun cls d H' hx h' => hg cls d σ H' hx h'.pop
    | ok a M2 =>
      rw [e2] at hg
      simp only [R.toS_ok] at hg
      intro x H2 hat2
      refine ⟨B, δ, M2, x :: v :: vs, a :: c :: as, hat2, ?_⟩
      cases e3 : fi δ M2 with
      | no => rw [e3] at hg; exact hg
      | ex x M3 => rw [e3] at hg; exact fun cls d H' hx h' => hg cls d σ H' hx h'.pop.pop
      | ok b M3 =>
        rw [e3] at hg
        simp only [R.toS_ok] at hg
        intro y H3 hat3
        cases e4 : putI M3 a b c with
        | none => rw [e4] at hg; exact hg.elim
        | some M4 =>
          rw [e4] at hg
          exact ⟨B, σ, δ, M3, M4, vs, as, a, b, c, hat3, e4, fun H' h' => hg σ H' h'⟩
end Mini

set_option Elab.async false
set_option linter.all false
set_option maxRecDepth 100000
/-! Mini T: a try with several except clauses, each of them returns. -/
namespace Mini
open PySem PySem.Spec PyProof.Rows L2

/-- what the classes of errors must say; fl: the fields that are read -/
structure XcF (K : Fg) (C : Str → Addr) (sub : Str → Str → Bool) (fl : List Str) : Prop where
  xf : ∀ i, XfC K (C i)
  no : ∀ i, ∀ f ∈ fl, PySem.W.findIn K (.ref (C i)) f = some none
  ex : ∀ i, ExcC K (C i)
  kit : ∀ i c, PySem.W.kitOne K (.ref (C i)) (.ref (C c)) = some (sub i c)
  exm : ∀ i c, PySem.W.exmOne K (.ref (C i)) (.ref (C c)) = some (sub i c)

/-- isinstance(e, c), e the error of the suite, with or without a dict -/
def rIsX (K : PySem.W.Frag) (D a : Addr) (d : Option Addr) : List V → Hp → VK → Prop := fun xs H Q => ∃ (c : V) (cv : Value) (b : Bool), xs = [.ref a, c] ∧ (∀ u, RelV c u → u = cv) ∧ (d = none ∨ ∃ dd fs, d = some dd ∧ H dd = some (.xd fs)) ∧ PySem.W.kitOne K (.ref D) cv = some b ∧ Q (.bl b) H
theorem call_isX {X : Cx} {a D : Addr} {d : Option Addr} {oe : Obj} {pn : List (Addr × Obj)} (C : ExcC X.K D) (hz : Zc (.ref D) d oe) (hf : ∃ vs, oe.data = .fields vs) : CallR (X.suite a ((a, oe) :: pn)) (.builtin "isinstance") (rIsX X.K D a d) := by
  intro pins s σ H xs us Q I r h
  obtain ⟨c, cv, b, rfl, hcv, hdd, e, q⟩ := h
  cases r with
  | cons rx rr =>
    cases rr with
    | cons rt rr =>
      cases rr
      cases rx
      have ec := hcv _ rt
      subst ec
      have hget := (I.pin (a, oe) (List.mem_append.mpr (.inl List.mem_cons_self))).1
      obtain ⟨vs, hv⟩ := hf
      have hcl : (PySem.W.clsIn X.K D).isSome = true := by
        obtain ⟨cd, hc, _⟩ := PySem.W.any_some C.hd
        rw [hc]; rfl
      suffices key : ∃ od, PySem.W.InstAt s.heap a oe D od by
        obtain ⟨od, J⟩ := key
        exact PySem.W.kia_one (PySem.W.kitx_exc hcl C.hg C.hk C.hs C.ha C.hn C.ht C.hm) I.kIn J e (fun z => nomatch z) fun tk => ⟨.bl b, H, I.kept (t' := tk) fun _ _ z => z, rfl, q⟩
      rcases hdd with rfl | ⟨dd, fs, rfl, hH⟩
      · refine ⟨none, ?_⟩
        obtain ⟨oc, od, oda, osl⟩ := oe
        obtain ⟨h1, h2⟩ := hz
        dsimp only at h1 h2 hv
        subst h1 h2 hv
        exact ⟨hget, rfl, rfl, trivial⟩
      · obtain ⟨mA, hns, _⟩ := (I.hok dd _ hH : ObjOk X.prog X.w H s.heap dd (.xd fs))
        obtain ⟨od, ho, _⟩ := lookIn_ns hns
        exact ⟨some od, hget, hz.1, by unfold PySem.W.notCls; rw [hv] <;> rfl, by rw [hz.2]; exact ho⟩

section
variable (K : Fg) (C : Str → Addr) (sub : Str → Str → Bool) (i : Option Nat) (a : Addr) (cls : Value) (d : Option Addr)
def tX (q : XE) : TE := fun σ H Q => ∃ B σ0 δ M vs as x dt, ExR C x cls d H ∧ At K B σ H δ M vs as ∧ (∀ j, i = some j → σ = List.set σ0 j (some (.ref a))) ∧ xev sub x q = some dt ∧
  ∀ v H', At K B σ H' δ M (v :: vs) (.d dt :: as) → ExR C x cls d H' → Q v H'
def tXs (qs : List XE) : TA := fun σ H Q => ∃ B σ0 δ M vs as x ds, ExR C x cls d H ∧ At K B σ H δ M vs as ∧ (∀ j, i = some j → σ = List.set σ0 j (some (.ref a))) ∧ xevs sub x qs = some ds ∧
  ∀ ws H', ws.length = ds.length → At K B σ H' δ M (ws ++ vs) (ds.map .d ++ as) → ExR C x cls d H' → Q ws H'
end
theorem ExR.up {C : Str → Addr} {x : Ex} {cls : Value} {d : Option Addr} {H : Hp} {p : Addr} {o : HO} (h : ExR C x cls d H) (hp : H p = none) : ExR C x cls d (upd H p o) := by
  obtain ⟨h1, h2 | ⟨dd, h2, h3⟩⟩ := h
  · exact ⟨h1, .inl h2⟩
  · exact ⟨h1, .inr ⟨dd, h2, by rw [upd_ne (ne_of_none h3 hp)]; exact h3⟩⟩
theorem lk_map : ∀ {fs : List (Str × Str)} {f z : Str}, fs.lookup f = some z → (fs.map fun p => (p.1, V.str p.2)).lookup f = some (V.str z)
  | [], _, _, h => by cases h
  | (g, y) :: r, f, z, h => by
    simp only [List.lookup, List.map] at h ⊢
    split
    · rename_i e
      rw [e] at h
      cases h; rfl
    · rename_i e
      rw [e] at h
      exact lk_map h
/-- a clause's context -/
abbrev PX (X : Cx) (C : Str → Addr) (sub : Str → Str → Bool) (i : Option Nat) (e : Expr) (q : XE) : Prop := ∀ (a : Addr) (oe : Obj) (cls : Value) (d : Option Addr) (pn : List (Addr × Obj)), Zc cls d oe → (∃ vs, oe.data = .fields vs) → PE (X.suite a ((a, oe) :: pn)) e (tX X.G C sub i a cls d q)
abbrev PXs (X : Cx) (C : Str → Addr) (sub : Str → Str → Bool) (i : Option Nat) (es : List Expr) (qs : List XE) : Prop := ∀ (a : Addr) (oe : Obj) (cls : Value) (d : Option Addr) (pn : List (Addr × Obj)), Zc cls d oe → (∃ vs, oe.data = .fields vs) → PA (X.suite a ((a, oe) :: pn)) es (tXs X.G C sub i a cls d qs)
section
variable {X : Cx} {C : Str → Addr} {sub : Str → Str → Bool} {i : Option Nat} {fl : List Str} {e : Expr} {es : List Expr} {q : XE} {qs : List XE} {pos : Pos}
theorem x_cst {x : D} {v : V} (h : ∀ X : Cx, PE X e (tC v)) (hr : ∀ F, Rep X.G F v x) : PX X C sub i e (.cst x) := by
  intro a oe cls d pn hz hf
  refine pe_imp (h _) fun σ H Q ⟨B, σ0, δ, M, vs, as, y, dt, hx, hat, _, he, hq⟩ => ?_
  cases he
  obtain ⟨F, own, c, hs, hv⟩ := hat
  exact hq _ _ ⟨F, own, c, hs, .cons (hr F) hv⟩ hx
theorem x_var {X : Cx} {j : Nat} {n : Str} {p : Pos} {pn : List (Addr × Obj)} {a : Addr} (hn : X.N[j]? = some n) (hv : Vis X.env.scope n) (hd : (n == ("__debug__" : Str)) = false) (hcd : (n == ("__classdict__" : Str)) = false) : PE (X.suite a pn) (.Name n p) (fun σ H Q => (∃ σ0, σ = List.set σ0 j (some (.ref a))) ∧ Q (.ref a) H) := by
  refine ⟨fun pins s σ H Q I h => (pe_var (X := X.suite a pn) (i := j) hn hv hd hcd).run pins s σ H Q I ?_⟩
  obtain ⟨⟨σ0, e⟩, h⟩ := h
  refine ⟨_, ?_, h⟩
  have hl : σ.length = X.N.length := I.len
  have hj : j < σ0.length := by
    have h1 := (List.getElem?_eq_some_iff.mp hn).1
    rw [e, List.length_set] at hl
    omega
  rw [e, List.getElem?_set_self hj]
theorem x_fld {j : Nat} {n f : Str} {p : Pos} (T : XcF X.G C sub fl) (hfl : f ∈ fl) (hn : X.N[j]? = some n) (hv : Vis X.env.scope n) (hd : (n == ("__debug__" : Str)) = false) (hcd : (n == ("__classdict__" : Str)) = false) : PX X C sub (some j) (.Attribute (.Name n p) f pos) (.fld f) := by
  intro a oe cls d pn hz hf
  refine ⟨fun pins s σ H Q I h => ?_⟩
  obtain ⟨B, σ0, δ, M, vs, as, y, dt, hx, hat, hσ, he, hq⟩ := h
  unfold xev at he
  split at he
  · rename_i z hz2
    cases he
    have hx' := hx
    obtain ⟨hcl, ⟨h1, _⟩ | ⟨dd, h1, h2⟩⟩ := hx'
    · rw [h1] at hz2; cases hz2
    · refine (pe_xf (X := X) (T.xf y.c) (T.no y.c f hfl) hz hf (x_var hn hv hd hcd)).run pins s σ H Q I ?_
      refine ⟨⟨σ0, hσ j rfl⟩, rfl, hcl, dd, _, _, h1, h2, lk_map hz2, hq _ _ ?_ hx⟩
      obtain ⟨F, own, c, hs, hv⟩ := hat
      exact ⟨F, own, c, hs, .cons (.str _) hv⟩
  · cases he
theorem x_nisi {j : Nat} {n c : Str} {p p1 p2 p3 : Pos} (T : XcF X.G C sub fl) (hn : X.N[j]? = some n) (hv : Vis X.env.scope n) (hd : (n == ("__debug__" : Str)) = false) (hcd : (n == ("__classdict__" : Str)) = false)
    (hg : Gl X "isinstance") (hm : X.mg "isinstance" = none) (hb : bootBuiltins "isinstance" = some (.builtin "isinstance")) (gc : Gl X c) (mc : X.mg c = some (.ref (C c))) (dc : (c == ("__debug__" : Str)) = false) :
    PX X C sub (some j) (.UnaryOp .Not (.Call (.Name "isinstance" p) [.Name n p1, .Name c p2] [] p3) pos) (.nisi c) := by
  intro a oe cls d pn hz hf
  refine ⟨fun pins s σ H Q I h => ?_⟩
  obtain ⟨B, σ0, δ, M, vs, as, y, dt, hx, hat, hσ, he, hq⟩ := h
  unfold xev at he
  cases he
  have hx' := hx
  obtain ⟨hcl, hdd⟩ := hx'
  subst hcl
  refine (pe_not (pe_callB (X := X.suite a ((a, oe) :: pn)) (call_isX (T.ex y.c) hz hf) hg hm hb (pa_cons (x_var hn hv hd hcd) (pa_cons (pe_glob (v := .ref (C c)) gc mc rfl dc) pa_nil rfl) rfl) (by decide) (by decide) rfl rfl)).run pins s σ H Q I ?_
  refine ⟨⟨σ0, hσ j rfl⟩, _, _, _, rfl, fun u hu => hu, ?_, T.kit y.c c, _, rfl, hq _ _ ?_ hx⟩
  · rcases hdd with ⟨_, h2⟩ | ⟨dd, h1, h2⟩
    · exact .inl h2
    · exact .inr ⟨dd, _, h1, h2⟩
  · obtain ⟨F, own, c, hs, hv⟩ := hat
    exact ⟨F, own, c, hs, .cons (.bl _) hv⟩
theorem x_nil : PX X C sub i (.List [] pos) .nil := by
  intro a oe cls d pn hz hf
  refine pe_imp (pe_lst pa_nil) fun σ H Q ⟨B, σ0, δ, M, vs, as, y, dt, hx, hat, _, he, hq⟩ => ?_
  unfold xev at he
  cases he
  refine ⟨Nat.zero_le _, fun p hp => hq _ _ ?_ (hx.up hp)⟩
  obtain ⟨F, own, c, hs, hv⟩ := hat
  obtain ⟨c', s'⟩ := c.laid (o := .lst []) hp
  exact ⟨_, own, c', relS_up hs s', .cons (.lst upd_same .nil) (relA_up hv s')⟩
theorem xs_nil : PXs X C sub i [] [] := by
  intro a oe cls d pn hz hf
  refine pa_imp pa_nil fun σ H Q ⟨B, σ0, δ, M, vs, as, y, dt, hx, hat, _, he, hq⟩ => ?_
  unfold xevs at he
  cases he
  exact hq [] H rfl hat hx
theorem xs_cons (h1 : PX X C sub i e q) (h2 : PXs X C sub i es qs) (hs : noStar e = true) : PXs X C sub i (e :: es) (q :: qs) := by
  intro a oe cls d pn hz hf
  refine pa_imp (pa_cons (h1 a oe cls d pn hz hf) (h2 a oe cls d pn hz hf) (star_one hs _ _)) fun σ H Q ⟨B, σ0, δ, M, vs, as, y, dt, hx, hat, hσ, he, hq⟩ => ?_
  unfold xevs at he
  split at he
  · rename_i d1 ds e1 e2
    cases he
    refine ⟨B, σ0, δ, M, vs, as, y, d1, hx, hat, hσ, e1, fun v H1 hat1 hx1 => ⟨B, σ0, δ, M, v :: vs, .d d1 :: as, y, ds, hx1, hat1, hσ, e2, fun ws H2 hl hat2 hx2 => hq (v :: ws) H2 (by simp [hl]) ?_ hx2⟩⟩
    obtain ⟨F, own, c, hs, hv⟩ := hat2
    exact ⟨F, own, c, hs, al_move (by simp [hl]) hv⟩
  · cases he
theorem x_tup {k : Nat} (h : PXs X C sub i es qs) (hn : qs.length ≤ 1000) : PX X C sub i (.Tuple es k pos) (.tup qs) := by
  intro a oe cls d pn hz hf
  refine pe_imp (pe_tup (h a oe cls d pn hz hf)) fun σ H Q ⟨B, σ0, δ, M, vs, as, y, dt, hx, hat, hσ, he, hq⟩ => ?_
  unfold xev at he
  split at he
  · rename_i ds e1
    cases he
    have hl2 : ∀ {qs : List XE} {ds : List D}, xevs sub y qs = some ds → ds.length = qs.length := by
      intro qs
      induction qs with
      | nil => intro ds e; unfold xevs at e; cases e; rfl
      | cons q r ih =>
        intro ds e
        unfold xevs at e
        split at e
        · rename_i d1 d2 e3 e4
          cases e
          rw [List.length_cons, List.length_cons, ih e4]
        · cases e
    refine ⟨B, σ0, δ, M, vs, as, y, ds, hx, hat, hσ, e1, fun ws H1 hl hat1 hx1 => ⟨by rw [hl, hl2 e1, sizeLine_eq]; omega, fun p hp => hq _ _ ?_ (hx1.up hp)⟩⟩
    obtain ⟨F, own, c, hs, hv⟩ := hat1
    obtain ⟨hw, hv⟩ := Al.split (by simp [hl]) hv
    have r : Reps X.G F ws ds := by
      have key : ∀ {ws : List V} {ds : List D}, Al (RelA X.G F own) ws (ds.map .d) → Reps X.G F ws ds := by
        intro ws ds
        induction ds generalizing ws with
        | nil => intro h; cases h; exact .nil
        | cons d r ih => intro h; cases h with | cons h1 h2 => exact .cons h1 (ih h2)
      exact key hw
    exact laidT_at c hs hv r.al hp
  · cases he

/-! ### the clauses -/
inductive XCls (X : Cx) (C : Str → Addr) (sub : Str → Str → Bool) : List ExceptHandler → List (Str × XE) → Prop
  | nil : XCls X C sub [] []
  | bare {x c : Str} {e : Expr} {q : XE} {p pr q' : Pos} {hds : List ExceptHandler} {l : List (Str × XE)} : Names X x (.ref (C c)) → PX X C sub none e q → XCls X C sub hds l → XCls X C sub (.ExceptHandler (some (.Name x p)) none [.Return (some e) pr] q' :: hds) ((c, q) :: l)
  | named {x n c : Str} {j : Nat} {e : Expr} {q : XE} {p pr q' : Pos} {hds : List ExceptHandler} {l : List (Str × XE)} : Names X x (.ref (C c)) → X.N[j]? = some n → X.env.kindOf n = some .local → PX X C sub (some j) e q → XCls X C sub hds l →
      XCls X C sub (.ExceptHandler (some (.Name x p)) (some n) [.Return (some e) pr] q' :: hds) ((c, q) :: l)
theorem goneD_rt (D : Ends) (i : Option Nat) : (Sup.goneD D i).rt = D.rt := by cases i <;> rfl
theorem At.held {K : Fg} {B : Base} {σ : L2.St} {H : Hp} {δ : List A} {M : List O} {vs : List V} {as : List A} {o : Option V} (j : Nat) (h : At K B σ H δ M vs as) : At K B (σ.set j o) H (δ.set j .un) M vs as := by
  obtain ⟨F, own, c, hs, hv⟩ := h
  exact ⟨F, own, c, hs.set j (.inl rfl), hv⟩
theorem xcls_ok (T : XcF X.G C sub fl) {W : WX} : ∀ {hds : List ExceptHandler} {l : List (Str × XE)}, XCls X C sub hds l → ∃ cl : List Sup.Cl, Sup.ClsOk X hds cl ∧
    ∀ D σ H B δ M vs as x cls d, ExR C x cls d H → At X.G B σ H δ M vs as → GS X.G C W B vs as D (clsR sub x δ M l) → Sup.wCl X.K W D cl cls d σ H := by
  intro hds l h
  induction h with
  | nil => exact ⟨[], .nil, fun D σ H B δ M vs as x cls d hx hat hg => hg cls d σ H hx hat⟩
  | @bare x c e q p pr q' hds l hn he _ ih =>
    obtain ⟨cl, h1, h2⟩ := ih
    refine ⟨(.ref (C c), none, fun a cls d => tRet (tX X.G C sub none a cls d q)) :: cl, .bare hn (fun a oe cls d pn hz hf => pss_one (ps_ret (he a oe cls d pn hz hf))) h1, fun D σ H B δ M vs as y cls d hx hat hg => ?_⟩
    have hx' := hx
    obtain ⟨rfl, _⟩ := hx'
    unfold clsR at hg
    refine ⟨sub y.c c, T.exm _ _, fun hb a ha => ?_, fun hb => ?_⟩
    · rw [if_pos hb] at hg
      split at hg
      · rename_i dt hdt
        exact ⟨B, σ, δ, M, vs, as, y, dt, hx, hat, fun j z => (nomatch z), hdt, fun v H' h' _ => hg v σ H' δ h'⟩
      · exact hg.elim
    · rw [if_neg (by rw [hb]; simp)] at hg
      exact h2 D σ H B δ M vs as y _ d hx hat hg
  | @named x n c j e q p pr q' hds l hn hj hk he _ ih =>
    obtain ⟨cl, h1, h2⟩ := ih
    refine ⟨(.ref (C c), some j, fun a cls d => tRet (tX X.G C sub (some j) a cls d q)) :: cl, .named hn hj hk (fun a oe cls d pn hz hf => pss_one (ps_ret (he a oe cls d pn hz hf))) h1, fun D σ H B δ M vs as y cls d hx hat hg => ?_⟩
    have hx' := hx
    obtain ⟨rfl, _⟩ := hx'
    unfold clsR at hg
    refine ⟨sub y.c c, T.exm _ _, fun hb a ha => ?_, fun hb => ?_⟩
    · rw [if_pos hb] at hg
      split at hg
      · rename_i dt hdt
        exact ⟨B, σ, δ.set j .un, M, vs, as, y, dt, hx, hat.held j, fun j' z => (by cases z; rfl), hdt, fun v H' h' _ => hg v _ H' _ h'⟩
      · exact hg.elim
    · rw [if_neg (by rw [hb]; simp)] at hg
      exact h2 D σ H B δ M vs as y _ d hx hat hg
end
theorem s_tryM {X : Cx} {C : Str → Addr} {W : WX} {sub : Str → Str → Bool} {fl : List Str} {a : List Stmt} {h1 : ExceptHandler} {hds : List ExceptHandler} {l : List (Str × XE)} {pos : Pos} {g : List A → List O → RS} (T : XcF X.G C sub fl) (hs : X.stack = X.env :: X.outer) (hf : X.env.frame = some X.env.locals) (hN : X.N.Nodup) (tk : Takes X W)
    (hb : ∀ (W : WX) (pn : List (Addr × Obj)) (xe : Value → Shared → Prop), Takes (X.tr pn xe) W → PassesOwn (model X.prog X.w) X.A X.env xe → PSsf (X.tr pn xe) C W a g) (hc : XCls X C sub (h1 :: hds) l) :
    PSf X C W (.Try a (h1 :: hds) [] [] pos) (fun δ M => match g δ M with
    | .ex x δ1 M1 => clsR sub x δ1 M1 l
    | r => r) := by
  obtain ⟨cl, hcl, himp⟩ := xcls_ok T (W := W) hc
  refine ps_imp (Sup.ps_clauses (tb := fun W2 => tS X.G C W2 g) hs hf hN tk hb hcl) fun D σ H q => ?_
  obtain ⟨B, δ, M, vs, as, hat, hg⟩ := q
  try dsimp only at hg
  refine ⟨B, δ, M, vs, as, hat, ?_⟩
  cases e1 : g δ M with
  | nx δ1 M1 => rw [e1] at hg; exact hg
  | rt a M1 => rw [e1] at hg; exact hg
  | bk δ1 M1 => rw [e1] at hg; exact hg
  | ct δ1 M1 => rw [e1] at hg; exact hg
  | no => rw [e1] at hg; exact hg
  | ex x δ1 M1 =>
    rw [e1] at hg
    exact fun cls d σ1 H1 hx hat1 => himp D σ1 H1 B δ1 M1 vs as x cls d hx hat1 hg
end Mini

set_option Elab.async false
set_option linter.all false
set_option maxRecDepth 100000
/-! Mini F: forms of dicts, xs[::-1], dict(zip(..)), fields. -/
namespace Mini
open PySem PySem.Spec PyProof.Rows L2
section
variable {K : Fg} {B : Base} {σ : L2.St} {H F : Hp} {own : List Addr} {δ : List A} {M : List O} {vs : List V} {as : List A}
/-- a new cell, on the pile -/
theorem push_at {u : O} {o : HO} {p : Addr} (c : Core K B H F own M) (hs : Al (RelS K F own) σ δ) (hv : Al (RelA K F own) vs as) (hp : H p = none) (hu : u.isFrz = false) (hok : ∀ own', (∃ t, own' = own ++ t) → OOk K F own' (upd H p o) p u) :
    At K B σ (upd H p o) δ (M ++ [u]) (.ref p :: vs) (.cell M.length :: as) := by
  have c' := c.push (u := u) (o := o) hp hu hok
  refine ⟨F, own ++ [p], c', hs.mono fun _ _ r => r.up (Same.refl F), .cons ⟨p, ?_, rfl⟩ (hv.mono fun _ _ r => r.up (Same.refl F))⟩
  rw [← c.len]; simp
end
section
variable {X : Cx} {C : Str → Addr} {W : WX} {a b d k x o : Expr} {f g h : List A → List O → R A} {pos apos : Pos}
theorem f_dnew : PEf X C W (.Dict [] [] pos) (fun _ M => .ok (.cell M.length) (M ++ [.dct []])) := by
  refine pe_imp pe_dnewK fun σ H Q q => ?_
  obtain ⟨B, δ, M, vs, as, ⟨F, own, c, hs, hv⟩, hg⟩ := q
  exact fun p hp => hg _ _ (push_at c hs hv hp rfl fun own' _ => ⟨[], upd_same, .nil⟩)
theorem m2_of (h0 : noCall0 d = true) (s1 : noStar k = true) (s2 : noStar x = true) (hl : (apos.endLine == pos.line) = true) (m : Str) : M2 X d m apos k x pos := by
  have e1 := star_all (es := [k, x]) (env := X.env) (pos := pos) (by simp [s1, s2])
  refine ⟨base_of h0 _ _ _, ?_, hl, ?_⟩
  · rw [e1]; rfl
  · rw [star_one s1, star_one s2]; rfl
theorem m1_of (h0 : noCall0 d = true) (s1 : noStar k = true) (hl : (apos.endLine == pos.line) = true) (m : Str) : M1 X d m apos k pos := by
  have e1 := star_all (es := [k]) (env := X.env) (pos := pos) (by simp [s1])
  refine ⟨base_of h0 _ _ _, ?_, hl, ?_⟩
  · rw [e1]; rfl
  · rw [star_one s1]; rfl
theorem isD_of {B : Base} {H F : Hp} {own : List Addr} {M : List O} {x : A} {v : V} (c : Core X.G B H F own M) (r : RelA X.G F own v x) (hr : (dcv M x).isSome = true) : ∃ p, v = .ref p ∧ IsD H p := by
  obtain ⟨kvs, e⟩ := Option.isSome_iff_exists.mp hr
  obtain ⟨p, ws, rfl, h1, h2⟩ := dcv_ok e c r
  exact ⟨p, rfl, .inl ⟨ws, h1⟩⟩
/-- d.get(k, x) -/
theorem f_dget (hu : X.A.units + 64 < cLine) (hd : PEf X C W d f) (hk : PEf X C W k g) (hx : PEf X C W x h) (h0 : noCall0 d = true) (s1 : noStar k = true) (s2 : noStar x = true) (hl : (apos.endLine == pos.line) = true) :
    PEf X C W (.Call (.Attribute d "get" apos) [k, x] [] pos) (fun δ M => (f δ M).bind fun a M1 => if (dcv M1 a).isSome then (g δ M1).bind fun b M2 => (h δ M2).bind fun c M3 => dgtA M3 a b c else .no) := by
  refine pe_imp (pe_dget2 (by omega) hd hk hx (m2_of h0 s1 s2 hl _)) fun σ H Q q => ?_
  obtain ⟨B, δ, M, vs, as, hat, hg⟩ := q
  refine ⟨B, δ, M, vs, as, hat, GE.bind hg fun a M1 v H1 hat1 hg1 => ?_⟩
  have hat1' := hat1
  obtain ⟨F, own, cc, hs, hv⟩ := hat1
  cases hv with
  | cons r hv =>
  split at hg1
  · rename_i hr
    obtain ⟨p, rfl, hD⟩ := isD_of cc r hr
    refine ⟨p, rfl, hD, B, δ, M1, .ref p :: vs, a :: as, hat1', ?_⟩
    cases e1 : g δ M1 with
    | no => simp only [e1, R.bind_no] at hg1; exact hg1.elim
    | ex z M' => simp only [e1, R.bind_ex] at hg1; exact fun cls d H' hx h' => hg1 cls d H' hx h'.pop
    | ok y M2 =>
      simp only [e1, R.bind_ok] at hg1
      intro v2 H2 hat2
      refine ⟨B, δ, M2, _, _, hat2, ?_⟩
      cases e2 : h δ M2 with
      | no => simp only [e2, R.bind_no] at hg1; exact hg1.elim
      | ex z M' => simp only [e2, R.bind_ex] at hg1; exact fun cls d H' hx h' => hg1 cls d H' hx h'.pop.pop
      | ok z M3 =>
        simp only [e2, R.bind_ok] at hg1
        intro v3 H3 hat3
        obtain ⟨F3, own3, c3, hs3, hv3⟩ := hat3
        cases hv3 with
        | cons r3 hv3 =>
        cases hv3 with
        | cons r2 hv3 =>
        cases hv3 with
        | cons r1 hv3 =>
        unfold dgtA at hg1
        split at hg1
        · rename_i kvs kk e3 e4
          obtain ⟨p', ws, ep, hR, hal⟩ := dcv_ok e3 c3 r1
          cases ep
          have ek := keyA_ok e4 r2
          subst ek
          have q := valA_ok (k := kk) hal
          refine ⟨valV ws kk, .inl ⟨ws, kk, hR, rfl, rfl⟩, ?_⟩
          split at hg1
          · rename_i w e5
            rw [e5] at q
            obtain ⟨w', h1, h2⟩ := q
            rw [h1]
            exact hg1 _ _ ⟨F3, own3, c3, hs3, .cons h2 hv3⟩
          · rename_i e5
            rw [e5] at q
            rw [show valV ws kk = none from q]
            exact hg1 _ _ ⟨F3, own3, c3, hs3, .cons r3 hv3⟩
        · exact hg1.elim
  · exact hg1.elim
/-- d.pop(k) -/
theorem f_dpop (hd : PEf X C W d f) (hk : PEf X C W k g) (h0 : noCall0 d = true) (s1 : noStar k = true) (hl : (apos.endLine == pos.line) = true) :
    PEf X C W (.Call (.Attribute d "pop" apos) [k] [] pos) (fun δ M => (f δ M).bind fun a M1 => if (dcv M1 a).isSome then (g δ M1).bind fun b M2 => dppA M2 a b else .no) := by
  refine pe_imp (pe_dpop1 hd hk (m1_of h0 s1 hl _)) fun σ H Q q => ?_
  obtain ⟨B, δ, M, vs, as, hat, hg⟩ := q
  refine ⟨B, δ, M, vs, as, hat, GE.bind hg fun a M1 v H1 hat1 hg1 => ?_⟩
  have hat1' := hat1
  obtain ⟨F, own, cc, hs, hv⟩ := hat1
  cases hv with
  | cons r hv =>
  split at hg1
  · rename_i hr
    obtain ⟨p, rfl, hD⟩ := isD_of cc r hr
    refine ⟨p, rfl, hD, B, δ, M1, .ref p :: vs, a :: as, hat1', ?_⟩
    cases e1 : g δ M1 with
    | no => simp only [e1, R.bind_no] at hg1; exact hg1.elim
    | ex z M' => simp only [e1, R.bind_ex] at hg1; exact fun cls d H' hx h' => hg1 cls d H' hx h'.pop
    | ok y M2 =>
      simp only [e1, R.bind_ok] at hg1
      intro v2 H2 hat2
      obtain ⟨F2, own2, c2, hs2, hv2⟩ := hat2
      cases hv2 with
      | cons r2 hv2 =>
      cases hv2 with
      | cons r1 hv2 =>
      unfold dppA at hg1
      split at hg1
      · rename_i n
        split at hg1
        · rename_i kvs kk e3 e4
          obtain ⟨l, hln, e5⟩ := r1
          cases e5
          obtain ⟨ws, hH, hal⟩ := c2.obj n p _ hln e3
          have ek := keyA_ok e4 r2
          subst ek
          split at hg1
          · rename_i w e5
            have q := valA_ok (k := kk) hal
            rw [e5] at q
            obtain ⟨w', h1, h2⟩ := q
            refine ⟨ws, kk, w', hH, rfl, h1, hg1 _ _ ?_⟩
            have c' := c2.store (o := .dK (dropK ws kk)) (u := .dct (dropA kvs kk)) hln e3 rfl rfl ⟨_, upd_same, dropA_al hal⟩
            exact ⟨F2, own2, c', hs2, .cons h2 hv2⟩
          · exact hg1.elim
        · exact hg1.elim
      · exact hg1.elim
  · exact hg1.elim
/-- xs[::-1] -/
theorem f_rev {j : Nat} {p1 p2 p3 : Pos} (ha : PEf X C W a f) : PEf X C W (.Subscript a (.Slice none none (some (.UnaryOp .USub (.Constant (.int 1) j p1) p2)) p3) pos) (fun δ M => (f δ M).bind fun x M1 => revA M1 x) := by
  refine pe_imp (pe_revL ha) fun σ H Q q => ?_
  obtain ⟨B, δ, M, vs, as, hat, hg⟩ := q
  refine ⟨B, δ, M, vs, as, hat, GE.bind hg fun x M1 v H1 hat1 hg1 => ?_⟩
  obtain ⟨F, own, cc, hs, hv⟩ := hat1
  cases hv with
  | cons r hv =>
  unfold revA newL at hg1
  split at hg1
  · rename_i xs e1
    obtain ⟨p, ws, rfl, h1, h2⟩ := lsv_ok e1 cc r
    exact ⟨p, ws, rfl, h1, fun p' hp => hg1 _ _ (newL_at cc hs hv h2.reverse hp)⟩
  · exact hg1.elim
/-! ### dict(zip(xs, ys)) -/
theorem keys_ok {K : Fg} {F : Hp} {own : List Addr} : ∀ {xs : List A} {ks : List Key} {ws : List V}, keysA xs = some ks → Al (RelA K F own) ws xs → ws = ks.map kV
  | [], _, _, e, .nil => by cases e; rfl
  | x :: xs, ks, w :: ws, e, .cons r t => by
    unfold keysA at e
    split at e
    · rename_i k r' e1 e2
      cases e
      rw [List.map_cons, keyA_ok e1 r, keys_ok e2 t]
    · cases e
theorem merge_al {K : Fg} {F : Hp} {own : List Addr} : ∀ {ms : List (Key × V)} {ns : List (Key × A)} {ws : List (Key × V)} {kvs : List (Key × A)}, Al (RelP K F own) ms ns → Al (RelP K F own) ws kvs → Al (RelP K F own) (mergeK ws ms) (mergeA kvs ns)
  | _, _, _, _, .nil, h => h
  | (i, v) :: ms, (j, z) :: ns, ws, kvs, .cons r t, h => by
    obtain ⟨e, r⟩ := r
    dsimp only at e r
    subst e
    exact merge_al (ws := putK ws i v) (kvs := putA kvs i z) t (putA_al h r)
theorem zip_al {K : Fg} {F : Hp} {own : List Addr} : ∀ {ks : List Key} {us : List V} {ys : List A}, Al (RelA K F own) us ys → Al (RelP K F own) (ks.zip us) (ks.zip ys)
  | [], _, _, _ => by simp; exact .nil
  | k :: ks, _, _, .nil => by simp; exact .nil
  | k :: ks, _, _, .cons r t => .cons ⟨rfl, r⟩ (zip_al t)
theorem f_dzip {p p2 pos2 : Pos} (hc : X.calm = true) (gd : Gl X "dict") (md : X.mg "dict" = none) (gz : Gl X "zip") (mz : X.mg "zip" = none) (ha : PEf X C W a f) (hb : PEf X C W b g) (s1 : noStar a = true) (s2 : noStar b = true) :
    PEf X C W (.Call (.Name "dict" p) [.Call (.Name "zip" p2) [a, b] [] pos2] [] pos) (fun δ M => (f δ M).bind fun x M1 => (g δ M1).bind fun y M2 => dzpA M2 x y) := by
  refine pe_imp (Sup.pe_dictZip hc gd md gz mz (pa_cons ha (pa_cons hb pa_nil (star_one s2 _ _)) (star_one s1 _ _)) (star_one s1 _ _) (star_any (es := [b]) (by simp [s2]) _ _)) fun σ H Q q => ?_
  obtain ⟨B, δ, M, vs, as, hat, hg⟩ := q
  refine ⟨B, δ, M, vs, as, hat, GE.bind hg fun x M1 v H1 hat1 hg1 => ?_⟩
  refine ⟨B, δ, M1, _, _, hat1, ?_⟩
  cases e1 : g δ M1 with
  | no => simp only [e1, R.bind_no] at hg1; exact hg1.elim
  | ex z M' => simp only [e1, R.bind_ex] at hg1; exact fun cls d H' hx h' => hg1 cls d H' hx h'.pop
  | ok y M2 =>
    simp only [e1, R.bind_ok] at hg1
    intro v2 H2 hat2
    obtain ⟨F2, own2, c2, hs2, hv2⟩ := hat2
    cases hv2 with
    | cons r2 hv2 =>
    cases hv2 with
    | cons r1 hv2 =>
    unfold dzpA at hg1
    split at hg1
    · rename_i xs ys e3 e4
      split at hg1
      · rename_i hz
        split at hg1
        · rename_i ks e5
          obtain ⟨p, ws, rfl, h1, h2⟩ := lsv_ok e3 c2 r1
          obtain ⟨p', us, rfl, h3, h4⟩ := lsv_ok e4 c2 r2
          have ew := keys_ok e5 h2
          have hkl : ks.length = us.length := by
            have := h2.length
            rw [ew, List.length_map] at this
            rw [this, h4.length]; exact hz.1
          have m1 : (ks.zip us).map (fun kv => kV kv.1) = ks.map kV := by
            have e : (ks.zip us).map (fun kv => kV kv.1) = ((ks.zip us).map Prod.fst).map kV := by rw [List.map_map]; rfl
            rw [e, List.map_fst_zip (by omega)]
          have m2 : (ks.zip us).map (fun kv => kv.2) = us := List.map_snd_zip (by omega)
          refine ⟨p, p', ks.zip us, rfl, by rw [m1, ← ew]; exact h1, by rw [m2]; exact h3, ?_, fun q hq => hg1 _ _ ?_⟩
          · have := h4.length
            rw [List.length_zip]; omega
          · exact push_at c2 hs2 hv2 hq rfl fun own' ⟨t, e⟩ => ⟨_, upd_same, by subst e; exact (merge_al (zip_al h4) .nil).mono fun _ _ r => r.up (Same.refl F2)⟩
        · exact hg1.elim
      · exact hg1.elim
    · exact hg1.elim
end
end Mini

set_option Elab.async false
set_option linter.all false
set_option maxRecDepth 100000
/-! Mini C: math.comb. -/
namespace Mini
open PySem PySem.Spec L2 PySem.Calls PySem.W

namespace CMB
theorem entry : entryFor table "math.comb" = some Builtin.«math.comb» := entryFor_of_tree (by kernel_rfl)
theorem kind : builtinKind "math.comb" = none := by kernel_rfl
theorem plain : plainId "math.comb" = true := by decide +kernel
theorem args (a b : Value) : argsOk "math.comb" ⟨[a, b], []⟩ := by unfold argsOk; kernel_rfl
end CMB
theorem comb_above (a : Int) (t : Tok) (b : Int) (u : Tok) (h0 : ¬ a < 0) (h1 : ¬ b < 0) (h2 : b > a) :
    Gives (Builtin.«math.comb» ⟨[.int a t, .int b u], []⟩) (.int 0) :=
  .of_wp fun M A E s Q h => by obtain ⟨hp, g, d, tk, os⟩ := s; wp_walk; exact ⟨_, rfl, h⟩
theorem comb_run (a : Int) (t : Tok) (b : Int) (u : Tok) (h0 : ¬ a < 0) (h1 : ¬ b < 0) (h2 : ¬ b > a) (h3 : ¬ min b (a - b) > Builtin.Math.maxSsize) (h4 : ¬ min b (a - b) > Builtin.Math.manyFactors) (h5 : ¬ min b (a - b) > 9000) (hsz : (combI a b).natAbs.log2 < bitsLine) :
    Gives (Builtin.«math.comb» ⟨[.int a t, .int b u], []⟩) (.int (combI a b)) :=
  .of_wp fun M A E s Q h => by
    obtain ⟨hp, g, d, tk, os⟩ := s
    wp_walk
    (try (refine wpAny_ite_false (decide_eq_false (Nat.not_le.mpr hsz)) ?_; wp_walk))
    exact ⟨_, rfl, h⟩
section
variable {X : Cx}
theorem clS_comb : CallR X (.builtin "math.comb") (rCl X.G (bi .comb)) := by
  intro pins s σ H ws us Q I r h
  obtain ⟨B, σ', δ, M, vs, bs, as, c, M', hl, ⟨F, own, cc, hs, hv0⟩, hg, hq⟩ := h
  obtain ⟨hw, hv⟩ := hv0.split hl
  clear hv0
  unfold bi at hg
  split at hg <;> try (rename_i hb; cases hb; done)
  · rename_i n k _
    obtain ⟨x, y, rfl, rx, ry⟩ := al_two hw
    cases int_of rx
    cases int_of ry
    obtain ⟨t, u, rfl⟩ := Vals.int2 r
    split at hg
    · rename_i hz
      obtain ⟨z0, z1, z2⟩ := hz
      have m1 : Builtin.Math.maxSsize = 9223372036854775807 := by decide +kernel
      split at hg
      · rename_i hlt
        cases hg
        exact call_function_meets CMB.kind CMB.plain CMB.entry (CMB.args _ _) (comb_above n t k u (by omega) (by omega) (by omega)).meets ⟨V.int 0, H, I.tok _, ⟨_, rfl⟩, hq _ _ ⟨F, own, cc, hs, .cons (.int _) hv⟩⟩
      · rename_i hlt
        split at hg
        · rename_i hsz
          cases hg
          have h9 : ¬ min k (n - k) > 9000 := by omega
          exact call_function_meets CMB.kind CMB.plain CMB.entry (CMB.args _ _) (comb_run n t k u (by omega) (by omega) (by omega) (by rw [m1]; omega) (by unfold Builtin.Math.manyFactors; omega) h9 hsz).meets ⟨V.int _, H, I.tok _, ⟨_, rfl⟩, hq _ _ ⟨F, own, cc, hs, .cons (.int _) hv⟩⟩
        · cases hg
    · cases hg
  · cases hg
variable {C : Str → Addr} {W : WX} {e : Expr} {es : List Expr} {pos p : Pos} {fs : List A → List O → R (List A)}
theorem f_callM {x : Str} {id : String} {G : List A → List O → R A} (hG : ∀ as M x M', G as M = .ex x M' → False) (hc : CallR X (.builtin id) (rCl X.G G)) (hg : Gl X x) (hm : X.mg x = some (.builtin id)) (ha : PAf X C W (e :: es) fs)
    (hdb : (x == ("__debug__" : Str)) = false) (hs : (e :: es).all noStar = true) : PEf X C W (.Call (.Name x p) (e :: es) [] pos) (fun δ M => (fs δ M).bind fun as M1 => G as M1) := by
  rw [List.all_cons, Bool.and_eq_true_iff] at hs
  exact pe_imp (pe_callBfun hc hg hm ha hdb (star_one hs.1 _ _) (star_any hs.2 _ _)) fun _ _ _ q => call_imp hG q
end
end Mini

set_option Elab.async false
set_option linter.all false
set_option maxRecDepth 100000
/-! Mini 12: from the text to the small language, proved for every text: expressions. -/
namespace Mini
open PySem PySem.Spec L2

/-! ### what the whole program gives -/
structure Cc where
  fns : List (Str × Nat)
  shapes : List (Nat × Nat × List Str × List Pl)
  cons : List (Str × D)
  excs : List Str
  excF : List (Str × Str)
  tr : Bool
  flds : List Str
  combs : List Str
  muts : List Nat
/-- a block's names -/
structure Lc where
  N : List Str
  sc : Scope
  fnb : Str → Bool
  calm : Bool
def Lc.kd (l : Lc) (x : Str) : Option NameKind := l.sc.names.lookup x
def bNames : List Str := ["len", "int", "str", "abs", "max", "min", "list", "tuple", "range", "isinstance", "bool", "dict", "zip", "all", "sorted", "enumerate", "super"]
structure Fa (P : Program) (w : World) (K : Fg) (mg : Str → Option Value) (base : Heap) (C : Str → Addr) (cc : Cc) (p : Prg) (n : Nat) : Prop where
  fns : ∀ i x np, cc.fns[i]? = some (x, np) → ∃ fa fd ps, FnOk P w K mg base (L2.CX P w) n fa fd ps (Phi K C np (p.run n i)) ∧ mg x = some (.ref fa) ∧ PySem.W.keepIn K (.ref fa) = true ∧ ∀ m ks pl, (i, m, ks, pl) ∈ cc.shapes → BindG K fd ps m ks pl
  cons : ∀ x d, (x, d) ∈ cc.cons → ∃ (v : V) (u : Value), mg x = some u ∧ RelV v u ∧ ∀ F, Rep K F v d
  blt : ∀ x ∈ bNames, mg x = none
  combs : ∀ x ∈ cc.combs, mg x = some (.builtin "math.comb")
  exc : ∀ x ∈ cc.excs, mg x = some (.ref (C x)) ∧ ∀ X : Cx, X.G = K → X.mg = mg → Gl X x → ∀ (m : Str) (j : Nat) (p p2 pos : Pos), PMk X (.Call (.Name x p) [.Constant (.str m) j p2] [] pos) (fun _ H Q => Q (.ref (C x)) none H)
  excF : ∀ x f, (x, f) ∈ cc.excF → mg x = some (.ref (C x)) ∧ ∀ X : Cx, X.G = K → X.mg = mg → Gl X x → ∀ (a : Expr) (ta : TA) (p pos : Pos) (k : Nat), Room k X.A → PA X [a] ta → noStar a = true → PMk X (.Call (.Name x p) [a] [] pos) (Sup.tMk f (C x) ta)
  xc : cc.tr = true → XcF K C p.sub cc.flds
structure XO (X : Cx) (C : Str → Addr) (cc : Cc) (p : Prg) (n : Nat) (l : Lc) : Prop where
  fa : Fa X.prog X.w X.G X.mg X.base C cc p n
  N : X.N = l.N
  nd : X.N.Nodup
  sc : X.env.scope = l.sc
  kind : X.env.scope.kind = .function
  fn : ∀ x, X.fn x = l.fnb x
  calm : X.calm = l.calm
  room : X.calm = true → Room n X.A
  units : X.A.units + 64 < cLine
abbrev TO (X : Cx) (W : WX) : Prop := X.calm = true → Takes X W

/-! ### names -/
def ixOf (N : List Str) (x : Str) : Option Nat := match N.findIdx? (fun y => decide (y = x)) with
  | some i => if N[i]? = some x then some i else none
  | none => none
theorem ixOf_ok {N : List Str} {x : Str} {i : Nat} (h : ixOf N x = some i) : N[i]? = some x := by
  unfold ixOf at h
  split at h
  · split at h
    · cases h; assumption
    · cases h
  · cases h
def nm2 (x : Str) : Bool := !(x == ("__debug__" : Str)) && !(x == ("__classdict__" : Str)) && !decide (x = ("__name__" : Str))
theorem nm2_ok {x : Str} (h : nm2 x = true) : (x == ("__debug__" : Str)) = false ∧ (x == ("__classdict__" : Str)) = false ∧ x ≠ "__name__" := by
  unfold nm2 at h
  simp only [Bool.and_eq_true, Bool.not_eq_true', decide_eq_false_iff_not] at h
  exact ⟨h.1.1, h.1.2, h.2⟩
def mapO {α β : Type} (f : α → Option β) : List α → Option (List β)
  | [] => some []
  | a :: r => match f a, mapO f r with
    | some b, some bs => some (b :: bs)
    | _, _ => none
theorem mapO_len {α β : Type} {f : α → Option β} : ∀ {xs : List α} {ys : List β}, mapO f xs = some ys → ys.length = xs.length
  | [], _, h => by cases h; rfl
  | a :: r, _, h => by
    unfold mapO at h
    split at h
    · rename_i b bs e1 e2
      cases h
      rw [List.length_cons, List.length_cons, mapO_len e2]
    · cases h
theorem evs_len {w : W} : ∀ {es : List E} {δ : List A} {M : List O} {as : List A} {M' : List O}, evs w es δ M = .ok as M' → as.length = es.length
  | [], _, _, _, _, h => by cases h; rfl
  | e :: r, δ, M, as, M', h => by
    have h : ((ev w e δ M).bind fun x M1 => (evs w r δ M1).bind fun xs M2 => .ok (x :: xs) M2) = .ok as M' := h
    cases e1 : ev w e δ M with
    | no => simp only [e1, R.bind_no] at h; cases h
    | ex x M1 => simp only [e1, R.bind_ex] at h; cases h
    | ok a M1 =>
      simp only [e1, R.bind_ok] at h
      cases e2 : evs w r δ M1 with
      | no => simp only [e2, R.bind_no] at h; cases h
      | ex x M1 => simp only [e2, R.bind_ex] at h; cases h
      | ok as2 M2 =>
        simp only [e2, R.bind_ok] at h
        cases h
        rw [List.length_cons, List.length_cons, evs_len e2]

def cName (cc : Cc) (l : Lc) (x : Str) : Option E := if nm2 x then (match l.kd x with
  | some .globalImplicit => (match cc.cons.lookup x with
    | some i => some (.cst i)
    | none => none)
  | some .globalExplicit => none
  | none => none
  | some _ => (match ixOf l.N x with
    | some i => some (.var i)
    | none => none)) else none
def cConst : Const → Option E
  | .none => some (.cst .non)
  | .bool b => some (.cst (.bl b))
  | .int i => some (.cst (.int i))
  | .str s => some (.cst (.str s))
  | _ => none
def biOf (x : Str) : Option Bi :=
  if x = "len" then some .len else if x = "int" then some .int else if x = "str" then some .str else if x = "abs" then some .abs
  else if x = "max" then some .max else if x = "min" then some .min else if x = "list" then some .list else if x = "tuple" then some .tuple else if x = "all" then some .all else if x = "sorted" then some .sorted else none
def tyOfN (x : Str) : Option Ty :=
  if x = "int" then some .int else if x = "bool" then some .bool else if x = "str" then some .str else if x = "tuple" then some .tup else if x = "list" then some .lst else if x = "dict" then some .dic else none
def tyName (l : Lc) : Expr → Option Ty
  | .Name x _ => if l.kd x = some .globalImplicit then tyOfN x else none
  | _ => none
def binI : Operator → Option Bin
  | .Add => some .add
  | .Sub => some .sub
  | .Mult => some .mul
  | .FloorDiv => some .fdv
  | .Mod => some .mod
  | .Pow => some .pow
  | _ => none
theorem binI_ok {o : Operator} {b : Bin} (h : binI o = some b) : o = binOp b := by
  cases o <;> cases h <;> rfl
def cmpI : CmpOp → Cmp
  | .Eq => .eq
  | .NotEq => .ne
  | .Lt => .lt
  | .LtE => .le
  | .Gt => .gt
  | .GtE => .ge
  | .Is => .isN
  | .IsNot => .notN
  | .In => .inn
  | .NotIn => .nin
theorem cmpI_ok (o : CmpOp) : cmpOp (cmpI o) = o := by cases o <;> rfl
def mtOf (x : Str) : Option Mt := if x = "append" then some .append else if x = "pop" then some .pop else if x = "join" then some .join else if x = "extend" then some .extend else if x = "insert" then some .insert else none

/-! ### calls -/
def cIsi (f : Expr → Option E) (l : Lc) : List Expr → Option E
  | [a, .Name x p2] => (match f a, tyName l (.Name x p2) with
    | some a', some t => if noStar a then some (.isi a' [t]) else none
    | _, _ => none)
  | [a, .Tuple es _ _] => (match f a, mapO (tyName l) es with
    | some a', some ts => if noStar a && decide (ts.length ≤ 100) then some (.isi a' ts) else none
    | _, _ => none)
  | _ => none
def plOk : Pl → Bool
  | .arg _ => true
  | .cst x => x.sv.isSome
def plFits (pl : List Pl) (m np : Nat) : Bool := if pl.isEmpty then decide (m = np) else decide (pl.length = np)
def cUser (cc : Cc) (f : Expr → Option E) (i np : Nat) (args : List Expr) (kws : List Keyword) : Option E := match args with
  | [] => none
  | a :: r => if (a :: r).all noStar && kws.all (fun k => k.arg.isSome) then (match mapO f (a :: r), mapO f (kws.map (·.value)), cc.shapes.find? (fun s => decide (s.1 = i) && decide (s.2.1 = (a :: r).length) && decide (s.2.2.1 = kws.filterMap fun k => k.arg)) with
    | some as, some bs, some s => if plFits s.2.2.2 ((a :: r).length + kws.length) np && s.2.2.2.all plOk then (if i ∈ cc.muts then some (.mcall i as bs s.2.2.2) else some (.call i as bs s.2.2.2)) else none
    | _, _, _ => none) else none
def cBi (b : Bi) (f : Expr → Option E) (a : Expr) (r : List Expr) : Option E := if (a :: r).all noStar then (match mapO f (a :: r) with
  | some as => some (.bi b as)
  | none => none) else none
/-- dict(zip(a, b)) -/
def cDz (f : Expr → Option E) (l : Lc) : List Expr → Option E
  | [.Call (.Name z _) [a, b] [] _] => if z = "zip" ∧ l.kd "zip" = some .globalImplicit ∧ noStar a = true ∧ noStar b = true then (match f a, f b with
    | some a', some b' => some (.dzip a' b')
    | _, _ => none) else none
  | _ => none
def cGlob (cc : Cc) (l : Lc) (f : Expr → Option E) (x : Str) (args : List Expr) (kws : List Keyword) : Option E :=
  match cc.fns.findIdx? (fun q => decide (q.1 = x)) with
  | some i => (match cc.fns[i]? with
    | some (y, np) => if y = x then cUser cc f i np args kws else none
    | none => none)
  | none => (match args, kws with
    | a :: r, [] => if x = "isinstance" then cIsi f l (a :: r) else if x = "dict" then cDz f l (a :: r) else if x ∈ cc.combs then cBi .comb f a r else (match biOf x with
      | some b => cBi b f a r
      | none => none)
    | _, _ => none)
/-- d.get(k, x) -/
def cGet (f : Expr → Option E) (o : Expr) (name : Str) (apos pos : Pos) (args : List Expr) (kws : List Keyword) : Option E := match args, kws with
  | [k, x], [] => if name = "get" ∧ noCall0 o = true ∧ noStar k = true ∧ noStar x = true ∧ (apos.endLine == pos.line) = true then (match f o, f k, f x with
    | some o', some k', some x' => some (.dget o' k' x')
    | _, _, _ => none) else none
  | _, _ => none
/-- xs.pop(i) -/
def cPopi (f : Expr → Option E) (o : Expr) (name : Str) (apos pos : Pos) (args : List Expr) (kws : List Keyword) : Option E := match args, kws with
  | [k], [] => if name = "pop" ∧ noCall0 o = true ∧ noStar k = true ∧ (apos.endLine == pos.line) = true then (match f o, f k with
    | some o', some k' => some (.mt .popi o' [k'])
    | _, _ => none) else none
  | _, _ => none
def cMeth (f : Expr → Option E) (o : Expr) (name : Str) (apos pos : Pos) (args : List Expr) (kws : List Keyword) : Option E := match cGet f o name apos pos args kws with
  | some e' => some e'
  | none => match cPopi f o name apos pos args kws with
  | some e' => some e'
  | none => match f o, mtOf name, mapO f args, kws with
  | some o', some m, some as, [] => if args.all noStar && noCall0 o && decide (args.length < 30) && (apos.endLine == pos.line) then some (.mt m o' as) else none
  | _, _, _, _ => none
def cCall (cc : Cc) (l : Lc) (f : Expr → Option E) (fn : Expr) (args : List Expr) (kws : List Keyword) (pos : Pos) : Option E := if l.calm then (match fn with
  | .Name x _ => if nm2 x && decide (l.kd x = some .globalImplicit) then cGlob cc l f x args kws else none
  | .Attribute o name apos => cMeth f o name apos pos args kws
  | _ => none) else none

section
variable {X : Cx} {C : Str → Addr} {W : WX} {cc : Cc} {p : Prg} {n : Nat} {l : Lc} {f : Expr → Option E} {pos : Pos}
abbrev Fe (X : Cx) (C : Str → Addr) (W : WX) (p : Prg) (n : Nat) (f : Expr → Option E) : Prop := ∀ e e', f e = some e' → PEf X C W e (ev ⟨p.run n, p.sub, p.turns⟩ e')
theorem XO.gl (o : XO X C cc p n l) {x : Str} (h : l.kd x = some .globalImplicit) : Gl X x := by
  show X.env.scope.names.lookup x = _
  rw [o.sc]; exact h
theorem mapO_as (hf : Fe X C W p n f) : ∀ {es : List Expr} {es' : List E}, mapO f es = some es' → es.all noStar = true → PAf X C W es (evs ⟨p.run n, p.sub, p.turns⟩ es')
  | [], _, h, _ => by cases h; exact as_nil
  | e :: r, _, h, hs => by
    unfold mapO at h
    rw [List.all_cons, Bool.and_eq_true_iff] at hs
    split at h
    · rename_i b bs e1 e2
      cases h
      exact as_cons (hf _ _ e1) (mapO_as hf e2 hs.2) hs.1
    · cases h
theorem mapO_ks (hf : Fe X C W p n f) : ∀ {ks : List Keyword} {es' : List E}, mapO f (ks.map (·.value)) = some es' → PKf X C W ks (evs ⟨p.run n, p.sub, p.turns⟩ es')
  | [], _, h => by cases h; exact ks_nil
  | ⟨nm, e, kp⟩ :: r, _, h => by
    unfold List.map mapO at h
    split at h
    · rename_i b bs e1 e2
      cases h
      exact ks_cons (hf _ _ e1) (mapO_ks hf e2)
    · cases h
theorem cName_ok (o : XO X C cc p n l) {x : Str} {e' : E} (h : cName cc l x = some e') : PEf X C W (.Name x pos) (ev ⟨p.run n, p.sub, p.turns⟩ e') := by
  unfold cName at h
  split at h
  · rename_i hn
    obtain ⟨n1, n2, n3⟩ := nm2_ok hn
    split at h
    · rename_i hk
      split at h
      · rename_i i hi
        cases h
        obtain ⟨v, u, h1, h2, h3⟩ := o.fa.cons _ _ (PySem.mem_of_lookup hi)
        exact f_cst (pe_glob (o.gl hk) h1 h2 n1) h3
      · cases h
    · cases h
    · cases h
    · rename_i k hk1 hk2 hk
      split at h
      · rename_i i hi
        cases h
        have hv : Vis X.env.scope x := by
          unfold Vis
          rw [o.sc]
          cases k with
          | «local» => exact .inl hk
          | cell => exact .inr (.inl hk)
          | free => exact .inr (.inr hk)
          | globalExplicit => exact absurd rfl hk2
          | globalImplicit => exact absurd rfl hk1
        exact f_var (by rw [o.N]; exact ixOf_ok hi) hv n1 n2
      · cases h
  · cases h
theorem cConst_ok {c : Const} {j : Nat} {e' : E} (h : cConst c = some e') : PEf X C W (.Constant c j pos) (ev ⟨p.run n, p.sub, p.turns⟩ e') := by
  unfold cConst at h
  split at h
  · cases h; exact f_cst pe_non fun F => .non
  · cases h; exact f_cst pe_bl fun F => .bl _
  · cases h; exact f_cst pe_int fun F => .int _
  · cases h; exact f_cst pe_str fun F => .str _
  · cases h
theorem tyOfN_ok {x : Str} {t : Ty} (h : tyOfN x = some t) : x ∈ bNames ∧ bootBuiltins x = some (.type t.nm) ∧ x ≠ "__name__" ∧ (x == ("__debug__" : Str)) = false := by
  unfold tyOfN at h
  repeat' split at h
  all_goals first
    | (rename_i hx; cases h; subst hx; exact ⟨by decide +kernel, by kernel_rfl, by decide +kernel, by decide +kernel⟩)
    | cases h
theorem tyName_ok (o : XO X C cc p n l) {x : Str} {t : Ty} {p2 : Pos} (h : tyName l (.Name x p2) = some t) : TyN X x t := by
  have h : (if l.kd x = some .globalImplicit then tyOfN x else none) = some t := h
  split at h
  · rename_i hk
    obtain ⟨h1, h2, h3, h4⟩ := tyOfN_ok h
    exact ⟨o.gl hk, o.fa.blt _ h1, h2, h3, h4⟩
  · cases h
theorem tyNames_ok (o : XO X C cc p n l) : ∀ {es : List Expr} {ts : List Ty}, mapO (tyName l) es = some ts → TyNs X es ts
  | [], _, h => by cases h; exact .nil
  | e :: r, _, h => by
    unfold mapO at h
    split at h
    · rename_i t ts e1 e2
      cases h
      cases e with
      | Name x p2 => exact .cons (tyName_ok o e1) (tyNames_ok o e2)
      | _ => cases e1
    · cases h
theorem cBi_ok (hf : Fe X C W p n f) {b : Bi} {a : Expr} {r : List Expr} {e' : E} (h : cBi b f a r = some e') (hr : ∀ fs, PAf X C W (a :: r) fs → (a :: r).all noStar = true → PEf X C W e (fun δ M => (fs δ M).bind fun as M1 => bi b as M1)) : PEf X C W e (ev ⟨p.run n, p.sub, p.turns⟩ e') := by
  unfold cBi at h
  split at h
  · rename_i hs
    split at h
    · rename_i as e1
      cases h
      exact hr _ (mapO_as hf e1 hs) hs
    · cases h
  · cases h
theorem cIsi_ok (o : XO X C cc p n l) (hf : Fe X C W p n f) {q : Pos} (hg : Gl X "isinstance") : ∀ {args : List Expr} {e' : E}, cIsi f l args = some e' → PEf X C W (.Call (.Name "isinstance" q) args [] pos) (ev ⟨p.run n, p.sub, p.turns⟩ e') := by
  intro args e' h
  have hb : bootBuiltins "isinstance" = some (.builtin "isinstance") := by kernel_rfl
  unfold cIsi at h
  split at h
  · split at h
    · rename_i e1 e2
      split at h
      · cases h
        exact f_isi hg (o.fa.blt _ (by decide +kernel)) hb (hf _ _ e1) (tyName_ok o e2) ‹_›
      · cases h
    · cases h
  · split at h
    · rename_i ts e1 e2
      split at h
      · rename_i hz
        cases h
        rw [Bool.and_eq_true_iff, decide_eq_true_eq] at hz
        exact f_isiT hg (o.fa.blt _ (by decide +kernel)) hb (hf _ _ e1) (tyNames_ok o e2) (by rw [sizeLine_eq]; omega) hz.1
      · cases h
    · cases h
  · cases h
theorem biOf_ok (o : XO X C cc p n l) (hc : X.calm = true) {x : Str} {b : Bi} (h : biOf x = some b) (hg : Gl X x) {q : Pos} {a : Expr} {r : List Expr} {fs : List A → List O → R (List A)} (ha : PAf X C W (a :: r) fs) (hs : (a :: r).all noStar = true) :
    PEf X C W (.Call (.Name x q) (a :: r) [] pos) (fun δ M => (fs δ M).bind fun as M1 => bi b as M1) := by
  unfold biOf at h
  split at h
  · rename_i hx; cases h; subst hx; exact f_callB (bi_ex _) clS_len hg (o.fa.blt _ (by decide +kernel)) (by kernel_rfl) ha (by decide +kernel) (by decide +kernel) hs
  split at h
  · rename_i hx; cases h; subst hx; exact f_callT (bi_ex _) clS_int hg (o.fa.blt _ (by decide +kernel)) (by kernel_rfl) ha (by decide +kernel) (by decide +kernel) hs
  split at h
  · rename_i hx; cases h; subst hx; exact f_callT (bi_ex _) clS_str hg (o.fa.blt _ (by decide +kernel)) (by kernel_rfl) ha (by decide +kernel) (by decide +kernel) hs
  split at h
  · rename_i hx; cases h; subst hx; exact f_callB (bi_ex _) clS_abs hg (o.fa.blt _ (by decide +kernel)) (by kernel_rfl) ha (by decide +kernel) (by decide +kernel) hs
  split at h
  · rename_i hx; cases h; subst hx; exact f_callB (bi_ex _) (clS_max hc) hg (o.fa.blt _ (by decide +kernel)) (by kernel_rfl) ha (by decide +kernel) (by decide +kernel) hs
  split at h
  · rename_i hx; cases h; subst hx; exact f_callB (bi_ex _) (clS_min hc) hg (o.fa.blt _ (by decide +kernel)) (by kernel_rfl) ha (by decide +kernel) (by decide +kernel) hs
  split at h
  · rename_i hx; cases h; subst hx; exact f_callT (bi_ex _) (clS_list hc) hg (o.fa.blt _ (by decide +kernel)) (by kernel_rfl) ha (by decide +kernel) (by decide +kernel) hs
  split at h
  · rename_i hx; cases h; subst hx; exact f_callT (bi_ex _) clS_tuple hg (o.fa.blt _ (by decide +kernel)) (by kernel_rfl) ha (by decide +kernel) (by decide +kernel) hs
  split at h
  · rename_i hx; cases h; subst hx; exact f_callB (bi_ex _) (clS_all hc) hg (o.fa.blt _ (by decide +kernel)) (by kernel_rfl) ha (by decide +kernel) (by decide +kernel) hs
  split at h
  · rename_i hx; cases h; subst hx; exact f_callB (bi_ex _) clS_sorted hg (o.fa.blt _ (by decide +kernel)) (by kernel_rfl) ha (by decide +kernel) (by decide +kernel) hs
  · cases h
theorem fill_len {α : Type} {c : D → α} {pl : List Pl} {np m : Nat} (h : plFits pl m np = true) (xs : List α) (hl : xs.length = m) : (fill c pl xs).length = np := by
  cases pl with
  | nil =>
    have h : decide (m = np) = true := h
    rw [decide_eq_true_eq] at h
    show xs.length = np
    rw [hl, h]
  | cons a r =>
    have h : decide ((a :: r).length = np) = true := h
    rw [decide_eq_true_eq] at h
    unfold fill
    rw [List.length_map]; exact h
theorem cUser_ok (o : XO X C cc p n l) (hc : X.calm = true) (tk : Takes X W) (hf : Fe X C W p n f) {i np : Nat} {x : Str} {q : Pos} (hi : cc.fns[i]? = some (x, np)) (hg : Gl X x) (hn : nm2 x = true) {args : List Expr} {kws : List Keyword} {e' : E} (h : cUser cc f i np args kws = some e') :
    PEf X C W (.Call (.Name x q) args kws pos) (ev ⟨p.run n, p.sub, p.turns⟩ e') := by
  unfold cUser at h
  split at h
  · cases h
  · split at h
    · rename_i hs
      rw [Bool.and_eq_true_iff] at hs
      split at h
      · rename_i as bs s e1 e2 e3
        split at h
        · rename_i hz
          rw [Bool.and_eq_true_iff] at hz
          have hm := List.mem_of_find?_eq_some e3
          have hp := List.find?_some e3
          simp only [Bool.and_eq_true, decide_eq_true_eq] at hp
          obtain ⟨s1, s2, s3, s4⟩ := s
          obtain ⟨⟨p1, p2⟩, p3⟩ := hp
          dsimp only at p1 p2 p3 hz h
          subst p1 p2 p3
          obtain ⟨fa, fd, ps, FO, hmg, hk, hsh⟩ := o.fa.fns _ _ _ hi
          have hl1 : ∀ δ M as' M', evs ⟨p.run n, p.sub, p.turns⟩ as δ M = .ok as' M' → as'.length = _ := fun δ M as' M' z => (evs_len z).trans (mapO_len e1)
          have hl2 : ∀ δ M as' M', evs ⟨p.run n, p.sub, p.turns⟩ bs δ M = .ok as' M' → as'.length = _ := fun δ M as' M' z => ((evs_len z).trans (mapO_len e2)).trans (List.length_map _)
          have hpl : ∀ y, Pl.cst y ∈ s4 → y.sv.isSome = true := fun y hy => List.all_eq_true.mp hz.2 _ hy
          split at h
          · cases h
            exact f_user (G := p.run n s1) (fun cc1 hs1 hv1 hw1 hn1 hg1 => mcall_phi cc1 hs1 hv1 hw1 hn1 hg1) FO (o.room hc) (hsh _ _ _ hm) (fun xs hx => fill_len hz.1 xs hx) tk hg hmg hk (mapO_as hf e1 hs.1) (mapO_ks hf e2) hs.2 (nm2_ok hn).1 hs.1 hl1 hl2 hpl
          · cases h
            exact f_user (G := pcall (p.run n s1)) (fun cc1 hs1 hv1 hw1 hn1 hg1 => pcall_phi cc1 hs1 hv1 hw1 hn1 hg1) FO (o.room hc) (hsh _ _ _ hm) (fun xs hx => fill_len hz.1 xs hx) tk hg hmg hk (mapO_as hf e1 hs.1) (mapO_ks hf e2) hs.2 (nm2_ok hn).1 hs.1 hl1 hl2 hpl
        · cases h
      · cases h
    · cases h
theorem cGet_ok (hu : X.A.units + 64 < cLine) (hf : Fe X C W p n f) {o : Expr} {name : Str} {apos : Pos} {args : List Expr} {kws : List Keyword} {e' : E} (h : cGet f o name apos pos args kws = some e') : PEf X C W (.Call (.Attribute o name apos) args kws pos) (ev ⟨p.run n, p.sub, p.turns⟩ e') := by
  unfold cGet at h
  split at h
  · split at h
    · rename_i hz
      obtain ⟨rfl, z1, z2, z3, z4⟩ := hz
      split at h
      · rename_i e1 e2 e3
        cases h
        exact f_dget hu (hf _ _ e1) (hf _ _ e2) (hf _ _ e3) z1 z2 z3 z4
      · cases h
    · cases h
  · cases h
theorem cPopi_ok (hf : Fe X C W p n f) {o : Expr} {name : Str} {apos : Pos} {args : List Expr} {kws : List Keyword} {e' : E} (h : cPopi f o name apos pos args kws = some e') : PEf X C W (.Call (.Attribute o name apos) args kws pos) (ev ⟨p.run n, p.sub, p.turns⟩ e') := by
  unfold cPopi at h
  split at h
  · split at h
    · rename_i hz
      obtain ⟨rfl, z1, z2, z4⟩ := hz
      split at h
      · rename_i k' e1 e2
        cases h
        exact f_mt PySem.F.plainAttrs_list PySem.F.slot_list_pop PySem.F.type_list_pop mtS_popi (hf _ _ e1) (as_cons (hf _ _ e2) as_nil z2) (by simp [z2]) z1 (by simp) z4
      · cases h
    · cases h
  · cases h
theorem cDz_ok (o : XO X C cc p n l) (hc : X.calm = true) (hf : Fe X C W p n f) (hg : Gl X "dict") {q : Pos} {args : List Expr} {e' : E} (h : cDz f l args = some e') : PEf X C W (.Call (.Name "dict" q) args [] pos) (ev ⟨p.run n, p.sub, p.turns⟩ e') := by
  unfold cDz at h
  split at h
  · split at h
    · rename_i hz
      obtain ⟨rfl, z1, z2, z3⟩ := hz
      split at h
      · rename_i e1 e2
        cases h
        exact f_dzip hc hg (o.fa.blt _ (by decide +kernel)) (o.gl z1) (o.fa.blt _ (by decide +kernel)) (hf _ _ e1) (hf _ _ e2) z2 z3
      · cases h
    · cases h
  · cases h
theorem cMeth_ok (hu : X.A.units + 64 < cLine) (hf : Fe X C W p n f) {o : Expr} {name : Str} {apos : Pos} {args : List Expr} {kws : List Keyword} {e' : E} (h : cMeth f o name apos pos args kws = some e') : PEf X C W (.Call (.Attribute o name apos) args kws pos) (ev ⟨p.run n, p.sub, p.turns⟩ e') := by
  unfold cMeth at h
  split at h
  · cases h; rename_i hg; exact cGet_ok hu hf hg
  split at h
  · cases h; rename_i hg; exact cPopi_ok hf hg
  split at h
  · rename_i o' m as e1 e2 e3 _ _
    split at h
    · rename_i hz
      simp only [Bool.and_eq_true, decide_eq_true_eq] at hz
      obtain ⟨⟨⟨z1, z2⟩, z3⟩, z4⟩ := hz
      cases h
      have ha := mapO_as hf e3 z1
      have ho := hf _ _ e1
      unfold mtOf at e2
      cases args with
      | nil =>
        cases e3
        split at e2
        · rename_i hx; cases e2; subst hx; exact f_mt0 PySem.F.plainAttrs_list PySem.F.slot_list_append PySem.F.type_list_append mtS_append ho z2 z4
        split at e2
        · rename_i hx; cases e2; subst hx; exact f_mt0 PySem.F.plainAttrs_list PySem.F.slot_list_pop PySem.F.type_list_pop mtS_pop ho z2 z4
        split at e2
        · rename_i hx; cases e2; subst hx; exact f_mt0 PySem.F.plainAttrs_str PySem.F.slot_str_join PySem.F.type_str_join mtS_join ho z2 z4
        split at e2
        · rename_i hx; cases e2; subst hx; exact f_mt0 PySem.F.plainAttrs_list PySem.F.slot_list_extend PySem.F.type_list_extend mtS_extend ho z2 z4
        split at e2
        · rename_i hx; cases e2; subst hx; exact f_mt0 PySem.F.plainAttrs_list PySem.F.slot_list_insert PySem.F.type_list_insert mtS_insert ho z2 z4
        · cases e2
      | cons a r =>
        split at e2
        · rename_i hx; cases e2; subst hx; exact f_mt PySem.F.plainAttrs_list PySem.F.slot_list_append PySem.F.type_list_append mtS_append ho ha z1 z2 z3 z4
        split at e2
        · rename_i hx; cases e2; subst hx; exact f_mt PySem.F.plainAttrs_list PySem.F.slot_list_pop PySem.F.type_list_pop mtS_pop ho ha z1 z2 z3 z4
        split at e2
        · rename_i hx; cases e2; subst hx; exact f_mt PySem.F.plainAttrs_str PySem.F.slot_str_join PySem.F.type_str_join mtS_join ho ha z1 z2 z3 z4
        split at e2
        · rename_i hx; cases e2; subst hx; exact f_mt PySem.F.plainAttrs_list PySem.F.slot_list_extend PySem.F.type_list_extend mtS_extend ho ha z1 z2 z3 z4
        split at e2
        · rename_i hx; cases e2; subst hx; exact f_mt PySem.F.plainAttrs_list PySem.F.slot_list_insert PySem.F.type_list_insert mtS_insert ho ha z1 z2 z3 z4
        · cases e2
    · cases h
  · cases h
theorem cCall_ok (o : XO X C cc p n l) (to : TO X W) (hf : Fe X C W p n f) {fn : Expr} {args : List Expr} {kws : List Keyword} {e' : E} (h : cCall cc l f fn args kws pos = some e') : PEf X C W (.Call fn args kws pos) (ev ⟨p.run n, p.sub, p.turns⟩ e') := by
  unfold cCall at h
  split at h
  · rename_i hcl
    have hc : X.calm = true := o.calm.trans hcl
    split at h
    · rename_i x q
      split at h
      · rename_i hx
        rw [Bool.and_eq_true_iff, decide_eq_true_eq] at hx
        have hg := o.gl hx.2
        unfold cGlob at h
        split at h
        · split at h
          · rename_i hi
            split at h
            · rename_i hy
              subst hy
              exact cUser_ok o hc (to hc) hf hi hg hx.1 h
            · cases h
          · cases h
        · split at h
          · split at h
            · rename_i hy
              subst hy
              exact cIsi_ok o hf hg h
            · split at h
              · rename_i hy
                subst hy
                exact cDz_ok o hc hf hg h
              split at h
              · rename_i hy
                exact cBi_ok hf h fun fs ha hs => f_callM (bi_ex _) clS_comb hg (o.fa.combs _ hy) ha (nm2_ok hx.1).1 hs
              · split at h
                · rename_i b hb
                  exact cBi_ok hf h fun fs ha hs => biOf_ok o hc hb hg ha hs
                · cases h
          · cases h
      · cases h
    · exact cMeth_ok o.units hf h
    · cases h
  · cases h
end
end Mini

set_option Elab.async false
set_option linter.all false
set_option maxRecDepth 100000
/-! Mini 13: from the text to the small language: every expression, comprehensions. -/
namespace Mini
open PySem PySem.Spec L2

def plainTest : Expr → Bool
  | .UnaryOp .Not _ _ => false
  | .BoolOp .. => false
  | .IfExp .. => false
  | .Compare .. => false
  | _ => true
theorem plainTest_ok {e : Expr} (h : plainTest e = true) (env : Env) : ∀ whole, isTrue e env whole = (do let v ← whole; standAt e.pos; holding [v] (truthy v)) := by
  intro whole
  cases e with
  | UnaryOp op a pos => cases op <;> first | rfl | cases h
  | BoolOp => cases h
  | IfExp => cases h
  | Compare => cases h
  | _ => rfl
def noSlice : Expr → Bool
  | .Slice .. => false
  | _ => true
theorem plainIx_ok {b : Expr} (h : noSlice b = true) : PlainIx b := by
  intro o i
  cases b <;> first | rfl | cases h
def canStore (l : Lc) (x : Str) : Bool := decide (l.kd x = some .local) || (decide (l.kd x = some .cell) && l.fnb x)
def names (l : Lc) : List Expr → Option (List Nat)
  | [] => some []
  | .Name x _ :: r => if canStore l x then (match ixOf l.N x, names l r with
    | some i, some is => some (i :: is)
    | _, _ => none) else none
  | _ :: _ => none
def cTg (l : Lc) : Expr → Option Tg
  | .Name x _ => if canStore l x then (match ixOf l.N x with
    | some i => some (.one i)
    | none => none) else none
  | .Tuple es _ _ => if l.calm then (match names l es with
    | some is => some (.many is)
    | none => none) else none
  | _ => none
def noSet : Expr → Bool
  | .Set .. => false
  | _ => true
theorem noSet_ok {e : Expr} (h : noSet e = true) (env : Env) : ∀ x, foldedSetIterable e env x = pure x := by
  intro x
  cases e <;> first | rfl | cases h
def rngArgs (l : Lc) : Expr → Option (List Expr)
  | .Call (.Name x _) as [] _ => if x = "range" ∧ l.kd x = some .globalImplicit ∧ as.all noStar = true then some as else none
  | _ => none
/-- for i, x in enumerate(a) -/
def cEn (l : Lc) (f : Expr → Option E) : Expr → Expr → Option (IK × List E)
  | .Tuple _ _ _, .Call (.Name x _) [a] [] _ => if x = "enumerate" ∧ l.kd "enumerate" = some .globalImplicit ∧ noStar a = true then (match f a with
    | some a' => some (.enum, [a'])
    | none => none) else none
  | _, _ => none
def cIter (l : Lc) (f : Expr → Option E) (tg e : Expr) : Option (IK × List E) := match cEn l f tg e with
  | some r => some r
  | none => match rngArgs l e with
  | some [a] => (match f a with
    | some a' => some (.r1, [a'])
    | none => none)
  | some [a, b] => (match f a, f b with
    | some a', some b' => some (.r2, [a', b'])
    | _, _ => none)
  | _ => (match f e with
    | some e' => some (.seq, [e'])
    | none => none)
section
variable {X : Cx} {C : Str → Addr} {W : WX} {cc : Cc} {p : Prg} {n : Nat} {l : Lc} {f : Expr → Option E} {pos : Pos}
theorem canStore_ok (o : XO X C cc p n l) {x : Str} (h : canStore l x = true) : L2.Loc X.env.scope x ∧ (X.fn x = true ∨ X.env.scope.names.lookup x = some .local) := by
  unfold canStore at h
  simp only [Bool.or_eq_true, Bool.and_eq_true, decide_eq_true_eq] at h
  unfold L2.Loc
  rw [o.sc, o.fn]
  rcases h with h | ⟨h1, h2⟩
  · exact ⟨.inl h, .inr h⟩
  · exact ⟨.inr h1, .inl h2⟩
theorem names_ok (o : XO X C cc p n l) : ∀ {es : List Expr} {is : List Nat}, names l es = some is → PGs X es (gNs is) ∧ es.length = is.length ∧ (assignEach es X.env).length = is.length ∧ (assignEach es X.env).findIdx? (·.1) = none
  | [], _, h => by cases h; exact ⟨pgs_nil, rfl, rfl, rfl⟩
  | e :: r, _, h => by
    cases e with
    | Name x q =>
      have h : (if canStore l x then (match ixOf l.N x, names l r with
        | some i, some is => some (i :: is)
        | _, _ => none) else none) = some _ := h
      split at h
      · rename_i hs
        split at h
        · rename_i i is e1 e2
          cases h
          obtain ⟨h1, h2⟩ := canStore_ok o hs
          obtain ⟨g1, g2, g3, g4⟩ := names_ok o e2
          refine ⟨pgs_cons (pg_name o.nd (by rw [o.N]; exact ixOf_ok e1) h1 h2) g1 rfl, congrArg (· + 1) g2, congrArg (· + 1) g3, ?_⟩
          show List.findIdx? (·.1) ((false, _) :: assignEach r X.env) = none
          rw [List.findIdx?_cons]
          simp only [Bool.false_eq_true, if_false, g4]
          rfl
        · cases h
      · cases h
    | _ => cases h
theorem cTg_ok (o : XO X C cc p n l) {e : Expr} {tg : Tg} (h : cTg l e = some tg) : PG X e (gT X.G tg) := by
  cases e with
  | Name x q =>
    have h : (if canStore l x then (match ixOf l.N x with
      | some i => some (Tg.one i)
      | none => none) else none) = some _ := h
    split at h
    · rename_i hs
      split at h
      · rename_i i e1
        cases h
        obtain ⟨h1, h2⟩ := canStore_ok o hs
        exact pg_name o.nd (by rw [o.N]; exact ixOf_ok e1) h1 h2
      · cases h
    · cases h
  | Tuple es k q =>
    have h : (if l.calm then (match names l es with
      | some is => some (Tg.many is)
      | none => none) else none) = some _ := h
    split at h
    · rename_i hc
      split at h
      · rename_i is e1
        cases h
        obtain ⟨g1, g2, g3, g4⟩ := names_ok o e1
        exact pg_tup (o.calm.trans hc) g1 g3 g4
      · cases h
    · cases h
  | _ => cases h
theorem cIter_ok (o : XO X C cc p n l) (hf : Fe X C W p n f) {e tg : Expr} {k : IK} {es : List E} (h : cIter l f tg e = some (k, es)) : PI X tg e (wI X.G C W k (evs ⟨p.run n, p.sub, p.turns⟩ es)) := by
  have rng : ∀ {as : List Expr}, rngArgs l e = some as → ∃ q q2, e = .Call (.Name "range" q) as [] q2 ∧ Gl X "range" ∧ as.all noStar = true := by
    intro as hr
    unfold rngArgs at hr
    split at hr
    · split at hr
      · rename_i hx
        obtain ⟨hx, hk, hs⟩ := hx
        cases hr
        subst hx
        exact ⟨_, _, rfl, o.gl hk, hs⟩
      · cases hr
    · cases hr
  unfold cIter at h
  split at h
  · rename_i r0 he
    cases h
    unfold cEn at he
    split at he
    · split at he
      · rename_i hz
        obtain ⟨rfl, z1, z2⟩ := hz
        split at he
        · rename_i a' e1
          cases he
          exact pi_en (o.gl z1) (o.fa.blt _ (by decide +kernel)) (as_cons (hf _ _ e1) as_nil z2) z2
        · cases he
      · cases he
    · cases he
  split at h
  · rename_i a hr
    obtain ⟨q, q2, rfl, hg, hs⟩ := rng hr
    split at h
    · rename_i a' e1
      cases h
      exact pi_r1 hg (o.fa.blt _ (by decide +kernel)) (as_cons (hf _ _ e1) as_nil (List.all_eq_true.mp hs _ List.mem_cons_self)) (List.all_eq_true.mp hs _ List.mem_cons_self)
    · cases h
  · rename_i a b hr
    obtain ⟨q, q2, rfl, hg, hs⟩ := rng hr
    have s1 : noStar a = true := List.all_eq_true.mp hs _ List.mem_cons_self
    have s2 : noStar b = true := List.all_eq_true.mp hs _ (List.mem_cons_of_mem _ List.mem_cons_self)
    split at h
    · rename_i a' b' e1 e2
      cases h
      exact pi_r2 hg (o.fa.blt _ (by decide +kernel)) (as_cons (hf _ _ e1) (as_cons (hf _ _ e2) as_nil s2) s1) s1 s2
    · cases h
  · split at h
    · rename_i e1
      cases h
      exact pi_seq (hf _ _ e1)
    · cases h
end

/-! ### a comprehension's block -/
def ownOf (N : List Str) (scope : Scope) : List (Str × Nat) := scope.names.filterMap fun y => if y.2 = .local ∨ y.2 = .cell then (match ixOf N y.1 with
  | some i => some (y.1, i)
  | none => none) else none
def blkC (N : List Str) (sc scope : Scope) (own : List (Str × Nat)) : Bool :=
  decide (scope.kind = .function) && scope.names.all (fun y => decide (scope.names.lookup y.1 = some y.2)) && own.all (fun q => decide (N[q.2]? = some q.1)) &&
    scope.names.all (fun y => !decide (y.2 = .free) || (decide (sc.names.lookup y.1 = some .cell) || decide (sc.names.lookup y.1 = some .free))) &&
    scope.names.all (fun y => !(decide (y.2 = .local) || decide (y.2 = .cell)) || (decide (y.1 ∈ own.map (·.1)) || !decide (y.1 ∈ N)))
theorem blkC_ok {N : List Str} {sc scope : Scope} {own : List (Str × Nat)} (h : blkC N sc scope own = true) : BlkOk N sc scope own := by
  unfold blkC at h
  simp only [Bool.and_eq_true, List.all_eq_true, decide_eq_true_eq, Bool.or_eq_true, Bool.not_eq_true', decide_eq_false_iff_not, Bool.or_eq_false_iff] at h
  obtain ⟨⟨⟨⟨h1, h2⟩, h3⟩, h4⟩, h5⟩ := h
  refine ⟨h1, h2, h3, fun y hy hf => ?_, fun y hy hl => ?_⟩
  · rcases h4 y hy with z | z
    · exact absurd hf z
    · exact z
  · rcases h5 y hy with ⟨z1, z2⟩ | z
    · rcases hl with hl | hl
      · exact absurd hl z1
      · exact absurd hl z2
    · exact z
def Lc.blk (l : Lc) (scope : Scope) : Lc := ⟨l.N, relS scope l.sc, fun x => scope.names.lookup x == some .cell, l.calm⟩
/-- target, iterable, tests -/
def cBlk (l : Lc) (F : Lc → Expr → Option E) (tgE iter : Expr) (ifs : List Expr) (scope : Scope) : Option (Tg × IK × List E × List E) :=
  if l.calm && noSet iter && blkC l.N l.sc scope (ownOf l.N scope) then (match cTg (l.blk scope) tgE, cIter l (F l) tgE iter with
    | some tg, some (k, its) => if tg.all.all (fun j => decide (j ∈ (ownOf l.N scope).map (·.2))) then (match ifs with
      | [] => some (tg, k, its, [])
      | [c] => (match F (l.blk scope) c with
        | some c' => some (tg, k, its, [c'])
        | none => none)
      | _ => none) else none
    | _, _ => none) else none
def cComp (l : Lc) (F : Lc → Expr → Option E) (elt tgE iter : Expr) (ifs : List Expr) (scope : Scope) : Option E :=
  match cBlk l F tgE iter ifs scope, F (l.blk scope) elt with
  | some (tg, k, its, ifs'), some el => some (.comp el tg k its ifs' ((ownOf l.N scope).map (·.2)))
  | _, _ => none
def cScomp (l : Lc) (F : Lc → Expr → Option E) (elt tgE iter : Expr) (ifs : List Expr) (scope : Scope) : Option E :=
  match cBlk l F tgE iter ifs scope, F (l.blk scope) elt with
  | some (tg, k, its, ifs'), some el => some (.scomp el tg k its ifs' ((ownOf l.N scope).map (·.2)))
  | _, _ => none
def cDcomp (l : Lc) (F : Lc → Expr → Option E) (ky vl tgE iter : Expr) (ifs : List Expr) (scope : Scope) : Option E :=
  match cBlk l F tgE iter ifs scope, F (l.blk scope) ky, F (l.blk scope) vl with
  | some (tg, k, its, ifs'), some ky', some vl' => some (.dcomp ky' vl' tg k its ifs' ((ownOf l.N scope).map (·.2)))
  | _, _, _ => none

abbrev Tri (X : Cx) (C : Str → Addr) (W : WX) (p : Prg) (n : Nat) (e : Expr) (e' : E) : Prop :=
  PEf X C W e (ev ⟨p.run n, p.sub, p.turns⟩ e') ∧ PTf X C W e (evT ⟨p.run n, p.sub, p.turns⟩ e') ∧ ∀ op es pos, e = .BoolOp op es pos → PWf X C W e (evT ⟨p.run n, p.sub, p.turns⟩ e')
abbrev FOk (C : Str → Addr) (cc : Cc) (p : Prg) (n : Nat) (F : Lc → Expr → Option E) : Prop := ∀ (X : Cx) (W : WX) (l : Lc) (e : Expr) (e' : E), F l e = some e' → XO X C cc p n l → TO X W → Tri X C W p n e e'
section
variable {X : Cx} {C : Str → Addr} {W : WX} {cc : Cc} {p : Prg} {n : Nat} {l : Lc} {F : Lc → Expr → Option E} {pos : Pos}
theorem tri_plain {e : Expr} {g : List A → List O → R A} {e' : E} (he : evP ⟨p.run n, p.sub, p.turns⟩ e' = mkF g) (hp : plainTest e = true) (h : PEf X C W e g) : Tri X C W p n e e' := by
  have h1 : ev ⟨p.run n, p.sub, p.turns⟩ e' = g := congrArg EF.v he
  have h2 : evT ⟨p.run n, p.sub, p.turns⟩ e' = dT g := congrArg EF.t he
  unfold Tri
  rw [h1, h2]
  refine ⟨h, t_tru h (plainTest_ok hp X.env), fun op es pos hb => ?_⟩
  subst hb; cases hp
/-- .. where the function is the expression's own -/
theorem tri_ev {e : Expr} {e' : E} (he : evT ⟨p.run n, p.sub, p.turns⟩ e' = dT (ev ⟨p.run n, p.sub, p.turns⟩ e')) (hp : plainTest e = true) (h : PEf X C W e (ev ⟨p.run n, p.sub, p.turns⟩ e')) : Tri X C W p n e e' := by
  refine ⟨h, ?_, fun op es pos hb => ?_⟩
  · rw [he]; exact t_tru h (plainTest_ok hp X.env)
  · subst hb; cases hp
theorem XO.blk (o : XO X C cc p n l) {scope : Scope} {own : List (Str × Nat)} (ok : BlkOk X.N X.env.scope scope own) (s : Shared) (H : Hp) (Ca : Addr) (cl : List (Str × Addr)) (fp : List Addr) : XO (X.blk s H scope (compEnvC scope cl Ca X.env) fp) C cc p n (l.blk scope) where
  fa := o.fa
  N := o.N
  nd := o.nd
  sc := by
    show relS scope X.env.scope = relS scope l.sc
    rw [o.sc]
  kind := ok.kind
  fn := fun _ => rfl
  calm := o.calm
  room := o.room
  units := o.units
theorem TO.blk {X : Cx} {s : Shared} {H : Hp} {scope : Scope} {env : Env} {fp : List Addr} : TO (X.blk s H scope env fp) W0 := by
  intro _ u s' h
  obtain ⟨a, B, sI, pins, σ, H', cls, d, _, _, _, _, _, _, _, _, w⟩ := h
  exact w.elim
/-- a block's parts -/
structure BlkParts (X : Cx) (C : Str → Addr) (W : WX) (p : Prg) (n : Nat) (tgE iter : Expr) (ifs : List Expr) (scope : Scope) (own : List (Str × Nat)) (tg : Tg) (k : IK) (its ifs' : List E) : Prop where
  calm : X.calm = true
  pi : PI X tgE iter (wI X.G C W k (evs ⟨p.run n, p.sub, p.turns⟩ its))
  ok : BlkOk X.N X.env.scope scope own
  pg : ∀ (s : Shared) (H : Hp) (Ca : Addr) (cl : List (Str × Addr)) (fp : List Addr), PG (X.blk s H scope (compEnvC scope cl Ca X.env) fp) tgE (gT X.G tg)
  pt : ∀ (s : Shared) (H : Hp) (Ca : Addr) (cl : List (Str × Addr)) (fp : List Addr), PTs (X.blk s H scope (compEnvC scope cl Ca X.env) fp) ifs (tT X.G C W0 (evA ⟨p.run n, p.sub, p.turns⟩ ifs'))
  hs : ∀ x, foldedSetIterable iter X.env x = pure x
  hin : ∀ j ∈ tg.all, j ∈ own.map (·.2)
theorem cBlk_ok (hF : FOk C cc p n F) (o : XO X C cc p n l) (to : TO X W) {tgE iter : Expr} {ifs : List Expr} {scope : Scope} {tg : Tg} {k : IK} {its ifs' : List E} (h : cBlk l F tgE iter ifs scope = some (tg, k, its, ifs')) : BlkParts X C W p n tgE iter ifs scope (ownOf l.N scope) tg k its ifs' := by
  unfold cBlk at h
  split at h
  · rename_i hz
    simp only [Bool.and_eq_true] at hz
    obtain ⟨⟨z1, z2⟩, z3⟩ := hz
    have ok : BlkOk X.N X.env.scope scope (ownOf l.N scope) := by
      rw [o.N, o.sc]; exact blkC_ok z3
    split at h
    · rename_i tg k its e1 e2
      split at h
      · rename_i hin
        rw [List.all_eq_true] at hin
        have hin : ∀ j ∈ tg.all, j ∈ (ownOf l.N scope).map (·.2) := fun j hj => by simpa using hin j hj
        split at h
        · cases h
          refine ⟨o.calm.trans z1, cIter_ok o (fun e e' he => (hF _ _ _ _ _ he o to).1) e2, ok, fun s H Ca cl fp => cTg_ok (o.blk ok s H Ca cl fp) e1, fun s H Ca cl fp => ?_, noSet_ok z2 _, hin⟩
          refine ⟨fun pins s1 σ H1 Q I q => pts_nil.run pins s1 σ H1 Q I ?_⟩
          obtain ⟨B, δ, M, vs, as, hat, hg⟩ := q
          exact hg H1 hat
        · rename_i c
          split at h
          · rename_i c' e4
            cases h
            exact ⟨o.calm.trans z1, cIter_ok o (fun e e' he => (hF _ _ _ _ _ he o to).1) e2, ok, fun s H Ca cl fp => cTg_ok (o.blk ok s H Ca cl fp) e1, fun s H Ca cl fp => pts_one (hF _ _ _ _ _ e4 (o.blk ok s H Ca cl fp) TO.blk).2.1, noSet_ok z2 _, hin⟩
          · cases h
        · cases h
      · cases h
    · cases h
  · cases h
theorem blk_elt (hF : FOk C cc p n F) (o : XO X C cc p n l) {scope : Scope} {own : List (Str × Nat)} (ok : BlkOk X.N X.env.scope scope own) {e : Expr} {e' : E} (h : F (l.blk scope) e = some e') (s : Shared) (H : Hp) (Ca : Addr) (cl : List (Str × Addr)) (fp : List Addr) :
    PE (X.blk s H scope (compEnvC scope cl Ca X.env) fp) e (tE X.G C W0 (ev ⟨p.run n, p.sub, p.turns⟩ e')) := (hF _ _ _ _ _ h (o.blk ok s H Ca cl fp) TO.blk).1
theorem cComp_parts (hF : FOk C cc p n F) (o : XO X C cc p n l) (to : TO X W) {elt tgE iter : Expr} {ifs : List Expr} {scope : Scope} {e' : E} (h : cComp l F elt tgE iter ifs scope = some e') :
    ∃ (el : E) (tg : Tg) (k : IK) (its ifs' : List E), e' = .comp el tg k its ifs' ((ownOf l.N scope).map (·.2)) ∧ BlkParts X C W p n tgE iter ifs scope (ownOf l.N scope) tg k its ifs' ∧ F (l.blk scope) elt = some el := by
  unfold cComp at h
  split at h
  · rename_i tg k its ifs' el e1 e2
    cases h
    exact ⟨el, tg, k, its, ifs', rfl, cBlk_ok hF o to e1, e2⟩
  · cases h
theorem cScomp_parts (hF : FOk C cc p n F) (o : XO X C cc p n l) (to : TO X W) {elt tgE iter : Expr} {ifs : List Expr} {scope : Scope} {e' : E} (h : cScomp l F elt tgE iter ifs scope = some e') :
    ∃ (el : E) (tg : Tg) (k : IK) (its ifs' : List E), e' = .scomp el tg k its ifs' ((ownOf l.N scope).map (·.2)) ∧ BlkParts X C W p n tgE iter ifs scope (ownOf l.N scope) tg k its ifs' ∧ F (l.blk scope) elt = some el := by
  unfold cScomp at h
  split at h
  · rename_i tg k its ifs' el e1 e2
    cases h
    exact ⟨el, tg, k, its, ifs', rfl, cBlk_ok hF o to e1, e2⟩
  · cases h
theorem cDcomp_parts (hF : FOk C cc p n F) (o : XO X C cc p n l) (to : TO X W) {ky vl tgE iter : Expr} {ifs : List Expr} {scope : Scope} {e' : E} (h : cDcomp l F ky vl tgE iter ifs scope = some e') :
    ∃ (ky' vl' : E) (tg : Tg) (k : IK) (its ifs' : List E), e' = .dcomp ky' vl' tg k its ifs' ((ownOf l.N scope).map (·.2)) ∧ BlkParts X C W p n tgE iter ifs scope (ownOf l.N scope) tg k its ifs' ∧ F (l.blk scope) ky = some ky' ∧ F (l.blk scope) vl = some vl' := by
  unfold cDcomp at h
  split at h
  · rename_i tg k its ifs' ky' vl' e1 e2 e3
    cases h
    exact ⟨ky', vl', tg, k, its, ifs', rfl, cBlk_ok hF o to e1, e2, e3⟩
  · cases h
end

/-! ### every expression -/
def cPart (f : Expr → Option E) : Option Expr → Option (Bool × E)
  | none => some (false, .cst .non)
  | some e => (match f e with
    | some e' => some (true, e')
    | none => none)
def cSub (f : Expr → Option E) (a : Expr) : Expr → Option E
  | .Slice none none (some (.UnaryOp .USub (.Constant (.int 1) _ _) _)) _ => (match f a with
    | some a' => some (.rev a')
    | none => none)
  | .Slice lo hi none _ => (match f a, cPart f lo, cPart f hi with
    | some a', some (bl, l'), some (bh, h') => some (.sl bl bh a' l' h')
    | _, _, _ => none)
  | b => if noSlice b then (match f a, f b with
    | some a', some b' => some (.ix a' b')
    | _, _ => none) else none
def cUn (f : Expr → Option E) (o : UnaryOp) (a : Expr) : Option E := match o, f a with
  | .USub, some a' => some (.neg a')
  | .Not, some a' => some (.nt a')
  | _, _ => none
def cBool (f : Expr → Option E) (op : BoolOp) (pos : Pos) : List Expr → Option E
  | [a] => f a
  | a :: b :: r => (match f a, f (.BoolOp op (b :: r) pos) with
    | some a', some b' => (match op with
      | .And => some (.an a' b')
      | .Or => some (.orr a' b'))
    | _, _ => none)
  | [] => none
def cComps (f : Expr → Option E) (a : Expr) : List CmpOp → List Expr → Option E
  | [o], [b] => if behindInMarks o b then none else (match f a, f b with
    | some a', some b' => some (.cmp (cmpI o) a' b')
    | _, _ => none)
  | [o, q], [b, c] => if lastMarks [o, q] [b, c] then none else (match f a, f b, f c with
    | some a', some b', some c' => some (.chn (cmpI o) (cmpI q) a' b' c')
    | _, _, _ => none)
  | _, _ => none
def cBin (f : Expr → Option E) (a : Expr) (o : Operator) (b : Expr) : Option E := match binI o, f a, f b with
  | some o', some a', some b' => some (.bin o' a' b')
  | _, _, _ => none
def cIf (f : Expr → Option E) (t a b : Expr) : Option E := match f t, f a, f b with
  | some t', some a', some b' => some (.ifx t' a' b')
  | _, _, _ => none
def cTup (f : Expr → Option E) (es : List Expr) : Option E := if es.all noStar then (match mapO f es with
  | some es' => some (.tup es')
  | none => none) else none
def cLst (f : Expr → Option E) (es : List Expr) : Option E := if es.all noStar then (match mapO f es with
  | some es' => some (.lst es')
  | none => none) else none
def cLc (l : Lc) (F : Lc → Expr → Option E) (elt : Expr) (gs : List Comprehension) (scope : Scope) : Option E := match gs with
  | [⟨tg, iter, ifs, as⟩] => if as = 0 then cComp l F elt tg iter ifs scope else none
  | _ => none
def cSc (l : Lc) (F : Lc → Expr → Option E) (elt : Expr) (gs : List Comprehension) (scope : Scope) : Option E := match gs with
  | [⟨tg, iter, ifs, as⟩] => if as = 0 then cScomp l F elt tg iter ifs scope else none
  | _ => none
def cDc (l : Lc) (F : Lc → Expr → Option E) (ky vl : Expr) (gs : List Comprehension) (scope : Scope) : Option E := match gs with
  | [⟨tg, iter, ifs, as⟩] => if as = 0 then cDcomp l F ky vl tg iter ifs scope else none
  | _ => none
def compE1 (cc : Cc) (F : Lc → Expr → Option E) (l : Lc) : Expr → Option E
  | .Name x _ => cName cc l x
  | .Constant c _ _ => cConst c
  | .BinOp a o b _ => cBin (F l) a o b
  | .UnaryOp o a _ => cUn (F l) o a
  | .Compare a os bs _ => cComps (F l) a os bs
  | .BoolOp op es pos => cBool (F l) op pos es
  | .IfExp t a b _ => cIf (F l) t a b
  | .Tuple es _ _ => cTup (F l) es
  | .List es _ => cLst (F l) es
  | .Subscript a b _ => cSub (F l) a b
  | .Call fn args kws pos => cCall cc l (F l) fn args kws pos
  | .ListComp elt gs scope _ => cLc l F elt gs scope
  | .SetComp elt gs scope _ => cSc l F elt gs scope
  | .DictComp ky vl gs scope _ => cDc l F ky vl gs scope
  | .Dict [] [] _ => some .dnew
  | _ => none
def compE (cc : Cc) : Nat → Lc → Expr → Option E
  | 0 => fun _ _ => none
  | k + 1 => compE1 cc (compE cc k)
section
variable {C : Str → Addr} {cc : Cc} {p : Prg} {n : Nat} {F : Lc → Expr → Option E}
theorem cPart_ok {X : Cx} {W : WX} {f : Expr → Option E} (hf : Fe X C W p n f) {o : Option Expr} {b : Bool} {e' : E} (h : cPart f o = some (b, e')) : PartF X C W o b (ev ⟨p.run n, p.sub, p.turns⟩ e') := by
  unfold cPart at h
  split at h
  · cases h; exact .none
  · split at h
    · rename_i e1
      cases h
      exact .some (hf _ _ e1)
    · cases h
theorem compE1_ok (hF : FOk C cc p n F) : FOk C cc p n (compE1 cc F) := by
  intro X W l e e' h o to
  have hf : Fe X C W p n (F l) := fun e e' he => (hF _ _ _ _ _ he o to).1
  have ht : ∀ e e', F l e = some e' → PTf X C W e (evT ⟨p.run n, p.sub, p.turns⟩ e') := fun e e' he => (hF _ _ _ _ _ he o to).2.1
  cases e with
  | Name x q =>
    have h : cName cc l x = some e' := h
    refine tri_ev ?_ rfl (cName_ok o h)
    unfold cName at h
    repeat' split at h
    all_goals first
      | (cases h; rfl)
      | cases h
  | Constant c j q =>
    have h : cConst c = some e' := h
    refine tri_ev ?_ rfl (cConst_ok h)
    unfold cConst at h
    repeat' split at h
    all_goals first
      | (cases h; rfl)
      | cases h
  | BinOp a op b q =>
    have h : cBin (F l) a op b = some e' := h
    unfold cBin at h
    split at h
    · rename_i o' a' b' e1 e2 e3
      cases h
      rw [binI_ok e1]
      exact tri_plain rfl rfl (f_bin o' (hf _ _ e2) (hf _ _ e3))
    · cases h
  | UnaryOp op a q =>
    have h : cUn (F l) op a = some e' := h
    unfold cUn at h
    split at h
    · rename_i a' e1 _
      cases h
      exact tri_plain rfl rfl (f_neg (hf _ _ e1))
    · rename_i a' e1 _
      cases h
      exact ⟨f_not (hf _ _ e1), t_not (ht _ _ e1), fun _ _ _ z => nomatch z⟩
    · cases h
  | Compare a os bs q =>
    have h : cComps (F l) a os bs = some e' := h
    unfold cComps at h
    split at h
    · rename_i op b _
      split at h
      · cases h
      · rename_i hm
        split at h
        · rename_i a' b' e1 e2
          cases h
          have hm : behindInMarks (cmpOp (cmpI op)) b = false := by rw [cmpI_ok]; simpa using hm
          have h1 := f_cmp (pos := q) _ o.units (hf _ _ e1) (hf _ _ e2) hm
          have h2 := t_cmp (pos := q) _ o.units (hf _ _ e1) (hf _ _ e2) hm
          rw [cmpI_ok] at h1 h2
          exact ⟨h1, h2, fun _ _ _ z => nomatch z⟩
        · cases h
    · rename_i op q2 b c _
      split at h
      · cases h
      · rename_i hm
        split at h
        · rename_i a' b' c' e1 e2 e3
          cases h
          have hm : lastMarks [cmpOp (cmpI op), cmpOp (cmpI q2)] [b, c] = false := by rw [cmpI_ok, cmpI_ok]; simpa using hm
          have h1 := f_chn (pos := q) _ _ o.units (hf _ _ e1) (hf _ _ e2) (hf _ _ e3) hm
          have h2 := t_chn (pos := q) _ _ o.units (hf _ _ e1) (hf _ _ e2) (hf _ _ e3) hm
          rw [cmpI_ok, cmpI_ok] at h1 h2
          exact ⟨h1, h2, fun _ _ _ z => nomatch z⟩
        · cases h
    · cases h
  | BoolOp op es q =>
    have h : cBool (F l) op q es = some e' := h
    unfold cBool at h
    split at h
    · rename_i a _
      have w : PWf X C W (.BoolOp op [a] q) (evT ⟨p.run n, p.sub, p.turns⟩ e') := by
        cases op with
        | And => exact pw_and1 (pos := q) (ht _ _ h)
        | Or => exact pw_or1 (pos := q) (ht _ _ h)
      exact ⟨f_bool1 (hf _ _ h), w.pt, fun _ _ _ _ => w⟩
    · split at h
      · rename_i a' b' e1 e2
        have w2 := (hF _ _ _ _ _ e2 o to).2.2 _ _ _ rfl
        cases op with
        | And =>
          cases h
          have w := w_an (pos := q) (ht _ _ e1) w2
          exact ⟨f_an (hf _ _ e1) (hf _ _ e2), w.pt, fun _ _ _ _ => w⟩
        | Or =>
          cases h
          have w := w_or (pos := q) (ht _ _ e1) w2
          exact ⟨f_or (hf _ _ e1) (hf _ _ e2), w.pt, fun _ _ _ _ => w⟩
      · cases h
    · cases h
  | IfExp t a b q =>
    have h : cIf (F l) t a b = some e' := h
    unfold cIf at h
    split at h
    · rename_i t' a' b' e1 e2 e3
      cases h
      exact ⟨f_ifx (ht _ _ e1) (hf _ _ e2) (hf _ _ e3), t_ifx (ht _ _ e1) (ht _ _ e2) (ht _ _ e3), fun _ _ _ z => nomatch z⟩
    · cases h
  | Tuple es k q =>
    have h : cTup (F l) es = some e' := h
    unfold cTup at h
    split at h
    · rename_i hs
      split at h
      · rename_i es' e1
        cases h
        exact tri_plain rfl rfl (f_tup (mapO_as hf e1 hs))
      · cases h
    · cases h
  | List es q =>
    have h : cLst (F l) es = some e' := h
    unfold cLst at h
    split at h
    · rename_i hs
      split at h
      · rename_i es' e1
        cases h
        exact tri_plain rfl rfl (f_lst (mapO_as hf e1 hs))
      · cases h
    · cases h
  | Subscript a b q =>
    have h : cSub (F l) a b = some e' := h
    unfold cSub at h
    split at h
    · split at h
      · rename_i a' e1
        cases h
        exact tri_plain rfl rfl (f_rev (hf _ _ e1))
      · cases h
    · split at h
      · rename_i a' bl l' bh h' e1 e2 e3
        cases h
        exact tri_plain rfl rfl (f_sl (hf _ _ e1) (cPart_ok hf e2) (cPart_ok hf e3))
      · cases h
    · split at h
      · rename_i hs
        split at h
        · rename_i a' b' e1 e2
          cases h
          exact tri_plain rfl rfl (f_ix o.units (hf _ _ e1) (hf _ _ e2) (plainIx_ok hs))
        · cases h
      · cases h
  | Call fn args kws q =>
    have h : cCall cc l (F l) fn args kws q = some e' := h
    refine tri_ev ?_ rfl (cCall_ok o to hf h)
    unfold cCall at h
    split at h
    · split at h
      · split at h
        · unfold cGlob at h
          split at h
          · split at h
            · split at h
              · unfold cUser at h
                repeat' split at h
                all_goals first
                  | (cases h; rfl)
                  | cases h
              · cases h
            · cases h
          · split at h
            · split at h
              · unfold cIsi at h
                repeat' split at h
                all_goals first
                  | (cases h; rfl)
                  | cases h
              split at h
              · unfold cDz at h
                repeat' split at h
                all_goals first
                  | (cases h; rfl)
                  | cases h
              · split at h
                · unfold cBi at h
                  repeat' split at h
                  all_goals first
                    | (cases h; rfl)
                    | cases h
                · split at h
                  · unfold cBi at h
                    repeat' split at h
                    all_goals first
                      | (cases h; rfl)
                      | cases h
                  · cases h
            · cases h
        · cases h
      · unfold cMeth at h
        split at h
        · rename_i hg
          cases h
          unfold cGet at hg
          repeat' split at hg
          all_goals first
            | (cases hg; rfl)
            | cases hg
        split at h
        · rename_i hg
          cases h
          unfold cPopi at hg
          repeat' split at hg
          all_goals first
            | (cases hg; rfl)
            | cases hg
        repeat' split at h
        all_goals first
          | (cases h; rfl)
          | cases h
      · cases h
    · cases h
  | ListComp elt gs scope q =>
    have h : cLc l F elt gs scope = some e' := h
    unfold cLc at h
    split at h
    · split at h
      · rename_i hz
        subst hz
        obtain ⟨el, tg, k, its, ifs', rfl, b, h1⟩ := cComp_parts hF o to h
        exact tri_plain rfl rfl (f_comp b.calm o.nd b.pi b.ok b.pg b.pt (blk_elt hF o b.ok h1) b.hs b.hin)
      · cases h
    · cases h
  | SetComp elt gs scope q =>
    have h : cSc l F elt gs scope = some e' := h
    unfold cSc at h
    split at h
    · split at h
      · rename_i hz
        subst hz
        obtain ⟨el, tg, k, its, ifs', rfl, b, h1⟩ := cScomp_parts hF o to h
        exact tri_plain rfl rfl (f_scomp b.calm o.nd b.pi b.ok b.pg b.pt (blk_elt hF o b.ok h1) b.hs b.hin)
      · cases h
    · cases h
  | DictComp ky vl gs scope q =>
    have h : cDc l F ky vl gs scope = some e' := h
    unfold cDc at h
    split at h
    · split at h
      · rename_i hz
        subst hz
        obtain ⟨ky', vl', tg, k, its, ifs', rfl, b, h1, h2⟩ := cDcomp_parts hF o to h
        exact tri_plain rfl rfl (f_dcomp b.calm o.nd b.pi b.ok b.pg b.pt (blk_elt hF o b.ok h1) (blk_elt hF o b.ok h2) b.hs b.hin)
      · cases h
    · cases h
  | Dict ks vs q =>
    cases ks with
    | nil =>
      cases vs with
      | nil =>
        cases h
        exact tri_plain rfl rfl f_dnew
      | cons _ _ => cases h
    | cons _ _ => cases h
  | _ => cases h
theorem compE_ok : ∀ k, FOk C cc p n (compE cc k)
  | 0 => fun X W l e e' h => by cases h
  | k + 1 => compE1_ok (compE_ok k)
end
end Mini

set_option Elab.async false
set_option linter.all false
set_option maxRecDepth 100000
/-! Mini 14: from the text to the small language: statements, defs, the whole program. -/
namespace Mini
open PySem PySem.Spec L2

def noComp : Expr → Bool
  | .ListComp .. => false
  | .SetComp .. => false
  | .DictComp .. => false
  | _ => true
theorem noComp_ok {e : Expr} (h : noComp e = true) (t : Option Expr) (line : Nat) (env : Env) : swapsWith e t line env = pure false := by
  cases e <;> first | rfl | cases h
theorem noComp_sole {e : Expr} (h : noComp e = true) (t : Expr) (line : Nat) (env : Env) : swapsWithSole [t] e line env = pure false := noComp_ok h (some t) line env
def noTup : Expr → Bool
  | .Tuple .. => false
  | _ => true
/-- a store that takes the comprehension's list over at once -/
def swC (l : Lc) (x : Str) (q p2 : Pos) (scope : Scope) : Bool := decide (l.kd x = some .local) && (q.line == p2.line) && !(scope.names.any fun (n, k) => n == x && (k == .local || k == .cell))
section
variable {X : Cx} {C : Str → Addr} {W : WX} {cc : Cc} {p : Prg} {n : Nat} {l : Lc}
theorem sw_any (o : XO X C cc p n l) {x : Str} {q p2 : Pos} {line : Nat} {e : Expr} {scope : Scope} (he : (∃ elt gs, e = .ListComp elt gs scope p2) ∨ (∃ elt gs, e = .SetComp elt gs scope p2) ∨ ∃ ky vl gs, e = .DictComp ky vl gs scope p2) : swapsWith e (some (.Name x q)) line X.env = pure (swC l x q p2 scope) := by
  have hb : X.env.blockKind = .function := by unfold Env.blockKind; rw [o.kind]; rfl
  have hk : X.env.kindOf x = l.kd x := by show X.env.scope.names.lookup x = _; rw [o.sc]; rfl
  have e : (l.kd x == some NameKind.local) = decide (l.kd x = some NameKind.local) := by
    by_cases h : l.kd x = some NameKind.local
    · rw [h]; rfl
    · rw [decide_eq_false h, beq_eq_false_iff_ne]; exact h
  rcases he with ⟨elt, gs, rfl⟩ | ⟨elt, gs, rfl⟩ | ⟨ky, vl, gs, rfl⟩
  all_goals
    unfold swapsWith swC
    simp only [hb, hk, Expr.pos]
    rw [e]
    rfl
theorem sw_one (o : XO X C cc p n l) {x : Str} {q p2 : Pos} {line : Nat} {elt : Expr} {gs : List Comprehension} {scope : Scope} : swapsWith (.ListComp elt gs scope p2) (some (.Name x q)) line X.env = pure (swC l x q p2 scope) := sw_any o (.inl ⟨_, _, rfl⟩)
theorem sw_set (o : XO X C cc p n l) {x : Str} {q p2 : Pos} {line : Nat} {elt : Expr} {gs : List Comprehension} {scope : Scope} : swapsWith (.SetComp elt gs scope p2) (some (.Name x q)) line X.env = pure (swC l x q p2 scope) := sw_any o (.inr (.inl ⟨_, _, rfl⟩))
theorem sw_dct (o : XO X C cc p n l) {x : Str} {q p2 : Pos} {line : Nat} {ky vl : Expr} {gs : List Comprehension} {scope : Scope} : swapsWith (.DictComp ky vl gs scope p2) (some (.Name x q)) line X.env = pure (swC l x q p2 scope) := sw_any o (.inr (.inr ⟨_, _, _, rfl⟩))
end

/-! ### statements -/
def cSet (l : Lc) (F F' : Lc → Expr → Option E) (x : Str) (q : Pos) (e : Expr) : S := if canStore l x then (match ixOf l.N x with
  | some i => if noComp e then (match F l e with
      | some e' => .asg (.one i) e'
      | none => .nev) else (match e with
      | .ListComp elt gs scope p2 => if l.calm then (match cLc l F' elt gs scope with
        | some e' => .asg (.one i) e'
        | none => .nev) else .nev
      | .SetComp elt gs scope p2 => if l.calm then (match cSc l F' elt gs scope with
        | some e' => .asg (.one i) e'
        | none => .nev) else .nev
      | .DictComp ky vl gs scope p2 => if l.calm then (match cDc l F' ky vl gs scope with
        | some e' => .asg (.one i) e'
        | none => .nev) else .nev
      | _ => .nev)
  | none => .nev) else .nev
def cAsg (l : Lc) (F F' : Lc → Expr → Option E) (e : Expr) : Expr → S
  | .Name x q => cSet l F F' x q e
  | .Tuple es k q => if noComp e && noTup e then (match cTg l (.Tuple es k q), F l e with
    | some tg, some e' => .asg tg e'
    | _, _ => .nev) else .nev
  | .Subscript o i _ => if noComp e && noSlice i then (match F l o, F l i, F l e with
    | some o', some i', some e' => .puti o' i' e'
    | _, _, _ => .nev) else .nev
  | _ => .nev
def augI : Operator → Option Bin
  | .Add => some .add
  | .Sub => some .sub
  | _ => none
def cAug (l : Lc) (F : Lc → Expr → Option E) (o : Operator) (e : Expr) : Expr → S
  | .Name x _ => if canStore l x then (match ixOf l.N x, augI o, F l e with
    | some i, some o', some e' => .aug i o' e'
    | _, _, _ => .nev) else .nev
  | _ => .nev
def cFor (l : Lc) (F : Lc → Expr → Option E) (G : Lc → Stmt → S) (tg iter : Expr) (body : List Stmt) : S := if l.calm && noSet iter then (match cTg l tg, cIter l (F l) tg iter with
  | some t, some (k, its) => .forS t k its (body.map (G l))
  | _, _ => .nev) else .nev
def cWhile (l : Lc) (F : Lc → Expr → Option E) (G : Lc → Stmt → S) (c : Expr) (body : List Stmt) : S := if l.calm then (match F l c with
  | some c' => .whl c' (body.map (G l))
  | none => .nev) else .nev
def cRaise (cc : Cc) (l : Lc) (F : Lc → Expr → Option E) : Option Expr → S
  | some (.Call (.Name x _) [a] [] _) => if l.calm && nm2 x && decide (l.kd x = some .globalImplicit) then (match cc.excF.lookup x with
    | some f => if noStar a then (match F l a with
      | some a' => .raiseF x f a'
      | none => .nev) else .nev
    | none => (match a with
      | .Constant (.str _) _ _ => if x ∈ cc.excs then .raise x else .nev
      | _ => .nev)) else .nev
  | _ => .nev
def Lc.quiet (l : Lc) : Lc := ⟨l.N, l.sc, l.fnb, false⟩
def isCls (cc : Cc) (x : Str) : Bool := decide (x ∈ cc.excs) || (cc.excF.lookup x).isSome
/-- what a clause hands back -/
def cX1 (cc : Cc) (l : Lc) (n : Option Str) : Expr → Option XE
  | .Constant .none _ _ => some (.cst .non)
  | .Constant (.bool b) _ _ => some (.cst (.bl b))
  | .Constant (.int i) _ _ => some (.cst (.int i))
  | .Constant (.str z) _ _ => some (.cst (.str z))
  | .List [] _ => some .nil
  | .Attribute (.Name y _) f _ => if n = some y ∧ f ∈ cc.flds then some (.fld f) else none
  | .UnaryOp .Not (.Call (.Name z _) [.Name y _, .Name c _] [] _) _ => if z = "isinstance" ∧ l.kd "isinstance" = some .globalImplicit ∧ n = some y ∧ nm2 c = true ∧ l.kd c = some .globalImplicit ∧ isCls cc c = true then some (.nisi c) else none
  | _ => none
def cX (cc : Cc) (l : Lc) (n : Option Str) : Expr → Option XE
  | .Tuple es k q => if es.all noStar then (match mapO (cX1 cc l n) es with
    | some qs => if qs.length ≤ 1000 then some (.tup qs) else none
    | none => none) else none
  | e => cX1 cc l n e
def cCls (cc : Cc) (l : Lc) : List ExceptHandler → Option (List (Str × XE))
  | [] => some []
  | .ExceptHandler (some (.Name x _)) none [.Return (some e) _] _ :: r => if nm2 x = true ∧ l.kd x = some .globalImplicit ∧ isCls cc x = true then (match cX cc l none e, cCls cc l r with
    | some q, some qs => some ((x, q) :: qs)
    | _, _ => none) else none
  | .ExceptHandler (some (.Name x _)) (some n) [.Return (some e) _] _ :: r => if nm2 x = true ∧ l.kd x = some .globalImplicit ∧ isCls cc x = true ∧ nm2 n = true ∧ l.kd n = some .local ∧ (ixOf l.N n).isSome = true then (match cX cc l (some n) e, cCls cc l r with
    | some q, some qs => some ((x, q) :: qs)
    | _, _ => none) else none
  | _ => none
def cTry1 (cc : Cc) (l : Lc) (G : Lc → Stmt → S) (body : List Stmt) : List ExceptHandler → S
  | [.ExceptHandler (some (.Name x _)) none (b₀ :: b) _] => if l.calm && nm2 x && decide (l.kd x = some .globalImplicit) && cc.tr && isCls cc x then .tryS (body.map (G l)) x ((b₀ :: b).map (G l.quiet)) else .nev
  | _ => .nev
def cTry (cc : Cc) (l : Lc) (G : Lc → Stmt → S) (body : List Stmt) : List ExceptHandler → S
  | [] => .nev
  | h :: r => if l.calm && cc.tr then (match cCls cc l (h :: r) with
    | some q => .tryM (body.map (G l)) q
    | none => cTry1 cc l G body (h :: r)) else .nev
def cEx (l : Lc) (F : Lc → Expr → Option E) (e : Expr) : S := match e with
  | .Constant (.str _) _ _ => .pass
  | e => if noComp e then (match F l e with
    | some e' => .ex e'
    | none => .nev) else .nev
def compS1 (cc : Cc) (F F' : Lc → Expr → Option E) (G : Lc → Stmt → S) (l : Lc) : Stmt → S
  | .Pass _ => .pass
  | .Break _ => .brk
  | .Continue _ => .cnt
  | .Expr e _ => cEx l F e
  | .Return (some e) _ => (match F l e with
    | some e' => .ret e'
    | none => .nev)
  | .Return none _ => .retN
  | .Assign [tg] e _ => cAsg l F F' e tg
  | .AugAssign tg o e _ => cAug l F o e tg
  | .If c a b _ => (match F l c with
    | some c' => .ifS c' (a.map (G l)) (b.map (G l))
    | none => .nev)
  | .For tg iter body [] _ => cFor l F G tg iter body
  | .While c body [] _ => cWhile l F G c body
  | .Raise e none _ => cRaise cc l F e
  | .Try body hs [] [] _ => cTry cc l G body hs
  | _ => .nev
def compSt (cc : Cc) (j : Nat) : Nat → Lc → Stmt → S
  | 0 => fun _ _ => .nev
  | k + 1 => compS1 cc (compE cc (j + 1)) (compE cc j) (compSt cc j k)
structure SO (X : Cx) (W : WX) : Prop where
  tk : X.calm = true → Takes X W
  ps : X.calm = true → PassesOwn (model X.prog X.w) X.A X.env X.xe
  st : X.calm = true → X.stack = X.env :: X.outer
  fr : X.calm = true → X.env.frame = some X.env.locals
abbrev GOk (C : Str → Addr) (cc : Cc) (p : Prg) (n : Nat) (G : Lc → Stmt → S) : Prop := ∀ (X : Cx) (W : WX) (l : Lc) (st : Stmt), XO X C cc p n l → SO X W → PSf X C W st (exS ⟨p.run n, p.sub, p.turns⟩ (G l st))
section
variable {C : Str → Addr} {cc : Cc} {p : Prg} {n : Nat} {F F' : Lc → Expr → Option E} {G : Lc → Stmt → S}
theorem GOk.list (hG : GOk C cc p n G) {X : Cx} {W : WX} {l : Lc} (o : XO X C cc p n l) (so : SO X W) : ∀ sts : List Stmt, PSsf X C W sts (exs ⟨p.run n, p.sub, p.turns⟩ (sts.map (G l)))
  | [] => s_nil
  | st :: r => s_cons (hG X W l st o so) (GOk.list hG o so r)
theorem XO.quiet {X : Cx} {l : Lc} (o : XO X C cc p n l) (a : Addr) (pn : List (Addr × Obj)) : XO (X.suite a pn) C cc p n l.quiet where
  fa := o.fa
  N := o.N
  nd := o.nd
  sc := o.sc
  kind := o.kind
  fn := o.fn
  calm := rfl
  room := fun h => by cases h
  units := o.units
theorem XO.tr {X : Cx} {l : Lc} (o : XO X C cc p n l) (pn : List (Addr × Obj)) (xe : Value → Shared → Prop) : XO (X.tr pn xe) C cc p n l where
  fa := o.fa
  N := o.N
  nd := o.nd
  sc := o.sc
  kind := o.kind
  fn := o.fn
  calm := o.calm
  room := o.room
  units := o.units
theorem cSet_ok (hF : FOk C cc p n F) (hF' : FOk C cc p n F') {X : Cx} {W : WX} {l : Lc} (o : XO X C cc p n l) (so : SO X W) {x : Str} {q pos : Pos} {e : Expr} : PSf X C W (.Assign [.Name x q] e pos) (exS ⟨p.run n, p.sub, p.turns⟩ (cSet l F F' x q e)) := by
  unfold cSet
  split
  · rename_i hs
    obtain ⟨h1, h2⟩ := canStore_ok o hs
    split
    · rename_i i e1
      have hi : X.N[i]? = some x := by rw [o.N]; exact ixOf_ok e1
      split
      · rename_i hn
        split
        · rename_i e' e2
          exact s_setL o.nd hi h1 h2 (hF _ _ _ _ _ e2 o so.tk).1 (noComp_ok hn _ _ _)
        · exact s_nev
      · split
        · rename_i elt gs scope p2 _
          split
          · rename_i hc
            split
            · rename_i e' e2
              unfold cLc at e2
              split at e2
              · split at e2
                · rename_i hz
                  subst hz
                  obtain ⟨el, tg, k, its, ifs', rfl, b, w1⟩ := cComp_parts hF' o so.tk e2
                  cases hsw : swC l x q p2 scope with
                  | true =>
                    have hl : X.env.scope.names.lookup x = some .local := by
                      rw [o.sc]
                      unfold swC at hsw
                      simp only [Bool.and_eq_true, decide_eq_true_eq] at hsw
                      exact hsw.1.1
                    exact s_setLc b.calm o.nd hi hl (by rw [sw_one o, hsw]) b.pi b.ok b.pg b.pt (blk_elt hF' o b.ok w1) b.hs b.hin
                  | false =>
                    exact s_setL o.nd hi h1 h2 (f_comp b.calm o.nd b.pi b.ok b.pg b.pt (blk_elt hF' o b.ok w1) b.hs b.hin) (by rw [sw_one o, hsw])
                · cases e2
              · cases e2
            · exact s_nev
          · exact s_nev
        · rename_i elt gs scope p2 _
          split
          · rename_i hc
            split
            · rename_i e' e2
              unfold cSc at e2
              split at e2
              · split at e2
                · rename_i hz
                  subst hz
                  obtain ⟨el, tg, k, its, ifs', rfl, b, w1⟩ := cScomp_parts hF' o so.tk e2
                  cases hsw : swC l x q p2 scope with
                  | true =>
                    have hl : X.env.scope.names.lookup x = some .local := by
                      rw [o.sc]
                      unfold swC at hsw
                      simp only [Bool.and_eq_true, decide_eq_true_eq] at hsw
                      exact hsw.1.1
                    exact s_setSc b.calm o.nd hi hl (by rw [sw_set o, hsw]) b.pi b.ok b.pg b.pt (blk_elt hF' o b.ok w1) b.hs b.hin
                  | false =>
                    exact s_setL o.nd hi h1 h2 (f_scomp b.calm o.nd b.pi b.ok b.pg b.pt (blk_elt hF' o b.ok w1) b.hs b.hin) (by rw [sw_set o, hsw])
                · cases e2
              · cases e2
            · exact s_nev
          · exact s_nev
        · rename_i ky vl gs scope p2 _
          split
          · rename_i hc
            split
            · rename_i e' e2
              unfold cDc at e2
              split at e2
              · split at e2
                · rename_i hz
                  subst hz
                  obtain ⟨ky', vl', tg, k, its, ifs', rfl, b, w1, w2⟩ := cDcomp_parts hF' o so.tk e2
                  cases hsw : swC l x q p2 scope with
                  | true =>
                    have hl : X.env.scope.names.lookup x = some .local := by
                      rw [o.sc]
                      unfold swC at hsw
                      simp only [Bool.and_eq_true, decide_eq_true_eq] at hsw
                      exact hsw.1.1
                    exact s_setDc b.calm o.nd hi hl (by rw [sw_dct o, hsw]) b.pi b.ok b.pg b.pt (blk_elt hF' o b.ok w1) (blk_elt hF' o b.ok w2) b.hs b.hin
                  | false =>
                    exact s_setL o.nd hi h1 h2 (f_dcomp b.calm o.nd b.pi b.ok b.pg b.pt (blk_elt hF' o b.ok w1) (blk_elt hF' o b.ok w2) b.hs b.hin) (by rw [sw_dct o, hsw])
                · cases e2
              · cases e2
            · exact s_nev
          · exact s_nev
        · exact s_nev
    · exact s_nev
  · exact s_nev
theorem noSwS {o i e : Expr} {q : Pos} (env : Env) : swappedStores [.Subscript o i q] e env = pure none := by
  first | rfl | (cases e <;> rfl)
theorem asgSub {o i : Expr} {q : Pos} {env : Env} (h : noSlice i = true) (v : Value) : assign (.Subscript o i q) env v = (do
      let ov ← holding [v] (eval o env)
      let iv ← holding [v, ov] (eval i env)
      standAt q
      holding [v, ov, iv] (setItem ov iv v)
      release [v, ov, iv] []) := by
  first | rfl | (cases i <;> first | rfl | cases h)
theorem noSw {ts : List Expr} {k : Nat} {q : Pos} {e : Expr} (h : noTup e = true) (env : Env) : swappedStores [.Tuple ts k q] e env = pure none := by
  cases e <;> first | rfl | cases h
theorem cAsg_ok (hF : FOk C cc p n F) (hF' : FOk C cc p n F') {X : Cx} {W : WX} {l : Lc} (o : XO X C cc p n l) (so : SO X W) {tg : Expr} {pos : Pos} {e : Expr} : PSf X C W (.Assign [tg] e pos) (exS ⟨p.run n, p.sub, p.turns⟩ (cAsg l F F' e tg)) := by
  unfold cAsg
  split
  · exact cSet_ok hF hF' o so
  · split
    · rename_i hn
      rw [Bool.and_eq_true_iff] at hn
      split
      · rename_i tg' e' e1 e2
        exact s_asg (hF _ _ _ _ _ e2 o so.tk).1 (cTg_ok o e1) (noComp_sole hn.1 _ _ _) (noSw hn.2 _) rfl
      · exact s_nev
    · exact s_nev
  · split
    · rename_i hn
      rw [Bool.and_eq_true_iff] at hn
      split
      · rename_i o' i' e' e1 e2 e3
        have hu := o.units
        exact s_puti (by omega) (hF _ _ _ _ _ e1 o so.tk).1 (hF _ _ _ _ _ e2 o so.tk).1 (hF _ _ _ _ _ e3 o so.tk).1 (asgSub hn.2) (noComp_sole hn.1 _ _ _) (noSwS _) rfl
      · exact s_nev
    · exact s_nev
  · exact s_nev
theorem cAug_ok (hF : FOk C cc p n F) {X : Cx} {W : WX} {l : Lc} (o : XO X C cc p n l) (so : SO X W) {tg : Expr} {op : Operator} {pos : Pos} {e : Expr} : PSf X C W (.AugAssign tg op e pos) (exS ⟨p.run n, p.sub, p.turns⟩ (cAug l F op e tg)) := by
  unfold cAug
  split
  · rename_i x q
    split
    · rename_i hs
      obtain ⟨h1, h2⟩ := canStore_ok o hs
      split
      · rename_i i o' e' e1 e2 e3
        have hi : X.N[i]? = some x := by rw [o.N]; exact ixOf_ok e1
        have he := (hF _ _ _ _ _ e3 o so.tk).1
        cases op <;> cases e2
        · exact s_aug (o := .add) (.inl rfl) o.nd hi h1 h2 he
        · exact s_aug (o := .sub) (.inr rfl) o.nd hi h1 h2 he
      · exact s_nev
    · exact s_nev
  · exact s_nev
theorem cls_ok {P : Program} {w : World} {K : Fg} {mg : Str → Option Value} {base : Heap} (fa : Fa P w K mg base C cc p n) {x : Str} (h : isCls cc x = true) : mg x = some (.ref (C x)) := by
  unfold isCls at h
  rw [Bool.or_eq_true, decide_eq_true_eq] at h
  rcases h with h | h
  · exact (fa.exc _ h).1
  · obtain ⟨f, e⟩ := Option.isSome_iff_exists.mp h
    exact (fa.excF _ _ (PySem.mem_of_lookup e)).1
/-- a clause's name -/
def NmO (X : Cx) (n : Option Str) (i : Option Nat) : Prop := ∀ y, n = some y → ∃ j, i = some j ∧ X.N[j]? = some y ∧ Vis X.env.scope y ∧ (y == ("__debug__" : Str)) = false ∧ (y == ("__classdict__" : Str)) = false
theorem cX1_ok {X : Cx} {l : Lc} (o : XO X C cc p n l) (T : XcF X.G C p.sub cc.flds) {nm : Option Str} {i : Option Nat} (hn : NmO X nm i) {e : Expr} {q : XE} (h : cX1 cc l nm e = some q) : PX X C p.sub i e q := by
  unfold cX1 at h
  split at h
  · cases h; exact x_cst (fun _ => pe_non) fun F => .non
  · cases h; exact x_cst (fun _ => pe_bl) fun F => .bl _
  · cases h; exact x_cst (fun _ => pe_int) fun F => .int _
  · cases h; exact x_cst (fun _ => pe_str) fun F => .str _
  · cases h; exact x_nil
  · split at h
    · rename_i hz
      cases h
      obtain ⟨j, rfl, h1, h2, h3, h4⟩ := hn _ hz.1
      exact x_fld T hz.2 h1 h2 h3 h4
    · cases h
  · split at h
    · rename_i hz
      cases h
      obtain ⟨rfl, z1, z2, z3, z4, z5⟩ := hz
      obtain ⟨j, rfl, h1, h2, h3, h4⟩ := hn _ z2
      exact x_nisi T h1 h2 h3 h4 (o.gl z1) (o.fa.blt _ (by decide +kernel)) (by kernel_rfl) (o.gl z4) (cls_ok o.fa z5) (nm2_ok z3).1
    · cases h
  · cases h
theorem cXs_ok {X : Cx} {l : Lc} (o : XO X C cc p n l) (T : XcF X.G C p.sub cc.flds) {nm : Option Str} {i : Option Nat} (hn : NmO X nm i) : ∀ {es : List Expr} {qs : List XE}, mapO (cX1 cc l nm) es = some qs → es.all noStar = true → PXs X C p.sub i es qs
  | [], _, h, _ => by cases h; exact xs_nil
  | e :: r, _, h, hs => by
    unfold mapO at h
    rw [List.all_cons, Bool.and_eq_true_iff] at hs
    split at h
    · rename_i b bs e1 e2
      cases h
      exact xs_cons (cX1_ok o T hn e1) (cXs_ok o T hn e2 hs.2) hs.1
    · cases h
theorem cX_ok {X : Cx} {l : Lc} (o : XO X C cc p n l) (T : XcF X.G C p.sub cc.flds) {nm : Option Str} {i : Option Nat} (hn : NmO X nm i) {e : Expr} {q : XE} (h : cX cc l nm e = some q) : PX X C p.sub i e q := by
  unfold cX at h
  split at h
  · split at h
    · rename_i hs
      split at h
      · rename_i qs e1
        split at h
        · rename_i hz
          cases h
          exact x_tup (cXs_ok o T hn e1 hs) hz
        · cases h
      · cases h
    · cases h
  · exact cX1_ok o T hn h
theorem cCls_ok {X : Cx} {l : Lc} (o : XO X C cc p n l) (T : XcF X.G C p.sub cc.flds) : ∀ {hds : List ExceptHandler} {qs : List (Str × XE)}, cCls cc l hds = some qs → XCls X C p.sub hds qs := by
  intro hds
  induction hds with
  | nil => intro qs h; cases h; exact .nil
  | cons h0 r ih =>
    intro qs h
    unfold cCls at h
    split at h
    · rename_i hq; cases hq
    · rename_i hq
      cases hq
      split at h
      · rename_i hz
        split at h
        · rename_i e1 e2
          cases h
          obtain ⟨z1, z2, z3⟩ := hz
          exact .bare ⟨o.gl z2, (nm2_ok z1).1, .inl (cls_ok o.fa z3)⟩ (cX_ok o T (fun y z => by cases z) e1) (ih e2)
        · cases h
      · cases h
    · rename_i hq
      cases hq
      split at h
      · rename_i hz
        split at h
        · rename_i e1 e2
          cases h
          obtain ⟨z1, z2, z3, z4, z5, z6⟩ := hz
          obtain ⟨j, hj⟩ := Option.isSome_iff_exists.mp z6
          have hj := ixOf_ok hj
          rw [← o.N] at hj
          have hk := z5
          unfold Lc.kd at hk
          rw [← o.sc] at hk
          exact .named ⟨o.gl z2, (nm2_ok z1).1, .inl (cls_ok o.fa z3)⟩ hj hk (cX_ok o T (fun y z => by cases z; exact ⟨j, rfl, hj, .inl hk, (nm2_ok z4).1, (nm2_ok z4).2.1⟩) e1) (ih e2)
        · cases h
      · cases h
    · cases h
theorem cTry1_ok (hG : GOk C cc p n G) {X : Cx} {W : WX} {l : Lc} (o : XO X C cc p n l) (so : SO X W) {body : List Stmt} {hs : List ExceptHandler} {pos : Pos} : PSf X C W (.Try body hs [] [] pos) (exS ⟨p.run n, p.sub, p.turns⟩ (cTry1 cc l G body hs)) := by
  unfold cTry1
  split
  · split
    · rename_i hc2
      simp only [Bool.and_eq_true, decide_eq_true_eq] at hc2
      obtain ⟨⟨⟨⟨c1, c2⟩, c3⟩, ct⟩, c4⟩ := hc2
      have hc := o.calm.trans c1
      have T := o.fa.xc ct
      exact s_try (fun j => T.exm j _) (so.st hc) (so.fr hc) ⟨o.gl c3, (nm2_ok c2).1, .inl (cls_ok o.fa c4)⟩ (so.tk hc) (fun W2 pn xe tk ps => hG.list (o.tr pn xe) ⟨fun _ => tk, fun _ => ps, so.st, so.fr⟩ _) fun ad pn => hG.list (o.quiet ad pn) ⟨(fun z => by cases z), (fun z => by cases z), (fun z => by cases z), (fun z => by cases z)⟩ _
    · exact s_nev
  · exact s_nev
theorem cTry_ok (hG : GOk C cc p n G) {X : Cx} {W : WX} {l : Lc} (o : XO X C cc p n l) (so : SO X W) {body : List Stmt} {hs : List ExceptHandler} {pos : Pos} : PSf X C W (.Try body hs [] [] pos) (exS ⟨p.run n, p.sub, p.turns⟩ (cTry cc l G body hs)) := by
  unfold cTry
  split
  · exact s_nev
  · split
    · rename_i hz
      rw [Bool.and_eq_true_iff] at hz
      have hc := o.calm.trans hz.1
      have T := o.fa.xc hz.2
      have hb : ∀ (W2 : WX) (pn : List (Addr × Obj)) (xe : Value → Shared → Prop), Takes (X.tr pn xe) W2 → PassesOwn (model X.prog X.w) X.A X.env xe → PSsf (X.tr pn xe) C W2 body (exs ⟨p.run n, p.sub, p.turns⟩ (body.map (G l))) := fun W2 pn xe tk ps => hG.list (o.tr pn xe) ⟨fun _ => tk, fun _ => ps, so.st, so.fr⟩ _
      split
      · rename_i q e1
        exact s_tryM T (so.st hc) (so.fr hc) o.nd (so.tk hc) hb (cCls_ok o T e1)
      · exact cTry1_ok hG o so
    · exact s_nev
theorem compS1_ok (hF : FOk C cc p n F) (hF' : FOk C cc p n F') (hG : GOk C cc p n G) : GOk C cc p n (compS1 cc F F' G) := by
  intro X W l st o so
  unfold compS1
  split
  · exact s_pass
  · exact s_brk
  · exact s_cnt
  · unfold cEx
    split
    · exact s_doc
    · split
      · rename_i hn
        split
        · rename_i e' e1
          exact s_expr (hF _ _ _ _ _ e1 o so.tk).1 (noComp_ok hn _ _ _)
        · exact s_nev
      · exact s_nev
  · split
    · rename_i e' e1
      exact s_ret (hF _ _ _ _ _ e1 o so.tk).1
    · exact s_nev
  · exact s_retN
  · exact cAsg_ok hF hF' o so
  · exact cAug_ok hF o so
  · split
    · rename_i c' e1
      exact s_if (hF _ _ _ _ _ e1 o so.tk).2.1 (hG.list o so _) (hG.list o so _)
    · exact s_nev
  · unfold cFor
    split
    · rename_i hc
      rw [Bool.and_eq_true_iff] at hc
      split
      · rename_i t k its e1 e2
        exact s_for (so.ps (o.calm.trans hc.1)) (o.calm.trans hc.1) (cIter_ok o (fun e e' he => (hF _ _ _ _ _ he o so.tk).1) e2) (cTg_ok o e1) (hG.list o so _) (noSet_ok hc.2 _)
      · exact s_nev
    · exact s_nev
  · unfold cWhile
    split
    · rename_i hc
      split
      · rename_i c' e1
        exact s_whl (so.ps (o.calm.trans hc)) (hF _ _ _ _ _ e1 o so.tk).2.1 (hG.list o so _)
      · exact s_nev
    · exact s_nev
  · unfold cRaise
    split
    · split
      · rename_i hc
        simp only [Bool.and_eq_true, decide_eq_true_eq] at hc
        obtain ⟨⟨c1, c2⟩, c3⟩ := hc
        have hc := o.calm.trans c1
        split
        · rename_i f e1
          obtain ⟨h1, h2⟩ := o.fa.excF _ _ (PySem.mem_of_lookup e1)
          split
          · rename_i hs
            split
            · rename_i a' e2
              exact s_raiseF hc (so.tk hc) (h2 X rfl rfl (o.gl c3) _ _ _ _ _ (o.room hc) (as_cons (hF _ _ _ _ _ e2 o so.tk).1 as_nil hs) hs)
            · exact s_nev
          · exact s_nev
        · split
          · split
            · rename_i hm
              obtain ⟨h1, h2⟩ := o.fa.exc _ hm
              exact s_raise hc (so.tk hc) (h2 X rfl rfl (o.gl c3) _ _ _ _ _)
            · exact s_nev
          · exact s_nev
      · exact s_nev
    · exact s_nev
  · exact cTry_ok hG o so
  · exact s_nev
theorem compSt_ok (j : Nat) : ∀ k, GOk C cc p n (compSt cc j k)
  | 0 => fun X W l st o so => s_nev
  | k + 1 => compS1_ok (compE_ok (j + 1)) (compE_ok j) (compSt_ok j k)
end

/-! ### defs -/
def compF (cc : Cc) (j k : Nat) (N : List Str) (scope : Scope) (body : List Stmt) : Fn := ⟨N.length, body.map (compSt cc j k ⟨N, scope, fun _ => true, true⟩)⟩
theorem al_start {K : Fg} {F : Hp} {own : List Addr} {vs : List V} {as : List A} (h : Al (RelA K F own) vs as) (m : Nat) : Al (RelS K F own) (vs.map some ++ List.replicate m none) (as ++ List.replicate m .un) := by
  refine Al.append ?_ ?_
  · clear m
    induction h with
    | nil => exact .nil
    | cons r _ ih => exact .cons (.inr ⟨_, rfl, r⟩) ih
  · induction m with
    | zero => exact .nil
    | succ m ih => exact .cons (.inl rfl) ih
section
variable {P : Program} {w : World} {K : PySem.W.Frag} {mg : Str → Option Value} {base : Heap} {C : Str → Addr} {cc : Cc} {p : Prg} {n : Nat}
theorem fn_ok (fa : Fa P w ⟨K, P, w⟩ mg base C cc p n) {i j k : Nat} {x qual : Str} {params : Arguments} {body : List Stmt} {scope : Scope} {dvs : List V} {kws : List (Str × V)} {f : Addr} {fd : FuncData} {N ps : List Str} (D : FunD K x qual params body scope dvs kws f fd) (SC : FnScope N ps scope)
    (hp : p.fns[i]? = some (compF cc j k N scope body)) : FnOk P w K mg base (L2.CX P w) (n + 1) f fd ps (Phi ⟨K, P, w⟩ C ps.length (p.run (n + 1) i)) := by
  refine D.ok SC (fun vs H Q E h => h.len) fun cdv A outer s H vs Q E hr h => ?_
  have o : XO (cxOf (L2.CX P w) P w K mg base N qual scope f cdv A outer s H E) C cc p n ⟨N, scope, fun _ => true, true⟩ := ⟨fa, rfl, SC.nd, rfl, SC.kind, fun _ => rfl, rfl, fun _ => hr, hr.units⟩
  have so : SO (cxOf (L2.CX P w) P w K mg base N qual scope f cdv A outer s H E) (fun cls d _ H => E cls d H) := ⟨fun _ => takes_of rfl rfl rfl rfl, fun _ => passes_of rfl, fun _ => rfl, fun _ => rfl⟩
  refine ⟨_, (compSt_ok j k).list o so body, ?_⟩
  obtain ⟨F, own, M, as, hl, c, ha, hm⟩ := h
  have hlv : vs.length = ps.length := by rw [ha.length, hl]
  refine ⟨⟨F, H, own⟩, as ++ List.replicate (N.length - as.length) .un, M, [], [], ⟨F, own, c, ?_, .nil⟩, ?_⟩
  · have e : vs.length = as.length := ha.length
    unfold L2.start
    rw [e]
    exact al_start ha _
  · have hm : (match (match p.fns[i]? with
      | some fn => fn.go ⟨p.run n, p.sub, p.turns⟩ as M
      | none => .no) with
      | .ok a M' => ∀ v H', At ⟨K, P, w⟩ ⟨F, H, own⟩ [] H' [] M' [v] [a] → Q v H'
      | .ex x M' => ∀ cls d H', ExR C x cls d H' → At ⟨K, P, w⟩ ⟨F, H, own⟩ [] H' [] M' [] [] → E cls d H'
      | .no => False) := hm
    rw [hp] at hm
    simp only [Fn.go, compF] at hm
    have drop : ∀ {σ δ H' M' vs' as'}, At ⟨K, P, w⟩ ⟨F, H, own⟩ σ H' δ M' vs' as' → At ⟨K, P, w⟩ ⟨F, H, own⟩ [] H' [] M' vs' as' := fun ⟨F', ow, c', _, hv⟩ => ⟨F', ow, c', .nil, hv⟩
    generalize exs ⟨p.run n, p.sub, p.turns⟩ (body.map (compSt cc j k ⟨N, scope, fun _ => true, true⟩)) (as ++ List.replicate (N.length - as.length) .un) M = r at hm
    cases r with
    | nx δ1 M1 => exact fun σ1 H1 hat => hm _ _ (drop (at_sc hat))
    | rt a M1 => exact fun v σ1 H1 δ1 hat => hm _ _ (drop hat)
    | ex y δ1 M1 => exact fun cls d σ1 H1 hx hat => hm _ _ _ hx (drop hat)
    | bk δ1 M1 => exact hm.elim
    | ct δ1 M1 => exact hm.elim
    | no => exact hm.elim
/-- what stands in the heap of every def, whatever the depth -/
structure Defs (P : Program) (w : World) (K : PySem.W.Frag) (mg : Str → Option Value) (base : Heap) (C : Str → Addr) (cc : Cc) (p : Prg) (j k : Nat) : Prop where
  fns : ∀ i x np, cc.fns[i]? = some (x, np) → ∃ (fa : Addr) (fd : FuncData) (N ps : List Str) (qual : Str) (params : Arguments) (body : List Stmt) (scope : Scope) (dvs : List V) (kws : List (Str × V)), FunD K x qual params body scope dvs kws fa fd ∧ FnScope N ps scope ∧ ps.length = np ∧
    p.fns[i]? = some (compF cc j k N scope body) ∧ mg x = some (.ref fa) ∧ ∀ m ks pl, (i, m, ks, pl) ∈ cc.shapes → BindG K fd ps m ks pl
  cons : ∀ x d, (x, d) ∈ cc.cons → ∃ (v : V) (u : Value), mg x = some u ∧ RelV v u ∧ ∀ F, Rep ⟨K, P, w⟩ F v d
  blt : ∀ x ∈ bNames, mg x = none
  combs : ∀ x ∈ cc.combs, mg x = some (.builtin "math.comb")
  exc : ∀ x ∈ cc.excs, mg x = some (.ref (C x)) ∧ ∀ X : Cx, X.G = ⟨K, P, w⟩ → X.mg = mg → Gl X x → ∀ (m : Str) (j : Nat) (p p2 pos : Pos), PMk X (.Call (.Name x p) [.Constant (.str m) j p2] [] pos) (fun _ H Q => Q (.ref (C x)) none H)
  excF : ∀ x f, (x, f) ∈ cc.excF → mg x = some (.ref (C x)) ∧ ∀ X : Cx, X.G = ⟨K, P, w⟩ → X.mg = mg → Gl X x → ∀ (a : Expr) (ta : TA) (p pos : Pos) (k : Nat), Room k X.A → PA X [a] ta → noStar a = true → PMk X (.Call (.Name x p) [a] [] pos) (Sup.tMk f (C x) ta)
  xc : cc.tr = true → XcF ⟨K, P, w⟩ C p.sub cc.flds
theorem Defs.fa (D : Defs P w K mg base C cc p j k) : ∀ n, Fa P w ⟨K, P, w⟩ mg base C cc p n
  | 0 => by
    refine ⟨fun i x np h => ?_, D.cons, D.blt, D.combs, D.exc, D.excF, D.xc⟩
    obtain ⟨fa, fd, N, ps, qual, params, body, scope, dvs, kws, h1, h2, h3, h4, h5, h6⟩ := D.fns i x np h
    refine ⟨fa, fd, ps, ⟨fun vs H Q E z => ?_, fun A outer s H args us vs Q E hr he hb hv hs => ?_⟩, h5, h1.kp, h6⟩
    · rw [z.len, h3]
    · obtain ⟨F, own, M, as, hl, c, ha, hm⟩ := hs
      exact hm.elim
  | n + 1 => by
    refine ⟨fun i x np h => ?_, D.cons, D.blt, D.combs, D.exc, D.excF, D.xc⟩
    obtain ⟨fa, fd, N, ps, qual, params, body, scope, dvs, kws, h1, h2, h3, h4, h5, h6⟩ := D.fns i x np h
    refine ⟨fa, fd, ps, ?_, h5, h1.kp, h6⟩
    have := fn_ok (Defs.fa D n) h1 h2 h4
    rw [h3] at this
    exact this
end
end Mini

set_option Elab.async false
set_option linter.all false
set_option maxRecDepth 100000
set_option maxHeartbeats 2000000
/-! Mini 15: the head with facts, how defs bind, the walk's end. -/
namespace Mini
open PySem PySem.Spec PyProof.Rows L2

/-! ### the Hook: He's, with built-in functions that the module's names stand for -/
abbrev AlM : Type := He.AlD × Bool
def blB (bs : List (Str × String)) (K : PySem.W.Frag) : Bool := bs.all fun q => He.eqO (PySem.W.nsIn K mainGlobals q.1) (some (some (.builtin q.2)))
def obsM (fa : List He.Fa) (fn : List He.DefD) (bs : List (Str × String)) (K : PySem.W.Frag) : AlM := (He.obsD fa fn K, blB bs K)
def obsMG (n : Nat) (fa : List He.Fa) (fn : List He.DefD) (bs : List (Str × String)) (g : Addr → Option Obj) : AlM := obsM fa fn bs (He.frG g (He.asD g n))
def SaysM (fa : List He.Fa) (fn : List He.DefD) (bs : List (Str × String)) (K : PySem.W.Frag) : Prop := obsM fa fn bs K = (He.valD fn, true)
def hookM (n : Nat) (fa : List He.Fa) (fn : List He.DefD) (bs : List (Str × String)) : PySem.W.Hook where
  α := AlM
  obs := fun s => obsMG n fa fn bs s.heap.get?
  val := fun _ => (He.valD fn, true)
  says := fun _ h => ∃ K : PySem.W.Frag, K.In h ∧ SaysM fa fn bs K
  of := fun _ _ e => ⟨_, He.frG_in, e⟩
  keeps := fun _ _ _ ⟨K, hK, c⟩ k => ⟨K, PySem.W.Frag.In.keeps hK k, c⟩
theorem obsMG_eq {n : Nat} {fa : List He.Fa} {fn : List He.DefD} {bs : List (Str × String)} {g : Addr → Option Obj} {s : Shared} (h : ∀ a, g a = s.heap.get? a) : obsMG n fa fn bs g = (hookM n fa fn bs).obs s := by
  have e : g = s.heap.get? := funext h
  rw [e] <;> rfl
section
variable {fa : List He.Fa} {fn : List He.DefD} {bs : List (Str × String)} {K : PySem.W.Frag}
theorem SaysM.d (c : SaysM fa fn bs K) : He.SaysD fa fn K := congrArg (fun z : AlM => z.1) c
theorem SaysM.bl (c : SaysM fa fn bs K) {x : Str} {id : String} (h : (x, id) ∈ bs) {hp : Heap} {mg : Str → Option Value} (X : K.In hp) (G : hp.Ns mainGlobals mg) : mg x = some (.builtin id) := by
  have e : blB bs K = true := congrArg (fun z : AlM => z.2) c
  exact PySem.W.mg_of X G (He.eqO_ok (List.all_eq_true.mp e _ h))
theorem SaysM.mem (c : SaysM fa fn bs K) {f : He.Fa} (h : f ∈ fa) : f.ok K = true := by
  have c1 := (He.ba (show ((fa.all fun f => f.ok K) && fn.all fun d => d.ok K) = true from congrArg (fun z : He.AlD => z.1) c.d)).1
  exact List.all_eq_true.mp c1 f h
end

/-! ### how defs bind -/
section
variable {K : PySem.W.Frag} {x qual : Str} {params : Arguments} {body : List Stmt} {scope : Scope} {dvs : List V} {kws : List (Str × V)} {f : Addr} {fd : FuncData} {ps : List Str}
def cB : D → Value
  | .bl b => .bool b
  | _ => .none
theorem bg_plain (F : FunD K x qual params body scope [] kws f fd) {m : Nat} (hm : ps.length = m)
    (h : ∀ (kV doc pm : Value) (an : Option Addr) (cdv ct : Value) (us : List Value), us.length = m → bindArgs (PySem.W.fnOf x qual params body scope .none kV doc pm an cdv ct) ⟨us, []⟩ = pure (ps.zip us)) : BindG K fd ps m [] [] := by
  obtain ⟨oc, od, dV, kV, doc, pm, an, cdv, ct, osl, rfl, lk, hcd, hD, hK⟩ := F.ex
  rcases hD with ⟨_, rfl⟩ | ⟨e, _⟩
  · refine ⟨cB, rfl, fun x hx => by simp at hx, fun s us ws X l1 l2 => ?_⟩
    have e : ws = [] := List.length_eq_zero_iff.mp l2
    subst e
    rw [List.append_nil]
    exact .of_eq (h kV doc pm an cdv ct us l1)
  · exact absurd rfl e
/-- positional values and keywords, all given -/
theorem bg_kw (F : FunD K x qual params body scope [] kws f fd) {m : Nat} {ks : List Str} {pl : List Pl} (hpl : ∀ y, Pl.cst y ∉ pl)
    (h : ∀ (kV doc pm : Value) (an : Option Addr) (cdv ct : Value) (us ws : List Value), us.length = m → ws.length = ks.length → bindArgs (PySem.W.fnOf x qual params body scope .none kV doc pm an cdv ct) ⟨us, ks.zip ws⟩ = pure (ps.zip (fill cB pl (us ++ ws)))) : BindG K fd ps m ks pl := by
  obtain ⟨oc, od, dV, kV, doc, pm, an, cdv, ct, osl, rfl, lk, hcd, hD, hK⟩ := F.ex
  rcases hD with ⟨_, rfl⟩ | ⟨e, _⟩
  · exact ⟨cB, rfl, fun y hy => absurd hy (hpl y), fun s us ws X l1 l2 => .of_eq (h kV doc pm an cdv ct us ws l1 l2)⟩
  · exact absurd rfl e
/-- one keyword-only parameter lacks: its default is a truth value -/
theorem bg_dfl {y : Str} {b : Bool} (F : FunD K x qual params body scope [] [(y, .bl b)] f fd) {m : Nat} {pl : List Pl} (hpl : ∀ z, Pl.cst z ∈ pl → z = .bl b) (hf : ∀ us : List Value, us.length = m → fill cB pl us = us ++ [.bool b])
    (h : ∀ (D : Addr) (doc pm : Value) (an : Option Addr) (cdv ct : Value) (us : List Value), us.length = m → KwChain D [(y, .bool b)] (bindArgs (PySem.W.fnOf x qual params body scope .none (.ref D) doc pm an cdv ct) ⟨us, []⟩) (ps.zip (us ++ [.bool b]))) : BindG K fd ps m [] pl := by
  obtain ⟨oc, od, dV, kV, doc, pm, an, cdv, ct, osl, rfl, lk, hcd, hD, hK⟩ := F.ex
  rcases hD with ⟨_, rfl⟩ | ⟨e, _⟩
  · rcases hK with e | ⟨D, rfl, hq⟩
    · cases e
    · obtain ⟨u, h1, h2⟩ := hq _ List.mem_cons_self
      have e : u = .bool b := h2
      subst e
      refine ⟨cB, rfl, fun z hz => ?_, fun s us ws X l1 l2 => ?_⟩
      · have := hpl z hz
        subst this
        exact ⟨.bl b, rfl, rfl⟩
      · have e : ws = [] := List.length_eq_zero_iff.mp l2
        subst e
        rw [List.append_nil, hf us l1]
        exact BindsTo.of_looks fun M => KwChain.looks X (fun q hq => by rw [List.mem_singleton.mp hq]; exact h1) (h D doc pm an cdv ct us l1)
  · exact absurd rfl e
end

def shp (ss : List (Nat × Nat × List Str × List Pl)) (i : Nat) : List (Nat × List Str × List Pl) := ss.filterMap fun s => if s.1 = i then some s.2 else none
theorem mem_shp {ss : List (Nat × Nat × List Str × List Pl)} {i m : Nat} {ks : List Str} {pl : List Pl} (h : (i, m, ks, pl) ∈ ss) : (m, ks, pl) ∈ shp ss i := List.mem_filterMap.mpr ⟨_, h, if_pos rfl⟩

/-! ### the law's own def -/
theorem reps_ints {K : Fg} {F : Hp} : ∀ ns : List Int, Reps K F (ns.map V.int) (ns.map D.int)
  | [] => .nil
  | n :: r => .cons (.int n) (reps_ints r)
theorem law_phi {K : Fg} {C : Str → Addr} {run : List A → List O → R A} {H : Hp} {a : Addr} {ns : List Int} (hS : SqL K H a (ns.map V.int)) (h : ∃ M, run [.d (.rol (ns.map .int))] [] = .ok (.d (.bl true)) M) : Phi K C 1 run [.ref a] H (fun v _ => v = .bl true) (fun _ _ _ => False) := by
  obtain ⟨M, h⟩ := h
  refine ⟨H, [], [], [.d (.rol (ns.map .int))], rfl, core_nil (Same.refl H), .cons (show Rep K H (.ref a) (.rol (ns.map .int)) from .rol hS (reps_ints ns)) .nil, ?_⟩
  rw [h]
  intro v H' hat
  obtain ⟨F, own, c, _, hv⟩ := hat
  cases hv with
  | cons r _ => exact bl_of r
theorem cx_none {P : Program} {w : World} (H : Hp) (s : Shared) (e : Value) (s' : Shared) : L2.CX P w [] H s (fun _ _ _ => False) e s' → False := by
  intro h
  obtain ⟨a, B, H', cls, d, _, _, _, _, _, _, _, z⟩ := h
  exact z
/-- the walk's end, errors as the world has them -/
theorem walk_M {l : PySem.W.OpenLaw} {n k : Nat} {q : Program} {loose : List Str} {XP : (Str → Option Value) → Heap → Prop} {YP : World → Heap → Prop} {d : DefRec} {x : Str}
    (hn : l.most = some n) (hn2 : n ≤ sizeLine) (hdf : d.params.defaults = []) (hr : Room k callerA)
    (F : ∀ (w : World) (mg : Str → Option Value) (fa : Addr) (h : Heap), YP w h → h.Ns mainGlobals mg → mg d.name = some (.ref fa) →
      ∃ (K : PySem.W.Frag) (fd : FuncData) (sp : Sp), K.In h ∧ (∀ (s : Shared) (u : Value), BindsTo s fd ⟨[u], []⟩ [(x, u)]) ∧
        (∀ (H : Hp) (a : Addr) (ns : List Int), ns.length ≤ n → SqL K H a (ns.map V.int) → sp [.ref a] H (fun v _ => v = .bl true) fun _ _ _ => False) ∧
        ∀ base : Heap, K.In base → base.Ns mainGlobals mg → FnOk l.prog w K mg base (L2.CX l.prog w) k fa fd [x] sp) :
    PySem.W.WalkO q loose XP YP l.row.toRowW d [] (fun f vs => PySem.call f vs) := by
  refine Att.attach_call hn hdf fun w s₀ s₁ mg mb fa o pm cd doc a vs ns G Y ho hd hcd hmg hobj hints hlen hg => ?_
  obtain ⟨K, fd, sp, KX, hb, hsp, hF⟩ := F w mg fa _ Y G.T.g hmg
  exact law_call KX G.T.g G.T.b G.T.builtins G.T.nolimit hg hobj hints (Nat.le_trans hlen hn2) hr hF hb (fun H hO hS => hsp H a ns hlen hS) fun H e s' => cx_none H s₁ e s'
/-- a class of the module: what raising it asks -/
theorem exc_mk {P : Program} {w : World} {K : PySem.W.Frag} {mg : Str → Option Value} {h : Heap} (X : K.In h) (G : h.Ns mainGlobals mg) {x : Str} (c1 : (He.Fa.glo x).ok K = true) (c2 : (He.Fa.exc x).ok K = true) (hn : (x == ("__debug__" : Str)) = false) : mg x = some (.ref (He.ga K x)) ∧
    ∀ X : Cx, X.G = ⟨K, P, w⟩ → X.mg = mg → Gl X x → ∀ (m : Str) (j : Nat) (p p2 pos : Pos), PMk X (.Call (.Name x p) [.Constant (.str m) j p2] [] pos) (fun _ H Q => Q (.ref (He.ga K x)) none H) := by
  have hm := He.glo_ok X G c1
  refine ⟨hm, fun X hK hmg hg m j p p2 pos => ?_⟩
  have hK : X.K = K := congrArg Fg.fr hK
  subst hK hmg
  obtain ⟨e1, e2, e3, e4⟩ := He.exc_ok c2
  exact pmk_own PySem.F.excBase_ValueError e1 hm e2 (raises_own e3 e4) hg hn
end Mini

set_option Elab.async false
set_option linter.all false
set_option maxRecDepth 100000
/-! X8: what X1 asks of an own error, as a check of the written part. -/
namespace Sup
open PySem PySem.W PySem.Calls PyProof.Rows PySem.HandSPX L2
def clsB (K : Frag) (C : Addr) : Bool := match K.lookup C with
  | some ⟨.type t, _, .cls cd, sl⟩ => decide (t = "type") && (match cd.mro, sl.toList with
    | .ref D :: bm, [_, _, _, _, some (.builtin n), _] => decide (D = C) && (decide (n = "ValueError.__new__") && (!cd.hasDel && (cd.hasDict && refsVE bm)))
    | _, _ => false)
  | _ => false
theorem clsB_ok {K : Frag} {C : Addr} (h : clsB K C = true) : ∃ nm q N bs bm sn sub ab col dd k0 k1 k2 k3 k5, K.lookup C = some (excClassObj nm q C N bs bm true sn sub ab col dd k0 k1 k2 k3 k5 "ValueError.__new__") ∧ refsVE bm = true := by
  unfold clsB at h
  split at h
  · rename_i t dd cd sl ho
    rw [Bool.and_eq_true, decide_eq_true_eq] at h
    obtain ⟨rfl, h⟩ := h
    split at h
    · rename_i D bm k0 k1 k2 k3 n k5 hm hs
      simp only [Bool.and_eq_true, decide_eq_true_eq, Bool.not_eq_true'] at h
      obtain ⟨rfl, rfl, h3, h4, h5⟩ := h
      obtain ⟨nm, bs, mro, ns, qn, hd, sn, sub, ab, col, del⟩ := cd
      dsimp only at hm h3 h4
      subst hm h3 h4
      obtain ⟨s0⟩ := sl
      dsimp only at hs
      subst hs
      exact ⟨nm, qn, ns, bs, bm, sn, sub, ab, col, dd, k0, k1, k2, k3, k5, ho, h5⟩
    · cases h
  · cases h
abbrev InW : Type := Option (Str × Str × Arguments × FuncBody × Scope × Addr × List Str × Addr)
/-- a class's __init__, as it is written -/
def inW (K : Frag) (C : Addr) : InW := match findIn K (.ref C) "__init__" with
  | some (some (.ref fI)) => (match K.lookup fI with
    | some ⟨_, _, .func fd, _⟩ => some (fd.name, fd.qualname, fd.params, fd.body, fd.scope, fd.globals, fd.closure.map (·.1), fd.builtins)
    | _ => none)
  | _ => none
def cellB (K : Frag) (C cc : Addr) : Bool := match K.lookup cc with
  | some ⟨_, _, .cell (some (.ref D)), _⟩ => (clsIn K D).isSome && (decide (mroIn K C (.ref D) = some true) && decide (ks_superIn K C D "__init__" = some (some (.builtin "ValueError.__init__"))))
  | _ => false
theorem cellB_ok {K : Frag} {C cc : Addr} (h : cellB K C cc = true) : ∃ cl cld csl D cdD, K.lookup cc = some ⟨cl, cld, .cell (some (.ref D)), csl⟩ ∧ clsIn K D = some cdD ∧ mroIn K C (.ref D) = some true ∧ ks_superIn K C D "__init__" = some (some (.builtin "ValueError.__init__")) := by
  unfold cellB at h
  split at h
  · rename_i cl cld D csl ho
    simp only [Bool.and_eq_true, decide_eq_true_eq] at h
    obtain ⟨h1, h2, h3⟩ := h
    obtain ⟨cdD, h1⟩ := Option.isSome_iff_exists.mp h1
    exact ⟨cl, cld, csl, D, cdD, ho, h1, h2, h3⟩
  · cases h
def fileB (K : Frag) (file : Str) (cda : Addr) : Bool := match K.lookup cda with
  | some ⟨_, _, .fields vs, _⟩ => (match (vs[2]? : Option Value) with
    | some (Value.str x _) => file == x
    | _ => false)
  | _ => false
theorem fileB_ok {K : Frag} {file : Str} {cda : Addr} (h : fileB K file cda = true) : ∃ ccl cdd vs ccs x tf, K.lookup cda = some ⟨ccl, cdd, .fields vs, ccs⟩ ∧ vs[2]? = some (.str x tf) ∧ (file == x) = true := by
  unfold fileB at h
  split at h
  · rename_i ccl cdd vs ccs ho
    split at h
    · rename_i x tf hx
      exact ⟨ccl, cdd, vs, ccs, x, tf, ho, hx, h⟩
    · cases h
  · cases h
def fnB (K : Frag) (file : Str) (C fI : Addr) : Bool := match K.lookup fI with
  | some ⟨_, _, .func fd, _⟩ => codeIn K fd.code fd.qualname && ((match fd.defaults, fd.kwdefaults with
    | .none, .none => true
    | _, _ => false) && ((match fd.code with
    | .ref cda => fileB K file cda
    | _ => false) && (match fd.closure with
    | [(_, cc)] => cellB K C cc
    | _ => false)))
  | _ => false
/-- all that is asked, but for what inW tells -/
def txB (K : Frag) (file f : Str) (C : Addr) : Bool := clsB K C && (decide (findIn K (.ref C) "__setattr__" = some (some (.builtin "object.__setattr__"))) && (decide (findIn K (.ref C) f = some none) && (keepIn K (.ref C) && (decide (subIn K (.ref C) (.type "BaseException") = some true) &&
  (excInitIn K C He.veBase "ValueError.__new__" && (decide (subIn K (.ref C) (.type "ValueError") = some true) && (decide (typeIn K (.ref C) = some (.type "type")) && (decide (nsIn K cStatics "thirdparty.any" = some none) && (match findIn K (.ref C) "__init__" with
    | some (some (.ref fI)) => decide (typeIn K (.ref fI) = some (.type "function")) && fnB K file C fI
    | _ => false)))))))))
theorem txt_ok {P : Program} {K : Frag} {f : Str} {C : Addr} {q text : Str} {j : Nat} {p1 p2 r1 r2 r3 r4 r5 r6 q1 q2 q3 q4 : Pos} (h : txB K P.main.file f C = true) (hb : Bd f) (he : Ev text j r1 r2 r3 r4 r5)
    (hw : inW K C = some (("__init__" : Str), q, iA f p1 p2, FuncBody.stmts (iB f text j r1 r2 r3 r4 r5 r6 q1 q2 q3 q4), iS f, mainGlobals, [("__class__" : Str)], builtinsNs)) : ∃ fI, Txt P K f C fI := by
  unfold txB at h
  simp only [Bool.and_eq_true, decide_eq_true_eq] at h
  obtain ⟨h1, h2, h3, h4, h5, h6, h7, h8, h9, h10⟩ := h
  unfold inW at hw
  split at h10
  · rename_i fI hI
    rw [Bool.and_eq_true, decide_eq_true_eq] at h10
    obtain ⟨ht, h10⟩ := h10
    rw [hI] at hw
    dsimp only at hw
    unfold fnB at h10
    split at h10
    · rename_i oc od fd osl ho
      rw [ho] at hw
      obtain ⟨n1, n2, n3, n4, n5, n6, n7, n8, n9, n10, n11, n12, n13, n14, n15⟩ := fd
      simp only [Option.some.injEq, Prod.mk.injEq] at hw
      obtain ⟨w1, w2, w3, w4, w5, w6, w7, w8⟩ := hw
      subst w1 w2 w3 w4 w5 w6 w8
      simp only [Bool.and_eq_true] at h10
      obtain ⟨k1, k2, k3, k4⟩ := h10
      split at k2
      · rename_i d1 d2
        split at k3
        · rename_i cda
          split at k4
          · rename_i y cc
            simp only [List.map_cons, List.map_nil, List.cons.injEq, and_true] at w7
            subst w7
            exact ⟨fI, ⟨clsB_ok h1, h2, h3, hI, ht, h4, h5, h6, h7, h8, hb, ⟨oc, od, n10, n11, n12, cda, n14, cc, osl, text, _, j, p1, p2, r1, r2, r3, r4, r5, r6, q1, q2, q3, q4, ho, k1, he, fileB_ok k3, cellB_ok k4⟩, h9⟩⟩
          · cases k4
        · cases k3
      · cases k2
    · cases h10
  · cases h10
end Sup

set_option Elab.async false
set_option linter.all false
set_option maxRecDepth 100000
set_option maxHeartbeats 2000000
/-! Mini 16: the hook with errors and texts of the module. -/
namespace Mini
open PySem PySem.Spec PyProof.Rows L2

/-! ### the classes of errors: a name that is none of them stands for the first -/
def nrm (ns : List Str) (c : Str) : Str := if c ∈ ns then c else ns.headD c
theorem nrm_mem {ns : List Str} (h : ns ≠ []) (c : Str) : nrm ns c ∈ ns := by
  unfold nrm
  split
  · assumption
  · cases ns with
    | nil => exact absurd rfl h
    | cons a r => exact List.mem_cons_self
theorem nrm_of {ns : List Str} {c : Str} (h : c ∈ ns) : nrm ns c = c := if_pos h
def excB (K : PySem.W.Frag) (D : Addr) : Bool :=
  decide (PySem.W.findIn K (.ref D) "__getattribute__" = some (some (.builtin "BaseException.__getattribute__"))) && (decide (PySem.W.findIn K (.ref D) "__getattr__" = some none) && (decide (PySem.W.subIn K (.ref D) (.type "BaseException") = some true) &&
  (PySem.W.hasDictIn K D && (decide (PySem.W.findIn K (.ref D) "__class__" = some (some (.builtin "object.__class__"))) && (decide (PySem.W.specialIn K (.builtin "object.__class__") "__get__" = some (some (.builtin "getset_descriptor.__get__"))) &&
  (decide (PySem.W.takesIn K (.builtin "object.__class__") = some true) && decide (PySem.W.mroIn K D (.type "object") = some true)))))))
theorem excB_ok {K : PySem.W.Frag} {D : Addr} (h : excB K D = true) : ExcC K D := by
  unfold excB at h
  simp only [Bool.and_eq_true, decide_eq_true_eq] at h
  obtain ⟨h1, h2, h3, h4, h5, h6, h7, h8⟩ := h
  exact ⟨h1, h2, h3, h4, h5, h6, h7, h8⟩
def xcB (ns fl : List Str) (tb : Str → Str → Bool) (K : PySem.W.Frag) : Bool := !ns.isEmpty && ns.all fun i => xfB K (He.ga K i) && (excB K (He.ga K i) && ((fl.all fun f => decide (PySem.W.findIn K (.ref (He.ga K i)) f = some none)) &&
  ns.all fun j => decide (PySem.W.kitOne K (.ref (He.ga K i)) (.ref (He.ga K j)) = some (tb i j)) && decide (PySem.W.exmOne K (.ref (He.ga K i)) (.ref (He.ga K j)) = some (tb i j))))
theorem xcB_ok {P : Program} {w : World} {K : PySem.W.Frag} {ns fl : List Str} {tb : Str → Str → Bool} (h : xcB ns fl tb K = true) : XcF ⟨K, P, w⟩ (fun c => He.ga K (nrm ns c)) (fun i j => tb (nrm ns i) (nrm ns j)) fl := by
  unfold xcB at h
  rw [Bool.and_eq_true, List.all_eq_true] at h
  obtain ⟨h0, h⟩ := h
  have hn : ns ≠ [] := fun e => by rw [e] at h0; cases h0
  have key : ∀ c, (xfB K (He.ga K (nrm ns c)) && (excB K (He.ga K (nrm ns c)) && ((fl.all fun f => decide (PySem.W.findIn K (.ref (He.ga K (nrm ns c))) f = some none)) &&
    ns.all fun j => decide (PySem.W.kitOne K (.ref (He.ga K (nrm ns c))) (.ref (He.ga K j)) = some (tb (nrm ns c) j)) && decide (PySem.W.exmOne K (.ref (He.ga K (nrm ns c))) (.ref (He.ga K j)) = some (tb (nrm ns c) j))))) = true := fun c => h _ (nrm_mem hn c)
  simp only [Bool.and_eq_true, List.all_eq_true, decide_eq_true_eq] at key
  exact ⟨fun i => xfB_ok (key i).1, fun i f hf => (key i).2.2.1 f hf, fun i => excB_ok (key i).2.1, fun i c => ((key i).2.2.2 _ (nrm_mem hn c)).1, fun i c => ((key i).2.2.2 _ (nrm_mem hn c)).2⟩

/-! ### texts of the module -/
def txtB (K : PySem.W.Frag) (x z : Str) : Bool := match PySem.W.nsIn K mainGlobals x with
  | some (some (.str y _)) => decide (y = z)
  | _ => false
theorem txtB_ok {K : PySem.W.Frag} {mg : Str → Option Value} {h : Heap} {x z : Str} (e : txtB K x z = true) (X : K.In h) (G : h.Ns mainGlobals mg) : ∃ u, mg x = some u ∧ RelV (.str z) u := by
  unfold txtB at e
  split at e
  · rename_i y t e1
    have e := of_decide_eq_true e
    subst e
    exact ⟨_, PySem.W.mg_of X G e1, ⟨t, rfl⟩⟩
  · cases e

/-! ### an error that keeps what it is given -/
theorem exc_mkF {P : Program} {w : World} {K : PySem.W.Frag} {mg : Str → Option Value} {h : Heap} (X : K.In h) (G : h.Ns mainGlobals mg) {x f : Str} (c1 : (He.Fa.glo x).ok K = true) (T : ∃ fI, Sup.Txt P K f (He.ga K x) fI) (ms : mg "super" = none)
    (top : (P.main.scope.names.lookup ("super" : Str)).isSome = false) (hn : (x == ("__debug__" : Str)) = false) : mg x = some (.ref (He.ga K x)) ∧
    ∀ X : Cx, X.G = ⟨K, P, w⟩ → X.mg = mg → Gl X x → ∀ (a : Expr) (ta : TA) (p pos : Pos) (k : Nat), Room k X.A → PA X [a] ta → noStar a = true → PMk X (.Call (.Name x p) [a] [] pos) (Sup.tMk f (He.ga K x) ta) := by
  have hm := He.glo_ok X G c1
  refine ⟨hm, fun X hK hmg hg a ta p pos k hr ha hs => ?_⟩
  have e1 : X.K = K := congrArg Fg.fr hK
  have e2 : X.prog = P := congrArg Fg.P hK
  obtain ⟨fI, T⟩ := T
  subst e1 e2 hmg
  exact Sup.pmk_sup T ms top hm hr ha hg hn (star_one hs _ _) rfl

/-! ### the hook -/
abbrev AlX : Type := (AlM × List Sup.InW) × Bool
def obsX (fa : List He.Fa) (fn : List He.DefD) (bs : List (Str × String)) (is : List Str) (ex : PySem.W.Frag → Bool) (K : PySem.W.Frag) : AlX := ((obsM fa fn bs K, is.map fun c => Sup.inW K (He.ga K c)), ex K)
def obsXG (n : Nat) (fa : List He.Fa) (fn : List He.DefD) (bs : List (Str × String)) (is : List Str) (ex : PySem.W.Frag → Bool) (g : Addr → Option Obj) : AlX := obsX fa fn bs is ex (He.frG g (cStatics :: He.asD g n))
def valX (fn : List He.DefD) (iv : List Sup.InW) : AlX := (((He.valD fn, true), iv), true)
def SaysX (fa : List He.Fa) (fn : List He.DefD) (bs : List (Str × String)) (is : List Str) (iv : List Sup.InW) (ex : PySem.W.Frag → Bool) (K : PySem.W.Frag) : Prop := obsX fa fn bs is ex K = valX fn iv
def hookX (n : Nat) (fa : List He.Fa) (fn : List He.DefD) (bs : List (Str × String)) (is : List Str) (iv : List Sup.InW) (ex : PySem.W.Frag → Bool) : PySem.W.Hook where
  α := AlX
  obs := fun s => obsXG n fa fn bs is ex s.heap.get?
  val := fun _ => valX fn iv
  says := fun _ h => ∃ K : PySem.W.Frag, K.In h ∧ SaysX fa fn bs is iv ex K
  of := fun _ _ e => ⟨_, He.frG_in, e⟩
  keeps := fun _ _ _ ⟨K, hK, c⟩ k => ⟨K, PySem.W.Frag.In.keeps hK k, c⟩
theorem obsXG_eq {n : Nat} {fa : List He.Fa} {fn : List He.DefD} {bs : List (Str × String)} {is : List Str} {iv : List Sup.InW} {ex : PySem.W.Frag → Bool} {g : Addr → Option Obj} {s : Shared} (h : ∀ a, g a = s.heap.get? a) : obsXG n fa fn bs is ex g = (hookX n fa fn bs is iv ex).obs s := by
  have e : g = s.heap.get? := funext h
  rw [e] <;> rfl
section
variable {fa : List He.Fa} {fn : List He.DefD} {bs : List (Str × String)} {is : List Str} {iv : List Sup.InW} {ex : PySem.W.Frag → Bool} {K : PySem.W.Frag}
theorem SaysX.m (c : SaysX fa fn bs is iv ex K) : SaysM fa fn bs K := congrArg (fun z : AlX => z.1.1) c
theorem SaysX.more (c : SaysX fa fn bs is iv ex K) : ex K = true := congrArg (fun z : AlX => z.2) c
theorem SaysX.iw (c : SaysX fa fn bs is iv ex K) {i : Nat} {x : Str} {v : Sup.InW} (h1 : is[i]? = some x) (h2 : iv[i]? = some v) : Sup.inW K (He.ga K x) = v := by
  have e : is.map (fun c => Sup.inW K (He.ga K c)) = iv := congrArg (fun z : AlX => z.1.2) c
  rw [← e, List.getElem?_map, h1] at h2
  exact Option.some.inj h2
end
end Mini

set_option Elab.async false
set_option linter.all false
set_option maxRecDepth 100000
set_option maxHeartbeats 0
namespace K90
open PySem PySem.Spec PyProof.Rows L2 Mini
abbrev PR : Program := PySem.Challenge.pw_kindstellterms_k90_loose_terms_and_steps
def top (i : Nat) : Stmt := PR.main.body.getD i (.Pass ⟨0, 0, 0, 0⟩)

def D0 : He.DefD := ⟨("is_name", none), "is_name", "is_name", defArgs (top 14), defBody (top 14), defScope (top 14), [], []⟩
def N0 : List Str := ["text", "char"]
def D1 : He.DefD := ⟨("fresh_names", none), "fresh_names", "fresh_names", defArgs (top 15), defBody (top 15), defScope (top 15), [], []⟩
def N1 : List Str := ["count", "taken", "found", "number", "name"]
def D2 : He.DefD := ⟨("below", none), "below", "below", defArgs (top 18), defBody (top 18), defScope (top 18), [], []⟩
def N2 : List Str := ["part"]
def D3 : He.DefD := ⟨("parts", none), "parts", "parts", defArgs (top 19), defBody (top 19), defScope (top 19), [], []⟩
def N3 : List Str := ["term", "found", "waiting", "part"]
def D4 : He.DefD := ⟨("size", none), "size", "size", defArgs (top 20), defBody (top 20), defScope (top 20), [], []⟩
def N4 : List Str := ["term", "part"]
def D5 : He.DefD := ⟨("free_names", none), "free_names", "free_names", defArgs (top 21), defBody (top 21), defScope (top 21), [], []⟩
def N5 : List Str := ["term", "every", "bound", "part"]
def D6 : He.DefD := ⟨("renamed", none), "renamed", "renamed", defArgs (top 22), defBody (top 22), defScope (top 22), [], []⟩
def N6 : List Str := ["term", "table"]
def D7 : He.DefD := ⟨("replaced", none), "replaced", "replaced", defArgs (top 23), defBody (top 23), defScope (top 23), [], []⟩
def N7 : List Str := ["term", "name", "other"]
def D8 : He.DefD := ⟨("put_in", none), "put_in", "put_in", defArgs (top 24), defBody (top 24), defScope (top 24), [], []⟩
def N8 : List Str := ["term", "name", "other"]
def D9 : He.DefD := ⟨("check_names", none), "check_names", "check_names", defArgs (top 26), defBody (top 26), defScope (top 26), [], []⟩
def N9 : List Str := ["names", "at", "name"]
def D10 : He.DefD := ⟨("ready_nodes", none), "ready_nodes", "ready_nodes", defArgs (top 28), defBody (top 28), defScope (top 28), [], []⟩
def N10 : List Str := ["term", "nodes", "part", "node"]
def D11 : He.DefD := ⟨("stepped", none), "stepped", "stepped", defArgs (top 29), defBody (top 29), defScope (top 29), [], []⟩
def N11 : List Str := ["part", "node", "bind", "inner"]
def D12 : He.DefD := ⟨("normal", none), "normal", "normal", defArgs (top 30), defBody (top 30), defScope (top 30), [], []⟩
def N12 : List Str := ["term", "steps", "now", "ready"]
def D13 : He.DefD := ⟨("check_loose_part", none), "check_loose_part", "check_loose_part", defArgs (top 32), defBody (top 32), defScope (top 32), [], []⟩
def N13 : List Str := ["part", "seen", "name"]
def D14 : He.DefD := ⟨("check_loose", none), "check_loose", "check_loose", defArgs (top 33), defBody (top 33), defScope (top 33), [], []⟩
def N14 : List Str := ["term", "nodes"]
def D15 : He.DefD := ⟨("thrown_names", none), "thrown_names", "thrown_names", defArgs (top 34), defBody (top 34), defScope (top 34), [], []⟩
def N15 : List Str := ["term", "every", "used", "part"]
def D16 : He.DefD := ⟨("given_names", none), "given_names", "given_names", defArgs (top 35), defBody (top 35), defScope (top 35), [], []⟩
def N16 : List Str := ["term", "names", "free", "name", "part"]
def D17 : He.DefD := ⟨("loose_canonical", none), "loose_canonical", "loose_canonical", defArgs (top 36), defBody (top 36), defScope (top 36), [], []⟩
def N17 : List Str := ["term", "names", "sequence", "binds", "part"]
def D18 : He.DefD := ⟨("loose_stepped", none), "loose_stepped", "loose_stepped", defArgs (top 37), defBody (top 37), defScope (top 37), [], []⟩
def N18 : List Str := ["part", "node", "inner"]
def D19 : He.DefD := ⟨("step_loose", none), "step_loose", "step_loose", defArgs (top 38), defBody (top 38), defScope (top 38), [], []⟩
def N19 : List Str := ["term", "node"]
def D20 : He.DefD := ⟨("normal_loose", none), "normal_loose", "normal_loose", defArgs (top 39), defBody (top 39), defScope (top 39), [], []⟩
def N20 : List Str := ["term", "steps", "now", "ready"]
def D21 : He.DefD := ⟨("_law_cell", none), "_law_cell", "_law_cell", defArgs (top 41), defBody (top 41), defScope (top 41), [], []⟩
def N21 : List Str := ["script", "k"]
def D22 : He.DefD := ⟨("_law_at", none), "_law_at", "_law_at", defArgs (top 42), defBody (top 42), defScope (top 42), [], []⟩
def N22 : List Str := ["digits", "k"]
def D23 : He.DefD := ⟨("_law_digits", none), "_law_digits", "_law_digits", defArgs (top 43), defBody (top 43), defScope (top 43), [], []⟩
def N23 : List Str := ["cell", "many", "salt", "found", "rest", "k", "mixed"]
def D24 : He.DefD := ⟨("_law_same", none), "_law_same", "_law_same", defArgs (top 44), defBody (top 44), defScope (top 44), [], []⟩
def N24 : List Str := ["told", "due", "k", "key"]
def D25 : He.DefD := ⟨("_law_name", none), "_law_name", "_law_name", defArgs (top 45), defBody (top 45), defScope (top 45), [], []⟩
def N25 : List Str := ["k", "style"]
def D26 : He.DefD := ⟨("_law_joined", none), "_law_joined", "_law_joined", defArgs (top 46), defBody (top 46), defScope (top 46), [], []⟩
def N26 : List Str := ["piled", "kind", "digit", "last", "prior", "left", "free", "chosen", "one"]
def D27 : He.DefD := ⟨("_law_shuffled", none), "_law_shuffled", "_law_shuffled", defArgs (top 47), defBody (top 47), defScope (top 47), [], []⟩
def N27 : List Str := ["free", "digits", "rest", "found", "k"]
def D28 : He.DefD := ⟨("_law_nodes", none), "_law_nodes", "_law_nodes", defArgs (top 48), defBody (top 48), defScope (top 48), [], []⟩
def N28 : List Str := ["part"]
def D29 : He.DefD := ⟨("_law_parts", none), "_law_parts", "_law_parts", defArgs (top 49), defBody (top 49), defScope (top 49), [], []⟩
def N29 : List Str := ["part"]
def D30 : He.DefD := ⟨("_law_canonical", none), "_law_canonical", "_law_canonical", defArgs (top 50), defBody (top 50), defScope (top 50), [], []⟩
def N30 : List Str := ["part", "table", "free", "counter", "prior", "k"]
def D31 : He.DefD := ⟨("_law_put", none), "_law_put", "_law_put", defArgs (top 51), defBody (top 51), defScope (top 51), [], []⟩
def N31 : List Str := ["part", "name", "other"]
def D32 : He.DefD := ⟨("_law_stepped", none), "_law_stepped", "_law_stepped", defArgs (top 52), defBody (top 52), defScope (top 52), [], []⟩
def N32 : List Str := ["part", "inner", "left", "right"]
def D33 : He.DefD := ⟨("_law_end", none), "_law_end", "_law_end", defArgs (top 53), defBody (top 53), defScope (top 53), [], []⟩
def N33 : List Str := ["term", "now", "steps", "k", "after"]
def D34 : He.DefD := ⟨("_law_sized", none), "_law_sized", "_law_sized", defArgs (top 54), defBody (top 54), defScope (top 54), [], []⟩
def N34 : List Str := ["cell", "least", "most"]
def D35 : He.DefD := ⟨("_law_loose", none), "_law_loose", "_law_loose", defArgs (top 55), defBody (top 55), defScope (top 55), [], []⟩
def N35 : List Str := ["digits", "style", "piled", "used", "digit", "kind", "new", "last", "chosen", "k", "one"]
def D36 : He.DefD := ⟨("_law_spots", none), "_law_spots", "_law_spots", defArgs (top 56), defBody (top 56), defScope (top 56), [], []⟩
def N36 : List Str := ["term", "nodes", "part", "k"]
def D37 : He.DefD := ⟨("_law_done", none), "_law_done", "_law_done", defArgs (top 57), defBody (top 57), defScope (top 57), [], []⟩
def N37 : List Str := ["part", "wanted", "counter", "here", "prior"]
def D38 : He.DefD := ⟨("_law_checked", none), "_law_checked", "_law_checked", defArgs (top 58), defBody (top 58), defScope (top 58), [], []⟩
def N38 : List Str := ["term", "e"]
def D39 : He.DefD := ⟨("_law_refused", none), "_law_refused", "_law_refused", defArgs (top 59), defBody (top 59), defScope (top 59), [], []⟩
def N39 : List Str := ["term", "node"]
def D40 : He.DefD := ⟨("_law_given", none), "_law_given", "_law_given", defArgs (top 60), defBody (top 60), defScope (top 60), [], []⟩
def N40 : List Str := ["term", "names", "e"]
def D41 : He.DefD := ⟨("_law_row", none), "_law_row", "_law_row", defArgs (top 61), defBody (top 61), defScope (top 61), [], []⟩
def N41 : List Str := ["term", "digits", "now", "k", "spots", "spot", "after", "node"]
def D42 : He.DefD := ⟨("_law_faults", none), "_law_faults", "_law_faults", defArgs (top 62), defBody (top 62), defScope (top 62), [], []⟩
def N42 : List Str := ["term", "digit", "names", "binds", "one", "two", "part"]
def D43 : He.DefD := ⟨("_law_nest", none), "_law_nest", "_law_nest", defArgs (top 63), defBody (top 63), defScope (top 63), [], []⟩
def N43 : List Str := ["many", "term", "k"]
def D44 : He.DefD := ⟨("law", none), "law", "law", defArgs (top 64), defBody (top 64), defScope (top 64), [], []⟩
def N44 : List Str := ["script", "many", "made", "term", "every", "used", "thrown", "first", "second", "names", "passed", "due", "binds", "part"]
def fnl : List He.DefD := [D0, D1, D2, D3, D4, D5, D6, D7, D8, D9, D10, D11, D12, D13, D14, D15, D16, D17, D18, D19, D20, D21, D22, D23, D24, D25, D26, D27, D28, D29, D30, D31, D32, D33, D34, D35, D36, D37, D38, D39, D40, D41, D42, D43, D44]
def fal0 : List He.Fa := [.glo "is_name", .glo "fresh_names", .glo "below", .glo "parts", .glo "size", .glo "free_names", .glo "renamed", .glo "replaced", .glo "put_in", .glo "check_names", .glo "ready_nodes", .glo "stepped", .glo "normal", .glo "check_loose_part", .glo "check_loose", .glo "thrown_names", .glo "given_names", .glo "loose_canonical", .glo "loose_stepped", .glo "step_loose", .glo "normal_loose", .glo "_law_cell", .glo "_law_at", .glo "_law_digits", .glo "_law_same", .glo "_law_name", .glo "_law_joined", .glo "_law_shuffled", .glo "_law_nodes", .glo "_law_parts"]
def fal1 : List He.Fa := [.glo "_law_canonical", .glo "_law_put", .glo "_law_stepped", .glo "_law_end", .glo "_law_sized", .glo "_law_loose", .glo "_law_spots", .glo "_law_done", .glo "_law_checked", .glo "_law_refused", .glo "_law_given", .glo "_law_row", .glo "_law_faults", .glo "_law_nest", .glo "law", .free "len", .free "int", .free "str", .free "abs", .free "max", .free "min", .free "list", .free "tuple", .free "range", .free "isinstance", .free "bool", .free "dict", .free "zip", .free "all", .free "sorted"]
def fal2 : List He.Fa := [.free "enumerate", .free "super", .int "LONGEST" 8, .int "MOST_NODES" 60, .glo "BadName", .glo "Repeated", .glo "Unused", .glo "UnknownName", .glo "BadNames", .glo "TooLarge", .glo "NotReady", .exc "BadNames", .exc "TooLarge", .exc "NotReady"]
def fal : List He.Fa := fal0 ++ fal1 ++ fal2
def bsl : List (Str × String) := []
def meth (s : Stmt) (k : Nat) : Stmt := match s with
  | .ClassDef _ _ _ b _ _ _ _ _ _ _ => b.getD k (.Pass ⟨0, 0, 0, 0⟩)
  | _ => .Pass ⟨0, 0, 0, 0⟩
abbrev IM0 : Stmt := meth (top 2) 0
def IV0 : Sup.InW := some (("__init__" : Str), ("NameFault.__init__" : Str), defArgs IM0, FuncBody.stmts (defBody IM0), defScope IM0, mainGlobals, [("__class__" : Str)], builtinsNs)
abbrev IM1 : Stmt := meth (top 2) 0
def IV1 : Sup.InW := some (("__init__" : Str), ("NameFault.__init__" : Str), defArgs IM1, FuncBody.stmts (defBody IM1), defScope IM1, mainGlobals, [("__class__" : Str)], builtinsNs)
abbrev IM2 : Stmt := meth (top 2) 0
def IV2 : Sup.InW := some (("__init__" : Str), ("NameFault.__init__" : Str), defArgs IM2, FuncBody.stmts (defBody IM2), defScope IM2, mainGlobals, [("__class__" : Str)], builtinsNs)
abbrev IM3 : Stmt := meth (top 2) 0
def IV3 : Sup.InW := some (("__init__" : Str), ("NameFault.__init__" : Str), defArgs IM3, FuncBody.stmts (defBody IM3), defScope IM3, mainGlobals, [("__class__" : Str)], builtinsNs)
def isl : List Str := ["BadName", "Repeated", "Unused", "UnknownName"]
def ivl : List Sup.InW := [IV0, IV1, IV2, IV3]
def cc : Cc where
  fns := [(("is_name" : Str), 1), (("fresh_names" : Str), 2), (("below" : Str), 1), (("parts" : Str), 1), (("size" : Str), 1), (("free_names" : Str), 1), (("renamed" : Str), 2), (("replaced" : Str), 3), (("put_in" : Str), 3), (("check_names" : Str), 1), (("ready_nodes" : Str), 1), (("stepped" : Str), 2), (("normal" : Str), 1), (("check_loose_part" : Str), 2), (("check_loose" : Str), 1), (("thrown_names" : Str), 1), (("given_names" : Str), 2), (("loose_canonical" : Str), 2), (("loose_stepped" : Str), 2), (("step_loose" : Str), 2), (("normal_loose" : Str), 1), (("_law_cell" : Str), 2), (("_law_at" : Str), 2), (("_law_digits" : Str), 3), (("_law_same" : Str), 2), (("_law_name" : Str), 2), (("_law_joined" : Str), 3), (("_law_shuffled" : Str), 2), (("_law_nodes" : Str), 1), (("_law_parts" : Str), 1), (("_law_canonical" : Str), 4), (("_law_put" : Str), 3), (("_law_stepped" : Str), 1), (("_law_end" : Str), 1), (("_law_sized" : Str), 3), (("_law_loose" : Str), 2), (("_law_spots" : Str), 1), (("_law_done" : Str), 3), (("_law_checked" : Str), 1), (("_law_refused" : Str), 2), (("_law_given" : Str), 2), (("_law_row" : Str), 2), (("_law_faults" : Str), 2), (("_law_nest" : Str), 1), (("law" : Str), 1)]
  shapes := [(0, 1, [], []), (1, 2, [], []), (2, 1, [], []), (3, 1, [], []), (4, 1, [], []), (5, 1, [], []), (6, 2, [], []), (7, 3, [], []), (8, 3, [], []), (9, 1, [], []), (10, 1, [], []), (11, 2, [], []), (12, 1, [], []), (13, 2, [], []), (14, 1, [], []), (15, 1, [], []), (16, 2, [], []), (17, 2, [], []), (18, 2, [], []), (19, 2, [], []), (20, 1, [], []), (21, 2, [], []), (22, 2, [], []), (23, 3, [], []), (24, 2, [], []), (25, 2, [], []), (26, 3, [], []), (27, 2, [], []), (28, 1, [], []), (29, 1, [], []), (30, 4, [], []), (31, 3, [], []), (32, 1, [], []), (33, 1, [], []), (34, 3, [], []), (35, 2, [], []), (36, 1, [], []), (37, 3, [], []), (38, 1, [], []), (39, 2, [], []), (40, 2, [], []), (41, 2, [], []), (42, 2, [], []), (43, 1, [], [])]
  cons := [("LONGEST", .int 8), ("MOST_NODES", .int 60), ("LETTERS", .str "abcdefghijklmnopqrstuvwxyz"), ("DIGITS", .str "0123456789")]
  excs := ["BadNames", "TooLarge", "NotReady"]
  excF := [("BadName", "name"), ("Repeated", "name"), ("Unused", "name"), ("UnknownName", "name")]
  tr := true
  flds := ["name"]
  combs := []
  muts := [13, 6, 26, 30, 37]
def nsx : List Str := ["BadName", "Repeated", "Unused", "UnknownName", "BadNames", "TooLarge", "NotReady"]
def tbx (i j : Str) : Bool := decide ((i, j) ∈ ([("BadName", "BadName"), ("Repeated", "Repeated"), ("Unused", "Unused"), ("UnknownName", "UnknownName"), ("BadNames", "BadNames"), ("TooLarge", "TooLarge"), ("NotReady", "NotReady")] : List (Str × Str)))
def subT (i j : Str) : Bool := tbx (nrm nsx i) (nrm nsx j)
def fll : List Str := ["name"]
def ex0 (K : PySem.W.Frag) : Bool := Sup.txB K PR.main.file "name" (He.ga K "BadName")
def ex1 (K : PySem.W.Frag) : Bool := Sup.txB K PR.main.file "name" (He.ga K "Repeated")
def ex2 (K : PySem.W.Frag) : Bool := Sup.txB K PR.main.file "name" (He.ga K "Unused")
def ex3 (K : PySem.W.Frag) : Bool := Sup.txB K PR.main.file "name" (He.ga K "UnknownName")
def ex4 (K : PySem.W.Frag) : Bool := txtB K "LETTERS" "abcdefghijklmnopqrstuvwxyz"
def ex5 (K : PySem.W.Frag) : Bool := txtB K "DIGITS" "0123456789"
def ex6 (K : PySem.W.Frag) : Bool := xcB nsx fll tbx K
def exl (K : PySem.W.Frag) : Bool := ex0 K && (ex1 K && (ex2 K && (ex3 K && (ex4 K && (ex5 K && (ex6 K))))))
def prgC : Prg := ⟨[compF cc 40 40 N0 D0.scope D0.body, compF cc 40 40 N1 D1.scope D1.body, compF cc 40 40 N2 D2.scope D2.body, compF cc 40 40 N3 D3.scope D3.body, compF cc 40 40 N4 D4.scope D4.body, compF cc 40 40 N5 D5.scope D5.body, compF cc 40 40 N6 D6.scope D6.body, compF cc 40 40 N7 D7.scope D7.body, compF cc 40 40 N8 D8.scope D8.body, compF cc 40 40 N9 D9.scope D9.body, compF cc 40 40 N10 D10.scope D10.body, compF cc 40 40 N11 D11.scope D11.body, compF cc 40 40 N12 D12.scope D12.body, compF cc 40 40 N13 D13.scope D13.body, compF cc 40 40 N14 D14.scope D14.body, compF cc 40 40 N15 D15.scope D15.body, compF cc 40 40 N16 D16.scope D16.body, compF cc 40 40 N17 D17.scope D17.body, compF cc 40 40 N18 D18.scope D18.body, compF cc 40 40 N19 D19.scope D19.body, compF cc 40 40 N20 D20.scope D20.body, compF cc 40 40 N21 D21.scope D21.body, compF cc 40 40 N22 D22.scope D22.body, compF cc 40 40 N23 D23.scope D23.body, compF cc 40 40 N24 D24.scope D24.body, compF cc 40 40 N25 D25.scope D25.body, compF cc 40 40 N26 D26.scope D26.body, compF cc 40 40 N27 D27.scope D27.body, compF cc 40 40 N28 D28.scope D28.body, compF cc 40 40 N29 D29.scope D29.body, compF cc 40 40 N30 D30.scope D30.body, compF cc 40 40 N31 D31.scope D31.body, compF cc 40 40 N32 D32.scope D32.body, compF cc 40 40 N33 D33.scope D33.body, compF cc 40 40 N34 D34.scope D34.body, compF cc 40 40 N35 D35.scope D35.body, compF cc 40 40 N36 D36.scope D36.body, compF cc 40 40 N37 D37.scope D37.body, compF cc 40 40 N38 D38.scope D38.body, compF cc 40 40 N39 D39.scope D39.body, compF cc 40 40 N40 D40.scope D40.body, compF cc 40 40 N41 D41.scope D41.body, compF cc 40 40 N42 D42.scope D42.body, compF cc 40 40 N43 D43.scope D43.body, compF cc 40 40 N44 D44.scope D44.body], subT, 200⟩
def B0 : List S :=
      [Mini.S.ifS
          ((Mini.E.chn Mini.Cmp.le Mini.Cmp.le (Mini.E.cst (Mini.D.int (Int.ofNat 1)))
                  (Mini.E.bi Mini.Bi.len [Mini.E.var 0]) (Mini.E.cst (Mini.D.int (Int.ofNat 8)))).nt.orr
            (Mini.E.cmp Mini.Cmp.nin ((Mini.E.var 0).ix (Mini.E.cst (Mini.D.int (Int.ofNat 0))))
              (Mini.E.cst
                (Mini.D.str
                  {
                    cps :=
                      {
                        toList :=
                          [97, 98, 99, 100, 101, 102, 103, 104, 105, 106, 107, 108, 109, 110, 111, 112, 113, 114, 115,
                            116, 117, 118, 119, 120, 121, 122] } }))))
          [Mini.S.ret (Mini.E.cst (Mini.D.bl false))] [],
        Mini.S.forS (Mini.Tg.one 1) Mini.IK.seq [Mini.E.var 0]
          [Mini.S.ifS
              ((Mini.E.cmp Mini.Cmp.nin (Mini.E.var 1)
                    (Mini.E.cst
                      (Mini.D.str
                        {
                          cps :=
                            {
                              toList :=
                                [97, 98, 99, 100, 101, 102, 103, 104, 105, 106, 107, 108, 109, 110, 111, 112, 113, 114,
                                  115, 116, 117, 118, 119, 120, 121, 122] } }))).an
                (Mini.E.cmp Mini.Cmp.nin (Mini.E.var 1)
                  (Mini.E.cst (Mini.D.str { cps := { toList := [48, 49, 50, 51, 52, 53, 54, 55, 56, 57] } }))))
              [Mini.S.ret (Mini.E.cst (Mini.D.bl false))] []],
        Mini.S.ret (Mini.E.cst (Mini.D.bl true))]
def F0 : Fn := ⟨2, B0⟩
def B1 : List S :=
      [Mini.S.asg (Mini.Tg.one 2) (Mini.E.lst []), Mini.S.asg (Mini.Tg.one 3) (Mini.E.cst (Mini.D.int (Int.ofNat 0))),
        Mini.S.whl (Mini.E.cmp Mini.Cmp.lt (Mini.E.bi Mini.Bi.len [Mini.E.var 2]) (Mini.E.var 0))
          [Mini.S.asg (Mini.Tg.one 4)
              (Mini.E.bin Mini.Bin.add (Mini.E.cst (Mini.D.str { cps := { toList := [118] } }))
                (Mini.E.bi Mini.Bi.str [Mini.E.var 3])),
            Mini.S.ifS (Mini.E.cmp Mini.Cmp.nin (Mini.E.var 4) (Mini.E.var 1))
              [Mini.S.ex (Mini.E.mt Mini.Mt.append (Mini.E.var 2) [Mini.E.var 4])] [],
            Mini.S.aug 3 Mini.Bin.add (Mini.E.cst (Mini.D.int (Int.ofNat 1)))],
        Mini.S.ret (Mini.E.var 2)]
def F1 : Fn := ⟨5, B1⟩
def B2 : List S :=
      [Mini.S.ifS
          (Mini.E.cmp Mini.Cmp.eq ((Mini.E.var 0).ix (Mini.E.cst (Mini.D.int (Int.ofNat 0))))
            (Mini.E.cst (Mini.D.str { cps := { toList := [98, 105, 110, 100] } })))
          [Mini.S.ret (Mini.E.lst [(Mini.E.var 0).ix (Mini.E.cst (Mini.D.int (Int.ofNat 2)))])] [],
        Mini.S.ifS
          (Mini.E.cmp Mini.Cmp.eq ((Mini.E.var 0).ix (Mini.E.cst (Mini.D.int (Int.ofNat 0))))
            (Mini.E.cst (Mini.D.str { cps := { toList := [97, 112, 112, 108, 121] } })))
          [Mini.S.ret
              (Mini.E.lst
                [(Mini.E.var 0).ix (Mini.E.cst (Mini.D.int (Int.ofNat 1))),
                  (Mini.E.var 0).ix (Mini.E.cst (Mini.D.int (Int.ofNat 2)))])]
          [],
        Mini.S.ret (Mini.E.lst [])]
def F2 : Fn := ⟨1, B2⟩
def B3 : List S :=
      [Mini.S.asg (Mini.Tg.one 1) (Mini.E.lst []), Mini.S.asg (Mini.Tg.one 2) (Mini.E.lst [Mini.E.var 0]),
        Mini.S.whl (Mini.E.var 2)
          [Mini.S.asg (Mini.Tg.one 3) (Mini.E.mt Mini.Mt.pop (Mini.E.var 2) []),
            Mini.S.ex (Mini.E.mt Mini.Mt.append (Mini.E.var 1) [Mini.E.var 3]),
            Mini.S.ex (Mini.E.mt Mini.Mt.extend (Mini.E.var 2) [(Mini.E.call 2 [Mini.E.var 3] [] []).rev])],
        Mini.S.ret (Mini.E.var 1)]
def F3 : Fn := ⟨4, B3⟩
def B4 : List S :=
      [Mini.S.ret
          (Mini.E.bi Mini.Bi.len
            [(Mini.E.var 1).comp (Mini.Tg.one 1) Mini.IK.seq [Mini.E.call 3 [Mini.E.var 0] [] []]
                [Mini.E.cmp Mini.Cmp.ne ((Mini.E.var 1).ix (Mini.E.cst (Mini.D.int (Int.ofNat 0))))
                    (Mini.E.cst (Mini.D.str { cps := { toList := [110, 97, 109, 101] } }))]
                [1]])]
def F4 : Fn := ⟨2, B4⟩
def B5 : List S :=
      [Mini.S.asg (Mini.Tg.one 1) (Mini.E.call 3 [Mini.E.var 0] [] []),
        Mini.S.asg (Mini.Tg.one 2)
          (((Mini.E.var 3).ix (Mini.E.cst (Mini.D.int (Int.ofNat 1)))).scomp (Mini.Tg.one 3) Mini.IK.seq [Mini.E.var 1]
            [Mini.E.cmp Mini.Cmp.eq ((Mini.E.var 3).ix (Mini.E.cst (Mini.D.int (Int.ofNat 0))))
                (Mini.E.cst (Mini.D.str { cps := { toList := [98, 105, 110, 100] } }))]
            [3]),
        Mini.S.ret
          (((Mini.E.var 3).ix (Mini.E.cst (Mini.D.int (Int.ofNat 1)))).comp (Mini.Tg.one 3) Mini.IK.seq [Mini.E.var 1]
            [(Mini.E.cmp Mini.Cmp.eq ((Mini.E.var 3).ix (Mini.E.cst (Mini.D.int (Int.ofNat 0))))
                    (Mini.E.cst (Mini.D.str { cps := { toList := [110, 97, 109, 101] } }))).an
                (Mini.E.cmp Mini.Cmp.nin ((Mini.E.var 3).ix (Mini.E.cst (Mini.D.int (Int.ofNat 1)))) (Mini.E.var 2))]
            [3])]
def F5 : Fn := ⟨4, B5⟩
def B6 : List S :=
      [Mini.S.ifS
          (Mini.E.cmp Mini.Cmp.eq ((Mini.E.var 0).ix (Mini.E.cst (Mini.D.int (Int.ofNat 0))))
            (Mini.E.cst (Mini.D.str { cps := { toList := [110, 97, 109, 101] } })))
          [Mini.S.ret
              (Mini.E.tup
                [Mini.E.cst (Mini.D.str { cps := { toList := [110, 97, 109, 101] } }),
                  (Mini.E.var 1).dget ((Mini.E.var 0).ix (Mini.E.cst (Mini.D.int (Int.ofNat 1))))
                    ((Mini.E.var 0).ix (Mini.E.cst (Mini.D.int (Int.ofNat 1))))])]
          [],
        Mini.S.ifS
          (Mini.E.cmp Mini.Cmp.eq ((Mini.E.var 0).ix (Mini.E.cst (Mini.D.int (Int.ofNat 0))))
            (Mini.E.cst (Mini.D.str { cps := { toList := [98, 105, 110, 100] } })))
          [Mini.S.ret
              (Mini.E.tup
                [Mini.E.cst (Mini.D.str { cps := { toList := [98, 105, 110, 100] } }),
                  (Mini.E.var 1).dget ((Mini.E.var 0).ix (Mini.E.cst (Mini.D.int (Int.ofNat 1))))
                    ((Mini.E.var 0).ix (Mini.E.cst (Mini.D.int (Int.ofNat 1)))),
                  Mini.E.mcall 6 [(Mini.E.var 0).ix (Mini.E.cst (Mini.D.int (Int.ofNat 2))), Mini.E.var 1] [] []])]
          [],
        Mini.S.ret
          (Mini.E.tup
            [Mini.E.cst (Mini.D.str { cps := { toList := [97, 112, 112, 108, 121] } }),
              Mini.E.mcall 6 [(Mini.E.var 0).ix (Mini.E.cst (Mini.D.int (Int.ofNat 1))), Mini.E.var 1] [] [],
              Mini.E.mcall 6 [(Mini.E.var 0).ix (Mini.E.cst (Mini.D.int (Int.ofNat 2))), Mini.E.var 1] [] []])]
def F6 : Fn := ⟨2, B6⟩
def B7 : List S :=
      [Mini.S.ifS
          (Mini.E.cmp Mini.Cmp.eq ((Mini.E.var 0).ix (Mini.E.cst (Mini.D.int (Int.ofNat 0))))
            (Mini.E.cst (Mini.D.str { cps := { toList := [110, 97, 109, 101] } })))
          [Mini.S.ret
              ((Mini.E.cmp Mini.Cmp.eq ((Mini.E.var 0).ix (Mini.E.cst (Mini.D.int (Int.ofNat 1)))) (Mini.E.var 1)).ifx
                (Mini.E.var 2) (Mini.E.var 0))]
          [],
        Mini.S.ifS
          (Mini.E.cmp Mini.Cmp.eq ((Mini.E.var 0).ix (Mini.E.cst (Mini.D.int (Int.ofNat 0))))
            (Mini.E.cst (Mini.D.str { cps := { toList := [98, 105, 110, 100] } })))
          [Mini.S.ret
              (Mini.E.tup
                [Mini.E.cst (Mini.D.str { cps := { toList := [98, 105, 110, 100] } }),
                  (Mini.E.var 0).ix (Mini.E.cst (Mini.D.int (Int.ofNat 1))),
                  Mini.E.call 7 [(Mini.E.var 0).ix (Mini.E.cst (Mini.D.int (Int.ofNat 2))), Mini.E.var 1, Mini.E.var 2]
                    [] []])]
          [],
        Mini.S.ret
          (Mini.E.tup
            [Mini.E.cst (Mini.D.str { cps := { toList := [97, 112, 112, 108, 121] } }),
              Mini.E.call 7 [(Mini.E.var 0).ix (Mini.E.cst (Mini.D.int (Int.ofNat 1))), Mini.E.var 1, Mini.E.var 2] []
                [],
              Mini.E.call 7 [(Mini.E.var 0).ix (Mini.E.cst (Mini.D.int (Int.ofNat 2))), Mini.E.var 1, Mini.E.var 2] []
                []])]
def F7 : Fn := ⟨3, B7⟩
def B8 : List S :=
      [Mini.S.ifS (Mini.E.cmp Mini.Cmp.nin (Mini.E.var 1) (Mini.E.call 5 [Mini.E.var 0] [] []))
          [Mini.S.raiseF { cps := { toList := [85, 110, 107, 110, 111, 119, 110, 78, 97, 109, 101] } }
              { cps := { toList := [110, 97, 109, 101] } } (Mini.E.var 1)]
          [],
        Mini.S.ret (Mini.E.call 7 [Mini.E.var 0, Mini.E.var 1, Mini.E.var 2] [] [])]
def F8 : Fn := ⟨3, B8⟩
def B9 : List S :=
      [Mini.S.forS (Mini.Tg.many [1, 2]) Mini.IK.enum [Mini.E.var 0]
          [Mini.S.ifS (Mini.E.call 0 [Mini.E.var 2] [] []).nt
              [Mini.S.raiseF { cps := { toList := [66, 97, 100, 78, 97, 109, 101] } }
                  { cps := { toList := [110, 97, 109, 101] } } (Mini.E.var 2)]
              [],
            Mini.S.ifS
              (Mini.E.cmp Mini.Cmp.inn (Mini.E.var 2)
                (Mini.E.sl false true (Mini.E.var 0) (Mini.E.cst Mini.D.non) (Mini.E.var 1)))
              [Mini.S.raiseF { cps := { toList := [82, 101, 112, 101, 97, 116, 101, 100] } }
                  { cps := { toList := [110, 97, 109, 101] } } (Mini.E.var 2)]
              []]]
def F9 : Fn := ⟨3, B9⟩
def B10 : List S :=
      [Mini.S.asg (Mini.Tg.one 1)
          ((Mini.E.var 2).comp (Mini.Tg.one 2) Mini.IK.seq [Mini.E.call 3 [Mini.E.var 0] [] []]
            [Mini.E.cmp Mini.Cmp.ne ((Mini.E.var 2).ix (Mini.E.cst (Mini.D.int (Int.ofNat 0))))
                (Mini.E.cst (Mini.D.str { cps := { toList := [110, 97, 109, 101] } }))]
            [2]),
        Mini.S.ret
          ((Mini.E.var 3).comp (Mini.Tg.many [3, 2]) Mini.IK.enum [Mini.E.var 1]
            [(Mini.E.cmp Mini.Cmp.eq ((Mini.E.var 2).ix (Mini.E.cst (Mini.D.int (Int.ofNat 0))))
                    (Mini.E.cst (Mini.D.str { cps := { toList := [97, 112, 112, 108, 121] } }))).an
                (Mini.E.cmp Mini.Cmp.eq
                  (((Mini.E.var 2).ix (Mini.E.cst (Mini.D.int (Int.ofNat 1)))).ix
                    (Mini.E.cst (Mini.D.int (Int.ofNat 0))))
                  (Mini.E.cst (Mini.D.str { cps := { toList := [98, 105, 110, 100] } })))]
            [3, 2])]
def F10 : Fn := ⟨4, B10⟩
def B11 : List S :=
      [Mini.S.ifS (Mini.E.cmp Mini.Cmp.eq (Mini.E.var 1) (Mini.E.cst (Mini.D.int (Int.ofNat 0))))
          [Mini.S.asg (Mini.Tg.one 2) ((Mini.E.var 0).ix (Mini.E.cst (Mini.D.int (Int.ofNat 1)))),
            Mini.S.ret
              (Mini.E.call 8
                [(Mini.E.var 2).ix (Mini.E.cst (Mini.D.int (Int.ofNat 2))),
                  (Mini.E.var 2).ix (Mini.E.cst (Mini.D.int (Int.ofNat 1))),
                  (Mini.E.var 0).ix (Mini.E.cst (Mini.D.int (Int.ofNat 2)))]
                [] [])]
          [],
        Mini.S.ifS
          (Mini.E.cmp Mini.Cmp.eq ((Mini.E.var 0).ix (Mini.E.cst (Mini.D.int (Int.ofNat 0))))
            (Mini.E.cst (Mini.D.str { cps := { toList := [98, 105, 110, 100] } })))
          [Mini.S.ret
              (Mini.E.tup
                [Mini.E.cst (Mini.D.str { cps := { toList := [98, 105, 110, 100] } }),
                  (Mini.E.var 0).ix (Mini.E.cst (Mini.D.int (Int.ofNat 1))),
                  Mini.E.call 11
                    [(Mini.E.var 0).ix (Mini.E.cst (Mini.D.int (Int.ofNat 2))),
                      Mini.E.bin Mini.Bin.sub (Mini.E.var 1) (Mini.E.cst (Mini.D.int (Int.ofNat 1)))]
                    [] []])]
          [],
        Mini.S.asg (Mini.Tg.one 3) (Mini.E.call 4 [(Mini.E.var 0).ix (Mini.E.cst (Mini.D.int (Int.ofNat 1)))] [] []),
        Mini.S.ifS (Mini.E.cmp Mini.Cmp.le (Mini.E.var 1) (Mini.E.var 3))
          [Mini.S.ret
              (Mini.E.tup
                [Mini.E.cst (Mini.D.str { cps := { toList := [97, 112, 112, 108, 121] } }),
                  Mini.E.call 11
                    [(Mini.E.var 0).ix (Mini.E.cst (Mini.D.int (Int.ofNat 1))),
                      Mini.E.bin Mini.Bin.sub (Mini.E.var 1) (Mini.E.cst (Mini.D.int (Int.ofNat 1)))]
                    [] [],
                  (Mini.E.var 0).ix (Mini.E.cst (Mini.D.int (Int.ofNat 2)))])]
          [],
        Mini.S.ret
          (Mini.E.tup
            [Mini.E.cst (Mini.D.str { cps := { toList := [97, 112, 112, 108, 121] } }),
              (Mini.E.var 0).ix (Mini.E.cst (Mini.D.int (Int.ofNat 1))),
              Mini.E.call 11
                [(Mini.E.var 0).ix (Mini.E.cst (Mini.D.int (Int.ofNat 2))),
                  Mini.E.bin Mini.Bin.sub
                    (Mini.E.bin Mini.Bin.sub (Mini.E.var 1) (Mini.E.cst (Mini.D.int (Int.ofNat 1)))) (Mini.E.var 3)]
                [] []])]
def F11 : Fn := ⟨4, B11⟩
def B12 : List S :=
      [Mini.S.asg (Mini.Tg.one 1) (Mini.E.cst (Mini.D.int (Int.ofNat 0))), Mini.S.asg (Mini.Tg.one 2) (Mini.E.var 0),
        Mini.S.asg (Mini.Tg.one 3) (Mini.E.call 10 [Mini.E.var 2] [] []),
        Mini.S.whl (Mini.E.cmp Mini.Cmp.ne (Mini.E.var 3) (Mini.E.lst []))
          [Mini.S.asg (Mini.Tg.one 2)
              (Mini.E.call 11 [Mini.E.var 2, (Mini.E.var 3).ix (Mini.E.cst (Mini.D.int (Int.ofNat 0)))] [] []),
            Mini.S.aug 1 Mini.Bin.add (Mini.E.cst (Mini.D.int (Int.ofNat 1))),
            Mini.S.asg (Mini.Tg.one 3) (Mini.E.call 10 [Mini.E.var 2] [] [])],
        Mini.S.ret (Mini.E.tup [Mini.E.var 2, Mini.E.var 1])]
def F12 : Fn := ⟨4, B12⟩
def B13 : List S :=
      [Mini.S.ifS
          (Mini.E.cmp Mini.Cmp.eq ((Mini.E.var 0).ix (Mini.E.cst (Mini.D.int (Int.ofNat 0))))
            (Mini.E.cst (Mini.D.str { cps := { toList := [97, 112, 112, 108, 121] } })))
          [Mini.S.ex (Mini.E.mcall 13 [(Mini.E.var 0).ix (Mini.E.cst (Mini.D.int (Int.ofNat 1))), Mini.E.var 1] [] []),
            Mini.S.ex (Mini.E.mcall 13 [(Mini.E.var 0).ix (Mini.E.cst (Mini.D.int (Int.ofNat 2))), Mini.E.var 1] [] []),
            Mini.S.retN]
          [],
        Mini.S.asg (Mini.Tg.one 2) ((Mini.E.var 0).ix (Mini.E.cst (Mini.D.int (Int.ofNat 1)))),
        Mini.S.ifS (Mini.E.call 0 [Mini.E.var 2] [] []).nt
          [Mini.S.raiseF { cps := { toList := [66, 97, 100, 78, 97, 109, 101] } }
              { cps := { toList := [110, 97, 109, 101] } } (Mini.E.var 2)]
          [],
        Mini.S.ifS
          (Mini.E.cmp Mini.Cmp.eq ((Mini.E.var 0).ix (Mini.E.cst (Mini.D.int (Int.ofNat 0))))
            (Mini.E.cst (Mini.D.str { cps := { toList := [110, 97, 109, 101] } })))
          [Mini.S.ifS ((Mini.E.var 1).dget (Mini.E.var 2) (Mini.E.cst (Mini.D.bl false)))
              [Mini.S.raiseF { cps := { toList := [82, 101, 112, 101, 97, 116, 101, 100] } }
                  { cps := { toList := [110, 97, 109, 101] } } (Mini.E.var 2)]
              [],
            Mini.S.puti (Mini.E.var 1) (Mini.E.var 2) (Mini.E.cst (Mini.D.bl true)), Mini.S.retN]
          [],
        Mini.S.ifS (Mini.E.cmp Mini.Cmp.inn (Mini.E.var 2) (Mini.E.var 1))
          [Mini.S.raiseF { cps := { toList := [82, 101, 112, 101, 97, 116, 101, 100] } }
              { cps := { toList := [110, 97, 109, 101] } } (Mini.E.var 2)]
          [],
        Mini.S.puti (Mini.E.var 1) (Mini.E.var 2) (Mini.E.cst (Mini.D.bl false)),
        Mini.S.ex (Mini.E.mcall 13 [(Mini.E.var 0).ix (Mini.E.cst (Mini.D.int (Int.ofNat 2))), Mini.E.var 1] [] []),
        Mini.S.puti (Mini.E.var 1) (Mini.E.var 2) (Mini.E.cst (Mini.D.bl true))]
def F13 : Fn := ⟨3, B13⟩
def B14 : List S :=
      [Mini.S.asg (Mini.Tg.one 1) (Mini.E.call 4 [Mini.E.var 0] [] []),
        Mini.S.ifS (Mini.E.cmp Mini.Cmp.gt (Mini.E.var 1) (Mini.E.cst (Mini.D.int (Int.ofNat 60))))
          [Mini.S.raise { cps := { toList := [84, 111, 111, 76, 97, 114, 103, 101] } }] [],
        Mini.S.ex (Mini.E.mcall 13 [Mini.E.var 0, Mini.E.dnew] [] []), Mini.S.ret (Mini.E.var 1)]
def F14 : Fn := ⟨2, B14⟩
def B15 : List S :=
      [Mini.S.asg (Mini.Tg.one 1) (Mini.E.call 3 [Mini.E.var 0] [] []),
        Mini.S.asg (Mini.Tg.one 2)
          (((Mini.E.var 3).ix (Mini.E.cst (Mini.D.int (Int.ofNat 1)))).dcomp (Mini.E.cst (Mini.D.bl true))
            (Mini.Tg.one 3) Mini.IK.seq [Mini.E.var 1]
            [Mini.E.cmp Mini.Cmp.eq ((Mini.E.var 3).ix (Mini.E.cst (Mini.D.int (Int.ofNat 0))))
                (Mini.E.cst (Mini.D.str { cps := { toList := [110, 97, 109, 101] } }))]
            [3]),
        Mini.S.ret
          (((Mini.E.var 3).ix (Mini.E.cst (Mini.D.int (Int.ofNat 1)))).comp (Mini.Tg.one 3) Mini.IK.seq [Mini.E.var 1]
            [(Mini.E.cmp Mini.Cmp.eq ((Mini.E.var 3).ix (Mini.E.cst (Mini.D.int (Int.ofNat 0))))
                    (Mini.E.cst (Mini.D.str { cps := { toList := [98, 105, 110, 100] } }))).an
                (Mini.E.cmp Mini.Cmp.nin ((Mini.E.var 3).ix (Mini.E.cst (Mini.D.int (Int.ofNat 1)))) (Mini.E.var 2))]
            [3])]
def F15 : Fn := ⟨4, B15⟩
def B16 : List S :=
      [Mini.S.asg (Mini.Tg.one 2) (Mini.E.call 5 [Mini.E.var 0] [] []),
        Mini.S.ifS (Mini.E.cmp Mini.Cmp.isN (Mini.E.var 1) (Mini.E.cst Mini.D.non)) [Mini.S.ret (Mini.E.var 2)] [],
        Mini.S.ex (Mini.E.call 9 [Mini.E.var 1] [] []),
        Mini.S.forS (Mini.Tg.one 3) Mini.IK.seq [Mini.E.var 2]
          [Mini.S.ifS (Mini.E.cmp Mini.Cmp.nin (Mini.E.var 3) (Mini.E.var 1))
              [Mini.S.raise { cps := { toList := [66, 97, 100, 78, 97, 109, 101, 115] } }] []],
        Mini.S.forS (Mini.Tg.one 4) Mini.IK.seq [Mini.E.call 3 [Mini.E.var 0] [] []]
          [Mini.S.ifS
              ((Mini.E.cmp Mini.Cmp.eq ((Mini.E.var 4).ix (Mini.E.cst (Mini.D.int (Int.ofNat 0))))
                    (Mini.E.cst (Mini.D.str { cps := { toList := [98, 105, 110, 100] } }))).an
                (Mini.E.cmp Mini.Cmp.inn ((Mini.E.var 4).ix (Mini.E.cst (Mini.D.int (Int.ofNat 1)))) (Mini.E.var 1)))
              [Mini.S.raise { cps := { toList := [66, 97, 100, 78, 97, 109, 101, 115] } }] []],
        Mini.S.ret (Mini.E.bi Mini.Bi.list [Mini.E.var 1])]
def F16 : Fn := ⟨5, B16⟩
def B17 : List S :=
      [Mini.S.asg (Mini.Tg.one 2) (Mini.E.call 16 [Mini.E.var 0, Mini.E.var 1] [] []),
        Mini.S.asg (Mini.Tg.one 3)
          (((Mini.E.var 4).ix (Mini.E.cst (Mini.D.int (Int.ofNat 1)))).comp (Mini.Tg.one 4) Mini.IK.seq
            [Mini.E.call 3 [Mini.E.var 0] [] []]
            [Mini.E.cmp Mini.Cmp.eq ((Mini.E.var 4).ix (Mini.E.cst (Mini.D.int (Int.ofNat 0))))
                (Mini.E.cst (Mini.D.str { cps := { toList := [98, 105, 110, 100] } }))]
            [4]),
        Mini.S.ret
          (Mini.E.mcall 6
            [Mini.E.var 0,
              (Mini.E.var 3).dzip (Mini.E.call 1 [Mini.E.bi Mini.Bi.len [Mini.E.var 3], Mini.E.var 2] [] [])]
            [] [])]
def F17 : Fn := ⟨5, B17⟩
def B18 : List S :=
      [Mini.S.ifS (Mini.E.cmp Mini.Cmp.eq (Mini.E.var 1) (Mini.E.cst (Mini.D.int (Int.ofNat 0))))
          [Mini.S.ret
              (Mini.E.call 7
                [((Mini.E.var 0).ix (Mini.E.cst (Mini.D.int (Int.ofNat 1)))).ix (Mini.E.cst (Mini.D.int (Int.ofNat 2))),
                  ((Mini.E.var 0).ix (Mini.E.cst (Mini.D.int (Int.ofNat 1)))).ix
                    (Mini.E.cst (Mini.D.int (Int.ofNat 1))),
                  (Mini.E.var 0).ix (Mini.E.cst (Mini.D.int (Int.ofNat 2)))]
                [] [])]
          [],
        Mini.S.ifS
          (Mini.E.cmp Mini.Cmp.eq ((Mini.E.var 0).ix (Mini.E.cst (Mini.D.int (Int.ofNat 0))))
            (Mini.E.cst (Mini.D.str { cps := { toList := [98, 105, 110, 100] } })))
          [Mini.S.ret
              (Mini.E.tup
                [Mini.E.cst (Mini.D.str { cps := { toList := [98, 105, 110, 100] } }),
                  (Mini.E.var 0).ix (Mini.E.cst (Mini.D.int (Int.ofNat 1))),
                  Mini.E.call 18
                    [(Mini.E.var 0).ix (Mini.E.cst (Mini.D.int (Int.ofNat 2))),
                      Mini.E.bin Mini.Bin.sub (Mini.E.var 1) (Mini.E.cst (Mini.D.int (Int.ofNat 1)))]
                    [] []])]
          [],
        Mini.S.asg (Mini.Tg.one 2) (Mini.E.call 4 [(Mini.E.var 0).ix (Mini.E.cst (Mini.D.int (Int.ofNat 1)))] [] []),
        Mini.S.ifS (Mini.E.cmp Mini.Cmp.le (Mini.E.var 1) (Mini.E.var 2))
          [Mini.S.ret
              (Mini.E.tup
                [Mini.E.cst (Mini.D.str { cps := { toList := [97, 112, 112, 108, 121] } }),
                  Mini.E.call 18
                    [(Mini.E.var 0).ix (Mini.E.cst (Mini.D.int (Int.ofNat 1))),
                      Mini.E.bin Mini.Bin.sub (Mini.E.var 1) (Mini.E.cst (Mini.D.int (Int.ofNat 1)))]
                    [] [],
                  (Mini.E.var 0).ix (Mini.E.cst (Mini.D.int (Int.ofNat 2)))])]
          [],
        Mini.S.ret
          (Mini.E.tup
            [Mini.E.cst (Mini.D.str { cps := { toList := [97, 112, 112, 108, 121] } }),
              (Mini.E.var 0).ix (Mini.E.cst (Mini.D.int (Int.ofNat 1))),
              Mini.E.call 18
                [(Mini.E.var 0).ix (Mini.E.cst (Mini.D.int (Int.ofNat 2))),
                  Mini.E.bin Mini.Bin.sub
                    (Mini.E.bin Mini.Bin.sub (Mini.E.var 1) (Mini.E.cst (Mini.D.int (Int.ofNat 1)))) (Mini.E.var 2)]
                [] []])]
def F18 : Fn := ⟨3, B18⟩
def B19 : List S :=
      [Mini.S.ifS (Mini.E.cmp Mini.Cmp.nin (Mini.E.var 1) (Mini.E.call 10 [Mini.E.var 0] [] []))
          [Mini.S.raise { cps := { toList := [78, 111, 116, 82, 101, 97, 100, 121] } }] [],
        Mini.S.ret (Mini.E.call 18 [Mini.E.var 0, Mini.E.var 1] [] [])]
def F19 : Fn := ⟨2, B19⟩
def B20 : List S :=
      [Mini.S.asg (Mini.Tg.one 1) (Mini.E.cst (Mini.D.int (Int.ofNat 0))), Mini.S.asg (Mini.Tg.one 2) (Mini.E.var 0),
        Mini.S.asg (Mini.Tg.one 3) (Mini.E.call 10 [Mini.E.var 2] [] []),
        Mini.S.whl (Mini.E.cmp Mini.Cmp.ne (Mini.E.var 3) (Mini.E.lst []))
          [Mini.S.asg (Mini.Tg.one 2)
              (Mini.E.call 18 [Mini.E.var 2, (Mini.E.var 3).ix (Mini.E.cst (Mini.D.int (Int.ofNat 0)))] [] []),
            Mini.S.aug 1 Mini.Bin.add (Mini.E.cst (Mini.D.int (Int.ofNat 1))),
            Mini.S.asg (Mini.Tg.one 3) (Mini.E.call 10 [Mini.E.var 2] [] [])],
        Mini.S.ret (Mini.E.tup [Mini.E.var 2, Mini.E.var 1])]
def F20 : Fn := ⟨4, B20⟩
def B21 : List S :=
      [Mini.S.ifS (Mini.E.cmp Mini.Cmp.lt (Mini.E.var 1) (Mini.E.bi Mini.Bi.len [Mini.E.var 0]))
          [Mini.S.ret ((Mini.E.var 0).ix (Mini.E.var 1))] [],
        Mini.S.ret (Mini.E.cst (Mini.D.int (Int.ofNat 0)))]
def F21 : Fn := ⟨2, B21⟩
def B22 : List S :=
      [Mini.S.ifS (Mini.E.cmp Mini.Cmp.lt (Mini.E.var 1) (Mini.E.bi Mini.Bi.len [Mini.E.var 0]))
          [Mini.S.ret ((Mini.E.var 0).ix (Mini.E.var 1))] [],
        Mini.S.ret (Mini.E.cst (Mini.D.int (Int.ofNat 0)))]
def F22 : Fn := ⟨2, B22⟩
def B23 : List S :=
      [Mini.S.asg (Mini.Tg.one 3) (Mini.E.lst []), Mini.S.asg (Mini.Tg.one 4) (Mini.E.bi Mini.Bi.abs [Mini.E.var 0]),
        Mini.S.ifS
          (Mini.E.cmp Mini.Cmp.ge (Mini.E.var 4)
            (Mini.E.bin Mini.Bin.pow (Mini.E.cst (Mini.D.int (Int.ofNat 10))) (Mini.E.cst (Mini.D.int (Int.ofNat 18)))))
          [Mini.S.forS (Mini.Tg.one 5) Mini.IK.r1 [Mini.E.var 1]
              [Mini.S.ifS (Mini.E.cmp Mini.Cmp.gt (Mini.E.var 4) (Mini.E.cst (Mini.D.int (Int.ofNat 0))))
                  [Mini.S.ex
                      (Mini.E.mt Mini.Mt.append (Mini.E.var 3)
                        [Mini.E.bin Mini.Bin.mod (Mini.E.var 4) (Mini.E.cst (Mini.D.int (Int.ofNat 360)))]),
                    Mini.S.asg (Mini.Tg.one 4)
                      (Mini.E.bin Mini.Bin.fdv (Mini.E.var 4) (Mini.E.cst (Mini.D.int (Int.ofNat 360))))]
                  []],
            Mini.S.ret (Mini.E.var 3)]
          [],
        Mini.S.asg (Mini.Tg.one 6)
          (Mini.E.bin Mini.Bin.add
            (Mini.E.bin Mini.Bin.add
              (Mini.E.bin Mini.Bin.mul (Mini.E.var 4) (Mini.E.cst (Mini.D.int (Int.ofNat 48271))))
              (Mini.E.bin Mini.Bin.mul (Mini.E.var 2) (Mini.E.cst (Mini.D.int (Int.ofNat 69621)))))
            (Mini.E.cst (Mini.D.int (Int.ofNat 12345)))),
        Mini.S.forS (Mini.Tg.one 5) Mini.IK.r1 [Mini.E.var 1]
          [Mini.S.asg (Mini.Tg.one 6)
              (Mini.E.bin Mini.Bin.mod
                (Mini.E.bi Mini.Bi.int
                  [Mini.E.bin Mini.Bin.add
                      (Mini.E.bin Mini.Bin.add
                        (Mini.E.bin Mini.Bin.mul (Mini.E.var 6) (Mini.E.cst (Mini.D.int (Int.ofNat 48271))))
                        (Mini.E.cst (Mini.D.int (Int.ofNat 11))))
                      (Mini.E.var 5)])
                (Mini.E.cst (Mini.D.int (Int.ofNat 2147483647)))),
            Mini.S.ex
              (Mini.E.mt Mini.Mt.append (Mini.E.var 3)
                [Mini.E.bin Mini.Bin.mod
                    (Mini.E.bin Mini.Bin.fdv
                      (Mini.E.bin Mini.Bin.mod
                        (Mini.E.bi Mini.Bi.int
                          [Mini.E.bin Mini.Bin.add
                              (Mini.E.bin Mini.Bin.mul (Mini.E.var 6) (Mini.E.cst (Mini.D.int (Int.ofNat 69621))))
                              (Mini.E.var 2)])
                        (Mini.E.cst (Mini.D.int (Int.ofNat 2147483629))))
                      (Mini.E.cst (Mini.D.int (Int.ofNat 7))))
                    (Mini.E.cst (Mini.D.int (Int.ofNat 360)))])],
        Mini.S.ret (Mini.E.var 3)]
def F23 : Fn := ⟨7, B23⟩
def B24 : List S :=
      [Mini.S.ifS (Mini.E.cmp Mini.Cmp.isN (Mini.E.var 1) (Mini.E.cst Mini.D.non))
          [Mini.S.ret (Mini.E.cmp Mini.Cmp.isN (Mini.E.var 0) (Mini.E.cst Mini.D.non))] [],
        Mini.S.ifS ((Mini.E.var 1).isi [Mini.Ty.bool])
          [Mini.S.ret (((Mini.E.var 0).isi [Mini.Ty.bool]).an (Mini.E.cmp Mini.Cmp.eq (Mini.E.var 0) (Mini.E.var 1)))]
          [],
        Mini.S.ifS ((Mini.E.var 1).isi [Mini.Ty.int])
          [Mini.S.ret
              (((Mini.E.var 0).isi [Mini.Ty.int]).an
                (((Mini.E.var 0).isi [Mini.Ty.bool]).nt.an (Mini.E.cmp Mini.Cmp.eq (Mini.E.var 0) (Mini.E.var 1))))]
          [],
        Mini.S.ifS ((Mini.E.var 1).isi [Mini.Ty.str])
          [Mini.S.ret (((Mini.E.var 0).isi [Mini.Ty.str]).an (Mini.E.cmp Mini.Cmp.eq (Mini.E.var 0) (Mini.E.var 1)))]
          [],
        Mini.S.ifS ((Mini.E.var 1).isi [Mini.Ty.dic])
          [Mini.S.ifS
              (((Mini.E.var 0).isi [Mini.Ty.dic]).nt.orr
                (Mini.E.cmp Mini.Cmp.ne (Mini.E.bi Mini.Bi.len [Mini.E.var 0]) (Mini.E.bi Mini.Bi.len [Mini.E.var 1])))
              [Mini.S.ret (Mini.E.cst (Mini.D.bl false))] [],
            Mini.S.ret
              (Mini.E.cmp Mini.Cmp.eq
                ((Mini.E.var 3).comp (Mini.Tg.one 3) Mini.IK.seq [Mini.E.var 1]
                  [(Mini.E.cmp Mini.Cmp.nin (Mini.E.var 3) (Mini.E.var 0)).orr
                      (Mini.E.call 24 [(Mini.E.var 0).ix (Mini.E.var 3), (Mini.E.var 1).ix (Mini.E.var 3)] [] []).nt]
                  [3])
                (Mini.E.lst []))]
          [],
        Mini.S.ifS
          ((Mini.E.cmp Mini.Cmp.ne ((Mini.E.var 1).isi [Mini.Ty.tup]) ((Mini.E.var 0).isi [Mini.Ty.tup])).orr
            (Mini.E.cmp Mini.Cmp.ne ((Mini.E.var 1).isi [Mini.Ty.lst]) ((Mini.E.var 0).isi [Mini.Ty.lst])))
          [Mini.S.ret (Mini.E.cst (Mini.D.bl false))] [],
        Mini.S.ifS
          (((Mini.E.var 0).isi [Mini.Ty.tup, Mini.Ty.lst]).nt.orr
            (Mini.E.cmp Mini.Cmp.ne (Mini.E.bi Mini.Bi.len [Mini.E.var 0]) (Mini.E.bi Mini.Bi.len [Mini.E.var 1])))
          [Mini.S.ret (Mini.E.cst (Mini.D.bl false))] [],
        Mini.S.forS (Mini.Tg.one 2) Mini.IK.r1 [Mini.E.bi Mini.Bi.len [Mini.E.var 1]]
          [Mini.S.ifS (Mini.E.call 24 [(Mini.E.var 0).ix (Mini.E.var 2), (Mini.E.var 1).ix (Mini.E.var 2)] [] []).nt
              [Mini.S.ret (Mini.E.cst (Mini.D.bl false))] []],
        Mini.S.ret (Mini.E.cst (Mini.D.bl true))]
def F24 : Fn := ⟨4, B24⟩
def B25 : List S :=
      [Mini.S.ifS
          (Mini.E.cmp Mini.Cmp.eq (Mini.E.bin Mini.Bin.mod (Mini.E.var 1) (Mini.E.cst (Mini.D.int (Int.ofNat 5))))
            (Mini.E.cst (Mini.D.int (Int.ofNat 3))))
          [Mini.S.ret
              (Mini.E.bin Mini.Bin.add (Mini.E.cst (Mini.D.str { cps := { toList := [122, 122] } }))
                (Mini.E.bi Mini.Bi.str
                  [Mini.E.bin Mini.Bin.sub (Mini.E.cst (Mini.D.int (Int.ofNat 70))) (Mini.E.var 0)]))]
          [],
        Mini.S.ret
          (Mini.E.bin Mini.Bin.add
            ((Mini.E.lst
                  [Mini.E.cst (Mini.D.str { cps := { toList := [110] } }),
                    Mini.E.cst (Mini.D.str { cps := { toList := [118] } }),
                    Mini.E.cst (Mini.D.str { cps := { toList := [113, 55] } }),
                    Mini.E.cst (Mini.D.str { cps := { toList := [122, 122] } }),
                    Mini.E.cst (Mini.D.str { cps := { toList := [108, 111, 110, 103] } })]).ix
              (Mini.E.bin Mini.Bin.mod (Mini.E.var 1) (Mini.E.cst (Mini.D.int (Int.ofNat 5)))))
            (Mini.E.bi Mini.Bi.str [Mini.E.var 0]))]
def F25 : Fn := ⟨2, B25⟩
def B26 : List S :=
      [Mini.S.asg (Mini.Tg.one 3) (Mini.E.mt Mini.Mt.pop (Mini.E.var 0) []),
        Mini.S.asg (Mini.Tg.one 4) (Mini.E.mt Mini.Mt.pop (Mini.E.var 0) []),
        Mini.S.asg (Mini.Tg.one 5) ((Mini.E.var 4).ix (Mini.E.cst (Mini.D.int (Int.ofNat 0)))),
        Mini.S.asg (Mini.Tg.one 6) ((Mini.E.var 4).ix (Mini.E.cst (Mini.D.int (Int.ofNat 1)))),
        Mini.S.ifS
          ((Mini.E.cmp Mini.Cmp.eq (Mini.E.var 1) (Mini.E.cst (Mini.D.int (Int.ofNat 3)))).an
            (Mini.E.cmp Mini.Cmp.ne (Mini.E.var 6) (Mini.E.lst [])))
          [Mini.S.asg (Mini.Tg.one 7)
              ((Mini.E.var 6).ix
                (Mini.E.bin Mini.Bin.mod
                  (Mini.E.bin Mini.Bin.fdv (Mini.E.var 2) (Mini.E.cst (Mini.D.int (Int.ofNat 6))))
                  (Mini.E.bi Mini.Bi.len [Mini.E.var 6]))),
            Mini.S.asg (Mini.Tg.one 5)
              (Mini.E.tup
                [Mini.E.cst (Mini.D.str { cps := { toList := [98, 105, 110, 100] } }), Mini.E.var 7, Mini.E.var 5]),
            Mini.S.asg (Mini.Tg.one 6)
              ((Mini.E.var 8).comp (Mini.Tg.one 8) Mini.IK.seq [Mini.E.var 6]
                [Mini.E.cmp Mini.Cmp.ne (Mini.E.var 8) (Mini.E.var 7)] [8])]
          [],
        Mini.S.ex
          (Mini.E.mt Mini.Mt.append (Mini.E.var 0)
            [Mini.E.tup
                [Mini.E.tup
                    [Mini.E.cst (Mini.D.str { cps := { toList := [97, 112, 112, 108, 121] } }), Mini.E.var 5,
                      (Mini.E.var 3).ix (Mini.E.cst (Mini.D.int (Int.ofNat 0)))],
                  Mini.E.bin Mini.Bin.add (Mini.E.var 6)
                    ((Mini.E.var 3).ix (Mini.E.cst (Mini.D.int (Int.ofNat 1))))]])]
def F26 : Fn := ⟨9, B26⟩
def B27 : List S :=
      [Mini.S.asg (Mini.Tg.one 2) (Mini.E.bi Mini.Bi.list [Mini.E.var 0]), Mini.S.asg (Mini.Tg.one 3) (Mini.E.lst []),
        Mini.S.forS (Mini.Tg.one 4) Mini.IK.r1 [Mini.E.bi Mini.Bi.len [Mini.E.var 0]]
          [Mini.S.ex
              (Mini.E.mt Mini.Mt.append (Mini.E.var 3)
                [Mini.E.mt Mini.Mt.popi (Mini.E.var 2)
                    [Mini.E.bin Mini.Bin.mod (Mini.E.call 22 [Mini.E.var 1, Mini.E.var 4] [] [])
                        (Mini.E.bi Mini.Bi.len [Mini.E.var 2])]])],
        Mini.S.ret (Mini.E.var 3)]
def F27 : Fn := ⟨5, B27⟩
def B28 : List S :=
      [Mini.S.ifS
          (Mini.E.cmp Mini.Cmp.eq ((Mini.E.var 0).ix (Mini.E.cst (Mini.D.int (Int.ofNat 0))))
            (Mini.E.cst (Mini.D.str { cps := { toList := [110, 97, 109, 101] } })))
          [Mini.S.ret (Mini.E.cst (Mini.D.int (Int.ofNat 0)))] [],
        Mini.S.ifS
          (Mini.E.cmp Mini.Cmp.eq ((Mini.E.var 0).ix (Mini.E.cst (Mini.D.int (Int.ofNat 0))))
            (Mini.E.cst (Mini.D.str { cps := { toList := [98, 105, 110, 100] } })))
          [Mini.S.ret
              (Mini.E.bin Mini.Bin.add (Mini.E.cst (Mini.D.int (Int.ofNat 1)))
                (Mini.E.call 28 [(Mini.E.var 0).ix (Mini.E.cst (Mini.D.int (Int.ofNat 2)))] [] []))]
          [],
        Mini.S.ret
          (Mini.E.bin Mini.Bin.add
            (Mini.E.bin Mini.Bin.add (Mini.E.cst (Mini.D.int (Int.ofNat 1)))
              (Mini.E.call 28 [(Mini.E.var 0).ix (Mini.E.cst (Mini.D.int (Int.ofNat 1)))] [] []))
            (Mini.E.call 28 [(Mini.E.var 0).ix (Mini.E.cst (Mini.D.int (Int.ofNat 2)))] [] []))]
def F28 : Fn := ⟨1, B28⟩
def B29 : List S :=
      [Mini.S.ifS
          (Mini.E.cmp Mini.Cmp.eq ((Mini.E.var 0).ix (Mini.E.cst (Mini.D.int (Int.ofNat 0))))
            (Mini.E.cst (Mini.D.str { cps := { toList := [110, 97, 109, 101] } })))
          [Mini.S.ret (Mini.E.lst [Mini.E.var 0])] [],
        Mini.S.ifS
          (Mini.E.cmp Mini.Cmp.eq ((Mini.E.var 0).ix (Mini.E.cst (Mini.D.int (Int.ofNat 0))))
            (Mini.E.cst (Mini.D.str { cps := { toList := [98, 105, 110, 100] } })))
          [Mini.S.ret
              (Mini.E.bin Mini.Bin.add (Mini.E.lst [Mini.E.var 0])
                (Mini.E.call 29 [(Mini.E.var 0).ix (Mini.E.cst (Mini.D.int (Int.ofNat 2)))] [] []))]
          [],
        Mini.S.ret
          (Mini.E.bin Mini.Bin.add
            (Mini.E.bin Mini.Bin.add (Mini.E.lst [Mini.E.var 0])
              (Mini.E.call 29 [(Mini.E.var 0).ix (Mini.E.cst (Mini.D.int (Int.ofNat 1)))] [] []))
            (Mini.E.call 29 [(Mini.E.var 0).ix (Mini.E.cst (Mini.D.int (Int.ofNat 2)))] [] []))]
def F29 : Fn := ⟨1, B29⟩
def B30 : List S :=
      [Mini.S.ifS
          (Mini.E.cmp Mini.Cmp.eq ((Mini.E.var 0).ix (Mini.E.cst (Mini.D.int (Int.ofNat 0))))
            (Mini.E.cst (Mini.D.str { cps := { toList := [110, 97, 109, 101] } })))
          [Mini.S.ret
              (Mini.E.tup
                [Mini.E.cst (Mini.D.str { cps := { toList := [110, 97, 109, 101] } }),
                  (Mini.E.var 1).dget ((Mini.E.var 0).ix (Mini.E.cst (Mini.D.int (Int.ofNat 1))))
                    ((Mini.E.var 0).ix (Mini.E.cst (Mini.D.int (Int.ofNat 1))))])]
          [],
        Mini.S.ifS
          (Mini.E.cmp Mini.Cmp.eq ((Mini.E.var 0).ix (Mini.E.cst (Mini.D.int (Int.ofNat 0))))
            (Mini.E.cst (Mini.D.str { cps := { toList := [97, 112, 112, 108, 121] } })))
          [Mini.S.asg (Mini.Tg.one 4)
              (Mini.E.mcall 30
                [(Mini.E.var 0).ix (Mini.E.cst (Mini.D.int (Int.ofNat 1))), Mini.E.var 1, Mini.E.var 2, Mini.E.var 3] []
                []),
            Mini.S.ret
              (Mini.E.tup
                [Mini.E.cst (Mini.D.str { cps := { toList := [97, 112, 112, 108, 121] } }), Mini.E.var 4,
                  Mini.E.mcall 30
                    [(Mini.E.var 0).ix (Mini.E.cst (Mini.D.int (Int.ofNat 2))), Mini.E.var 1, Mini.E.var 2,
                      Mini.E.var 3]
                    [] []])]
          [],
        Mini.S.forS (Mini.Tg.one 5) Mini.IK.r1 [Mini.E.bi Mini.Bi.len [Mini.E.var 2]]
          [Mini.S.ifS
              (Mini.E.cmp Mini.Cmp.inn
                (Mini.E.bin Mini.Bin.add (Mini.E.cst (Mini.D.str { cps := { toList := [118] } }))
                  (Mini.E.bi Mini.Bi.str [(Mini.E.var 3).ix (Mini.E.cst (Mini.D.int (Int.ofNat 0)))]))
                (Mini.E.var 2))
              [Mini.S.puti (Mini.E.var 3) (Mini.E.cst (Mini.D.int (Int.ofNat 0)))
                  (Mini.E.bin Mini.Bin.add ((Mini.E.var 3).ix (Mini.E.cst (Mini.D.int (Int.ofNat 0))))
                    (Mini.E.cst (Mini.D.int (Int.ofNat 1))))]
              []],
        Mini.S.puti (Mini.E.var 1) ((Mini.E.var 0).ix (Mini.E.cst (Mini.D.int (Int.ofNat 1))))
          (Mini.E.bin Mini.Bin.add (Mini.E.cst (Mini.D.str { cps := { toList := [118] } }))
            (Mini.E.bi Mini.Bi.str [(Mini.E.var 3).ix (Mini.E.cst (Mini.D.int (Int.ofNat 0)))])),
        Mini.S.puti (Mini.E.var 3) (Mini.E.cst (Mini.D.int (Int.ofNat 0)))
          (Mini.E.bin Mini.Bin.add ((Mini.E.var 3).ix (Mini.E.cst (Mini.D.int (Int.ofNat 0))))
            (Mini.E.cst (Mini.D.int (Int.ofNat 1)))),
        Mini.S.ret
          (Mini.E.tup
            [Mini.E.cst (Mini.D.str { cps := { toList := [98, 105, 110, 100] } }),
              (Mini.E.var 1).ix ((Mini.E.var 0).ix (Mini.E.cst (Mini.D.int (Int.ofNat 1)))),
              Mini.E.mcall 30
                [(Mini.E.var 0).ix (Mini.E.cst (Mini.D.int (Int.ofNat 2))), Mini.E.var 1, Mini.E.var 2, Mini.E.var 3] []
                []])]
def F30 : Fn := ⟨6, B30⟩
def B31 : List S :=
      [Mini.S.ifS
          (Mini.E.cmp Mini.Cmp.eq ((Mini.E.var 0).ix (Mini.E.cst (Mini.D.int (Int.ofNat 0))))
            (Mini.E.cst (Mini.D.str { cps := { toList := [110, 97, 109, 101] } })))
          [Mini.S.ifS
              (Mini.E.cmp Mini.Cmp.eq ((Mini.E.var 0).ix (Mini.E.cst (Mini.D.int (Int.ofNat 1)))) (Mini.E.var 1))
              [Mini.S.ret (Mini.E.var 2)] [],
            Mini.S.ret (Mini.E.var 0)]
          [],
        Mini.S.ifS
          (Mini.E.cmp Mini.Cmp.eq ((Mini.E.var 0).ix (Mini.E.cst (Mini.D.int (Int.ofNat 0))))
            (Mini.E.cst (Mini.D.str { cps := { toList := [98, 105, 110, 100] } })))
          [Mini.S.ret
              (Mini.E.tup
                [Mini.E.cst (Mini.D.str { cps := { toList := [98, 105, 110, 100] } }),
                  (Mini.E.var 0).ix (Mini.E.cst (Mini.D.int (Int.ofNat 1))),
                  Mini.E.call 31 [(Mini.E.var 0).ix (Mini.E.cst (Mini.D.int (Int.ofNat 2))), Mini.E.var 1, Mini.E.var 2]
                    [] []])]
          [],
        Mini.S.ret
          (Mini.E.tup
            [Mini.E.cst (Mini.D.str { cps := { toList := [97, 112, 112, 108, 121] } }),
              Mini.E.call 31 [(Mini.E.var 0).ix (Mini.E.cst (Mini.D.int (Int.ofNat 1))), Mini.E.var 1, Mini.E.var 2] []
                [],
              Mini.E.call 31 [(Mini.E.var 0).ix (Mini.E.cst (Mini.D.int (Int.ofNat 2))), Mini.E.var 1, Mini.E.var 2] []
                []])]
def F31 : Fn := ⟨3, B31⟩
def B32 : List S :=
      [Mini.S.ifS
          (Mini.E.cmp Mini.Cmp.eq ((Mini.E.var 0).ix (Mini.E.cst (Mini.D.int (Int.ofNat 0))))
            (Mini.E.cst (Mini.D.str { cps := { toList := [110, 97, 109, 101] } })))
          [Mini.S.ret (Mini.E.cst Mini.D.non)] [],
        Mini.S.ifS
          (Mini.E.cmp Mini.Cmp.eq ((Mini.E.var 0).ix (Mini.E.cst (Mini.D.int (Int.ofNat 0))))
            (Mini.E.cst (Mini.D.str { cps := { toList := [98, 105, 110, 100] } })))
          [Mini.S.asg (Mini.Tg.one 1)
              (Mini.E.call 32 [(Mini.E.var 0).ix (Mini.E.cst (Mini.D.int (Int.ofNat 2)))] [] []),
            Mini.S.ifS (Mini.E.cmp Mini.Cmp.isN (Mini.E.var 1) (Mini.E.cst Mini.D.non))
              [Mini.S.ret (Mini.E.cst Mini.D.non)] [],
            Mini.S.ret
              (Mini.E.tup
                [Mini.E.cst (Mini.D.str { cps := { toList := [98, 105, 110, 100] } }),
                  (Mini.E.var 0).ix (Mini.E.cst (Mini.D.int (Int.ofNat 1))), Mini.E.var 1])]
          [],
        Mini.S.ifS
          (Mini.E.cmp Mini.Cmp.eq
            (((Mini.E.var 0).ix (Mini.E.cst (Mini.D.int (Int.ofNat 1)))).ix (Mini.E.cst (Mini.D.int (Int.ofNat 0))))
            (Mini.E.cst (Mini.D.str { cps := { toList := [98, 105, 110, 100] } })))
          [Mini.S.ret
              (Mini.E.call 31
                [((Mini.E.var 0).ix (Mini.E.cst (Mini.D.int (Int.ofNat 1)))).ix (Mini.E.cst (Mini.D.int (Int.ofNat 2))),
                  ((Mini.E.var 0).ix (Mini.E.cst (Mini.D.int (Int.ofNat 1)))).ix
                    (Mini.E.cst (Mini.D.int (Int.ofNat 1))),
                  (Mini.E.var 0).ix (Mini.E.cst (Mini.D.int (Int.ofNat 2)))]
                [] [])]
          [],
        Mini.S.asg (Mini.Tg.one 2) (Mini.E.call 32 [(Mini.E.var 0).ix (Mini.E.cst (Mini.D.int (Int.ofNat 1)))] [] []),
        Mini.S.ifS (Mini.E.cmp Mini.Cmp.notN (Mini.E.var 2) (Mini.E.cst Mini.D.non))
          [Mini.S.ret
              (Mini.E.tup
                [Mini.E.cst (Mini.D.str { cps := { toList := [97, 112, 112, 108, 121] } }), Mini.E.var 2,
                  (Mini.E.var 0).ix (Mini.E.cst (Mini.D.int (Int.ofNat 2)))])]
          [],
        Mini.S.asg (Mini.Tg.one 3) (Mini.E.call 32 [(Mini.E.var 0).ix (Mini.E.cst (Mini.D.int (Int.ofNat 2)))] [] []),
        Mini.S.ifS (Mini.E.cmp Mini.Cmp.isN (Mini.E.var 3) (Mini.E.cst Mini.D.non)) [Mini.S.ret (Mini.E.cst Mini.D.non)]
          [],
        Mini.S.ret
          (Mini.E.tup
            [Mini.E.cst (Mini.D.str { cps := { toList := [97, 112, 112, 108, 121] } }),
              (Mini.E.var 0).ix (Mini.E.cst (Mini.D.int (Int.ofNat 1))), Mini.E.var 3])]
def F32 : Fn := ⟨4, B32⟩
def B33 : List S :=
      [Mini.S.asg (Mini.Tg.one 1) (Mini.E.var 0), Mini.S.asg (Mini.Tg.one 2) (Mini.E.cst (Mini.D.int (Int.ofNat 0))),
        Mini.S.forS (Mini.Tg.one 3) Mini.IK.r1
          [Mini.E.bin Mini.Bin.add (Mini.E.call 28 [Mini.E.var 0] [] []) (Mini.E.cst (Mini.D.int (Int.ofNat 1)))]
          [Mini.S.asg (Mini.Tg.one 4) (Mini.E.call 32 [Mini.E.var 1] [] []),
            Mini.S.ifS (Mini.E.cmp Mini.Cmp.isN (Mini.E.var 4) (Mini.E.cst Mini.D.non)) [Mini.S.brk] [],
            Mini.S.asg (Mini.Tg.one 1) (Mini.E.var 4),
            Mini.S.asg (Mini.Tg.one 2)
              (Mini.E.bin Mini.Bin.add (Mini.E.var 2) (Mini.E.cst (Mini.D.int (Int.ofNat 1))))],
        Mini.S.ret (Mini.E.tup [Mini.E.var 1, Mini.E.var 2])]
def F33 : Fn := ⟨5, B33⟩
def B34 : List S :=
      [Mini.S.ifS
          (Mini.E.cmp Mini.Cmp.eq
            (Mini.E.bin Mini.Bin.mod (Mini.E.bi Mini.Bi.int [Mini.E.var 0]) (Mini.E.cst (Mini.D.int (Int.ofNat 8))))
            (Mini.E.cst (Mini.D.int (Int.ofNat 5))))
          [Mini.S.ret (Mini.E.var 2)] [],
        Mini.S.ret (Mini.E.var 1)]
def F34 : Fn := ⟨3, B34⟩
def B35 : List S :=
      [Mini.S.asg (Mini.Tg.one 2) (Mini.E.lst []), Mini.S.asg (Mini.Tg.one 3) (Mini.E.cst (Mini.D.int (Int.ofNat 0))),
        Mini.S.forS (Mini.Tg.one 4) Mini.IK.seq [Mini.E.var 0]
          [Mini.S.asg (Mini.Tg.one 5) (Mini.E.bin Mini.Bin.mod (Mini.E.var 4) (Mini.E.cst (Mini.D.int (Int.ofNat 6)))),
            Mini.S.asg (Mini.Tg.one 6) (Mini.E.call 25 [Mini.E.var 3, Mini.E.var 1] [] []),
            Mini.S.ifS
              ((Mini.E.cmp Mini.Cmp.inn (Mini.E.var 5)
                    (Mini.E.lst [Mini.E.cst (Mini.D.int (Int.ofNat 1)), Mini.E.cst (Mini.D.int (Int.ofNat 5))])).an
                ((Mini.E.cmp Mini.Cmp.ne (Mini.E.var 2) (Mini.E.lst [])).an
                  (Mini.E.cmp Mini.Cmp.ne
                    (((Mini.E.var 2).ix (Mini.E.cst (Mini.D.int (Int.ofNat 1))).neg).ix
                      (Mini.E.cst (Mini.D.int (Int.ofNat 1))))
                    (Mini.E.lst []))))
              [Mini.S.asg (Mini.Tg.one 7) (Mini.E.mt Mini.Mt.pop (Mini.E.var 2) []),
                Mini.S.asg (Mini.Tg.one 8)
                  (((Mini.E.var 7).ix (Mini.E.cst (Mini.D.int (Int.ofNat 1)))).ix
                    (Mini.E.bin Mini.Bin.mod
                      (Mini.E.bin Mini.Bin.fdv (Mini.E.var 4) (Mini.E.cst (Mini.D.int (Int.ofNat 6))))
                      (Mini.E.bi Mini.Bi.len [(Mini.E.var 7).ix (Mini.E.cst (Mini.D.int (Int.ofNat 1)))]))),
                Mini.S.ex
                  (Mini.E.mt Mini.Mt.append (Mini.E.var 2)
                    [Mini.E.tup
                        [Mini.E.tup
                            [Mini.E.cst (Mini.D.str { cps := { toList := [98, 105, 110, 100] } }), Mini.E.var 8,
                              (Mini.E.var 7).ix (Mini.E.cst (Mini.D.int (Int.ofNat 0)))],
                          (Mini.E.var 10).comp (Mini.Tg.one 10) Mini.IK.seq
                            [(Mini.E.var 7).ix (Mini.E.cst (Mini.D.int (Int.ofNat 1)))]
                            [Mini.E.cmp Mini.Cmp.ne (Mini.E.var 10) (Mini.E.var 8)] [10]]])]
              [Mini.S.ifS
                  ((Mini.E.cmp Mini.Cmp.eq (Mini.E.var 5) (Mini.E.cst (Mini.D.int (Int.ofNat 4)))).an
                    (Mini.E.cmp Mini.Cmp.ne (Mini.E.var 2) (Mini.E.lst [])))
                  [Mini.S.asg (Mini.Tg.one 7) (Mini.E.mt Mini.Mt.pop (Mini.E.var 2) []),
                    Mini.S.ex
                      (Mini.E.mt Mini.Mt.append (Mini.E.var 2)
                        [Mini.E.tup
                            [Mini.E.tup
                                [Mini.E.cst (Mini.D.str { cps := { toList := [98, 105, 110, 100] } }), Mini.E.var 6,
                                  (Mini.E.var 7).ix (Mini.E.cst (Mini.D.int (Int.ofNat 0)))],
                              (Mini.E.var 7).ix (Mini.E.cst (Mini.D.int (Int.ofNat 1)))]]),
                    Mini.S.asg (Mini.Tg.one 3)
                      (Mini.E.bin Mini.Bin.add (Mini.E.var 3) (Mini.E.cst (Mini.D.int (Int.ofNat 1))))]
                  [Mini.S.ifS
                      ((Mini.E.cmp Mini.Cmp.inn (Mini.E.var 5)
                            (Mini.E.lst
                              [Mini.E.cst (Mini.D.int (Int.ofNat 2)), Mini.E.cst (Mini.D.int (Int.ofNat 3))])).an
                        (Mini.E.cmp Mini.Cmp.ge (Mini.E.bi Mini.Bi.len [Mini.E.var 2])
                          (Mini.E.cst (Mini.D.int (Int.ofNat 2)))))
                      [Mini.S.ex (Mini.E.mcall 26 [Mini.E.var 2, Mini.E.var 5, Mini.E.var 4] [] [])]
                      [Mini.S.ex
                          (Mini.E.mt Mini.Mt.append (Mini.E.var 2)
                            [Mini.E.tup
                                [Mini.E.tup
                                    [Mini.E.cst (Mini.D.str { cps := { toList := [110, 97, 109, 101] } }),
                                      Mini.E.var 6],
                                  Mini.E.lst [Mini.E.var 6]]]),
                        Mini.S.asg (Mini.Tg.one 3)
                          (Mini.E.bin Mini.Bin.add (Mini.E.var 3) (Mini.E.cst (Mini.D.int (Int.ofNat 1))))]]]],
        Mini.S.ifS (Mini.E.cmp Mini.Cmp.eq (Mini.E.var 2) (Mini.E.lst []))
          [Mini.S.ex
              (Mini.E.mt Mini.Mt.append (Mini.E.var 2)
                [Mini.E.tup
                    [Mini.E.tup
                        [Mini.E.cst (Mini.D.str { cps := { toList := [110, 97, 109, 101] } }),
                          Mini.E.call 25 [Mini.E.var 3, Mini.E.var 1] [] []],
                      Mini.E.lst [Mini.E.call 25 [Mini.E.var 3, Mini.E.var 1] [] []]]])]
          [],
        Mini.S.forS (Mini.Tg.one 9) Mini.IK.r1 [Mini.E.bi Mini.Bi.len [Mini.E.var 0]]
          [Mini.S.ifS
              (Mini.E.cmp Mini.Cmp.ge (Mini.E.bi Mini.Bi.len [Mini.E.var 2]) (Mini.E.cst (Mini.D.int (Int.ofNat 2))))
              [Mini.S.ex
                  (Mini.E.mcall 26
                    [Mini.E.var 2, Mini.E.cst (Mini.D.int (Int.ofNat 2)), Mini.E.cst (Mini.D.int (Int.ofNat 0))] [] [])]
              []],
        Mini.S.ret ((Mini.E.var 2).ix (Mini.E.cst (Mini.D.int (Int.ofNat 0))))]
def F35 : Fn := ⟨11, B35⟩
def B36 : List S :=
      [Mini.S.asg (Mini.Tg.one 1)
          ((Mini.E.var 2).comp (Mini.Tg.one 2) Mini.IK.seq [Mini.E.call 29 [Mini.E.var 0] [] []]
            [Mini.E.cmp Mini.Cmp.ne ((Mini.E.var 2).ix (Mini.E.cst (Mini.D.int (Int.ofNat 0))))
                (Mini.E.cst (Mini.D.str { cps := { toList := [110, 97, 109, 101] } }))]
            [2]),
        Mini.S.ret
          ((Mini.E.var 3).comp (Mini.Tg.one 3) Mini.IK.r1 [Mini.E.bi Mini.Bi.len [Mini.E.var 1]]
            [(Mini.E.cmp Mini.Cmp.eq (((Mini.E.var 1).ix (Mini.E.var 3)).ix (Mini.E.cst (Mini.D.int (Int.ofNat 0))))
                    (Mini.E.cst (Mini.D.str { cps := { toList := [97, 112, 112, 108, 121] } }))).an
                (Mini.E.cmp Mini.Cmp.eq
                  ((((Mini.E.var 1).ix (Mini.E.var 3)).ix (Mini.E.cst (Mini.D.int (Int.ofNat 1)))).ix
                    (Mini.E.cst (Mini.D.int (Int.ofNat 0))))
                  (Mini.E.cst (Mini.D.str { cps := { toList := [98, 105, 110, 100] } })))]
            [3])]
def F36 : Fn := ⟨4, B36⟩
def B37 : List S :=
      [Mini.S.ifS
          (Mini.E.cmp Mini.Cmp.eq ((Mini.E.var 0).ix (Mini.E.cst (Mini.D.int (Int.ofNat 0))))
            (Mini.E.cst (Mini.D.str { cps := { toList := [110, 97, 109, 101] } })))
          [Mini.S.ret (Mini.E.var 0)] [],
        Mini.S.asg (Mini.Tg.one 3) ((Mini.E.var 2).ix (Mini.E.cst (Mini.D.int (Int.ofNat 0)))),
        Mini.S.puti (Mini.E.var 2) (Mini.E.cst (Mini.D.int (Int.ofNat 0)))
          (Mini.E.bin Mini.Bin.add (Mini.E.var 3) (Mini.E.cst (Mini.D.int (Int.ofNat 1)))),
        Mini.S.ifS (Mini.E.cmp Mini.Cmp.eq (Mini.E.var 3) (Mini.E.var 1))
          [Mini.S.ret
              (Mini.E.call 31
                [((Mini.E.var 0).ix (Mini.E.cst (Mini.D.int (Int.ofNat 1)))).ix (Mini.E.cst (Mini.D.int (Int.ofNat 2))),
                  ((Mini.E.var 0).ix (Mini.E.cst (Mini.D.int (Int.ofNat 1)))).ix
                    (Mini.E.cst (Mini.D.int (Int.ofNat 1))),
                  (Mini.E.var 0).ix (Mini.E.cst (Mini.D.int (Int.ofNat 2)))]
                [] [])]
          [],
        Mini.S.ifS
          (Mini.E.cmp Mini.Cmp.eq ((Mini.E.var 0).ix (Mini.E.cst (Mini.D.int (Int.ofNat 0))))
            (Mini.E.cst (Mini.D.str { cps := { toList := [98, 105, 110, 100] } })))
          [Mini.S.ret
              (Mini.E.tup
                [Mini.E.cst (Mini.D.str { cps := { toList := [98, 105, 110, 100] } }),
                  (Mini.E.var 0).ix (Mini.E.cst (Mini.D.int (Int.ofNat 1))),
                  Mini.E.mcall 37
                    [(Mini.E.var 0).ix (Mini.E.cst (Mini.D.int (Int.ofNat 2))), Mini.E.var 1, Mini.E.var 2] [] []])]
          [],
        Mini.S.asg (Mini.Tg.one 4)
          (Mini.E.mcall 37 [(Mini.E.var 0).ix (Mini.E.cst (Mini.D.int (Int.ofNat 1))), Mini.E.var 1, Mini.E.var 2] []
            []),
        Mini.S.ret
          (Mini.E.tup
            [Mini.E.cst (Mini.D.str { cps := { toList := [97, 112, 112, 108, 121] } }), Mini.E.var 4,
              Mini.E.mcall 37 [(Mini.E.var 0).ix (Mini.E.cst (Mini.D.int (Int.ofNat 2))), Mini.E.var 1, Mini.E.var 2] []
                []])]
def F37 : Fn := ⟨5, B37⟩
def B38 : List S :=
      [Mini.S.tryM
          [Mini.S.ret
              (Mini.E.tup
                [Mini.E.cst (Mini.D.str { cps := { toList := [115, 105, 122, 101] } }),
                  Mini.E.call 14 [Mini.E.var 0] [] []])]
          [({ cps := { toList := [84, 111, 111, 76, 97, 114, 103, 101] } },
              Mini.XE.tup
                [Mini.XE.cst (Mini.D.str { cps := { toList := [108, 97, 114, 103, 101] } }),
                  Mini.XE.cst (Mini.D.str { cps := { toList := [] } })]),
            ({ cps := { toList := [66, 97, 100, 78, 97, 109, 101] } },
              Mini.XE.tup
                [Mini.XE.cst (Mini.D.str { cps := { toList := [98, 97, 100] } }),
                  Mini.XE.fld { cps := { toList := [110, 97, 109, 101] } }]),
            ({ cps := { toList := [82, 101, 112, 101, 97, 116, 101, 100] } },
              Mini.XE.tup
                [Mini.XE.cst (Mini.D.str { cps := { toList := [114, 101, 112, 101, 97, 116, 101, 100] } }),
                  Mini.XE.fld { cps := { toList := [110, 97, 109, 101] } },
                  Mini.XE.nisi { cps := { toList := [85, 110, 117, 115, 101, 100] } }])]]
def F38 : Fn := ⟨2, B38⟩
def B39 : List S :=
      [Mini.S.tryM [Mini.S.ex (Mini.E.call 19 [Mini.E.var 0, Mini.E.var 1] [] [])]
          [({ cps := { toList := [78, 111, 116, 82, 101, 97, 100, 121] } }, Mini.XE.cst (Mini.D.bl true))],
        Mini.S.ret (Mini.E.cst (Mini.D.bl false))]
def F39 : Fn := ⟨2, B39⟩
def B40 : List S :=
      [Mini.S.tryM
          [Mini.S.ret
              (Mini.E.tup
                [Mini.E.cst (Mini.D.str { cps := { toList := [110, 97, 109, 101, 115] } }),
                  Mini.E.call 16 [Mini.E.var 0, Mini.E.var 1] [] []])]
          [({ cps := { toList := [66, 97, 100, 78, 97, 109, 101] } },
              Mini.XE.tup
                [Mini.XE.cst (Mini.D.str { cps := { toList := [98, 97, 100] } }),
                  Mini.XE.fld { cps := { toList := [110, 97, 109, 101] } }]),
            ({ cps := { toList := [82, 101, 112, 101, 97, 116, 101, 100] } },
              Mini.XE.tup
                [Mini.XE.cst (Mini.D.str { cps := { toList := [114, 101, 112, 101, 97, 116, 101, 100] } }),
                  Mini.XE.fld { cps := { toList := [110, 97, 109, 101] } }]),
            ({ cps := { toList := [66, 97, 100, 78, 97, 109, 101, 115] } },
              Mini.XE.tup
                [Mini.XE.cst (Mini.D.str { cps := { toList := [111, 116, 104, 101, 114] } }), Mini.XE.nil])]]
def F40 : Fn := ⟨3, B40⟩
def B41 : List S :=
      [Mini.S.asg (Mini.Tg.one 2) (Mini.E.var 0),
        Mini.S.forS (Mini.Tg.one 3) Mini.IK.r1
          [Mini.E.bin Mini.Bin.add (Mini.E.call 28 [Mini.E.var 0] [] []) (Mini.E.cst (Mini.D.int (Int.ofNat 1)))]
          [Mini.S.asg (Mini.Tg.one 4) (Mini.E.call 36 [Mini.E.var 2] [] []),
            Mini.S.ifS (Mini.E.call 24 [Mini.E.call 10 [Mini.E.var 2] [] [], Mini.E.var 4] [] []).nt
              [Mini.S.ret (Mini.E.cst Mini.D.non)] [],
            Mini.S.ifS (Mini.E.cmp Mini.Cmp.eq (Mini.E.var 4) (Mini.E.lst [])) [Mini.S.brk] [],
            Mini.S.asg (Mini.Tg.one 5)
              ((Mini.E.var 4).ix
                (Mini.E.bin Mini.Bin.mod (Mini.E.call 22 [Mini.E.var 1, Mini.E.var 3] [] [])
                  (Mini.E.bi Mini.Bi.len [Mini.E.var 4]))),
            Mini.S.asg (Mini.Tg.one 6)
              (Mini.E.mcall 37 [Mini.E.var 2, Mini.E.var 5, Mini.E.lst [Mini.E.cst (Mini.D.int (Int.ofNat 0))]] [] []),
            Mini.S.ifS
              ((Mini.E.call 24 [Mini.E.call 19 [Mini.E.var 2, Mini.E.var 5] [] [], Mini.E.var 6] [] []).nt.orr
                (Mini.E.call 39 [Mini.E.var 2, Mini.E.call 28 [Mini.E.var 2] [] []] [] []).nt)
              [Mini.S.ret (Mini.E.cst Mini.D.non)] [],
            Mini.S.forS (Mini.Tg.one 7) Mini.IK.r1 [Mini.E.call 28 [Mini.E.var 2] [] []]
              [Mini.S.ifS
                  ((Mini.E.cmp Mini.Cmp.nin (Mini.E.var 7) (Mini.E.var 4)).an
                    (Mini.E.call 39 [Mini.E.var 2, Mini.E.var 7] [] []).nt)
                  [Mini.S.ret (Mini.E.cst Mini.D.non)] []],
            Mini.S.asg (Mini.Tg.one 2) (Mini.E.var 6)],
        Mini.S.ret (Mini.E.var 2)]
def F41 : Fn := ⟨8, B41⟩
def B42 : List S :=
      [Mini.S.asg (Mini.Tg.one 2)
          (((Mini.E.var 6).ix (Mini.E.cst (Mini.D.int (Int.ofNat 1)))).comp (Mini.Tg.one 6) Mini.IK.seq
            [Mini.E.call 29 [Mini.E.var 0] [] []]
            [Mini.E.cmp Mini.Cmp.eq ((Mini.E.var 6).ix (Mini.E.cst (Mini.D.int (Int.ofNat 0))))
                (Mini.E.cst (Mini.D.str { cps := { toList := [110, 97, 109, 101] } }))]
            [6]),
        Mini.S.asg (Mini.Tg.one 3)
          (((Mini.E.var 6).ix (Mini.E.cst (Mini.D.int (Int.ofNat 1)))).comp (Mini.Tg.one 6) Mini.IK.seq
            [Mini.E.call 29 [Mini.E.var 0] [] []]
            [Mini.E.cmp Mini.Cmp.eq ((Mini.E.var 6).ix (Mini.E.cst (Mini.D.int (Int.ofNat 0))))
                (Mini.E.cst (Mini.D.str { cps := { toList := [98, 105, 110, 100] } }))]
            [6]),
        Mini.S.asg (Mini.Tg.one 4)
          ((Mini.E.var 2).ix (Mini.E.bin Mini.Bin.mod (Mini.E.var 1) (Mini.E.bi Mini.Bi.len [Mini.E.var 2]))),
        Mini.S.ifS
          (Mini.E.call 24
              [Mini.E.call 38
                  [Mini.E.tup
                      [Mini.E.cst (Mini.D.str { cps := { toList := [97, 112, 112, 108, 121] } }), Mini.E.var 0,
                        Mini.E.tup
                          [Mini.E.cst (Mini.D.str { cps := { toList := [110, 97, 109, 101] } }), Mini.E.var 4]]]
                  [] [],
                Mini.E.tup
                  [Mini.E.cst (Mini.D.str { cps := { toList := [114, 101, 112, 101, 97, 116, 101, 100] } }),
                    Mini.E.var 4, Mini.E.cst (Mini.D.bl true)]]
              [] []).nt
          [Mini.S.ret (Mini.E.cst (Mini.D.bl false))] [],
        Mini.S.ifS
          (Mini.E.call 24
              [Mini.E.call 38
                  [Mini.E.tup
                      [Mini.E.cst (Mini.D.str { cps := { toList := [98, 105, 110, 100] } }), Mini.E.var 4,
                        Mini.E.tup
                          [Mini.E.cst (Mini.D.str { cps := { toList := [97, 112, 112, 108, 121] } }), Mini.E.var 0,
                            Mini.E.tup
                              [Mini.E.cst (Mini.D.str { cps := { toList := [110, 97, 109, 101] } }), Mini.E.var 4]]]]
                  [] [],
                Mini.E.tup
                  [Mini.E.cst (Mini.D.str { cps := { toList := [114, 101, 112, 101, 97, 116, 101, 100] } }),
                    Mini.E.var 4, Mini.E.cst (Mini.D.bl true)]]
              [] []).nt
          [Mini.S.ret (Mini.E.cst (Mini.D.bl false))] [],
        Mini.S.ifS
          (Mini.E.call 24
              [Mini.E.call 38
                  [Mini.E.tup
                      [Mini.E.cst (Mini.D.str { cps := { toList := [97, 112, 112, 108, 121] } }),
                        Mini.E.tup
                          [Mini.E.cst (Mini.D.str { cps := { toList := [98, 105, 110, 100] } }),
                            Mini.E.cst (Mini.D.str { cps := { toList := [102, 114, 101, 101, 48] } }), Mini.E.var 0],
                        Mini.E.tup
                          [Mini.E.cst (Mini.D.str { cps := { toList := [110, 97, 109, 101] } }),
                            Mini.E.cst (Mini.D.str { cps := { toList := [102, 114, 101, 101, 48] } })]]]
                  [] [],
                Mini.E.tup
                  [Mini.E.cst (Mini.D.str { cps := { toList := [114, 101, 112, 101, 97, 116, 101, 100] } }),
                    Mini.E.cst (Mini.D.str { cps := { toList := [102, 114, 101, 101, 48] } }),
                    Mini.E.cst (Mini.D.bl true)]]
              [] []).nt
          [Mini.S.ret (Mini.E.cst (Mini.D.bl false))] [],
        Mini.S.ifS
          (Mini.E.call 24
              [Mini.E.call 38
                  [Mini.E.tup
                      [Mini.E.cst (Mini.D.str { cps := { toList := [97, 112, 112, 108, 121] } }), Mini.E.var 0,
                        Mini.E.tup
                          [Mini.E.cst (Mini.D.str { cps := { toList := [98, 105, 110, 100] } }),
                            Mini.E.cst (Mini.D.str { cps := { toList := [66, 97, 100] } }),
                            Mini.E.tup
                              [Mini.E.cst (Mini.D.str { cps := { toList := [110, 97, 109, 101] } }),
                                Mini.E.cst (Mini.D.str { cps := { toList := [113] } })]]]]
                  [] [],
                Mini.E.tup
                  [Mini.E.cst (Mini.D.str { cps := { toList := [98, 97, 100] } }),
                    Mini.E.cst (Mini.D.str { cps := { toList := [66, 97, 100] } })]]
              [] []).nt
          [Mini.S.ret (Mini.E.cst (Mini.D.bl false))] [],
        Mini.S.ifS
          (Mini.E.call 24
              [Mini.E.call 38
                  [Mini.E.tup
                      [Mini.E.cst (Mini.D.str { cps := { toList := [97, 112, 112, 108, 121] } }), Mini.E.var 0,
                        Mini.E.tup
                          [Mini.E.cst (Mini.D.str { cps := { toList := [97, 112, 112, 108, 121] } }),
                            Mini.E.tup
                              [Mini.E.cst (Mini.D.str { cps := { toList := [110, 97, 109, 101] } }),
                                Mini.E.cst (Mini.D.str { cps := { toList := [55, 120] } })],
                            Mini.E.tup
                              [Mini.E.cst (Mini.D.str { cps := { toList := [110, 97, 109, 101] } }), Mini.E.var 4]]]]
                  [] [],
                Mini.E.tup
                  [Mini.E.cst (Mini.D.str { cps := { toList := [98, 97, 100] } }),
                    Mini.E.cst (Mini.D.str { cps := { toList := [55, 120] } })]]
              [] []).nt
          [Mini.S.ret (Mini.E.cst (Mini.D.bl false))] [],
        Mini.S.ifS (Mini.E.cmp Mini.Cmp.ne (Mini.E.var 3) (Mini.E.lst []))
          [Mini.S.asg (Mini.Tg.one 5)
              ((Mini.E.var 3).ix (Mini.E.bin Mini.Bin.mod (Mini.E.var 1) (Mini.E.bi Mini.Bi.len [Mini.E.var 3]))),
            Mini.S.ifS
              (Mini.E.call 24
                  [Mini.E.call 38
                      [Mini.E.tup
                          [Mini.E.cst (Mini.D.str { cps := { toList := [97, 112, 112, 108, 121] } }), Mini.E.var 0,
                            Mini.E.tup
                              [Mini.E.cst (Mini.D.str { cps := { toList := [98, 105, 110, 100] } }), Mini.E.var 5,
                                Mini.E.tup
                                  [Mini.E.cst (Mini.D.str { cps := { toList := [110, 97, 109, 101] } }),
                                    Mini.E.cst (Mini.D.str { cps := { toList := [102, 114, 101, 101, 48] } })]]]]
                      [] [],
                    Mini.E.tup
                      [Mini.E.cst (Mini.D.str { cps := { toList := [114, 101, 112, 101, 97, 116, 101, 100] } }),
                        Mini.E.var 5, Mini.E.cst (Mini.D.bl true)]]
                  [] []).nt
              [Mini.S.ret (Mini.E.cst (Mini.D.bl false))] []]
          [],
        Mini.S.ret (Mini.E.cst (Mini.D.bl true))]
def F42 : Fn := ⟨7, B42⟩
def B43 : List S :=
      [Mini.S.asg (Mini.Tg.one 1)
          (Mini.E.tup
            [Mini.E.cst (Mini.D.str { cps := { toList := [110, 97, 109, 101] } }),
              Mini.E.cst (Mini.D.str { cps := { toList := [120] } })]),
        Mini.S.forS (Mini.Tg.one 2) Mini.IK.r1 [Mini.E.var 0]
          [Mini.S.asg (Mini.Tg.one 1)
              (Mini.E.tup
                [Mini.E.cst (Mini.D.str { cps := { toList := [98, 105, 110, 100] } }),
                  Mini.E.bin Mini.Bin.add (Mini.E.cst (Mini.D.str { cps := { toList := [121] } }))
                    (Mini.E.bi Mini.Bi.str [Mini.E.var 2]),
                  Mini.E.var 1])],
        Mini.S.ret (Mini.E.var 1)]
def F43 : Fn := ⟨3, B43⟩
def B44 : List S :=
      [Mini.S.asg (Mini.Tg.one 1)
          (Mini.E.call 34
            [Mini.E.call 21 [Mini.E.var 0, Mini.E.cst (Mini.D.int (Int.ofNat 0))] [] [],
              Mini.E.cst (Mini.D.int (Int.ofNat 14)), Mini.E.cst (Mini.D.int (Int.ofNat 30))]
            [] []),
        Mini.S.asg (Mini.Tg.one 2)
          (Mini.E.call 35
            [Mini.E.call 23
                [Mini.E.call 21 [Mini.E.var 0, Mini.E.cst (Mini.D.int (Int.ofNat 1))] [] [], Mini.E.var 1,
                  Mini.E.cst (Mini.D.int (Int.ofNat 3))]
                [] [],
              Mini.E.bin Mini.Bin.mod
                (Mini.E.bi Mini.Bi.int [Mini.E.call 21 [Mini.E.var 0, Mini.E.cst (Mini.D.int (Int.ofNat 2))] [] []])
                (Mini.E.cst (Mini.D.int (Int.ofNat 5)))]
            [] []),
        Mini.S.asg (Mini.Tg.one 3) ((Mini.E.var 2).ix (Mini.E.cst (Mini.D.int (Int.ofNat 0)))),
        Mini.S.asg (Mini.Tg.one 4) (Mini.E.call 29 [Mini.E.var 3] [] []),
        Mini.S.asg (Mini.Tg.one 5)
          (((Mini.E.var 13).ix (Mini.E.cst (Mini.D.int (Int.ofNat 1)))).comp (Mini.Tg.one 13) Mini.IK.seq [Mini.E.var 4]
            [Mini.E.cmp Mini.Cmp.eq ((Mini.E.var 13).ix (Mini.E.cst (Mini.D.int (Int.ofNat 0))))
                (Mini.E.cst (Mini.D.str { cps := { toList := [110, 97, 109, 101] } }))]
            [13]),
        Mini.S.asg (Mini.Tg.one 6)
          (((Mini.E.var 13).ix (Mini.E.cst (Mini.D.int (Int.ofNat 1)))).comp (Mini.Tg.one 13) Mini.IK.seq [Mini.E.var 4]
            [(Mini.E.cmp Mini.Cmp.eq ((Mini.E.var 13).ix (Mini.E.cst (Mini.D.int (Int.ofNat 0))))
                    (Mini.E.cst (Mini.D.str { cps := { toList := [98, 105, 110, 100] } }))).an
                (Mini.E.cmp Mini.Cmp.nin ((Mini.E.var 13).ix (Mini.E.cst (Mini.D.int (Int.ofNat 1)))) (Mini.E.var 5))]
            [13]),
        Mini.S.ifS
          ((Mini.E.call 24
                  [Mini.E.call 38 [Mini.E.var 3] [] [],
                    Mini.E.tup
                      [Mini.E.cst (Mini.D.str { cps := { toList := [115, 105, 122, 101] } }),
                        Mini.E.call 28 [Mini.E.var 3] [] []]]
                  [] []).nt.orr
            (Mini.E.call 24 [Mini.E.call 15 [Mini.E.var 3] [] [], Mini.E.var 6] [] []).nt)
          [Mini.S.ret (Mini.E.cst (Mini.D.bl false))] [],
        Mini.S.asg (Mini.Tg.one 7)
          (Mini.E.call 41
            [Mini.E.var 3,
              Mini.E.call 23
                [Mini.E.call 21 [Mini.E.var 0, Mini.E.cst (Mini.D.int (Int.ofNat 3))] [] [],
                  Mini.E.cst (Mini.D.int (Int.ofNat 40)), Mini.E.cst (Mini.D.int (Int.ofNat 5))]
                [] []]
            [] []),
        Mini.S.asg (Mini.Tg.one 8)
          (Mini.E.call 41
            [Mini.E.var 3,
              Mini.E.call 23
                [Mini.E.call 21 [Mini.E.var 0, Mini.E.cst (Mini.D.int (Int.ofNat 4))] [] [],
                  Mini.E.cst (Mini.D.int (Int.ofNat 40)), Mini.E.cst (Mini.D.int (Int.ofNat 7))]
                [] []]
            [] []),
        Mini.S.ifS
          ((Mini.E.cmp Mini.Cmp.isN (Mini.E.var 7) (Mini.E.cst Mini.D.non)).orr
            ((Mini.E.cmp Mini.Cmp.isN (Mini.E.var 8) (Mini.E.cst Mini.D.non)).orr
              (Mini.E.call 24 [Mini.E.var 7, Mini.E.var 8] [] []).nt))
          [Mini.S.ret (Mini.E.cst (Mini.D.bl false))] [],
        Mini.S.ifS
          ((Mini.E.call 24 [Mini.E.call 20 [Mini.E.var 3] [] [], Mini.E.call 33 [Mini.E.var 3] [] []] [] []).nt.orr
            (Mini.E.call 24
                [(Mini.E.call 33 [Mini.E.var 3] [] []).ix (Mini.E.cst (Mini.D.int (Int.ofNat 0))), Mini.E.var 7] []
                []).nt)
          [Mini.S.ret (Mini.E.cst (Mini.D.bl false))] [],
        Mini.S.ifS
          ((Mini.E.cmp Mini.Cmp.eq (Mini.E.var 6) (Mini.E.lst [])).an
            (Mini.E.call 24 [Mini.E.call 12 [Mini.E.var 3] [] [], Mini.E.call 20 [Mini.E.var 3] [] []] [] []).nt)
          [Mini.S.ret (Mini.E.cst (Mini.D.bl false))] [],
        Mini.S.asg (Mini.Tg.one 9)
          (Mini.E.call 27
            [Mini.E.bin Mini.Bin.add ((Mini.E.var 2).ix (Mini.E.cst (Mini.D.int (Int.ofNat 1))))
                (Mini.E.lst [Mini.E.cst (Mini.D.str { cps := { toList := [102, 114, 101, 101, 49] } })]),
              Mini.E.call 23
                [Mini.E.call 21 [Mini.E.var 0, Mini.E.cst (Mini.D.int (Int.ofNat 5))] [] [],
                  Mini.E.cst (Mini.D.int (Int.ofNat 40)), Mini.E.cst (Mini.D.int (Int.ofNat 11))]
                [] []]
            [] []),
        Mini.S.forS (Mini.Tg.one 10) Mini.IK.seq [Mini.E.lst [Mini.E.var 9, Mini.E.bi Mini.Bi.tuple [Mini.E.var 9]]]
          [Mini.S.ifS
              (Mini.E.call 24
                  [Mini.E.call 40 [Mini.E.var 3, Mini.E.var 10] [] [],
                    Mini.E.tup
                      [Mini.E.cst (Mini.D.str { cps := { toList := [110, 97, 109, 101, 115] } }), Mini.E.var 9]]
                  [] []).nt
              [Mini.S.ret (Mini.E.cst (Mini.D.bl false))] []],
        Mini.S.ifS
          (Mini.E.call 24
              [Mini.E.call 40 [Mini.E.var 3, Mini.E.cst Mini.D.non] [] [],
                Mini.E.tup
                  [Mini.E.cst (Mini.D.str { cps := { toList := [110, 97, 109, 101, 115] } }),
                    (Mini.E.var 2).ix (Mini.E.cst (Mini.D.int (Int.ofNat 1)))]]
              [] []).nt
          [Mini.S.ret (Mini.E.cst (Mini.D.bl false))] [],
        Mini.S.asg (Mini.Tg.one 11)
          (Mini.E.mcall 30 [Mini.E.var 3, Mini.E.dnew, Mini.E.var 9, Mini.E.lst [Mini.E.cst (Mini.D.int (Int.ofNat 0))]]
            [] []),
        Mini.S.ifS (Mini.E.call 24 [Mini.E.call 17 [Mini.E.var 3, Mini.E.var 9] [] [], Mini.E.var 11] [] []).nt
          [Mini.S.ret (Mini.E.cst (Mini.D.bl false))] [],
        Mini.S.ifS
          (Mini.E.call 24
              [Mini.E.call 40
                  [Mini.E.var 3,
                    Mini.E.bin Mini.Bin.add (Mini.E.var 9)
                      (Mini.E.lst
                        [Mini.E.cst (Mini.D.str { cps := { toList := [66, 97, 100] } }),
                          (Mini.E.var 9).ix (Mini.E.cst (Mini.D.int (Int.ofNat 0)))])]
                  [] [],
                Mini.E.tup
                  [Mini.E.cst (Mini.D.str { cps := { toList := [98, 97, 100] } }),
                    Mini.E.cst (Mini.D.str { cps := { toList := [66, 97, 100] } })]]
              [] []).nt
          [Mini.S.ret (Mini.E.cst (Mini.D.bl false))] [],
        Mini.S.ifS
          (Mini.E.call 24
              [Mini.E.call 40
                  [Mini.E.var 3,
                    Mini.E.bin Mini.Bin.add (Mini.E.var 9)
                      (Mini.E.lst
                        [(Mini.E.var 9).ix (Mini.E.cst (Mini.D.int (Int.ofNat 0))),
                          Mini.E.cst (Mini.D.str { cps := { toList := [66, 97, 100] } })])]
                  [] [],
                Mini.E.tup
                  [Mini.E.cst (Mini.D.str { cps := { toList := [114, 101, 112, 101, 97, 116, 101, 100] } }),
                    (Mini.E.var 9).ix (Mini.E.cst (Mini.D.int (Int.ofNat 0)))]]
              [] []).nt
          [Mini.S.ret (Mini.E.cst (Mini.D.bl false))] [],
        Mini.S.ifS
          ((Mini.E.cmp Mini.Cmp.ne ((Mini.E.var 2).ix (Mini.E.cst (Mini.D.int (Int.ofNat 1)))) (Mini.E.lst [])).an
            (Mini.E.call 24
                [Mini.E.call 40
                    [Mini.E.var 3,
                      Mini.E.lst [Mini.E.cst (Mini.D.str { cps := { toList := [102, 114, 101, 101, 49] } })]]
                    [] [],
                  Mini.E.tup
                    [Mini.E.cst (Mini.D.str { cps := { toList := [111, 116, 104, 101, 114] } }), Mini.E.lst []]]
                [] []).nt)
          [Mini.S.ret (Mini.E.cst (Mini.D.bl false))] [],
        Mini.S.asg (Mini.Tg.one 12)
          (((Mini.E.var 13).ix (Mini.E.cst (Mini.D.int (Int.ofNat 1)))).comp (Mini.Tg.one 13) Mini.IK.seq [Mini.E.var 4]
            [Mini.E.cmp Mini.Cmp.eq ((Mini.E.var 13).ix (Mini.E.cst (Mini.D.int (Int.ofNat 0))))
                (Mini.E.cst (Mini.D.str { cps := { toList := [98, 105, 110, 100] } }))]
            [13]),
        Mini.S.ifS
          ((Mini.E.cmp Mini.Cmp.ne (Mini.E.var 12) (Mini.E.lst [])).an
            (Mini.E.call 24
                [Mini.E.call 40
                    [Mini.E.var 3,
                      Mini.E.bin Mini.Bin.add (Mini.E.var 9)
                        (Mini.E.sl false true (Mini.E.var 12) (Mini.E.cst Mini.D.non)
                          (Mini.E.cst (Mini.D.int (Int.ofNat 1))))]
                    [] [],
                  Mini.E.tup
                    [Mini.E.cst (Mini.D.str { cps := { toList := [111, 116, 104, 101, 114] } }), Mini.E.lst []]]
                [] []).nt)
          [Mini.S.ret (Mini.E.cst (Mini.D.bl false))] [],
        Mini.S.ifS
          (Mini.E.call 24
              [Mini.E.call 38 [Mini.E.call 43 [Mini.E.cst (Mini.D.int (Int.ofNat 60))] [] []] [] [],
                Mini.E.tup
                  [Mini.E.cst (Mini.D.str { cps := { toList := [115, 105, 122, 101] } }),
                    Mini.E.cst (Mini.D.int (Int.ofNat 60))]]
              [] []).nt
          [Mini.S.ret (Mini.E.cst (Mini.D.bl false))] [],
        Mini.S.ifS
          (Mini.E.call 24
              [Mini.E.call 38 [Mini.E.call 43 [Mini.E.cst (Mini.D.int (Int.ofNat 61))] [] []] [] [],
                Mini.E.tup
                  [Mini.E.cst (Mini.D.str { cps := { toList := [108, 97, 114, 103, 101] } }),
                    Mini.E.cst (Mini.D.str { cps := { toList := [] } })]]
              [] []).nt
          [Mini.S.ret (Mini.E.cst (Mini.D.bl false))] [],
        Mini.S.ret
          (Mini.E.call 42
            [Mini.E.var 3,
              Mini.E.bin Mini.Bin.mod
                (Mini.E.bi Mini.Bi.int [Mini.E.call 21 [Mini.E.var 0, Mini.E.cst (Mini.D.int (Int.ofNat 6))] [] []])
                (Mini.E.cst (Mini.D.int (Int.ofNat 997)))]
            [] [])]
def F44 : Fn := ⟨14, B44⟩
def prg : Prg := ⟨[F0, F1, F2, F3, F4, F5, F6, F7, F8, F9, F10, F11, F12, F13, F14, F15, F16, F17, F18, F19, F20, F21, F22, F23, F24, F25, F26, F27, F28, F29, F30, F31, F32, F33, F34, F35, F36, F37, F38, F39, F40, F41, F42, F43, F44], subT, 200⟩
def Cx (K : PySem.W.Frag) (c : Str) : Addr := He.ga K (nrm nsx c)
section
variable {w : World} {K : PySem.W.Frag} {mg : Str → Option Value} {base h : Heap}
abbrev DefOk (K : PySem.W.Frag) (mg : Str → Option Value) (i : Nat) (x : Str) (np : Nat) : Prop := ∃ (fa : Addr) (fd : FuncData) (N ps : List Str) (qual : Str) (params : Arguments) (body : List Stmt) (scope : Scope) (dvs : List V) (kws : List (Str × V)), FunD K x qual params body scope dvs kws fa fd ∧ FnScope N ps scope ∧ ps.length = np ∧
    prg.fns[i]? = some (compF cc 40 40 N scope body) ∧ mg x = some (.ref fa) ∧ ∀ m ks pl, (i, m, ks, pl) ∈ cc.shapes → BindG K fd ps m ks pl
theorem sc0 : FnScope N0 ["text"] (defScope (top 14)) := ⟨rfl, rfl, rfl, by decide +kernel, rfl, by decide +kernel, by decide +kernel⟩
theorem cf0 : prg.fns[0]? = some (compF cc 40 40 N0 (defScope (top 14)) (defBody (top 14))) := by kernel_rfl
theorem df0 (X : K.In h) (G : h.Ns mainGlobals mg) (c : SaysX fal fnl bsl isl ivl exl K) : DefOk K mg 0 "is_name" 1 := by
  obtain ⟨fd, F⟩ := c.m.d.def_ 0 (d := D0) rfl
  have F : FunD K "is_name" "is_name" (defArgs (top 14)) (defBody (top 14)) (defScope (top 14)) [] [] (He.ga K "is_name") fd := F
  refine ⟨_, fd, N0, ["text"], _, _, _, _, _, _, F, sc0, rfl, cf0, He.glo_ok X G (c.m.d.fact 0 (f := .glo "is_name") rfl), fun m ks pl hs => ?_⟩
  have hs := mem_shp hs
  have e : shp cc.shapes 0 = ([(1, [], [])] : List (Nat × List Str × List Pl)) := rfl
  rw [e] at hs
  simp only [List.mem_cons, List.not_mem_nil, or_false, Prod.mk.injEq] at hs
  rcases hs with ⟨rfl, rfl, rfl⟩
  · exact bg_plain F rfl fun kV doc pm an cdv ct us hl => match us, hl with | [u0], _ => rfl
theorem sc1 : FnScope N1 ["count", "taken"] (defScope (top 15)) := ⟨rfl, rfl, rfl, by decide +kernel, rfl, by decide +kernel, by decide +kernel⟩
theorem cf1 : prg.fns[1]? = some (compF cc 40 40 N1 (defScope (top 15)) (defBody (top 15))) := by kernel_rfl
theorem df1 (X : K.In h) (G : h.Ns mainGlobals mg) (c : SaysX fal fnl bsl isl ivl exl K) : DefOk K mg 1 "fresh_names" 2 := by
  obtain ⟨fd, F⟩ := c.m.d.def_ 1 (d := D1) rfl
  have F : FunD K "fresh_names" "fresh_names" (defArgs (top 15)) (defBody (top 15)) (defScope (top 15)) [] [] (He.ga K "fresh_names") fd := F
  refine ⟨_, fd, N1, ["count", "taken"], _, _, _, _, _, _, F, sc1, rfl, cf1, He.glo_ok X G (c.m.d.fact 1 (f := .glo "fresh_names") rfl), fun m ks pl hs => ?_⟩
  have hs := mem_shp hs
  have e : shp cc.shapes 1 = ([(2, [], [])] : List (Nat × List Str × List Pl)) := rfl
  rw [e] at hs
  simp only [List.mem_cons, List.not_mem_nil, or_false, Prod.mk.injEq] at hs
  rcases hs with ⟨rfl, rfl, rfl⟩
  · exact bg_plain F rfl fun kV doc pm an cdv ct us hl => match us, hl with | [u0, u1], _ => rfl
theorem sc2 : FnScope N2 ["part"] (defScope (top 18)) := ⟨rfl, rfl, rfl, by decide +kernel, rfl, by decide +kernel, by decide +kernel⟩
theorem cf2 : prg.fns[2]? = some (compF cc 40 40 N2 (defScope (top 18)) (defBody (top 18))) := by kernel_rfl
theorem df2 (X : K.In h) (G : h.Ns mainGlobals mg) (c : SaysX fal fnl bsl isl ivl exl K) : DefOk K mg 2 "below" 1 := by
  obtain ⟨fd, F⟩ := c.m.d.def_ 2 (d := D2) rfl
  have F : FunD K "below" "below" (defArgs (top 18)) (defBody (top 18)) (defScope (top 18)) [] [] (He.ga K "below") fd := F
  refine ⟨_, fd, N2, ["part"], _, _, _, _, _, _, F, sc2, rfl, cf2, He.glo_ok X G (c.m.d.fact 2 (f := .glo "below") rfl), fun m ks pl hs => ?_⟩
  have hs := mem_shp hs
  have e : shp cc.shapes 2 = ([(1, [], [])] : List (Nat × List Str × List Pl)) := rfl
  rw [e] at hs
  simp only [List.mem_cons, List.not_mem_nil, or_false, Prod.mk.injEq] at hs
  rcases hs with ⟨rfl, rfl, rfl⟩
  · exact bg_plain F rfl fun kV doc pm an cdv ct us hl => match us, hl with | [u0], _ => rfl
theorem sc3 : FnScope N3 ["term"] (defScope (top 19)) := ⟨rfl, rfl, rfl, by decide +kernel, rfl, by decide +kernel, by decide +kernel⟩
theorem cf3 : prg.fns[3]? = some (compF cc 40 40 N3 (defScope (top 19)) (defBody (top 19))) := by kernel_rfl
theorem df3 (X : K.In h) (G : h.Ns mainGlobals mg) (c : SaysX fal fnl bsl isl ivl exl K) : DefOk K mg 3 "parts" 1 := by
  obtain ⟨fd, F⟩ := c.m.d.def_ 3 (d := D3) rfl
  have F : FunD K "parts" "parts" (defArgs (top 19)) (defBody (top 19)) (defScope (top 19)) [] [] (He.ga K "parts") fd := F
  refine ⟨_, fd, N3, ["term"], _, _, _, _, _, _, F, sc3, rfl, cf3, He.glo_ok X G (c.m.d.fact 3 (f := .glo "parts") rfl), fun m ks pl hs => ?_⟩
  have hs := mem_shp hs
  have e : shp cc.shapes 3 = ([(1, [], [])] : List (Nat × List Str × List Pl)) := rfl
  rw [e] at hs
  simp only [List.mem_cons, List.not_mem_nil, or_false, Prod.mk.injEq] at hs
  rcases hs with ⟨rfl, rfl, rfl⟩
  · exact bg_plain F rfl fun kV doc pm an cdv ct us hl => match us, hl with | [u0], _ => rfl
theorem sc4 : FnScope N4 ["term"] (defScope (top 20)) := ⟨rfl, rfl, rfl, by decide +kernel, rfl, by decide +kernel, by decide +kernel⟩
theorem cf4 : prg.fns[4]? = some (compF cc 40 40 N4 (defScope (top 20)) (defBody (top 20))) := by kernel_rfl
theorem df4 (X : K.In h) (G : h.Ns mainGlobals mg) (c : SaysX fal fnl bsl isl ivl exl K) : DefOk K mg 4 "size" 1 := by
  obtain ⟨fd, F⟩ := c.m.d.def_ 4 (d := D4) rfl
  have F : FunD K "size" "size" (defArgs (top 20)) (defBody (top 20)) (defScope (top 20)) [] [] (He.ga K "size") fd := F
  refine ⟨_, fd, N4, ["term"], _, _, _, _, _, _, F, sc4, rfl, cf4, He.glo_ok X G (c.m.d.fact 4 (f := .glo "size") rfl), fun m ks pl hs => ?_⟩
  have hs := mem_shp hs
  have e : shp cc.shapes 4 = ([(1, [], [])] : List (Nat × List Str × List Pl)) := rfl
  rw [e] at hs
  simp only [List.mem_cons, List.not_mem_nil, or_false, Prod.mk.injEq] at hs
  rcases hs with ⟨rfl, rfl, rfl⟩
  · exact bg_plain F rfl fun kV doc pm an cdv ct us hl => match us, hl with | [u0], _ => rfl
theorem sc5 : FnScope N5 ["term"] (defScope (top 21)) := ⟨rfl, rfl, rfl, by decide +kernel, rfl, by decide +kernel, by decide +kernel⟩
theorem cf5 : prg.fns[5]? = some (compF cc 40 40 N5 (defScope (top 21)) (defBody (top 21))) := by kernel_rfl
theorem df5 (X : K.In h) (G : h.Ns mainGlobals mg) (c : SaysX fal fnl bsl isl ivl exl K) : DefOk K mg 5 "free_names" 1 := by
  obtain ⟨fd, F⟩ := c.m.d.def_ 5 (d := D5) rfl
  have F : FunD K "free_names" "free_names" (defArgs (top 21)) (defBody (top 21)) (defScope (top 21)) [] [] (He.ga K "free_names") fd := F
  refine ⟨_, fd, N5, ["term"], _, _, _, _, _, _, F, sc5, rfl, cf5, He.glo_ok X G (c.m.d.fact 5 (f := .glo "free_names") rfl), fun m ks pl hs => ?_⟩
  have hs := mem_shp hs
  have e : shp cc.shapes 5 = ([(1, [], [])] : List (Nat × List Str × List Pl)) := rfl
  rw [e] at hs
  simp only [List.mem_cons, List.not_mem_nil, or_false, Prod.mk.injEq] at hs
  rcases hs with ⟨rfl, rfl, rfl⟩
  · exact bg_plain F rfl fun kV doc pm an cdv ct us hl => match us, hl with | [u0], _ => rfl
theorem sc6 : FnScope N6 ["term", "table"] (defScope (top 22)) := ⟨rfl, rfl, rfl, by decide +kernel, rfl, by decide +kernel, by decide +kernel⟩
theorem cf6 : prg.fns[6]? = some (compF cc 40 40 N6 (defScope (top 22)) (defBody (top 22))) := by kernel_rfl
theorem df6 (X : K.In h) (G : h.Ns mainGlobals mg) (c : SaysX fal fnl bsl isl ivl exl K) : DefOk K mg 6 "renamed" 2 := by
  obtain ⟨fd, F⟩ := c.m.d.def_ 6 (d := D6) rfl
  have F : FunD K "renamed" "renamed" (defArgs (top 22)) (defBody (top 22)) (defScope (top 22)) [] [] (He.ga K "renamed") fd := F
  refine ⟨_, fd, N6, ["term", "table"], _, _, _, _, _, _, F, sc6, rfl, cf6, He.glo_ok X G (c.m.d.fact 6 (f := .glo "renamed") rfl), fun m ks pl hs => ?_⟩
  have hs := mem_shp hs
  have e : shp cc.shapes 6 = ([(2, [], [])] : List (Nat × List Str × List Pl)) := rfl
  rw [e] at hs
  simp only [List.mem_cons, List.not_mem_nil, or_false, Prod.mk.injEq] at hs
  rcases hs with ⟨rfl, rfl, rfl⟩
  · exact bg_plain F rfl fun kV doc pm an cdv ct us hl => match us, hl with | [u0, u1], _ => rfl
theorem sc7 : FnScope N7 ["term", "name", "other"] (defScope (top 23)) := ⟨rfl, rfl, rfl, by decide +kernel, rfl, by decide +kernel, by decide +kernel⟩
theorem cf7 : prg.fns[7]? = some (compF cc 40 40 N7 (defScope (top 23)) (defBody (top 23))) := by kernel_rfl
theorem df7 (X : K.In h) (G : h.Ns mainGlobals mg) (c : SaysX fal fnl bsl isl ivl exl K) : DefOk K mg 7 "replaced" 3 := by
  obtain ⟨fd, F⟩ := c.m.d.def_ 7 (d := D7) rfl
  have F : FunD K "replaced" "replaced" (defArgs (top 23)) (defBody (top 23)) (defScope (top 23)) [] [] (He.ga K "replaced") fd := F
  refine ⟨_, fd, N7, ["term", "name", "other"], _, _, _, _, _, _, F, sc7, rfl, cf7, He.glo_ok X G (c.m.d.fact 7 (f := .glo "replaced") rfl), fun m ks pl hs => ?_⟩
  have hs := mem_shp hs
  have e : shp cc.shapes 7 = ([(3, [], [])] : List (Nat × List Str × List Pl)) := rfl
  rw [e] at hs
  simp only [List.mem_cons, List.not_mem_nil, or_false, Prod.mk.injEq] at hs
  rcases hs with ⟨rfl, rfl, rfl⟩
  · exact bg_plain F rfl fun kV doc pm an cdv ct us hl => match us, hl with | [u0, u1, u2], _ => rfl
theorem sc8 : FnScope N8 ["term", "name", "other"] (defScope (top 24)) := ⟨rfl, rfl, rfl, by decide +kernel, rfl, by decide +kernel, by decide +kernel⟩
theorem cf8 : prg.fns[8]? = some (compF cc 40 40 N8 (defScope (top 24)) (defBody (top 24))) := by kernel_rfl
theorem df8 (X : K.In h) (G : h.Ns mainGlobals mg) (c : SaysX fal fnl bsl isl ivl exl K) : DefOk K mg 8 "put_in" 3 := by
  obtain ⟨fd, F⟩ := c.m.d.def_ 8 (d := D8) rfl
  have F : FunD K "put_in" "put_in" (defArgs (top 24)) (defBody (top 24)) (defScope (top 24)) [] [] (He.ga K "put_in") fd := F
  refine ⟨_, fd, N8, ["term", "name", "other"], _, _, _, _, _, _, F, sc8, rfl, cf8, He.glo_ok X G (c.m.d.fact 8 (f := .glo "put_in") rfl), fun m ks pl hs => ?_⟩
  have hs := mem_shp hs
  have e : shp cc.shapes 8 = ([(3, [], [])] : List (Nat × List Str × List Pl)) := rfl
  rw [e] at hs
  simp only [List.mem_cons, List.not_mem_nil, or_false, Prod.mk.injEq] at hs
  rcases hs with ⟨rfl, rfl, rfl⟩
  · exact bg_plain F rfl fun kV doc pm an cdv ct us hl => match us, hl with | [u0, u1, u2], _ => rfl
theorem sc9 : FnScope N9 ["names"] (defScope (top 26)) := ⟨rfl, rfl, rfl, by decide +kernel, rfl, by decide +kernel, by decide +kernel⟩
theorem cf9 : prg.fns[9]? = some (compF cc 40 40 N9 (defScope (top 26)) (defBody (top 26))) := by kernel_rfl
theorem df9 (X : K.In h) (G : h.Ns mainGlobals mg) (c : SaysX fal fnl bsl isl ivl exl K) : DefOk K mg 9 "check_names" 1 := by
  obtain ⟨fd, F⟩ := c.m.d.def_ 9 (d := D9) rfl
  have F : FunD K "check_names" "check_names" (defArgs (top 26)) (defBody (top 26)) (defScope (top 26)) [] [] (He.ga K "check_names") fd := F
  refine ⟨_, fd, N9, ["names"], _, _, _, _, _, _, F, sc9, rfl, cf9, He.glo_ok X G (c.m.d.fact 9 (f := .glo "check_names") rfl), fun m ks pl hs => ?_⟩
  have hs := mem_shp hs
  have e : shp cc.shapes 9 = ([(1, [], [])] : List (Nat × List Str × List Pl)) := rfl
  rw [e] at hs
  simp only [List.mem_cons, List.not_mem_nil, or_false, Prod.mk.injEq] at hs
  rcases hs with ⟨rfl, rfl, rfl⟩
  · exact bg_plain F rfl fun kV doc pm an cdv ct us hl => match us, hl with | [u0], _ => rfl
theorem sc10 : FnScope N10 ["term"] (defScope (top 28)) := ⟨rfl, rfl, rfl, by decide +kernel, rfl, by decide +kernel, by decide +kernel⟩
theorem cf10 : prg.fns[10]? = some (compF cc 40 40 N10 (defScope (top 28)) (defBody (top 28))) := by kernel_rfl
theorem df10 (X : K.In h) (G : h.Ns mainGlobals mg) (c : SaysX fal fnl bsl isl ivl exl K) : DefOk K mg 10 "ready_nodes" 1 := by
  obtain ⟨fd, F⟩ := c.m.d.def_ 10 (d := D10) rfl
  have F : FunD K "ready_nodes" "ready_nodes" (defArgs (top 28)) (defBody (top 28)) (defScope (top 28)) [] [] (He.ga K "ready_nodes") fd := F
  refine ⟨_, fd, N10, ["term"], _, _, _, _, _, _, F, sc10, rfl, cf10, He.glo_ok X G (c.m.d.fact 10 (f := .glo "ready_nodes") rfl), fun m ks pl hs => ?_⟩
  have hs := mem_shp hs
  have e : shp cc.shapes 10 = ([(1, [], [])] : List (Nat × List Str × List Pl)) := rfl
  rw [e] at hs
  simp only [List.mem_cons, List.not_mem_nil, or_false, Prod.mk.injEq] at hs
  rcases hs with ⟨rfl, rfl, rfl⟩
  · exact bg_plain F rfl fun kV doc pm an cdv ct us hl => match us, hl with | [u0], _ => rfl
theorem sc11 : FnScope N11 ["part", "node"] (defScope (top 29)) := ⟨rfl, rfl, rfl, by decide +kernel, rfl, by decide +kernel, by decide +kernel⟩
theorem cf11 : prg.fns[11]? = some (compF cc 40 40 N11 (defScope (top 29)) (defBody (top 29))) := by kernel_rfl
theorem df11 (X : K.In h) (G : h.Ns mainGlobals mg) (c : SaysX fal fnl bsl isl ivl exl K) : DefOk K mg 11 "stepped" 2 := by
  obtain ⟨fd, F⟩ := c.m.d.def_ 11 (d := D11) rfl
  have F : FunD K "stepped" "stepped" (defArgs (top 29)) (defBody (top 29)) (defScope (top 29)) [] [] (He.ga K "stepped") fd := F
  refine ⟨_, fd, N11, ["part", "node"], _, _, _, _, _, _, F, sc11, rfl, cf11, He.glo_ok X G (c.m.d.fact 11 (f := .glo "stepped") rfl), fun m ks pl hs => ?_⟩
  have hs := mem_shp hs
  have e : shp cc.shapes 11 = ([(2, [], [])] : List (Nat × List Str × List Pl)) := rfl
  rw [e] at hs
  simp only [List.mem_cons, List.not_mem_nil, or_false, Prod.mk.injEq] at hs
  rcases hs with ⟨rfl, rfl, rfl⟩
  · exact bg_plain F rfl fun kV doc pm an cdv ct us hl => match us, hl with | [u0, u1], _ => rfl
theorem sc12 : FnScope N12 ["term"] (defScope (top 30)) := ⟨rfl, rfl, rfl, by decide +kernel, rfl, by decide +kernel, by decide +kernel⟩
theorem cf12 : prg.fns[12]? = some (compF cc 40 40 N12 (defScope (top 30)) (defBody (top 30))) := by kernel_rfl
theorem df12 (X : K.In h) (G : h.Ns mainGlobals mg) (c : SaysX fal fnl bsl isl ivl exl K) : DefOk K mg 12 "normal" 1 := by
  obtain ⟨fd, F⟩ := c.m.d.def_ 12 (d := D12) rfl
  have F : FunD K "normal" "normal" (defArgs (top 30)) (defBody (top 30)) (defScope (top 30)) [] [] (He.ga K "normal") fd := F
  refine ⟨_, fd, N12, ["term"], _, _, _, _, _, _, F, sc12, rfl, cf12, He.glo_ok X G (c.m.d.fact 12 (f := .glo "normal") rfl), fun m ks pl hs => ?_⟩
  have hs := mem_shp hs
  have e : shp cc.shapes 12 = ([(1, [], [])] : List (Nat × List Str × List Pl)) := rfl
  rw [e] at hs
  simp only [List.mem_cons, List.not_mem_nil, or_false, Prod.mk.injEq] at hs
  rcases hs with ⟨rfl, rfl, rfl⟩
  · exact bg_plain F rfl fun kV doc pm an cdv ct us hl => match us, hl with | [u0], _ => rfl
theorem sc13 : FnScope N13 ["part", "seen"] (defScope (top 32)) := ⟨rfl, rfl, rfl, by decide +kernel, rfl, by decide +kernel, by decide +kernel⟩
theorem cf13 : prg.fns[13]? = some (compF cc 40 40 N13 (defScope (top 32)) (defBody (top 32))) := by kernel_rfl
theorem df13 (X : K.In h) (G : h.Ns mainGlobals mg) (c : SaysX fal fnl bsl isl ivl exl K) : DefOk K mg 13 "check_loose_part" 2 := by
  obtain ⟨fd, F⟩ := c.m.d.def_ 13 (d := D13) rfl
  have F : FunD K "check_loose_part" "check_loose_part" (defArgs (top 32)) (defBody (top 32)) (defScope (top 32)) [] [] (He.ga K "check_loose_part") fd := F
  refine ⟨_, fd, N13, ["part", "seen"], _, _, _, _, _, _, F, sc13, rfl, cf13, He.glo_ok X G (c.m.d.fact 13 (f := .glo "check_loose_part") rfl), fun m ks pl hs => ?_⟩
  have hs := mem_shp hs
  have e : shp cc.shapes 13 = ([(2, [], [])] : List (Nat × List Str × List Pl)) := rfl
  rw [e] at hs
  simp only [List.mem_cons, List.not_mem_nil, or_false, Prod.mk.injEq] at hs
  rcases hs with ⟨rfl, rfl, rfl⟩
  · exact bg_plain F rfl fun kV doc pm an cdv ct us hl => match us, hl with | [u0, u1], _ => rfl
theorem sc14 : FnScope N14 ["term"] (defScope (top 33)) := ⟨rfl, rfl, rfl, by decide +kernel, rfl, by decide +kernel, by decide +kernel⟩
theorem cf14 : prg.fns[14]? = some (compF cc 40 40 N14 (defScope (top 33)) (defBody (top 33))) := by kernel_rfl
theorem df14 (X : K.In h) (G : h.Ns mainGlobals mg) (c : SaysX fal fnl bsl isl ivl exl K) : DefOk K mg 14 "check_loose" 1 := by
  obtain ⟨fd, F⟩ := c.m.d.def_ 14 (d := D14) rfl
  have F : FunD K "check_loose" "check_loose" (defArgs (top 33)) (defBody (top 33)) (defScope (top 33)) [] [] (He.ga K "check_loose") fd := F
  refine ⟨_, fd, N14, ["term"], _, _, _, _, _, _, F, sc14, rfl, cf14, He.glo_ok X G (c.m.d.fact 14 (f := .glo "check_loose") rfl), fun m ks pl hs => ?_⟩
  have hs := mem_shp hs
  have e : shp cc.shapes 14 = ([(1, [], [])] : List (Nat × List Str × List Pl)) := rfl
  rw [e] at hs
  simp only [List.mem_cons, List.not_mem_nil, or_false, Prod.mk.injEq] at hs
  rcases hs with ⟨rfl, rfl, rfl⟩
  · exact bg_plain F rfl fun kV doc pm an cdv ct us hl => match us, hl with | [u0], _ => rfl
theorem sc15 : FnScope N15 ["term"] (defScope (top 34)) := ⟨rfl, rfl, rfl, by decide +kernel, rfl, by decide +kernel, by decide +kernel⟩
theorem cf15 : prg.fns[15]? = some (compF cc 40 40 N15 (defScope (top 34)) (defBody (top 34))) := by kernel_rfl
theorem df15 (X : K.In h) (G : h.Ns mainGlobals mg) (c : SaysX fal fnl bsl isl ivl exl K) : DefOk K mg 15 "thrown_names" 1 := by
  obtain ⟨fd, F⟩ := c.m.d.def_ 15 (d := D15) rfl
  have F : FunD K "thrown_names" "thrown_names" (defArgs (top 34)) (defBody (top 34)) (defScope (top 34)) [] [] (He.ga K "thrown_names") fd := F
  refine ⟨_, fd, N15, ["term"], _, _, _, _, _, _, F, sc15, rfl, cf15, He.glo_ok X G (c.m.d.fact 15 (f := .glo "thrown_names") rfl), fun m ks pl hs => ?_⟩
  have hs := mem_shp hs
  have e : shp cc.shapes 15 = ([(1, [], [])] : List (Nat × List Str × List Pl)) := rfl
  rw [e] at hs
  simp only [List.mem_cons, List.not_mem_nil, or_false, Prod.mk.injEq] at hs
  rcases hs with ⟨rfl, rfl, rfl⟩
  · exact bg_plain F rfl fun kV doc pm an cdv ct us hl => match us, hl with | [u0], _ => rfl
theorem sc16 : FnScope N16 ["term", "names"] (defScope (top 35)) := ⟨rfl, rfl, rfl, by decide +kernel, rfl, by decide +kernel, by decide +kernel⟩
theorem cf16 : prg.fns[16]? = some (compF cc 40 40 N16 (defScope (top 35)) (defBody (top 35))) := by kernel_rfl
theorem df16 (X : K.In h) (G : h.Ns mainGlobals mg) (c : SaysX fal fnl bsl isl ivl exl K) : DefOk K mg 16 "given_names" 2 := by
  obtain ⟨fd, F⟩ := c.m.d.def_ 16 (d := D16) rfl
  have F : FunD K "given_names" "given_names" (defArgs (top 35)) (defBody (top 35)) (defScope (top 35)) [] [] (He.ga K "given_names") fd := F
  refine ⟨_, fd, N16, ["term", "names"], _, _, _, _, _, _, F, sc16, rfl, cf16, He.glo_ok X G (c.m.d.fact 16 (f := .glo "given_names") rfl), fun m ks pl hs => ?_⟩
  have hs := mem_shp hs
  have e : shp cc.shapes 16 = ([(2, [], [])] : List (Nat × List Str × List Pl)) := rfl
  rw [e] at hs
  simp only [List.mem_cons, List.not_mem_nil, or_false, Prod.mk.injEq] at hs
  rcases hs with ⟨rfl, rfl, rfl⟩
  · exact bg_plain F rfl fun kV doc pm an cdv ct us hl => match us, hl with | [u0, u1], _ => rfl
theorem sc17 : FnScope N17 ["term", "names"] (defScope (top 36)) := ⟨rfl, rfl, rfl, by decide +kernel, rfl, by decide +kernel, by decide +kernel⟩
theorem cf17 : prg.fns[17]? = some (compF cc 40 40 N17 (defScope (top 36)) (defBody (top 36))) := by kernel_rfl
theorem df17 (X : K.In h) (G : h.Ns mainGlobals mg) (c : SaysX fal fnl bsl isl ivl exl K) : DefOk K mg 17 "loose_canonical" 2 := by
  obtain ⟨fd, F⟩ := c.m.d.def_ 17 (d := D17) rfl
  have F : FunD K "loose_canonical" "loose_canonical" (defArgs (top 36)) (defBody (top 36)) (defScope (top 36)) [] [] (He.ga K "loose_canonical") fd := F
  refine ⟨_, fd, N17, ["term", "names"], _, _, _, _, _, _, F, sc17, rfl, cf17, He.glo_ok X G (c.m.d.fact 17 (f := .glo "loose_canonical") rfl), fun m ks pl hs => ?_⟩
  have hs := mem_shp hs
  have e : shp cc.shapes 17 = ([(2, [], [])] : List (Nat × List Str × List Pl)) := rfl
  rw [e] at hs
  simp only [List.mem_cons, List.not_mem_nil, or_false, Prod.mk.injEq] at hs
  rcases hs with ⟨rfl, rfl, rfl⟩
  · exact bg_plain F rfl fun kV doc pm an cdv ct us hl => match us, hl with | [u0, u1], _ => rfl
theorem sc18 : FnScope N18 ["part", "node"] (defScope (top 37)) := ⟨rfl, rfl, rfl, by decide +kernel, rfl, by decide +kernel, by decide +kernel⟩
theorem cf18 : prg.fns[18]? = some (compF cc 40 40 N18 (defScope (top 37)) (defBody (top 37))) := by kernel_rfl
theorem df18 (X : K.In h) (G : h.Ns mainGlobals mg) (c : SaysX fal fnl bsl isl ivl exl K) : DefOk K mg 18 "loose_stepped" 2 := by
  obtain ⟨fd, F⟩ := c.m.d.def_ 18 (d := D18) rfl
  have F : FunD K "loose_stepped" "loose_stepped" (defArgs (top 37)) (defBody (top 37)) (defScope (top 37)) [] [] (He.ga K "loose_stepped") fd := F
  refine ⟨_, fd, N18, ["part", "node"], _, _, _, _, _, _, F, sc18, rfl, cf18, He.glo_ok X G (c.m.d.fact 18 (f := .glo "loose_stepped") rfl), fun m ks pl hs => ?_⟩
  have hs := mem_shp hs
  have e : shp cc.shapes 18 = ([(2, [], [])] : List (Nat × List Str × List Pl)) := rfl
  rw [e] at hs
  simp only [List.mem_cons, List.not_mem_nil, or_false, Prod.mk.injEq] at hs
  rcases hs with ⟨rfl, rfl, rfl⟩
  · exact bg_plain F rfl fun kV doc pm an cdv ct us hl => match us, hl with | [u0, u1], _ => rfl
theorem sc19 : FnScope N19 ["term", "node"] (defScope (top 38)) := ⟨rfl, rfl, rfl, by decide +kernel, rfl, by decide +kernel, by decide +kernel⟩
theorem cf19 : prg.fns[19]? = some (compF cc 40 40 N19 (defScope (top 38)) (defBody (top 38))) := by kernel_rfl
theorem df19 (X : K.In h) (G : h.Ns mainGlobals mg) (c : SaysX fal fnl bsl isl ivl exl K) : DefOk K mg 19 "step_loose" 2 := by
  obtain ⟨fd, F⟩ := c.m.d.def_ 19 (d := D19) rfl
  have F : FunD K "step_loose" "step_loose" (defArgs (top 38)) (defBody (top 38)) (defScope (top 38)) [] [] (He.ga K "step_loose") fd := F
  refine ⟨_, fd, N19, ["term", "node"], _, _, _, _, _, _, F, sc19, rfl, cf19, He.glo_ok X G (c.m.d.fact 19 (f := .glo "step_loose") rfl), fun m ks pl hs => ?_⟩
  have hs := mem_shp hs
  have e : shp cc.shapes 19 = ([(2, [], [])] : List (Nat × List Str × List Pl)) := rfl
  rw [e] at hs
  simp only [List.mem_cons, List.not_mem_nil, or_false, Prod.mk.injEq] at hs
  rcases hs with ⟨rfl, rfl, rfl⟩
  · exact bg_plain F rfl fun kV doc pm an cdv ct us hl => match us, hl with | [u0, u1], _ => rfl
theorem sc20 : FnScope N20 ["term"] (defScope (top 39)) := ⟨rfl, rfl, rfl, by decide +kernel, rfl, by decide +kernel, by decide +kernel⟩
theorem cf20 : prg.fns[20]? = some (compF cc 40 40 N20 (defScope (top 39)) (defBody (top 39))) := by kernel_rfl
theorem df20 (X : K.In h) (G : h.Ns mainGlobals mg) (c : SaysX fal fnl bsl isl ivl exl K) : DefOk K mg 20 "normal_loose" 1 := by
  obtain ⟨fd, F⟩ := c.m.d.def_ 20 (d := D20) rfl
  have F : FunD K "normal_loose" "normal_loose" (defArgs (top 39)) (defBody (top 39)) (defScope (top 39)) [] [] (He.ga K "normal_loose") fd := F
  refine ⟨_, fd, N20, ["term"], _, _, _, _, _, _, F, sc20, rfl, cf20, He.glo_ok X G (c.m.d.fact 20 (f := .glo "normal_loose") rfl), fun m ks pl hs => ?_⟩
  have hs := mem_shp hs
  have e : shp cc.shapes 20 = ([(1, [], [])] : List (Nat × List Str × List Pl)) := rfl
  rw [e] at hs
  simp only [List.mem_cons, List.not_mem_nil, or_false, Prod.mk.injEq] at hs
  rcases hs with ⟨rfl, rfl, rfl⟩
  · exact bg_plain F rfl fun kV doc pm an cdv ct us hl => match us, hl with | [u0], _ => rfl
theorem sc21 : FnScope N21 ["script", "k"] (defScope (top 41)) := ⟨rfl, rfl, rfl, by decide +kernel, rfl, by decide +kernel, by decide +kernel⟩
theorem cf21 : prg.fns[21]? = some (compF cc 40 40 N21 (defScope (top 41)) (defBody (top 41))) := by kernel_rfl
theorem df21 (X : K.In h) (G : h.Ns mainGlobals mg) (c : SaysX fal fnl bsl isl ivl exl K) : DefOk K mg 21 "_law_cell" 2 := by
  obtain ⟨fd, F⟩ := c.m.d.def_ 21 (d := D21) rfl
  have F : FunD K "_law_cell" "_law_cell" (defArgs (top 41)) (defBody (top 41)) (defScope (top 41)) [] [] (He.ga K "_law_cell") fd := F
  refine ⟨_, fd, N21, ["script", "k"], _, _, _, _, _, _, F, sc21, rfl, cf21, He.glo_ok X G (c.m.d.fact 21 (f := .glo "_law_cell") rfl), fun m ks pl hs => ?_⟩
  have hs := mem_shp hs
  have e : shp cc.shapes 21 = ([(2, [], [])] : List (Nat × List Str × List Pl)) := rfl
  rw [e] at hs
  simp only [List.mem_cons, List.not_mem_nil, or_false, Prod.mk.injEq] at hs
  rcases hs with ⟨rfl, rfl, rfl⟩
  · exact bg_plain F rfl fun kV doc pm an cdv ct us hl => match us, hl with | [u0, u1], _ => rfl
theorem sc22 : FnScope N22 ["digits", "k"] (defScope (top 42)) := ⟨rfl, rfl, rfl, by decide +kernel, rfl, by decide +kernel, by decide +kernel⟩
theorem cf22 : prg.fns[22]? = some (compF cc 40 40 N22 (defScope (top 42)) (defBody (top 42))) := by kernel_rfl
theorem df22 (X : K.In h) (G : h.Ns mainGlobals mg) (c : SaysX fal fnl bsl isl ivl exl K) : DefOk K mg 22 "_law_at" 2 := by
  obtain ⟨fd, F⟩ := c.m.d.def_ 22 (d := D22) rfl
  have F : FunD K "_law_at" "_law_at" (defArgs (top 42)) (defBody (top 42)) (defScope (top 42)) [] [] (He.ga K "_law_at") fd := F
  refine ⟨_, fd, N22, ["digits", "k"], _, _, _, _, _, _, F, sc22, rfl, cf22, He.glo_ok X G (c.m.d.fact 22 (f := .glo "_law_at") rfl), fun m ks pl hs => ?_⟩
  have hs := mem_shp hs
  have e : shp cc.shapes 22 = ([(2, [], [])] : List (Nat × List Str × List Pl)) := rfl
  rw [e] at hs
  simp only [List.mem_cons, List.not_mem_nil, or_false, Prod.mk.injEq] at hs
  rcases hs with ⟨rfl, rfl, rfl⟩
  · exact bg_plain F rfl fun kV doc pm an cdv ct us hl => match us, hl with | [u0, u1], _ => rfl
theorem sc23 : FnScope N23 ["cell", "many", "salt"] (defScope (top 43)) := ⟨rfl, rfl, rfl, by decide +kernel, rfl, by decide +kernel, by decide +kernel⟩
theorem cf23 : prg.fns[23]? = some (compF cc 40 40 N23 (defScope (top 43)) (defBody (top 43))) := by kernel_rfl
theorem df23 (X : K.In h) (G : h.Ns mainGlobals mg) (c : SaysX fal fnl bsl isl ivl exl K) : DefOk K mg 23 "_law_digits" 3 := by
  obtain ⟨fd, F⟩ := c.m.d.def_ 23 (d := D23) rfl
  have F : FunD K "_law_digits" "_law_digits" (defArgs (top 43)) (defBody (top 43)) (defScope (top 43)) [] [] (He.ga K "_law_digits") fd := F
  refine ⟨_, fd, N23, ["cell", "many", "salt"], _, _, _, _, _, _, F, sc23, rfl, cf23, He.glo_ok X G (c.m.d.fact 23 (f := .glo "_law_digits") rfl), fun m ks pl hs => ?_⟩
  have hs := mem_shp hs
  have e : shp cc.shapes 23 = ([(3, [], [])] : List (Nat × List Str × List Pl)) := rfl
  rw [e] at hs
  simp only [List.mem_cons, List.not_mem_nil, or_false, Prod.mk.injEq] at hs
  rcases hs with ⟨rfl, rfl, rfl⟩
  · exact bg_plain F rfl fun kV doc pm an cdv ct us hl => match us, hl with | [u0, u1, u2], _ => rfl
theorem sc24 : FnScope N24 ["told", "due"] (defScope (top 44)) := ⟨rfl, rfl, rfl, by decide +kernel, rfl, by decide +kernel, by decide +kernel⟩
theorem cf24 : prg.fns[24]? = some (compF cc 40 40 N24 (defScope (top 44)) (defBody (top 44))) := by kernel_rfl
theorem df24 (X : K.In h) (G : h.Ns mainGlobals mg) (c : SaysX fal fnl bsl isl ivl exl K) : DefOk K mg 24 "_law_same" 2 := by
  obtain ⟨fd, F⟩ := c.m.d.def_ 24 (d := D24) rfl
  have F : FunD K "_law_same" "_law_same" (defArgs (top 44)) (defBody (top 44)) (defScope (top 44)) [] [] (He.ga K "_law_same") fd := F
  refine ⟨_, fd, N24, ["told", "due"], _, _, _, _, _, _, F, sc24, rfl, cf24, He.glo_ok X G (c.m.d.fact 24 (f := .glo "_law_same") rfl), fun m ks pl hs => ?_⟩
  have hs := mem_shp hs
  have e : shp cc.shapes 24 = ([(2, [], [])] : List (Nat × List Str × List Pl)) := rfl
  rw [e] at hs
  simp only [List.mem_cons, List.not_mem_nil, or_false, Prod.mk.injEq] at hs
  rcases hs with ⟨rfl, rfl, rfl⟩
  · exact bg_plain F rfl fun kV doc pm an cdv ct us hl => match us, hl with | [u0, u1], _ => rfl
theorem sc25 : FnScope N25 ["k", "style"] (defScope (top 45)) := ⟨rfl, rfl, rfl, by decide +kernel, rfl, by decide +kernel, by decide +kernel⟩
theorem cf25 : prg.fns[25]? = some (compF cc 40 40 N25 (defScope (top 45)) (defBody (top 45))) := by kernel_rfl
theorem df25 (X : K.In h) (G : h.Ns mainGlobals mg) (c : SaysX fal fnl bsl isl ivl exl K) : DefOk K mg 25 "_law_name" 2 := by
  obtain ⟨fd, F⟩ := c.m.d.def_ 25 (d := D25) rfl
  have F : FunD K "_law_name" "_law_name" (defArgs (top 45)) (defBody (top 45)) (defScope (top 45)) [] [] (He.ga K "_law_name") fd := F
  refine ⟨_, fd, N25, ["k", "style"], _, _, _, _, _, _, F, sc25, rfl, cf25, He.glo_ok X G (c.m.d.fact 25 (f := .glo "_law_name") rfl), fun m ks pl hs => ?_⟩
  have hs := mem_shp hs
  have e : shp cc.shapes 25 = ([(2, [], [])] : List (Nat × List Str × List Pl)) := rfl
  rw [e] at hs
  simp only [List.mem_cons, List.not_mem_nil, or_false, Prod.mk.injEq] at hs
  rcases hs with ⟨rfl, rfl, rfl⟩
  · exact bg_plain F rfl fun kV doc pm an cdv ct us hl => match us, hl with | [u0, u1], _ => rfl
theorem sc26 : FnScope N26 ["piled", "kind", "digit"] (defScope (top 46)) := ⟨rfl, rfl, rfl, by decide +kernel, rfl, by decide +kernel, by decide +kernel⟩
theorem cf26 : prg.fns[26]? = some (compF cc 40 40 N26 (defScope (top 46)) (defBody (top 46))) := by kernel_rfl
theorem df26 (X : K.In h) (G : h.Ns mainGlobals mg) (c : SaysX fal fnl bsl isl ivl exl K) : DefOk K mg 26 "_law_joined" 3 := by
  obtain ⟨fd, F⟩ := c.m.d.def_ 26 (d := D26) rfl
  have F : FunD K "_law_joined" "_law_joined" (defArgs (top 46)) (defBody (top 46)) (defScope (top 46)) [] [] (He.ga K "_law_joined") fd := F
  refine ⟨_, fd, N26, ["piled", "kind", "digit"], _, _, _, _, _, _, F, sc26, rfl, cf26, He.glo_ok X G (c.m.d.fact 26 (f := .glo "_law_joined") rfl), fun m ks pl hs => ?_⟩
  have hs := mem_shp hs
  have e : shp cc.shapes 26 = ([(3, [], [])] : List (Nat × List Str × List Pl)) := rfl
  rw [e] at hs
  simp only [List.mem_cons, List.not_mem_nil, or_false, Prod.mk.injEq] at hs
  rcases hs with ⟨rfl, rfl, rfl⟩
  · exact bg_plain F rfl fun kV doc pm an cdv ct us hl => match us, hl with | [u0, u1, u2], _ => rfl
theorem sc27 : FnScope N27 ["free", "digits"] (defScope (top 47)) := ⟨rfl, rfl, rfl, by decide +kernel, rfl, by decide +kernel, by decide +kernel⟩
theorem cf27 : prg.fns[27]? = some (compF cc 40 40 N27 (defScope (top 47)) (defBody (top 47))) := by kernel_rfl
theorem df27 (X : K.In h) (G : h.Ns mainGlobals mg) (c : SaysX fal fnl bsl isl ivl exl K) : DefOk K mg 27 "_law_shuffled" 2 := by
  obtain ⟨fd, F⟩ := c.m.d.def_ 27 (d := D27) rfl
  have F : FunD K "_law_shuffled" "_law_shuffled" (defArgs (top 47)) (defBody (top 47)) (defScope (top 47)) [] [] (He.ga K "_law_shuffled") fd := F
  refine ⟨_, fd, N27, ["free", "digits"], _, _, _, _, _, _, F, sc27, rfl, cf27, He.glo_ok X G (c.m.d.fact 27 (f := .glo "_law_shuffled") rfl), fun m ks pl hs => ?_⟩
  have hs := mem_shp hs
  have e : shp cc.shapes 27 = ([(2, [], [])] : List (Nat × List Str × List Pl)) := rfl
  rw [e] at hs
  simp only [List.mem_cons, List.not_mem_nil, or_false, Prod.mk.injEq] at hs
  rcases hs with ⟨rfl, rfl, rfl⟩
  · exact bg_plain F rfl fun kV doc pm an cdv ct us hl => match us, hl with | [u0, u1], _ => rfl
theorem sc28 : FnScope N28 ["part"] (defScope (top 48)) := ⟨rfl, rfl, rfl, by decide +kernel, rfl, by decide +kernel, by decide +kernel⟩
theorem cf28 : prg.fns[28]? = some (compF cc 40 40 N28 (defScope (top 48)) (defBody (top 48))) := by kernel_rfl
theorem df28 (X : K.In h) (G : h.Ns mainGlobals mg) (c : SaysX fal fnl bsl isl ivl exl K) : DefOk K mg 28 "_law_nodes" 1 := by
  obtain ⟨fd, F⟩ := c.m.d.def_ 28 (d := D28) rfl
  have F : FunD K "_law_nodes" "_law_nodes" (defArgs (top 48)) (defBody (top 48)) (defScope (top 48)) [] [] (He.ga K "_law_nodes") fd := F
  refine ⟨_, fd, N28, ["part"], _, _, _, _, _, _, F, sc28, rfl, cf28, He.glo_ok X G (c.m.d.fact 28 (f := .glo "_law_nodes") rfl), fun m ks pl hs => ?_⟩
  have hs := mem_shp hs
  have e : shp cc.shapes 28 = ([(1, [], [])] : List (Nat × List Str × List Pl)) := rfl
  rw [e] at hs
  simp only [List.mem_cons, List.not_mem_nil, or_false, Prod.mk.injEq] at hs
  rcases hs with ⟨rfl, rfl, rfl⟩
  · exact bg_plain F rfl fun kV doc pm an cdv ct us hl => match us, hl with | [u0], _ => rfl
theorem sc29 : FnScope N29 ["part"] (defScope (top 49)) := ⟨rfl, rfl, rfl, by decide +kernel, rfl, by decide +kernel, by decide +kernel⟩
theorem cf29 : prg.fns[29]? = some (compF cc 40 40 N29 (defScope (top 49)) (defBody (top 49))) := by kernel_rfl
theorem df29 (X : K.In h) (G : h.Ns mainGlobals mg) (c : SaysX fal fnl bsl isl ivl exl K) : DefOk K mg 29 "_law_parts" 1 := by
  obtain ⟨fd, F⟩ := c.m.d.def_ 29 (d := D29) rfl
  have F : FunD K "_law_parts" "_law_parts" (defArgs (top 49)) (defBody (top 49)) (defScope (top 49)) [] [] (He.ga K "_law_parts") fd := F
  refine ⟨_, fd, N29, ["part"], _, _, _, _, _, _, F, sc29, rfl, cf29, He.glo_ok X G (c.m.d.fact 29 (f := .glo "_law_parts") rfl), fun m ks pl hs => ?_⟩
  have hs := mem_shp hs
  have e : shp cc.shapes 29 = ([(1, [], [])] : List (Nat × List Str × List Pl)) := rfl
  rw [e] at hs
  simp only [List.mem_cons, List.not_mem_nil, or_false, Prod.mk.injEq] at hs
  rcases hs with ⟨rfl, rfl, rfl⟩
  · exact bg_plain F rfl fun kV doc pm an cdv ct us hl => match us, hl with | [u0], _ => rfl
theorem sc30 : FnScope N30 ["part", "table", "free", "counter"] (defScope (top 50)) := ⟨rfl, rfl, rfl, by decide +kernel, rfl, by decide +kernel, by decide +kernel⟩
theorem cf30 : prg.fns[30]? = some (compF cc 40 40 N30 (defScope (top 50)) (defBody (top 50))) := by kernel_rfl
theorem df30 (X : K.In h) (G : h.Ns mainGlobals mg) (c : SaysX fal fnl bsl isl ivl exl K) : DefOk K mg 30 "_law_canonical" 4 := by
  obtain ⟨fd, F⟩ := c.m.d.def_ 30 (d := D30) rfl
  have F : FunD K "_law_canonical" "_law_canonical" (defArgs (top 50)) (defBody (top 50)) (defScope (top 50)) [] [] (He.ga K "_law_canonical") fd := F
  refine ⟨_, fd, N30, ["part", "table", "free", "counter"], _, _, _, _, _, _, F, sc30, rfl, cf30, He.glo_ok X G (c.m.d.fact 30 (f := .glo "_law_canonical") rfl), fun m ks pl hs => ?_⟩
  have hs := mem_shp hs
  have e : shp cc.shapes 30 = ([(4, [], [])] : List (Nat × List Str × List Pl)) := rfl
  rw [e] at hs
  simp only [List.mem_cons, List.not_mem_nil, or_false, Prod.mk.injEq] at hs
  rcases hs with ⟨rfl, rfl, rfl⟩
  · exact bg_plain F rfl fun kV doc pm an cdv ct us hl => match us, hl with | [u0, u1, u2, u3], _ => rfl
theorem sc31 : FnScope N31 ["part", "name", "other"] (defScope (top 51)) := ⟨rfl, rfl, rfl, by decide +kernel, rfl, by decide +kernel, by decide +kernel⟩
theorem cf31 : prg.fns[31]? = some (compF cc 40 40 N31 (defScope (top 51)) (defBody (top 51))) := by kernel_rfl
theorem df31 (X : K.In h) (G : h.Ns mainGlobals mg) (c : SaysX fal fnl bsl isl ivl exl K) : DefOk K mg 31 "_law_put" 3 := by
  obtain ⟨fd, F⟩ := c.m.d.def_ 31 (d := D31) rfl
  have F : FunD K "_law_put" "_law_put" (defArgs (top 51)) (defBody (top 51)) (defScope (top 51)) [] [] (He.ga K "_law_put") fd := F
  refine ⟨_, fd, N31, ["part", "name", "other"], _, _, _, _, _, _, F, sc31, rfl, cf31, He.glo_ok X G (c.m.d.fact 31 (f := .glo "_law_put") rfl), fun m ks pl hs => ?_⟩
  have hs := mem_shp hs
  have e : shp cc.shapes 31 = ([(3, [], [])] : List (Nat × List Str × List Pl)) := rfl
  rw [e] at hs
  simp only [List.mem_cons, List.not_mem_nil, or_false, Prod.mk.injEq] at hs
  rcases hs with ⟨rfl, rfl, rfl⟩
  · exact bg_plain F rfl fun kV doc pm an cdv ct us hl => match us, hl with | [u0, u1, u2], _ => rfl
theorem sc32 : FnScope N32 ["part"] (defScope (top 52)) := ⟨rfl, rfl, rfl, by decide +kernel, rfl, by decide +kernel, by decide +kernel⟩
theorem cf32 : prg.fns[32]? = some (compF cc 40 40 N32 (defScope (top 52)) (defBody (top 52))) := by kernel_rfl
theorem df32 (X : K.In h) (G : h.Ns mainGlobals mg) (c : SaysX fal fnl bsl isl ivl exl K) : DefOk K mg 32 "_law_stepped" 1 := by
  obtain ⟨fd, F⟩ := c.m.d.def_ 32 (d := D32) rfl
  have F : FunD K "_law_stepped" "_law_stepped" (defArgs (top 52)) (defBody (top 52)) (defScope (top 52)) [] [] (He.ga K "_law_stepped") fd := F
  refine ⟨_, fd, N32, ["part"], _, _, _, _, _, _, F, sc32, rfl, cf32, He.glo_ok X G (c.m.d.fact 32 (f := .glo "_law_stepped") rfl), fun m ks pl hs => ?_⟩
  have hs := mem_shp hs
  have e : shp cc.shapes 32 = ([(1, [], [])] : List (Nat × List Str × List Pl)) := rfl
  rw [e] at hs
  simp only [List.mem_cons, List.not_mem_nil, or_false, Prod.mk.injEq] at hs
  rcases hs with ⟨rfl, rfl, rfl⟩
  · exact bg_plain F rfl fun kV doc pm an cdv ct us hl => match us, hl with | [u0], _ => rfl
theorem sc33 : FnScope N33 ["term"] (defScope (top 53)) := ⟨rfl, rfl, rfl, by decide +kernel, rfl, by decide +kernel, by decide +kernel⟩
theorem cf33 : prg.fns[33]? = some (compF cc 40 40 N33 (defScope (top 53)) (defBody (top 53))) := by kernel_rfl
theorem df33 (X : K.In h) (G : h.Ns mainGlobals mg) (c : SaysX fal fnl bsl isl ivl exl K) : DefOk K mg 33 "_law_end" 1 := by
  obtain ⟨fd, F⟩ := c.m.d.def_ 33 (d := D33) rfl
  have F : FunD K "_law_end" "_law_end" (defArgs (top 53)) (defBody (top 53)) (defScope (top 53)) [] [] (He.ga K "_law_end") fd := F
  refine ⟨_, fd, N33, ["term"], _, _, _, _, _, _, F, sc33, rfl, cf33, He.glo_ok X G (c.m.d.fact 33 (f := .glo "_law_end") rfl), fun m ks pl hs => ?_⟩
  have hs := mem_shp hs
  have e : shp cc.shapes 33 = ([(1, [], [])] : List (Nat × List Str × List Pl)) := rfl
  rw [e] at hs
  simp only [List.mem_cons, List.not_mem_nil, or_false, Prod.mk.injEq] at hs
  rcases hs with ⟨rfl, rfl, rfl⟩
  · exact bg_plain F rfl fun kV doc pm an cdv ct us hl => match us, hl with | [u0], _ => rfl
theorem sc34 : FnScope N34 ["cell", "least", "most"] (defScope (top 54)) := ⟨rfl, rfl, rfl, by decide +kernel, rfl, by decide +kernel, by decide +kernel⟩
theorem cf34 : prg.fns[34]? = some (compF cc 40 40 N34 (defScope (top 54)) (defBody (top 54))) := by kernel_rfl
theorem df34 (X : K.In h) (G : h.Ns mainGlobals mg) (c : SaysX fal fnl bsl isl ivl exl K) : DefOk K mg 34 "_law_sized" 3 := by
  obtain ⟨fd, F⟩ := c.m.d.def_ 34 (d := D34) rfl
  have F : FunD K "_law_sized" "_law_sized" (defArgs (top 54)) (defBody (top 54)) (defScope (top 54)) [] [] (He.ga K "_law_sized") fd := F
  refine ⟨_, fd, N34, ["cell", "least", "most"], _, _, _, _, _, _, F, sc34, rfl, cf34, He.glo_ok X G (c.m.d.fact 34 (f := .glo "_law_sized") rfl), fun m ks pl hs => ?_⟩
  have hs := mem_shp hs
  have e : shp cc.shapes 34 = ([(3, [], [])] : List (Nat × List Str × List Pl)) := rfl
  rw [e] at hs
  simp only [List.mem_cons, List.not_mem_nil, or_false, Prod.mk.injEq] at hs
  rcases hs with ⟨rfl, rfl, rfl⟩
  · exact bg_plain F rfl fun kV doc pm an cdv ct us hl => match us, hl with | [u0, u1, u2], _ => rfl
theorem sc35 : FnScope N35 ["digits", "style"] (defScope (top 55)) := ⟨rfl, rfl, rfl, by decide +kernel, rfl, by decide +kernel, by decide +kernel⟩
theorem cf35 : prg.fns[35]? = some (compF cc 40 40 N35 (defScope (top 55)) (defBody (top 55))) := by kernel_rfl
theorem df35 (X : K.In h) (G : h.Ns mainGlobals mg) (c : SaysX fal fnl bsl isl ivl exl K) : DefOk K mg 35 "_law_loose" 2 := by
  obtain ⟨fd, F⟩ := c.m.d.def_ 35 (d := D35) rfl
  have F : FunD K "_law_loose" "_law_loose" (defArgs (top 55)) (defBody (top 55)) (defScope (top 55)) [] [] (He.ga K "_law_loose") fd := F
  refine ⟨_, fd, N35, ["digits", "style"], _, _, _, _, _, _, F, sc35, rfl, cf35, He.glo_ok X G (c.m.d.fact 35 (f := .glo "_law_loose") rfl), fun m ks pl hs => ?_⟩
  have hs := mem_shp hs
  have e : shp cc.shapes 35 = ([(2, [], [])] : List (Nat × List Str × List Pl)) := rfl
  rw [e] at hs
  simp only [List.mem_cons, List.not_mem_nil, or_false, Prod.mk.injEq] at hs
  rcases hs with ⟨rfl, rfl, rfl⟩
  · exact bg_plain F rfl fun kV doc pm an cdv ct us hl => match us, hl with | [u0, u1], _ => rfl
theorem sc36 : FnScope N36 ["term"] (defScope (top 56)) := ⟨rfl, rfl, rfl, by decide +kernel, rfl, by decide +kernel, by decide +kernel⟩
theorem cf36 : prg.fns[36]? = some (compF cc 40 40 N36 (defScope (top 56)) (defBody (top 56))) := by kernel_rfl
theorem df36 (X : K.In h) (G : h.Ns mainGlobals mg) (c : SaysX fal fnl bsl isl ivl exl K) : DefOk K mg 36 "_law_spots" 1 := by
  obtain ⟨fd, F⟩ := c.m.d.def_ 36 (d := D36) rfl
  have F : FunD K "_law_spots" "_law_spots" (defArgs (top 56)) (defBody (top 56)) (defScope (top 56)) [] [] (He.ga K "_law_spots") fd := F
  refine ⟨_, fd, N36, ["term"], _, _, _, _, _, _, F, sc36, rfl, cf36, He.glo_ok X G (c.m.d.fact 36 (f := .glo "_law_spots") rfl), fun m ks pl hs => ?_⟩
  have hs := mem_shp hs
  have e : shp cc.shapes 36 = ([(1, [], [])] : List (Nat × List Str × List Pl)) := rfl
  rw [e] at hs
  simp only [List.mem_cons, List.not_mem_nil, or_false, Prod.mk.injEq] at hs
  rcases hs with ⟨rfl, rfl, rfl⟩
  · exact bg_plain F rfl fun kV doc pm an cdv ct us hl => match us, hl with | [u0], _ => rfl
theorem sc37 : FnScope N37 ["part", "wanted", "counter"] (defScope (top 57)) := ⟨rfl, rfl, rfl, by decide +kernel, rfl, by decide +kernel, by decide +kernel⟩
theorem cf37 : prg.fns[37]? = some (compF cc 40 40 N37 (defScope (top 57)) (defBody (top 57))) := by kernel_rfl
theorem df37 (X : K.In h) (G : h.Ns mainGlobals mg) (c : SaysX fal fnl bsl isl ivl exl K) : DefOk K mg 37 "_law_done" 3 := by
  obtain ⟨fd, F⟩ := c.m.d.def_ 37 (d := D37) rfl
  have F : FunD K "_law_done" "_law_done" (defArgs (top 57)) (defBody (top 57)) (defScope (top 57)) [] [] (He.ga K "_law_done") fd := F
  refine ⟨_, fd, N37, ["part", "wanted", "counter"], _, _, _, _, _, _, F, sc37, rfl, cf37, He.glo_ok X G (c.m.d.fact 37 (f := .glo "_law_done") rfl), fun m ks pl hs => ?_⟩
  have hs := mem_shp hs
  have e : shp cc.shapes 37 = ([(3, [], [])] : List (Nat × List Str × List Pl)) := rfl
  rw [e] at hs
  simp only [List.mem_cons, List.not_mem_nil, or_false, Prod.mk.injEq] at hs
  rcases hs with ⟨rfl, rfl, rfl⟩
  · exact bg_plain F rfl fun kV doc pm an cdv ct us hl => match us, hl with | [u0, u1, u2], _ => rfl
theorem sc38 : FnScope N38 ["term"] (defScope (top 58)) := ⟨rfl, rfl, rfl, by decide +kernel, rfl, by decide +kernel, by decide +kernel⟩
theorem cf38 : prg.fns[38]? = some (compF cc 40 40 N38 (defScope (top 58)) (defBody (top 58))) := by kernel_rfl
theorem df38 (X : K.In h) (G : h.Ns mainGlobals mg) (c : SaysX fal fnl bsl isl ivl exl K) : DefOk K mg 38 "_law_checked" 1 := by
  obtain ⟨fd, F⟩ := c.m.d.def_ 38 (d := D38) rfl
  have F : FunD K "_law_checked" "_law_checked" (defArgs (top 58)) (defBody (top 58)) (defScope (top 58)) [] [] (He.ga K "_law_checked") fd := F
  refine ⟨_, fd, N38, ["term"], _, _, _, _, _, _, F, sc38, rfl, cf38, He.glo_ok X G (c.m.d.fact 38 (f := .glo "_law_checked") rfl), fun m ks pl hs => ?_⟩
  have hs := mem_shp hs
  have e : shp cc.shapes 38 = ([(1, [], [])] : List (Nat × List Str × List Pl)) := rfl
  rw [e] at hs
  simp only [List.mem_cons, List.not_mem_nil, or_false, Prod.mk.injEq] at hs
  rcases hs with ⟨rfl, rfl, rfl⟩
  · exact bg_plain F rfl fun kV doc pm an cdv ct us hl => match us, hl with | [u0], _ => rfl
theorem sc39 : FnScope N39 ["term", "node"] (defScope (top 59)) := ⟨rfl, rfl, rfl, by decide +kernel, rfl, by decide +kernel, by decide +kernel⟩
theorem cf39 : prg.fns[39]? = some (compF cc 40 40 N39 (defScope (top 59)) (defBody (top 59))) := by kernel_rfl
theorem df39 (X : K.In h) (G : h.Ns mainGlobals mg) (c : SaysX fal fnl bsl isl ivl exl K) : DefOk K mg 39 "_law_refused" 2 := by
  obtain ⟨fd, F⟩ := c.m.d.def_ 39 (d := D39) rfl
  have F : FunD K "_law_refused" "_law_refused" (defArgs (top 59)) (defBody (top 59)) (defScope (top 59)) [] [] (He.ga K "_law_refused") fd := F
  refine ⟨_, fd, N39, ["term", "node"], _, _, _, _, _, _, F, sc39, rfl, cf39, He.glo_ok X G (c.m.d.fact 39 (f := .glo "_law_refused") rfl), fun m ks pl hs => ?_⟩
  have hs := mem_shp hs
  have e : shp cc.shapes 39 = ([(2, [], [])] : List (Nat × List Str × List Pl)) := rfl
  rw [e] at hs
  simp only [List.mem_cons, List.not_mem_nil, or_false, Prod.mk.injEq] at hs
  rcases hs with ⟨rfl, rfl, rfl⟩
  · exact bg_plain F rfl fun kV doc pm an cdv ct us hl => match us, hl with | [u0, u1], _ => rfl
theorem sc40 : FnScope N40 ["term", "names"] (defScope (top 60)) := ⟨rfl, rfl, rfl, by decide +kernel, rfl, by decide +kernel, by decide +kernel⟩
theorem cf40 : prg.fns[40]? = some (compF cc 40 40 N40 (defScope (top 60)) (defBody (top 60))) := by kernel_rfl
theorem df40 (X : K.In h) (G : h.Ns mainGlobals mg) (c : SaysX fal fnl bsl isl ivl exl K) : DefOk K mg 40 "_law_given" 2 := by
  obtain ⟨fd, F⟩ := c.m.d.def_ 40 (d := D40) rfl
  have F : FunD K "_law_given" "_law_given" (defArgs (top 60)) (defBody (top 60)) (defScope (top 60)) [] [] (He.ga K "_law_given") fd := F
  refine ⟨_, fd, N40, ["term", "names"], _, _, _, _, _, _, F, sc40, rfl, cf40, He.glo_ok X G (c.m.d.fact 40 (f := .glo "_law_given") rfl), fun m ks pl hs => ?_⟩
  have hs := mem_shp hs
  have e : shp cc.shapes 40 = ([(2, [], [])] : List (Nat × List Str × List Pl)) := rfl
  rw [e] at hs
  simp only [List.mem_cons, List.not_mem_nil, or_false, Prod.mk.injEq] at hs
  rcases hs with ⟨rfl, rfl, rfl⟩
  · exact bg_plain F rfl fun kV doc pm an cdv ct us hl => match us, hl with | [u0, u1], _ => rfl
theorem sc41 : FnScope N41 ["term", "digits"] (defScope (top 61)) := ⟨rfl, rfl, rfl, by decide +kernel, rfl, by decide +kernel, by decide +kernel⟩
theorem cf41 : prg.fns[41]? = some (compF cc 40 40 N41 (defScope (top 61)) (defBody (top 61))) := by kernel_rfl
theorem df41 (X : K.In h) (G : h.Ns mainGlobals mg) (c : SaysX fal fnl bsl isl ivl exl K) : DefOk K mg 41 "_law_row" 2 := by
  obtain ⟨fd, F⟩ := c.m.d.def_ 41 (d := D41) rfl
  have F : FunD K "_law_row" "_law_row" (defArgs (top 61)) (defBody (top 61)) (defScope (top 61)) [] [] (He.ga K "_law_row") fd := F
  refine ⟨_, fd, N41, ["term", "digits"], _, _, _, _, _, _, F, sc41, rfl, cf41, He.glo_ok X G (c.m.d.fact 41 (f := .glo "_law_row") rfl), fun m ks pl hs => ?_⟩
  have hs := mem_shp hs
  have e : shp cc.shapes 41 = ([(2, [], [])] : List (Nat × List Str × List Pl)) := rfl
  rw [e] at hs
  simp only [List.mem_cons, List.not_mem_nil, or_false, Prod.mk.injEq] at hs
  rcases hs with ⟨rfl, rfl, rfl⟩
  · exact bg_plain F rfl fun kV doc pm an cdv ct us hl => match us, hl with | [u0, u1], _ => rfl
theorem sc42 : FnScope N42 ["term", "digit"] (defScope (top 62)) := ⟨rfl, rfl, rfl, by decide +kernel, rfl, by decide +kernel, by decide +kernel⟩
theorem cf42 : prg.fns[42]? = some (compF cc 40 40 N42 (defScope (top 62)) (defBody (top 62))) := by kernel_rfl
theorem df42 (X : K.In h) (G : h.Ns mainGlobals mg) (c : SaysX fal fnl bsl isl ivl exl K) : DefOk K mg 42 "_law_faults" 2 := by
  obtain ⟨fd, F⟩ := c.m.d.def_ 42 (d := D42) rfl
  have F : FunD K "_law_faults" "_law_faults" (defArgs (top 62)) (defBody (top 62)) (defScope (top 62)) [] [] (He.ga K "_law_faults") fd := F
  refine ⟨_, fd, N42, ["term", "digit"], _, _, _, _, _, _, F, sc42, rfl, cf42, He.glo_ok X G (c.m.d.fact 42 (f := .glo "_law_faults") rfl), fun m ks pl hs => ?_⟩
  have hs := mem_shp hs
  have e : shp cc.shapes 42 = ([(2, [], [])] : List (Nat × List Str × List Pl)) := rfl
  rw [e] at hs
  simp only [List.mem_cons, List.not_mem_nil, or_false, Prod.mk.injEq] at hs
  rcases hs with ⟨rfl, rfl, rfl⟩
  · exact bg_plain F rfl fun kV doc pm an cdv ct us hl => match us, hl with | [u0, u1], _ => rfl
theorem sc43 : FnScope N43 ["many"] (defScope (top 63)) := ⟨rfl, rfl, rfl, by decide +kernel, rfl, by decide +kernel, by decide +kernel⟩
theorem cf43 : prg.fns[43]? = some (compF cc 40 40 N43 (defScope (top 63)) (defBody (top 63))) := by kernel_rfl
theorem df43 (X : K.In h) (G : h.Ns mainGlobals mg) (c : SaysX fal fnl bsl isl ivl exl K) : DefOk K mg 43 "_law_nest" 1 := by
  obtain ⟨fd, F⟩ := c.m.d.def_ 43 (d := D43) rfl
  have F : FunD K "_law_nest" "_law_nest" (defArgs (top 63)) (defBody (top 63)) (defScope (top 63)) [] [] (He.ga K "_law_nest") fd := F
  refine ⟨_, fd, N43, ["many"], _, _, _, _, _, _, F, sc43, rfl, cf43, He.glo_ok X G (c.m.d.fact 43 (f := .glo "_law_nest") rfl), fun m ks pl hs => ?_⟩
  have hs := mem_shp hs
  have e : shp cc.shapes 43 = ([(1, [], [])] : List (Nat × List Str × List Pl)) := rfl
  rw [e] at hs
  simp only [List.mem_cons, List.not_mem_nil, or_false, Prod.mk.injEq] at hs
  rcases hs with ⟨rfl, rfl, rfl⟩
  · exact bg_plain F rfl fun kV doc pm an cdv ct us hl => match us, hl with | [u0], _ => rfl
theorem sc44 : FnScope N44 ["script"] (defScope (top 64)) := ⟨rfl, rfl, rfl, by decide +kernel, rfl, by decide +kernel, by decide +kernel⟩
theorem cf44 : prg.fns[44]? = some (compF cc 40 40 N44 (defScope (top 64)) (defBody (top 64))) := by kernel_rfl
theorem df44 (X : K.In h) (G : h.Ns mainGlobals mg) (c : SaysX fal fnl bsl isl ivl exl K) : DefOk K mg 44 "law" 1 := by
  obtain ⟨fd, F⟩ := c.m.d.def_ 44 (d := D44) rfl
  have F : FunD K "law" "law" (defArgs (top 64)) (defBody (top 64)) (defScope (top 64)) [] [] (He.ga K "law") fd := F
  refine ⟨_, fd, N44, ["script"], _, _, _, _, _, _, F, sc44, rfl, cf44, He.glo_ok X G (c.m.d.fact 44 (f := .glo "law") rfl), fun m ks pl hs => ?_⟩
  have hs := mem_shp hs
  have e : shp cc.shapes 44 = ([] : List (Nat × List Str × List Pl)) := rfl
  rw [e] at hs
  cases hs
theorem defs (X : K.In h) (G : h.Ns mainGlobals mg) (c : SaysX fal fnl bsl isl ivl exl K) : Defs PR w K mg base (Cx K) cc prg 40 40 where
  fns := fun i x np hi => match i, hi with
    | 0, hi => by cases hi; exact df0 X G c
    | 1, hi => by cases hi; exact df1 X G c
    | 2, hi => by cases hi; exact df2 X G c
    | 3, hi => by cases hi; exact df3 X G c
    | 4, hi => by cases hi; exact df4 X G c
    | 5, hi => by cases hi; exact df5 X G c
    | 6, hi => by cases hi; exact df6 X G c
    | 7, hi => by cases hi; exact df7 X G c
    | 8, hi => by cases hi; exact df8 X G c
    | 9, hi => by cases hi; exact df9 X G c
    | 10, hi => by cases hi; exact df10 X G c
    | 11, hi => by cases hi; exact df11 X G c
    | 12, hi => by cases hi; exact df12 X G c
    | 13, hi => by cases hi; exact df13 X G c
    | 14, hi => by cases hi; exact df14 X G c
    | 15, hi => by cases hi; exact df15 X G c
    | 16, hi => by cases hi; exact df16 X G c
    | 17, hi => by cases hi; exact df17 X G c
    | 18, hi => by cases hi; exact df18 X G c
    | 19, hi => by cases hi; exact df19 X G c
    | 20, hi => by cases hi; exact df20 X G c
    | 21, hi => by cases hi; exact df21 X G c
    | 22, hi => by cases hi; exact df22 X G c
    | 23, hi => by cases hi; exact df23 X G c
    | 24, hi => by cases hi; exact df24 X G c
    | 25, hi => by cases hi; exact df25 X G c
    | 26, hi => by cases hi; exact df26 X G c
    | 27, hi => by cases hi; exact df27 X G c
    | 28, hi => by cases hi; exact df28 X G c
    | 29, hi => by cases hi; exact df29 X G c
    | 30, hi => by cases hi; exact df30 X G c
    | 31, hi => by cases hi; exact df31 X G c
    | 32, hi => by cases hi; exact df32 X G c
    | 33, hi => by cases hi; exact df33 X G c
    | 34, hi => by cases hi; exact df34 X G c
    | 35, hi => by cases hi; exact df35 X G c
    | 36, hi => by cases hi; exact df36 X G c
    | 37, hi => by cases hi; exact df37 X G c
    | 38, hi => by cases hi; exact df38 X G c
    | 39, hi => by cases hi; exact df39 X G c
    | 40, hi => by cases hi; exact df40 X G c
    | 41, hi => by cases hi; exact df41 X G c
    | 42, hi => by cases hi; exact df42 X G c
    | 43, hi => by cases hi; exact df43 X G c
    | 44, hi => by cases hi; exact df44 X G c
    | n + 45, hi => by cases hi
  cons := fun x d hx => by
    simp only [cc, List.mem_cons, List.not_mem_nil, or_false, Prod.mk.injEq] at hx
    rcases hx with ⟨rfl, rfl⟩ | ⟨rfl, rfl⟩ | ⟨rfl, rfl⟩ | ⟨rfl, rfl⟩
    · obtain ⟨t, e⟩ := He.int_ok X G (c.m.d.fact 62 (f := .int "LONGEST" 8) rfl); exact ⟨.int 8, _, e, ⟨t, rfl⟩, fun F => .int _⟩
    · obtain ⟨t, e⟩ := He.int_ok X G (c.m.d.fact 63 (f := .int "MOST_NODES" 60) rfl); exact ⟨.int 60, _, e, ⟨t, rfl⟩, fun F => .int _⟩
    · obtain ⟨u, e, r⟩ := txtB_ok (x := "LETTERS") (z := "abcdefghijklmnopqrstuvwxyz") ((He.ba (He.ba (He.ba (He.ba (He.ba c.more).2).2).2).2).1) X G; exact ⟨.str "abcdefghijklmnopqrstuvwxyz", u, e, r, fun F => .str _⟩
    · obtain ⟨u, e, r⟩ := txtB_ok (x := "DIGITS") (z := "0123456789") ((He.ba (He.ba (He.ba (He.ba (He.ba (He.ba c.more).2).2).2).2).2).1) X G; exact ⟨.str "0123456789", u, e, r, fun F => .str _⟩
  blt := fun x hx => by
    simp only [bNames, List.mem_cons, List.not_mem_nil, or_false] at hx
    rcases hx with rfl | rfl | rfl | rfl | rfl | rfl | rfl | rfl | rfl | rfl | rfl | rfl | rfl | rfl | rfl | rfl | rfl
    · exact He.free_ok X G (c.m.d.fact 45 (f := .free "len") rfl)
    · exact He.free_ok X G (c.m.d.fact 46 (f := .free "int") rfl)
    · exact He.free_ok X G (c.m.d.fact 47 (f := .free "str") rfl)
    · exact He.free_ok X G (c.m.d.fact 48 (f := .free "abs") rfl)
    · exact He.free_ok X G (c.m.d.fact 49 (f := .free "max") rfl)
    · exact He.free_ok X G (c.m.d.fact 50 (f := .free "min") rfl)
    · exact He.free_ok X G (c.m.d.fact 51 (f := .free "list") rfl)
    · exact He.free_ok X G (c.m.d.fact 52 (f := .free "tuple") rfl)
    · exact He.free_ok X G (c.m.d.fact 53 (f := .free "range") rfl)
    · exact He.free_ok X G (c.m.d.fact 54 (f := .free "isinstance") rfl)
    · exact He.free_ok X G (c.m.d.fact 55 (f := .free "bool") rfl)
    · exact He.free_ok X G (c.m.d.fact 56 (f := .free "dict") rfl)
    · exact He.free_ok X G (c.m.d.fact 57 (f := .free "zip") rfl)
    · exact He.free_ok X G (c.m.d.fact 58 (f := .free "all") rfl)
    · exact He.free_ok X G (c.m.d.fact 59 (f := .free "sorted") rfl)
    · exact He.free_ok X G (c.m.d.fact 60 (f := .free "enumerate") rfl)
    · exact He.free_ok X G (c.m.d.fact 61 (f := .free "super") rfl)
  combs := fun x hx => by
    simp only [cc, List.mem_cons, List.not_mem_nil, or_false] at hx
  exc := fun x hx => by
    simp only [cc, List.mem_cons, List.not_mem_nil, or_false] at hx
    rcases hx with rfl | rfl | rfl
    · exact exc_mk (P := PR) (w := w) X G (c.m.d.fact 68 (f := .glo "BadNames") rfl) (c.m.d.fact 71 (f := .exc "BadNames") rfl) (by decide +kernel)
    · exact exc_mk (P := PR) (w := w) X G (c.m.d.fact 69 (f := .glo "TooLarge") rfl) (c.m.d.fact 72 (f := .exc "TooLarge") rfl) (by decide +kernel)
    · exact exc_mk (P := PR) (w := w) X G (c.m.d.fact 70 (f := .glo "NotReady") rfl) (c.m.d.fact 73 (f := .exc "NotReady") rfl) (by decide +kernel)
  excF := fun x f hx => by
    simp only [cc, List.mem_cons, List.not_mem_nil, or_false, Prod.mk.injEq] at hx
    rcases hx with ⟨rfl, rfl⟩ | ⟨rfl, rfl⟩ | ⟨rfl, rfl⟩ | ⟨rfl, rfl⟩
    · exact exc_mkF (P := PR) (w := w) X G (c.m.d.fact 64 (f := .glo "BadName") rfl) (Sup.txt_ok ((He.ba c.more).1) Sup.bd_name (fun env => ⟨_, rfl⟩) (c.iw (i := 0) (x := "BadName") rfl rfl)) (He.free_ok X G (c.m.d.fact 61 (f := .free "super") rfl)) (by decide +kernel) (by decide +kernel)
    · exact exc_mkF (P := PR) (w := w) X G (c.m.d.fact 65 (f := .glo "Repeated") rfl) (Sup.txt_ok ((He.ba (He.ba c.more).2).1) Sup.bd_name (fun env => ⟨_, rfl⟩) (c.iw (i := 1) (x := "Repeated") rfl rfl)) (He.free_ok X G (c.m.d.fact 61 (f := .free "super") rfl)) (by decide +kernel) (by decide +kernel)
    · exact exc_mkF (P := PR) (w := w) X G (c.m.d.fact 66 (f := .glo "Unused") rfl) (Sup.txt_ok ((He.ba (He.ba (He.ba c.more).2).2).1) Sup.bd_name (fun env => ⟨_, rfl⟩) (c.iw (i := 2) (x := "Unused") rfl rfl)) (He.free_ok X G (c.m.d.fact 61 (f := .free "super") rfl)) (by decide +kernel) (by decide +kernel)
    · exact exc_mkF (P := PR) (w := w) X G (c.m.d.fact 67 (f := .glo "UnknownName") rfl) (Sup.txt_ok ((He.ba (He.ba (He.ba (He.ba c.more).2).2).2).1) Sup.bd_name (fun env => ⟨_, rfl⟩) (c.iw (i := 3) (x := "UnknownName") rfl rfl)) (He.free_ok X G (c.m.d.fact 61 (f := .free "super") rfl)) (by decide +kernel) (by decide +kernel)
  xc := fun _ => xcB_ok ((He.ba (He.ba (He.ba (He.ba (He.ba (He.ba c.more).2).2).2).2).2).2)
end
abbrev R : PySem.W.OpenRow := PySem.W.OpenLaw.row PySem.Challenge.rw_kindstellterms_k90_loose_terms_and_steps
abbrev hk : PySem.W.Hook := hookX 4 fal fnl bsl isl ivl exl
def ob (s : PySem.W.SharedT) : AlX := obsXG 4 fal fnl bsl isl exl (HandSHeadRun.getT s)
theorem ob_eq (s : PySem.W.SharedT) : ob s = hk.obs s.abs := obsXG_eq (HandSHeadRun.getT_eq s)
def loose0 : List PySem.Str := ["DrawnonceError", "NameFault", "BadName", "Repeated", "Unused", "UnknownName", "BadNames", "TooLarge", "NotReady", "LETTERS", "DIGITS", "LONGEST", "is_name", "fresh_names", "MOST_NODES", "below", "parts", "size", "free_names", "renamed", "replaced", "put_in", "check_names", "ready_nodes", "stepped", "normal", "check_loose_part", "check_loose", "thrown_names", "given_names"]
def loose1 : List PySem.Str := ["loose_canonical", "loose_stepped", "step_loose", "normal_loose", "_law_cell", "_law_at", "_law_digits", "_law_same", "_law_name", "_law_joined", "_law_shuffled", "_law_nodes", "_law_parts", "_law_canonical", "_law_put", "_law_stepped", "_law_end", "_law_sized", "_law_loose", "_law_spots", "_law_done", "_law_checked", "_law_refused", "_law_given", "_law_row", "_law_faults", "_law_nest"]
def loose : List PySem.Str := loose0 ++ loose1
abbrev qv : Program := PySem.W.view R.prog [64]
theorem run (w : World) : HandSHeadRun.RunEq R qv hk ob 6000 loose w := by
  intro os
  kernel_rfl
theorem facts {w : World} {K : PySem.W.Frag} {h : Heap} {mg : Str → Option Value} {f : Addr} (X : K.In h) (G : h.Ns mainGlobals mg) (hfa : mg ("law" : Str) = some (.ref f)) (c : SaysX fal fnl bsl isl ivl exl K) :
    ∃ fd : FuncData, (∀ (s : Shared) (v : Value), BindsTo s fd ⟨[v], []⟩ [("script", v)]) ∧ ∀ (n : Nat) (base : Heap), FnOk PR w K mg base (L2.CX PR w) n f fd ["script"] (Phi ⟨K, PR, w⟩ (Cx K) 1 (prg.run n 44)) := by
  obtain ⟨fd, F⟩ := c.m.d.def_ 44 (d := D44) rfl
  have F : FunD K "law" "law" (defArgs (top 64)) (defBody (top 64)) (defScope (top 64)) [] [] (He.ga K "law") fd := F
  have e := hfa.symm.trans (He.glo_ok X G (c.m.d.fact 44 (f := .glo "law") rfl))
  cases e
  have b := FunD.bindsA (ps := ["script"]) F fun _ _ _ _ _ _ us hl => match us, hl with | [_], _ => rfl
  refine ⟨fd, fun s v => b s [v] rfl, fun n base => ?_⟩
  cases n with
  | zero =>
    refine ⟨fun vs H Q E z => z.len, fun A outer s H args us vs Q E hr he hb hv hs => ?_⟩
    obtain ⟨F, own, M, as, hl, c, ha, hm⟩ := hs
    exact hm.elim
  | succ n => exact fn_ok ((defs (w := w) (base := base) X G c).fa n) F sc44 cf44
theorem holds_of (law_true : ∀ ns : List Int, ns.length ≤ 63 → ∃ M, prg.run 140 44 [.d (.rol (ns.map .int))] [] = .ok (.d (.bl true)) M) (hw : PySem.Challenge.rw_kindstellterms_k90_loose_terms_and_steps.row.toRowW.promised) : R.Holds := by
  refine HandSHeadRun.head_any (r := R) (q := qv) (H := hk) (ob := ob) (M := 6000) (loose := loose) (d := HandSHeadRun.topDef R.prog 64) (kwd := []) ob_eq
    (by kernel_rfl) (fun s => by kernel_rfl) run (by kernel_rfl) (by kernel_rfl) (by kernel_rfl) (by rfl) (by first | assumption | decide +kernel) (by decide +kernel) ⟨rfl, rfl, rfl, rfl, rfl, by decide +kernel⟩ hw ?hc
  case hc =>
    refine walk_M (l := PySem.Challenge.rw_kindstellterms_k90_loose_terms_and_steps) (n := 63) (k := 140) (x := "script") rfl (by decide) (by kernel_rfl) ⟨rfl, by decide, by decide⟩ ?F
    intro w mg fa h Y G hmg0
    obtain ⟨K, KX, c⟩ := Y
    have hmg : mg ("law" : PySem.Str) = some (.ref fa) := by
      have e : (HandSHeadRun.topDef R.prog 64).name = ("law" : PySem.Str) := by kernel_rfl
      rw [← e]
      exact hmg0
    obtain ⟨fd, hb, hF⟩ := facts (w := w) KX G hmg c
    exact ⟨K, fd, Phi ⟨K, PR, w⟩ (Cx K) 1 (prg.run 140 44), KX, hb, fun H a ns hl hS => law_phi hS (law_true ns hl), fun base _ _ => hF 140 base⟩
end K90

set_option Elab.async false
set_option linter.all false
set_option maxRecDepth 100000
/-! Mq 1: the extended language's equations, for simp; printed by mkq.py. -/
namespace Mini
open PySem PySem.Spec L2
/-- the readings as something opaque: whatever keeps these equations -/
structure Mi where
  ev : W → E → List A → List O → R A
  evT : W → E → List A → List O → R Bool
  evs : W → List E → List A → List O → R (List A)
  evA : W → List E → List A → List O → R Bool
  exS : W → S → List A → List O → RS
  exs : W → List S → List A → List O → RS
  ev_var' : ∀ {w : W} {δ : List A} {M : List O} {i : Nat}, ev w (.var i) δ M = match δ[i]? with
    | some (.un) => .no
    | some a => .ok a M
    | none => .no
  ev_cst' : ∀ {w : W} {δ : List A} {M : List O} {x : D}, ev w (.cst x) δ M = .ok (.d x) M
  ev_bin' : ∀ {w : W} {δ : List A} {M : List O} {o : Bin} {a b : E}, ev w (.bin o a b) δ M = (ev w a δ M).bind fun x M1 => (ev w b δ M1).bind fun y M2 => bin o x y M2
  ev_neg' : ∀ {w : W} {δ : List A} {M : List O} {a : E}, ev w (.neg a) δ M = (ev w a δ M).bind fun x M1 => match x with
    | .d (.int i) => .ok (.d (.int (-i))) M1
    | _ => .no
  ev_cmp' : ∀ {w : W} {δ : List A} {M : List O} {o : Cmp} {a b : E}, ev w (.cmp o a b) δ M = (ev w a δ M).bind fun x M1 => (ev w b δ M1).bind fun y M2 => cmpR o x y M2
  ev_chn' : ∀ {w : W} {δ : List A} {M : List O} {o p : Cmp} {a b c : E}, ev w (.chn o p a b c) δ M = (ev w a δ M).bind fun x M1 => (ev w b δ M1).bind fun y M2 => match cmp o x y M2 with
    | some true => (ev w c δ M2).bind fun z M3 => cmpR p y z M3
    | some false => .ok (.d (.bl false)) M2
    | none => .no
  ev_nt' : ∀ {w : W} {δ : List A} {M : List O} {a : E}, ev w (.nt a) δ M = (ev w a δ M).bind fun x M1 => match tru M1 x with
    | some k => .ok (.d (.bl (!k))) M1
    | none => .no
  ev_an' : ∀ {w : W} {δ : List A} {M : List O} {a b : E}, ev w (.an a b) δ M = (ev w a δ M).bind fun x M1 => match tru M1 x with
    | some true => ev w b δ M1
    | some false => .ok x M1
    | none => .no
  ev_orr' : ∀ {w : W} {δ : List A} {M : List O} {a b : E}, ev w (.orr a b) δ M = (ev w a δ M).bind fun x M1 => match tru M1 x with
    | some true => .ok x M1
    | some false => ev w b δ M1
    | none => .no
  ev_ifx' : ∀ {w : W} {δ : List A} {M : List O} {t a b : E}, ev w (.ifx t a b) δ M = (evT w t δ M).bind fun k M1 => if k then ev w a δ M1 else ev w b δ M1
  ev_tup' : ∀ {w : W} {δ : List A} {M : List O} {es : List E}, ev w (.tup es) δ M = (evs w es δ M).bind fun as M1 => tupA M1 as
  ev_lst' : ∀ {w : W} {δ : List A} {M : List O} {es : List E}, ev w (.lst es) δ M = (evs w es δ M).bind fun as M1 => mkL M1 as
  ev_ix' : ∀ {w : W} {δ : List A} {M : List O} {a b : E}, ev w (.ix a b) δ M = (ev w a δ M).bind fun x M1 => (ev w b δ M1).bind fun y M2 => ixA M2 x y
  ev_sl' : ∀ {w : W} {δ : List A} {M : List O} {bl bh : Bool} {a lo hi : E}, ev w (.sl bl bh a lo hi) δ M = (ev w a δ M).bind fun x M1 => (ev w lo δ M1).bind fun l M2 => match part bl l with
    | some l => (ev w hi δ M2).bind fun u M3 => (match part bh u with
      | some u => slA M3 x l u
      | none => .no)
    | none => .no
  ev_call' : ∀ {w : W} {δ : List A} {M : List O} {f : Nat} {es ks : List E} {pl : List Pl}, ev w (.call f es ks pl) δ M = (evs w es δ M).bind fun as M1 => (evs w ks δ M1).bind fun bs M2 => pcall (w.run f) (fill A.d pl (as ++ bs)) M2
  ev_mcall' : ∀ {w : W} {δ : List A} {M : List O} {f : Nat} {es ks : List E} {pl : List Pl}, ev w (.mcall f es ks pl) δ M = (evs w es δ M).bind fun as M1 => (evs w ks δ M1).bind fun bs M2 => w.run f (fill A.d pl (as ++ bs)) M2
  ev_bi' : ∀ {w : W} {δ : List A} {M : List O} {b : Bi} {es : List E}, ev w (.bi b es) δ M = (evs w es δ M).bind fun as M1 => bi b as M1
  ev_mt' : ∀ {w : W} {δ : List A} {M : List O} {m : Mt} {a : E} {es : List E}, ev w (.mt m a es) δ M = (ev w a δ M).bind fun x M1 => if rcv m M1 x then (evs w es δ M1).bind fun as M2 => mt m x as M2 else .no
  ev_isi' : ∀ {w : W} {δ : List A} {M : List O} {a : E} {ts : List Ty}, ev w (.isi a ts) δ M = (ev w a δ M).bind fun x M1 => match tyOf M1 x with
    | some t => .ok (.d (.bl (ts.any fun u => t.sub u))) M1
    | none => .no
  ev_comp' : ∀ {w : W} {δ : List A} {M : List O} {elt : E} {tg : Tg} {k : IK} {its ifs : List E} {own : List Nat}, ev w (.comp elt tg k its ifs own) δ M = compR tg k own (evs w its) (evA w ifs) (ev w elt) δ M
  ev_scomp' : ∀ {w : W} {δ : List A} {M : List O} {elt : E} {tg : Tg} {k : IK} {its ifs : List E} {own : List Nat}, ev w (.scomp elt tg k its ifs own) δ M = setR tg k own (evs w its) (evA w ifs) (ev w elt) δ M
  ev_dcomp' : ∀ {w : W} {δ : List A} {M : List O} {ky vl : E} {tg : Tg} {k : IK} {its ifs : List E} {own : List Nat}, ev w (.dcomp ky vl tg k its ifs own) δ M = dctR tg k own (evs w its) (evA w ifs) (ev w ky) (ev w vl) δ M
  ev_attr' : ∀ {w : W} {δ : List A} {M : List O} {a : E} {f : Str}, ev w (.attr a f) δ M = (ev w a δ M).bind fun x M1 => attA M1 f x
  ev_new' : ∀ {w : W} {δ : List A} {M : List O} {c : Str} {f : Nat} {es : List E}, ev w (.new c f es) δ M = (evs w es δ M).bind fun as M1 => newA (w.run f) c as M1
  ev_meth' : ∀ {w : W} {δ : List A} {M : List O} {c m : Str} {f : Nat} {o : E} {es : List E}, ev w (.meth c m f o es) δ M = (ev w o δ M).bind fun x M1 => if isOb M1 c m x then (evs w es δ M1).bind fun as M2 => w.run f (x :: as) M2 else .no
  ev_dnew' : ∀ {w : W} {δ : List A} {M : List O} , ev w .dnew δ M = .ok (.cell M.length) (M ++ [.dct []])
  ev_dget' : ∀ {w : W} {δ : List A} {M : List O} {d k x : E}, ev w (.dget d k x) δ M = (ev w d δ M).bind fun a M1 => if (dcv M1 a).isSome then (ev w k δ M1).bind fun b M2 => (ev w x δ M2).bind fun c M3 => dgtA M3 a b c else .no
  ev_dpop' : ∀ {w : W} {δ : List A} {M : List O} {d k : E}, ev w (.dpop d k) δ M = (ev w d δ M).bind fun a M1 => if (dcv M1 a).isSome then (ev w k δ M1).bind fun b M2 => dppA M2 a b else .no
  ev_dzip' : ∀ {w : W} {δ : List A} {M : List O} {a b : E}, ev w (.dzip a b) δ M = (ev w a δ M).bind fun x M1 => (ev w b δ M1).bind fun y M2 => dzpA M2 x y
  ev_rev' : ∀ {w : W} {δ : List A} {M : List O} {a : E}, ev w (.rev a) δ M = (ev w a δ M).bind fun x M1 => revA M1 x
  ev_lrg' : ∀ {w : W} {δ : List A} {M : List O} {k : IK} {its : List E}, ev w (.lrg k its) δ M = (evs w its δ M).bind fun as M1 => lrgA k as M1
  ev_kix' : ∀ {w : W} {δ : List A} {M : List O} {tb : List (Str × D)} {a : E}, ev w (.kix tb a) δ M = (ev w a δ M).bind fun x M1 => kixA tb M1 x
  evs_nil' : ∀ {w : W} {δ : List A} {M : List O} , evs w [] δ M = .ok [] M
  evs_cons' : ∀ {w : W} {δ : List A} {M : List O} {e : E} {r : List E}, evs w (e :: r) δ M = (ev w e δ M).bind fun x M1 => (evs w r δ M1).bind fun xs M2 => .ok (x :: xs) M2
  evA_nil' : ∀ {w : W} {δ : List A} {M : List O} , evA w [] δ M = .ok true M
  evA_cons' : ∀ {w : W} {δ : List A} {M : List O} {e : E} {r : List E}, evA w (e :: r) δ M = evT w e δ M
  evT_nt' : ∀ {w : W} {δ : List A} {M : List O} {a : E}, evT w (.nt a) δ M = (evT w a δ M).bind fun k M1 => .ok (!k) M1
  evT_an' : ∀ {w : W} {δ : List A} {M : List O} {a b : E}, evT w (.an a b) δ M = (evT w a δ M).bind fun k M1 => if k then evT w b δ M1 else .ok false M1
  evT_orr' : ∀ {w : W} {δ : List A} {M : List O} {a b : E}, evT w (.orr a b) δ M = (evT w a δ M).bind fun k M1 => if k then .ok true M1 else evT w b δ M1
  evT_ifx' : ∀ {w : W} {δ : List A} {M : List O} {t a b : E}, evT w (.ifx t a b) δ M = (evT w t δ M).bind fun k M1 => if k then evT w a δ M1 else evT w b δ M1
  evT_var' : ∀ {w : W} {δ : List A} {M : List O} {i : Nat}, evT w (.var i) δ M = (ev w (.var i) δ M).bind fun x M1 => match tru M1 x with
    | some k => .ok k M1
    | none => .no
  evT_cst' : ∀ {w : W} {δ : List A} {M : List O} {x : D}, evT w (.cst x) δ M = (ev w (.cst x) δ M).bind fun x M1 => match tru M1 x with
    | some k => .ok k M1
    | none => .no
  evT_cmp' : ∀ {w : W} {δ : List A} {M : List O} {o : Cmp} {a b : E}, evT w (.cmp o a b) δ M = (ev w (.cmp o a b) δ M).bind fun x M1 => match tru M1 x with
    | some k => .ok k M1
    | none => .no
  evT_chn' : ∀ {w : W} {δ : List A} {M : List O} {o p : Cmp} {a b c : E}, evT w (.chn o p a b c) δ M = (ev w (.chn o p a b c) δ M).bind fun x M1 => match tru M1 x with
    | some k => .ok k M1
    | none => .no
  evT_isi' : ∀ {w : W} {δ : List A} {M : List O} {a : E} {ts : List Ty}, evT w (.isi a ts) δ M = (ev w (.isi a ts) δ M).bind fun x M1 => match tru M1 x with
    | some k => .ok k M1
    | none => .no
  evT_call' : ∀ {w : W} {δ : List A} {M : List O} {f : Nat} {es ks : List E} {pl : List Pl}, evT w (.call f es ks pl) δ M = (ev w (.call f es ks pl) δ M).bind fun x M1 => match tru M1 x with
    | some k => .ok k M1
    | none => .no
  evT_mcall' : ∀ {w : W} {δ : List A} {M : List O} {f : Nat} {es ks : List E} {pl : List Pl}, evT w (.mcall f es ks pl) δ M = (ev w (.mcall f es ks pl) δ M).bind fun x M1 => match tru M1 x with
    | some k => .ok k M1
    | none => .no
  evT_dget' : ∀ {w : W} {δ : List A} {M : List O} {d k x : E}, evT w (.dget d k x) δ M = (ev w (.dget d k x) δ M).bind fun x M1 => match tru M1 x with
    | some k => .ok k M1
    | none => .no
  evT_attr' : ∀ {w : W} {δ : List A} {M : List O} {a : E} {f : Str}, evT w (.attr a f) δ M = (ev w (.attr a f) δ M).bind fun x M1 => match tru M1 x with
    | some k => .ok k M1
    | none => .no
  evT_meth' : ∀ {w : W} {δ : List A} {M : List O} {c m : Str} {f : Nat} {o : E} {es : List E}, evT w (.meth c m f o es) δ M = (ev w (.meth c m f o es) δ M).bind fun x M1 => match tru M1 x with
    | some k => .ok k M1
    | none => .no
  evT_ix' : ∀ {w : W} {δ : List A} {M : List O} {a b : E}, evT w (.ix a b) δ M = (ev w (.ix a b) δ M).bind fun x M1 => match tru M1 x with
    | some k => .ok k M1
    | none => .no
  evT_bin' : ∀ {w : W} {δ : List A} {M : List O} {o : Bin} {a b : E}, evT w (.bin o a b) δ M = (ev w (.bin o a b) δ M).bind fun x M1 => match tru M1 x with
    | some k => .ok k M1
    | none => .no
  evT_bi' : ∀ {w : W} {δ : List A} {M : List O} {b : Bi} {es : List E}, evT w (.bi b es) δ M = (ev w (.bi b es) δ M).bind fun x M1 => match tru M1 x with
    | some k => .ok k M1
    | none => .no
  evT_comp' : ∀ {w : W} {δ : List A} {M : List O} {elt : E} {tg : Tg} {k : IK} {its ifs : List E} {own : List Nat}, evT w (.comp elt tg k its ifs own) δ M = (ev w (.comp elt tg k its ifs own) δ M).bind fun x M1 => match tru M1 x with
    | some k => .ok k M1
    | none => .no
  exs_nil' : ∀ {w : W} {δ : List A} {M : List O} , exs w [] δ M = .nx δ M
  exs_cons' : ∀ {w : W} {δ : List A} {M : List O} {s : S} {r : List S}, exs w (s :: r) δ M = (exS w s δ M).andThen fun δ1 M1 => exs w r δ1 M1
  exS_asg' : ∀ {w : W} {δ : List A} {M : List O} {tg : Tg} {e : E}, exS w (.asg tg e) δ M = (ev w e δ M).toS δ fun a M1 => match setTg tg a δ with
    | some δ1 => .nx δ1 M1
    | none => .no
  exS_aug' : ∀ {w : W} {δ : List A} {M : List O} {i : Nat} {o : Bin} {e : E}, exS w (.aug i o e) δ M = augF i o (ev w e) δ M
  exS_ex' : ∀ {w : W} {δ : List A} {M : List O} {e : E}, exS w (.ex e) δ M = (ev w e δ M).toS δ fun _ M1 => .nx δ M1
  exS_ret' : ∀ {w : W} {δ : List A} {M : List O} {e : E}, exS w (.ret e) δ M = (ev w e δ M).toS δ fun a M1 => .rt a M1
  exS_retN' : ∀ {w : W} {δ : List A} {M : List O} , exS w .retN δ M = .rt (.d .non) M
  exS_if' : ∀ {w : W} {δ : List A} {M : List O} {t : E} {a b : List S}, exS w (.ifS t a b) δ M = (evT w t δ M).toS δ fun k M1 => if k then exs w a δ M1 else exs w b δ M1
  exS_for' : ∀ {w : W} {δ : List A} {M : List O} {tg : Tg} {k : IK} {its : List E} {body : List S}, exS w (.forS tg k its body) δ M = (evs w its δ M).toS δ fun as M1 => match items k as M1 with
    | some (xs, M2) => forR tg (exs w body) xs δ M2
    | none => .no
  exS_whl' : ∀ {w : W} {δ : List A} {M : List O} {t : E} {body : List S}, exS w (.whl t body) δ M = whlR (evT w t) (exs w body) w.turns δ M
  exS_pass' : ∀ {w : W} {δ : List A} {M : List O} , exS w .pass δ M = .nx δ M
  exS_brk' : ∀ {w : W} {δ : List A} {M : List O} , exS w .brk δ M = .bk δ M
  exS_cnt' : ∀ {w : W} {δ : List A} {M : List O} , exS w .cnt δ M = .ct δ M
  exS_raise' : ∀ {w : W} {δ : List A} {M : List O} {c : Str}, exS w (.raise c) δ M = .ex ⟨c, []⟩ δ M
  exS_raiseF' : ∀ {w : W} {δ : List A} {M : List O} {c f : Str} {e : E}, exS w (.raiseF c f e) δ M = (ev w e δ M).toS δ fun a M1 => (match a with
    | .d (.str z) => .ex ⟨c, [(f, z)]⟩ δ M1
    | _ => .no)
  exS_tryM' : ∀ {w : W} {δ : List A} {M : List O} {b : List S} {cls : List (Str × XE)}, exS w (.tryM b cls) δ M = match exs w b δ M with
    | .ex x δ1 M1 => clsR w.sub x δ1 M1 cls
    | r => r
  exS_try' : ∀ {w : W} {δ : List A} {M : List O} {b : List S} {c : Str} {u : List S}, exS w (.tryS b c u) δ M = match exs w b δ M with
    | .ex x δ1 M1 => if w.sub x.c c then (exs w u δ1 M1).noX else .ex x δ1 M1
    | r => r
  exS_puti' : ∀ {w : W} {δ : List A} {M : List O} {o i e : E}, exS w (.puti o i e) δ M = (ev w e δ M).toS δ fun v M1 => (ev w o δ M1).toS δ fun a M2 => (ev w i δ M2).toS δ fun b M3 => (match putI M3 a b v with
    | some M4 => .nx δ M4
    | none => .no)
  exS_putf' : ∀ {w : W} {δ : List A} {M : List O} {o : E} {f : Str} {e : E}, exS w (.putf o f e) δ M = (ev w e δ M).toS δ fun v M1 => (ev w o δ M1).toS δ fun a M2 => (match putFd M2 f a v with
    | some M3 => .nx δ M3
    | none => .no)
def mi : Mi where
  ev := Mini.ev
  evT := Mini.evT
  evs := Mini.evs
  evA := Mini.evA
  exS := Mini.exS
  exs := Mini.exs
  ev_var' := rfl
  ev_cst' := rfl
  ev_bin' := rfl
  ev_neg' := rfl
  ev_cmp' := rfl
  ev_chn' := rfl
  ev_nt' := rfl
  ev_an' := rfl
  ev_orr' := rfl
  ev_ifx' := rfl
  ev_tup' := rfl
  ev_lst' := rfl
  ev_ix' := rfl
  ev_sl' := rfl
  ev_call' := rfl
  ev_mcall' := rfl
  ev_bi' := rfl
  ev_mt' := rfl
  ev_isi' := rfl
  ev_comp' := rfl
  ev_scomp' := rfl
  ev_dcomp' := rfl
  ev_attr' := rfl
  ev_new' := rfl
  ev_meth' := rfl
  ev_dnew' := rfl
  ev_dget' := rfl
  ev_dpop' := rfl
  ev_dzip' := rfl
  ev_rev' := rfl
  ev_lrg' := rfl
  ev_kix' := rfl
  evs_nil' := rfl
  evs_cons' := rfl
  evA_nil' := rfl
  evA_cons' := rfl
  evT_nt' := rfl
  evT_an' := rfl
  evT_orr' := rfl
  evT_ifx' := rfl
  evT_var' := rfl
  evT_cst' := rfl
  evT_cmp' := rfl
  evT_chn' := rfl
  evT_isi' := rfl
  evT_call' := rfl
  evT_mcall' := rfl
  evT_dget' := rfl
  evT_attr' := rfl
  evT_meth' := rfl
  evT_ix' := rfl
  evT_bin' := rfl
  evT_bi' := rfl
  evT_comp' := rfl
  exs_nil' := rfl
  exs_cons' := rfl
  exS_asg' := rfl
  exS_aug' := rfl
  exS_ex' := rfl
  exS_ret' := rfl
  exS_retN' := rfl
  exS_if' := rfl
  exS_for' := rfl
  exS_whl' := rfl
  exS_pass' := rfl
  exS_brk' := rfl
  exS_cnt' := rfl
  exS_raise' := rfl
  exS_raiseF' := rfl
  exS_tryM' := rfl
  exS_try' := rfl
  exS_puti' := rfl
  exS_putf' := rfl
section
variable (X : Mi) {w : W} {δ : List A} {M : List O}
@[simp] theorem Mi.ev_var {i : Nat} : X.ev w (.var i) δ M = match δ[i]? with
    | some (.un) => .no
    | some a => .ok a M
    | none => .no := X.ev_var'
@[simp] theorem Mi.ev_cst {x : D} : X.ev w (.cst x) δ M = .ok (.d x) M := X.ev_cst'
@[simp] theorem Mi.ev_bin {o : Bin} {a b : E} : X.ev w (.bin o a b) δ M = (X.ev w a δ M).bind fun x M1 => (X.ev w b δ M1).bind fun y M2 => bin o x y M2 := X.ev_bin'
@[simp] theorem Mi.ev_neg {a : E} : X.ev w (.neg a) δ M = (X.ev w a δ M).bind fun x M1 => match x with
    | .d (.int i) => .ok (.d (.int (-i))) M1
    | _ => .no := X.ev_neg'
@[simp] theorem Mi.ev_cmp {o : Cmp} {a b : E} : X.ev w (.cmp o a b) δ M = (X.ev w a δ M).bind fun x M1 => (X.ev w b δ M1).bind fun y M2 => cmpR o x y M2 := X.ev_cmp'
@[simp] theorem Mi.ev_chn {o p : Cmp} {a b c : E} : X.ev w (.chn o p a b c) δ M = (X.ev w a δ M).bind fun x M1 => (X.ev w b δ M1).bind fun y M2 => match cmp o x y M2 with
    | some true => (X.ev w c δ M2).bind fun z M3 => cmpR p y z M3
    | some false => .ok (.d (.bl false)) M2
    | none => .no := X.ev_chn'
@[simp] theorem Mi.ev_nt {a : E} : X.ev w (.nt a) δ M = (X.ev w a δ M).bind fun x M1 => match tru M1 x with
    | some k => .ok (.d (.bl (!k))) M1
    | none => .no := X.ev_nt'
@[simp] theorem Mi.ev_an {a b : E} : X.ev w (.an a b) δ M = (X.ev w a δ M).bind fun x M1 => match tru M1 x with
    | some true => X.ev w b δ M1
    | some false => .ok x M1
    | none => .no := X.ev_an'
@[simp] theorem Mi.ev_orr {a b : E} : X.ev w (.orr a b) δ M = (X.ev w a δ M).bind fun x M1 => match tru M1 x with
    | some true => .ok x M1
    | some false => X.ev w b δ M1
    | none => .no := X.ev_orr'
@[simp] theorem Mi.ev_ifx {t a b : E} : X.ev w (.ifx t a b) δ M = (X.evT w t δ M).bind fun k M1 => if k then X.ev w a δ M1 else X.ev w b δ M1 := X.ev_ifx'
@[simp] theorem Mi.ev_tup {es : List E} : X.ev w (.tup es) δ M = (X.evs w es δ M).bind fun as M1 => tupA M1 as := X.ev_tup'
@[simp] theorem Mi.ev_lst {es : List E} : X.ev w (.lst es) δ M = (X.evs w es δ M).bind fun as M1 => mkL M1 as := X.ev_lst'
@[simp] theorem Mi.ev_ix {a b : E} : X.ev w (.ix a b) δ M = (X.ev w a δ M).bind fun x M1 => (X.ev w b δ M1).bind fun y M2 => ixA M2 x y := X.ev_ix'
@[simp] theorem Mi.ev_sl {bl bh : Bool} {a lo hi : E} : X.ev w (.sl bl bh a lo hi) δ M = (X.ev w a δ M).bind fun x M1 => (X.ev w lo δ M1).bind fun l M2 => match part bl l with
    | some l => (X.ev w hi δ M2).bind fun u M3 => (match part bh u with
      | some u => slA M3 x l u
      | none => .no)
    | none => .no := X.ev_sl'
@[simp] theorem Mi.ev_call {f : Nat} {es ks : List E} {pl : List Pl} : X.ev w (.call f es ks pl) δ M = (X.evs w es δ M).bind fun as M1 => (X.evs w ks δ M1).bind fun bs M2 => pcall (w.run f) (fill A.d pl (as ++ bs)) M2 := X.ev_call'
@[simp] theorem Mi.ev_mcall {f : Nat} {es ks : List E} {pl : List Pl} : X.ev w (.mcall f es ks pl) δ M = (X.evs w es δ M).bind fun as M1 => (X.evs w ks δ M1).bind fun bs M2 => w.run f (fill A.d pl (as ++ bs)) M2 := X.ev_mcall'
@[simp] theorem Mi.ev_bi {b : Bi} {es : List E} : X.ev w (.bi b es) δ M = (X.evs w es δ M).bind fun as M1 => bi b as M1 := X.ev_bi'
@[simp] theorem Mi.ev_mt {m : Mt} {a : E} {es : List E} : X.ev w (.mt m a es) δ M = (X.ev w a δ M).bind fun x M1 => if rcv m M1 x then (X.evs w es δ M1).bind fun as M2 => mt m x as M2 else .no := X.ev_mt'
@[simp] theorem Mi.ev_isi {a : E} {ts : List Ty} : X.ev w (.isi a ts) δ M = (X.ev w a δ M).bind fun x M1 => match tyOf M1 x with
    | some t => .ok (.d (.bl (ts.any fun u => t.sub u))) M1
    | none => .no := X.ev_isi'
@[simp] theorem Mi.ev_comp {elt : E} {tg : Tg} {k : IK} {its ifs : List E} {own : List Nat} : X.ev w (.comp elt tg k its ifs own) δ M = compR tg k own (X.evs w its) (X.evA w ifs) (X.ev w elt) δ M := X.ev_comp'
@[simp] theorem Mi.ev_scomp {elt : E} {tg : Tg} {k : IK} {its ifs : List E} {own : List Nat} : X.ev w (.scomp elt tg k its ifs own) δ M = setR tg k own (X.evs w its) (X.evA w ifs) (X.ev w elt) δ M := X.ev_scomp'
@[simp] theorem Mi.ev_dcomp {ky vl : E} {tg : Tg} {k : IK} {its ifs : List E} {own : List Nat} : X.ev w (.dcomp ky vl tg k its ifs own) δ M = dctR tg k own (X.evs w its) (X.evA w ifs) (X.ev w ky) (X.ev w vl) δ M := X.ev_dcomp'
@[simp] theorem Mi.ev_attr {a : E} {f : Str} : X.ev w (.attr a f) δ M = (X.ev w a δ M).bind fun x M1 => attA M1 f x := X.ev_attr'
@[simp] theorem Mi.ev_new {c : Str} {f : Nat} {es : List E} : X.ev w (.new c f es) δ M = (X.evs w es δ M).bind fun as M1 => newA (w.run f) c as M1 := X.ev_new'
@[simp] theorem Mi.ev_meth {c m : Str} {f : Nat} {o : E} {es : List E} : X.ev w (.meth c m f o es) δ M = (X.ev w o δ M).bind fun x M1 => if isOb M1 c m x then (X.evs w es δ M1).bind fun as M2 => w.run f (x :: as) M2 else .no := X.ev_meth'
@[simp] theorem Mi.ev_dnew  : X.ev w .dnew δ M = .ok (.cell M.length) (M ++ [.dct []]) := X.ev_dnew'
@[simp] theorem Mi.ev_dget {d k x : E} : X.ev w (.dget d k x) δ M = (X.ev w d δ M).bind fun a M1 => if (dcv M1 a).isSome then (X.ev w k δ M1).bind fun b M2 => (X.ev w x δ M2).bind fun c M3 => dgtA M3 a b c else .no := X.ev_dget'
@[simp] theorem Mi.ev_dpop {d k : E} : X.ev w (.dpop d k) δ M = (X.ev w d δ M).bind fun a M1 => if (dcv M1 a).isSome then (X.ev w k δ M1).bind fun b M2 => dppA M2 a b else .no := X.ev_dpop'
@[simp] theorem Mi.ev_dzip {a b : E} : X.ev w (.dzip a b) δ M = (X.ev w a δ M).bind fun x M1 => (X.ev w b δ M1).bind fun y M2 => dzpA M2 x y := X.ev_dzip'
@[simp] theorem Mi.ev_rev {a : E} : X.ev w (.rev a) δ M = (X.ev w a δ M).bind fun x M1 => revA M1 x := X.ev_rev'
@[simp] theorem Mi.ev_lrg {k : IK} {its : List E} : X.ev w (.lrg k its) δ M = (X.evs w its δ M).bind fun as M1 => lrgA k as M1 := X.ev_lrg'
@[simp] theorem Mi.ev_kix {tb : List (Str × D)} {a : E} : X.ev w (.kix tb a) δ M = (X.ev w a δ M).bind fun x M1 => kixA tb M1 x := X.ev_kix'
@[simp] theorem Mi.evs_nil  : X.evs w [] δ M = .ok [] M := X.evs_nil'
@[simp] theorem Mi.evs_cons {e : E} {r : List E} : X.evs w (e :: r) δ M = (X.ev w e δ M).bind fun x M1 => (X.evs w r δ M1).bind fun xs M2 => .ok (x :: xs) M2 := X.evs_cons'
@[simp] theorem Mi.evA_nil  : X.evA w [] δ M = .ok true M := X.evA_nil'
@[simp] theorem Mi.evA_cons {e : E} {r : List E} : X.evA w (e :: r) δ M = X.evT w e δ M := X.evA_cons'
@[simp] theorem Mi.evT_nt {a : E} : X.evT w (.nt a) δ M = (X.evT w a δ M).bind fun k M1 => .ok (!k) M1 := X.evT_nt'
@[simp] theorem Mi.evT_an {a b : E} : X.evT w (.an a b) δ M = (X.evT w a δ M).bind fun k M1 => if k then X.evT w b δ M1 else .ok false M1 := X.evT_an'
@[simp] theorem Mi.evT_orr {a b : E} : X.evT w (.orr a b) δ M = (X.evT w a δ M).bind fun k M1 => if k then .ok true M1 else X.evT w b δ M1 := X.evT_orr'
@[simp] theorem Mi.evT_ifx {t a b : E} : X.evT w (.ifx t a b) δ M = (X.evT w t δ M).bind fun k M1 => if k then X.evT w a δ M1 else X.evT w b δ M1 := X.evT_ifx'
@[simp] theorem Mi.evT_var {i : Nat} : X.evT w (.var i) δ M = (X.ev w (.var i) δ M).bind fun x M1 => match tru M1 x with
    | some k => .ok k M1
    | none => .no := X.evT_var'
@[simp] theorem Mi.evT_cst {x : D} : X.evT w (.cst x) δ M = (X.ev w (.cst x) δ M).bind fun x M1 => match tru M1 x with
    | some k => .ok k M1
    | none => .no := X.evT_cst'
@[simp] theorem Mi.evT_cmp {o : Cmp} {a b : E} : X.evT w (.cmp o a b) δ M = (X.ev w (.cmp o a b) δ M).bind fun x M1 => match tru M1 x with
    | some k => .ok k M1
    | none => .no := X.evT_cmp'
@[simp] theorem Mi.evT_chn {o p : Cmp} {a b c : E} : X.evT w (.chn o p a b c) δ M = (X.ev w (.chn o p a b c) δ M).bind fun x M1 => match tru M1 x with
    | some k => .ok k M1
    | none => .no := X.evT_chn'
@[simp] theorem Mi.evT_isi {a : E} {ts : List Ty} : X.evT w (.isi a ts) δ M = (X.ev w (.isi a ts) δ M).bind fun x M1 => match tru M1 x with
    | some k => .ok k M1
    | none => .no := X.evT_isi'
@[simp] theorem Mi.evT_call {f : Nat} {es ks : List E} {pl : List Pl} : X.evT w (.call f es ks pl) δ M = (X.ev w (.call f es ks pl) δ M).bind fun x M1 => match tru M1 x with
    | some k => .ok k M1
    | none => .no := X.evT_call'
@[simp] theorem Mi.evT_mcall {f : Nat} {es ks : List E} {pl : List Pl} : X.evT w (.mcall f es ks pl) δ M = (X.ev w (.mcall f es ks pl) δ M).bind fun x M1 => match tru M1 x with
    | some k => .ok k M1
    | none => .no := X.evT_mcall'
@[simp] theorem Mi.evT_dget {d k x : E} : X.evT w (.dget d k x) δ M = (X.ev w (.dget d k x) δ M).bind fun x M1 => match tru M1 x with
    | some k => .ok k M1
    | none => .no := X.evT_dget'
@[simp] theorem Mi.evT_attr {a : E} {f : Str} : X.evT w (.attr a f) δ M = (X.ev w (.attr a f) δ M).bind fun x M1 => match tru M1 x with
    | some k => .ok k M1
    | none => .no := X.evT_attr'
@[simp] theorem Mi.evT_meth {c m : Str} {f : Nat} {o : E} {es : List E} : X.evT w (.meth c m f o es) δ M = (X.ev w (.meth c m f o es) δ M).bind fun x M1 => match tru M1 x with
    | some k => .ok k M1
    | none => .no := X.evT_meth'
@[simp] theorem Mi.evT_ix {a b : E} : X.evT w (.ix a b) δ M = (X.ev w (.ix a b) δ M).bind fun x M1 => match tru M1 x with
    | some k => .ok k M1
    | none => .no := X.evT_ix'
@[simp] theorem Mi.evT_bin {o : Bin} {a b : E} : X.evT w (.bin o a b) δ M = (X.ev w (.bin o a b) δ M).bind fun x M1 => match tru M1 x with
    | some k => .ok k M1
    | none => .no := X.evT_bin'
@[simp] theorem Mi.evT_bi {b : Bi} {es : List E} : X.evT w (.bi b es) δ M = (X.ev w (.bi b es) δ M).bind fun x M1 => match tru M1 x with
    | some k => .ok k M1
    | none => .no := X.evT_bi'
@[simp] theorem Mi.evT_comp {elt : E} {tg : Tg} {k : IK} {its ifs : List E} {own : List Nat} : X.evT w (.comp elt tg k its ifs own) δ M = (X.ev w (.comp elt tg k its ifs own) δ M).bind fun x M1 => match tru M1 x with
    | some k => .ok k M1
    | none => .no := X.evT_comp'
@[simp] theorem Mi.exs_nil  : X.exs w [] δ M = .nx δ M := X.exs_nil'
@[simp] theorem Mi.exs_cons {s : S} {r : List S} : X.exs w (s :: r) δ M = (X.exS w s δ M).andThen fun δ1 M1 => X.exs w r δ1 M1 := X.exs_cons'
@[simp] theorem Mi.exS_asg {tg : Tg} {e : E} : X.exS w (.asg tg e) δ M = (X.ev w e δ M).toS δ fun a M1 => match setTg tg a δ with
    | some δ1 => .nx δ1 M1
    | none => .no := X.exS_asg'
@[simp] theorem Mi.exS_aug {i : Nat} {o : Bin} {e : E} : X.exS w (.aug i o e) δ M = augF i o (X.ev w e) δ M := X.exS_aug'
@[simp] theorem Mi.exS_ex {e : E} : X.exS w (.ex e) δ M = (X.ev w e δ M).toS δ fun _ M1 => .nx δ M1 := X.exS_ex'
@[simp] theorem Mi.exS_ret {e : E} : X.exS w (.ret e) δ M = (X.ev w e δ M).toS δ fun a M1 => .rt a M1 := X.exS_ret'
@[simp] theorem Mi.exS_retN  : X.exS w .retN δ M = .rt (.d .non) M := X.exS_retN'
@[simp] theorem Mi.exS_if {t : E} {a b : List S} : X.exS w (.ifS t a b) δ M = (X.evT w t δ M).toS δ fun k M1 => if k then X.exs w a δ M1 else X.exs w b δ M1 := X.exS_if'
@[simp] theorem Mi.exS_for {tg : Tg} {k : IK} {its : List E} {body : List S} : X.exS w (.forS tg k its body) δ M = (X.evs w its δ M).toS δ fun as M1 => match items k as M1 with
    | some (xs, M2) => forR tg (X.exs w body) xs δ M2
    | none => .no := X.exS_for'
@[simp] theorem Mi.exS_whl {t : E} {body : List S} : X.exS w (.whl t body) δ M = whlR (X.evT w t) (X.exs w body) w.turns δ M := X.exS_whl'
@[simp] theorem Mi.exS_pass  : X.exS w .pass δ M = .nx δ M := X.exS_pass'
@[simp] theorem Mi.exS_brk  : X.exS w .brk δ M = .bk δ M := X.exS_brk'
@[simp] theorem Mi.exS_cnt  : X.exS w .cnt δ M = .ct δ M := X.exS_cnt'
@[simp] theorem Mi.exS_raise {c : Str} : X.exS w (.raise c) δ M = .ex ⟨c, []⟩ δ M := X.exS_raise'
@[simp] theorem Mi.exS_raiseF {c f : Str} {e : E} : X.exS w (.raiseF c f e) δ M = (X.ev w e δ M).toS δ fun a M1 => (match a with
    | .d (.str z) => .ex ⟨c, [(f, z)]⟩ δ M1
    | _ => .no) := X.exS_raiseF'
@[simp] theorem Mi.exS_tryM {b : List S} {cls : List (Str × XE)} : X.exS w (.tryM b cls) δ M = match X.exs w b δ M with
    | .ex x δ1 M1 => clsR w.sub x δ1 M1 cls
    | r => r := X.exS_tryM'
@[simp] theorem Mi.exS_try {b : List S} {c : Str} {u : List S} : X.exS w (.tryS b c u) δ M = match X.exs w b δ M with
    | .ex x δ1 M1 => if w.sub x.c c then (X.exs w u δ1 M1).noX else .ex x δ1 M1
    | r => r := X.exS_try'
@[simp] theorem Mi.exS_puti {o i e : E} : X.exS w (.puti o i e) δ M = (X.ev w e δ M).toS δ fun v M1 => (X.ev w o δ M1).toS δ fun a M2 => (X.ev w i δ M2).toS δ fun b M3 => (match putI M3 a b v with
    | some M4 => .nx δ M4
    | none => .no) := X.exS_puti'
@[simp] theorem Mi.exS_putf {o : E} {f : Str} {e : E} : X.exS w (.putf o f e) δ M = (X.ev w e δ M).toS δ fun v M1 => (X.ev w o δ M1).toS δ fun a M2 => (match putFd M2 f a v with
    | some M3 => .nx δ M3
    | none => .no) := X.exS_putf'
end
end Mini

set_option Elab.async false
set_option linter.all false
set_option maxRecDepth 100000
/-! Mq 2: values and the store, for simp. -/
namespace Mq
open PySem PySem.Spec L2 Mini
/-- a def's run, the readings opaque -/
def _root_.Mini.Mi.go (X : Mi) (f : Fn) (w : W) (as : List A) (M : List O) : R A := match X.exs w f.body (as ++ List.replicate (f.loc - as.length) .un) M with
  | .nx _ M1 => .ok (.d .non) M1
  | .rt a M1 => .ok a M1
  | .ex x _ M1 => .ex x M1
  | _ => .no
theorem mi_go (f : Fn) (w : W) (as : List A) (M : List O) : f.go w as M = mi.go f w as M := rfl
theorem _root_.Mini.Prg.run_eq (p : Prg) (n i : Nat) (fn : Fn) (h : p.fns[i]? = some fn) (as : List A) (M : List O) : p.run (n + 1) i as M = mi.go fn ⟨p.run n, p.sub, p.turns⟩ as M := by
  rw [← mi_go]
  show (match p.fns[i]? with
    | some fn => fn.go ⟨p.run n, p.sub, p.turns⟩ as M
    | none => .no) = _
  rw [h]
/-- lists of data -/
def ad (ds : List D) : List A := ds.map A.d
theorem ad_def (ds : List D) : ds.map A.d = ad ds := rfl
def sd (xs : List Str) : List D := xs.map D.str
def nd (xs : List Nat) : List D := xs.map fun (n : Nat) => D.int (n : Int)
@[simp] theorem ad_len (ds : List D) : (ad ds).length = ds.length := by simp [ad]
@[simp] theorem sd_len (xs : List Str) : (sd xs).length = xs.length := by simp [sd]
@[simp] theorem nd_len (xs : List Nat) : (nd xs).length = xs.length := by simp [nd]
@[simp] theorem ad_app (xs ys : List D) : ad xs ++ ad ys = ad (xs ++ ys) := by simp [ad]
@[simp] theorem sd_app (xs ys : List Str) : sd xs ++ sd ys = sd (xs ++ ys) := by simp [sd]
@[simp] theorem nd_app (xs ys : List Nat) : nd xs ++ nd ys = nd (xs ++ ys) := by simp [nd]
@[simp] theorem ad_app1 (xs : List D) (x : D) : ad xs ++ [A.d x] = ad (xs ++ [x]) := by simp [ad]
@[simp] theorem sd_app1 (xs : List Str) (x : Str) : sd xs ++ [D.str x] = sd (xs ++ [x]) := by simp [sd]
@[simp] theorem ad_get (ds : List D) (i : Nat) : (ad ds)[i]? = (ds[i]?).map A.d := by simp [ad]
@[simp] theorem sd_get (ds : List Str) (i : Nat) : (sd ds)[i]? = (ds[i]?).map D.str := by simp [sd]
@[simp] theorem ad_last (ds : List D) : (ad ds).getLast? = ds.getLast?.map A.d := by simp [ad]
@[simp] theorem sd_last (ds : List Str) : (sd ds).getLast? = ds.getLast?.map D.str := by simp [sd]
@[simp] theorem ad_getE (ds : List D) (i : Nat) (h : i < (ad ds).length) : (ad ds)[i] = A.d (ds[i]'(by simpa using h)) := by simp [ad]
@[simp] theorem sd_getE (ds : List Str) (i : Nat) (h : i < (sd ds).length) : (sd ds)[i] = D.str (ds[i]'(by simpa using h)) := by simp [sd]
@[simp] theorem nd_getE (ds : List Nat) (i : Nat) (h : i < (nd ds).length) : (nd ds)[i] = D.int ((ds[i]'(by simpa using h) : Nat) : Int) := by simp [nd]
@[simp] theorem nd_get (ds : List Nat) (i : Nat) : (nd ds)[i]? = (ds[i]?).map fun (n : Nat) => D.int (n : Int) := by simp [nd]
@[simp] theorem ad_empty (ds : List D) : (ad ds).isEmpty = ds.isEmpty := by cases ds <;> rfl
@[simp] theorem ad_reverse (ds : List D) : (ad ds).reverse = ad ds.reverse := by simp [ad]
@[simp] theorem ad_take (ds : List D) (n : Nat) : (ad ds).take n = ad (ds.take n) := by simp [ad]
@[simp] theorem ad_drop (ds : List D) (n : Nat) : (ad ds).drop n = ad (ds.drop n) := by simp [ad]
@[simp] theorem ad_dropLast (ds : List D) : (ad ds).dropLast = ad ds.dropLast := by simp [ad]
@[simp] theorem ad_eraseIdx (ds : List D) (n : Nat) : (ad ds).eraseIdx n = ad (ds.eraseIdx n) := by
  unfold ad
  induction ds generalizing n with
  | nil => rfl
  | cons d r ih => cases n with
    | zero => rfl
    | succ n => simp [ih]
@[simp] theorem ad_set (ds : List D) (n : Nat) (d : D) : (ad ds).set n (.d d) = ad (ds.set n d) := by simp [ad]
theorem atI_map' {α β : Type} (f : α → β) (xs : List α) (i : Int) : atI (xs.map f) i = (atI xs i).map f := by
  unfold atI
  rw [List.length_map]
  cases ixN xs.length i with
  | none => rfl
  | some j => simp [List.getElem?_map]
@[simp] theorem atI_nat' {α : Type} (xs : List α) (i : Nat) : atI xs (i : Int) = xs[i]? := by
  unfold atI ixN
  by_cases h : i < xs.length
  · rw [if_pos (by omega), if_pos (by omega)]
    simp
  · rw [if_pos (by omega), if_neg (by omega)]
    rw [List.getElem?_eq_none (by omega)]
    rfl
theorem atI_zero' {α : Type} (xs : List α) : atI xs 0 = xs[0]? := atI_nat' xs 0
@[simp] theorem atI_neg {α : Type} (xs : List α) (x : α) : atI (xs ++ [x]) (-1) = some x := atI_last xs x
@[simp] theorem atI_0 {α : Type} (xs : List α) : atI xs 0 = xs[0]? := atI_zero' xs
@[simp] theorem atI_ad (ds : List D) (i : Int) : atI (ad ds) i = (atI ds i).map A.d := atI_map' _ _ _
@[simp] theorem atI_sd (ds : List Str) (i : Int) : atI (sd ds) i = (atI ds i).map D.str := atI_map' _ _ _
/-- a number's text -/
def num (i : Int) : Str := ((toString i : String) : Str)
def okNum (i : Int) : Bool := decide (i.natAbs.log2 < 1920)
theorem okNum_of {i : Int} (h : i.natAbs ≤ 1000) : okNum i = true := by
  unfold okNum
  rw [decide_eq_true_eq]
  have : i.natAbs.log2 ≤ i.natAbs := Nat.log2_le_self _
  omega
/-! ### freezing, reading -/
section
variable {M : List O} {n : Nat} {f : List O → A → Option (D × List O)}
@[simp] theorem frz_d {k : Nat} {x : D} : frz k M (.d x) = some (x, M) := by cases k <;> rfl
@[simp] theorem frzL_nil : frzL f M [] = some ([], M) := rfl
@[simp] theorem frzL_cons {a : A} {r : List A} : frzL f M (a :: r) = match f M a with
    | some (x, M1) => (match frzL f M1 r with
      | some (xs, M2) => some (x :: xs, M2)
      | none => none)
    | none => none := rfl
@[simp] theorem frzL_ad {k : Nat} : ∀ {ds : List D}, frzL (frz k) M (ad ds) = some (ds, M)
  | [] => rfl
  | x :: r => by
    show frzL (frz k) M (A.d x :: ad r) = _
    rw [frzL_cons, frz_d]
    simp only
    rw [frzL_ad]
@[simp] theorem frz8 : frz 8 M (.cell n) = match M[n]? with
    | some (.frz x) => some (x, M)
    | some (.lst xs) => (match frzL (frz 7) M xs with
      | some (ds, M1) => (match M1[n]? with
        | some (.lst _) => some (.lst ds, M1.set n (.frz (.lst ds)))
        | _ => none)
      | none => none)
    | _ => none := rfl
@[simp] theorem den_d {k : Nat} {x : D} : den k M (.d x) = some x := by cases k <;> rfl
@[simp] theorem denL_nil {g : A → Option D} : denL g [] = some [] := rfl
@[simp] theorem denL_cons {g : A → Option D} {a : A} {r : List A} : denL g (a :: r) = match g a, denL g r with
    | some x, some xs => some (x :: xs)
    | _, _ => none := rfl
@[simp] theorem denL_ad {k : Nat} : ∀ {ds : List D}, denL (den k M) (ad ds) = some ds
  | [] => rfl
  | x :: r => by
    show denL (den k M) (A.d x :: ad r) = _
    rw [denL_cons, den_d, denL_ad]
@[simp] theorem den8 : den 8 M (.cell n) = match M[n]? with
    | some (.frz x) => some x
    | some (.lst xs) => (match denL (den 7 M) xs with
      | some ds => some (.lst ds)
      | none => none)
    | _ => none := rfl
@[simp] theorem lsv_cell : lsv M (.cell n) = match M[n]? with
    | some (.lst xs) => some xs
    | some (.frz (.lst ds)) => some (ad ds)
    | _ => none := rfl
@[simp] theorem lsv_lst {ds : List D} : lsv M (.d (.lst ds)) = some (ad ds) := rfl
@[simp] theorem lsv_rol {ds : List D} : lsv M (.d (.rol ds)) = some (ad ds) := rfl
@[simp] theorem lsv_tup {ds : List D} : lsv M (.d (.tup ds)) = none := rfl
@[simp] theorem lsv_str {x : Str} : lsv M (.d (.str x)) = none := rfl
@[simp] theorem lsw_cell : lsw M (.cell n) = match M[n]? with
    | some (.lst xs) => some xs
    | some (.frz (.lst ds)) => some (ad ds)
    | _ => none := rfl
@[simp] theorem lsw_lst {ds : List D} : lsw M (.d (.lst ds)) = some (ad ds) := rfl
@[simp] theorem dcv_cell : dcv M (.cell n) = match M[n]? with
    | some (.dct kvs) => some kvs
    | some (.lck kvs) => some kvs
    | _ => none := rfl
@[simp] theorem dcv_d {x : D} : dcv M (.d x) = none := rfl
@[simp] theorem stv_cell : stv M (.cell n) = match M[n]? with
    | some (.set ks) => some ks
    | _ => none := rfl
@[simp] theorem stv_d {x : D} : stv M (.d x) = none := rfl
@[simp] theorem tlv_cell : tlv M (.cell n) = match M[n]? with
    | some (.tpl xs) => some xs
    | _ => none := rfl
@[simp] theorem tlv_d {x : D} : tlv M (.d x) = none := rfl
/-! making -/
@[simp] theorem newL_eq {xs : List A} : newL M xs = .ok (.cell M.length) (M ++ [.lst xs]) := rfl
@[simp] theorem mkL_ad {ds : List D} : mkL M (ad ds) = if ds.length ≤ sizeLine then .ok (.cell M.length) (M ++ [.lst (ad ds)]) else .no := by
  unfold mkL
  rw [ad_len]
  rfl
@[simp] theorem mkL_0 : mkL M [] = .ok (.cell M.length) (M ++ [.lst (ad [])]) := rfl
@[simp] theorem mkL_1 {x : D} : mkL M [.d x] = .ok (.cell M.length) (M ++ [.lst (ad [x])]) := rfl
@[simp] theorem mkL_2 {x y : D} : mkL M [.d x, .d y] = .ok (.cell M.length) (M ++ [.lst (ad [x, y])]) := rfl
@[simp] theorem mkL_5 {x y z u v : D} : mkL M [.d x, .d y, .d z, .d u, .d v] = .ok (.cell M.length) (M ++ [.lst (ad [x, y, z, u, v])]) := rfl
@[simp] theorem tupA_ad {ds : List D} : tupA M (ad ds) = if ds.length ≤ sizeLine then .ok (.d (.tup ds)) M else .no := by
  unfold tupA
  rw [frzL_ad]
@[simp] theorem tupA_2 {x y : D} : tupA M [.d x, .d y] = .ok (.d (.tup [x, y])) M := rfl
@[simp] theorem tupA_3 {x y z : D} : tupA M [.d x, .d y, .d z] = .ok (.d (.tup [x, y, z])) M := rfl
/-! numbers, texts -/
@[simp] theorem bin_add {i j : Int} : bin .add (.d (.int i)) (.d (.int j)) M = .ok (.d (.int (i + j))) M := rfl
@[simp] theorem bin_sub {i j : Int} : bin .sub (.d (.int i)) (.d (.int j)) M = .ok (.d (.int (i - j))) M := rfl
@[simp] theorem bin_mul {i j : Int} : bin .mul (.d (.int i)) (.d (.int j)) M = if okMul i j then .ok (.d (.int (i * j))) M else .no := rfl
@[simp] theorem bin_fdv {i j : Int} : bin .fdv (.d (.int i)) (.d (.int j)) M = if okDiv j then .ok (.d (.int (i / j))) M else .no := rfl
@[simp] theorem bin_mod {i j : Int} : bin .mod (.d (.int i)) (.d (.int j)) M = if 0 < j then .ok (.d (.int (i % j))) M else .no := rfl
@[simp] theorem bin_adds {x y : Str} : bin .add (.d (.str x)) (.d (.str y)) M = if x.length + y.length ≤ sizeLine then .ok (.d (.str (x ++ y))) M else .no := rfl
@[simp] theorem bin_addL {m : Nat} : bin .add (.cell n) (.cell m) M = match lsw M (.cell n), lsw M (.cell m) with
    | some xs, some ys => mkL M (xs ++ ys)
    | _, _ => .no := rfl
@[simp] theorem bin_addL2 {ds : List D} : bin .add (.d (.lst ds)) (.cell n) M = match lsw M (.cell n) with
    | some ys => mkL M (ad ds ++ ys)
    | _ => .no := by
  show (match lsw M (.d (.lst ds)), lsw M (.cell n) with
    | some xs, some ys => mkL M (xs ++ ys)
    | _, _ => .no) = _
  rw [lsw_lst]
  split
  · rename_i e1 e2
    cases e1
    rw [e2]
  · rename_i e1
    cases h : lsw M (.cell n) with
    | none => rfl
    | some y => exact absurd h (e1 _ _ rfl)
@[simp] theorem bin_addL4 {ds es : List D} : bin .add (.d (.lst ds)) (.d (.lst es)) M = mkL M (ad (ds ++ es)) := by
  show mkL M (ad ds ++ ad es) = _
  rw [ad_app]
@[simp] theorem cmpR_lt {i j : Int} : cmpR .lt (.d (.int i)) (.d (.int j)) M = .ok (.d (.bl (decide (i < j)))) M := rfl
@[simp] theorem cmpR_le {i j : Int} : cmpR .le (.d (.int i)) (.d (.int j)) M = .ok (.d (.bl (decide (i ≤ j)))) M := rfl
@[simp] theorem cmpR_gt {i j : Int} : cmpR .gt (.d (.int i)) (.d (.int j)) M = .ok (.d (.bl (decide (j < i)))) M := rfl
@[simp] theorem cmpR_ge {i j : Int} : cmpR .ge (.d (.int i)) (.d (.int j)) M = .ok (.d (.bl (decide (j ≤ i)))) M := rfl
@[simp] theorem cmpR_eq {i j : Int} : cmpR .eq (.d (.int i)) (.d (.int j)) M = .ok (.d (.bl (i == j))) M := rfl
@[simp] theorem cmpR_ne {i j : Int} : cmpR .ne (.d (.int i)) (.d (.int j)) M = .ok (.d (.bl (!(i == j)))) M := rfl
@[simp] theorem cmpR_eqs {x y : Str} : cmpR .eq (.d (.str x)) (.d (.str y)) M = .ok (.d (.bl (x == y))) M := rfl
@[simp] theorem cmpR_nes {x y : Str} : cmpR .ne (.d (.str x)) (.d (.str y)) M = .ok (.d (.bl (!(x == y)))) M := rfl
@[simp] theorem cmpR_eqb {x y : Bool} : cmpR .eq (.d (.bl x)) (.d (.bl y)) M = .ok (.d (.bl (x == y))) M := rfl
@[simp] theorem cmpR_neb {x y : Bool} : cmpR .ne (.d (.bl x)) (.d (.bl y)) M = .ok (.d (.bl (!(x == y)))) M := rfl
@[simp] theorem cmp_le {i j : Int} : cmp .le (.d (.int i)) (.d (.int j)) M = some (decide (i ≤ j)) := rfl
@[simp] theorem isN_non : cmpR .isN (.d .non) (.d .non) M = .ok (.d (.bl true)) M := rfl
@[simp] theorem isN_tup {ds : List D} : cmpR .isN (.d (.tup ds)) (.d .non) M = .ok (.d (.bl false)) M := rfl
@[simp] theorem isN_lst {ds : List D} : cmpR .isN (.d (.lst ds)) (.d .non) M = .ok (.d (.bl false)) M := rfl
@[simp] theorem isN_int {i : Int} : cmpR .isN (.d (.int i)) (.d .non) M = .ok (.d (.bl false)) M := rfl
@[simp] theorem isN_str {x : Str} : cmpR .isN (.d (.str x)) (.d .non) M = .ok (.d (.bl false)) M := rfl
@[simp] theorem isN_bl {b : Bool} : cmpR .isN (.d (.bl b)) (.d .non) M = .ok (.d (.bl false)) M := rfl
@[simp] theorem isN_cell : cmpR .isN (.cell n) (.d .non) M = .ok (.d (.bl false)) M := rfl
@[simp] theorem notN_non : cmpR .notN (.d .non) (.d .non) M = .ok (.d (.bl false)) M := rfl
@[simp] theorem notN_tup {ds : List D} : cmpR .notN (.d (.tup ds)) (.d .non) M = .ok (.d (.bl true)) M := rfl
@[simp] theorem tru_bl {b : Bool} : tru M (.d (.bl b)) = some b := rfl
@[simp] theorem tru_cell : tru M (.cell n) = match lsv M (.cell n) with
    | some xs => some (!xs.isEmpty)
    | none => none := rfl
@[simp] theorem set_one {i : Nat} {a : A} {δ : List A} : setTg (.one i) a δ = some (δ.set i a) := rfl
@[simp] theorem fill_nil {xs : List A} : fill A.d [] xs = xs := rfl
/-! items -/
@[simp] theorem ix_t0 {a : D} {r : List D} : ixA M (.d (.tup (a :: r))) (.d (.int 0)) = .ok (.d a) M := by
  show (match atI (a :: r) ((0 : Nat) : Int) with
    | some x => R.ok (A.d x) M
    | none => .no) = _
  rw [atI_nat']
  rfl
@[simp] theorem ix_t1 {a b : D} {r : List D} : ixA M (.d (.tup (a :: b :: r))) (.d (.int 1)) = .ok (.d b) M := by
  show (match atI (a :: b :: r) ((1 : Nat) : Int) with
    | some x => R.ok (A.d x) M
    | none => .no) = _
  rw [atI_nat']
  rfl
@[simp] theorem ix_t2 {a b c : D} {r : List D} : ixA M (.d (.tup (a :: b :: c :: r))) (.d (.int 2)) = .ok (.d c) M := by
  show (match atI (a :: b :: c :: r) ((2 : Nat) : Int) with
    | some x => R.ok (A.d x) M
    | none => .no) = _
  rw [atI_nat']
  rfl
@[simp] theorem ix_lst {ds : List D} {i : Int} : ixA M (.d (.lst ds)) (.d (.int i)) = match atI ds i with
    | some x => .ok (.d x) M
    | none => .no := by
  show (match atI (ad ds) i with
    | some x => R.ok x M
    | none => .no) = _
  rw [atI_ad]
  cases atI ds i <;> rfl
@[simp] theorem ix_rol {ds : List D} {i : Int} : ixA M (.d (.rol ds)) (.d (.int i)) = match atI ds i with
    | some x => .ok (.d x) M
    | none => .no := by
  show (match atI (ad ds) i with
    | some x => R.ok x M
    | none => .no) = _
  rw [atI_ad]
  cases atI ds i <;> rfl
@[simp] theorem ix_cell {b : A} : ixA M (.cell n) b = match dcv M (.cell n) with
    | some kvs => (match keyA b with
      | some k => (match valA kvs k with
        | some v => .ok v M
        | none => .no)
      | none => .no)
    | none => ixL M (.cell n) b := rfl
@[simp] theorem ixL_cell {i : Int} : ixL M (.cell n) (.d (.int i)) = match lsv M (.cell n) with
    | some xs => (match atI xs i with
        | some x => .ok x M
        | none => .no)
    | none => (match tlv M (.cell n) with
        | some xs => (match atI xs i with
          | some x => .ok x M
          | none => .no)
        | none => .no) := rfl
/-! built-ins, methods -/
@[simp] theorem bi_len_cell : bi .len [.cell n] M = match lsv M (.cell n) with
    | some xs => .ok (.d (.int (xs.length : Nat))) M
    | none => .no := by
  show (match (match lsv M (.cell n) with
    | some xs => some xs.length
    | none => none) with
    | some n => R.ok (A.d (.int (n : Int))) M
    | none => .no) = _
  cases lsv M (.cell n) <;> rfl
@[simp] theorem bi_len_lst {ds : List D} : bi .len [.d (.lst ds)] M = .ok (.d (.int (ds.length : Nat))) M := by
  show R.ok (A.d (.int ((ad ds).length : Nat))) M = _
  rw [ad_len]
@[simp] theorem bi_len_rol {ds : List D} : bi .len [.d (.rol ds)] M = .ok (.d (.int (ds.length : Nat))) M := by
  show R.ok (A.d (.int ((ad ds).length : Nat))) M = _
  rw [ad_len]
@[simp] theorem bi_len_tup {ds : List D} : bi .len [.d (.tup ds)] M = .ok (.d (.int (ds.length : Nat))) M := rfl
@[simp] theorem bi_len_str {x : Str} : bi .len [.d (.str x)] M = if x.length ≤ sizeLine then .ok (.d (.int (x.length : Nat))) M else .no := by
  show (match (if x.length ≤ sizeLine then some x.length else none) with
    | some n => R.ok (A.d (.int (n : Int))) M
    | none => .no) = _
  by_cases h : x.length ≤ sizeLine
  · rw [if_pos h, if_pos h]
  · rw [if_neg h, if_neg h]
@[simp] theorem bi_int {i : Int} : bi .int [.d (.int i)] M = .ok (.d (.int i)) M := rfl
@[simp] theorem bi_abs {i : Int} : bi .abs [.d (.int i)] M = .ok (.d (.int (if i < 0 then -i else i))) M := rfl
@[simp] theorem bi_str {i : Int} : bi .str [.d (.int i)] M = if okNum i = true then .ok (.d (.str (num i))) M else .no := by
  show (if i.natAbs.log2 < 1920 then R.ok (A.d (.str (num i))) M else .no) = _
  unfold okNum
  by_cases h : i.natAbs.log2 < 1920
  · simp [h]
  · simp [h]
@[simp] theorem bi_list_tup {ds : List D} : bi .list [.d (.tup ds)] M = .ok (.cell M.length) (M ++ [.lst (ad ds)]) := rfl
@[simp] theorem bi_list_lst {ds : List D} : bi .list [.d (.lst ds)] M = .ok (.cell M.length) (M ++ [.lst (ad ds)]) := rfl
@[simp] theorem bi_list_cell {xs : List A} (h : lsv M (.cell n) = some xs) : bi .list [.cell n] M = .ok (.cell M.length) (M ++ [.lst xs]) := by
  show (match lsv M (.cell n) with
      | some xs => newL M xs
      | none => _) = _
  rw [h]
  rfl
@[simp] theorem rcv_cell_append : rcv .append M (.cell n) = (lsv M (.cell n)).isSome := rfl
@[simp] theorem rcv_cell_pop : rcv .pop M (.cell n) = (lsv M (.cell n)).isSome := rfl
@[simp] theorem rcv_cell_popi : rcv .popi M (.cell n) = (lsv M (.cell n)).isSome := rfl
@[simp] theorem rcv_cell_extend : rcv .extend M (.cell n) = (lsv M (.cell n)).isSome := rfl
@[simp] theorem rcv_cell_insert : rcv .insert M (.cell n) = (lsv M (.cell n)).isSome := rfl
@[simp] theorem mt_append {y : A} : mt .append (.cell n) [y] M = match M[n]? with
    | some (.lst xs) => if xs.length < sizeLine then .ok (.d .non) (M.set n (.lst (xs ++ [y]))) else .no
    | _ => .no := rfl
@[simp] theorem mt_pop : mt .pop (.cell n) [] M = match M[n]? with
    | some (.lst xs) => (match xs.getLast? with
      | some y => .ok y (M.set n (.lst xs.dropLast))
      | none => .no)
    | _ => .no := by
  show (match M[n]? with
    | some (.lst xs) => (match xs[xs.length - 1]? with
      | some y => R.ok y (M.set n (.lst xs.dropLast))
      | none => .no)
    | _ => .no) = _
  split
  · rw [List.getLast?_eq_getElem?]
  · rfl
@[simp] theorem mt_extend {b : A} : mt .extend (.cell n) [b] M = match M[n]? with
    | some (.lst xs) => (match lsw M b with
      | some ys => if xs.length + ys.length ≤ sizeLine then .ok (.d .non) (M.set n (.lst (xs ++ ys))) else .no
      | none => .no)
    | _ => .no := rfl
@[simp] theorem mt_popi {i : Int} : mt .popi (.cell n) [.d (.int i)] M = match M[n]? with
    | some (.lst xs) => if inR i then (match seqIndex? i xs.length with
      | some k => (match xs[k]? with
        | some y => .ok y (M.set n (.lst (xs.eraseIdx k)))
        | none => .no)
      | none => .no) else .no
    | _ => .no := rfl
@[simp] theorem revA_cell : revA M (.cell n) = match lsv M (.cell n) with
    | some xs => .ok (.cell M.length) (M ++ [.lst xs.reverse])
    | none => .no := rfl
/-! what is walked -/
@[simp] theorem seqIt_cell : seqIt M (.cell n) = match frz 8 M (.cell n) with
    | some (.lst ds, M1) => some (ds, M1)
    | some (.rol ds, M1) => some (ds, M1)
    | _ => none := rfl
@[simp] theorem seqIt_lst {ds : List D} : seqIt M (.d (.lst ds)) = some (ds, M) := rfl
@[simp] theorem seqIt_tup {ds : List D} : seqIt M (.d (.tup ds)) = some (ds, M) := rfl
@[simp] theorem items_seq {a : A} : items .seq [a] M = seqIt M a := rfl
@[simp] theorem items_enum_cell : items .enum [.cell n] M = match seqIt M (.cell n) with
    | some (ds, M1) => some (numD 0 ds, M1)
    | none => none := rfl
@[simp] theorem items_enum_lst {ds : List D} : items .enum [.d (.lst ds)] M = some (numD 0 ds, M) := rfl
@[simp] theorem items_enum_tup {ds : List D} : items .enum [.d (.tup ds)] M = some (numD 0 ds, M) := rfl
@[simp] theorem items_r1 {j : Nat} : items .r1 [.d (.int (j : Int))] M = if inR (j : Int) then some (nd (List.range j), M) else none := by
  show (if inR (j : Int) then some ((List.range (j : Int).toNat).map fun i => D.int (i : Nat), M) else none) = _
  rw [Int.toNat_natCast]
  rfl
end
end Mq

set_option Elab.async false
set_option linter.all false
set_option maxRecDepth 100000
/-! Mq 3: calls, comprehensions, loops. -/
namespace Mq
open PySem PySem.Spec L2 Mini
/-! ### calls -/
/-- what a def gives for data, as data -/
def Ret (run : List A → List O → R A) (ds : List D) : D → Prop
  | .lst xs => ∃ k M2 ys M3 zs, run (ad ds) [] = .ok (.cell k) M2 ∧ M2[k]? = some (.lst ys) ∧ frzL (frz 8) M2 ys = some (xs, M3) ∧ M3[k]? = some (.lst zs)
  | d => ∃ M2, run (ad ds) [] = .ok (.d d) M2
def Exc (run : List A → List O → R A) (ds : List D) (x : Ex) : Prop := ∃ M2, run (ad ds) [] = .ex x M2
section
variable {run : List A → List O → R A} {ds : List D} {M : List O} {as : List A}
theorem Ret.nl {d : D} (h : ∃ M2, run (ad ds) [] = .ok (.d d) M2) (hd : ∀ xs, d ≠ .lst xs) : Ret run ds d := by
  cases d <;> first | exact h | exact absurd rfl (hd _)
theorem Ret.of_lst {k : Nat} {M2 : List O} {xs : List D} (h : run (ad ds) [] = .ok (.cell k) M2) (h2 : M2[k]? = some (.lst (ad xs))) : Ret run ds (.lst xs) := ⟨k, M2, ad xs, M2, ad xs, h, h2, frzL_ad, h2⟩
theorem Ret.sc {d : D} (h : Ret run ds d) (hd : d.isSc = true) (h1 : denL (den 8 M) as = some ds) : pcall run as M = .ok (.d d) M := by
  have h : ∃ M2, run (ad ds) [] = .ok (.d d) M2 := by
    cases d <;> first | exact h | cases hd
  obtain ⟨M2, h⟩ := h
  unfold pcall
  rw [h1]
  simp only
  rw [ad_def, h]
  simp only
  rw [if_pos hd]
theorem Ret.tup {xs : List D} (h : Ret run ds (.tup xs)) (h1 : denL (den 8 M) as = some ds) (h2 : (frzL (frz 8) M as).map Prod.fst = some ds) :
    pcall run as M = match frzL (frz 8) M as with
      | some (_, M1) => .ok (.d (.tup xs)) M1
      | none => .no := by
  obtain ⟨M2, h⟩ := h
  unfold pcall
  rw [h1]
  simp only
  rw [ad_def, h]
  simp only
  rw [if_neg (by simp [D.isSc])]
  unfold pcallF
  revert h2
  cases frzL (frz 8) M as with
  | none => simp
  | some q =>
    obtain ⟨es, M1⟩ := q
    intro h2
    simp at h2
    subst h2
    simp only
    rw [ad_def, h]
    simp [D.isSc]
theorem Ret.lst {xs : List D} (h : Ret run ds (.lst xs)) (h1 : denL (den 8 M) as = some ds) (h2 : (frzL (frz 8) M as).map Prod.fst = some ds) :
    pcall run as M = match frzL (frz 8) M as with
      | some (_, M1) => .ok (.cell M1.length) (M1 ++ [.lst (ad xs)])
      | none => .no := by
  obtain ⟨k, M2, ys, M3, zs, h, e2, e3, e4⟩ := h
  unfold pcall
  rw [h1]
  simp only
  rw [ad_def, h]
  simp only
  unfold pcallF
  revert h2
  cases frzL (frz 8) M as with
  | none => simp
  | some q =>
    obtain ⟨es, M1⟩ := q
    intro h2
    simp at h2
    subst h2
    simp only
    rw [ad_def, h]
    simp only [give]
    rw [e2]
    simp only
    rw [e3]
    simp only
    rw [e4]
    rfl
theorem Exc.call {x : Ex} (h : Exc run ds x) (h1 : denL (den 8 M) as = some ds) : pcall run as M = .ex x M := by
  obtain ⟨M2, h⟩ := h
  unfold pcall
  rw [h1]
  simp only
  rw [ad_def, h]
end
/-! ### comprehensions -/
section
variable {tg : Tg} {δ : List A} {α : Type}
theorem compL_of {n : Nat} {M : List O} {ts : List A → List O → R Bool} {el : List A → List O → R A} (e : α → D) {p : α → Bool} {f : α → D} (hn : n = M.length) :
    ∀ (xs : List α) (acc : List D), (∀ x ∈ xs, ∀ acc : List D, ∃ δ1, setTg tg (.d (e x)) δ = some δ1 ∧ ts δ1 (M ++ [.lst (ad acc)]) = .ok (p x) (M ++ [.lst (ad acc)]) ∧ (p x = true → el δ1 (M ++ [.lst (ad acc)]) = .ok (.d (f x)) (M ++ [.lst (ad acc)]))) →
      acc.length + xs.length ≤ sizeLine → compL n tg δ ts el (xs.map e) (M ++ [.lst (ad acc)]) = .ok () (M ++ [.lst (ad (acc ++ (xs.filter p).map f))])
  | [], acc, _, _ => by simp [compL]
  | x :: r, acc, h, hl => by
    obtain ⟨δ1, e1, e2, e3⟩ := h x (List.mem_cons_self ..) acc
    have hr := fun a => compL_of e (f := f) hn r a (fun y hy => h y (List.mem_cons_of_mem _ hy))
    rw [List.length_cons] at hl
    rw [List.map_cons]
    unfold compL
    rw [e1]
    simp only
    rw [e2]
    cases hp : p x with
    | false =>
      simp only
      rw [hr acc (by omega)]
      simp [hp]
    | true =>
      simp only
      rw [e3 hp]
      simp only
      have e5 : (M ++ [O.lst (ad acc)])[n]? = some (.lst (ad acc)) := by subst hn; simp
      rw [e5]
      simp only
      rw [if_pos (by rw [ad_len]; omega)]
      have e6 : (M ++ [O.lst (ad acc)]).set n (.lst (ad acc ++ [.d (f x)])) = M ++ [.lst (ad (acc ++ [f x]))] := by subst hn; simp
      rw [e6, hr _ (by rw [List.length_append, List.length_singleton]; omega)]
      simp [hp]
theorem compR_of {k : IK} {own : List Nat} {its : List A → List O → R (List A)} {ts : List A → List O → R Bool} {el : List A → List O → R A} {M M1 M2 : List O} {as : List A} {xs : List α} (e : α → D) (p : α → Bool) (f : α → D)
    (h1 : its δ M = .ok as M1) (h2 : items k as M1 = some (xs.map e, M2))
    (h3 : ∀ x ∈ xs, ∀ acc : List D, ∃ δ1, setTg tg (.d (e x)) (wipeA δ own) = some δ1 ∧ ts δ1 (M2 ++ [.lst (ad acc)]) = .ok (p x) (M2 ++ [.lst (ad acc)]) ∧ (p x = true → el δ1 (M2 ++ [.lst (ad acc)]) = .ok (.d (f x)) (M2 ++ [.lst (ad acc)])))
    (h4 : xs.length ≤ sizeLine) : compR tg k own its ts el δ M = .ok (.cell M2.length) (M2 ++ [.lst (ad ((xs.filter p).map f))]) := by
  unfold compR
  rw [h1, R.bind_ok]
  rw [h2]
  simp only
  have := compL_of (tg := tg) (δ := wipeA δ own) (ts := ts) (el := el) e (p := p) (f := f) (M := M2) rfl xs [] h3 (by simpa using h4)
  rw [show ad [] = ([] : List A) from rfl] at this
  rw [this]
  simp
theorem compS_of {n : Nat} {M : List O} {ts : List A → List O → R Bool} {el : List A → List O → R A} (e : α → D) {p : α → Bool} {f : α → Str} (hn : n = M.length) :
    ∀ (xs : List α) (acc : List Key), (∀ x ∈ xs, ∀ acc : List Key, ∃ δ1, setTg tg (.d (e x)) δ = some δ1 ∧ ts δ1 (M ++ [.set acc]) = .ok (p x) (M ++ [.set acc]) ∧ (p x = true → el δ1 (M ++ [.set acc]) = .ok (.d (.str (f x))) (M ++ [.set acc]))) →
      acc.length + xs.length + 1 < scanBound → compS n tg δ ts el (xs.map e) (M ++ [.set acc]) = .ok () (M ++ [.set (((xs.filter p).map fun x => Sum.inr (f x)).reverse ++ acc)])
  | [], acc, _, _ => by simp [compS]
  | x :: r, acc, h, hl => by
    obtain ⟨δ1, e1, e2, e3⟩ := h x (List.mem_cons_self ..) acc
    have hr := fun a => compS_of e (f := f) hn r a (fun y hy => h y (List.mem_cons_of_mem _ hy))
    rw [List.length_cons] at hl
    rw [List.map_cons]
    unfold compS
    rw [e1]
    simp only
    rw [e2]
    cases hp : p x with
    | false =>
      simp only
      rw [hr acc (by omega)]
      simp [hp]
    | true =>
      simp only
      rw [e3 hp]
      simp only
      have e5 : (M ++ [O.set acc])[n]? = some (.set acc) := by subst hn; simp
      rw [e5]
      simp only [keyA, keyD]
      rw [if_pos (by omega)]
      have e6 : (M ++ [O.set acc]).set n (.set (.inr (f x) :: acc)) = M ++ [.set (.inr (f x) :: acc)] := by subst hn; simp
      rw [e6, hr _ (by rw [List.length_cons]; omega)]
      simp [hp]
theorem setR_of {k : IK} {own : List Nat} {its : List A → List O → R (List A)} {ts : List A → List O → R Bool} {el : List A → List O → R A} {M M1 M2 : List O} {as : List A} {xs : List α} (e : α → D) (p : α → Bool) (f : α → Str)
    (h1 : its δ M = .ok as M1) (h2 : items k as M1 = some (xs.map e, M2))
    (h3 : ∀ x ∈ xs, ∀ acc : List Key, ∃ δ1, setTg tg (.d (e x)) (wipeA δ own) = some δ1 ∧ ts δ1 (M2 ++ [.set acc]) = .ok (p x) (M2 ++ [.set acc]) ∧ (p x = true → el δ1 (M2 ++ [.set acc]) = .ok (.d (.str (f x))) (M2 ++ [.set acc])))
    (h4 : xs.length + 1 < scanBound) : setR tg k own its ts el δ M = .ok (.cell M2.length) (M2 ++ [.set ((xs.filter p).map fun x => Sum.inr (f x)).reverse]) := by
  unfold setR
  rw [h1, R.bind_ok]
  rw [h2]
  simp only
  rw [compS_of (tg := tg) (δ := wipeA δ own) (ts := ts) (el := el) e (p := p) (f := f) (M := M2) rfl xs [] h3 (by simpa using h4)]
  simp
theorem compD_of {n : Nat} {M : List O} {ts : List A → List O → R Bool} {ky vl : List A → List O → R A} (e : α → D) {p : α → Bool} {f : α → Str} {g : α → D} (hn : n = M.length) :
    ∀ (xs : List α) (acc : List (Key × A)), (∀ x ∈ xs, ∀ acc : List (Key × A), ∃ δ1, setTg tg (.d (e x)) δ = some δ1 ∧ ts δ1 (M ++ [.dct acc]) = .ok (p x) (M ++ [.dct acc]) ∧ (p x = true → ky δ1 (M ++ [.dct acc]) = .ok (.d (.str (f x))) (M ++ [.dct acc]) ∧ vl δ1 (M ++ [.dct acc]) = .ok (.d (g x)) (M ++ [.dct acc]))) →
      acc.length + xs.length ≤ sizeLine → compD n tg δ ts ky vl (xs.map e) (M ++ [.dct acc]) = .ok () (M ++ [.dct ((xs.filter p).foldl (fun acc x => putA acc (Sum.inr (f x)) (.d (g x))) acc)])
  | [], acc, _, _ => by simp [compD]
  | x :: r, acc, h, hl => by
    obtain ⟨δ1, e1, e2, e3⟩ := h x (List.mem_cons_self ..) acc
    have hr := fun a => compD_of e (f := f) (g := g) hn r a (fun y hy => h y (List.mem_cons_of_mem _ hy))
    rw [List.length_cons] at hl
    rw [List.map_cons]
    unfold compD
    rw [e1]
    simp only
    rw [e2]
    cases hp : p x with
    | false =>
      simp only
      rw [hr acc (by omega)]
      simp [hp]
    | true =>
      simp only
      rw [(e3 hp).1]
      simp only [keyA, keyD]
      rw [(e3 hp).2]
      simp only
      have e5 : (M ++ [O.dct acc])[n]? = some (.dct acc) := by subst hn; simp
      rw [e5]
      simp only
      rw [if_pos (by omega)]
      have e6 : (M ++ [O.dct acc]).set n (.dct (putA acc (.inr (f x)) (.d (g x)))) = M ++ [.dct (putA acc (.inr (f x)) (.d (g x)))] := by subst hn; simp
      have e7 : (putA acc (.inr (f x)) (.d (g x))).length ≤ acc.length + 1 := by
        unfold putA
        split
        · simp
        · simp
      rw [e6, hr _ (by omega)]
      simp [hp]
theorem dctR_of {k : IK} {own : List Nat} {its : List A → List O → R (List A)} {ts : List A → List O → R Bool} {ky vl : List A → List O → R A} {M M1 M2 : List O} {as : List A} {xs : List α} (e : α → D) (p : α → Bool) (f : α → Str) (g : α → D)
    (h1 : its δ M = .ok as M1) (h2 : items k as M1 = some (xs.map e, M2))
    (h3 : ∀ x ∈ xs, ∀ acc : List (Key × A), ∃ δ1, setTg tg (.d (e x)) (wipeA δ own) = some δ1 ∧ ts δ1 (M2 ++ [.dct acc]) = .ok (p x) (M2 ++ [.dct acc]) ∧ (p x = true → ky δ1 (M2 ++ [.dct acc]) = .ok (.d (.str (f x))) (M2 ++ [.dct acc]) ∧ vl δ1 (M2 ++ [.dct acc]) = .ok (.d (g x)) (M2 ++ [.dct acc])))
    (h4 : xs.length ≤ sizeLine) : dctR tg k own its ts ky vl δ M = .ok (.cell M2.length) (M2 ++ [.dct ((xs.filter p).foldl (fun acc x => putA acc (Sum.inr (f x)) (.d (g x))) [])]) := by
  unfold dctR
  rw [h1, R.bind_ok]
  rw [h2]
  simp only
  rw [compD_of (tg := tg) (δ := wipeA δ own) (ts := ts) e (p := p) (f := f) (g := g) (M := M2) rfl xs [] h3 (by simpa using h4)]
@[simp] theorem set_two {i j : Nat} {a b : D} {δ : List A} : setTg (.many [i, j]) (.d (.tup [a, b])) δ = some ((δ.set i (.d a)).set j (.d b)) := rfl
@[simp] theorem wipe_nil {δ : List A} : wipeA δ [] = δ := rfl
@[simp] theorem wipe_cons {δ : List A} {v : Nat} {vs : List Nat} : wipeA δ (v :: vs) = (wipeA δ vs).set v .un := rfl
end
/-! ### in -/
section
variable {M : List O} {n : Nat}
@[simp] theorem cmpR_inn {a b : A} : cmpR .inn a b M = match innA a b M with
    | some k => .ok (.d (.bl k)) M
    | none => .no := rfl
@[simp] theorem cmpR_nin {a b : A} : cmpR .nin a b M = match innA a b M with
    | some k => .ok (.d (.bl (!k))) M
    | none => .no := by
  show (match ninA a b M with
    | some k => R.ok (A.d (.bl k)) M
    | none => .no) = _
  unfold ninA
  cases innA a b M <;> rfl
@[simp] theorem innA_cell {a : A} : innA a (.cell n) M = match dcv M (.cell n) with
    | some kvs => (match keyA a with
      | some k => some (valA kvs k).isSome
      | none => none)
    | none => (match stv M (.cell n) with
      | some ks => (match keyA a with
        | some k => some (ks.any fun j => decide (k = j))
        | none => none)
      | none => innL a (.cell n) M) := rfl
@[simp] theorem innA_lst {a : A} {ds : List D} : innA a (.d (.lst ds)) M = innL a (.d (.lst ds)) M := rfl
@[simp] theorem innA_tup {a : A} {ds : List D} : innA a (.d (.tup ds)) M = innL a (.d (.tup ds)) M := rfl
@[simp] theorem innL_cell {a : A} : innL a (.cell n) M = match lsv M (.cell n) with
    | some ys => (match scs [a], scs ys with
      | some [x], some zs => some (zs.any fun y => eqS y x)
      | _, _ => none)
    | none => none := rfl
@[simp] theorem innL_lst {a : A} {ds : List D} : innL a (.d (.lst ds)) M = match scs [a], scs (ad ds) with
      | some [x], some zs => some (zs.any fun y => eqS y x)
      | _, _ => none := rfl
@[simp] theorem innL_tup {a : A} {ds : List D} : innL a (.d (.tup ds)) M = match scs [a], scs (ad ds) with
      | some [x], some zs => some (zs.any fun y => eqS y x)
      | _, _ => none := rfl
@[simp] theorem scs_s {x : Str} : scs [.d (.str x)] = some [.str x] := rfl
@[simp] theorem scs_i {x : Int} : scs [.d (.int x)] = some [.int x] := rfl
@[simp] theorem scs_sd : ∀ {xs : List Str}, scs (ad (sd xs)) = some (sd xs)
  | [] => rfl
  | x :: r => by
    show (match scs (ad (sd r)) with
      | some xs => some (D.str x :: xs)
      | none => none) = _
    rw [scs_sd]
    rfl
@[simp] theorem scs_nd : ∀ {xs : List Nat}, scs (ad (nd xs)) = some (nd xs)
  | [] => rfl
  | x :: r => by
    show (match scs (ad (nd r)) with
      | some xs => some (D.int x :: xs)
      | none => none) = _
    rw [scs_nd]
    rfl
@[simp] theorem any_sd {x : Str} {xs : List Str} : ((sd xs).any fun y => eqS y (.str x)) = decide (x ∈ xs) := by
  unfold sd
  rw [List.any_map]
  induction xs with
  | nil => rfl
  | cons y r ih =>
    rw [List.any_cons, ih]
    show ((y == x) || decide (x ∈ r)) = _
    by_cases h : y = x
    · subst h; simp
    · have h2 : ¬ x = y := fun e => h e.symm
      simp [h, h2]
@[simp] theorem any_nd {x : Nat} {xs : List Nat} : ((nd xs).any fun y => eqS y (.int (x : Int))) = decide (x ∈ xs) := by
  unfold nd
  rw [List.any_map]
  induction xs with
  | nil => rfl
  | cons y r ih =>
    rw [List.any_cons, ih]
    show (((y : Int) == (x : Int)) || decide (x ∈ r)) = _
    by_cases h : y = x
    · subst h; simp
    · have h2 : ¬ x = y := fun e => h e.symm
      have h3 : ¬ (y : Int) = (x : Int) := fun e => h (by exact_mod_cast e)
      simp [h, h2, h3]
/-! ### == of lists -/
@[simp] theorem cmpR_eqL {m : Nat} : cmpR .eq (.cell n) (.cell m) M = match eqA (.cell n) (.cell m) M with
    | some k => .ok (.d (.bl k)) M
    | none => .no := rfl
@[simp] theorem cmpR_neL {m : Nat} : cmpR .ne (.cell n) (.cell m) M = match eqA (.cell n) (.cell m) M with
    | some k => .ok (.d (.bl (!k))) M
    | none => .no := by
  show (match neA (.cell n) (.cell m) M with
    | some k => R.ok (A.d (.bl k)) M
    | none => .no) = _
  unfold neA
  cases eqA (.cell n) (.cell m) M <;> rfl
@[simp] theorem cmpR_neL2 {m : Nat} {ds : List D} : cmpR .ne (.d (.lst ds)) (.cell m) M = match eqA (.d (.lst ds)) (.cell m) M with
    | some k => .ok (.d (.bl (!k))) M
    | none => .no := by
  show (match neA (.d (.lst ds)) (.cell m) M with
    | some k => R.ok (A.d (.bl k)) M
    | none => .no) = _
  unfold neA
  cases eqA (.d (.lst ds)) (.cell m) M <;> rfl
@[simp] theorem dcw_cell : dcw M (.cell n) = match M[n]? with
    | some (.dct kvs) => some kvs
    | _ => none := rfl
@[simp] theorem dcw_d {x : D} : dcw M (.d x) = none := rfl
theorem eqA_of {a b : A} (h1 : dcw M a = none) (h2 : dcw M b = none) : eqA a b M = eqB a b M := by
  unfold eqA
  rw [h1, h2]
theorem eqB_cells {m : Nat} : eqB (.cell n) (.cell m) M = match frz 8 M (.cell n) with
    | some (x, M1) => (match frz 8 M1 (.cell m) with
      | some (y, _) => if SeqAt.shaped x.py && SeqAt.shaped y.py then some (PyData.eqv x.py y.py) else none
      | none => none)
    | none => none := rfl
theorem eqB_lst {ds : List D} {m : Nat} : eqB (.d (.lst ds)) (.cell m) M = match frz 8 M (.d (.lst ds)) with
    | some (x, M1) => (match frz 8 M1 (.cell m) with
      | some (y, _) => if SeqAt.shaped x.py && SeqAt.shaped y.py then some (PyData.eqv x.py y.py) else none
      | none => none)
    | none => none := rfl
theorem shaped_nil : SeqAt.shaped (D.lst []).py = true := by decide
theorem le_line {n : Nat} (h : n ≤ 10000000) : n ≤ sizeLine := Nat.le_trans h (by decide)
theorem lt_line {n : Nat} (h : n ≤ 10000000) : n < sizeLine := Nat.lt_of_le_of_lt h (by decide)
theorem eqv_nil (xs : List D) : PyData.eqv (D.lst xs).py (D.lst []).py = xs.isEmpty := by
  cases xs with
  | nil => rfl
  | cons x r => rfl
/-- x == [] -/
theorem eqA_nil {m : Nat} {xs : List D} (h1 : M[n]? = some (.lst (ad xs)) ∨ M[n]? = some (.frz (.lst xs))) (h2 : M[m]? = some (.lst (ad []))) (hs : SeqAt.shaped (D.lst xs).py = true) : eqA (.cell n) (.cell m) M = some xs.isEmpty := by
  have h3 : dcw M (.cell n) = none := by
    rw [dcw_cell]
    rcases h1 with h1 | h1 <;> rw [h1]
  have h4 : dcw M (.cell m) = none := by
    rw [dcw_cell, h2]
  rw [eqA_of h3 h4, eqB_cells]
  by_cases hnm : n = m
  · subst hnm
    rcases h1 with h1 | h1
    · rw [h1] at h2
      have e : xs = [] := by
        cases xs with
        | nil => rfl
        | cons y r => simp [ad] at h2
      subst e
      have e1 : frz 8 M (.cell n) = some (.lst [], M.set n (.frz (.lst []))) := by
        rw [frz8, h1]
        simp only [frzL_ad]
        rw [h1]
      have e2 : (M.set n (.frz (.lst [])))[n]? = some (.frz (.lst [])) := List.getElem?_set_self (List.getElem?_eq_some_iff.mp h1).1
      rw [e1]
      simp only
      rw [frz8, e2]
      simp only
      rw [shaped_nil, eqv_nil]
      rfl
    · rw [h1] at h2; cases h2
  · have e1 : ∃ M1, frz 8 M (.cell n) = some (.lst xs, M1) ∧ M1[m]? = M[m]? := by
      rcases h1 with h1 | h1
      · exact ⟨M.set n (.frz (.lst xs)), by rw [frz8, h1]; simp [h1], List.getElem?_set_ne hnm⟩
      · exact ⟨M, by rw [frz8, h1], rfl⟩
    obtain ⟨M1, e1, e2⟩ := e1
    rw [e1]
    simp only
    rw [frz8, e2, h2]
    simp only [frzL_ad]
    rw [e2, h2]
    simp only
    rw [hs, shaped_nil, eqv_nil]
    rfl
theorem eqA_nilD {m : Nat} {xs : List D} (h2 : M[m]? = some (.lst (ad []))) (hs : SeqAt.shaped (D.lst xs).py = true) : eqA (.d (.lst xs)) (.cell m) M = some xs.isEmpty := by
  rw [eqA_of rfl (by rw [dcw_cell, h2]), eqB_lst, frz_d]
  simp only
  rw [frz8, h2]
  simp only [frzL_ad]
  rw [h2]
  simp only
  rw [hs, shaped_nil, eqv_nil]
  rfl
/-! ### dicts -/
@[simp] theorem dgtA_str {d : A} {k : Str} {x : A} : dgtA M d (.d (.str k)) x = match dcv M d with
    | some kvs => (match valA kvs (.inr k) with
      | some v => .ok v M
      | none => .ok x M)
    | none => .no := by
  unfold dgtA
  cases dcv M d <;> rfl
@[simp] theorem putI_cell {b v : A} : putI M (.cell n) b v = match M[n]? with
    | some (.lst xs) => (match b with
      | .d (.int i) => if inR i then (match seqIndex? i xs.length with
        | some k => some (M.set n (.lst (xs.set k v)))
        | none => none) else none
      | _ => none)
    | some (.dct kvs) => (match keyA b with
      | some k => if kvs.length < sizeLine then some (M.set n (.dct (putA kvs k v))) else none
      | none => none)
    | _ => none := rfl
@[simp] theorem keyA_str {x : Str} : keyA (.d (.str x)) = some (.inr x) := rfl
@[simp] theorem keyA_int {x : Int} : keyA (.d (.int x)) = some (.inl x) := rfl
end
/-! ### loops -/
theorem forR_inv {σ : Type} {tg : Tg} {body : List A → List O → RS} (P : σ → List A → List O → Prop) (f : σ → D → σ) :
    ∀ (xs : List D) (s : σ) (δ : List A) (M : List O), (∀ x ∈ xs, ∀ s δ M, P s δ M → ∃ δ1 δ2 M2, setTg tg (.d x) δ = some δ1 ∧ (body δ1 M = .nx δ2 M2 ∨ body δ1 M = .ct δ2 M2) ∧ P (f s x) δ2 M2) →
      P s δ M → ∃ δ' M', forR tg body xs δ M = .nx δ' M' ∧ P (xs.foldl f s) δ' M'
  | [], s, δ, M, _, p => ⟨δ, M, rfl, p⟩
  | x :: r, s, δ, M, h, p => by
    obtain ⟨δ1, δ2, M2, h1, h2, p2⟩ := h x (List.mem_cons_self ..) s δ M p
    obtain ⟨δ', M', h3, p3⟩ := forR_inv P f r (f s x) δ2 M2 (fun y hy => h y (List.mem_cons_of_mem _ hy)) p2
    refine ⟨δ', M', ?_, p3⟩
    unfold forR
    rw [h1]
    simp only
    rcases h2 with h2 | h2
    · rw [h2]; exact h3
    · rw [h2]; exact h3
/-- one turn of a for -/
theorem forR_cons {tg : Tg} {body : List A → List O → RS} {x : D} {r : List D} {δ : List A} {M : List O} : forR tg body (x :: r) δ M = match setTg tg (.d x) δ with
    | none => .no
    | some δ1 => match body δ1 M with
      | .nx δ2 M2 => forR tg body r δ2 M2
      | .ct δ2 M2 => forR tg body r δ2 M2
      | .bk δ2 M2 => .nx δ2 M2
      | x => x := rfl
theorem forR_nil {tg : Tg} {body : List A → List O → RS} {δ : List A} {M : List O} : forR tg body [] δ M = .nx δ M := rfl
theorem whlR_succ {t : List A → List O → R Bool} {body : List A → List O → RS} {n : Nat} {δ : List A} {M : List O} : whlR t body (n + 1) δ M = (t δ M).toS δ fun k M1 => if k then (match body δ M1 with
      | .nx δ2 M2 => whlR t body n δ2 M2
      | .ct δ2 M2 => whlR t body n δ2 M2
      | .bk δ2 M2 => .nx δ2 M2
      | x => x) else .nx δ M1 := rfl
end Mq

set_option Elab.async false
set_option linter.all false
set_option maxRecDepth 100000
set_option maxHeartbeats 4000000
/-! k90: terms, the simple recursions. -/
namespace Mq
@[simp] theorem str_beq {a b : List Nat} : ((⟨⟨a⟩⟩ : PySem.Str) == ⟨⟨b⟩⟩) = (a == b) := by
  rw [Bool.eq_iff_iff, beq_iff_eq, beq_iff_eq]
  constructor
  · intro h; injection h with h; injection h
  · intro h; rw [h]
end Mq
namespace K90
open PySem PySem.Spec L2 Mini Mq
abbrev sName : Str := { cps := { toList := [110, 97, 109, 101] } }
abbrev sBind : Str := { cps := { toList := [98, 105, 110, 100] } }
abbrev sApply : Str := { cps := { toList := [97, 112, 112, 108, 121] } }
inductive T where
  | nm (x : Str) | bd (x : Str) (t : T) | ap (l r : T)
  deriving DecidableEq
namespace T
def d : T → D
  | nm x => .tup [.str sName, .str x]
  | bd x t => .tup [.str sBind, .str x, t.d]
  | ap l r => .tup [.str sApply, l.d, r.d]
@[simp] theorem d_nm {x : Str} : (nm x).d = .tup [.str sName, .str x] := rfl
@[simp] theorem d_bd {x : Str} {t : T} : (bd x t).d = .tup [.str sBind, .str x, t.d] := rfl
@[simp] theorem d_ap {l r : T} : (ap l r).d = .tup [.str sApply, l.d, r.d] := rfl
def ht : T → Nat
  | nm _ => 0
  | bd _ t => t.ht + 1
  | ap l r => max l.ht r.ht + 1
def sz : T → Nat
  | nm _ => 0
  | bd _ t => t.sz + 1
  | ap l r => l.sz + r.sz + 1
def parts : T → List T
  | nm x => [nm x]
  | bd x t => bd x t :: t.parts
  | ap l r => ap l r :: (l.parts ++ r.parts)
def put : T → Str → T → T
  | nm y, x, o => if y = x then o else nm y
  | bd y t, x, o => bd y (t.put x o)
  | ap l r, x, o => ap (l.put x o) (r.put x o)
theorem ht_le_sz : ∀ t : T, t.ht ≤ t.sz
  | nm _ => Nat.le_refl _
  | bd _ t => Nat.succ_le_succ (ht_le_sz t)
  | ap l r => by
    have h1 := ht_le_sz l
    have h2 := ht_le_sz r
    show max l.ht r.ht + 1 ≤ l.sz + r.sz + 1
    omega
theorem d_tup (t : T) : ∃ ds, t.d = .tup ds := by cases t <;> exact ⟨_, rfl⟩
end T
def td (ts : List T) : List D := ts.map T.d
@[simp] theorem td_len (ts : List T) : (td ts).length = ts.length := by simp [td]
@[simp] theorem td_app (xs ys : List T) : td xs ++ td ys = td (xs ++ ys) := by simp [td]
@[simp] theorem td_app1 (xs : List T) (x : T) : td xs ++ [x.d] = td (xs ++ [x]) := by simp [td]
theorem prg_turns : prg.turns = 200 := rfl
/-- what a def gives a term: as a tuple -/
theorem Ret.tm {run : List A → List O → Mini.R A} {ds : List D} {t : T} {M : List O} {as : List A} (h : Ret run ds t.d) (h1 : denL (den 8 M) as = some ds) (h2 : (frzL (frz 8) M as).map Prod.fst = some ds) :
    pcall run as M = match frzL (frz 8) M as with
      | some (_, M1) => .ok (.d t.d) M1
      | none => .no := by
  obtain ⟨xs, e⟩ := t.d_tup
  rw [e] at h ⊢
  exact h.tup h1 h2
/-! ### _law_nodes -/
theorem g28 (X : Mi) {w : W} {M : List O} : ∀ t : T, (∀ s : T, s.ht < t.ht → ∀ M, pcall (w.run 28) [.d s.d] M = .ok (.d (.int s.sz)) M) → X.go F28 w [.d t.d] M = .ok (.d (.int t.sz)) M
  | .nm x, _ => by simp [Mi.go, F28, B28, T.sz]
  | .bd x t, h => by
    have h1 := fun M => h t (by simp [T.ht]) M
    simp [Mi.go, F28, B28, T.sz, h1]
    omega
  | .ap l r, h => by
    have h1 := fun M => h l (by simp [T.ht]; omega) M
    have h2 := fun M => h r (by simp [T.ht]; omega) M
    simp [Mi.go, F28, B28, T.sz, h1, h2]
    omega
theorem r28 : ∀ (n : Nat) (t : T), t.ht < n → Ret (prg.run n 28) [t.d] (.int t.sz)
  | 0, t, h => absurd h (Nat.not_lt_zero _)
  | n + 1, t, h => ⟨[], by
    rw [prg.run_eq n 28 F28 rfl]
    exact g28 mi t fun s hs M => (r28 n s (by omega)).sc rfl (by simp)⟩

namespace T
theorem parts_len : ∀ t : T, t.parts.length ≤ 2 * t.sz + 1
  | nm _ => Nat.le_refl _
  | bd x t => by
    have := parts_len t
    simp [parts, sz]; omega
  | ap l r => by
    have := parts_len l
    have := parts_len r
    simp [parts, sz]; omega
def kids : T → List T
  | nm _ => []
  | bd _ t => [t]
  | ap l r => [l, r]
theorem parts_kids (t : T) : t.parts = t :: t.kids.flatMap parts := by cases t <;> simp [parts, kids]
def isNode : T → Bool
  | nm _ => false
  | _ => true
def isRedex : T → Bool
  | ap (bd _ _) _ => true
  | _ => false
def nodes (t : T) : List T := t.parts.filter isNode
theorem nodes_len : ∀ t : T, t.nodes.length = t.sz
  | nm _ => rfl
  | bd x t => by
    have := nodes_len t
    unfold nodes at *
    rw [parts, List.filter_cons_of_pos (by rfl), List.length_cons, this, sz]
  | ap l r => by
    have h1 := nodes_len l
    have h2 := nodes_len r
    unfold nodes at *
    rw [parts, List.filter_cons_of_pos (by rfl), List.length_cons, List.filter_append, List.length_append, h1, h2, sz]
/-- the ready nodes' numbers -/
def spots (t : T) : List Nat := (List.range t.nodes.length).filter fun k => (t.nodes[k]?.map isRedex).getD false
end T
/-! ### _law_parts -/
theorem g29 (X : Mi) {w : W} {M : List O} : ∀ t : T, t.sz ≤ 1000 → (∀ s : T, s.ht < t.ht → s.sz ≤ t.sz → ∀ M, pcall (w.run 29) [.d s.d] M = .ok (.cell M.length) (M ++ [.lst (ad (td s.parts))])) → ∃ M2 k, X.go F29 w [.d t.d] M = .ok (.cell k) M2 ∧ M2[k]? = some (.lst (ad (td t.parts)))
  | .nm x, _, _ => by
    refine ⟨_, _, by simp [Mi.go, F29, B29]; exact ⟨rfl, rfl⟩, ?_⟩
    simp [T.parts, td]
  | .bd x t, hz, h => by
    have h1 := fun M => h t (by simp [T.ht]) (by simp [T.sz]) M
    have hl : t.parts.length + 1 ≤ sizeLine := le_line (by have := t.parts_len; simp [T.sz] at hz; omega)
    refine ⟨_, _, by simp [Mi.go, F29, B29, h1, hl]; exact ⟨rfl, rfl⟩, ?_⟩
    simp [T.parts, td]
  | .ap l r, hz, h => by
    have h1 := fun M => h l (by simp [T.ht]; omega) (by simp [T.sz]; omega) M
    have h2 := fun M => h r (by simp [T.ht]; omega) (by simp [T.sz]; omega) M
    have q1 := l.parts_len
    have q2 := r.parts_len
    simp [T.sz] at hz
    have hl : l.parts.length + 1 ≤ sizeLine := le_line (by omega)
    have hl2 : l.parts.length + (r.parts.length + 1) ≤ sizeLine := le_line (by omega)
    have hl3 : l.parts.length + r.parts.length + 1 ≤ sizeLine := le_line (by omega)
    refine ⟨_, _, by simp [Mi.go, F29, B29, h1, h2, hl, hl2, hl3]; exact ⟨rfl, rfl⟩, ?_⟩
    simp [T.parts, td]
theorem r29 : ∀ (n : Nat) (t : T), t.ht < n → t.sz ≤ 1000 → Ret (prg.run n 29) [t.d] (.lst (td t.parts))
  | 0, t, h, _ => absurd h (Nat.not_lt_zero _)
  | n + 1, t, h, hz => by
    obtain ⟨M2, k, h1, h2⟩ := g29 mi (w := ⟨prg.run n, prg.sub, prg.turns⟩) (M := []) t hz fun s hs hz2 M => by
      have := (r29 n s (by omega) (by omega)).lst (M := M) (as := [.d s.d]) (by simp) (by simp)
      simpa using this
    exact Ret.of_lst (by rw [prg.run_eq n 29 F29 rfl]; exact h1) h2
/-! ### _law_put, replaced -/
theorem g31 (X : Mi) {w : W} {M : List O} {x : Str} {o : T} : ∀ t : T, (∀ s : T, s.ht < t.ht → ∀ M, pcall (w.run 31) [.d s.d, .d (.str x), .d o.d] M = .ok (.d (s.put x o).d) M) → X.go F31 w [.d t.d, .d (.str x), .d o.d] M = .ok (.d (t.put x o).d) M
  | .nm y, _ => by
    by_cases h : y = x
    · simp [Mi.go, F31, B31, T.put, h]
    · simp [Mi.go, F31, B31, T.put, h]
  | .bd y t, h => by
    have h1 := fun M => h t (by simp [T.ht]) M
    simp [Mi.go, F31, B31, T.put, h1]
  | .ap l r, h => by
    have h1 := fun M => h l (by simp [T.ht]; omega) M
    have h2 := fun M => h r (by simp [T.ht]; omega) M
    simp [Mi.go, F31, B31, T.put, h1, h2]
theorem Ret.tmd {run : List A → List O → Mini.R A} {ds : List D} {t : T} {M : List O} (h : Ret run ds t.d) : pcall run (ad ds) M = .ok (.d t.d) M := by
  rw [Ret.tm h (by simp) (by simp)]
  simp
theorem Ret.ok_tm {run : List A → List O → Mini.R A} {ds : List D} {t : T} {M2 : List O} (h : run (ad ds) [] = .ok (.d t.d) M2) : Ret run ds t.d := Ret.nl ⟨M2, h⟩ (by cases t <;> simp)
theorem r31 {x : Str} {o : T} : ∀ (n : Nat) (t : T), t.ht < n → Ret (prg.run n 31) [t.d, .str x, o.d] (t.put x o).d
  | 0, t, h => absurd h (Nat.not_lt_zero _)
  | n + 1, t, h => Ret.ok_tm (M2 := []) (by
    rw [prg.run_eq n 31 F31 rfl]
    exact g31 mi t fun s hs M => Ret.tmd (r31 n s (by omega)))
theorem g7 (X : Mi) {w : W} {M : List O} {x : Str} {o : T} : ∀ t : T, (∀ s : T, s.ht < t.ht → ∀ M, pcall (w.run 7) [.d s.d, .d (.str x), .d o.d] M = .ok (.d (s.put x o).d) M) → X.go F7 w [.d t.d, .d (.str x), .d o.d] M = .ok (.d (t.put x o).d) M
  | .nm y, _ => by
    by_cases h : y = x
    · simp [Mi.go, F7, B7, T.put, h]
    · simp [Mi.go, F7, B7, T.put, h]
  | .bd y t, h => by
    have h1 := fun M => h t (by simp [T.ht]) M
    simp [Mi.go, F7, B7, T.put, h1]
  | .ap l r, h => by
    have h1 := fun M => h l (by simp [T.ht]; omega) M
    have h2 := fun M => h r (by simp [T.ht]; omega) M
    simp [Mi.go, F7, B7, T.put, h1, h2]
theorem r7 {x : Str} {o : T} : ∀ (n : Nat) (t : T), t.ht < n → Ret (prg.run n 7) [t.d, .str x, o.d] (t.put x o).d
  | 0, t, h => absurd h (Nat.not_lt_zero _)
  | n + 1, t, h => Ret.ok_tm (M2 := []) (by
    rw [prg.run_eq n 7 F7 rfl]
    exact g7 mi t fun s hs M => Ret.tmd (r7 n s (by omega)))
/-! ### kids, parts -/
theorem g2 (X : Mi) {w : W} {M : List O} (t : T) : X.go F2 w [.d t.d] M = .ok (.cell M.length) (M ++ [.lst (ad (td t.kids))]) := by
  cases t <;> simp [Mi.go, F2, B2, T.kids, td]
theorem r2 (n : Nat) (t : T) : Ret (prg.run (n + 1) 2) [t.d] (.lst (td t.kids)) := Ret.of_lst (k := 0) (M2 := [.lst (ad (td t.kids))]) (by
  rw [prg.run_eq n 2 F2 rfl]
  exact g2 mi t) (by simp)
@[simp] theorem td_get (ts : List T) (i : Nat) : (td ts)[i]? = (ts[i]?).map T.d := by simp [td]
@[simp] theorem td_last (ts : List T) : (td ts).getLast? = ts.getLast?.map T.d := by simp [td]
@[simp] theorem td_getE (ts : List T) (i : Nat) (h : i < (td ts).length) : (td ts)[i] = (ts[i]'(by simpa using h)).d := by simp [td]
@[simp] theorem td_dropLast (ts : List T) : (td ts).dropLast = td ts.dropLast := by simp [td]
@[simp] theorem td_reverse (ts : List T) : (td ts).reverse = td ts.reverse := by simp [td]
@[simp] theorem td_empty (ts : List T) : (td ts).isEmpty = ts.isEmpty := by cases ts <;> rfl
theorem td_1 (t : T) : [t.d] = td [t] := rfl
def whB3 : List Mini.S := [Mini.S.asg (Mini.Tg.one 3) (Mini.E.mt Mini.Mt.pop (Mini.E.var 2) []),
            Mini.S.ex (Mini.E.mt Mini.Mt.append (Mini.E.var 1) [Mini.E.var 3]),
            Mini.S.ex (Mini.E.mt Mini.Mt.extend (Mini.E.var 2) [(Mini.E.call 2 [Mini.E.var 3] [] []).rev])]
theorem w3 (X : Mi) {w : W} {z : A} (h2 : ∀ (t : T) M, pcall (w.run 2) [.d t.d] M = .ok (.cell M.length) (M ++ [.lst (ad (td t.kids))])) :
    ∀ (n : Nat) (st fs : List T) (Q : List O) (a : A), (st.reverse.flatMap T.parts).length < n → fs.length + (st.reverse.flatMap T.parts).length ≤ 1000 → 
      ∃ a' Q', whlR (X.evT w (.var 2)) (X.exs w whB3) n [z, .cell 0, .cell 1, a] (.lst (ad (td fs)) :: .lst (ad (td st)) :: Q) = .nx [z, .cell 0, .cell 1, a'] (.lst (ad (td (fs ++ st.reverse.flatMap T.parts))) :: .lst (ad (td [])) :: Q')
  | 0, st, fs, Q, a, h, _ => absurd h (Nat.not_lt_zero _)
  | n + 1, st, fs, Q, a, h, hz => by
    rcases List.eq_nil_or_concat st with rfl | ⟨st', p, rfl⟩
    · refine ⟨a, Q, ?_⟩
      rw [whlR_succ]
      simp
    · rw [List.concat_eq_append] at *
      have e : (st' ++ [p]).reverse.flatMap T.parts = p :: (st' ++ p.kids.reverse).reverse.flatMap T.parts := by
        simp [T.parts_kids p]
      rw [e] at h hz ⊢
      rw [List.length_cons] at h hz
      have hs : st'.length + p.kids.length ≤ sizeLine := by
        have hq : ∀ l : List T, l.length ≤ (l.flatMap T.parts).length := by
          intro l
          induction l with
          | nil => simp
          | cons y r ih =>
            rw [List.flatMap_cons, List.length_append, List.length_cons]
            have : 1 ≤ y.parts.length := by rw [T.parts_kids]; simp
            omega
        have := hq ((st' ++ p.kids.reverse).reverse)
        simp at this
        simp at hz
        exact le_line (by omega)
      obtain ⟨a', Q', ih⟩ := w3 X h2 n (st' ++ p.kids.reverse) (fs ++ [p]) (Q ++ [O.lst (ad (td p.kids)), O.lst (ad (td p.kids.reverse))]) (.d p.d) (by omega) (by simp at hz ⊢; omega)
      refine ⟨a', Q', ?_⟩
      rw [whlR_succ]
      have hf : fs.length < sizeLine := lt_line (by omega)
      have e1 : X.exs w whB3 [z, .cell 0, .cell 1, a] (.lst (ad (td fs)) :: .lst (ad (td (st' ++ [p]))) :: Q) = .nx [z, .cell 0, .cell 1, .d p.d] (.lst (ad (td (fs ++ [p]))) :: .lst (ad (td (st' ++ p.kids.reverse))) :: (Q ++ [O.lst (ad (td p.kids)), O.lst (ad (td p.kids.reverse))])) := by
        simp [whB3, h2, hf, hs]
      simp only [Mi.evT_var]
      simp [e1]
      simpa using ih
theorem g3 (X : Mi) {w : W} {t : T} (hw : w.turns = 200) (hz : t.sz ≤ 90) (h2 : ∀ (t : T) M, pcall (w.run 2) [.d t.d] M = .ok (.cell M.length) (M ++ [.lst (ad (td t.kids))])) : ∃ M2, X.go F3 w [.d t.d] [] = .ok (.cell 0) (.lst (ad (td t.parts)) :: M2) := by
  have hl := t.parts_len
  obtain ⟨a', Q', h⟩ := w3 X (z := .d t.d) h2 200 [t] [] [] .un (by simp; omega) (by simp; omega)
  refine ⟨.lst (ad (td [])) :: Q', ?_⟩
  simp [whB3, td] at h
  simp [Mi.go, F3, B3, hw, h, td]
theorem r3 (n : Nat) (t : T) (hz : t.sz ≤ 90) : Ret (prg.run (n + 2) 3) [t.d] (.lst (td t.parts)) := by
  obtain ⟨M2, h⟩ := g3 mi (w := ⟨prg.run (n + 1), prg.sub, prg.turns⟩) (t := t) rfl hz fun t M => by
    have := (r2 n t).lst (M := M) (as := [.d t.d]) (by simp) (by simp)
    simpa using this
  exact Ret.of_lst (k := 0) (by rw [prg.run_eq (n + 1) 3 F3 rfl]; exact h) (by simp)
theorem Ret.lstd {run : List A → List O → Mini.R A} {ds xs : List D} {M : List O} (h : Ret run ds (.lst xs)) : pcall run (ad ds) M = .ok (.cell M.length) (M ++ [.lst (ad xs)]) := by
  rw [h.lst (by simp) (by simp)]
  simp
end K90

set_option Elab.async false
set_option linter.all false
set_option maxRecDepth 100000
set_option maxHeartbeats 4000000
/-! k90: sizes, free names, ready nodes, steps. -/
namespace K90
open PySem PySem.Spec L2 Mini Mq
namespace T
def isNm : T → Bool
  | nm _ => true
  | _ => false
def isBd : T → Bool
  | bd _ _ => true
  | _ => false
def isAp : T → Bool
  | ap _ _ => true
  | _ => false
def name : T → Str
  | nm x => x
  | bd x _ => x
  | ap _ _ => sName
def uses (t : T) : List Str := (t.parts.filter isNm).map name
def binds (t : T) : List Str := (t.parts.filter isBd).map name
def frP (t : T) : T → Bool
  | nm x => !decide (x ∈ t.binds)
  | _ => false
def frees (t : T) : List Str := (t.parts.filter t.frP).map name
def thP (t : T) : T → Bool
  | bd x _ => !decide (x ∈ t.uses)
  | _ => false
def thrown (t : T) : List Str := (t.parts.filter t.thP).map name
end T
theorem sz_line {t : T} (hz : t.sz ≤ 90) : t.parts.length ≤ sizeLine := le_line (by have := t.parts_len; omega)
/-! ### size -/
abbrev P3 (w : W) (t : T) : Prop := ∀ M, pcall (w.run 3) [.d t.d] M = .ok (.cell M.length) (M ++ [.lst (ad (td t.parts))])
theorem p3 {n : Nat} {t : T} (hz : t.sz ≤ 90) (M : List O) : pcall (prg.run (n + 2) 3) [.d t.d] M = .ok (.cell M.length) (M ++ [.lst (ad (td t.parts))]) := Ret.lstd (r3 n t hz)
theorem g4 (X : Mi) {w : W} {t : T} (hz : t.sz ≤ 90) (h3 : P3 w t) : ∃ M2, X.go F4 w [.d t.d] [] = .ok (.d (.int t.sz)) M2 := by
  apply Exists.intro
  simp [Mi.go, F4, B4]
  rw [compR_of (M1 := [.lst (ad (td t.parts))]) (as := [.cell 0]) (M2 := [.frz (.lst (td t.parts))]) (xs := t.parts) T.d T.isNode T.d ?_ ?_ ?_ (sz_line hz)]
  · simp
    refine ⟨?_, rfl⟩
    exact_mod_cast t.nodes_len
  · simp [h3 []]
  · simp [td]
  · intro x _ acc
    refine ⟨_, rfl, ?_, ?_⟩
    · cases x <;> simp [T.isNode]
    · intro _
      simp
theorem r4 (n : Nat) (t : T) (hz : t.sz ≤ 90) : Ret (prg.run (n + 3) 4) [t.d] (.int t.sz) := by
  obtain ⟨M2, h⟩ := g4 mi (w := ⟨prg.run (n + 2), prg.sub, prg.turns⟩) (t := t) hz (p3 hz)
  exact ⟨M2, by rw [prg.run_eq (n + 2) 4 F4 rfl]; exact h⟩
theorem p4 {n : Nat} {t : T} (hz : t.sz ≤ 90) (M : List O) : pcall (prg.run (n + 3) 4) [.d t.d] M = .ok (.d (.int t.sz)) M := (r4 n t hz).sc rfl (by simp)
/-! ### ready_nodes, _law_spots -/
def idx : Nat → List T → List (Nat × T)
  | _, [] => []
  | n, t :: r => (n, t) :: idx (n + 1) r
def idD (p : Nat × T) : D := .tup [.int p.1, p.2.d]
theorem numD_td : ∀ (n : Nat) (ts : List T), numD n (td ts) = (idx n ts).map idD
  | _, [] => rfl
  | n, t :: r => by
    show D.tup [.int (n : Nat), t.d] :: numD (n + 1) (td r) = _
    rw [numD_td (n + 1) r]
    rfl
theorem idx_len : ∀ (n : Nat) (ts : List T), (idx n ts).length = ts.length
  | _, [] => rfl
  | n, t :: r => by simp [idx, idx_len (n + 1) r]
theorem idx_spots (ts : List T) : ∀ n : Nat, ((idx n ts).filter fun p => p.2.isRedex).map (·.1) = ((List.range' n ts.length).filter fun k => ((ts[k - n]?).map T.isRedex).getD false) := by
  induction ts with
  | nil => intro n; rfl
  | cons t r ih =>
    intro n
    have e : (List.range' (n + 1) r.length).filter (fun k => (((t :: r)[k - n]?).map T.isRedex).getD false) = (List.range' (n + 1) r.length).filter (fun k => ((r[k - (n + 1)]?).map T.isRedex).getD false) := by
      apply List.filter_congr
      intro k hk
      have hk := (List.mem_range'_1.mp hk).1
      have : k - n = (k - (n + 1)) + 1 := by omega
      rw [this, List.getElem?_cons_succ]
    rw [List.length_cons, List.range'_succ, idx, List.filter_cons, List.filter_cons]
    simp only [Nat.sub_self, List.getElem?_cons_zero, Option.map_some, Option.getD_some]
    rw [e, ← ih (n + 1)]
    split <;> simp
theorem g10 (X : Mi) {w : W} {t : T} (hz : t.sz ≤ 90) (h3 : P3 w t) : ∃ M2 k, X.go F10 w [.d t.d] [] = .ok (.cell k) M2 ∧ M2[k]? = some (.lst (ad (nd t.spots))) := by
  apply Exists.intro; apply Exists.intro; apply And.intro
  · simp [Mi.go, F10, B10]
    rw [compR_of (M1 := [.lst (ad (td t.parts))]) (as := [.cell 0]) (M2 := [.frz (.lst (td t.parts))]) (xs := t.parts) T.d T.isNode T.d ?_ ?_ ?_ (sz_line hz)]
    · simp
      rw [compR_of (M1 := [.frz (.lst (td t.parts)), .lst (ad (td t.nodes))]) (as := [.cell 1]) (M2 := [.frz (.lst (td t.parts)), .frz (.lst (td t.nodes))]) (xs := idx 0 t.nodes) idD (fun p => p.2.isRedex) (fun p => .int (p.1 : Nat)) ?_ ?_ ?_ ?_]
      · simp
        exact ⟨rfl, rfl⟩
      · simp
        rfl
      · simp [numD_td]
      · rintro ⟨k, x⟩ hx acc
        refine ⟨_, rfl, ?_, ?_⟩
        · rcases x with y | ⟨y, b⟩ | ⟨l, r⟩
          · simp [T.isRedex]
          · simp [T.isRedex]
          · cases l <;> simp [T.isRedex]
        · intro _
          simp
      · rw [idx_len, T.nodes_len]
        exact le_line (by omega)
    · simp [h3 []]
    · simp [td]
    · intro x _ acc
      refine ⟨_, rfl, ?_, ?_⟩
      · cases x <;> simp [T.isNode]
      · intro _
        simp
  · have e := idx_spots t.nodes 0
    simp only [Nat.sub_zero, ← List.range_eq_range'] at e
    simp
    congr 1
    unfold nd T.spots
    rw [← e, List.map_map]
    rfl
theorem r10 (n : Nat) (t : T) (hz : t.sz ≤ 90) : Ret (prg.run (n + 3) 10) [t.d] (.lst (nd t.spots)) := by
  obtain ⟨M2, k, h1, h2⟩ := g10 mi (w := ⟨prg.run (n + 2), prg.sub, prg.turns⟩) (t := t) hz (p3 hz)
  exact Ret.of_lst (by rw [prg.run_eq (n + 2) 10 F10 rfl]; exact h1) h2
theorem p10 {n : Nat} {t : T} (hz : t.sz ≤ 90) (M : List O) : pcall (prg.run (n + 3) 10) [.d t.d] M = .ok (.cell M.length) (M ++ [.lst (ad (nd t.spots))]) := Ret.lstd (r10 n t hz)
theorem p29 {n : Nat} {t : T} (hn : t.ht < n) (hz : t.sz ≤ 90) (M : List O) : pcall (prg.run n 29) [.d t.d] M = .ok (.cell M.length) (M ++ [.lst (ad (td t.parts))]) := Ret.lstd (r29 n t hn (by omega))
abbrev P29 (w : W) (t : T) : Prop := ∀ M, pcall (w.run 29) [.d t.d] M = .ok (.cell M.length) (M ++ [.lst (ad (td t.parts))])
theorem inR_nat {n : Nat} (h : n ≤ 1000000) : inR (n : Int) = true := by
  unfold inR
  apply Nat.ble_eq.mpr
  omega
theorem nd_range (n : Nat) : nd (List.range n) = (List.range n).map fun (k : Nat) => D.int (k : Int) := rfl
theorem g36 (X : Mi) {w : W} {t : T} (hz : t.sz ≤ 90) (h3 : P29 w t) : ∃ M2 k, X.go F36 w [.d t.d] [] = .ok (.cell k) M2 ∧ M2[k]? = some (.lst (ad (nd t.spots))) := by
  apply Exists.intro; apply Exists.intro; apply And.intro
  · simp [Mi.go, F36, B36]
    rw [compR_of (M1 := [.lst (ad (td t.parts))]) (as := [.cell 0]) (M2 := [.frz (.lst (td t.parts))]) (xs := t.parts) T.d T.isNode T.d ?_ ?_ ?_ (sz_line hz)]
    · simp
      rw [compR_of (M1 := [.frz (.lst (td t.parts)), .lst (ad (td t.nodes))]) (as := [.d (.int (t.nodes.length : Nat))]) (M2 := [.frz (.lst (td t.parts)), .lst (ad (td t.nodes))]) (xs := List.range t.nodes.length) (fun (k : Nat) => D.int (k : Int)) (fun k => ((t.nodes[k]?).map T.isRedex).getD false) (fun (k : Nat) => D.int (k : Int)) ?_ ?_ ?_ ?_]
      · simp
        exact ⟨rfl, rfl⟩
      · simp
        exact ⟨rfl, rfl⟩
      · have : inR (t.nodes.length : Int) = true := inR_nat (by rw [T.nodes_len]; omega)
        simp [this, nd_range]
      · intro k hk acc
        have hk := List.mem_range.mp hk
        have e : t.nodes[k]? = some t.nodes[k] := List.getElem?_eq_getElem hk
        generalize t.nodes[k] = x at e
        refine ⟨_, rfl, ?_, ?_⟩
        · rw [e]
          rcases x with y | ⟨y, b⟩ | ⟨l, r⟩
          · simp [T.isRedex, e]
          · simp [T.isRedex, e]
          · cases l <;> simp [T.isRedex, e]
        · intro _
          simp
      · rw [List.length_range, T.nodes_len]
        exact le_line (by omega)
    · simp [h3 []]
    · simp [td]
    · intro x _ acc
      refine ⟨_, rfl, ?_, ?_⟩
      · cases x <;> simp [T.isNode]
      · intro _
        simp
  · simp
    rfl
theorem r36 (n : Nat) (t : T) (hn : t.ht < n) (hz : t.sz ≤ 90) : Ret (prg.run (n + 1) 36) [t.d] (.lst (nd t.spots)) := by
  obtain ⟨M2, k, h1, h2⟩ := g36 mi (w := ⟨prg.run n, prg.sub, prg.turns⟩) (t := t) hz (p29 hn hz)
  exact Ret.of_lst (by rw [prg.run_eq n 36 F36 rfl]; exact h1) h2
end K90

set_option Elab.async false
set_option linter.all false
set_option maxRecDepth 100000
set_option maxHeartbeats 4000000
/-! k90: free names, thrown names, steps. -/
namespace K90
open PySem PySem.Spec L2 Mini Mq
/-! ### free_names -/
theorem any_keys {x : Str} (xs : List Str) : (xs.any ((fun j => decide ((Sum.inr x : Key) = j)) ∘ fun y => (Sum.inr y : Key))) = decide (x ∈ xs) := by
  induction xs with
  | nil => rfl
  | cons y r ih =>
    rw [List.any_cons, ih]
    by_cases h : x = y
    · subst h; simp
    · simp [h]
theorem g5 (X : Mi) {w : W} {t : T} (hz : t.sz ≤ 90) (h3 : P3 w t) : ∃ M2 k, X.go F5 w [.d t.d] [] = .ok (.cell k) M2 ∧ M2[k]? = some (.lst (ad (sd t.frees))) := by
  have hl := t.parts_len
  apply Exists.intro; apply Exists.intro; apply And.intro
  · simp [Mi.go, F5, B5, h3 []]
    rw [setR_of (M1 := [.lst (ad (td t.parts))]) (as := [.cell 0]) (M2 := [.frz (.lst (td t.parts))]) (xs := t.parts) T.d T.isBd T.name ?_ ?_ ?_ ?_]
    · simp
      rw [compR_of (M1 := [.frz (.lst (td t.parts)), .set ((t.binds.map fun y => (Sum.inr y : Key)).reverse)]) (as := [.cell 0]) (M2 := [.frz (.lst (td t.parts)), .set ((t.binds.map fun y => (Sum.inr y : Key)).reverse)]) (xs := t.parts) T.d t.frP (fun s => .str s.name) ?_ ?_ ?_ (sz_line hz)]
      · simp
        exact ⟨rfl, rfl⟩
      · simp [T.binds, List.map_map, Function.comp_def]
      · simp [td]
      · intro s _ acc
        refine ⟨_, rfl, ?_, ?_⟩
        · rcases s with y | ⟨y, b⟩ | ⟨l, r⟩
          · simp [T.frP]
            exact any_keys t.binds
          · simp [T.frP]
          · simp [T.frP]
        · intro hs
          rcases s with y | ⟨y, b⟩ | ⟨l, r⟩
          · simp [T.name]
          · cases hs
          · cases hs
    · simp
    · simp [td]
    · intro s _ acc
      refine ⟨_, rfl, ?_, ?_⟩
      · cases s <;> simp [T.isBd]
      · intro hs
        rcases s with y | ⟨y, b⟩ | ⟨l, r⟩
        · cases hs
        · simp [T.name]
        · cases hs
    · have : scanBound = 4096 := rfl
      omega
  · simp
    unfold sd T.frees
    rw [List.map_map]
    rfl
theorem r5 (n : Nat) (t : T) (hz : t.sz ≤ 90) : Ret (prg.run (n + 3) 5) [t.d] (.lst (sd t.frees)) := by
  obtain ⟨M2, k, h1, h2⟩ := g5 mi (w := ⟨prg.run (n + 2), prg.sub, prg.turns⟩) (t := t) hz (p3 hz)
  exact Ret.of_lst (by rw [prg.run_eq (n + 2) 5 F5 rfl]; exact h1) h2
theorem p5 {n : Nat} {t : T} (hz : t.sz ≤ 90) (M : List O) : pcall (prg.run (n + 3) 5) [.d t.d] M = .ok (.cell M.length) (M ++ [.lst (ad (sd t.frees))]) := Ret.lstd (r5 n t hz)
/-! ### put_in -/
theorem g8 (X : Mi) {w : W} {t o : T} {x : Str} (h5 : ∀ M, pcall (w.run 5) [.d t.d] M = .ok (.cell M.length) (M ++ [.lst (ad (sd t.frees))])) (h7 : ∀ M, pcall (w.run 7) [.d t.d, .d (.str x), .d o.d] M = .ok (.d (t.put x o).d) M) (hx : x ∈ t.frees) : ∃ M2, X.go F8 w [.d t.d, .d (.str x), .d o.d] [] = .ok (.d (t.put x o).d) M2 := by
  apply Exists.intro
  simp [Mi.go, F8, B8, h5, h7, hx]
  rfl
theorem r8 (n : Nat) (t o : T) (x : Str) (hz : t.sz ≤ 90) (hn : t.ht < n + 3) (hx : x ∈ t.frees) : Ret (prg.run (n + 4) 8) [t.d, .str x, o.d] (t.put x o).d := by
  obtain ⟨M2, h⟩ := g8 mi (w := ⟨prg.run (n + 3), prg.sub, prg.turns⟩) (t := t) (o := o) (x := x) (p5 hz) (fun M => Ret.tmd (r7 (n + 3) t hn)) hx
  exact Ret.ok_tm (M2 := M2) (by rw [prg.run_eq (n + 3) 8 F8 rfl]; exact h)
/-! ### steps -/
namespace T
/-- the step at a node -/
def stp : T → Nat → T
  | nm x, _ => nm x
  | bd x t, 0 => bd x t
  | bd x t, k + 1 => bd x (t.stp k)
  | ap l r, 0 => match l with
    | bd x b => b.put x r
    | _ => ap l r
  | ap l r, k + 1 => if k + 1 ≤ l.sz then ap (l.stp k) r else ap l (r.stp (k - l.sz))
/-- a ready node -/
def rdx : T → Nat → Bool
  | nm _, _ => false
  | bd _ _, 0 => false
  | bd _ t, k + 1 => t.rdx k
  | ap l _, 0 => l.isBd
  | ap l r, k + 1 => if k + 1 ≤ l.sz then l.rdx k else r.rdx (k - l.sz)
/-- .. whose name is free in the body -/
def rdxL : T → Nat → Prop
  | nm _, _ => False
  | bd _ _, 0 => False
  | bd _ t, k + 1 => t.rdxL k
  | ap (bd x b) _, 0 => x ∈ b.frees
  | ap _ _, 0 => False
  | ap l r, k + 1 => if k + 1 ≤ l.sz then l.rdxL k else r.rdxL (k - l.sz)
theorem rdx_get : ∀ (t : T) (k : Nat), ((t.nodes[k]?).map isRedex).getD false = t.rdx k
  | nm _, _ => rfl
  | bd x t, 0 => rfl
  | bd x t, k + 1 => by
    have e : (bd x t).nodes = bd x t :: t.nodes := rfl
    rw [e, List.getElem?_cons_succ, rdx_get t k]
    rfl
  | ap l r, 0 => by cases l <;> rfl
  | ap l r, k + 1 => by
    have e : (ap l r).nodes = ap l r :: (l.nodes ++ r.nodes) := by
      unfold nodes
      rw [parts, List.filter_cons_of_pos (by rfl), List.filter_append]
    rw [e, List.getElem?_cons_succ, rdx]
    split
    · rename_i h
      rw [List.getElem?_append_left (by rw [nodes_len]; omega), rdx_get l k]
    · rename_i h
      rw [List.getElem?_append_right (by rw [nodes_len]; omega), nodes_len, rdx_get r (k - l.sz)]
theorem rdx_lt : ∀ (t : T) (k : Nat), t.rdx k = true → k < t.sz := by
  intro t k h
  rw [← rdx_get] at h
  have : k < t.nodes.length := by
    rcases Nat.lt_or_ge k t.nodes.length with h1 | h1
    · exact h1
    · rw [List.getElem?_eq_none h1] at h
      cases h
  rwa [nodes_len] at this
theorem mem_spots {t : T} {k : Nat} : k ∈ t.spots ↔ t.rdx k = true := by
  unfold spots
  rw [List.mem_filter, List.mem_range, rdx_get]
  exact ⟨fun h => h.2, fun h => ⟨by rw [nodes_len]; exact rdx_lt _ _ h, h⟩⟩
end T
theorem c1 (k : Nat) : (((k : Int) + 1) == 0) = false := by
  rw [beq_eq_false_iff_ne]
  omega
theorem g18 (X : Mi) {w : W} {M : List O} (h4 : ∀ (s : T) M, s.sz ≤ 90 → pcall (w.run 4) [.d s.d] M = .ok (.d (.int s.sz)) M)
    (h7 : ∀ (s o : T) x M, s.ht ≤ 90 → pcall (w.run 7) [.d s.d, .d (.str x), .d o.d] M = .ok (.d (s.put x o).d) M) : ∀ (t : T) (k : Nat), t.rdx k = true → t.sz ≤ 90 →
    (∀ (s : T) (j : Nat), s.ht < t.ht → s.sz ≤ t.sz → s.rdx j = true → ∀ M, pcall (w.run 18) [.d s.d, .d (.int (j : Nat))] M = .ok (.d (s.stp j).d) M) → X.go F18 w [.d t.d, .d (.int (k : Nat))] M = .ok (.d (t.stp k).d) M
  | .nm _, _, h, _, _ => by cases h
  | .bd _ _, 0, h, _, _ => by cases h
  | .bd x t, k + 1, h, hz, ih => by
    have h1 := fun M => ih t k (by simp [T.ht]) (by simp [T.sz]) h M
    simp [Mi.go, F18, B18, T.stp, c1, h1]
  | .ap l r, 0, h, hz, ih => by
    rcases l with y | ⟨y, b⟩ | ⟨l1, l2⟩
    · cases h
    · have := (T.bd y b).ht_le_sz
      have h1 := fun M => h7 b r y M (by simp [T.ht, T.sz] at this hz ⊢; omega)
      simp [Mi.go, F18, B18, T.stp, h1]
    · cases h
  | .ap l r, k + 1, h, hz, ih => by
    have h2 := fun M => h4 l M (by simp [T.sz] at hz; omega)
    rw [T.rdx] at h
    by_cases hk : k + 1 ≤ l.sz
    · rw [if_pos hk] at h
      have h1 := fun M => ih l k (by simp [T.ht]; omega) (by simp [T.sz]; omega) h M
      have hk2 : (k : Int) + 1 ≤ l.sz := by omega
      simp [Mi.go, F18, B18, T.stp, c1, h1, h2, hk, hk2]
    · rw [if_neg hk] at h
      have h1 := fun M => ih r (k - l.sz) (by simp [T.ht]; omega) (by simp [T.sz]; omega) h M
      have hk2 : ¬ (k : Int) + 1 ≤ l.sz := by omega
      have hk3 : (k : Int) - l.sz = ((k - l.sz : Nat) : Int) := by omega
      simp [Mi.go, F18, B18, T.stp, c1, h1, h2, hk, hk2, hk3]
theorem p7 {n : Nat} {t o : T} {x : Str} {M : List O} (h : t.ht < n) : pcall (prg.run n 7) [.d t.d, .d (.str x), .d o.d] M = .ok (.d (t.put x o).d) M := Ret.tmd (r7 n t h)
theorem r18 : ∀ (n : Nat) (t : T) (k : Nat), t.ht ≤ n → t.sz ≤ 90 → t.rdx k = true → Ret (prg.run (n + 92) 18) [t.d, .int (k : Nat)] (t.stp k).d
  | 0, t, k, hn, hz, h => by
    rcases t with y | ⟨y, b⟩ | ⟨l, r⟩
    · cases h
    · simp [T.ht] at hn
    · simp [T.ht] at hn
  | n + 1, t, k, hn, hz, h => Ret.ok_tm (M2 := []) (by
    rw [show n + 1 + 92 = (n + 92) + 1 from by omega, prg.run_eq (n + 92) 18 F18 rfl]
    exact g18 mi (fun s M hs => p4 (n := n + 89) hs M) (fun s o x M hs => p7 (by omega)) t k h hz fun s j h1 h2 h3 M => Ret.tmd (r18 n s j (by omega) (by omega) h3))
end K90

set_option Elab.async false
set_option linter.all false
set_option maxRecDepth 100000
set_option maxHeartbeats 4000000
/-! k90: affine terms, their steps, one end. -/
namespace K90
open PySem PySem.Spec L2 Mini Mq
namespace T
def us : T → List Str
  | nm x => [x]
  | bd _ t => t.us
  | ap l r => l.us ++ r.us
def bs : T → List Str
  | nm _ => []
  | bd x t => x :: t.bs
  | ap l r => l.bs ++ r.bs
def nms : T → List Str
  | nm x => [x]
  | bd x t => x :: t.nms
  | ap l r => l.nms ++ r.nms
def fr : T → List Str
  | nm x => [x]
  | bd x t => t.fr.filter fun y => decide (y ≠ x)
  | ap l r => l.fr ++ r.fr
def ok : T → Prop
  | nm _ => True
  | bd x t => t.ok ∧ x ∉ t.bs
  | ap l r => l.ok ∧ r.ok ∧ ∀ x ∈ l.nms, x ∉ r.nms
theorem uses_eq : ∀ t : T, t.uses = t.us
  | nm x => rfl
  | bd x t => by
    rw [us, ← uses_eq t]
    unfold uses
    rw [parts, List.filter_cons_of_neg (by simp [isNm])]
  | ap l r => by
    rw [us, ← uses_eq l, ← uses_eq r]
    unfold uses
    rw [parts, List.filter_cons_of_neg (by simp [isNm]), List.filter_append, List.map_append]
theorem binds_eq : ∀ t : T, t.binds = t.bs
  | nm x => rfl
  | bd x t => by
    rw [bs, ← binds_eq t]
    unfold binds
    rw [parts, List.filter_cons_of_pos (by simp [isBd])]
    rfl
  | ap l r => by
    rw [bs, ← binds_eq l, ← binds_eq r]
    unfold binds
    rw [parts, List.filter_cons_of_neg (by simp [isBd]), List.filter_append, List.map_append]
theorem us_nms {y : Str} : ∀ {t : T}, y ∈ t.us → y ∈ t.nms
  | nm x, h => h
  | bd x t, h => List.mem_cons_of_mem _ (us_nms (t := t) h)
  | ap l r, h => by
    rcases List.mem_append.mp h with h | h
    · exact List.mem_append_left _ (us_nms h)
    · exact List.mem_append_right _ (us_nms h)
theorem bs_nms {y : Str} : ∀ {t : T}, y ∈ t.bs → y ∈ t.nms
  | nm x, h => by cases h
  | bd x t, h => by
    rcases List.mem_cons.mp h with rfl | h
    · exact List.mem_cons_self ..
    · exact List.mem_cons_of_mem _ (bs_nms h)
  | ap l r, h => by
    rcases List.mem_append.mp h with h | h
    · exact List.mem_append_left _ (bs_nms h)
    · exact List.mem_append_right _ (bs_nms h)
theorem nms_or {y : Str} : ∀ {t : T}, y ∈ t.nms → y ∈ t.us ∨ y ∈ t.bs
  | nm x, h => .inl h
  | bd x t, h => by
    rcases List.mem_cons.mp h with rfl | h
    · exact .inr (List.mem_cons_self ..)
    · rcases nms_or h with h | h
      · exact .inl h
      · exact .inr (List.mem_cons_of_mem _ h)
  | ap l r, h => by
    rcases List.mem_append.mp h with h | h
    · rcases nms_or h with h | h
      · exact .inl (List.mem_append_left _ h)
      · exact .inr (List.mem_append_left _ h)
    · rcases nms_or h with h | h
      · exact .inl (List.mem_append_right _ h)
      · exact .inr (List.mem_append_right _ h)
theorem fr_us {y : Str} : ∀ {t : T}, y ∈ t.fr → y ∈ t.us
  | nm x, h => h
  | bd x t, h => fr_us (t := t) (List.mem_filter.mp h).1
  | ap l r, h => by
    rcases List.mem_append.mp h with h | h
    · exact List.mem_append_left _ (fr_us h)
    · exact List.mem_append_right _ (fr_us h)
/-- free names are bound nowhere -/
theorem fr_bs {y : Str} : ∀ {t : T}, t.ok → y ∈ t.fr → y ∉ t.bs
  | nm x, _, h => by simp [bs]
  | bd x t, ⟨ho, hx⟩, h => by
    have h := List.mem_filter.mp h
    intro h2
    rcases List.mem_cons.mp h2 with rfl | h2
    · simp at h
    · exact fr_bs ho h.1 h2
  | ap l r, ⟨h1, h2, h3⟩, h => by
    intro hb
    rcases List.mem_append.mp h with h | h <;> rcases List.mem_append.mp hb with hb | hb
    · exact fr_bs h1 h hb
    · exact h3 _ (us_nms (fr_us h)) (bs_nms hb)
    · exact h3 _ (bs_nms hb) (us_nms (fr_us h))
    · exact fr_bs h2 h hb
/-- used names that are not bound are free -/
theorem us_fr {y : Str} : ∀ {t : T}, y ∈ t.us → y ∉ t.bs → y ∈ t.fr
  | nm x, h, _ => h
  | bd x t, h, hb => by
    have h1 : y ≠ x := fun e => hb (by rw [e]; exact List.mem_cons_self ..)
    exact List.mem_filter.mpr ⟨us_fr (t := t) h fun q => hb (List.mem_cons_of_mem _ q), by simpa using h1⟩
  | ap l r, h, hb => by
    rcases List.mem_append.mp h with h | h
    · exact List.mem_append_left _ (us_fr h fun q => hb (List.mem_append_left _ q))
    · exact List.mem_append_right _ (us_fr h fun q => hb (List.mem_append_right _ q))
theorem fr_eq : ∀ {t : T}, t.ok → t.us.filter (fun y => !decide (y ∈ t.bs)) = t.fr
  | nm x, _ => by simp [us, bs, fr]
  | bd x t, ⟨ho, hx⟩ => by
    rw [us, fr, ← fr_eq ho, List.filter_filter]
    apply List.filter_congr
    intro y _
    simp [bs]
  | ap l r, ⟨h1, h2, h3⟩ => by
    rw [us, fr, List.filter_append, ← fr_eq h1, ← fr_eq h2]
    congr 1
    · apply List.filter_congr
      intro y hy
      have : y ∉ r.bs := fun q => h3 y (us_nms hy) (bs_nms q)
      simp [bs, this]
    · apply List.filter_congr
      intro y hy
      have : y ∉ l.bs := fun q => h3 y (bs_nms q) (us_nms hy)
      simp [bs, this]
theorem frees_eq {t : T} (h : t.ok) : t.frees = t.fr := by
  rw [← fr_eq h, ← uses_eq, ← binds_eq]
  unfold frees uses
  rw [List.filter_map, List.filter_filter]
  congr 1
  apply List.filter_congr
  intro s _
  cases s with
  | nm y => simp only [frP, isNm, name, Function.comp, Bool.and_true]; exact congrArg _ (decide_eq_decide.mpr Iff.rfl)
  | bd y b => simp [frP, isNm]
  | ap l r => simp [frP, isNm]
/-! ### putting -/
theorem put_none {x : Str} {a : T} : ∀ {b : T}, x ∉ b.us → b.put x a = b
  | nm y, h => by
    have : y ≠ x := fun e => h (by rw [e]; exact List.mem_singleton_self _)
    simp [put, this]
  | bd y t, h => by rw [put, put_none (b := t) h]
  | ap l r, h => by rw [put, put_none fun q => h (List.mem_append_left _ q), put_none fun q => h (List.mem_append_right _ q)]
theorem us_put {x y : Str} {a : T} : ∀ {b : T}, y ∈ (b.put x a).us → (y ∈ b.us ∧ y ≠ x) ∨ y ∈ a.us
  | nm z, h => by
    by_cases e : z = x
    · rw [put, if_pos e] at h; exact .inr h
    · rw [put, if_neg e] at h
      have : y = z := List.mem_singleton.mp h
      subst this
      exact .inl ⟨h, e⟩
  | bd z t, h => us_put (b := t) h
  | ap l r, h => by
    rcases List.mem_append.mp h with h | h
    · rcases us_put h with h | h
      · exact .inl ⟨List.mem_append_left _ h.1, h.2⟩
      · exact .inr h
    · rcases us_put h with h | h
      · exact .inl ⟨List.mem_append_right _ h.1, h.2⟩
      · exact .inr h
theorem bs_put {x y : Str} {a : T} : ∀ {b : T}, y ∈ (b.put x a).bs → y ∈ b.bs ∨ y ∈ a.bs
  | nm z, h => by
    by_cases e : z = x
    · rw [put, if_pos e] at h; exact .inr h
    · rw [put, if_neg e] at h; exact .inl h
  | bd z t, h => by
    rcases List.mem_cons.mp h with rfl | h
    · exact .inl (List.mem_cons_self ..)
    · rcases bs_put h with h | h
      · exact .inl (List.mem_cons_of_mem _ h)
      · exact .inr h
  | ap l r, h => by
    rcases List.mem_append.mp h with h | h
    · rcases bs_put h with h | h
      · exact .inl (List.mem_append_left _ h)
      · exact .inr h
    · rcases bs_put h with h | h
      · exact .inl (List.mem_append_right _ h)
      · exact .inr h
theorem nms_put {x y : Str} {a b : T} (h : y ∈ (b.put x a).nms) : y ∈ b.nms ∨ y ∈ a.nms := by
  rcases nms_or h with h | h
  · rcases us_put h with h | h
    · exact .inl (us_nms h.1)
    · exact .inr (us_nms h)
  · rcases bs_put h with h | h
    · exact .inl (bs_nms h)
    · exact .inr (bs_nms h)
/-- in an apply one side does not use the name -/
theorem ok_side {l r : T} {x : Str} (h : (ap l r).ok) : x ∉ l.us ∨ x ∉ r.us := by
  by_cases q : x ∈ l.us
  · exact .inr fun q2 => h.2.2 x (us_nms q) (us_nms q2)
  · exact .inl q
theorem ok_put {x : Str} {a : T} (ha : a.ok) : ∀ {b : T}, b.ok → (∀ y ∈ b.nms, y ∉ a.nms) → (b.put x a).ok
  | nm z, _, _ => by
    by_cases e : z = x
    · rw [put, if_pos e]; exact ha
    · rw [put, if_neg e]; trivial
  | bd z t, ⟨h1, h2⟩, hd => by
    refine ⟨ok_put ha h1 fun y hy => hd y (List.mem_cons_of_mem _ hy), fun q => ?_⟩
    rcases bs_put q with q | q
    · exact h2 q
    · exact hd z (List.mem_cons_self ..) (bs_nms q)
  | ap l r, h, hd => by
    have hl := ok_put (x := x) ha h.1 fun y hy => hd y (List.mem_append_left _ hy)
    have hr := ok_put (x := x) ha h.2.1 fun y hy => hd y (List.mem_append_right _ hy)
    rw [put]
    rcases ok_side (x := x) h with q | q
    · rw [put_none q]
      refine ⟨h.1, hr, fun y hy q2 => ?_⟩
      rcases nms_put q2 with q2 | q2
      · exact h.2.2 y hy q2
      · exact hd y (List.mem_append_left _ hy) q2
    · rw [put_none (b := r) q]
      refine ⟨hl, h.2.1, fun y hy q2 => ?_⟩
      rcases nms_put hy with hy | hy
      · exact h.2.2 y hy q2
      · exact hd y (List.mem_append_right _ q2) hy
theorem sz_put {x : Str} {a : T} : ∀ {b : T}, b.ok → (b.put x a).sz ≤ b.sz + a.sz
  | nm z, _ => by
    by_cases e : z = x
    · rw [put, if_pos e]; simp [sz]
    · rw [put, if_neg e]; simp [sz]
  | bd z t, h => by
    have := sz_put (x := x) (a := a) h.1
    simp [put, sz]; omega
  | ap l r, h => by
    rw [put]
    rcases ok_side (x := x) h with q | q
    · have := sz_put (x := x) (a := a) h.2.1
      rw [put_none q]; simp [sz]; omega
    · have := sz_put (x := x) (a := a) h.1
      rw [put_none (b := r) q]; simp [sz]; omega
/-! ### steps -/
inductive Step : T → T → Prop
  | beta (x : Str) (b a : T) : Step (ap (bd x b) a) (b.put x a)
  | bd {x : Str} {t t' : T} : Step t t' → Step (bd x t) (bd x t')
  | apl {l l' r : T} : Step l l' → Step (ap l r) (ap l' r)
  | apr {l r r' : T} : Step r r' → Step (ap l r) (ap l r')
theorem step_ok {t u : T} (s : Step t u) : t.ok → u.ok ∧ (∀ y ∈ u.nms, y ∈ t.nms) ∧ (∀ y ∈ u.bs, y ∈ t.bs) ∧ u.sz + 2 ≤ t.sz := by
  induction s with
  | beta x b a =>
    intro h
    have h1 : b.ok := h.1.1
    refine ⟨ok_put h.2.1 h1 fun y hy => h.2.2 y (List.mem_cons_of_mem _ hy), fun y hy => ?_, fun y hy => ?_, ?_⟩
    · rcases nms_put hy with q | q
      · exact List.mem_append_left _ (List.mem_cons_of_mem _ q)
      · exact List.mem_append_right _ q
    · rcases bs_put hy with q | q
      · exact List.mem_append_left _ (List.mem_cons_of_mem _ q)
      · exact List.mem_append_right _ q
    · have := sz_put (x := x) (a := a) h1
      simp [sz]; omega
  | @bd x t t' s ih =>
    intro h
    obtain ⟨h1, h2, h3, h4⟩ := ih h.1
    refine ⟨⟨h1, fun q => h.2 (h3 _ q)⟩, fun y hy => ?_, fun y hy => ?_, by simp [sz]; omega⟩
    · rcases List.mem_cons.mp hy with rfl | hy
      · exact List.mem_cons_self ..
      · exact List.mem_cons_of_mem _ (h2 y hy)
    · rcases List.mem_cons.mp hy with rfl | hy
      · exact List.mem_cons_self ..
      · exact List.mem_cons_of_mem _ (h3 y hy)
  | @apl l l' r s ih =>
    intro h
    obtain ⟨h1, h2, h3, h4⟩ := ih h.1
    refine ⟨⟨h1, h.2.1, fun y hy => h.2.2 y (h2 y hy)⟩, fun y hy => ?_, fun y hy => ?_, by simp [sz]; omega⟩
    · rcases List.mem_append.mp hy with hy | hy
      · exact List.mem_append_left _ (h2 y hy)
      · exact List.mem_append_right _ hy
    · rcases List.mem_append.mp hy with hy | hy
      · exact List.mem_append_left _ (h3 y hy)
      · exact List.mem_append_right _ hy
  | @apr l r r' s ih =>
    intro h
    obtain ⟨h1, h2, h3, h4⟩ := ih h.2.1
    refine ⟨⟨h.1, h1, fun y hy q => h.2.2 y hy (h2 y q)⟩, fun y hy => ?_, fun y hy => ?_, by simp [sz]; omega⟩
    · rcases List.mem_append.mp hy with hy | hy
      · exact List.mem_append_left _ hy
      · exact List.mem_append_right _ (h2 y hy)
    · rcases List.mem_append.mp hy with hy | hy
      · exact List.mem_append_left _ hy
      · exact List.mem_append_right _ (h3 y hy)
/-- putting something that steps -/
theorem put_step {x : Str} {a a' : T} (s : Step a a') : ∀ {b : T}, b.ok → b.put x a = b.put x a' ∨ Step (b.put x a) (b.put x a')
  | nm z, _ => by
    by_cases e : z = x
    · simp only [put, if_pos e]; exact .inr s
    · simp only [put, if_neg e]; exact .inl trivial
  | bd z t, h => by
    rcases put_step s (b := t) h.1 with q | q
    · exact .inl (by rw [put, put, q])
    · exact .inr (.bd q)
  | ap l r, h => by
    rw [put, put]
    rcases ok_side (x := x) h with q | q
    · rw [put_none q, put_none q]
      rcases put_step s (b := r) h.2.1 with q | q
      · exact .inl (by rw [q])
      · exact .inr (.apr q)
    · rw [put_none (b := r) q, put_none (b := r) q]
      rcases put_step s (b := l) h.1 with q | q
      · exact .inl (by rw [q])
      · exact .inr (.apl q)
theorem put_put {x y : Str} {a e : T} (hxy : y ≠ x) (hy : y ∉ a.us) : ∀ c : T, (c.put y e).put x a = (c.put x a).put y (e.put x a)
  | nm z => by
    by_cases h1 : z = y
    · subst h1
      rw [put, if_pos rfl, put, if_neg hxy, put, if_pos rfl]
    · by_cases h2 : z = x
      · subst h2
        rw [put, if_neg h1, put, if_pos rfl, put_none hy]
      · rw [put, if_neg h1, put, if_neg h2, put, if_neg h1]
  | bd z t => by
    show bd z ((t.put y e).put x a) = bd z ((t.put x a).put y (e.put x a))
    rw [put_put hxy hy t]
  | ap l r => by
    show ap ((l.put y e).put x a) ((r.put y e).put x a) = ap ((l.put x a).put y (e.put x a)) ((r.put x a).put y (e.put x a))
    rw [put_put hxy hy l, put_put hxy hy r]
/-- a step in what something is put into -/
theorem step_put {x : Str} {a b b' : T} (s : Step b b') : x ∉ b.bs → (∀ y ∈ b.nms, y ∉ a.nms) → Step (b.put x a) (b'.put x a) := by
  induction s with
  | beta y c e =>
    intro hx hd
    have h1 : y ≠ x := fun q => hx (by rw [q]; exact List.mem_append_left _ (List.mem_cons_self ..))
    have h2 : y ∉ a.us := fun q => hd y (List.mem_append_left _ (List.mem_cons_self ..)) (us_nms q)
    rw [put_put h1 h2]
    exact .beta y (c.put x a) (e.put x a)
  | bd s ih => intro hx hd; exact .bd (ih (fun q => hx (List.mem_cons_of_mem _ q)) fun y hy => hd y (List.mem_cons_of_mem _ hy))
  | apl s ih => intro hx hd; exact .apl (ih (fun q => hx (List.mem_append_left _ q)) fun y hy => hd y (List.mem_append_left _ hy))
  | apr s ih => intro hx hd; exact .apr (ih (fun q => hx (List.mem_append_right _ q)) fun y hy => hd y (List.mem_append_right _ hy))
theorem diamond {t u : T} (s : Step t u) : ∀ {v : T}, t.ok → Step t v → u = v ∨ ∃ w, (u = w ∨ Step u w) ∧ (v = w ∨ Step v w) := by
  induction s with
  | beta x b a =>
    intro v h s2
    cases s2 with
    | beta => exact .inl rfl
    | apl s2 =>
      cases s2 with
      | @bd _ _ b' s2 =>
        refine .inr ⟨b'.put x a, .inr (step_put s2 h.1.2 fun y hy => h.2.2 y (List.mem_cons_of_mem _ hy)), .inr (.beta x b' a)⟩
    | @apr _ _ a' s2 => exact .inr ⟨b.put x a', put_step s2 h.1.1, .inr (.beta x b a')⟩
  | @bd x t t' s ih =>
    intro v h s2
    cases s2 with
    | @bd _ _ t2 s2 =>
      rcases ih h.1 s2 with rfl | ⟨w, h1, h2⟩
      · exact .inl rfl
      · refine .inr ⟨.bd x w, ?_, ?_⟩
        · rcases h1 with rfl | h1
          · exact .inl rfl
          · exact .inr (.bd h1)
        · rcases h2 with rfl | h2
          · exact .inl rfl
          · exact .inr (.bd h2)
  | @apl l l' r s ih =>
    intro v h s2
    cases s2 with
    | beta x b a =>
      cases s with
      | @bd _ _ b' s =>
        exact .inr ⟨b'.put x r, .inr (.beta x b' r), .inr (step_put s h.1.2 fun y hy => h.2.2 y (List.mem_cons_of_mem _ hy))⟩
    | @apl _ l2 _ s2 =>
      rcases ih h.1 s2 with rfl | ⟨w, h1, h2⟩
      · exact .inl rfl
      · refine .inr ⟨ap w r, ?_, ?_⟩
        · rcases h1 with rfl | h1
          · exact .inl rfl
          · exact .inr (.apl h1)
        · rcases h2 with rfl | h2
          · exact .inl rfl
          · exact .inr (.apl h2)
    | @apr _ _ r' s2 => exact .inr ⟨ap l' r', .inr (.apr s2), .inr (.apl s)⟩
  | @apr l r r' s ih =>
    intro v h s2
    cases s2 with
    | beta x b a =>
      rcases put_step (x := x) s h.1.1 with q | q
      · exact .inr ⟨b.put x r', .inr (.beta x b r'), .inl q⟩
      · exact .inr ⟨b.put x r', .inr (.beta x b r'), .inr q⟩
    | @apl _ l2 _ s2 => exact .inr ⟨ap l2 r', .inr (.apl s2), .inr (.apr s)⟩
    | @apr _ _ r2 s2 =>
      rcases ih h.2.1 s2 with rfl | ⟨w, h1, h2⟩
      · exact .inl rfl
      · refine .inr ⟨ap l w, ?_, ?_⟩
        · rcases h1 with rfl | h1
          · exact .inl rfl
          · exact .inr (.apr h1)
        · rcases h2 with rfl | h2
          · exact .inl rfl
          · exact .inr (.apr h2)
inductive Star : T → T → Prop
  | refl (t : T) : Star t t
  | head {t u v : T} : Step t u → Star u v → Star t v
theorem Star.tail {t u v : T} (h : Star t u) (s : Step u v) : Star t v := by
  induction h with
  | refl => exact .head s (.refl _)
  | head s1 _ ih => exact .head s1 (ih s)
def nf (t : T) : Prop := ∀ u, ¬ Step t u
theorem has_nf : ∀ (n : Nat) (t : T), t.sz ≤ n → t.ok → ∃ z, Star t z ∧ z.nf
  | n, t, hn, ho => by
    by_cases h : t.nf
    · exact ⟨t, .refl _, h⟩
    · have h : ∃ u, Step t u := Classical.byContradiction fun q => h fun u s => q ⟨u, s⟩
      obtain ⟨u, s⟩ := h
      obtain ⟨h1, h2, h3, h4⟩ := step_ok s ho
      cases n with
      | zero => omega
      | succ n =>
        obtain ⟨z, h5, h6⟩ := has_nf n u (by omega) h1
        exact ⟨z, .head s h5, h6⟩
theorem one_nf : ∀ (n : Nat) (t : T), t.sz ≤ n → t.ok → ∀ u v, Star t u → u.nf → Star t v → v.nf → u = v := by
  intro n
  induction n with
  | zero =>
    intro t hn ho u v h1 n1 h2 n2
    cases h1 with
    | refl =>
      cases h2 with
      | refl => rfl
      | head s _ => exact absurd s (n1 _)
    | head s _ => have := (step_ok s ho).2.2.2; omega
  | succ n ih =>
    intro t hn ho u v h1 n1 h2 n2
    cases h1 with
    | refl =>
      cases h2 with
      | refl => rfl
      | head s _ => exact absurd s (n1 _)
    | @head _ t1 _ s1 h1 =>
      cases h2 with
      | refl => exact absurd s1 (n2 _)
      | @head _ t2 _ s2 h2 =>
        obtain ⟨o1, _, _, z1⟩ := step_ok s1 ho
        obtain ⟨o2, _, _, z2⟩ := step_ok s2 ho
        rcases diamond s1 ho s2 with rfl | ⟨w, q1, q2⟩
        · exact ih t1 (by omega) o1 u v h1 n1 h2 n2
        · have ow : w.ok ∧ w.sz ≤ n := by
            rcases q1 with rfl | q1
            · exact ⟨o1, by omega⟩
            · have := step_ok q1 o1
              exact ⟨this.1, by omega⟩
          obtain ⟨z, h5, h6⟩ := has_nf n w ow.2 ow.1
          have e1 : u = z := ih t1 (by omega) o1 u z h1 n1 (by
            rcases q1 with rfl | q1
            · exact h5
            · exact .head q1 h5) h6
          have e2 : v = z := ih t2 (by omega) o2 v z h2 n2 (by
            rcases q2 with rfl | q2
            · exact h5
            · exact .head q2 h5) h6
          rw [e1, e2]
theorem stp_step : ∀ (t : T) (k : Nat), t.rdx k = true → Step t (t.stp k)
  | nm _, _, h => by cases h
  | bd _ _, 0, h => by cases h
  | bd x t, k + 1, h => .bd (stp_step t k h)
  | ap l r, 0, h => by
    rcases l with y | ⟨y, b⟩ | ⟨l1, l2⟩
    · cases h
    · exact .beta y b r
    · cases h
  | ap l r, k + 1, h => by
    rw [rdx] at h
    rw [stp]
    by_cases hk : k + 1 ≤ l.sz
    · rw [if_pos hk] at h ⊢
      exact .apl (stp_step l k h)
    · rw [if_neg hk] at h ⊢
      exact .apr (stp_step r _ h)
theorem step_rdx {t u : T} (s : Step t u) : ∃ k, t.rdx k = true := by
  induction s with
  | beta x b a => exact ⟨0, rfl⟩
  | bd _ ih => obtain ⟨k, h⟩ := ih; exact ⟨k + 1, h⟩
  | @apl l l' r s ih =>
    obtain ⟨k, h⟩ := ih
    refine ⟨k + 1, ?_⟩
    rw [rdx, if_pos (by have := rdx_lt _ _ h; omega)]
    exact h
  | @apr l r r' s ih =>
    obtain ⟨k, h⟩ := ih
    refine ⟨k + l.sz + 1, ?_⟩
    rw [rdx, if_neg (by omega), show k + l.sz - l.sz = k from by omega]
    exact h
theorem nf_spots {t : T} : t.nf ↔ t.spots = [] := by
  constructor
  · intro h
    cases e : t.spots with
    | nil => rfl
    | cons k r =>
      have : k ∈ t.spots := by rw [e]; exact List.mem_cons_self ..
      exact absurd (stp_step t k (mem_spots.mp this)) (h _)
  · intro h u s
    obtain ⟨k, hk⟩ := step_rdx s
    have := mem_spots.mpr hk
    rw [h] at this
    cases this
theorem stp_ok {t : T} {k : Nat} (ho : t.ok) (h : t.rdx k = true) : (t.stp k).ok ∧ (∀ y ∈ (t.stp k).nms, y ∈ t.nms) ∧ (t.stp k).sz + 2 ≤ t.sz := by
  obtain ⟨h1, h2, _, h4⟩ := step_ok (stp_step t k h) ho
  exact ⟨h1, h2, h4⟩
end T
end K90

set_option Elab.async false
set_option linter.all false
set_option maxRecDepth 100000
set_option maxHeartbeats 4000000
/-! k90: rows of steps. -/
namespace K90
open PySem PySem.Spec L2 Mini Mq
namespace T
/-- linear: each bound name is used -/
def lin : T → Prop
  | nm _ => True
  | bd x t => t.lin ∧ x ∈ t.us
  | ap l r => l.lin ∧ r.lin
theorem us_putL {x y : Str} {a : T} (hxy : y ≠ x) : ∀ {b : T}, y ∈ b.us → y ∈ (b.put x a).us
  | nm z, h => by
    have : y = z := List.mem_singleton.mp h
    subst this
    rw [put, if_neg hxy]
    exact h
  | bd z t, h => us_putL hxy (b := t) h
  | ap l r, h => by
    rcases List.mem_append.mp h with h | h
    · exact List.mem_append_left _ (us_putL hxy h)
    · exact List.mem_append_right _ (us_putL hxy h)
theorem us_putA {x y : Str} {a : T} (hy : y ∈ a.us) : ∀ {b : T}, x ∈ b.us → y ∈ (b.put x a).us
  | nm z, h => by
    have : x = z := List.mem_singleton.mp h
    subst this
    rw [put, if_pos rfl]
    exact hy
  | bd z t, h => us_putA hy (b := t) h
  | ap l r, h => by
    rcases List.mem_append.mp h with h | h
    · exact List.mem_append_left _ (us_putA hy h)
    · exact List.mem_append_right _ (us_putA hy h)
theorem lin_put {x : Str} {a : T} (ha : a.lin) : ∀ {b : T}, b.lin → x ∉ b.bs → (b.put x a).lin
  | nm z, _, _ => by
    rw [put]
    split
    · exact ha
    · trivial
  | bd z t, h, hx => ⟨lin_put ha h.1 fun q => hx (List.mem_cons_of_mem _ q), us_putL (fun e => hx (by rw [e]; exact List.mem_cons_self ..)) h.2⟩
  | ap l r, h, hx => ⟨lin_put ha h.1 fun q => hx (List.mem_append_left _ q), lin_put ha h.2 fun q => hx (List.mem_append_right _ q)⟩
theorem step_lin {t u : T} (s : Step t u) : t.ok → t.lin → u.lin ∧ ∀ y ∈ t.us, y ∉ t.bs → y ∈ u.us := by
  induction s with
  | beta x b a =>
    intro h hl
    refine ⟨lin_put hl.2 hl.1.1 h.1.2, fun y hy hb => ?_⟩
    rcases List.mem_append.mp hy with hy | hy
    · exact us_putL (fun e => hb (by rw [e]; exact List.mem_append_left _ (List.mem_cons_self ..))) hy
    · exact us_putA hy hl.1.2
  | bd s ih =>
    intro h hl
    obtain ⟨h1, h2⟩ := ih h.1 hl.1
    exact ⟨⟨h1, h2 _ hl.2 h.2⟩, fun y hy hb => h2 y hy fun q => hb (List.mem_cons_of_mem _ q)⟩
  | @apl l l' r s ih =>
    intro h hl
    obtain ⟨h1, h2⟩ := ih h.1 hl.1
    refine ⟨⟨h1, hl.2⟩, fun y hy hb => ?_⟩
    rcases List.mem_append.mp hy with hy | hy
    · exact List.mem_append_left _ (h2 y hy fun q => hb (List.mem_append_left _ q))
    · exact List.mem_append_right _ hy
  | @apr l r r' s ih =>
    intro h hl
    obtain ⟨h1, h2⟩ := ih h.2.1 hl.2
    refine ⟨⟨hl.1, h1⟩, fun y hy hb => ?_⟩
    rcases List.mem_append.mp hy with hy | hy
    · exact List.mem_append_left _ hy
    · exact List.mem_append_right _ (h2 y hy fun q => hb (List.mem_append_right _ q))
theorem lin_of : ∀ {t : T}, t.ok → (∀ x ∈ t.bs, x ∈ t.us) → t.lin
  | nm _, _, _ => trivial
  | bd x t, h, hx => ⟨lin_of h.1 fun y hy => hx y (List.mem_cons_of_mem _ hy), hx x (List.mem_cons_self ..)⟩
  | ap l r, h, hx => by
    refine ⟨lin_of h.1 fun y hy => ?_, lin_of h.2.1 fun y hy => ?_⟩
    · rcases List.mem_append.mp (hx y (List.mem_append_left _ hy)) with q | q
      · exact q
      · exact absurd (us_nms q) (h.2.2 y (bs_nms hy))
    · rcases List.mem_append.mp (hx y (List.mem_append_right _ hy)) with q | q
      · exact absurd (bs_nms hy) (h.2.2 y (us_nms q))
      · exact q
theorem rdxL_of : ∀ {t : T} {k : Nat}, t.ok → t.lin → t.rdx k = true → t.rdxL k
  | nm _, _, _, _, h => by cases h
  | bd _ _, 0, _, _, h => by cases h
  | bd x t, k + 1, ho, hl, h => rdxL_of (t := t) ho.1 hl.1 h
  | ap l r, 0, ho, hl, h => by
    rcases l with y | ⟨y, b⟩ | ⟨l1, l2⟩
    · cases h
    · show y ∈ b.frees
      rw [frees_eq ho.1.1]
      exact us_fr hl.1.2 ho.1.2
    · cases h
  | ap l r, k + 1, ho, hl, h => by
    rw [rdx] at h
    rw [rdxL]
    by_cases hk : k + 1 ≤ l.sz
    · rw [if_pos hk] at h ⊢
      exact rdxL_of ho.1 hl.1 h
    · rw [if_neg hk] at h ⊢
      exact rdxL_of ho.2.1 hl.2 h
theorem rdx_of : ∀ {t : T} {k : Nat}, t.rdxL k → t.rdx k = true
  | nm _, _, h => by cases h
  | bd _ _, 0, h => by cases h
  | bd x t, k + 1, h => rdx_of (t := t) h
  | ap l r, 0, h => by
    rcases l with y | ⟨y, b⟩ | ⟨l1, l2⟩
    · cases h
    · rfl
    · cases h
  | ap l r, k + 1, h => by
    rw [rdxL] at h
    rw [rdx]
    by_cases hk : k + 1 ≤ l.sz
    · rw [if_pos hk] at h ⊢
      exact rdx_of h
    · rw [if_neg hk] at h ⊢
      exact rdx_of h
/-- all steps, the first ready node first -/
def nrm : Nat → T → Nat → T × Nat
  | 0, t, s => (t, s)
  | n + 1, t, s => match t.spots with
    | [] => (t, s)
    | k :: _ => nrm n (t.stp k) (s + 1)
theorem nrm_star : ∀ (n : Nat) (t : T) (s : Nat), Star t (nrm n t s).1
  | 0, t, s => .refl t
  | n + 1, t, s => by
    rw [nrm]
    cases e : t.spots with
    | nil => exact .refl t
    | cons k r =>
      have hk : t.rdx k = true := mem_spots.mp (by rw [e]; exact List.mem_cons_self ..)
      exact .head (stp_step t k hk) (nrm_star n _ _)
theorem nrm_more : ∀ (n : Nat) (t : T) (s m : Nat), t.ok → t.sz < 2 * n → (nrm n t s) = nrm (n + m) t s ∧ (nrm n t s).1.spots = []
  | 0, t, s, m, _, h => absurd h (Nat.not_lt_zero _)
  | n + 1, t, s, m, ho, h => by
    rw [show n + 1 + m = (n + m) + 1 from by omega, nrm, nrm]
    cases e : t.spots with
    | nil => exact ⟨rfl, e⟩
    | cons k r =>
      have hk : t.rdx k = true := mem_spots.mp (by rw [e]; exact List.mem_cons_self ..)
      obtain ⟨h1, _, h3⟩ := stp_ok ho hk
      rcases Nat.eq_zero_or_pos (t.stp k).sz with hz | hz
      · cases n with
        | zero => omega
        | succ n => exact nrm_more (n + 1) (t.stp k) (s + 1) m h1 (by omega)
      · exact nrm_more n (t.stp k) (s + 1) m h1 (by omega)
/-- the first step, by the term's form -/
def stepd : T → Option T
  | nm _ => none
  | bd x t => t.stepd.map (bd x)
  | ap (bd x b) r => some (b.put x r)
  | ap (nm x) r => r.stepd.map (ap (nm x))
  | ap (ap l1 l2) r => match (ap l1 l2).stepd with
    | some l' => some (ap l' r)
    | none => r.stepd.map (ap (ap l1 l2))
def first : T → Option Nat
  | nm _ => none
  | bd _ t => t.first.map (· + 1)
  | ap l r => if l.isBd then some 0 else match l.first with
    | some k => some (k + 1)
    | none => r.first.map (· + (l.sz + 1))
theorem first_some : ∀ {t : T} {k : Nat}, t.first = some k → t.rdx k = true ∧ ∀ j < k, t.rdx j = false
  | nm _, _, h => by cases h
  | bd x t, k, h => by
    cases e : t.first with
    | none => rw [first, e] at h; cases h
    | some j =>
      rw [first, e] at h
      cases h
      obtain ⟨h1, h2⟩ := first_some e
      refine ⟨h1, fun i hi => ?_⟩
      cases i with
      | zero => rfl
      | succ i => exact h2 i (by simp at hi; omega)
  | ap l r, k, h => by
    rw [first] at h
    split at h
    · rename_i hb
      cases h
      exact ⟨hb, fun j hj => absurd hj (Nat.not_lt_zero _)⟩
    · rename_i hb
      have hb : l.isBd = false := by simpa using hb
      cases e : l.first with
      | some j =>
        rw [e] at h
        cases h
        obtain ⟨h1, h2⟩ := first_some e
        have := rdx_lt _ _ h1
        refine ⟨by rw [rdx, if_pos (by omega)]; exact h1, fun i hi => ?_⟩
        cases i with
        | zero => exact hb
        | succ i => rw [rdx, if_pos (by omega)]; exact h2 i (by omega)
      | none =>
        rw [e] at h
        cases e2 : r.first with
        | none => rw [e2] at h; cases h
        | some j =>
          rw [e2] at h
          cases h
          obtain ⟨h1, h2⟩ := first_some e2
          have hl : ∀ i, l.rdx i = false := first_none e
          refine ⟨by show rdx (ap l r) ((j + l.sz) + 1) = true; rw [rdx, if_neg (by omega), show j + l.sz - l.sz = j from by omega]; exact h1, fun i hi => ?_⟩
          cases i with
          | zero => exact hb
          | succ i =>
            rw [rdx]
            split
            · exact hl i
            · exact h2 _ (by simp at hi; omega)
where first_none : ∀ {t : T}, t.first = none → ∀ k, t.rdx k = false
  | nm _, _, _ => rfl
  | bd x t, h, k => by
    cases e : t.first with
    | some j => rw [first, e] at h; cases h
    | none =>
      cases k with
      | zero => rfl
      | succ k => exact first_none e k
  | ap l r, h, k => by
    rw [first] at h
    split at h
    · cases h
    · rename_i hb
      have hb : l.isBd = false := by simpa using hb
      cases e : l.first with
      | some j => rw [e] at h; cases h
      | none =>
        rw [e] at h
        cases e2 : r.first with
        | some j => rw [e2] at h; cases h
        | none =>
          cases k with
          | zero => exact hb
          | succ k =>
            rw [rdx]
            split
            · exact first_none e k
            · exact first_none e2 _
theorem head_first (t : T) : t.spots.head? = t.first := by
  have hs : t.spots = (List.range t.sz).filter fun k => t.rdx k := by
    unfold spots
    rw [nodes_len]
    apply List.filter_congr
    intro k _
    exact rdx_get t k
  rw [hs, List.head?_filter]
  cases e : t.first with
  | none =>
    rw [List.find?_eq_none]
    intro k _
    rw [first_some.first_none e k]
    simp
  | some k =>
    obtain ⟨h1, h2⟩ := first_some e
    rw [List.find?_range_eq_some]
    exact ⟨h1, List.mem_range.mpr (rdx_lt _ _ h1), fun j hj => by rw [h2 j hj]; rfl⟩
theorem stepd_first : ∀ t : T, t.stepd = t.first.map fun k => t.stp k
  | nm _ => rfl
  | bd x t => by
    rw [stepd, first, stepd_first t]
    cases t.first <;> rfl
  | ap (bd x b) r => rfl
  | ap (nm x) r => by
    rw [stepd, first, if_neg (by simp [isBd]), stepd_first r]
    show _ = Option.map _ (match (none : Option Nat) with
      | some k => some (k + 1)
      | none => r.first.map (· + (0 + 1)))
    cases e : r.first with
    | none => rfl
    | some j =>
      simp
      rw [stp, if_neg (by simp [sz])]
      rfl
  | ap (ap l1 l2) r => by
    rw [stepd, first, if_neg (by simp [isBd]), stepd_first (ap l1 l2), stepd_first r]
    cases e : (ap l1 l2).first with
    | some j =>
      obtain ⟨h1, _⟩ := first_some e
      have := rdx_lt _ _ h1
      simp
      conv => rhs; rw [stp, if_pos (by omega)]
    | none =>
      cases e2 : r.first with
      | none => rfl
      | some j =>
        simp
        show _ = (ap (ap l1 l2) r).stp ((j + (ap l1 l2).sz) + 1)
        conv => rhs; rw [stp, if_neg (by omega), show j + (ap l1 l2).sz - (ap l1 l2).sz = j from by omega]
theorem stepd_spots (t : T) : t.stepd = match t.spots with
    | [] => none
    | k :: _ => some (t.stp k) := by
  rw [stepd_first, ← head_first]
  cases t.spots <;> rfl
end T
end K90

set_option Elab.async false
set_option linter.all false
set_option maxRecDepth 100000
set_option maxHeartbeats 4000000
/-! k90: rows of steps, what the defs compute. -/
namespace K90
open PySem PySem.Spec L2 Mini Mq
/-! ### stepped -/
theorem g11 (X : Mi) {w : W} {M : List O} (h4 : ∀ (s : T) M, s.sz ≤ 90 → pcall (w.run 4) [.d s.d] M = .ok (.d (.int s.sz)) M)
    (h8 : ∀ (s o : T) x M, s.sz ≤ 90 → x ∈ s.frees → pcall (w.run 8) [.d s.d, .d (.str x), .d o.d] M = .ok (.d (s.put x o).d) M) : ∀ (t : T) (k : Nat), t.rdxL k → t.sz ≤ 90 →
    (∀ (s : T) (j : Nat), s.ht < t.ht → s.sz ≤ t.sz → s.rdxL j → ∀ M, pcall (w.run 11) [.d s.d, .d (.int (j : Nat))] M = .ok (.d (s.stp j).d) M) → X.go F11 w [.d t.d, .d (.int (k : Nat))] M = .ok (.d (t.stp k).d) M
  | .nm _, _, h, _, _ => by cases h
  | .bd _ _, 0, h, _, _ => by cases h
  | .bd x t, k + 1, h, hz, ih => by
    have h1 := fun M => ih t k (by simp [T.ht]) (by simp [T.sz]) h M
    simp [Mi.go, F11, B11, T.stp, c1, h1]
  | .ap l r, 0, h, hz, ih => by
    rcases l with y | ⟨y, b⟩ | ⟨l1, l2⟩
    · cases h
    · have h1 := fun M => h8 b r y M (by simp [T.sz] at hz ⊢; omega) h
      simp [Mi.go, F11, B11, T.stp, h1]
    · cases h
  | .ap l r, k + 1, h, hz, ih => by
    have h2 := fun M => h4 l M (by simp [T.sz] at hz; omega)
    rw [T.rdxL] at h
    by_cases hk : k + 1 ≤ l.sz
    · rw [if_pos hk] at h
      have h1 := fun M => ih l k (by simp [T.ht]; omega) (by simp [T.sz]; omega) h M
      have hk2 : (k : Int) + 1 ≤ l.sz := by omega
      simp [Mi.go, F11, B11, T.stp, c1, h1, h2, hk, hk2]
    · rw [if_neg hk] at h
      have h1 := fun M => ih r (k - l.sz) (by simp [T.ht]; omega) (by simp [T.sz]; omega) h M
      have hk2 : ¬ (k : Int) + 1 ≤ l.sz := by omega
      have hk3 : (k : Int) - l.sz = ((k - l.sz : Nat) : Int) := by omega
      simp [Mi.go, F11, B11, T.stp, c1, h1, h2, hk, hk2, hk3]
theorem p8 {n : Nat} {t o : T} {x : Str} {M : List O} (hz : t.sz ≤ 90) (hn : t.ht < n + 3) (hx : x ∈ t.frees) : pcall (prg.run (n + 4) 8) [.d t.d, .d (.str x), .d o.d] M = .ok (.d (t.put x o).d) M := Ret.tmd (r8 n t o x hz hn hx)
theorem r11 : ∀ (n : Nat) (t : T) (k : Nat), t.ht ≤ n → t.sz ≤ 90 → t.rdxL k → Ret (prg.run (n + 95) 11) [t.d, .int (k : Nat)] (t.stp k).d
  | 0, t, k, hn, hz, h => by
    rcases t with y | ⟨y, b⟩ | ⟨l, r⟩
    · cases h
    · simp [T.ht] at hn
    · simp [T.ht] at hn
  | n + 1, t, k, hn, hz, h => Ret.ok_tm (M2 := []) (by
    rw [show n + 1 + 95 = (n + 95) + 1 from by omega, prg.run_eq (n + 95) 11 F11 rfl]
    exact g11 mi (fun s M hs => p4 (n := n + 92) hs M) (fun s o x M hs hx => p8 (n := n + 91) hs (by have := s.ht_le_sz; omega) hx) t k h hz fun s j h1 h2 h3 M => Ret.tmd (r11 n s j (by omega) (by omega) h3))
/-! ### normal, normal_loose -/
theorem shaped_nd (xs : List Nat) : SeqAt.shaped (D.lst (nd xs)).py = true := by
  have h1 : ∀ xs : List Nat, PyData.canLayAll0 (D.pys (nd xs)) = true ∧ PyData.depthAll (D.pys (nd xs)) = 0 := by
    intro xs
    induction xs with
    | nil => exact ⟨rfl, rfl⟩
    | cons x r ih =>
      have e : D.pys (nd (x :: r)) = PyData.int (x : Int) :: D.pys (nd r) := rfl
      rw [e]
      simp [PyData.canLayAll0, PyData.canLay0, PyData.depthAll, PyData.depth, ih]
  have e : (D.lst (nd xs)).py = PyData.list (D.pys (nd xs)) := rfl
  unfold SeqAt.shaped
  rw [e]
  simp [PyData.canLay0, PyData.depth, h1 xs]
def whT : Mini.E := Mini.E.cmp Mini.Cmp.ne (Mini.E.var 3) (Mini.E.lst [])
def whB (i : Nat) : List Mini.S := [Mini.S.asg (Mini.Tg.one 2)
              (Mini.E.call i [Mini.E.var 2, (Mini.E.var 3).ix (Mini.E.cst (Mini.D.int (Int.ofNat 0)))] [] []),
            Mini.S.aug 1 Mini.Bin.add (Mini.E.cst (Mini.D.int (Int.ofNat 1))),
            Mini.S.asg (Mini.Tg.one 3) (Mini.E.call 10 [Mini.E.var 2] [] [])]
@[simp] theorem nd_empty (xs : List Nat) : (nd xs).isEmpty = xs.isEmpty := by cases xs <;> rfl
@[simp] theorem sd_empty (xs : List Str) : (sd xs).isEmpty = xs.isEmpty := by cases xs <;> rfl
theorem whL (X : Mi) {w : W} {z : A} {i : Nat} {G : T → Prop} (hG : ∀ t, G t → t.ok ∧ t.sz ≤ 90 ∧ ∀ k ∈ t.spots, G (t.stp k))
    (h10 : ∀ (s : T) M, s.sz ≤ 90 → pcall (w.run 10) [.d s.d] M = .ok (.cell M.length) (M ++ [.lst (ad (nd s.spots))]))
    (hi : ∀ (s : T) k M, G s → k ∈ s.spots → pcall (w.run i) [.d s.d, .d (.int (k : Nat))] M = .ok (.d (s.stp k).d) M) :
    ∀ (n : Nat) (t : T) (s c : Nat) (M : List O), G t → t.sz < n → M[c]? = some (.lst (ad (nd t.spots))) →
      ∃ c' M', whlR (X.evT w whT) (X.exs w (whB i)) n [z, .d (.int (s : Nat)), .d t.d, .cell c] M = .nx [z, .d (.int ((T.nrm n t s).2 : Nat)), .d (T.nrm n t s).1.d, .cell c'] M'
  | 0, t, s, c, M, hg, hn, _ => absurd hn (Nat.not_lt_zero _)
  | n + 1, t, s, c, M, hg, hn, hc => by
    obtain ⟨ho, hz, hs⟩ := hG t hg
    have hcl := (List.getElem?_eq_some_iff.mp hc).1
    have hc2 : (M ++ [O.lst (ad [])])[c]? = some (.lst (ad (nd t.spots))) := by rw [List.getElem?_append_left hcl]; exact hc
    have he : eqA (.cell c) (.cell M.length) (M ++ [O.lst (ad [])]) = some (nd t.spots).isEmpty := eqA_nil (.inl hc2) (by simp) (shaped_nd _)
    rw [whlR_succ]
    cases e : t.spots with
    | nil =>
      refine ⟨c, M ++ [O.lst (ad [])], ?_⟩
      simp [whT, he, e, T.nrm]
    | cons k r =>
      have hk : k ∈ t.spots := by rw [e]; exact List.mem_cons_self ..
      have hg2 := hs k hk
      obtain ⟨h1, h2, h3⟩ := T.stp_ok ho (T.mem_spots.mp hk)
      have hz2 := (hG _ hg2).2.1
      have p1 := fun M => hi t k M hg hk
      have p2 := fun M => h10 (t.stp k) M hz2
      obtain ⟨c', M', ih⟩ := whL X (z := z) hG h10 hi n (t.stp k) (s + 1) (M ++ [O.lst (ad [])]).length ((M ++ [O.lst (ad [])]) ++ [.lst (ad (nd (t.stp k).spots))]) hg2 (by omega) (by simp)
      refine ⟨c', M', ?_⟩
      rw [e] at hc2
      have e1 : X.exs w (whB i) [z, .d (.int (s : Nat)), .d t.d, .cell c] (M ++ [O.lst (ad [])]) = .nx [z, .d (.int ((s + 1 : Nat) : Int)), .d (t.stp k).d, .cell (M ++ [O.lst (ad [])]).length] ((M ++ [O.lst (ad [])]) ++ [.lst (ad (nd (t.stp k).spots))]) := by
        simp [whB, hc2, p1, p2, augF]
      simp [whT, he, e, T.nrm]
      rw [e1]
      simp
      simpa [whT] using ih
theorem g20b (X : Mi) {w : W} {t t' : T} {s' : Nat} {c' : Nat} {M' : List O} (hw : w.turns = 200)
    (h10 : ∀ M, pcall (w.run 10) [.d t.d] M = .ok (.cell M.length) (M ++ [.lst (ad (nd t.spots))]))
    (h : whlR (X.evT w whT) (X.exs w (whB 18)) 200 [.d t.d, .d (.int ((0 : Nat) : Int)), .d t.d, .cell 0] [.lst (ad (nd t.spots))] = .nx [.d t.d, .d (.int (s' : Nat)), .d t'.d, .cell c'] M') :
    X.go F20 w [.d t.d] [] = .ok (.d (.tup [t'.d, .int (s' : Nat)])) M' := by
  simp [whT, whB] at h
  simp [Mi.go, F20, B20, hw, h10, h]
theorem g12b (X : Mi) {w : W} {t t' : T} {s' : Nat} {c' : Nat} {M' : List O} (hw : w.turns = 200)
    (h10 : ∀ M, pcall (w.run 10) [.d t.d] M = .ok (.cell M.length) (M ++ [.lst (ad (nd t.spots))]))
    (h : whlR (X.evT w whT) (X.exs w (whB 11)) 200 [.d t.d, .d (.int ((0 : Nat) : Int)), .d t.d, .cell 0] [.lst (ad (nd t.spots))] = .nx [.d t.d, .d (.int (s' : Nat)), .d t'.d, .cell c'] M') :
    X.go F12 w [.d t.d] [] = .ok (.d (.tup [t'.d, .int (s' : Nat)])) M' := by
  simp [whT, whB] at h
  simp [Mi.go, F12, B12, hw, h10, h]
theorem p18 {n : Nat} {t : T} {k : Nat} {M : List O} (hn : t.ht ≤ n) (hz : t.sz ≤ 90) (hk : t.rdx k = true) : pcall (prg.run (n + 92) 18) [.d t.d, .d (.int (k : Nat))] M = .ok (.d (t.stp k).d) M := Ret.tmd (r18 n t k hn hz hk)
theorem p11 {n : Nat} {t : T} {k : Nat} {M : List O} (hn : t.ht ≤ n) (hz : t.sz ≤ 90) (hk : t.rdxL k) : pcall (prg.run (n + 95) 11) [.d t.d, .d (.int (k : Nat))] M = .ok (.d (t.stp k).d) M := Ret.tmd (r11 n t k hn hz hk)
theorem r20 (n : Nat) (t : T) (ho : t.ok) (hz : t.sz ≤ 30) : Ret (prg.run (n + 123) 20) [t.d] (.tup [(T.nrm 200 t 0).1.d, .int ((T.nrm 200 t 0).2 : Nat)]) := by
  have hG : ∀ t : T, (t.ok ∧ t.sz ≤ 30) → t.ok ∧ t.sz ≤ 90 ∧ ∀ k ∈ t.spots, (t.stp k).ok ∧ (t.stp k).sz ≤ 30 := fun t h => ⟨h.1, by omega, fun k hk => by
    obtain ⟨h1, _, h3⟩ := T.stp_ok h.1 (T.mem_spots.mp hk)
    exact ⟨h1, by omega⟩⟩
  obtain ⟨c', M', h⟩ := whL mi (w := ⟨prg.run (n + 122), prg.sub, prg.turns⟩) (z := .d t.d) (i := 18) hG (fun s M hs => p10 (n := n + 119) hs M) (fun s k M hs hk => p18 (n := n + 30) (by have := s.ht_le_sz; omega) (by omega) (T.mem_spots.mp hk)) 200 t 0 0 [.lst (ad (nd t.spots))] ⟨ho, hz⟩ (by omega) rfl
  refine ⟨M', ?_⟩
  rw [prg.run_eq (n + 122) 20 F20 rfl]
  exact g20b mi (w := ⟨prg.run (n + 122), prg.sub, prg.turns⟩) rfl (fun M => p10 (n := n + 119) (t := t) (by omega) M) h
theorem lin_G (t : T) (h : t.ok ∧ t.lin ∧ t.sz ≤ 30) : t.ok ∧ t.sz ≤ 90 ∧ ∀ k ∈ t.spots, (t.stp k).ok ∧ (t.stp k).lin ∧ (t.stp k).sz ≤ 30 := ⟨h.1, by omega, fun k hk => by
    obtain ⟨h1, _, h3⟩ := T.stp_ok h.1 (T.mem_spots.mp hk)
    exact ⟨h1, (T.step_lin (T.stp_step t k (T.mem_spots.mp hk)) h.1 h.2.1).1, by omega⟩⟩
theorem r12 (n : Nat) (t : T) (ho : t.ok) (hl : t.lin) (hz : t.sz ≤ 30) : Ret (prg.run (n + 126) 12) [t.d] (.tup [(T.nrm 200 t 0).1.d, .int ((T.nrm 200 t 0).2 : Nat)]) := by
  obtain ⟨c', M', h⟩ := whL mi (w := ⟨prg.run (n + 125), prg.sub, prg.turns⟩) (z := .d t.d) (i := 11) lin_G (fun s M hs => p10 (n := n + 122) hs M) (fun s k M hs hk => p11 (n := n + 30) (by have := s.ht_le_sz; omega) (by omega) (T.rdxL_of hs.1 hs.2.1 (T.mem_spots.mp hk))) 200 t 0 0 [.lst (ad (nd t.spots))] ⟨ho, hl, hz⟩ (by omega) rfl
  refine ⟨M', ?_⟩
  rw [prg.run_eq (n + 125) 12 F12 rfl]
  exact g12b mi (w := ⟨prg.run (n + 125), prg.sub, prg.turns⟩) rfl (fun M => p10 (n := n + 122) (t := t) (by omega) M) h
end K90

set_option Elab.async false
set_option linter.all false
set_option maxRecDepth 100000
set_option maxHeartbeats 4000000
/-! k90: step_loose, the law's own steps, thrown names. -/
namespace K90
open PySem PySem.Spec L2 Mini Mq
abbrev sNotReady : Str := { cps := { toList := [78, 111, 116, 82, 101, 97, 100, 121] } }
/-! ### step_loose -/
theorem g19 (X : Mi) {w : W} {t : T} {k : Nat} {M : List O} (hk : k ∈ t.spots) (h10 : ∀ M, pcall (w.run 10) [.d t.d] M = .ok (.cell M.length) (M ++ [.lst (ad (nd t.spots))])) (h18 : ∀ M, pcall (w.run 18) [.d t.d, .d (.int (k : Nat))] M = .ok (.d (t.stp k).d) M) :
    X.go F19 w [.d t.d, .d (.int (k : Nat))] M = .ok (.d (t.stp k).d) (M ++ [.lst (ad (nd t.spots))]) := by
  simp [Mi.go, F19, B19, h10, h18, hk]
theorem g19x (X : Mi) {w : W} {t : T} {k : Nat} {M : List O} (hk : k ∉ t.spots) (h10 : ∀ M, pcall (w.run 10) [.d t.d] M = .ok (.cell M.length) (M ++ [.lst (ad (nd t.spots))])) :
    X.go F19 w [.d t.d, .d (.int (k : Nat))] M = .ex ⟨sNotReady, []⟩ (M ++ [.lst (ad (nd t.spots))]) := by
  simp [Mi.go, F19, B19, h10, hk]
theorem r19 (n : Nat) (t : T) (k : Nat) (hz : t.sz ≤ 30) (hk : k ∈ t.spots) : Ret (prg.run (n + 123) 19) [t.d, .int (k : Nat)] (t.stp k).d := Ret.ok_tm (by
  rw [prg.run_eq (n + 122) 19 F19 rfl]
  exact g19 mi hk (fun M => p10 (n := n + 119) (by omega) M) fun M => p18 (n := n + 30) (by have := t.ht_le_sz; omega) (by omega) (T.mem_spots.mp hk))
theorem x19 (n : Nat) (t : T) (k : Nat) (hz : t.sz ≤ 30) (hk : k ∉ t.spots) : Exc (prg.run (n + 123) 19) [t.d, .int (k : Nat)] ⟨sNotReady, []⟩ := ⟨_, by
  rw [prg.run_eq (n + 122) 19 F19 rfl]
  exact g19x mi hk (fun M => p10 (n := n + 119) (by omega) M)⟩
theorem g39 (X : Mi) {w : W} {t : T} {k : Nat} (hs : w.sub sNotReady sNotReady = true) (h19 : ∀ M, pcall (w.run 19) [.d t.d, .d (.int (k : Nat))] M = .ex ⟨sNotReady, []⟩ M) : X.go F39 w [.d t.d, .d (.int (k : Nat))] [] = .ok (.d (.bl true)) [] := by
  simp [Mi.go, F39, B39, h19, clsR, hs, xev]
theorem p39 {n : Nat} {t : T} {k : Nat} {M : List O} (hz : t.sz ≤ 30) (hk : k ∉ t.spots) : pcall (prg.run (n + 124) 39) [.d t.d, .d (.int (k : Nat))] M = .ok (.d (.bl true)) M := by
  have h : Ret (prg.run (n + 124) 39) [t.d, .int (k : Nat)] (.bl true) := ⟨[], by
    rw [prg.run_eq (n + 123) 39 F39 rfl]
    exact g39 mi (by show prg.sub sNotReady sNotReady = true; decide +kernel) fun M => (x19 n t k hz hk).call (by simp)⟩
  exact h.sc rfl (by simp)
/-! ### _law_stepped, _law_end -/
def od : Option T → D
  | none => .non
  | some t => t.d
theorem g32 (X : Mi) {w : W} {M : List O} (h31 : ∀ (s o : T) x M, s.ht ≤ 90 → pcall (w.run 31) [.d s.d, .d (.str x), .d o.d] M = .ok (.d (s.put x o).d) M) : ∀ t : T, t.ht ≤ 90 →
    (∀ s : T, s.ht < t.ht → ∀ M, pcall (w.run 32) [.d s.d] M = .ok (.d (od s.stepd)) M) → X.go F32 w [.d t.d] M = .ok (.d (od t.stepd)) M
  | .nm _, _, _ => by simp [Mi.go, F32, B32, T.stepd, od]
  | .bd x t, hz, h => by
    have h1 := fun M => h t (by simp [T.ht]) M
    cases e : t.stepd with
    | none => simp [Mi.go, F32, B32, T.stepd, od, h1, e]
    | some u =>
      obtain ⟨us, hu⟩ := u.d_tup
      simp [Mi.go, F32, B32, T.stepd, od, h1, e, hu]
  | .ap (.bd x b) r, hz, h => by
    have h1 := fun M => h31 b r x M (by simp [T.ht] at hz; omega)
    simp [Mi.go, F32, B32, T.stepd, od, h1]
  | .ap (.nm x) r, hz, h => by
    have h1 := fun M => h (.nm x) (by simp [T.ht]) M
    simp [od, T.stepd] at h1
    have h2 := fun M => h r (by simp [T.ht]) M
    cases e : r.stepd with
    | none => simp [Mi.go, F32, B32, T.stepd, od, h1, h2, e]
    | some u =>
      obtain ⟨us, hu⟩ := u.d_tup
      simp [Mi.go, F32, B32, T.stepd, od, h1, h2, e, hu]
  | .ap (.ap l1 l2) r, hz, h => by
    have h1 := fun M => h (.ap l1 l2) (by simp [T.ht]; omega) M
    have h2 := fun M => h r (by simp [T.ht]; omega) M
    simp only [T.d_ap] at h1
    cases e1 : (T.ap l1 l2).stepd with
    | none =>
      rw [e1] at h1
      cases e : r.stepd with
      | none => rw [e] at h2; simp only [od] at h1 h2; simp [Mi.go, F32, B32, T.stepd.eq_5, od, h1, h2, e, e1]
      | some u =>
        obtain ⟨us, hu⟩ := u.d_tup
        rw [e] at h2; simp only [od] at h1 h2
        simp [Mi.go, F32, B32, T.stepd.eq_5, od, h1, h2, e, e1, hu]
    | some u =>
      obtain ⟨us, hu⟩ := u.d_tup
      rw [e1] at h1
      simp only [od] at h1
      simp [Mi.go, F32, B32, T.stepd.eq_5, od, h1, e1, hu]
theorem Ret.od {run : List A → List O → Mini.R A} {ds : List D} {t : Option T} {M : List O} (h : Ret run ds (od t)) : pcall run (ad ds) M = .ok (.d (K90.od t)) M := by
  cases t with
  | none => exact h.sc rfl (by simp)
  | some t => exact Ret.tmd h
theorem r32 : ∀ (n : Nat) (t : T), t.ht < n → t.ht ≤ 90 → Ret (prg.run (n + 91) 32) [t.d] (od t.stepd)
  | 0, t, h, _ => absurd h (Nat.not_lt_zero _)
  | n + 1, t, h, hz => Ret.nl ⟨[], by
    rw [show n + 1 + 91 = (n + 91) + 1 from by omega, prg.run_eq (n + 91) 32 F32 rfl]
    exact g32 mi (fun s o x M hs => Ret.tmd (r31 (n + 91) s (by omega))) t hz fun s hs M => Ret.od (r32 n s (by omega) (by omega))⟩ (by
      cases t.stepd with
      | none => simp [od]
      | some u => cases u <;> simp [od])
theorem p32 {n : Nat} {t : T} {M : List O} (h : t.ht < n) (hz : t.ht ≤ 90) : pcall (prg.run (n + 91) 32) [.d t.d] M = .ok (.d (od t.stepd)) M := Ret.od (r32 n t h hz)
def foB33 : List Mini.S := [Mini.S.asg (Mini.Tg.one 4) (Mini.E.call 32 [Mini.E.var 1] [] []),
            Mini.S.ifS (Mini.E.cmp Mini.Cmp.isN (Mini.E.var 4) (Mini.E.cst Mini.D.non)) [Mini.S.brk] [],
            Mini.S.asg (Mini.Tg.one 1) (Mini.E.var 4),
            Mini.S.asg (Mini.Tg.one 2)
              (Mini.E.bin Mini.Bin.add (Mini.E.var 2) (Mini.E.cst (Mini.D.int (Int.ofNat 1))))]
theorem f33 (X : Mi) {w : W} {z : A} {M : List O} (h32 : ∀ (s : T) M, s.ok ∧ s.sz ≤ 30 → pcall (w.run 32) [.d s.d] M = .ok (.d (od s.stepd)) M) :
    ∀ (xs : List Nat) (t : T) (s : Nat) (a b : A), t.ok ∧ t.sz ≤ 30 → ∃ a' b', forR (.one 3) (X.exs w foB33) (nd xs) [z, .d t.d, .d (.int (s : Nat)), a, b] M = .nx [z, .d (T.nrm xs.length t s).1.d, .d (.int ((T.nrm xs.length t s).2 : Nat)), a', b'] M
  | [], t, s, a, b, _ => ⟨a, b, rfl⟩
  | x :: r, t, s, a, b, hg => by
    have h1 := fun M => h32 t M hg
    rw [T.stepd_spots] at h1
    show ∃ a' b', forR (.one 3) (X.exs w foB33) (D.int (x : Nat) :: nd r) [z, .d t.d, .d (.int (s : Nat)), a, b] M = _
    rw [forR_cons]
    cases e : t.spots with
    | nil =>
      rw [e] at h1
      simp only [od] at h1
      refine ⟨.d (.int (x : Nat)), .d .non, ?_⟩
      simp [foB33, h1, T.nrm, e]
    | cons k q =>
      rw [e] at h1
      simp only [od] at h1
      have hk : k ∈ t.spots := by rw [e]; exact List.mem_cons_self ..
      obtain ⟨h3, _, h4⟩ := T.stp_ok hg.1 (T.mem_spots.mp hk)
      obtain ⟨a', b', ih⟩ := f33 X h32 r (t.stp k) (s + 1) (.d (.int (x : Nat))) (.d (t.stp k).d) ⟨h3, by omega⟩
      refine ⟨a', b', ?_⟩
      have e1 : X.exs w foB33 [z, .d t.d, .d (.int (s : Nat)), .d (.int (x : Nat)), b] M = .nx [z, .d (t.stp k).d, .d (.int ((s + 1 : Nat) : Int)), .d (.int (x : Nat)), .d (t.stp k).d] M := by
        obtain ⟨us, hu⟩ := (t.stp k).d_tup
        rw [hu] at h1 ⊢
        simp [foB33, h1]
      simp [e1, T.nrm, e]
      simpa using ih
theorem g33 (X : Mi) {w : W} {t : T} (ho : t.ok ∧ t.sz ≤ 30) (h28 : ∀ M, pcall (w.run 28) [.d t.d] M = .ok (.d (.int t.sz)) M) (h32 : ∀ (s : T) M, s.ok ∧ s.sz ≤ 30 → pcall (w.run 32) [.d s.d] M = .ok (.d (od s.stepd)) M) :
    X.go F33 w [.d t.d] [] = .ok (.d (.tup [(T.nrm (t.sz + 1) t 0).1.d, .int ((T.nrm (t.sz + 1) t 0).2 : Nat)])) [] := by
  obtain ⟨a', b', h⟩ := f33 X (z := .d t.d) (M := []) h32 (List.range (t.sz + 1)) t 0 .un .un ho
  have hi : items .r1 [.d (.int ((t.sz : Int) + 1))] [] = some (nd (List.range (t.sz + 1)), []) := by
    have := items_r1 (j := t.sz + 1) (M := [])
    rw [inR_nat (by omega)] at this
    simpa using this
  simp [foB33] at h
  simp [Mi.go, F33, B33, h28, hi, h]
theorem r33 (n : Nat) (t : T) (ho : t.ok) (hz : t.sz ≤ 30) : Ret (prg.run (n + 123) 33) [t.d] (.tup [(T.nrm (t.sz + 1) t 0).1.d, .int ((T.nrm (t.sz + 1) t 0).2 : Nat)]) := ⟨[], by
  rw [prg.run_eq (n + 122) 33 F33 rfl]
  exact g33 mi ⟨ho, hz⟩ (fun M => (r28 (n + 122) t (by have := t.ht_le_sz; omega)).sc rfl (by simp)) fun s M hs => p32 (n := n + 31) (by have := s.ht_le_sz; omega) (by have := s.ht_le_sz; omega)⟩
/-! ### _law_done -/
theorem set_same {M : List O} {c : Nat} {x : O} (h : M[c]? = some x) : M.set c x = M := by
  apply List.ext_getElem?
  intro i
  by_cases e : c = i
  · subst e
    rw [List.getElem?_set_self (List.getElem?_eq_some_iff.mp h).1, h]
  · rw [List.getElem?_set_ne e]
def Dn (run : List A → List O → Mini.R A) (t : T) : Prop := ∀ (wanted h c : Nat) (M : List O), M[c]? = some (.lst (ad [.int (h : Nat)])) →
  ((wanted < h ∨ h + t.sz ≤ wanted) → run [.d t.d, .d (.int (wanted : Nat)), .cell c] M = .ok (.d t.d) (M.set c (.lst (ad [.int ((h + t.sz : Nat) : Int)])))) ∧
  (h ≤ wanted → t.rdx (wanted - h) = true → ∃ h' : Nat, wanted < h' ∧ run [.d t.d, .d (.int (wanted : Nat)), .cell c] M = .ok (.d (t.stp (wanted - h)).d) (M.set c (.lst (ad [.int (h' : Nat)]))))
theorem seqIx0 : seqIndex? 0 1 = some 0 := by decide
theorem g37 (X : Mi) {w : W} (h31 : ∀ (s o : T) x M, s.ht ≤ 90 → pcall (w.run 31) [.d s.d, .d (.str x), .d o.d] M = .ok (.d (s.put x o).d) M) : ∀ t : T, t.ht ≤ 90 → (∀ s : T, s.ht < t.ht → Dn (w.run 37) s) → Dn (X.go F37 w) t
  | .nm x, _, _ => by
    intro wanted h c M hM
    refine ⟨fun _ => ?_, fun _ q => by cases q⟩
    rw [show h + (T.nm x).sz = h from rfl, set_same hM]
    simp [Mi.go, F37, B37]
  | .bd x t, hz, ih => by
    intro wanted h c M hM
    have hcl := (List.getElem?_eq_some_iff.mp hM).1
    have i1 := ih t (by simp [T.ht]) wanted (h + 1) c (M.set c (.lst (ad [.int ((h + 1 : Nat) : Int)]))) (by rw [List.getElem?_set_self hcl])
    refine ⟨fun hw => ?_, fun hw hr => ?_⟩
    · have e1 := i1.1 (by simp [T.sz] at hw; omega)
      have hne : ¬ (h : Int) = wanted := by simp [T.sz] at hw; omega
      have e2 : h + 1 + t.sz = h + (T.bd x t).sz := by simp [T.sz]; omega
      rw [e2] at e1
      simp at e1
      have hR : inR 0 = true := rfl
      simp [Mi.go, F37, B37, hM, seqIx0, hR, hne, e1]
    · cases hk : wanted - h with
      | zero => rw [hk] at hr; cases hr
      | succ j =>
        rw [hk] at hr
        obtain ⟨h', h1, e1⟩ := i1.2 (by omega) (by rw [show wanted - (h + 1) = j from by omega]; exact hr)
        rw [show wanted - (h + 1) = j from by omega] at e1
        have hne : ¬ (h : Int) = wanted := by omega
        refine ⟨h', h1, ?_⟩
        simp at e1
        have hR : inR 0 = true := rfl
        simp [Mi.go, F37, B37, hM, seqIx0, hR, hne, e1, T.stp]
  | .ap l r, hz, ih => by
    intro wanted h c M hM
    have hcl := (List.getElem?_eq_some_iff.mp hM).1
    have i1 := ih l (by simp [T.ht]; omega) wanted (h + 1) c (M.set c (.lst (ad [.int ((h + 1 : Nat) : Int)]))) (by rw [List.getElem?_set_self hcl])
    have i2 := fun j : Nat => ih r (by simp [T.ht]; omega) wanted j c (M.set c (.lst (ad [.int (j : Int)]))) (by rw [List.getElem?_set_self hcl])
    have hR : inR 0 = true := rfl
    refine ⟨fun hw => ?_, fun hw hr => ?_⟩
    · have e1 := i1.1 (by simp [T.sz] at hw; omega)
      have e2 := (i2 (h + 1 + l.sz)).1 (by simp [T.sz] at hw; omega)
      have hne : ¬ (h : Int) = wanted := by simp [T.sz] at hw; omega
      rw [show h + 1 + l.sz + r.sz = h + (T.ap l r).sz from by simp [T.sz]; omega] at e2
      simp at e1 e2
      simp [Mi.go, F37, B37, hM, seqIx0, hR, hne, e1, e2]
    · cases hk : wanted - h with
      | zero =>
        rw [hk] at hr
        have : wanted = h := by omega
        subst this
        rcases l with y | ⟨y, b⟩ | ⟨l1, l2⟩
        · cases hr
        · have h1 := fun M => h31 b r y M (by simp [T.ht] at hz; omega)
          refine ⟨wanted + 1, by omega, ?_⟩
          simp [Mi.go, F37, B37, hM, seqIx0, hR, h1, T.stp]
        · cases hr
      | succ j =>
        rw [hk] at hr
        have hne : ¬ (h : Int) = wanted := by omega
        rw [T.rdx] at hr
        by_cases hj : j + 1 ≤ l.sz
        · rw [if_pos hj] at hr
          obtain ⟨h', h1, e1⟩ := i1.2 (by omega) (by rw [show wanted - (h + 1) = j from by omega]; exact hr)
          rw [show wanted - (h + 1) = j from by omega] at e1
          have e2 := (i2 h').1 (.inl h1)
          refine ⟨h' + r.sz, by omega, ?_⟩
          simp at e1 e2
          simp [Mi.go, F37, B37, hM, seqIx0, hR, hne, e1, e2, T.stp, hj]
        · rw [if_neg hj] at hr
          have e1 := i1.1 (.inr (by omega))
          obtain ⟨h', h1, e2⟩ := (i2 (h + 1 + l.sz)).2 (by omega) (by rw [show wanted - (h + 1 + l.sz) = j - l.sz from by omega]; exact hr)
          rw [show wanted - (h + 1 + l.sz) = j - l.sz from by omega] at e2
          refine ⟨h', h1, ?_⟩
          simp at e1 e2
          simp [Mi.go, F37, B37, hM, seqIx0, hR, hne, e1, e2, T.stp, hj]
theorem r37 : ∀ (n : Nat) (t : T), t.ht < n → t.ht ≤ 90 → Dn (prg.run (n + 91) 37) t
  | 0, t, h, _ => absurd h (Nat.not_lt_zero _)
  | n + 1, t, h, hz => by
    intro wanted h' c M hM
    rw [show n + 1 + 91 = (n + 91) + 1 from by omega, prg.run_eq (n + 91) 37 F37 rfl]
    exact g37 mi (fun s o x M hs => Ret.tmd (r31 (n + 91) s (by omega))) t hz (fun s hs => r37 n s (by omega) (by omega)) wanted h' c M hM
end K90

set_option Elab.async false
set_option linter.all false
set_option maxRecDepth 100000
set_option maxHeartbeats 4000000
/-! k90: dicts, _law_same, thrown names, check_loose. -/
namespace Mq
open PySem PySem.Spec L2 Mini
theorem valA_nil (k : Key) : valA [] k = none := rfl
theorem valA_cons (p : Key × A) (r : List (Key × A)) (k : Key) : valA (p :: r) k = if p.1 = k then some p.2 else valA r k := by
  unfold valA
  rw [List.find?_cons]
  by_cases h : p.1 = k
  · simp [h]
  · simp [h]
theorem valA_putA (kvs : List (Key × A)) (k j : Key) (v : A) : valA (putA kvs k v) j = if k = j then some v else valA kvs j := by
  unfold putA
  split
  · rename_i h
    induction kvs with
    | nil => simp at h
    | cons p r ih =>
      rw [List.map_cons, valA_cons, valA_cons]
      by_cases hp : p.1 = k
      · simp only [hp, if_true]
        by_cases hj : k = j
        · simp [hj]
        · simp only [hj, if_false]
          by_cases hr : (r.any fun kv => decide (kv.1 = k)) = true
          · rw [ih hr, if_neg hj]
          · have : r.map (fun kv => if kv.1 = k then (kv.1, v) else kv) = r := by
              have h2 : ∀ q ∈ r, (if q.1 = k then (q.1, v) else q) = q := fun q hq => by
                rw [if_neg]
                intro e
                exact hr (List.any_eq_true.mpr ⟨q, hq, by simp [e]⟩)
              rw [List.map_congr_left h2, List.map_id']
            rw [this]
      · simp only [hp, if_false]
        have hr : (r.any fun kv => decide (kv.1 = k)) = true := by
          rw [List.any_cons] at h
          simpa [hp] using h
        rw [ih hr]
        by_cases hj : k = j
        · subst hj
          simp [hp]
        · simp [hj]
  · rename_i h
    induction kvs with
    | nil => rw [List.nil_append, valA_cons]
    | cons p r ih =>
      rw [List.any_cons] at h
      have hp : ¬ p.1 = k := fun e => h (by simp [e])
      have hr : ¬ (r.any fun kv => decide (kv.1 = k)) = true := fun e => h (by simp [e])
      rw [List.cons_append, valA_cons, ih hr, valA_cons]
      by_cases hj : k = j
      · subst hj; simp [hp]
      · simp [hj]
theorem putA_len (kvs : List (Key × A)) (k : Key) (v : A) : (putA kvs k v).length ≤ kvs.length + 1 := by
  unfold putA
  split
  · simp
  · simp
theorem ixt {ds : List D} {i : Int} {M : List O} : ixA M (.d (.tup ds)) (.d (.int i)) = match atI ds i with
    | some x => .ok (.d x) M
    | none => .no := rfl
end Mq
namespace K90
open PySem PySem.Spec L2 Mini Mq
/-! ### _law_same: equal things are the same -/
inductive Pl : Nat → D → Prop
  | non {n : Nat} : Pl n .non
  | bl {n : Nat} (b : Bool) : Pl n (.bl b)
  | int {n : Nat} (i : Int) : Pl n (.int i)
  | str {n : Nat} (x : Str) : Pl n (.str x)
  | tup {n : Nat} (ds : List D) : ds.length ≤ 1000 → (∀ d ∈ ds, Pl n d) → Pl (n + 1) (.tup ds)
  | lst {n : Nat} (ds : List D) : ds.length ≤ 1000 → (∀ d ∈ ds, Pl n d) → Pl (n + 1) (.lst ds)
theorem Pl.mono {n : Nat} {d : D} (h : Pl n d) : ∀ {m : Nat}, n ≤ m → Pl m d := by
  induction h with
  | non => intros; exact .non
  | bl b => intros; exact .bl b
  | int i => intros; exact .int i
  | str x => intros; exact .str x
  | tup ds hl h ih =>
    intro m hm
    cases m with
    | zero => omega
    | succ m => exact .tup ds hl fun d hd => ih d hd (by omega)
  | lst ds hl h ih =>
    intro m hm
    cases m with
    | zero => omega
    | succ m => exact .lst ds hl fun d hd => ih d hd (by omega)
def foB24 : List Mini.S := [Mini.S.ifS (Mini.E.call 24 [(Mini.E.var 0).ix (Mini.E.var 2), (Mini.E.var 1).ix (Mini.E.var 2)] [] []).nt
              [Mini.S.ret (Mini.E.cst (Mini.D.bl false))] []]
theorem f24 (X : Mi) {w : W} {d : D} {ds : List D} {M : List O} (hd : d = .tup ds ∨ d = .lst ds) (h : ∀ x ∈ ds, ∀ M, pcall (w.run 24) [.d x, .d x] M = .ok (.d (.bl true)) M) :
    ∀ (xs : List Nat) (a b : A), (∀ k ∈ xs, k < ds.length) → ∃ a', forR (.one 2) (X.exs w foB24) (nd xs) [.d d, .d d, a, b] M = .nx [.d d, .d d, a', b] M
  | [], a, b, _ => ⟨a, rfl⟩
  | k :: r, a, b, hk => by
    have hk1 := hk k (List.mem_cons_self ..)
    have e1 : ds[k]? = some ds[k] := List.getElem?_eq_getElem hk1
    have h1 := fun M => h ds[k] (List.getElem_mem hk1) M
    generalize ds[k] = x at e1 h1
    obtain ⟨a', ih⟩ := f24 X (M := M) hd h r (.d (.int (k : Nat))) b fun j hj => hk j (List.mem_cons_of_mem _ hj)
    refine ⟨a', ?_⟩
    show forR (.one 2) (X.exs w foB24) (D.int (k : Nat) :: nd r) [.d d, .d d, a, b] M = _
    rw [forR_cons]
    have e2 : X.exs w foB24 [.d d, .d d, .d (.int (k : Nat)), b] M = .nx [.d d, .d d, .d (.int (k : Nat)), b] M := by
      rcases hd with rfl | rfl
      · simp [foB24, ixt, e1, h1]
      · simp [foB24, e1, h1]
    simp [e2, ih]
@[simp] theorem ty_non {M : List O} : tyOf M (.d .non) = some .non := rfl
@[simp] theorem ty_bl {M : List O} {b : Bool} : tyOf M (.d (.bl b)) = some .bool := rfl
@[simp] theorem ty_int {M : List O} {i : Int} : tyOf M (.d (.int i)) = some .int := rfl
@[simp] theorem ty_str {M : List O} {x : Str} : tyOf M (.d (.str x)) = some .str := rfl
@[simp] theorem ty_tup {M : List O} {ds : List D} : tyOf M (.d (.tup ds)) = some .tup := rfl
@[simp] theorem ty_lst {M : List O} {ds : List D} : tyOf M (.d (.lst ds)) = some .lst := rfl
theorem g24 (X : Mi) {w : W} {n : Nat} {d : D} {M : List O} (hd : Pl (n + 1) d) (h : ∀ x, Pl n x → ∀ M, pcall (w.run 24) [.d x, .d x] M = .ok (.d (.bl true)) M) : X.go F24 w [.d d, .d d] M = .ok (.d (.bl true)) M := by
  cases hd with
  | non => simp [Mi.go, F24, B24]
  | bl b => simp [Mi.go, F24, B24, Ty.sub]
  | int i => simp [Mi.go, F24, B24, Ty.sub]
  | str x => simp [Mi.go, F24, B24, Ty.sub]
  | tup ds hl hs =>
    obtain ⟨a', e⟩ := f24 X (d := .tup ds) (M := M) (.inl rfl) (fun x hx M => h x (hs x hx) M) (List.range ds.length) .un .un fun k hk => List.mem_range.mp hk
    have hi : inR (ds.length : Int) = true := inR_nat (by omega)
    simp [foB24] at e
    simp [Mi.go, F24, B24, Ty.sub, hi, e]
  | lst ds hl hs =>
    obtain ⟨a', e⟩ := f24 X (d := .lst ds) (M := M) (.inr rfl) (fun x hx M => h x (hs x hx) M) (List.range ds.length) .un .un fun k hk => List.mem_range.mp hk
    have hi : inR (ds.length : Int) = true := inR_nat (by omega)
    simp [foB24] at e
    simp [Mi.go, F24, B24, Ty.sub, hi, e]
theorem g24s (X : Mi) {w : W} {d : D} {M : List O} (hd : Pl 0 d) : X.go F24 w [.d d, .d d] M = .ok (.d (.bl true)) M := by
  cases hd with
  | non => simp [Mi.go, F24, B24]
  | bl b => simp [Mi.go, F24, B24, Ty.sub]
  | int i => simp [Mi.go, F24, B24, Ty.sub]
  | str x => simp [Mi.go, F24, B24, Ty.sub]
theorem r24 : ∀ (n m : Nat) (d : D), Pl n d → Ret (prg.run (n + m + 1) 24) [d, d] (.bl true)
  | 0, m, d, h => ⟨[], by
    rw [prg.run_eq (0 + m) 24 F24 rfl]
    exact g24s mi h⟩
  | n + 1, m, d, h => ⟨[], by
    rw [show n + 1 + m + 1 = (n + m + 1) + 1 from by omega, prg.run_eq (n + m + 1) 24 F24 rfl]
    exact g24 mi h fun x hx M => (r24 n m x hx).sc rfl (by simp)⟩
theorem Pl.tm (t : T) : ∀ {n : Nat}, t.ht < n → Pl n t.d := by
  induction t with
  | nm x =>
    intro n h
    cases n with
    | zero => omega
    | succ n =>
      exact .tup _ (by simp) fun d hd => by
        simp at hd
        rcases hd with rfl | rfl
        · exact .str _
        · exact .str _
  | bd x t ih =>
    intro n h
    cases n with
    | zero => omega
    | succ n =>
      simp [T.ht] at h
      exact .tup _ (by simp) fun d hd => by
        simp at hd
        rcases hd with rfl | rfl | rfl
        · exact .str _
        · exact .str _
        · exact ih h
  | ap l r ihl ihr =>
    intro n h
    cases n with
    | zero => omega
    | succ n =>
      simp [T.ht] at h
      exact .tup _ (by simp) fun d hd => by
        simp at hd
        rcases hd with rfl | rfl | rfl
        · exact .str _
        · exact ihl (by omega)
        · exact ihr (by omega)
theorem Pl.sd {xs : List Str} {n : Nat} (h : xs.length ≤ 1000) : Pl (n + 1) (.lst (sd xs)) := .lst _ (by simpa using h) fun d hd => by
  obtain ⟨x, _, rfl⟩ := List.mem_map.mp hd
  exact .str x
theorem Pl.nd {xs : List Nat} {n : Nat} (h : xs.length ≤ 1000) : Pl (n + 1) (.lst (nd xs)) := .lst _ (by simpa using h) fun d hd => by
  obtain ⟨x, _, rfl⟩ := List.mem_map.mp hd
  exact .int _
theorem Pl.pair {n : Nat} {a b : D} (ha : Pl n a) (hb : Pl n b) : Pl (n + 1) (.tup [a, b]) := .tup _ (by simp) fun d hd => by
  simp at hd
  rcases hd with rfl | rfl
  · exact ha
  · exact hb
theorem Pl.trip {n : Nat} {a b c : D} (ha : Pl n a) (hb : Pl n b) (hc : Pl n c) : Pl (n + 1) (.tup [a, b, c]) := .tup _ (by simp) fun d hd => by
  simp at hd
  rcases hd with rfl | rfl | rfl
  · exact ha
  · exact hb
  · exact hc
theorem p24 {m : Nat} {d : D} {as : List A} {M : List O} (h : Pl 40 d) (h1 : denL (den 8 M) as = some [d, d]) : pcall (prg.run (m + 41) 24) as M = .ok (.d (.bl true)) M := (by
  have := r24 40 m d h
  rw [show 40 + m + 1 = m + 41 from by omega] at this
  exact this.sc rfl h1)
/-! ### thrown_names -/
theorem used_lk {x : Str} : ∀ (ts : List T) (kvs : List (Key × A)), (valA ((ts.filter T.isNm).foldl (fun acc x => putA acc (Sum.inr x.name) (.d (.bl true))) kvs) (.inr x)).isSome = ((valA kvs (.inr x)).isSome || decide (x ∈ (ts.filter T.isNm).map T.name))
  | [], kvs => by simp
  | t :: r, kvs => by
    rw [List.filter_cons]
    split
    · rename_i ht
      rw [List.foldl_cons, used_lk r, valA_putA, List.map_cons]
      by_cases h : t.name = x
      · subst h; simp
      · have h2 : ¬ x = t.name := fun e => h e.symm
        have h3 : ¬ (Sum.inr t.name : Key) = Sum.inr x := fun e => h (by injection e)
        have h4 : (x == t.name) = false := by simpa using h2
        simp [h3, h4]
    · exact used_lk r kvs
theorem g15 (X : Mi) {w : W} {t : T} (hz : t.sz ≤ 90) (h3 : P3 w t) : ∃ M2 k, X.go F15 w [.d t.d] [] = .ok (.cell k) M2 ∧ M2[k]? = some (.lst (ad (sd t.thrown))) := by
  have hl := t.parts_len
  apply Exists.intro; apply Exists.intro; apply And.intro
  · simp [Mi.go, F15, B15, h3 []]
    rw [dctR_of (M1 := [.lst (ad (td t.parts))]) (as := [.cell 0]) (M2 := [.frz (.lst (td t.parts))]) (xs := t.parts) T.d T.isNm T.name (fun _ => .bl true) ?_ ?_ ?_ (sz_line hz)]
    · simp
      rw [compR_of (M1 := [.frz (.lst (td t.parts)), .dct ((t.parts.filter T.isNm).foldl (fun acc x => putA acc (Sum.inr x.name) (.d (.bl true))) [])]) (as := [.cell 0]) (M2 := [.frz (.lst (td t.parts)), .dct ((t.parts.filter T.isNm).foldl (fun acc x => putA acc (Sum.inr x.name) (.d (.bl true))) [])]) (xs := t.parts) T.d t.thP (fun s => .str s.name) ?_ ?_ ?_ (sz_line hz)]
      · simp
        exact ⟨rfl, rfl⟩
      · simp
      · simp [td]
      · intro s _ acc
        refine ⟨_, rfl, ?_, ?_⟩
        · rcases s with y | ⟨y, b⟩ | ⟨l, r⟩
          · simp [T.thP]
          · have := used_lk (x := y) t.parts []
            simp only [valA_nil, Option.isSome_none, Bool.false_or] at this
            simp [T.thP, this]
            rw [T.uses]
            simp
          · simp [T.thP]
        · intro hs
          rcases s with y | ⟨y, b⟩ | ⟨l, r⟩
          · cases hs
          · simp [T.name]
          · cases hs
    · simp
    · simp [td]
    · intro s _ acc
      refine ⟨_, rfl, ?_, ?_⟩
      · cases s <;> simp [T.isNm]
      · intro hs
        rcases s with y | ⟨y, b⟩ | ⟨l, r⟩
        · simp [T.name]
        · cases hs
        · cases hs
  · simp
    unfold sd T.thrown
    rw [List.map_map]
    rfl
theorem r15 (n : Nat) (t : T) (hz : t.sz ≤ 90) : Ret (prg.run (n + 3) 15) [t.d] (.lst (sd t.thrown)) := by
  obtain ⟨M2, k, h1, h2⟩ := g15 mi (w := ⟨prg.run (n + 2), prg.sub, prg.turns⟩) (t := t) hz (p3 hz)
  exact Ret.of_lst (by rw [prg.run_eq (n + 2) 15 F15 rfl]; exact h1) h2
theorem p15 {n : Nat} {t : T} (hz : t.sz ≤ 90) (M : List O) : pcall (prg.run (n + 3) 15) [.d t.d] M = .ok (.cell M.length) (M ++ [.lst (ad (sd t.thrown))]) := Ret.lstd (r15 n t hz)
end K90

set_option Elab.async false
set_option linter.all false
set_option maxRecDepth 100000
set_option maxHeartbeats 4000000
/-! k90: names. -/
namespace K90
open PySem PySem.Spec L2 Mini Mq
def lets : List Nat := [97, 98, 99, 100, 101, 102, 103, 104, 105, 106, 107, 108, 109, 110, 111, 112, 113, 114, 115, 116, 117, 118, 119, 120, 121, 122]
def digs : List Nat := [48, 49, 50, 51, 52, 53, 54, 55, 56, 57]
def okC (c : Nat) : Bool := decide (c ∈ lets) || decide (c ∈ digs)
def isN (x : Str) : Bool := match x.cps.toList with
  | [] => false
  | c :: r => decide (r.length < 8) && decide (c ∈ lets) && (c :: r).all okC
theorem str_len (x : Str) : x.length = x.cps.toList.length := by
  unfold Str.length
  simp
theorem ix_str {x : Str} {M : List O} (hl : x.length ≤ sizeLine) : ixA M (.d (.str x)) (.d (.int 0)) = match x.cps.toList[0]? with
    | some c => .ok (.d (.str ⟨#[c]⟩)) M
    | none => .no := by
  show (if x.length ≤ sizeLine then match atI x.cps.toList 0 with
        | some c => Mini.R.ok (A.d (.str ⟨#[c]⟩)) M
        | none => .no else .no) = _
  rw [if_pos hl, atI_0]
theorem inn_str {y : Str} {c : Nat} {M : List O} : innA (.d (.str ⟨#[c]⟩)) (.d (.str y)) M = some (decide (c ∈ y.cps.toList)) := rfl
theorem items_str {x : Str} {M : List O} : items .seq [.d (.str x)] M = some (x.cps.toList.map (fun c => D.str ⟨#[c]⟩), M) := rfl
def foB0 : List Mini.S := [Mini.S.ifS
              ((Mini.E.cmp Mini.Cmp.nin (Mini.E.var 1)
                    (Mini.E.cst
                      (Mini.D.str
                        {
                          cps :=
                            {
                              toList :=
                                [97, 98, 99, 100, 101, 102, 103, 104, 105, 106, 107, 108, 109, 110, 111, 112, 113, 114,
                                  115, 116, 117, 118, 119, 120, 121, 122] } }))).an
                (Mini.E.cmp Mini.Cmp.nin (Mini.E.var 1)
                  (Mini.E.cst (Mini.D.str { cps := { toList := [48, 49, 50, 51, 52, 53, 54, 55, 56, 57] } }))))
              [Mini.S.ret (Mini.E.cst (Mini.D.bl false))] []]
theorem f0 (X : Mi) {w : W} {z : A} {M : List O} : ∀ (cs : List Nat) (a : A), (cs.all okC = true → ∃ a', forR (.one 1) (X.exs w foB0) (cs.map fun c => D.str ⟨#[c]⟩) [z, a] M = .nx [z, a'] M) ∧
    (cs.all okC = false → forR (.one 1) (X.exs w foB0) (cs.map fun c => D.str ⟨#[c]⟩) [z, a] M = .rt (.d (.bl false)) M)
  | [], a => ⟨fun _ => ⟨a, rfl⟩, fun h => by cases h⟩
  | c :: r, a => by
    have ih := f0 X (w := w) (z := z) (M := M) r (.d (.str ⟨#[c]⟩))
    have e : X.exs w foB0 [z, .d (.str ⟨#[c]⟩)] M = if okC c = true then .nx [z, .d (.str ⟨#[c]⟩)] M else .rt (.d (.bl false)) M := by
      by_cases h1 : c ∈ lets
      · have h1' := h1
        unfold lets at h1'
        simp [foB0, inn_str, okC, h1, h1', -List.mem_cons]
      · have h1' := h1
        unfold lets at h1'
        by_cases h2 : c ∈ digs
        · have h2' := h2
          unfold digs at h2'
          simp [foB0, inn_str, okC, h1, h1', h2, h2', -List.mem_cons]
        · have h2' := h2
          unfold digs at h2'
          simp [foB0, inn_str, okC, h1, h1', h2, h2', -List.mem_cons]
    rw [List.map_cons, forR_cons]
    simp only [set_one, List.set_cons_succ, List.set_cons_zero, e]
    constructor
    · intro h
      rw [List.all_cons, Bool.and_eq_true] at h
      rw [if_pos h.1]
      exact ih.1 h.2
    · intro h
      rw [List.all_cons] at h
      cases hc : okC c with
      | true =>
        rw [hc, Bool.true_and] at h
        simp
        exact ih.2 h
      | false => simp
theorem g0 (X : Mi) {w : W} {x : Str} {M : List O} (hl : x.length ≤ 100) : X.go F0 w [.d (.str x)] M = .ok (.d (.bl (isN x))) M := by
  have hs : x.length ≤ sizeLine := le_line (by omega)
  have hl2 := str_len x
  cases e : x.cps.toList with
  | nil =>
    rw [e] at hl2
    simp [Mi.go, F0, B0, hs, isN, e, hl2]
  | cons c r =>
    rw [e] at hl2
    rw [List.length_cons] at hl2
    have hi : items .seq [.d (.str x)] M = some ((c :: r).map (fun c => D.str ⟨#[c]⟩), M) := by rw [items_str, e]
    have h1 : (1 : Int) ≤ (x.length : Nat) := by omega
    have hx : ixA M (.d (.str x)) (.d (.int 0)) = .ok (.d (.str ⟨#[c]⟩)) M := by rw [ix_str hs, e]; rfl
    by_cases h8 : r.length < 8
    · have h8' : ((x.length : Nat) : Int) ≤ 8 := by omega
      by_cases hc : c ∈ lets
      · have hc' := hc
        unfold lets at hc'
        have f := f0 X (w := w) (z := .d (.str x)) (M := M) (c :: r) .un
        cases ha : (c :: r).all okC with
        | true =>
          obtain ⟨a', f⟩ := f.1 ha
          simp only [foB0] at f
          simp [Mi.go, F0, B0, hs, isN, e, h1, h8', hx, inn_str, hc, hc', h8, hi, f, -List.mem_cons, -List.all_cons, -List.map_cons, -items_seq, ha]
        | false =>
          have f := f.2 ha
          simp only [foB0] at f
          simp [Mi.go, F0, B0, hs, isN, e, h1, h8', hx, inn_str, hc, hc', h8, hi, f, -List.mem_cons, -List.all_cons, -List.map_cons, -items_seq, ha]
      · have hc' := hc
        unfold lets at hc'
        simp [Mi.go, F0, B0, hs, isN, e, h1, h8', hx, inn_str, hc, hc', -List.mem_cons]
    · have h8' : ¬ ((x.length : Nat) : Int) ≤ 8 := by omega
      simp [Mi.go, F0, B0, hs, isN, e, h1, h8', h8]
theorem p0 {n : Nat} {x : Str} {M : List O} (hl : x.length ≤ 100) : pcall (prg.run (n + 1) 0) [.d (.str x)] M = .ok (.d (.bl (isN x))) M := by
  have h : Ret (prg.run (n + 1) 0) [.str x] (.bl (isN x)) := ⟨[], by
    rw [prg.run_eq n 0 F0 rfl]
    exact g0 mi hl⟩
  exact h.sc rfl (by simp)
/-! ### _law_name -/
def pfx (s : Nat) : Str := match s with
  | 0 => ⟨#[110]⟩
  | 1 => ⟨#[118]⟩
  | 2 => ⟨#[113, 55]⟩
  | 3 => ⟨#[122, 122]⟩
  | _ => ⟨#[108, 111, 110, 103]⟩
def lnm (k s : Nat) : Str := if s = 3 then pfx s ++ num (70 - (k : Int)) else pfx s ++ num k
theorem num_len : ∀ k : Nat, k < 200 → (num k).length ≤ 3 := by decide +kernel
theorem num_len2 : ∀ k : Nat, k < 40 → (num (70 - (k : Int))).length ≤ 3 := by decide +kernel
theorem g25 (X : Mi) {w : W} {k s : Nat} {M : List O} (hk : k < 40) (hs : s < 5) : ∃ M2, X.go F25 w [.d (.int (k : Nat)), .d (.int (s : Nat))] M = .ok (.d (.str (lnm k s))) M2 := by
  have h1 := num_len k (by omega)
  have h2 := num_len2 k hk
  have l1 : okNum (k : Int) = true := okNum_of (by omega)
  have l2 : okNum (70 - (k : Int)) = true := okNum_of (by omega)
  have hc : s = 0 ∨ s = 1 ∨ s = 2 ∨ s = 3 ∨ s = 4 := by omega
  have q1 : Str.length { cps := { toList := [110] } } + (num (k : Int)).length ≤ sizeLine := le_line (by show 1 + _ ≤ _; omega)
  have q2 : Str.length { cps := { toList := [118] } } + (num (k : Int)).length ≤ sizeLine := le_line (by show 1 + _ ≤ _; omega)
  have q3 : Str.length { cps := { toList := [113, 55] } } + (num (k : Int)).length ≤ sizeLine := le_line (by show 2 + _ ≤ _; omega)
  have q4 : Str.length { cps := { toList := [122, 122] } } + (num (70 - (k : Int))).length ≤ sizeLine := le_line (by show 2 + _ ≤ _; omega)
  have q5 : Str.length { cps := { toList := [108, 111, 110, 103] } } + (num (k : Int)).length ≤ sizeLine := le_line (by show 4 + _ ≤ _; omega)
  have a1 : ∀ (a b c d e : D), atI [a, b, c, d, e] 1 = some b := fun _ _ _ _ _ => rfl
  have a2 : ∀ (a b c d e : D), atI [a, b, c, d, e] 2 = some c := fun _ _ _ _ _ => rfl
  have a4 : ∀ (a b c d e : D), atI [a, b, c, d, e] 4 = some e := fun _ _ _ _ _ => rfl
  rcases hc with rfl | rfl | rfl | rfl | rfl
  · apply Exists.intro
    simp [Mi.go, F25, B25, l1, lnm, pfx, q1]
    rfl
  · apply Exists.intro
    simp [Mi.go, F25, B25, l1, lnm, pfx, q2, a1]
    rfl
  · apply Exists.intro
    simp [Mi.go, F25, B25, l1, lnm, pfx, q3, a2]
    rfl
  · apply Exists.intro
    simp [Mi.go, F25, B25, l2, lnm, pfx, q4]
    rfl
  · apply Exists.intro
    simp [Mi.go, F25, B25, l1, lnm, pfx, q5, a4]
    rfl
theorem p25 {n k s : Nat} {M : List O} (hk : k < 40) (hs : s < 5) : pcall (prg.run (n + 1) 25) [.d (.int (k : Nat)), .d (.int (s : Nat))] M = .ok (.d (.str (lnm k s))) M := by
  have h : Ret (prg.run (n + 1) 25) [.int (k : Nat), .int (s : Nat)] (.str (lnm k s)) := by
    obtain ⟨M2, h⟩ := g25 mi (w := ⟨prg.run n, prg.sub, prg.turns⟩) (M := []) hk hs
    exact ⟨M2, by rw [prg.run_eq n 25 F25 rfl]; exact h⟩
  exact h.sc rfl (by simp)
/-! ### v0, v1, .. -/
def vnm (k : Nat) : Str := { cps := { toList := [118] } } ++ num k
theorem vnm_ok {k : Nat} (h : k < 200) : okNum (k : Int) = true ∧ Str.length { cps := { toList := [118] } } + (num (k : Int)).length ≤ sizeLine := ⟨okNum_of (by omega), le_line (by have := num_len k h; show 1 + _ ≤ _; omega)⟩
theorem num_inj : ∀ i : Nat, i < 150 → ∀ j : Nat, j < 150 → vnm i = vnm j → i = j := by decide +kernel
/-! ### facts about names -/
def fr0 : Str := { cps := { toList := [102, 114, 101, 101, 48] } }
def fr1 : Str := { cps := { toList := [102, 114, 101, 101, 49] } }
theorem lnm_ok : ∀ k : Nat, k < 40 → ∀ s : Nat, s < 5 → isN (lnm k s) = true ∧ (lnm k s).length ≤ 8 ∧ lnm k s ≠ fr0 ∧ lnm k s ≠ fr1 := by decide +kernel
theorem lnm_inj : ∀ s : Nat, s < 5 → ∀ i : Nat, i < 40 → ∀ j : Nat, j < 40 → lnm i s = lnm j s → i = j := by decide +kernel
end K90

set_option Elab.async false
set_option linter.all false
set_option maxRecDepth 100000
set_option maxHeartbeats 4000000
/-! k90: check_loose. -/
namespace K90
open PySem PySem.Spec L2 Mini Mq
abbrev sBad : Str := { cps := { toList := [66, 97, 100, 78, 97, 109, 101] } }
abbrev sRep : Str := { cps := { toList := [82, 101, 112, 101, 97, 116, 101, 100] } }
abbrev sFld : Str := { cps := { toList := [110, 97, 109, 101] } }
abbrev sLarge : Str := { cps := { toList := [84, 111, 111, 76, 97, 114, 103, 101] } }
/-- an error -/
inductive Er where
  | bad (x : Str) | rep (x : Str)
def Er.x : Er → Ex
  | .bad x => ⟨sBad, [(sFld, x)]⟩
  | .rep x => ⟨sRep, [(sFld, x)]⟩
/-! ### check_loose_part -/
abbrev Sn := Str → Option Bool
def Sn.put (f : Sn) (x : Str) (b : Bool) : Sn := fun y => if x = y then some b else f y
def chk : T → Sn → Except Er Sn
  | .nm x, f => if isN x = true then (if f x = some true then .error (.rep x) else .ok (f.put x true)) else .error (.bad x)
  | .bd x t, f => if isN x = true then (if (f x).isSome then .error (.rep x) else match chk t (f.put x false) with
    | .ok g => .ok (g.put x true)
    | .error e => .error e) else .error (.bad x)
  | .ap l r, f => match chk l f with
    | .ok g => chk r g
    | .error e => .error e
def Bears (kvs : List (Key × A)) (f : Sn) : Prop := ∀ x, valA kvs (.inr x) = (f x).map fun b => A.d (.bl b)
theorem Bears.put {kvs : List (Key × A)} {f : Sn} (h : Bears kvs f) (x : Str) (b : Bool) : Bears (putA kvs (.inr x) (.d (.bl b))) (f.put x b) := by
  intro y
  rw [valA_putA]
  unfold Sn.put
  by_cases e : x = y
  · subst e; simp
  · have e2 : ¬ (Sum.inr x : Key) = Sum.inr y := fun q => e (by injection q)
    rw [if_neg e2, if_neg e]
    exact h y
def Ck (run : List A → List O → Mini.R A) (t : T) : Prop := ∀ (f : Sn) (kvs : List (Key × A)) (c : Nat) (M : List O), M[c]? = some (.dct kvs) → Bears kvs f → kvs.length + 2 * t.sz + 1 ≤ 1000 →
  match chk t f with
  | .ok g => ∃ kvs', run [.d t.d, .cell c] M = .ok (.d .non) (M.set c (.dct kvs')) ∧ Bears kvs' g ∧ kvs'.length ≤ kvs.length + 2 * t.sz + 1
  | .error e => ∃ M', run [.d t.d, .cell c] M = .ex e.x M'
def T.short : T → Prop
  | .nm x => x.length ≤ 100
  | .bd x t => x.length ≤ 100 ∧ t.short
  | .ap l r => l.short ∧ r.short
theorem valA_none {f : Sn} {kvs : List (Key × A)} {x : Str} (h : Bears kvs f) (e : f x = none) : valA kvs (.inr x) = none := by rw [h x, e]; rfl
theorem valA_some {f : Sn} {kvs : List (Key × A)} {x : Str} {b : Bool} (h : Bears kvs f) (e : f x = some b) : valA kvs (.inr x) = some (.d (.bl b)) := by rw [h x, e]; rfl
theorem g13 (X : Mi) {w : W} (h0 : ∀ (x : Str) M, x.length ≤ 100 → pcall (w.run 0) [.d (.str x)] M = .ok (.d (.bl (isN x))) M) : ∀ t : T, t.short → (∀ s : T, s.ht < t.ht → s.short → Ck (w.run 13) s) → Ck (X.go F13 w) t
  | .nm x, hs, _ => by
    intro f kvs c M hM hb hl
    have h1 := fun M => h0 x M hs
    have hkl : kvs.length < sizeLine := lt_line (by omega)
    rw [chk]
    cases hv : isN x with
    | false =>
      simp
      rw [hv] at h1
      simp [Mi.go, F13, B13, h1, Er.x]
    | true =>
      rw [hv] at h1
      rw [if_pos rfl]
      cases e : f x with
      | none =>
        rw [if_neg (by simp)]
        refine ⟨putA kvs (.inr x) (.d (.bl true)), ?_, hb.put x true, ?_⟩
        · simp [Mi.go, F13, B13, h1, hM, valA_none hb e, hkl]
        · have := putA_len kvs (.inr x) (.d (.bl true))
          simp [T.sz]; exact this
      | some b =>
        cases b with
        | true =>
          rw [if_pos rfl]
          simp [Mi.go, F13, B13, h1, hM, valA_some hb e, Er.x]
        | false =>
          rw [if_neg (by simp)]
          refine ⟨putA kvs (.inr x) (.d (.bl true)), ?_, hb.put x true, ?_⟩
          · simp [Mi.go, F13, B13, h1, hM, valA_some hb e, hkl]
          · have := putA_len kvs (.inr x) (.d (.bl true))
            simp [T.sz]; exact this
  | .bd x t, hs, ih => by
    intro f kvs c M hM hb hl
    have hcl := (List.getElem?_eq_some_iff.mp hM).1
    have h1 := fun M => h0 x M hs.1
    have hkl : kvs.length < sizeLine := lt_line (by omega)
    rw [chk]
    cases hv : isN x with
    | false =>
      simp
      rw [hv] at h1
      simp [Mi.go, F13, B13, h1, Er.x]
    | true =>
      rw [hv] at h1
      rw [if_pos rfl]
      cases e : f x with
      | some b =>
        rw [if_pos (by simp)]
        simp [Mi.go, F13, B13, h1, hM, valA_some hb e, Er.x]
      | none =>
        rw [if_neg (by simp)]
        have hp := putA_len kvs (.inr x) (.d (.bl false))
        simp [T.sz] at hl
        have i1 := ih t (by simp [T.ht]) hs.2 (f.put x false) (putA kvs (.inr x) (.d (.bl false))) c (M.set c (.dct (putA kvs (.inr x) (.d (.bl false))))) (by rw [List.getElem?_set_self hcl]) (hb.put x false) (by omega)
        cases e2 : chk t (f.put x false) with
        | error er =>
          rw [e2] at i1
          obtain ⟨M', i1⟩ := i1
          refine ⟨M', ?_⟩
          simp [Mi.go, F13, B13, h1, hM, valA_none hb e, hkl, i1]
        | ok g =>
          rw [e2] at i1
          obtain ⟨kvs', i1, i2, i3⟩ := i1
          have hkl2 : kvs'.length < sizeLine := lt_line (by omega)
          refine ⟨putA kvs' (.inr x) (.d (.bl true)), ?_, i2.put x true, ?_⟩
          · simp at i1
            have hgs : ∀ x, (M.set c x)[c]? = some x := fun x => List.getElem?_set_self hcl
            simp [Mi.go, F13, B13, h1, hM, valA_none hb e, hkl, i1, hkl2, hgs]
          · have := putA_len kvs' (.inr x) (.d (.bl true))
            simp [T.sz]; omega
  | .ap l r, hs, ih => by
    intro f kvs c M hM hb hl
    have hcl := (List.getElem?_eq_some_iff.mp hM).1
    simp [T.sz] at hl
    have i1 := ih l (by simp [T.ht]; omega) hs.1 f kvs c M hM hb (by omega)
    rw [chk]
    cases e1 : chk l f with
    | error er =>
      rw [e1] at i1
      obtain ⟨M', i1⟩ := i1
      refine ⟨M', ?_⟩
      simp [Mi.go, F13, B13, i1]
    | ok g =>
      rw [e1] at i1
      obtain ⟨kvs', i1, i2, i3⟩ := i1
      have j1 := ih r (by simp [T.ht]; omega) hs.2 g kvs' c (M.set c (.dct kvs')) (by rw [List.getElem?_set_self hcl]) i2 (by omega)
      simp only
      cases e2 : chk r g with
      | error er =>
        rw [e2] at j1
        obtain ⟨M', j1⟩ := j1
        refine ⟨M', ?_⟩
        simp [Mi.go, F13, B13, i1, j1]
      | ok g' =>
        rw [e2] at j1
        obtain ⟨kvs2, j1, j2, j3⟩ := j1
        refine ⟨kvs2, ?_, j2, by simp [T.sz]; omega⟩
        simp at j1
        simp [Mi.go, F13, B13, i1, j1]
theorem r13 : ∀ (n : Nat) (t : T), t.ht < n → t.short → Ck (prg.run (n + 1) 13) t
  | 0, t, h, _ => absurd h (Nat.not_lt_zero _)
  | n + 1, t, h, hs => by
    intro f kvs c M hM hb hl
    have := g13 mi (w := ⟨prg.run (n + 1), prg.sub, prg.turns⟩) (fun x M hx => p0 (n := n) hx) t hs (fun s h1 h2 => r13 n s (by omega) h2) f kvs c M hM hb hl
    rw [show prg.run (n + 1 + 1) 13 = mi.go F13 ⟨prg.run (n + 1), prg.sub, prg.turns⟩ from by funext as M; exact prg.run_eq (n + 1) 13 F13 rfl as M]
    exact this
/-! ### check_loose, _law_checked -/
def f0' : Sn := fun _ => none
theorem g14 (X : Mi) {w : W} {t : T} (hz : t.sz ≤ 60) (h4 : ∀ M, pcall (w.run 4) [.d t.d] M = .ok (.d (.int t.sz)) M) (h13 : Ck (w.run 13) t) :
    match chk t f0' with
    | .ok _ => ∃ M2, X.go F14 w [.d t.d] [] = .ok (.d (.int t.sz)) M2
    | .error e => ∃ M2, X.go F14 w [.d t.d] [] = .ex e.x M2 := by
  have h := h13 f0' [] 0 [.dct []] rfl (fun x => rfl) (by simp; omega)
  have hz2 : ¬ (60 : Int) < t.sz := by omega
  cases e : chk t f0' with
  | error er =>
    rw [e] at h
    obtain ⟨M', h⟩ := h
    refine ⟨M', ?_⟩
    simp [Mi.go, F14, B14, h4, hz2, h]
  | ok g =>
    rw [e] at h
    obtain ⟨kvs', h, _⟩ := h
    refine ⟨[.dct kvs'], ?_⟩
    · simp at h
      simp [Mi.go, F14, B14, h4, hz2, h]
theorem r14 (n : Nat) (t : T) (hz : t.sz ≤ 60) (hs : t.short) : match chk t f0' with
    | .ok _ => Ret (prg.run (n + 65) 14) [t.d] (.int t.sz)
    | .error e => Exc (prg.run (n + 65) 14) [t.d] e.x := by
  have h := g14 mi (w := ⟨prg.run (n + 64), prg.sub, prg.turns⟩) hz (p4 (n := n + 61) (by omega)) (r13 (n + 63) t (by have := t.ht_le_sz; omega) hs)
  cases e : chk t f0' with
  | error er =>
    rw [e] at h
    obtain ⟨M', h⟩ := h
    exact ⟨M', by rw [prg.run_eq (n + 64) 14 F14 rfl]; exact h⟩
  | ok g =>
    rw [e] at h
    obtain ⟨M', h⟩ := h
    exact ⟨M', by rw [prg.run_eq (n + 64) 14 F14 rfl]; exact h⟩
abbrev tSize : Str := { cps := { toList := [115, 105, 122, 101] } }
abbrev tBad : Str := { cps := { toList := [98, 97, 100] } }
abbrev tRep : Str := { cps := { toList := [114, 101, 112, 101, 97, 116, 101, 100] } }
/-- what _law_checked tells -/
def told (t : T) : D := match chk t f0' with
  | .ok _ => .tup [.str tSize, .int t.sz]
  | .error (.bad x) => .tup [.str tBad, .str x]
  | .error (.rep x) => .tup [.str tRep, .str x, .bl true]
structure Subs (sub : Str → Str → Bool) : Prop where
  s1 : sub sBad sLarge = false
  s2 : sub sBad sBad = true
  s3 : sub sRep sLarge = false
  s4 : sub sRep sBad = false
  s5 : sub sRep sRep = true
  s6 : sub sRep { cps := { toList := [85, 110, 117, 115, 101, 100] } } = false
theorem subs : Subs prg.sub := by
  constructor <;> decide +kernel
theorem g38 (X : Mi) {w : W} {t : T} (hs : Subs w.sub) (h14 : match chk t f0' with
    | .ok _ => ∀ M, pcall (w.run 14) [.d t.d] M = .ok (.d (.int t.sz)) M
    | .error e => ∀ M, pcall (w.run 14) [.d t.d] M = .ex e.x M) : X.go F38 w [.d t.d] [] = .ok (.d (told t)) [] := by
  unfold told
  cases e : chk t f0' with
  | ok g =>
    rw [e] at h14
    simp only at h14
    simp [Mi.go, F38, B38, h14]
  | error er =>
    rw [e] at h14
    simp only at h14
    cases er with
    | bad x => simp [Mi.go, F38, B38, h14, Er.x, clsR, hs.s1, hs.s2, xev, xevs]
    | rep x => simp [Mi.go, F38, B38, h14, Er.x, clsR, hs.s3, hs.s4, hs.s5, hs.s6, xev, xevs]
theorem p38 {n : Nat} {t : T} (hz : t.sz ≤ 60) (hs : t.short) (M : List O) : pcall (prg.run (n + 66) 38) [.d t.d] M = .ok (.d (told t)) M := by
  have h : Ret (prg.run (n + 66) 38) [t.d] (told t) := Ret.nl ⟨[], by
    rw [prg.run_eq (n + 65) 38 F38 rfl]
    refine g38 mi subs ?_
    have h := r14 n t hz hs
    cases e : chk t f0' with
    | ok g =>
      rw [e] at h
      exact fun M => h.sc rfl (by simp)
    | error er =>
      rw [e] at h
      exact fun M => h.call (by simp)⟩ (by
        unfold told
        cases chk t f0' with
        | ok g => simp
        | error er => cases er <;> simp)
  have ht : ∃ ds, told t = .tup ds := by
    unfold told
    cases chk t f0' with
    | ok g => exact ⟨_, rfl⟩
    | error er => cases er <;> exact ⟨_, rfl⟩
  obtain ⟨ds, ht⟩ := ht
  rw [ht] at h ⊢
  rw [h.tup (by simp) (by simp)]
  simp
end K90

set_option Elab.async false
set_option linter.all false
set_option maxRecDepth 100000
set_option maxHeartbeats 4000000
/-! k90: what check_loose tells; given names. -/
namespace K90
open PySem PySem.Spec L2 Mini Mq
theorem Sn.put_self (f : Sn) (x : Str) (b : Bool) : f.put x b x = some b := by simp [Sn.put]
theorem Sn.put_ne (f : Sn) {x y : Str} (b : Bool) (h : x ≠ y) : f.put x b y = f y := by simp [Sn.put, h]
theorem chk_ok : ∀ (t : T) (f : Sn), t.ok → (∀ x ∈ t.nms, isN x = true) → (∀ y ∈ t.bs, f y = none) → (∀ y ∈ t.us, f y ≠ some true) → ∃ g, chk t f = .ok g ∧ (∀ y ∈ t.nms, g y = some true) ∧ ∀ y, y ∉ t.nms → g y = f y
  | .nm x, f, _, hn, _, hu => by
    have h1 : isN x = true := hn x (List.mem_cons_self ..)
    have h2 : f x ≠ some true := hu x (List.mem_cons_self ..)
    refine ⟨f.put x true, by simp [chk, h1, h2], fun y hy => ?_, fun y hy => ?_⟩
    · have : y = x := List.mem_singleton.mp hy
      subst this
      exact Sn.put_self ..
    · exact Sn.put_ne f _ fun e => hy (by rw [e]; exact List.mem_cons_self ..)
  | .bd x t, f, ho, hn, hb, hu => by
    have h1 : isN x = true := hn x (List.mem_cons_self ..)
    have h2 : f x = none := hb x (List.mem_cons_self ..)
    obtain ⟨g, e, g1, g2⟩ := chk_ok t (f.put x false) ho.1 (fun y hy => hn y (List.mem_cons_of_mem _ hy)) (fun y hy => by
      rw [Sn.put_ne f _ fun e => ho.2 (by rw [e]; exact hy)]
      exact hb y (List.mem_cons_of_mem _ hy)) (fun y hy => by
      by_cases e : x = y
      · subst e; rw [Sn.put_self]; simp
      · rw [Sn.put_ne f _ e]; exact hu y hy)
    refine ⟨g.put x true, by simp [chk, h1, h2, e], fun y hy => ?_, fun y hy => ?_⟩
    · by_cases q : x = y
      · subst q; exact Sn.put_self ..
      · rw [Sn.put_ne g _ q]
        rcases List.mem_cons.mp hy with q2 | q2
        · exact absurd q2.symm q
        · exact g1 y q2
    · have q : x ≠ y := fun q => hy (by rw [q]; exact List.mem_cons_self ..)
      rw [Sn.put_ne g _ q, g2 y fun q2 => hy (List.mem_cons_of_mem _ q2), Sn.put_ne f _ q]
  | .ap l r, f, ho, hn, hb, hu => by
    obtain ⟨g, e, g1, g2⟩ := chk_ok l f ho.1 (fun y hy => hn y (List.mem_append_left _ hy)) (fun y hy => hb y (List.mem_append_left _ hy)) fun y hy => hu y (List.mem_append_left _ hy)
    obtain ⟨k, e2, k1, k2⟩ := chk_ok r g ho.2.1 (fun y hy => hn y (List.mem_append_right _ hy)) (fun y hy => by
      rw [g2 y fun q => ho.2.2 y q (T.bs_nms hy)]
      exact hb y (List.mem_append_right _ hy)) fun y hy => by
      rw [g2 y fun q => ho.2.2 y q (T.us_nms hy)]
      exact hu y (List.mem_append_right _ hy)
    refine ⟨k, by simp [chk, e, e2], fun y hy => ?_, fun y hy => ?_⟩
    · by_cases q : y ∈ r.nms
      · exact k1 y q
      · rw [k2 y q]
        rcases List.mem_append.mp hy with q2 | q2
        · exact g1 y q2
        · exact absurd q2 q
    · rw [k2 y fun q => hy (List.mem_append_right _ q), g2 y fun q => hy (List.mem_append_left _ q)]
theorem chk_rep {x : Str} : ∀ (t : T) (f : Sn), t.ok → (∀ x ∈ t.nms, isN x = true) → x ∈ t.bs → (f x).isSome = true → (∀ y ∈ t.bs, y ≠ x → f y = none) → (∀ y ∈ t.us, y ≠ x → f y ≠ some true) → chk t f = .error (.rep x)
  | .nm _, _, _, _, h, _, _, _ => by cases h
  | .bd z t, f, ho, hn, hx, hs, hb, hu => by
    have h1 : isN z = true := hn z (List.mem_cons_self ..)
    by_cases q : z = x
    · subst q
      simp [chk, h1, hs]
    · have h2 : f z = none := hb z (List.mem_cons_self ..) q
      have e := chk_rep t (f.put z false) ho.1 (fun y hy => hn y (List.mem_cons_of_mem _ hy)) (by
        rcases List.mem_cons.mp hx with q2 | q2
        · exact absurd q2.symm q
        · exact q2) (by rw [Sn.put_ne f _ q]; exact hs) (fun y hy hyx => by
        rw [Sn.put_ne f _ fun e => ho.2 (by rw [e]; exact hy)]
        exact hb y (List.mem_cons_of_mem _ hy) hyx) (fun y hy hyx => by
        by_cases e : z = y
        · subst e; rw [Sn.put_self]; simp
        · rw [Sn.put_ne f _ e]; exact hu y hy hyx)
      simp [chk, h1, h2, e]
  | .ap l r, f, ho, hn, hx, hs, hb, hu => by
    rcases List.mem_append.mp hx with q | q
    · have e := chk_rep l f ho.1 (fun y hy => hn y (List.mem_append_left _ hy)) q hs (fun y hy => hb y (List.mem_append_left _ hy)) fun y hy => hu y (List.mem_append_left _ hy)
      simp [chk, e]
    · have hxl : x ∉ l.nms := fun q2 => ho.2.2 x q2 (T.bs_nms q)
      obtain ⟨g, e, g1, g2⟩ := chk_ok l f ho.1 (fun y hy => hn y (List.mem_append_left _ hy)) (fun y hy => hb y (List.mem_append_left _ hy) fun e => hxl (by rw [← e]; exact T.bs_nms hy)) fun y hy => hu y (List.mem_append_left _ hy) fun e => hxl (by rw [← e]; exact T.us_nms hy)
      have e2 := chk_rep r g ho.2.1 (fun y hy => hn y (List.mem_append_right _ hy)) q (by rw [g2 x hxl]; exact hs) (fun y hy hyx => by
        rw [g2 y fun q => ho.2.2 y q (T.bs_nms hy)]
        exact hb y (List.mem_append_right _ hy) hyx) fun y hy hyx => by
        rw [g2 y fun q => ho.2.2 y q (T.us_nms hy)]
        exact hu y (List.mem_append_right _ hy) hyx
      simp [chk, e, e2]
/-- a valid term -/
structure Va (t : T) : Prop where
  ok : t.ok
  nms : ∀ x ∈ t.nms, isN x = true
theorem chk_va {t : T} (h : Va t) : ∃ g, chk t f0' = .ok g ∧ (∀ y ∈ t.nms, g y = some true) ∧ ∀ y, y ∉ t.nms → g y = none := chk_ok t f0' h.ok h.nms (fun _ _ => rfl) fun _ _ => by simp [f0']
theorem told_va {t : T} (h : Va t) : told t = .tup [.str tSize, .int t.sz] := by
  obtain ⟨g, e, _⟩ := chk_va h
  simp [told, e]
theorem told_a {t : T} {x : Str} (h : Va t) (hx : x ∈ t.us) : told (.ap t (.nm x)) = .tup [.str tRep, .str x, .bl true] := by
  obtain ⟨g, e, g1, _⟩ := chk_va h
  have h1 := h.nms x (T.us_nms hx)
  have h2 := g1 x (T.us_nms hx)
  simp [told, chk, e, h1, h2]
theorem told_b {t : T} {x : Str} (h : Va t) (hx : x ∈ t.us) : told (.bd x (.ap t (.nm x))) = .tup [.str tRep, .str x, .bl true] := by
  have h1 := h.nms x (T.us_nms hx)
  by_cases hb : x ∈ t.bs
  · have e := chk_rep t (f0'.put x false) h.ok h.nms hb (by rw [Sn.put_self]; rfl) (fun y hy hyx => by rw [Sn.put_ne f0' _ (Ne.symm hyx)]; rfl) fun y hy hyx => by rw [Sn.put_ne f0' _ (Ne.symm hyx)]; simp [f0']
    have e0 : f0' x = none := rfl
    simp [told, chk, e, h1, e0]
  · obtain ⟨g, e, g1, _⟩ := chk_ok t (f0'.put x false) h.ok h.nms (fun y hy => by
      rw [Sn.put_ne f0' _ fun e => hb (by rw [e]; exact hy)]
      rfl) fun y hy => by
      by_cases q : x = y
      · subst q; rw [Sn.put_self]; simp
      · rw [Sn.put_ne f0' _ q]; simp [f0']
    have h2 := g1 x (T.us_nms hx)
    have e0 : f0' x = none := rfl
    simp [told, chk, e, h1, e0, h2]
theorem told_c {t : T} {x : Str} (h : Va t) (hx : x ∉ t.nms) (hv : isN x = true) : told (.ap (.bd x t) (.nm x)) = .tup [.str tRep, .str x, .bl true] := by
  obtain ⟨g, e, g1, _⟩ := chk_ok t (f0'.put x false) h.ok h.nms (fun y hy => by
      rw [Sn.put_ne f0' _ fun e => hx (by rw [e]; exact T.bs_nms hy)]
      rfl) fun y hy => by
      rw [Sn.put_ne f0' _ fun e => hx (by rw [e]; exact T.us_nms hy)]; simp [f0']
  have e0 : f0' x = none := rfl
  simp [told, chk, e, hv, e0, Sn.put_self]
theorem told_d {t b : T} {x : Str} (h : Va t) (hv : isN x = false) : told (.ap t (.bd x b)) = .tup [.str tBad, .str x] := by
  obtain ⟨g, e, _⟩ := chk_va h
  simp [told, chk, e, hv]
theorem told_e {t b : T} {x : Str} (h : Va t) (hv : isN x = false) : told (.ap t (.ap (.nm x) b)) = .tup [.str tBad, .str x] := by
  obtain ⟨g, e, _⟩ := chk_va h
  simp [told, chk, e, hv]
theorem told_f {t b : T} {x : Str} (h : Va t) (hx : x ∈ t.bs) : told (.ap t (.bd x b)) = .tup [.str tRep, .str x, .bl true] := by
  obtain ⟨g, e, g1, _⟩ := chk_va h
  have h1 := h.nms x (T.bs_nms hx)
  have h2 := g1 x (T.bs_nms hx)
  simp [told, chk, e, h1, h2]
/-! ### check_names -/
/-- a list or a tuple of texts -/
def Sq (d : D) (xs : List Str) : Prop := d = .lst (sd xs) ∨ d = .tup (sd xs)
def foB9 : List Mini.S := [Mini.S.ifS (Mini.E.call 0 [Mini.E.var 2] [] []).nt
              [Mini.S.raiseF { cps := { toList := [66, 97, 100, 78, 97, 109, 101] } }
                  { cps := { toList := [110, 97, 109, 101] } } (Mini.E.var 2)]
              [],
            Mini.S.ifS
              (Mini.E.cmp Mini.Cmp.inn (Mini.E.var 2)
                (Mini.E.sl false true (Mini.E.var 0) (Mini.E.cst Mini.D.non) (Mini.E.var 1)))
              [Mini.S.raiseF { cps := { toList := [82, 101, 112, 101, 97, 116, 101, 100] } }
                  { cps := { toList := [110, 97, 109, 101] } } (Mini.E.var 2)]
              []]
theorem sIx0 (n : Nat) : HT.sIx n 0 none = 0 := rfl
theorem sIxk {n k : Nat} (h : k ≤ n) : HT.sIx n n (some (k : Int)) = k := by
  unfold HT.sIx
  simp
  rw [if_neg (by omega)]
  exact Nat.min_eq_left h
theorem cut_ad (ds : List D) (k : Nat) (h : k ≤ ds.length) : cutA (ad ds) none (some (k : Int)) = ad (ds.take k) := by
  unfold cutA
  rw [ad_len, sIx0, sIxk h]
  simp
theorem cut_d (ds : List D) (k : Nat) (h : k ≤ ds.length) : cutA ds none (some (k : Int)) = ds.take k := by
  unfold cutA
  rw [sIx0, sIxk h]
  simp
theorem sl_lst {ds : List D} {k : Nat} {M : List O} (h : k < ds.length) : slA M (.d (.lst ds)) none (some (k : Int)) = .ok (.cell M.length) (M ++ [.lst (ad (ds.take k))]) := by
  show newL M (cutA (ad ds) none (some (k : Int))) = _
  rw [cut_ad _ _ (by omega)]
  rfl
theorem sl_tup {ds : List D} {k : Nat} {M : List O} (h : k < ds.length) : slA M (.d (.tup ds)) none (some (k : Int)) = .ok (.d (.tup (ds.take k))) M := by
  show (if HT.sIx ds.length 0 none = 0 ∧ HT.sIx ds.length ds.length (some (k : Int)) = ds.length then Mini.R.no else .ok (A.d (.tup (cutA ds none (some (k : Int))))) M) = _
  rw [sIxk (by omega), if_neg (by omega), cut_d _ _ (by omega)]
@[simp] theorem part_f {a : A} : part false a = some none := rfl
@[simp] theorem part_t {i : Int} : part true (.d (.int i)) = some (some i) := rfl
theorem sd_take (xs : List Str) (k : Nat) : (sd xs).take k = sd (xs.take k) := by simp [sd]
/-- one turn -/
theorem b9 (X : Mi) {w : W} {d : D} {xs : List Str} {k : Nat} {x : Str} {a b : A} {M : List O} (hd : Sq d xs) (hk : k < xs.length) (h0 : ∀ M, pcall (w.run 0) [.d (.str x)] M = .ok (.d (.bl (isN x))) M) :
    ∃ M2, X.exs w foB9 [.d d, .d (.int (k : Nat)), .d (.str x)] M = if isN x = true then (if x ∈ xs.take k then .ex ⟨sRep, [(sFld, x)]⟩ [.d d, .d (.int (k : Nat)), .d (.str x)] M2 else .nx [.d d, .d (.int (k : Nat)), .d (.str x)] M2) else .ex ⟨sBad, [(sFld, x)]⟩ [.d d, .d (.int (k : Nat)), .d (.str x)] M2 := by
  cases hv : isN x with
  | false =>
    rw [hv] at h0
    refine ⟨M, ?_⟩
    simp [foB9, h0]
  | true =>
    rw [hv] at h0
    rcases hd with rfl | rfl
    · refine ⟨M ++ [.lst (ad (sd (xs.take k)))], ?_⟩
      have e1 : slA M (.d (.lst (sd xs))) none (some (k : Int)) = .ok (.cell M.length) (M ++ [.lst (ad (sd (xs.take k)))]) := by rw [sl_lst (by simpa using hk), sd_take]
      by_cases hx : x ∈ xs.take k
      · simp [foB9, h0, e1, hx]
      · simp [foB9, h0, e1, hx]
    · refine ⟨M, ?_⟩
      have e1 : slA M (.d (.tup (sd xs))) none (some (k : Int)) = .ok (.d (.tup (sd (xs.take k)))) M := by rw [sl_tup (by simpa using hk), sd_take]
      by_cases hx : x ∈ xs.take k
      · simp [foB9, h0, e1, hx]
      · simp [foB9, h0, e1, hx]
def nmE : List Str → List Str → Option Er
  | _, [] => none
  | pre, x :: r => if isN x = true then (if x ∈ pre then some (.rep x) else nmE (pre ++ [x]) r) else some (.bad x)
theorem f9 (X : Mi) {w : W} {d : D} (h0 : ∀ (x : Str) M, x.length ≤ 100 → pcall (w.run 0) [.d (.str x)] M = .ok (.d (.bl (isN x))) M) :
    ∀ (ys pre : List Str) (a b : A) (M : List O), Sq d (pre ++ ys) → (∀ y ∈ ys, y.length ≤ 100) → ∃ M2, (match nmE pre ys with
      | none => ∃ δ, forR (.many [1, 2]) (X.exs w foB9) (numD pre.length (sd ys)) [.d d, a, b] M = .nx δ M2
      | some e => ∃ δ, forR (.many [1, 2]) (X.exs w foB9) (numD pre.length (sd ys)) [.d d, a, b] M = .ex e.x δ M2)
  | [], pre, a, b, M, _, _ => ⟨M, [.d d, a, b], rfl⟩
  | x :: r, pre, a, b, M, hd, hl => by
    obtain ⟨M2, e⟩ := b9 X (k := pre.length) (x := x) (M := M) (a := a) (b := b) hd (by simp) fun M => h0 x M (hl x (List.mem_cons_self ..))
    have et : (pre ++ x :: r).take pre.length = pre := by simp
    rw [et] at e
    have en : numD pre.length (sd (x :: r)) = D.tup [.int (pre.length : Nat), .str x] :: numD (pre.length + 1) (sd r) := rfl
    rw [nmE, en]
    simp only [forR_cons, set_two, List.set_cons_succ, List.set_cons_zero]
    rw [e]
    cases hv : isN x with
    | false =>
      simp only [Bool.false_eq_true, if_false]
      exact ⟨M2, _, rfl⟩
    | true =>
      simp only [if_true]
      by_cases hx : x ∈ pre
      · simp only [if_pos hx]
        exact ⟨M2, _, rfl⟩
      · simp only [if_neg hx]
        have ih := f9 X h0 r (pre ++ [x]) (.d (.int (pre.length : Nat))) (.d (.str x)) M2 (by simpa using hd) fun y hy => hl y (List.mem_cons_of_mem _ hy)
        simpa using ih
theorem g9 (X : Mi) {w : W} {d : D} {xs : List Str} (hd : Sq d xs) (h0 : ∀ (x : Str) M, x.length ≤ 100 → pcall (w.run 0) [.d (.str x)] M = .ok (.d (.bl (isN x))) M) (hl : ∀ y ∈ xs, y.length ≤ 100) :
    ∃ M2, match nmE [] xs with
      | none => X.go F9 w [.d d] [] = .ok (.d .non) M2
      | some e => X.go F9 w [.d d] [] = .ex e.x M2 := by
  obtain ⟨M2, h⟩ := f9 X h0 xs [] .un .un [] (by simpa using hd) hl
  refine ⟨M2, ?_⟩
  have hi : items .enum [.d d] [] = some (numD 0 (sd xs), []) := by rcases hd with rfl | rfl <;> rfl
  cases e : nmE [] xs with
  | none =>
    rw [e] at h
    obtain ⟨δ, h⟩ := h
    simp [foB9] at h
    simp [Mi.go, F9, B9, hi, h]
  | some er =>
    rw [e] at h
    obtain ⟨δ, h⟩ := h
    simp [foB9] at h
    simp [Mi.go, F9, B9, hi, h]
theorem p9 {n : Nat} {d : D} {xs : List Str} (hd : Sq d xs) (hl : ∀ y ∈ xs, y.length ≤ 100) : match nmE [] xs with
      | none => ∀ M, pcall (prg.run (n + 2) 9) [.d d] M = .ok (.d .non) M
      | some e => ∀ M, pcall (prg.run (n + 2) 9) [.d d] M = .ex e.x M := by
  obtain ⟨M2, h⟩ := g9 mi (w := ⟨prg.run (n + 1), prg.sub, prg.turns⟩) hd (fun x M hx => p0 (n := n) hx) hl
  cases e : nmE [] xs with
  | none =>
    rw [e] at h
    have : Ret (prg.run (n + 2) 9) [d] .non := ⟨M2, by rw [prg.run_eq (n + 1) 9 F9 rfl]; exact h⟩
    exact fun M => this.sc rfl (by simp)
  | some er =>
    rw [e] at h
    have : Exc (prg.run (n + 2) 9) [d] er.x := ⟨M2, by rw [prg.run_eq (n + 1) 9 F9 rfl]; exact h⟩
    exact fun M => this.call (by simp)
end K90

set_option Elab.async false
set_option linter.all false
set_option maxRecDepth 100000
set_option maxHeartbeats 4000000
/-! k90: given_names. -/
namespace K90
open PySem PySem.Spec L2 Mini Mq
abbrev sBN : Str := { cps := { toList := [66, 97, 100, 78, 97, 109, 101, 115] } }
def foB16 : List Mini.S := [Mini.S.ifS (Mini.E.cmp Mini.Cmp.nin (Mini.E.var 3) (Mini.E.var 1))
              [Mini.S.raise { cps := { toList := [66, 97, 100, 78, 97, 109, 101, 115] } }] []]
theorem f16 (X : Mi) {w : W} {d z v : A} {dd : D} {xs : List Str} {M : List O} (hd : Sq dd xs) : ∀ (ys : List Str) (a b : A), (if (ys.all fun y => decide (y ∈ xs)) = true then ∃ a', forR (.one 3) (X.exs w foB16) (sd ys) [z, .d dd, v, a, b] M = .nx [z, .d dd, v, a', b] M
    else ∃ δ, forR (.one 3) (X.exs w foB16) (sd ys) [z, .d dd, v, a, b] M = .ex ⟨sBN, []⟩ δ M)
  | [], a, b => ⟨a, rfl⟩
  | y :: r, a, b => by
    have ih := f16 X (w := w) (d := d) (z := z) (v := v) (M := M) hd r (.d (.str y)) b
    have en : sd (y :: r) = D.str y :: sd r := rfl
    have e : X.exs w foB16 [z, .d dd, v, .d (.str y), b] M = if y ∈ xs then .nx [z, .d dd, v, .d (.str y), b] M else .ex ⟨sBN, []⟩ [z, .d dd, v, .d (.str y), b] M := by
      rcases hd with rfl | rfl
      · by_cases hy : y ∈ xs
        · simp [foB16, hy]
        · simp [foB16, hy]
      · by_cases hy : y ∈ xs
        · simp [foB16, hy]
        · simp [foB16, hy]
    rw [en]
    simp only [forR_cons, set_one, List.set_cons_succ, List.set_cons_zero]
    rw [e, List.all_cons]
    by_cases hy : y ∈ xs
    · simpa [hy] using ih
    · simp [hy]
def foC16 : List Mini.S := [Mini.S.ifS
              ((Mini.E.cmp Mini.Cmp.eq ((Mini.E.var 4).ix (Mini.E.cst (Mini.D.int (Int.ofNat 0))))
                    (Mini.E.cst (Mini.D.str { cps := { toList := [98, 105, 110, 100] } }))).an
                (Mini.E.cmp Mini.Cmp.inn ((Mini.E.var 4).ix (Mini.E.cst (Mini.D.int (Int.ofNat 1)))) (Mini.E.var 1)))
              [Mini.S.raise { cps := { toList := [66, 97, 100, 78, 97, 109, 101, 115] } }] []]
def bdIn (xs : List Str) : T → Bool
  | .bd x _ => decide (x ∈ xs)
  | _ => false
theorem h16 (X : Mi) {w : W} {z v u : A} {dd : D} {xs : List Str} {M : List O} (hd : Sq dd xs) : ∀ (ts : List T) (b : A), (if ts.any (bdIn xs) = true then ∃ δ, forR (.one 4) (X.exs w foC16) (td ts) [z, .d dd, v, u, b] M = .ex ⟨sBN, []⟩ δ M
    else ∃ b', forR (.one 4) (X.exs w foC16) (td ts) [z, .d dd, v, u, b] M = .nx [z, .d dd, v, u, b'] M)
  | [], b => ⟨b, rfl⟩
  | t :: r, b => by
    have ih := h16 X (w := w) (z := z) (v := v) (u := u) (M := M) hd r (.d t.d)
    have en : td (t :: r) = t.d :: td r := rfl
    have e : X.exs w foC16 [z, .d dd, v, u, .d t.d] M = if bdIn xs t = true then .ex ⟨sBN, []⟩ [z, .d dd, v, u, .d t.d] M else .nx [z, .d dd, v, u, .d t.d] M := by
      rcases t with y | ⟨y, b⟩ | ⟨l, r⟩
      · simp [foC16, bdIn]
      · rcases hd with rfl | rfl
        · by_cases hy : y ∈ xs
          · simp [foC16, hy, bdIn]
          · simp [foC16, hy, bdIn]
        · by_cases hy : y ∈ xs
          · simp [foC16, hy, bdIn]
          · simp [foC16, hy, bdIn]
      · simp [foC16, bdIn]
    rw [en]
    simp only [forR_cons, set_one, List.set_cons_succ, List.set_cons_zero]
    rw [e, List.any_cons]
    by_cases hy : bdIn xs t = true
    · simp [hy]
    · simpa [hy] using ih
/-- what given_names gives -/
def gvE (t : T) (xs : List Str) : Option Ex := match nmE [] xs with
  | some e => some e.x
  | none => if (t.frees.all fun y => decide (y ∈ xs)) = true then (if t.parts.any (bdIn xs) = true then some ⟨sBN, []⟩ else none) else some ⟨sBN, []⟩
theorem g16 (X : Mi) {w : W} {t : T} {d : D} {xs : List Str} (hd : Sq d xs) (h5 : ∀ M, pcall (w.run 5) [.d t.d] M = .ok (.cell M.length) (M ++ [.lst (ad (sd t.frees))])) (h3 : P3 w t)
    (h9 : match nmE [] xs with
      | none => ∀ M, pcall (w.run 9) [.d d] M = .ok (.d .non) M
      | some e => ∀ M, pcall (w.run 9) [.d d] M = .ex e.x M) :
    match gvE t xs with
    | none => ∃ k M2, X.go F16 w [.d t.d, .d d] [] = .ok (.cell k) M2 ∧ M2[k]? = some (.lst (ad (sd xs)))
    | some x => ∃ M2, X.go F16 w [.d t.d, .d d] [] = .ex x M2 := by
  have hN : ∀ M, cmpR .isN (.d d) (.d .non) M = .ok (.d (.bl false)) M := by rcases hd with rfl | rfl <;> simp
  have hL : ∀ M : List O, bi .list [.d d] M = .ok (.cell M.length) (M ++ [.lst (ad (sd xs))]) := by rcases hd with rfl | rfl <;> simp
  unfold gvE
  cases e : nmE [] xs with
  | some er =>
    rw [e] at h9
    simp only at h9 ⊢
    apply Exists.intro
    simp [Mi.go, F16, B16, h5, hN, h9]
    rfl
  | none =>
    rw [e] at h9
    simp only at h9 ⊢
    have f := f16 X (w := w) (d := .un) (z := .d t.d) (v := .cell 0) (M := [.frz (.lst (sd t.frees))]) hd t.frees .un .un
    by_cases hc : (t.frees.all fun y => decide (y ∈ xs)) = true
    · rw [if_pos hc] at f
      rw [if_pos hc]
      obtain ⟨a', f⟩ := f
      have g := h16 X (w := w) (z := .d t.d) (v := .cell 0) (u := a') (M := [.frz (.lst (sd t.frees)), .frz (.lst (td t.parts))]) hd t.parts .un
      simp only [foB16] at f
      by_cases hb : t.parts.any (bdIn xs) = true
      · rw [if_pos hb] at g
        rw [if_pos hb]
        simp only
        obtain ⟨δ, g⟩ := g
        simp [foC16] at g
        apply Exists.intro
        simp [Mi.go, F16, B16, h5, hN, h9, f, h3 _, g]
        rfl
      · rw [if_neg hb] at g
        rw [if_neg hb]
        simp only
        obtain ⟨δ, g⟩ := g
        simp [foC16] at g
        apply Exists.intro; apply Exists.intro; apply And.intro
        · simp [Mi.go, F16, B16, h5, hN, h9, f, h3 _, g, hL]
          exact ⟨rfl, rfl⟩
        · simp
    · rw [if_neg hc] at f
      rw [if_neg hc]
      simp only
      obtain ⟨δ, f⟩ := f
      simp only [foB16] at f
      apply Exists.intro
      simp [Mi.go, F16, B16, h5, hN, h9, f]
      rfl
theorem g16n (X : Mi) {w : W} {t : T} (h5 : ∀ M, pcall (w.run 5) [.d t.d] M = .ok (.cell M.length) (M ++ [.lst (ad (sd t.frees))])) :
    X.go F16 w [.d t.d, .d .non] [] = .ok (.cell 0) [.lst (ad (sd t.frees))] := by
  simp [Mi.go, F16, B16, h5]
theorem r16 (n : Nat) (t : T) (d : D) (xs : List Str) (hd : Sq d xs) (hz : t.sz ≤ 90) (hl : ∀ y ∈ xs, y.length ≤ 100) : match gvE t xs with
    | none => Ret (prg.run (n + 4) 16) [t.d, d] (.lst (sd xs))
    | some x => Exc (prg.run (n + 4) 16) [t.d, d] x := by
  have h := g16 mi (w := ⟨prg.run (n + 3), prg.sub, prg.turns⟩) (t := t) hd (p5 hz) (p3 hz) (p9 (n := n + 1) hd hl)
  cases e : gvE t xs with
  | none =>
    rw [e] at h
    obtain ⟨k, M2, h, h2⟩ := h
    exact Ret.of_lst (by rw [prg.run_eq (n + 3) 16 F16 rfl]; exact h) h2
  | some x =>
    rw [e] at h
    obtain ⟨M2, h⟩ := h
    exact ⟨M2, by rw [prg.run_eq (n + 3) 16 F16 rfl]; exact h⟩
theorem r16n (n : Nat) (t : T) (hz : t.sz ≤ 90) : Ret (prg.run (n + 4) 16) [t.d, .non] (.lst (sd t.frees)) := Ret.of_lst (k := 0) (by
  rw [prg.run_eq (n + 3) 16 F16 rfl]
  exact g16n mi (w := ⟨prg.run (n + 3), prg.sub, prg.turns⟩) (p5 hz)) rfl
/-! ### _law_given -/
abbrev tNames : Str := { cps := { toList := [110, 97, 109, 101, 115] } }
abbrev tOther : Str := { cps := { toList := [111, 116, 104, 101, 114] } }
structure Subs2 (sub : Str → Str → Bool) : Prop where
  s2 : sub sBad sBad = true
  s4 : sub sRep sBad = false
  s5 : sub sRep sRep = true
  s7 : sub sBN sBad = false
  s8 : sub sBN sRep = false
  s9 : sub sBN sBN = true
theorem subs2 : Subs2 prg.sub := by
  constructor <;> decide +kernel
def gvD (t : T) (xs : List Str) : D := match nmE [] xs with
  | some (.bad x) => .tup [.str tBad, .str x]
  | some (.rep x) => .tup [.str tRep, .str x]
  | none => match gvE t xs with
    | none => .tup [.str tNames, .lst (sd xs)]
    | some _ => .tup [.str tOther, .lst []]
theorem tupA_tl {M : List O} {x : D} {ds : List D} : tupA (M ++ [.lst (ad ds)]) [.d x, .cell M.length] = .ok (.d (.tup [x, .lst ds])) (M ++ [.frz (.lst ds)]) := by
  have e1 : (M ++ [O.lst (ad ds)])[M.length]? = some (.lst (ad ds)) := by simp
  have e2 : frzL (frz 8) (M ++ [O.lst (ad ds)]) [.d x, .cell M.length] = some ([x, .lst ds], M ++ [.frz (.lst ds)]) := by
    rw [frzL_cons, frz_d]
    simp only
    rw [frzL_cons, frz8, e1]
    simp only [frzL_ad]
    rw [e1]
    simp
  unfold tupA
  rw [e2]
  simp only
  rw [if_pos (le_line (by simp))]
theorem g40 (X : Mi) {w : W} {t : T} {d : D} {xs : List Str} (hs : Subs2 w.sub) (h16 : match gvE t xs with
    | none => ∀ M, pcall (w.run 16) [.d t.d, .d d] M = .ok (.cell M.length) (M ++ [.lst (ad (sd xs))])
    | some x => ∀ M, pcall (w.run 16) [.d t.d, .d d] M = .ex x M) : ∃ M2, X.go F40 w [.d t.d, .d d] [] = .ok (.d (gvD t xs)) M2 := by
  unfold gvD
  cases e : nmE [] xs with
  | some er =>
    have e2 : gvE t xs = some er.x := by unfold gvE; rw [e]
    rw [e2] at h16
    simp only at h16
    apply Exists.intro
    cases er with
    | bad x =>
      simp [Mi.go, F40, B40, h16, Er.x, clsR, hs.s2, xev, xevs]
      try rfl
    | rep x =>
      simp [Mi.go, F40, B40, h16, Er.x, clsR, hs.s4, hs.s5, xev, xevs]
      try rfl
  | none =>
    cases e2 : gvE t xs with
    | none =>
      rw [e2] at h16
      simp only at h16
      have e3 := tupA_tl (M := []) (x := .str tNames) (ds := sd xs)
      simp at e3
      apply Exists.intro
      simp [Mi.go, F40, B40, h16, e3]
      rfl
    | some x =>
      have e3 : x = ⟨sBN, []⟩ := by
        unfold gvE at e2
        rw [e] at e2
        simp only at e2
        split at e2
        · split at e2
          · cases e2; rfl
          · cases e2
        · cases e2; rfl
      subst e3
      rw [e2] at h16
      simp only at h16
      apply Exists.intro
      simp [Mi.go, F40, B40, h16, clsR, hs.s7, hs.s8, hs.s9, xev, xevs]
      rfl
theorem gvD_tup (t : T) (xs : List Str) : ∃ ds, gvD t xs = .tup ds := by
  unfold gvD
  cases nmE [] xs with
  | some er => cases er <;> exact ⟨_, rfl⟩
  | none => cases gvE t xs <;> exact ⟨_, rfl⟩
theorem r40 (n : Nat) (t : T) (d : D) (xs : List Str) (hd : Sq d xs) (hz : t.sz ≤ 90) (hl : ∀ y ∈ xs, y.length ≤ 100) : Ret (prg.run (n + 5) 40) [t.d, d] (gvD t xs) := by
  obtain ⟨M2, h⟩ := g40 mi (w := ⟨prg.run (n + 4), prg.sub, prg.turns⟩) (t := t) (d := d) (xs := xs) subs2 (by
    have h := r16 n t d xs hd hz hl
    cases e : gvE t xs with
    | none => rw [e] at h; exact fun M => Ret.lstd h
    | some x => rw [e] at h; exact fun M => h.call (by simp))
  obtain ⟨ds, e⟩ := gvD_tup t xs
  exact Ret.nl ⟨M2, by rw [prg.run_eq (n + 4) 40 F40 rfl]; exact h⟩ (by rw [e]; simp)
theorem g40n (X : Mi) {w : W} {t : T} (h16 : ∀ M, pcall (w.run 16) [.d t.d, .d .non] M = .ok (.cell M.length) (M ++ [.lst (ad (sd t.frees))])) : ∃ M2, X.go F40 w [.d t.d, .d .non] [] = .ok (.d (.tup [.str tNames, .lst (sd t.frees)])) M2 := by
  have e3 := tupA_tl (M := []) (x := .str tNames) (ds := sd t.frees)
  simp at e3
  apply Exists.intro
  simp [Mi.go, F40, B40, h16, e3]
  rfl
theorem r40n (n : Nat) (t : T) (hz : t.sz ≤ 90) : Ret (prg.run (n + 5) 40) [t.d, .non] (.tup [.str tNames, .lst (sd t.frees)]) := by
  obtain ⟨M2, h⟩ := g40n mi (w := ⟨prg.run (n + 4), prg.sub, prg.turns⟩) (t := t) fun M => Ret.lstd (r16n n t hz)
  exact ⟨M2, by rw [prg.run_eq (n + 4) 40 F40 rfl]; exact h⟩
end K90

set_option Elab.async false
set_option linter.all false
set_option maxRecDepth 100000
set_option maxHeartbeats 4000000
/-! k90: fresh names, canonical terms. -/
namespace K90
open PySem PySem.Spec L2 Mini Mq
/-! ### the next name that is not taken -/
def hit (tk : List Str) (k : Nat) : Nat := (tk.filter fun x => (List.range k).all fun j => !decide (vnm j = x)).length
theorem hit_zero (tk : List Str) : hit tk 0 = tk.length := by simp [hit]
theorem filter_len {α : Type} {p q : α → Bool} (h : ∀ x, q x = true → p x = true) : ∀ xs : List α, (xs.filter q).length ≤ (xs.filter p).length
  | [] => Nat.le_refl _
  | x :: r => by
    have ih := filter_len h r
    rw [List.filter_cons, List.filter_cons]
    by_cases hq : q x = true
    · rw [if_pos hq, if_pos (h x hq)]
      simpa using ih
    · rw [if_neg hq]
      split
      · simp; omega
      · exact ih
theorem filter_lt {α : Type} {p q : α → Bool} (h : ∀ x, q x = true → p x = true) {y : α} (hy : p y = true) (hn : q y = false) : ∀ xs : List α, y ∈ xs → (xs.filter q).length < (xs.filter p).length
  | x :: r, hm => by
    have i1 := filter_len h r
    rw [List.filter_cons, List.filter_cons]
    rcases List.mem_cons.mp hm with rfl | hm
    · rw [if_pos hy, if_neg (by rw [hn]; simp)]
      simp; omega
    · have ih := filter_lt h hy hn r hm
      by_cases hq : q x = true
      · rw [if_pos hq, if_pos (h x hq)]
        simpa using ih
      · rw [if_neg hq]
        split
        · simp; omega
        · exact ih
theorem hit_le (tk : List Str) (k : Nat) : hit tk (k + 1) ≤ hit tk k := filter_len (fun x hx => by
  rw [List.all_eq_true] at hx ⊢
  exact fun j hj => hx j (List.mem_range.mpr (by have := List.mem_range.mp hj; omega))) tk
theorem hit_lt {tk : List Str} {k : Nat} (hk : k < 150) (hm : vnm k ∈ tk) : hit tk (k + 1) < hit tk k := by
  refine filter_lt (fun x hx => ?_) ?_ ?_ tk hm
  · rw [List.all_eq_true] at hx ⊢
    exact fun j hj => hx j (List.mem_range.mpr (by have := List.mem_range.mp hj; omega))
  · rw [List.all_eq_true]
    intro j hj
    have hj := List.mem_range.mp hj
    simp only [Bool.not_eq_true', decide_eq_false_iff_not]
    intro e
    have := num_inj j (by omega) k hk e
    omega
  · rw [List.all_eq_false]
    exact ⟨k, List.mem_range.mpr (by omega), by simp⟩
def nx (tk : List Str) : Nat → Nat → Nat
  | 0, k => k
  | n + 1, k => if vnm k ∈ tk then nx tk n (k + 1) else k
theorem nx_more {tk : List Str} : ∀ {n m k : Nat}, hit tk k ≤ n → n ≤ m → m + k ≤ 149 → nx tk m k = nx tk n k ∧ vnm (nx tk n k) ∉ tk ∧ nx tk n k + hit tk (nx tk n k) ≤ k + hit tk k ∧ k ≤ nx tk n k
  | 0, m, k, h, hm, hk => by
    have hn : vnm k ∉ tk := fun q => by have := hit_lt (by omega) q; omega
    refine ⟨?_, hn, by simp [nx], by simp [nx]⟩
    cases m with
    | zero => rfl
    | succ m => simp [nx, hn]
  | n + 1, m, k, h, hm, hk => by
    cases m with
    | zero => omega
    | succ m =>
      by_cases hn : vnm k ∈ tk
      · have h1 := hit_lt (by omega) hn
        obtain ⟨i1, i2, i3, i4⟩ := nx_more (tk := tk) (n := n) (m := m) (k := k + 1) (by omega) (by omega) (by omega)
        simp only [nx, if_pos hn]
        exact ⟨i1, i2, by omega, by omega⟩
      · simp only [nx, if_neg hn]
        exact ⟨trivial, hn, Nat.le_refl _, Nat.le_refl _⟩
/-- the names that come next, and the number behind them -/
def nms' (tk : List Str) : Nat → Nat → List Str
  | 0, _ => []
  | c + 1, k => vnm (nx tk tk.length k) :: nms' tk c (nx tk tk.length k + 1)
def nme (tk : List Str) : Nat → Nat → Nat
  | 0, k => k
  | c + 1, k => nme tk c (nx tk tk.length k + 1)
theorem nms_len (tk : List Str) : ∀ c k, (nms' tk c k).length = c
  | 0, _ => rfl
  | c + 1, k => by simp [nms', nms_len tk c]
theorem nms_add (tk : List Str) : ∀ a b k, nms' tk (a + b) k = nms' tk a k ++ nms' tk b (nme tk a k) ∧ nme tk (a + b) k = nme tk b (nme tk a k)
  | 0, b, k => by simp [nms', nme]
  | a + 1, b, k => by
    obtain ⟨h1, h2⟩ := nms_add tk a b (nx tk tk.length k + 1)
    rw [show a + 1 + b = (a + b) + 1 from by omega]
    simp only [nms', nme, List.cons_append]
    exact ⟨by rw [h1], h2⟩
theorem hit_len (tk : List Str) (k : Nat) : hit tk k ≤ tk.length := List.length_filter_le _ _
/-! ### fresh_names -/
def whT1 : Mini.E := Mini.E.cmp Mini.Cmp.lt (Mini.E.bi Mini.Bi.len [Mini.E.var 2]) (Mini.E.var 0)
def whB1 : List Mini.S := [Mini.S.asg (Mini.Tg.one 4)
              (Mini.E.bin Mini.Bin.add (Mini.E.cst (Mini.D.str { cps := { toList := [118] } }))
                (Mini.E.bi Mini.Bi.str [Mini.E.var 3])),
            Mini.S.ifS (Mini.E.cmp Mini.Cmp.nin (Mini.E.var 4) (Mini.E.var 1))
              [Mini.S.ex (Mini.E.mt Mini.Mt.append (Mini.E.var 2) [Mini.E.var 4])] [],
            Mini.S.aug 3 Mini.Bin.add (Mini.E.cst (Mini.D.int (Int.ofNat 1)))]
theorem w1 (X : Mi) {w : W} {tk : List Str} {cnt : Nat} (hcnt : cnt ≤ 40) : ∀ (n k c : Nat) (fs : List Str) (a : A), fs.length + c = cnt → k + c + hit tk k ≤ 85 → tk.length ≤ 40 → c + hit tk k < n →
    ∃ k' a', whlR (X.evT w whT1) (X.exs w whB1) n [.d (.int (cnt : Nat)), .d (.lst (sd tk)), .cell 0, .d (.int (k : Nat)), a] [.lst (ad (sd fs))] = .nx [.d (.int (cnt : Nat)), .d (.lst (sd tk)), .cell 0, .d (.int (k' : Nat)), a'] [.lst (ad (sd (fs ++ nms' tk c k)))]
  | 0, k, c, fs, a, hc, hk, ht, hn => absurd hn (Nat.not_lt_zero _)
  | n + 1, k, c, fs, a, hc, hk, ht, hn => by
    rw [whlR_succ]
    cases c with
    | zero =>
      have hf : ¬ (fs.length : Int) < (cnt : Nat) := by omega
      exact ⟨k, a, by simp [whT1, hf, nms']⟩
    | succ c =>
      have hf : (fs.length : Int) < (cnt : Nat) := by omega
      obtain ⟨v1, v2⟩ := vnm_ok (k := k) (by omega)
      by_cases hm : vnm k ∈ tk
      · have h1 := hit_lt (by omega) hm
        obtain ⟨k', a', ih⟩ := w1 X (w := w) (cnt := cnt) hcnt n (k + 1) (c + 1) fs (.d (.str (vnm k))) hc (by omega) ht (by omega)
        refine ⟨k', a', ?_⟩
        have hm2 := hm
        unfold vnm at hm2
        have e1 : X.exs w whB1 [.d (.int (cnt : Nat)), .d (.lst (sd tk)), .cell 0, .d (.int (k : Nat)), a] [.lst (ad (sd fs))] = .nx [.d (.int (cnt : Nat)), .d (.lst (sd tk)), .cell 0, .d (.int ((k + 1 : Nat) : Int)), .d (.str (vnm k))] [.lst (ad (sd fs))] := by
          simp [whB1, v1, v2, hm2, augF, vnm]
        have e2 : nms' tk (c + 1) k = nms' tk (c + 1) (k + 1) := by
          have hL := hit_len tk (k + 1)
          have hp : 0 < tk.length := List.length_pos_of_mem hm
          obtain ⟨n1, n2⟩ : ∃ m, tk.length = m + 1 := ⟨tk.length - 1, by omega⟩
          have h3 : hit tk (k + 1) ≤ n1 := by have := hit_len tk k; omega
          have q := (nx_more (tk := tk) (n := n1) (m := n1 + 1) (k := k + 1) h3 (by omega) (by omega)).1
          have e3 : nx tk tk.length k = nx tk tk.length (k + 1) := by
            rw [n2, q, nx, if_pos hm]
          simp only [nms']
          rw [e3]
        rw [e2]
        simp [whT1, hf]
        rw [e1]
        simp
        simpa [whT1] using ih
      · have hl := hit_le tk k
        obtain ⟨k', a', ih⟩ := w1 X (w := w) (cnt := cnt) hcnt n (k + 1) c (fs ++ [vnm k]) (.d (.str (vnm k))) (by simp; omega) (by omega) ht (by omega)
        refine ⟨k', a', ?_⟩
        have hm2 := hm
        unfold vnm at hm2
        have hfl : fs.length < sizeLine := lt_line (by omega)
        have e1 : X.exs w whB1 [.d (.int (cnt : Nat)), .d (.lst (sd tk)), .cell 0, .d (.int (k : Nat)), a] [.lst (ad (sd fs))] = .nx [.d (.int (cnt : Nat)), .d (.lst (sd tk)), .cell 0, .d (.int ((k + 1 : Nat) : Int)), .d (.str (vnm k))] [.lst (ad (sd (fs ++ [vnm k])))] := by
          simp [whB1, v1, v2, hm2, augF, vnm, hfl]
        have e3 : nx tk tk.length k = k := by
          cases tk.length with
          | zero => rfl
          | succ m => rw [nx, if_neg hm]
        simp only [nms']
        rw [e3]
        simp [whT1, hf]
        rw [e1]
        simp
        simpa [whT1] using ih
theorem g1 (X : Mi) {w : W} {tk : List Str} {c : Nat} (hw : w.turns = 200) (hc : c ≤ 40) (ht : tk.length ≤ 40) : ∃ M2, X.go F1 w [.d (.int (c : Nat)), .d (.lst (sd tk))] [] = .ok (.cell 0) (.lst (ad (sd (nms' tk c 0))) :: M2) := by
  have h0 := hit_zero tk
  obtain ⟨k', a', h⟩ := w1 X (w := w) (tk := tk) (cnt := c) hc 200 0 c [] .un (by simp) (by omega) ht (by omega)
  refine ⟨[], ?_⟩
  simp [whT1, whB1, sd] at h
  simp [Mi.go, F1, B1, hw, h, sd]
theorem r1 (n : Nat) (tk : List Str) (c : Nat) (hc : c ≤ 40) (ht : tk.length ≤ 40) : Ret (prg.run (n + 1) 1) [.int (c : Nat), .lst (sd tk)] (.lst (sd (nms' tk c 0))) := by
  obtain ⟨M2, h⟩ := g1 mi (w := ⟨prg.run n, prg.sub, prg.turns⟩) (tk := tk) rfl hc ht
  exact Ret.of_lst (k := 0) (by rw [prg.run_eq n 1 F1 rfl]; exact h) (by simp)
/-! ### renamed -/
def T.ren (f : Str → Str) : T → T
  | .nm x => .nm (f x)
  | .bd x t => .bd (f x) (t.ren f)
  | .ap l r => .ap (l.ren f) (r.ren f)
abbrev Tb := Str → Option Str
def Tb.at (f : Tb) (x : Str) : Str := (f x).getD x
def Bear (kvs : List (Key × A)) (f : Tb) : Prop := ∀ x, valA kvs (.inr x) = (f x).map fun y => A.d (.str y)
theorem Bear.at {kvs : List (Key × A)} {f : Tb} (h : Bear kvs f) (x : Str) {M : List O} {c : Nat} (hM : M[c]? = some (.dct kvs)) : dgtA M (.cell c) (.d (.str x)) (.d (.str x)) = .ok (.d (.str (f.at x))) M := by
  rw [dgtA_str, dcv_cell, hM]
  simp only
  rw [h x]
  unfold Tb.at
  cases f x <;> rfl
def Rn (run : List A → List O → Mini.R A) (f : Tb) (t : T) : Prop := ∀ (kvs : List (Key × A)) (c : Nat) (M : List O), M[c]? = some (.dct kvs) → Bear kvs f → run [.d t.d, .cell c] M = .ok (.d (t.ren f.at).d) M
theorem g6 (X : Mi) {w : W} {f : Tb} : ∀ t : T, (∀ s : T, s.ht < t.ht → Rn (w.run 6) f s) → Rn (X.go F6 w) f t
  | .nm x, _ => by
    intro kvs c M hM hb
    have h1 := hb.at x hM
    simp [Mi.go, F6, B6, hM, T.ren, h1, -dgtA_str]
  | .bd x t, h => by
    intro kvs c M hM hb
    have h1 := hb.at x hM
    have h2 := h t (by simp [T.ht]) kvs c M hM hb
    simp [Mi.go, F6, B6, hM, T.ren, h1, h2, -dgtA_str]
  | .ap l r, h => by
    intro kvs c M hM hb
    have h2 := h l (by simp [T.ht]; omega) kvs c M hM hb
    have h3 := h r (by simp [T.ht]; omega) kvs c M hM hb
    simp [Mi.go, F6, B6, hM, T.ren, h2, h3]
theorem r6 {f : Tb} : ∀ (n : Nat) (t : T), t.ht < n → Rn (prg.run n 6) f t
  | 0, t, h => absurd h (Nat.not_lt_zero _)
  | n + 1, t, h => by
    intro kvs c M hM hb
    rw [prg.run_eq n 6 F6 rfl]
    exact g6 mi t (fun s hs => r6 n s (by omega)) kvs c M hM hb
/-! ### tables -/
def ext (f : Tb) : List Str → List Str → Tb
  | x :: xs, y :: ys => ext (fun z => if x = z then some y else f z) xs ys
  | _, _ => f
theorem ext_ne {z : Str} : ∀ (xs ys : List Str) (f : Tb), z ∉ xs → ext f xs ys z = f z
  | [], _, _, _ => by simp [ext]
  | x :: xs, [], _, _ => by simp [ext]
  | x :: xs, y :: ys, f, h => by
    rw [ext, ext_ne xs ys _ fun q => h (List.mem_cons_of_mem _ q)]
    exact if_neg fun e => h (by rw [e]; exact List.mem_cons_self ..)
theorem ext_app (xs' ys' : List Str) : ∀ (xs ys : List Str) (f : Tb), xs.length = ys.length → ext f (xs ++ xs') (ys ++ ys') = ext (ext f xs ys) xs' ys'
  | [], [], _, _ => rfl
  | x :: xs, y :: ys, f, h => ext_app xs' ys' xs ys _ (by simpa using h)
theorem Bear.put {kvs : List (Key × A)} {f : Tb} (h : Bear kvs f) (x y : Str) : Bear (putA kvs (.inr x) (.d (.str y))) (fun z => if x = z then some y else f z) := by
  intro z
  rw [valA_putA]
  by_cases e : x = z
  · subst e; simp
  · have e2 : ¬ (Sum.inr x : Key) = Sum.inr z := fun q => e (by injection q)
    rw [if_neg e2]
    show _ = Option.map _ (if x = z then some y else f z)
    rw [if_neg e]
    exact h z
theorem merge_bear : ∀ (xs ys : List Str) (kvs : List (Key × A)) (f : Tb), Bear kvs f → Bear (mergeA kvs ((xs.map fun x => (Sum.inr x : Key)).zip (ad (sd ys)))) (ext f xs ys)
  | [], ys, kvs, f, h => by simpa [mergeA, ext] using h
  | x :: xs, [], kvs, f, h => by simpa [mergeA, ext, ad, sd] using h
  | x :: xs, y :: ys, kvs, f, h => by
    have e : ad (sd (y :: ys)) = A.d (.str y) :: ad (sd ys) := rfl
    rw [e, List.map_cons, List.zip_cons_cons, mergeA, ext]
    exact merge_bear xs ys _ _ (h.put x y)
theorem keys_sd : ∀ xs : List Str, keysA (ad (sd xs)) = some (xs.map fun x => (Sum.inr x : Key))
  | [] => rfl
  | x :: r => by
    show (match keyA (.d (.str x)), keysA (ad (sd r)) with
      | some k, some ks => some (k :: ks)
      | _, _ => none) = _
    rw [keys_sd r]
    rfl
/-! ### loose_canonical -/
theorem T.ren_eq {f g : Str → Str} : ∀ {t : T}, (∀ x ∈ t.nms, f x = g x) → t.ren f = t.ren g
  | .nm x, h => by rw [ren, ren, h x (List.mem_cons_self ..)]
  | .bd x t, h => by rw [ren, ren, h x (List.mem_cons_self ..), ren_eq fun y hy => h y (List.mem_cons_of_mem _ hy)]
  | .ap l r, h => by rw [ren, ren, ren_eq fun y hy => h y (List.mem_append_left _ hy), ren_eq fun y hy => h y (List.mem_append_right _ hy)]
/-- the term with names of its own -/
def T.can (t : T) (tk : List Str) : T := t.ren (Tb.at (ext (fun _ => none) t.bs (nms' tk t.bs.length 0)))
theorem g17 (X : Mi) {w : W} {t : T} {d : D} {xs : List Str} (hx : xs.length ≤ 40) (hz : t.sz ≤ 40)
    (h16 : ∀ M, pcall (w.run 16) [.d t.d, .d d] M = .ok (.cell M.length) (M ++ [.lst (ad (sd xs))])) (h3 : P3 w t)
    (h1 : ∀ (M : List O) (as : List A), denL (den 8 M) as = some [.int (t.bs.length : Nat), .lst (sd xs)] → (frzL (frz 8) M as).map Prod.fst = some [.int (t.bs.length : Nat), .lst (sd xs)] → pcall (w.run 1) as M = match frzL (frz 8) M as with
      | some (_, M1) => .ok (.cell M1.length) (M1 ++ [.lst (ad (sd (nms' xs t.bs.length 0)))])
      | none => .no)
    (h6 : Rn (w.run 6) (ext (fun _ => none) t.bs (nms' xs t.bs.length 0)) t) : ∃ M2, X.go F17 w [.d t.d, .d d] [] = .ok (.d (t.can xs).d) M2 := by
  have hbl : t.bs.length ≤ 1000 := by
    have q : t.bs.length ≤ t.sz := by
      clear h6 h1 h3 h16 hz
      induction t with
      | nm x => simp [T.bs, T.sz]
      | bd x t ih => simp [T.bs, T.sz]; exact ih
      | ap l r i1 i2 => simp [T.bs, T.sz]; omega
    omega
  have hb := merge_bear t.bs (nms' xs t.bs.length 0) [] (fun _ => none) fun x => rfl
  have h6' := h6 _ 4 [.frz (.lst (sd xs)), .frz (.lst (td t.parts)), .lst (ad (sd t.bs)), .lst (ad (sd (nms' xs t.bs.length 0))), .dct (mergeA [] ((t.bs.map fun x => (Sum.inr x : Key)).zip (ad (sd (nms' xs t.bs.length 0)))))] rfl hb
  have hbs : List.map (fun s : T => D.str s.name) (t.parts.filter T.isBd) = sd t.bs := by
    rw [← T.binds_eq]
    unfold sd T.binds
    rw [List.map_map]
    rfl
  have hd : dzpA [.frz (.lst (sd xs)), .frz (.lst (td t.parts)), .lst (ad (sd t.bs)), .lst (ad (sd (nms' xs t.bs.length 0)))] (.cell 2) (.cell 3) = .ok (.cell 4) [.frz (.lst (sd xs)), .frz (.lst (td t.parts)), .lst (ad (sd t.bs)), .lst (ad (sd (nms' xs t.bs.length 0))), .dct (mergeA [] ((t.bs.map fun x => (Sum.inr x : Key)).zip (ad (sd (nms' xs t.bs.length 0)))))] := by
    unfold dzpA
    simp [keys_sd, nms_len, hbl]
  apply Exists.intro
  simp [Mi.go, F17, B17, h16]
  rw [compR_of (M1 := [.lst (ad (sd xs)), .lst (ad (td t.parts))]) (as := [.cell 1]) (M2 := [.lst (ad (sd xs)), .frz (.lst (td t.parts))]) (xs := t.parts) T.d T.isBd (fun s => .str s.name) ?_ ?_ ?_ (sz_line (by omega))]
  · rw [hbs]
    simp [h1, hd, h6']
    exact ⟨rfl, rfl⟩
  · simp [h3 _]
  · simp [td]
  · intro s _ acc
    refine ⟨_, rfl, ?_, ?_⟩
    · cases s <;> simp [T.isBd]
    · intro hs
      rcases s with y | ⟨y, b⟩ | ⟨l, r⟩
      · cases hs
      · simp [T.name]
      · cases hs
theorem bs_sz : ∀ t : T, t.bs.length ≤ t.sz
  | .nm x => by simp [T.bs, T.sz]
  | .bd x t => by have := bs_sz t; simp [T.bs, T.sz]; exact this
  | .ap l r => by have h1 := bs_sz l; have h2 := bs_sz r; simp [T.bs, T.sz]; omega
theorem r17 (n : Nat) (t : T) (d : D) (xs : List Str) (hd : Sq d xs) (hg : gvE t xs = none) (hx : xs.length ≤ 40) (hz : t.sz ≤ 40) (hl : ∀ y ∈ xs, y.length ≤ 100) : Ret (prg.run (n + 45) 17) [t.d, d] (t.can xs).d := by
  obtain ⟨M2, h⟩ := g17 mi (w := ⟨prg.run (n + 44), prg.sub, prg.turns⟩) (t := t) (d := d) hx hz (by
    have h := r16 (n + 40) t d xs hd (by omega) hl
    rw [hg] at h
    exact fun M => Ret.lstd h) (p3 (n := n + 42) (by omega)) (fun M as e1 e2 => (r1 (n + 43) xs t.bs.length (by have := bs_sz t; omega) hx).lst e1 e2) (r6 (n + 44) t (by have := t.ht_le_sz; omega))
  exact Ret.ok_tm (M2 := M2) (by rw [prg.run_eq (n + 44) 17 F17 rfl]; exact h)
end K90

set_option Elab.async false
set_option linter.all false
set_option maxRecDepth 100000
set_option maxHeartbeats 4000000
/-! k90: _law_canonical. -/
namespace K90
open PySem PySem.Spec L2 Mini Mq
def foB30 : List Mini.S := [Mini.S.ifS
              (Mini.E.cmp Mini.Cmp.inn
                (Mini.E.bin Mini.Bin.add (Mini.E.cst (Mini.D.str { cps := { toList := [118] } }))
                  (Mini.E.bi Mini.Bi.str [(Mini.E.var 3).ix (Mini.E.cst (Mini.D.int (Int.ofNat 0)))]))
                (Mini.E.var 2))
              [Mini.S.puti (Mini.E.var 3) (Mini.E.cst (Mini.D.int (Int.ofNat 0)))
                  (Mini.E.bin Mini.Bin.add ((Mini.E.var 3).ix (Mini.E.cst (Mini.D.int (Int.ofNat 0))))
                    (Mini.E.cst (Mini.D.int (Int.ofNat 1))))]
              []]
theorem f30 (X : Mi) {w : W} {z p : A} {tk : List Str} {ct cf cc : Nat} (hfc : cf ≠ cc) : ∀ (xs : List Nat) (k : Nat) (a : A) (M : List O), M[cf]? = some (.frz (.lst (sd tk))) → M[cc]? = some (.lst (ad [.int (k : Nat)])) → k + xs.length ≤ 149 →
    ∃ a', forR (.one 5) (X.exs w foB30) (nd xs) [z, .cell ct, .cell cf, .cell cc, p, a] M = .nx [z, .cell ct, .cell cf, .cell cc, p, a'] (M.set cc (.lst (ad [.int ((nx tk xs.length k : Nat) : Int)])))
  | [], k, a, M, h1, h2, hk => ⟨a, by rw [show nx tk ([] : List Nat).length k = k from rfl, set_same h2]; rfl⟩
  | x :: r, k, a, M, h1, h2, hk => by
    have hcl := (List.getElem?_eq_some_iff.mp h2).1
    obtain ⟨v1, v2⟩ := vnm_ok (k := k) (by omega)
    have hR : inR 0 = true := rfl
    have en : nd (x :: r) = D.int (x : Nat) :: nd r := rfl
    by_cases hm : vnm k ∈ tk
    · have hm2 := hm
      unfold vnm at hm2
      obtain ⟨a', ih⟩ := f30 X (w := w) (z := z) (p := p) (ct := ct) hfc r (k + 1) (.d (.int (x : Nat))) (M.set cc (.lst (ad [.int ((k + 1 : Nat) : Int)]))) (by rw [List.getElem?_set_ne hfc.symm]; exact h1) (by rw [List.getElem?_set_self hcl]) (by simp at hk; omega)
      refine ⟨a', ?_⟩
      have e1 : X.exs w foB30 [z, .cell ct, .cell cf, .cell cc, p, .d (.int (x : Nat))] M = .nx [z, .cell ct, .cell cf, .cell cc, p, .d (.int (x : Nat))] (M.set cc (.lst (ad [.int ((k + 1 : Nat) : Int)]))) := by
        simp [foB30, h2, v1, v2, h1, hm2, hR, seqIx0]
      rw [en]
      simp only [forR_cons, set_one, List.set_cons_succ, List.set_cons_zero]
      rw [e1]
      simp only
      rw [ih, List.set_set]
      simp [nx, hm]
    · have hm2 := hm
      unfold vnm at hm2
      obtain ⟨a', ih⟩ := f30 X (w := w) (z := z) (p := p) (ct := ct) hfc r k (.d (.int (x : Nat))) M h1 h2 (by simp at hk; omega)
      refine ⟨a', ?_⟩
      have e1 : X.exs w foB30 [z, .cell ct, .cell cf, .cell cc, p, .d (.int (x : Nat))] M = .nx [z, .cell ct, .cell cf, .cell cc, p, .d (.int (x : Nat))] M := by
        simp [foB30, h2, v1, v2, h1, hm2]
      rw [en]
      simp only [forR_cons, set_one, List.set_cons_succ, List.set_cons_zero]
      rw [e1]
      simp only
      rw [ih]
      have e2 : nx tk r.length k = k := by
        cases r.length with
        | zero => rfl
        | succ m => rw [nx, if_neg hm]
      simp [nx, hm, e2]
def Cn (run : List A → List O → Mini.R A) (tk : List Str) (t : T) : Prop := ∀ (f : Tb) (kvs : List (Key × A)) (k ct cf cc : Nat) (M : List O), ct ≠ cc → ct ≠ cf → cf ≠ cc → M[ct]? = some (.dct kvs) → M[cf]? = some (.frz (.lst (sd tk))) → M[cc]? = some (.lst (ad [.int (k : Nat)])) → Bear kvs f →
  k + t.bs.length + hit tk k ≤ 85 → kvs.length + t.bs.length ≤ 1000 →
  ∃ kvs' M', run [.d t.d, .cell ct, .cell cf, .cell cc] M = .ok (.d (t.ren (Tb.at (ext f t.bs (nms' tk t.bs.length k)))).d) M' ∧ M'[ct]? = some (.dct kvs') ∧ M'[cf]? = some (.frz (.lst (sd tk))) ∧ M'[cc]? = some (.lst (ad [.int ((nme tk t.bs.length k : Nat) : Int)])) ∧
    Bear kvs' (ext f t.bs (nms' tk t.bs.length k)) ∧ kvs'.length ≤ kvs.length + t.bs.length ∧ nme tk t.bs.length k + hit tk (nme tk t.bs.length k) ≤ k + t.bs.length + hit tk k ∧ M'.length = M.length ∧ ∀ i, i ≠ ct → i ≠ cc → M'[i]? = M[i]?
theorem g30 (X : Mi) {w : W} {tk : List Str} (ht : tk.length ≤ 40) : ∀ t : T, t.ok → (∀ s : T, s.ht < t.ht → s.ok → Cn (w.run 30) tk s) → Cn (X.go F30 w) tk t
  | .nm x, _, _ => by
    intro f kvs k ct cf cc M n1 n2 n3 h1 h2 h3 hb hk hl
    refine ⟨kvs, M, ?_, h1, h2, h3, hb, by simp [T.bs], by simp [T.bs, nme], rfl, fun _ _ _ => rfl⟩
    have e1 := hb.at x h1
    simp [Mi.go, F30, B30, h1, e1, T.ren, T.bs, nms', ext, -dgtA_str]
  | .ap l r, ho, ih => by
    intro f kvs k ct cf cc M n1 n2 n3 h1 h2 h3 hb hk hl
    simp only [T.bs, List.length_append] at hk hl ⊢
    obtain ⟨kvs1, M1, a1, a2, a3, a4, a5, a6, a7, a8, a9⟩ := ih l (by simp [T.ht]; omega) ho.1 f kvs k ct cf cc M n1 n2 n3 h1 h2 h3 hb (by omega) (by omega)
    obtain ⟨kvs2, M2, b1, b2, b3, b4, b5, b6, b7, b8, b9⟩ := ih r (by simp [T.ht]; omega) ho.2.1 _ kvs1 _ ct cf cc M1 n1 n2 n3 a2 a3 a4 a5 (by omega) (by omega)
    obtain ⟨q1, q2⟩ := nms_add tk l.bs.length r.bs.length k
    have e0 : ext f (l.bs ++ r.bs) (nms' tk (l.bs.length + r.bs.length) k) = ext (ext f l.bs (nms' tk l.bs.length k)) r.bs (nms' tk r.bs.length (nme tk l.bs.length k)) := by
      rw [q1, ext_app _ _ _ _ _ (by rw [nms_len])]
    refine ⟨kvs2, M2, ?_, b2, b3, by rw [q2]; exact b4, by rw [e0]; exact b5, by omega, by rw [q2]; omega, by omega, fun i i1 i2 => by rw [b9 i i1 i2, a9 i i1 i2]⟩
    have e1 : l.ren (Tb.at (ext f l.bs (nms' tk l.bs.length k))) = l.ren (Tb.at (ext f (l.bs ++ r.bs) (nms' tk (l.bs.length + r.bs.length) k))) := by
      apply T.ren_eq
      intro x hx
      rw [e0]
      unfold Tb.at
      rw [ext_ne (z := x) _ _ (ext f l.bs (nms' tk l.bs.length k)) fun q => ho.2.2 x hx (T.bs_nms q)]
    rw [e1] at a1
    rw [← e0] at b1
    simp [Mi.go, F30, B30, a1, b1, T.ren]
  | .bd x t, ho, ih => by
    intro f kvs k ct cf cc M n1 n2 n3 h1 h2 h3 hb hk hl
    simp only [T.bs, List.length_cons] at hk hl ⊢
    have hcc := (List.getElem?_eq_some_iff.mp h3).1
    have hct := (List.getElem?_eq_some_iff.mp h1).1
    have hL := hit_len tk k
    obtain ⟨u1, u2, u3, u4⟩ := nx_more (tk := tk) (n := tk.length) (m := tk.length) (k := k) hL (Nat.le_refl _) (by omega)
    obtain ⟨p', hp'⟩ : ∃ p', p' = nx tk tk.length k := ⟨_, rfl⟩
    rw [← hp'] at u2 u3 u4
    obtain ⟨a', lp⟩ := f30 X (w := w) (z := .d (T.bd x t).d) (p := .un) (ct := ct) n3 (List.range tk.length) k .un M h2 h3 (by rw [List.length_range]; omega)
    rw [List.length_range, ← hp'] at lp
    obtain ⟨v1, v2⟩ := vnm_ok (k := p') (by omega)
    have hlt := hit_le tk p'
    have hR : inR 0 = true := rfl
    have hRt : inR (tk.length : Int) = true := inR_nat (by omega)
    have hkl : kvs.length < sizeLine := lt_line (by omega)
    have hpl := putA_len kvs (.inr x) (.d (.str (vnm p')))
    have w1 : ((M.set cc (.lst (ad [.int (p' : Nat)]))).set ct (.dct (putA kvs (.inr x) (.d (.str (vnm p')))))).length = M.length := by simp
    obtain ⟨kvs2, M2, b1, b2, b3, b4, b5, b6, b7, b8, b9⟩ := ih t (by simp [T.ht]) ho.1 _ (putA kvs (.inr x) (.d (.str (vnm p')))) (p' + 1) ct cf cc (((M.set cc (.lst (ad [.int (p' : Nat)]))).set ct (.dct (putA kvs (.inr x) (.d (.str (vnm p')))))).set cc (.lst (ad [.int ((p' + 1 : Nat) : Int)]))) n1 n2 n3
      (by rw [List.getElem?_set_ne n1.symm, List.getElem?_set_self (by simpa using hct)]) (by rw [List.getElem?_set_ne n3.symm, List.getElem?_set_ne n2, List.getElem?_set_ne n3.symm]; exact h2) (by rw [List.getElem?_set_self (by simpa using hcc)]) (hb.put x (vnm p')) (by omega) (by omega)
    have e0 : ext f (x :: t.bs) (nms' tk (t.bs.length + 1) k) = ext (fun z => if x = z then some (vnm p') else f z) t.bs (nms' tk t.bs.length (p' + 1)) := by
      rw [nms', ← hp']
      rfl
    have e00 : nme tk (t.bs.length + 1) k = nme tk t.bs.length (p' + 1) := by
      rw [nme, ← hp']
    have e3 : Tb.at (ext f (x :: t.bs) (nms' tk (t.bs.length + 1) k)) x = vnm p' := by
      rw [e0]
      unfold Tb.at
      rw [ext_ne _ _ _ ho.2, if_pos rfl]
      rfl
    refine ⟨kvs2, M2, ?_, b2, b3, by rw [e00]; exact b4, by rw [e0]; exact b5, by omega, by rw [e00]; omega, by rw [b8]; simp, fun i i1 i2 => by rw [b9 i i1 i2, List.getElem?_set_ne (Ne.symm i2), List.getElem?_set_ne (Ne.symm i1), List.getElem?_set_ne (Ne.symm i2)]⟩
    rw [← e0] at b1
    have m1 : (M.set cc (.lst (ad [.int (p' : Nat)])))[cc]? = some (.lst (ad [.int (p' : Nat)])) := List.getElem?_set_self hcc
    have m2 : (M.set cc (.lst (ad [.int (p' : Nat)])))[ct]? = some (.dct kvs) := by rw [List.getElem?_set_ne n1.symm]; exact h1
    have m3 : ((M.set cc (.lst (ad [.int (p' : Nat)]))).set ct (.dct (putA kvs (.inr x) (.d (.str (vnm p'))))))[cc]? = some (.lst (ad [.int (p' : Nat)])) := by rw [List.getElem?_set_ne n1]; exact m1
    have m4 : (((M.set cc (.lst (ad [.int (p' : Nat)]))).set ct (.dct (putA kvs (.inr x) (.d (.str (vnm p')))))).set cc (.lst (ad [.int ((p' + 1 : Nat) : Int)])))[ct]? = some (.dct (putA kvs (.inr x) (.d (.str (vnm p'))))) := by
      rw [List.getElem?_set_ne n1.symm, List.getElem?_set_self (by simpa using hct)]
    have m5 : valA (putA kvs (.inr x) (.d (.str (vnm p')))) (.inr x) = some (.d (.str (vnm p'))) := by rw [valA_putA, if_pos rfl]
    simp only [foB30] at lp
    generalize hM1 : M.set cc (.lst (ad [.int (p' : Nat)])) = M1 at *
    simp [Mi.go, F30, B30, h2, hRt]
    rw [show (Mini.E.cst (D.int 0)) = (Mini.E.cst (D.int (Int.ofNat 0))) from rfl, show (Mini.E.cst (D.int 1)) = (Mini.E.cst (D.int (Int.ofNat 1))) from rfl] at *
    rw [T.d_bd] at lp
    rw [lp]
    have vd : ({ cps := { toList := [118] } } : Str) ++ num (p' : Int) = vnm p' := rfl
    generalize hM2 : M1.set ct (.dct (putA kvs (.inr x) (.d (.str (vnm p'))))) = M2' at *
    have m6 : M2'.set cc (O.lst (ad [D.int ((p' : Int) + 1)])) = M2'.set cc (.lst (ad [.int ((p' + 1 : Nat) : Int)])) := by simp
    generalize hM3 : M2'.set cc (.lst (ad [.int ((p' + 1 : Nat) : Int)])) = M3' at *
    simp [m1, v1, v2, m2, hkl, vd, hM2, m3, hR, seqIx0, m6, m4, m5, b1, T.ren, e3]
theorem r30 {tk : List Str} (ht : tk.length ≤ 40) : ∀ (n : Nat) (t : T), t.ht < n → t.ok → Cn (prg.run n 30) tk t
  | 0, t, h, _ => absurd h (Nat.not_lt_zero _)
  | n + 1, t, h, ho => by
    rw [show prg.run (n + 1) 30 = mi.go F30 ⟨prg.run n, prg.sub, prg.turns⟩ from by funext as M; exact prg.run_eq n 30 F30 rfl as M]
    exact g30 mi ht t ho fun s hs h2 => r30 ht n s (by omega) h2
end K90

set_option Elab.async false
set_option linter.all false
set_option maxRecDepth 100000
set_option maxHeartbeats 4000000
/-! k90: cells, digits, shuffles. -/
namespace K90
open PySem PySem.Spec L2 Mini Mq
def idt (ns : List Int) : List D := ns.map D.int
theorem g21 (X : Mi) {w : W} {ns : List Int} {k : Nat} {M : List O} : X.go F21 w [.d (.rol (idt ns)), .d (.int (k : Nat))] M = .ok (.d (.int (ns[k]?.getD 0))) M := by
  have hl : (idt ns).length = ns.length := by simp [idt]
  by_cases h : k < ns.length
  · have h2 : (k : Int) < (ns.length : Nat) := by omega
    have e : (idt ns)[k]? = some (.int ns[k]) := by simp [idt, h]
    simp [Mi.go, F21, B21, hl, h2, e, h]
    simp [idt]
  · have h2 : ¬ (k : Int) < (ns.length : Nat) := by omega
    have e : ns[k]? = none := List.getElem?_eq_none (by omega)
    simp [Mi.go, F21, B21, hl, h2, e]
theorem p21 {n k : Nat} {ns : List Int} {M : List O} : pcall (prg.run (n + 1) 21) [.d (.rol (idt ns)), .d (.int (k : Nat))] M = .ok (.d (.int (ns[k]?.getD 0))) M := by
  have h : Ret (prg.run (n + 1) 21) [.rol (idt ns), .int (k : Nat)] (.int (ns[k]?.getD 0)) := ⟨[], by
    rw [prg.run_eq n 21 F21 rfl]
    exact g21 mi⟩
  exact h.sc rfl (by simp)
theorem g22 (X : Mi) {w : W} {ns : List Nat} {k : Nat} {M : List O} : X.go F22 w [.d (.lst (nd ns)), .d (.int (k : Nat))] M = .ok (.d (.int ((ns[k]?.getD 0 : Nat) : Int))) M := by
  by_cases h : k < ns.length
  · have h2 : (k : Int) < (ns.length : Nat) := by omega
    have e : ns[k]? = some ns[k] := List.getElem?_eq_getElem h
    simp [Mi.go, F22, B22, h2, e, h]
  · have h2 : ¬ (k : Int) < (ns.length : Nat) := by omega
    have e : ns[k]? = none := List.getElem?_eq_none (by omega)
    simp [Mi.go, F22, B22, h2, e, h]
theorem p22 {n k : Nat} {ns : List Nat} {M : List O} {as : List A} (h1 : denL (den 8 M) as = some [.lst (nd ns), .int (k : Nat)]) : pcall (prg.run (n + 1) 22) as M = .ok (.d (.int ((ns[k]?.getD 0 : Nat) : Int))) M := by
  have h : Ret (prg.run (n + 1) 22) [.lst (nd ns), .int (k : Nat)] (.int ((ns[k]?.getD 0 : Nat) : Int)) := ⟨[], by
    rw [prg.run_eq n 22 F22 rfl]
    exact g22 mi⟩
  exact h.sc rfl h1
theorem g34 (X : Mi) {w : W} {c a b : Int} {M : List O} : X.go F34 w [.d (.int c), .d (.int a), .d (.int b)] M = .ok (.d (.int (if c % 8 = 5 then b else a))) M := by
  by_cases h : c % 8 = 5
  · simp [Mi.go, F34, B34, h]
  · simp [Mi.go, F34, B34, h]
theorem p34 {n : Nat} {c a b : Int} {M : List O} : pcall (prg.run (n + 1) 34) [.d (.int c), .d (.int a), .d (.int b)] M = .ok (.d (.int (if c % 8 = 5 then b else a))) M := by
  have h : Ret (prg.run (n + 1) 34) [.int c, .int a, .int b] (.int (if c % 8 = 5 then b else a)) := ⟨[], by
    rw [prg.run_eq n 34 F34 rfl]
    exact g34 mi⟩
  exact h.sc rfl (by simp)
/-! ### _law_digits -/
theorem okMul_of {i j : Int} (hi : i.natAbs < 2 ^ 200) (hj : j.natAbs < 2 ^ 200) : okMul i j = true := by
  have h1 : i.natAbs.log2 ≤ 200 := by
    rcases Nat.eq_zero_or_pos i.natAbs with h | h
    · rw [h]; decide
    · exact Nat.le_of_lt ((Nat.log2_lt (by omega)).mpr hi)
  have h2 : j.natAbs.log2 ≤ 200 := by
    rcases Nat.eq_zero_or_pos j.natAbs with h | h
    · rw [h]; decide
    · exact Nat.le_of_lt ((Nat.log2_lt (by omega)).mpr hj)
  unfold okMul bits
  rw [decide_eq_true_eq]
  omega
def foA23 : List Mini.S := [Mini.S.ifS (Mini.E.cmp Mini.Cmp.gt (Mini.E.var 4) (Mini.E.cst (Mini.D.int (Int.ofNat 0))))
                  [Mini.S.ex
                      (Mini.E.mt Mini.Mt.append (Mini.E.var 3)
                        [Mini.E.bin Mini.Bin.mod (Mini.E.var 4) (Mini.E.cst (Mini.D.int (Int.ofNat 360)))]),
                    Mini.S.asg (Mini.Tg.one 4)
                      (Mini.E.bin Mini.Bin.fdv (Mini.E.var 4) (Mini.E.cst (Mini.D.int (Int.ofNat 360))))]
                  []]
theorem div360 : okDiv 360 = true := by decide
theorem div7 : okDiv 7 = true := by decide
theorem fa23 (X : Mi) {w : W} {a b c g : A} : ∀ (xs : List Nat) (ds : List Nat) (rest : Int) (f : A), 0 ≤ rest → ds.length + xs.length ≤ 1000 → ∃ es f' r', forR (.one 5) (X.exs w foA23) (nd xs) [a, b, c, .cell 0, .d (.int rest), f, g] [.lst (ad (nd ds))] = .nx [a, b, c, .cell 0, .d (.int r'), f', g] [.lst (ad (nd (ds ++ es)))] ∧ es.length ≤ xs.length ∧ ∀ e ∈ es, e < 360
  | [], ds, rest, f, _, _ => ⟨[], f, rest, by simp [nd, forR_nil], by simp, by simp⟩
  | x :: r, ds, rest, f, h, hl => by
    have en : nd (x :: r) = D.int (x : Nat) :: nd r := rfl
    simp only [en, forR_cons, set_one, List.set_cons_succ, List.set_cons_zero]
    rw [List.length_cons] at hl
    by_cases hr : 0 < rest
    · have hds : ds.length < sizeLine := lt_line (by omega)
      have e0 : rest % 360 = (((rest % 360).toNat : Nat) : Int) := by omega
      obtain ⟨es, f', r', ih, h1, h2⟩ := fa23 X (w := w) (a := a) (b := b) (c := c) (g := g) r (ds ++ [(rest % 360).toNat]) (rest / 360) (.d (.int (x : Nat))) (by omega) (by simp; omega)
      refine ⟨(rest % 360).toNat :: es, f', r', ?_, by simp; omega, fun e he => ?_⟩
      · have e1 : X.exs w foA23 [a, b, c, .cell 0, .d (.int rest), .d (.int (x : Nat)), g] [.lst (ad (nd ds))] = .nx [a, b, c, .cell 0, .d (.int (rest / 360)), .d (.int (x : Nat)), g] [.lst (ad (nd (ds ++ [(rest % 360).toNat])))] := by
          have e2 : nd ds ++ [D.int (rest % 360)] = nd (ds ++ [(rest % 360).toNat]) := by
            rw [e0]
            simp [nd]
          simp [foA23, hr, hds, div360, e2]
        rw [e1]
        simp only
        rw [ih]
        simp
      · rcases List.mem_cons.mp he with rfl | he
        · omega
        · exact h2 e he
    · obtain ⟨es, f', r', ih, h1, h2⟩ := fa23 X (w := w) (a := a) (b := b) (c := c) (g := g) r ds rest (.d (.int (x : Nat))) h (by omega)
      refine ⟨es, f', r', ?_, by simp; omega, h2⟩
      have e1 : X.exs w foA23 [a, b, c, .cell 0, .d (.int rest), .d (.int (x : Nat)), g] [.lst (ad (nd ds))] = .nx [a, b, c, .cell 0, .d (.int rest), .d (.int (x : Nat)), g] [.lst (ad (nd ds))] := by
        simp [foA23, hr]
      rw [e1]
      simp only
      rw [ih]
def foB23 : List Mini.S := [Mini.S.asg (Mini.Tg.one 6)
              (Mini.E.bin Mini.Bin.mod
                (Mini.E.bi Mini.Bi.int
                  [Mini.E.bin Mini.Bin.add
                      (Mini.E.bin Mini.Bin.add
                        (Mini.E.bin Mini.Bin.mul (Mini.E.var 6) (Mini.E.cst (Mini.D.int (Int.ofNat 48271))))
                        (Mini.E.cst (Mini.D.int (Int.ofNat 11))))
                      (Mini.E.var 5)])
                (Mini.E.cst (Mini.D.int (Int.ofNat 2147483647)))),
            Mini.S.ex
              (Mini.E.mt Mini.Mt.append (Mini.E.var 3)
                [Mini.E.bin Mini.Bin.mod
                    (Mini.E.bin Mini.Bin.fdv
                      (Mini.E.bin Mini.Bin.mod
                        (Mini.E.bi Mini.Bi.int
                          [Mini.E.bin Mini.Bin.add
                              (Mini.E.bin Mini.Bin.mul (Mini.E.var 6) (Mini.E.cst (Mini.D.int (Int.ofNat 69621))))
                              (Mini.E.var 2)])
                        (Mini.E.cst (Mini.D.int (Int.ofNat 2147483629))))
                      (Mini.E.cst (Mini.D.int (Int.ofNat 7))))
                    (Mini.E.cst (Mini.D.int (Int.ofNat 360)))])]
theorem fb23 (X : Mi) {w : W} {a b q : A} {sa : Nat} (hsa : sa ≤ 1000) : ∀ (xs : List Nat) (ds : List Nat) (mx : Int) (f : A), 0 ≤ mx → mx < 10 ^ 30 → ds.length + xs.length ≤ 1000 → ∃ es f' m', forR (.one 5) (X.exs w foB23) (nd xs) [a, b, .d (.int (sa : Nat)), .cell 0, q, f, .d (.int mx)] [.lst (ad (nd ds))] = .nx [a, b, .d (.int (sa : Nat)), .cell 0, q, f', .d (.int m')] [.lst (ad (nd (ds ++ es)))] ∧ es.length ≤ xs.length ∧ ∀ e ∈ es, e < 360
  | [], ds, mx, f, _, _, _ => ⟨[], f, mx, by simp [nd, forR_nil], by simp, by simp⟩
  | x :: r, ds, mx, f, h, hm, hl => by
    have en : nd (x :: r) = D.int (x : Nat) :: nd r := rfl
    simp only [en, forR_cons, set_one, List.set_cons_succ, List.set_cons_zero]
    rw [List.length_cons] at hl
    have hds : ds.length < sizeLine := lt_line (by omega)
    have o1 : okMul mx 48271 = true := okMul_of (by omega) (by decide)
    obtain ⟨m1, hm1⟩ : ∃ m1, m1 = (mx * 48271 + 11 + (x : Nat)) % 2147483647 := ⟨_, rfl⟩
    have hm2 : 0 ≤ m1 ∧ m1 < 2147483647 := by omega
    have o2 : okMul m1 69621 = true := okMul_of (by omega) (by decide)
    obtain ⟨d, hd⟩ : ∃ d, d = (m1 * 69621 + (sa : Nat)) % 2147483629 / 7 % 360 := ⟨_, rfl⟩
    have hd2 : 0 ≤ d ∧ d < 360 := by omega
    obtain ⟨es, f', m', ih, h1, h2⟩ := fb23 X (w := w) (a := a) (b := b) (q := q) hsa r (ds ++ [d.toNat]) m1 (.d (.int (x : Nat))) hm2.1 (by omega) (by simp; omega)
    refine ⟨d.toNat :: es, f', m', ?_, by simp; omega, fun e he => ?_⟩
    · have e1 : X.exs w foB23 [a, b, .d (.int (sa : Nat)), .cell 0, q, .d (.int (x : Nat)), .d (.int mx)] [.lst (ad (nd ds))] = .nx [a, b, .d (.int (sa : Nat)), .cell 0, q, .d (.int (x : Nat)), .d (.int m1)] [.lst (ad (nd (ds ++ [d.toNat])))] := by
        have e2 : nd ds ++ [D.int d] = nd (ds ++ [d.toNat]) := by
          simp [nd]
          omega
        simp [foB23, o1, ← hm1, o2, div7, ← hd, hds, e2]
      rw [e1]
      simp only
      rw [ih]
      simp
    · rcases List.mem_cons.mp he with rfl | he
      · omega
      · exact h2 e he
theorem g23 (X : Mi) {w : W} {c : Int} {m sa : Nat} (hm : m ≤ 100) (hsa : sa ≤ 1000) : ∃ ds : List Nat, ds.length ≤ m ∧ (∀ e ∈ ds, e < 360) ∧ X.go F23 w [.d (.int c), .d (.int (m : Nat)), .d (.int (sa : Nat))] [] = .ok (.cell 0) [.lst (ad (nd ds))] := by
  have hi : inR (m : Int) = true := inR_nat (by omega)
  have hp : ∀ M : List O, Mini.bin .pow (.d (.int 10)) (.d (.int 18)) M = .ok (.d (.int 1000000000000000000)) M := fun M => rfl
  obtain ⟨r, hr⟩ : ∃ r, r = (if c < 0 then -c else c) := ⟨_, rfl⟩
  have hr0 : 0 ≤ r := by omega
  by_cases hb : 1000000000000000000 ≤ r
  · obtain ⟨es, f', r', h, h1, h2⟩ := fa23 X (w := w) (a := .d (.int c)) (b := .d (.int (m : Nat))) (c := .d (.int (sa : Nat))) (g := .un) (List.range m) [] r .un hr0 (by simp; omega)
    refine ⟨es, by simpa using h1, h2, ?_⟩
    simp [foA23] at h
    rw [show ad (nd []) = ad [] from rfl] at h
    simp [Mi.go, F23, B23, ← hr, hp, hb, hi, h]
  · have o1 : okMul r 48271 = true := okMul_of (by omega) (by decide)
    have o2 : okMul (sa : Int) 69621 = true := okMul_of (by omega) (by decide)
    obtain ⟨es, f', r', h, h1, h2⟩ := fb23 X (w := w) (a := .d (.int c)) (b := .d (.int (m : Nat))) (q := .d (.int r)) hsa (List.range m) [] (r * 48271 + (sa : Nat) * 69621 + 12345) .un (by omega) (by omega) (by simp; omega)
    refine ⟨es, by simpa using h1, h2, ?_⟩
    simp [foB23] at h
    rw [show ad (nd []) = ad [] from rfl] at h
    simp [Mi.go, F23, B23, ← hr, hp, hb, hi, o1, o2, h]
theorem r23 (n : Nat) (c : Int) (m sa : Nat) (hm : m ≤ 100) (hsa : sa ≤ 1000) : ∃ ds : List Nat, ds.length ≤ m ∧ (∀ e ∈ ds, e < 360) ∧ Ret (prg.run (n + 1) 23) [.int c, .int (m : Nat), .int (sa : Nat)] (.lst (nd ds)) := by
  obtain ⟨ds, h1, h2, h3⟩ := g23 mi (w := ⟨prg.run n, prg.sub, prg.turns⟩) (c := c) hm hsa
  exact ⟨ds, h1, h2, Ret.of_lst (k := 0) (by rw [prg.run_eq n 23 F23 rfl]; exact h3) rfl⟩
/-! ### _law_shuffled -/
def foB27 : List Mini.S := [Mini.S.ex
              (Mini.E.mt Mini.Mt.append (Mini.E.var 3)
                [Mini.E.mt Mini.Mt.popi (Mini.E.var 2)
                    [Mini.E.bin Mini.Bin.mod (Mini.E.call 22 [Mini.E.var 1, Mini.E.var 4] [] [])
                        (Mini.E.bi Mini.Bi.len [Mini.E.var 2])]])]
theorem perm_erase {α : Type} : ∀ (l : List α) (k : Nat) (h : k < l.length), (l[k] :: l.eraseIdx k).Perm l
  | x :: r, 0, _ => List.Perm.refl _
  | x :: r, k + 1, h => by
    have ih := perm_erase r k (by simpa using h)
    simp only [List.getElem_cons_succ, List.eraseIdx_cons_succ]
    exact (List.Perm.swap _ _ _).trans (List.Perm.cons x ih)
theorem f27 (X : Mi) {w : W} {z : A} {ds : List Nat} (h22 : ∀ (k : Nat) M, pcall (w.run 22) [.d (.lst (nd ds)), .d (.int (k : Nat))] M = .ok (.d (.int ((ds[k]?.getD 0 : Nat) : Int))) M) : ∀ (xs : List Nat) (rs fs : List Str) (a : A), rs.length = xs.length → fs.length + rs.length ≤ 1000 →
    ∃ gs a' , (gs.Perm rs) ∧ forR (.one 4) (X.exs w foB27) (nd xs) [z, .d (.lst (nd ds)), .cell 0, .cell 1, a] [.lst (ad (sd rs)), .lst (ad (sd fs))] = .nx [z, .d (.lst (nd ds)), .cell 0, .cell 1, a'] [.lst (ad (sd [])), .lst (ad (sd (fs ++ gs)))]
  | [], rs, fs, a, h, _ => by
    have : rs = [] := List.length_eq_zero_iff.mp (by simpa using h)
    subst this
    exact ⟨[], a, List.Perm.refl _, by simp [nd, forR_nil]⟩
  | x :: r, rs, fs, a, h, hl => by
    have en : nd (x :: r) = D.int (x : Nat) :: nd r := rfl
    simp only [en, forR_cons, set_one, List.set_cons_succ, List.set_cons_zero]
    rw [List.length_cons] at h
    obtain ⟨k, hk⟩ : ∃ k, k = (ds[x]?.getD 0) % rs.length := ⟨_, rfl⟩
    have hkl : k < rs.length := by rw [hk]; exact Nat.mod_lt _ (by omega)
    have e0 : ((ds[x]?.getD 0 : Nat) : Int) % (rs.length : Nat) = (k : Nat) := by rw [hk]; simp
    have hi : inR (k : Int) = true := inR_nat (by omega)
    have hs : seqIndex? (k : Int) rs.length = some k := by
      unfold seqIndex?
      simp
      try omega
    have hpos : (0 : Int) < (rs.length : Nat) := by omega
    have hpos2 : 0 < rs.length := by omega
    have hf : fs.length < sizeLine := lt_line (by omega)
    have hge : rs[k]? = some rs[k] := List.getElem?_eq_getElem hkl
    have hper : (rs[k] :: rs.eraseIdx k).Perm rs := by
      exact perm_erase rs k hkl
    generalize rs[k] = y at hge hper
    have he : (sd rs).eraseIdx k = sd (rs.eraseIdx k) := by
      have : ∀ (rs : List Str) (k : Nat), (sd rs).eraseIdx k = sd (rs.eraseIdx k) := by
        intro rs
        induction rs with
        | nil => intro k; rfl
        | cons q t ih =>
          intro k
          cases k with
          | zero => rfl
          | succ k => show D.str q :: (sd t).eraseIdx k = _; rw [ih]; rfl
      exact this rs k
    have hle : (rs.eraseIdx k).length = rs.length - 1 := List.length_eraseIdx_of_lt hkl
    obtain ⟨gs, a', h1, ih⟩ := f27 X (z := z) h22 r (rs.eraseIdx k) (fs ++ [y]) (.d (.int (x : Nat))) (by omega) (by simp; omega)
    refine ⟨y :: gs, a', (List.Perm.cons y h1).trans hper, ?_⟩
    have e1 : X.exs w foB27 [z, .d (.lst (nd ds)), .cell 0, .cell 1, .d (.int (x : Nat))] [.lst (ad (sd rs)), .lst (ad (sd fs))] = .nx [z, .d (.lst (nd ds)), .cell 0, .cell 1, .d (.int (x : Nat))] [.lst (ad (sd (rs.eraseIdx k))), .lst (ad (sd (fs ++ [y])))] := by
      simp [foB27, h22, hpos, hpos2, e0, hi, hs, hge, he, hf]
    rw [e1]
    simp only
    rw [ih]
    simp
theorem g27 (X : Mi) {w : W} {xs : List Str} {ds : List Nat} (hx : xs.length ≤ 1000) (h22 : ∀ (k : Nat) M, pcall (w.run 22) [.d (.lst (nd ds)), .d (.int (k : Nat))] M = .ok (.d (.int ((ds[k]?.getD 0 : Nat) : Int))) M) :
    ∃ ys, ys.Perm xs ∧ X.go F27 w [.d (.lst (sd xs)), .d (.lst (nd ds))] [] = .ok (.cell 1) [.lst (ad (sd [])), .lst (ad (sd ys))] := by
  obtain ⟨gs, a', h1, h⟩ := f27 X (z := .d (.lst (sd xs))) h22 (List.range xs.length) xs [] .un (by simp) (by simp; omega)
  have hi : inR (xs.length : Int) = true := inR_nat (by omega)
  refine ⟨gs, h1, ?_⟩
  simp [foB27] at h
  rw [show ad (sd []) = ad [] from rfl] at h
  simp [Mi.go, F27, B27, hi, h]
  rfl
theorem r27 (n : Nat) (xs : List Str) (ds : List Nat) (hx : xs.length ≤ 1000) : ∃ ys : List Str, ys.Perm xs ∧ Ret (prg.run (n + 2) 27) [.lst (sd xs), .lst (nd ds)] (.lst (sd ys)) := by
  obtain ⟨ys, h1, h2⟩ := g27 mi (w := ⟨prg.run (n + 1), prg.sub, prg.turns⟩) (xs := xs) (ds := ds) hx fun k M => p22 (by simp)
  exact ⟨ys, h1, Ret.of_lst (k := 1) (by rw [prg.run_eq (n + 1) 27 F27 rfl]; exact h2) rfl⟩
end K90

set_option Elab.async false
set_option linter.all false
set_option maxRecDepth 100000
set_option maxHeartbeats 4000000
/-! k90: the loose term by digits. -/
namespace Mq
open PySem PySem.Spec L2 Mini
@[simp] theorem bin_addL3 {ds : List D} {n : Nat} {M : List O} : bin .add (.cell n) (.d (.lst ds)) M = match lsw M (.cell n) with
    | some xs => mkL M (xs ++ ad ds)
    | _ => .no := by
  show (match lsw M (.cell n), lsw M (.d (.lst ds)) with
    | some xs, some ys => mkL M (xs ++ ys)
    | _, _ => .no) = _
  rw [lsw_lst]
  cases h : lsw M (.cell n) with
  | none => rfl
  | some y => rfl
@[simp] theorem tupA_dc {x : D} {n : Nat} {M : List O} : tupA M [.d x, .cell n] = match frz 8 M (.cell n) with
    | some (y, M1) => .ok (.d (.tup [x, y])) M1
    | none => .ok (.cell M.length) (M ++ [.tpl [.d x, .cell n]]) := by
  unfold tupA
  rw [frzL_cons, frz_d]
  simp only
  rw [frzL_cons]
  cases frz 8 M (.cell n) with
  | none => simp only; rw [if_pos (le_line (by simp))]
  | some q => obtain ⟨y, M1⟩ := q; simp only [frzL_nil]; rw [if_pos (le_line (by simp))]
@[simp] theorem scs_2 {a b : Int} : scs (ad [.int a, .int b]) = some [.int a, .int b] := rfl
@[simp] theorem eqS_int {a b : Int} : eqS (.int a) (.int b) = (a == b) := rfl
end Mq
namespace K90
open PySem PySem.Spec L2 Mini Mq
def pd (e : T) : D := .tup [e.d, .lst (sd e.fr)]
def pds (es : List T) : List D := es.map pd
@[simp] theorem pds_len (es : List T) : (pds es).length = es.length := by simp [pds]
theorem pds_app (xs ys : List T) : pds (xs ++ ys) = pds xs ++ pds ys := by simp [pds]
theorem pds_1 (x : T) : pds [x] = [pd x] := rfl
def chosen (p : T) (dg : Nat) : Str := (p.fr[(dg / 6) % p.fr.length]?).getD sName
def jn (kd dg : Nat) (p l : T) : T := if kd = 3 ∧ p.fr ≠ [] then .ap (.bd (chosen p dg) p) l else .ap p l
theorem chosen_mem {p : T} {dg : Nat} (h : p.fr ≠ []) : chosen p dg ∈ p.fr ∧ p.fr[(dg / 6) % p.fr.length]? = some (chosen p dg) := by
  have hl : 0 < p.fr.length := List.length_pos_iff.mpr h
  have hk : (dg / 6) % p.fr.length < p.fr.length := Nat.mod_lt _ hl
  have e : p.fr[(dg / 6) % p.fr.length]? = some p.fr[(dg / 6) % p.fr.length] := List.getElem?_eq_getElem hk
  unfold chosen
  rw [e]
  exact ⟨List.getElem_mem _, rfl⟩
theorem fltr {x : Str} (xs : List Str) : xs.filter (fun y => !(y == x)) = xs.filter fun y => decide (y ≠ x) := by
  apply List.filter_congr
  intro y _
  by_cases h : y = x <;> simp [h]
theorem modc {a b : Nat} (hb : 0 < b) : ((a : Int) / 6) % (b : Nat) = (((a / 6) % b : Nat) : Int) := by simp
theorem div6 : okDiv 6 = true := by decide
theorem g26 (X : Mi) {w : W} {es : List T} {p l : T} {kd dg : Nat} {Q : List O} {L1 L2 : List A} (hs : SeqAt.shaped (D.lst (sd p.fr)).py = true) (hl : p.fr.length + l.fr.length ≤ 1000) (hes : es.length ≤ 1000)
    (q1 : L2.getLast? = some (.d (.tup [l.d, .lst (sd l.fr)]))) (q2 : L2.dropLast = L1) (q3 : L1.getLast? = some (.d (.tup [p.d, .lst (sd p.fr)]))) (q4 : L1.dropLast = ad (pds es)) :
    ∃ Q', X.go F26 w [.cell 0, .d (.int (kd : Nat)), .d (.int (dg : Nat))] (.lst L2 :: Q) = .ok (.d .non) (.lst (ad (pds es ++ [pd (jn kd dg p l)])) :: Q') := by
  have hesl : es.length < sizeLine := lt_line (by omega)
  by_cases h : kd = 3 ∧ p.fr ≠ []
  · obtain ⟨rfl, hp⟩ := h
    obtain ⟨c1, c2⟩ := chosen_mem (dg := dg) hp
    have hpl : 0 < p.fr.length := List.length_pos_iff.mpr hp
    have hpl2 : (0 : Int) < (p.fr.length : Nat) := by omega
    have he : ∀ {n : Nat} {M : List O}, M[n]? = some (.lst (ad [])) → eqA (.d (.lst (sd p.fr))) (.cell n) M = some false := fun h2 => by
      rw [eqA_nilD h2 hs]
      cases hp2 : p.fr with
      | nil => exact absurd hp2 hp
      | cons y r => rfl
    have hat : atI p.fr ((dg : Int) / 6 % (p.fr.length : Nat)) = some (chosen p dg) := by rw [modc hpl, atI_nat']; exact c2
    have hj : jn 3 dg p l = .ap (.bd (chosen p dg) p) l := by simp [jn, hp]
    have hfl : (p.fr.filter fun y => decide (y ≠ chosen p dg)).length ≤ p.fr.length := List.length_filter_le _ _
    obtain ⟨fl, hfe⟩ : ∃ fl, fl = p.fr.filter fun y => decide (y ≠ chosen p dg) := ⟨_, rfl⟩
    have hfs : fl.length + l.fr.length ≤ sizeLine := le_line (by rw [hfe]; omega)
    rw [hj]
    apply Exists.intro
    simp [Mi.go, F26, B26, q1, q2, q3, q4, he, div6, hpl, hpl2, hat]
    rw [compR_of (M1 := .lst (ad (pds es)) :: (Q ++ [.lst (ad [])])) (as := [.d (.lst (sd p.fr))]) (M2 := .lst (ad (pds es)) :: (Q ++ [.lst (ad [])])) (xs := p.fr) D.str (fun y => !(y == chosen p dg)) D.str ?_ ?_ ?_ (le_line (by omega))]
    · rw [fltr, ← hfe]
      have e3 : List.map D.str fl = sd fl := rfl
      simp [e3, hfs, hesl, pd, T.fr, ← hfe]
      refine ⟨?_, rfl⟩
      rw [hfe]
      simp
    · simp
    · simp [sd]
    · intro y _ acc
      refine ⟨_, rfl, ?_, ?_⟩
      · simp
      · intro _
        simp
  · have hj : jn kd dg p l = .ap p l := by simp only [jn, if_neg h]
    have hfs : p.fr.length + l.fr.length ≤ sizeLine := le_line (by omega)
    rw [hj]
    by_cases h3 : kd = 3
    · apply Exists.intro
      subst h3
      have hp : p.fr = [] := Classical.byContradiction fun q => h ⟨rfl, q⟩
      have he : ∀ {n : Nat} {M : List O}, M[n]? = some (.lst (ad [])) → eqA (.d (.lst (sd p.fr))) (.cell n) M = some true := fun h2 => by
        rw [eqA_nilD h2 hs, hp]
        rfl
      simp [Mi.go, F26, B26, q1, q2, q3, q4, he, hfs, hesl, pd, T.fr]
      rfl
    · apply Exists.intro
      have h3' : ¬ (kd : Int) = 3 := by omega
      simp [Mi.go, F26, B26, q1, q2, q3, q4, h3, h3', hfs, hesl, pd, T.fr]
      rfl
end K90

set_option Elab.async false
set_option linter.all false
set_option maxRecDepth 100000
set_option maxHeartbeats 4000000
/-! k90: _law_loose makes a valid term. -/
namespace K90
open PySem PySem.Spec L2 Mini Mq
/-! ### what may be compared -/
theorem okC_lt {c : Nat} (h : okC c = true) : c < 1114112 := by
  unfold okC lets digs at h
  simp at h
  omega
theorem strOk_of {x : Str} (h : isN x = true) : PyData.strOk x = true := by
  unfold isN at h
  unfold PyData.strOk
  rw [Array.all_eq_true_iff_forall_mem]
  intro c hc
  have hc : c ∈ x.cps.toList := Array.mem_toList_iff.mpr hc
  cases e : x.cps.toList with
  | nil => rw [e] at hc; cases hc
  | cons a r =>
    rw [e] at h hc
    simp only [Bool.and_eq_true] at h
    have := List.all_eq_true.mp h.2 c hc
    have := okC_lt this
    simp
    omega
theorem shaped_sd {xs : List Str} (h : ∀ x ∈ xs, isN x = true) : SeqAt.shaped (D.lst (sd xs)).py = true := by
  have h1 : ∀ xs : List Str, (∀ x ∈ xs, isN x = true) → PyData.canLayAll0 (D.pys (sd xs)) = true ∧ PyData.depthAll (D.pys (sd xs)) = 0 := by
    intro xs
    induction xs with
    | nil => intro _; exact ⟨rfl, rfl⟩
    | cons x r ih =>
      intro h
      have e : D.pys (sd (x :: r)) = PyData.str x :: D.pys (sd r) := rfl
      rw [e]
      have := ih fun y hy => h y (List.mem_cons_of_mem _ hy)
      simp [PyData.canLayAll0, PyData.canLay0, PyData.depthAll, PyData.depth, this, strOk_of (h x (List.mem_cons_self ..))]
  have e : (D.lst (sd xs)).py = PyData.list (D.pys (sd xs)) := rfl
  unfold SeqAt.shaped
  rw [e]
  simp [PyData.canLay0, PyData.depth, h1 xs h]
theorem lay_T : ∀ t : T, (∀ x ∈ t.nms, isN x = true) → PyData.canLay0 t.d.py = true ∧ PyData.depth t.d.py = t.ht + 1
  | .nm x, h => by
    have e : (T.nm x).d.py = PyData.tuple [.str sName, .str x] := rfl
    have h1 : PyData.strOk sName = true := by decide +kernel
    have h2 := strOk_of (h x (List.mem_cons_self ..))
    rw [e]
    simp [PyData.canLay0, PyData.canLayAll0, PyData.depth, PyData.depthAll, h1, h2, T.ht]
  | .bd x t, h => by
    have e : (T.bd x t).d.py = PyData.tuple [.str sBind, .str x, t.d.py] := rfl
    have h1 : PyData.strOk sBind = true := by decide +kernel
    have h2 := strOk_of (h x (List.mem_cons_self ..))
    have ih := lay_T t fun y hy => h y (List.mem_cons_of_mem _ hy)
    rw [e]
    simp [PyData.canLay0, PyData.canLayAll0, PyData.depth, PyData.depthAll, h1, h2, T.ht, ih]
  | .ap l r, h => by
    have e : (T.ap l r).d.py = PyData.tuple [.str sApply, l.d.py, r.d.py] := rfl
    have h1 : PyData.strOk sApply = true := by decide +kernel
    have i1 := lay_T l fun y hy => h y (List.mem_append_left _ hy)
    have i2 := lay_T r fun y hy => h y (List.mem_append_right _ hy)
    rw [e]
    simp [PyData.canLay0, PyData.canLayAll0, PyData.depth, PyData.depthAll, h1, T.ht, i1, i2]
theorem lay_pds : ∀ es : List T, (∀ e ∈ es, (∀ x ∈ e.nms, isN x = true) ∧ e.ht ≤ 50) → PyData.canLayAll0 (D.pys (pds es)) = true ∧ PyData.depthAll (D.pys (pds es)) ≤ 52
  | [], _ => ⟨rfl, by decide⟩
  | t :: r, h => by
    obtain ⟨h1, h2⟩ := h t (List.mem_cons_self ..)
    obtain ⟨i1, i2⟩ := lay_pds r fun e he => h e (List.mem_cons_of_mem _ he)
    obtain ⟨j1, j2⟩ := lay_T t h1
    have e : D.pys (pds (t :: r)) = PyData.tuple [t.d.py, (D.lst (sd t.fr)).py] :: D.pys (pds r) := rfl
    have hs := shaped_sd (xs := t.fr) fun x hx => h1 x (T.us_nms (T.fr_us hx))
    unfold SeqAt.shaped at hs
    rw [Bool.and_eq_true] at hs
    have hd : PyData.depth (D.lst (sd t.fr)).py ≤ 1 := by
      have h1 : ∀ xs : List Str, PyData.depthAll (D.pys (sd xs)) = 0 := by
        intro xs
        induction xs with
        | nil => rfl
        | cons x r ih =>
          have e : D.pys (sd (x :: r)) = PyData.str x :: D.pys (sd r) := rfl
          rw [e]
          simp [PyData.depthAll, PyData.depth, ih]
      have e : (D.lst (sd t.fr)).py = PyData.list (D.pys (sd t.fr)) := rfl
      rw [e]
      simp [PyData.depth, h1]
    rw [e]
    simp [PyData.canLayAll0, PyData.canLay0, PyData.depthAll, PyData.depth, i1, j1, j2, hs.1]
    omega
theorem shaped_pds {es : List T} (h : ∀ e ∈ es, (∀ x ∈ e.nms, isN x = true) ∧ e.ht ≤ 50) : SeqAt.shaped (D.lst (pds es)).py = true := by
  obtain ⟨h1, h2⟩ := lay_pds es h
  have e : (D.lst (pds es)).py = PyData.list (D.pys (pds es)) := rfl
  unfold SeqAt.shaped
  rw [e]
  simp [PyData.canLay0, PyData.depth, h1]
  omega
/-! ### what holds of the pile -/
structure Ent (s used : Nat) (e : T) : Prop where
  ok : e.ok
  nm : ∀ x ∈ e.nms, ∃ j < used, x = lnm j s
structure Inv (s : Nat) (es : List T) (used m : Nat) : Prop where
  ent : ∀ e ∈ es, Ent s used e
  dis : es.Pairwise fun a b => ∀ x ∈ a.nms, x ∉ b.nms
  sum : (es.map fun e => e.sz + 1).sum ≤ m
  used : used ≤ m
  len : es.length ≤ m
theorem Ent.mono {s u v : Nat} {e : T} (h : Ent s u e) (huv : u ≤ v) : Ent s v e := ⟨h.ok, fun x hx => by
  obtain ⟨j, h1, h2⟩ := h.nm x hx
  exact ⟨j, by omega, h2⟩⟩
theorem Ent.isN {s u : Nat} {e : T} (h : Ent s u e) (hs : s < 5) (hu : u < 40) : ∀ x ∈ e.nms, isN x = true := fun x hx => by
  obtain ⟨j, h1, rfl⟩ := h.nm x hx
  exact (lnm_ok j (by omega) s hs).1
theorem Ent.fresh {s u : Nat} {e : T} (h : Ent s u e) (hs : s < 5) (hu : u < 40) : lnm u s ∉ e.nms := fun hx => by
  obtain ⟨j, h1, h2⟩ := h.nm _ hx
  have := lnm_inj s hs u hu j (by omega) h2
  omega
theorem Inv.push {s used m : Nat} {es : List T} (h : Inv s es used m) (hs : s < 5) (hu : used < 40) : Inv s (es ++ [.nm (lnm used s)]) (used + 1) (m + 1) where
  ent := fun e he => by
    rcases List.mem_append.mp he with he | he
    · exact (h.ent e he).mono (by omega)
    · have : e = .nm (lnm used s) := List.mem_singleton.mp he
      subst this
      exact ⟨trivial, fun x hx => ⟨used, by omega, List.mem_singleton.mp hx⟩⟩
  dis := by
    rw [List.pairwise_append]
    refine ⟨h.dis, List.pairwise_singleton _ _, fun a ha b hb x hx => ?_⟩
    have : b = .nm (lnm used s) := List.mem_singleton.mp hb
    subst this
    intro q
    have : x = lnm used s := List.mem_singleton.mp q
    subst this
    exact (h.ent a ha).fresh hs hu hx
  sum := by have := h.sum; simp [T.sz] at this ⊢; omega
  used := by have := h.used; omega
  len := by have := h.len; simp; omega
/-- the last entry changed -/
theorem Inv.last {s used used' m m' : Nat} {es : List T} {l l' : T} (h : Inv s (es ++ [l]) used m) (hu : used ≤ used') (hl : Ent s used' l') (hd : ∀ x ∈ l'.nms, x ∈ l.nms ∨ ∀ e ∈ es, x ∉ e.nms) (hz : l'.sz + m ≤ l.sz + m') (hm : used' ≤ m') (hmm : m ≤ m') : Inv s (es ++ [l']) used' m' where
  ent := fun e he => by
    rcases List.mem_append.mp he with he | he
    · exact (h.ent e (List.mem_append_left _ he)).mono hu
    · have : e = l' := List.mem_singleton.mp he
      subst this
      exact hl
  dis := by
    have h1 := List.pairwise_append.mp h.dis
    rw [List.pairwise_append]
    refine ⟨h1.1, List.pairwise_singleton _ _, fun a ha b hb x hx => ?_⟩
    have : b = l' := List.mem_singleton.mp hb
    subst this
    intro q
    rcases hd x q with q2 | q2
    · exact h1.2.2 a ha l (List.mem_singleton_self _) x hx q2
    · exact q2 a ha hx
  sum := by have := h.sum; simp at this ⊢; omega
  used := hm
  len := by have := h.len; simp at this ⊢; omega
theorem Inv.bind {s used m : Nat} {es : List T} {l : T} {x : Str} (h : Inv s (es ++ [l]) used m) (hx : x ∈ l.fr) : Inv s (es ++ [.bd x l]) used (m + 1) := by
  have hl := h.ent l (List.mem_append_right _ (List.mem_singleton_self _))
  refine h.last (Nat.le_refl _) ⟨⟨hl.ok, T.fr_bs hl.ok hx⟩, fun y hy => ?_⟩ (fun y hy => ?_) (by simp [T.sz]; omega) (by have := h.used; omega) (by omega)
  · rcases List.mem_cons.mp hy with rfl | hy
    · exact hl.nm _ (T.us_nms (T.fr_us hx))
    · exact hl.nm y hy
  · rcases List.mem_cons.mp hy with rfl | hy
    · exact .inl (T.us_nms (T.fr_us hx))
    · exact .inl hy
theorem Inv.bindNew {s used m : Nat} {es : List T} {l : T} (h : Inv s (es ++ [l]) used m) (hs : s < 5) (hu : used < 40) : Inv s (es ++ [.bd (lnm used s) l]) (used + 1) (m + 1) := by
  have hl := h.ent l (List.mem_append_right _ (List.mem_singleton_self _))
  refine h.last (by omega) ⟨⟨hl.ok, fun q => hl.fresh hs hu (T.bs_nms q)⟩, fun y hy => ?_⟩ (fun y hy => ?_) (by simp [T.sz]; omega) (by have := h.used; omega) (by omega)
  · rcases List.mem_cons.mp hy with rfl | hy
    · exact ⟨used, by omega, rfl⟩
    · obtain ⟨j, h1, h2⟩ := hl.nm y hy
      exact ⟨j, by omega, h2⟩
  · rcases List.mem_cons.mp hy with rfl | hy
    · exact .inr fun e he => (h.ent e (List.mem_append_left _ he)).fresh hs hu
    · exact .inl hy
theorem Inv.join0 {s used m : Nat} {es : List T} {p l : T} (h : Inv s (es ++ [p, l]) used m) : Inv s (es ++ [.ap p l]) used m where
  ent := fun e he => by
    rcases List.mem_append.mp he with he | he
    · exact h.ent e (List.mem_append_left _ he)
    · have : e = .ap p l := List.mem_singleton.mp he
      subst this
      have h1 := h.ent p (by simp)
      have h2 := h.ent l (by simp)
      have h3 := (List.pairwise_append.mp h.dis).2.1
      refine ⟨⟨h1.ok, h2.ok, (List.pairwise_cons.mp h3).1 l (List.mem_singleton_self _)⟩, fun x hx => ?_⟩
      rcases List.mem_append.mp hx with hx | hx
      · exact h1.nm x hx
      · exact h2.nm x hx
  dis := by
    have h1 := List.pairwise_append.mp h.dis
    rw [List.pairwise_append]
    refine ⟨h1.1, List.pairwise_singleton _ _, fun a ha b hb x hx q => ?_⟩
    have : b = .ap p l := List.mem_singleton.mp hb
    subst this
    rcases List.mem_append.mp q with q | q
    · exact h1.2.2 a ha p (by simp) x hx q
    · exact h1.2.2 a ha l (by simp) x hx q
  sum := by have := h.sum; simp [T.sz] at this ⊢; omega
  used := h.used
  len := by have := h.len; simp at this ⊢; omega
theorem Inv.join {s used m : Nat} {es : List T} {p l : T} (kd dg : Nat) (h : Inv s (es ++ [p, l]) used m) : Inv s (es ++ [jn kd dg p l]) used (m + 1) := by
  unfold jn
  split
  · rename_i hk
    obtain ⟨c1, _⟩ := chosen_mem (dg := dg) hk.2
    have hp := h.ent p (by simp)
    have h1 : Inv s (es ++ [.bd (chosen p dg) p, l]) used (m + 1) := by
      refine ⟨fun e he => ?_, ?_, by have := h.sum; simp [T.sz] at this ⊢; omega, by have := h.used; omega, by have := h.len; simp at this ⊢; omega⟩
      · simp at he
        rcases he with he | rfl | rfl
        · exact h.ent e (by simp [he])
        · refine ⟨⟨hp.ok, T.fr_bs hp.ok c1⟩, fun y hy => ?_⟩
          rcases List.mem_cons.mp hy with rfl | hy
          · exact hp.nm _ (T.us_nms (T.fr_us c1))
          · exact hp.nm y hy
        · exact h.ent _ (by simp)
      · have q := h.dis
        rw [List.pairwise_append] at q ⊢
        have hn : ∀ y, y ∈ (T.bd (chosen p dg) p).nms → y ∈ p.nms := fun y hy => by
          rcases List.mem_cons.mp hy with rfl | hy
          · exact T.us_nms (T.fr_us c1)
          · exact hy
        refine ⟨q.1, ?_, fun a ha b hb x hx q2 => ?_⟩
        · have q2 := List.pairwise_cons.mp q.2.1
          exact List.pairwise_cons.mpr ⟨fun b hb x hx => q2.1 b hb x (hn x hx), q2.2⟩
        · simp at hb
          rcases hb with rfl | rfl
          · exact q.2.2 a ha p (by simp) x hx (hn x q2)
          · exact q.2.2 a ha _ (by simp) x hx q2
    exact h1.join0
  · have := h.join0
    exact ⟨this.ent, this.dis, by have := this.sum; omega, by have := this.used; omega, by have := this.len; omega⟩
theorem sz_sum : ∀ {es : List T} {e : T}, e ∈ es → e.sz + 1 ≤ (es.map fun e => e.sz + 1).sum
  | a :: r, e, h => by
    rw [List.map_cons, List.sum_cons]
    rcases List.mem_cons.mp h with rfl | h
    · omega
    · have := sz_sum h; omega
theorem Inv.shaped {s used m : Nat} {es : List T} (h : Inv s es used m) (hs : s < 5) (hm : m < 40) : SeqAt.shaped (D.lst (pds es)).py = true := shaped_pds fun e he => ⟨(h.ent e he).isN hs (by have := h.used; omega), by
  have := sz_sum he
  have := h.sum
  have := e.ht_le_sz
  omega⟩
theorem fr_len : ∀ t : T, t.fr.length ≤ t.sz + 1
  | .nm x => by simp [T.fr, T.sz]
  | .bd x t => by
    have h1 : (t.fr.filter fun y => decide (y ≠ x)).length ≤ t.fr.length := List.length_filter_le _ _
    have := fr_len t
    show (t.fr.filter fun y => decide (y ≠ x)).length ≤ t.sz + 1 + 1
    omega
  | .ap l r => by
    have := fr_len l
    have := fr_len r
    simp [T.fr, T.sz]; omega
end K90

set_option Elab.async false
set_option linter.all false
set_option maxRecDepth 100000
set_option maxHeartbeats 4000000
/-! k90: _law_loose. -/
namespace K90
open PySem PySem.Spec L2 Mini Mq
def foB35 : List Mini.S := match B35 with
  | [_, _, .forS _ _ _ b, _, _, _] => b
  | _ => []
def foC35 : List Mini.S := match B35 with
  | [_, _, _, _, .forS _ _ _ b, _] => b
  | _ => []
theorem fr_bd_new {s u : Nat} {l : T} (h : Ent s u l) (hs : s < 5) (hu : u < 40) : (T.bd (lnm u s) l).fr = l.fr := by
  show l.fr.filter (fun y => decide (y ≠ lnm u s)) = l.fr
  rw [List.filter_eq_self]
  intro y hy
  have : y ≠ lnm u s := fun e => h.fresh hs hu (by rw [← e]; exact T.us_nms (T.fr_us hy))
  simpa using this
theorem split2 (es : List T) : es = [] ∨ (∃ l, es = [l]) ∨ ∃ es0 p l, es = es0 ++ [p, l] := by
  rcases List.eq_nil_or_concat es with h | ⟨r, l, h⟩
  · exact .inl h
  · rw [List.concat_eq_append] at h
    rcases List.eq_nil_or_concat r with h2 | ⟨r2, p, h2⟩
    · subst h2; exact .inr (.inl ⟨l, h⟩)
    · rw [List.concat_eq_append] at h2
      subst h2
      exact .inr (.inr ⟨r2, p, l, by rw [h]; simp⟩)
abbrev P26 (w : W) : Prop := ∀ (es : List T) (p l : T) (kd dg : Nat) (Q : List O) (L1 L2 : List A), SeqAt.shaped (D.lst (sd p.fr)).py = true → p.fr.length + l.fr.length ≤ 1000 → es.length ≤ 1000 →
    L2.getLast? = some (.d (.tup [l.d, .lst (sd l.fr)])) → L2.dropLast = L1 → L1.getLast? = some (.d (.tup [p.d, .lst (sd p.fr)])) → L1.dropLast = ad (pds es) →
    ∃ Q', w.run 26 [.cell 0, .d (.int (kd : Nat)), .d (.int (dg : Nat))] (.lst L2 :: Q) = .ok (.d .non) (.lst (ad (pds es ++ [pd (jn kd dg p l)])) :: Q')
theorem tail2 (es : List T) (p l : T) : (ad (pds (es ++ [p, l]))).getLast? = some (.d (.tup [l.d, .lst (sd l.fr)])) ∧ ((ad (pds (es ++ [p, l]))).dropLast = ad (pds (es ++ [p]))) ∧ (ad (pds (es ++ [p]))).getLast? = some (.d (.tup [p.d, .lst (sd p.fr)])) ∧ (ad (pds (es ++ [p]))).dropLast = ad (pds es) := by
  have e1 : pds (es ++ [p, l]) = (pds es ++ [pd p]) ++ [pd l] := by simp [pds]
  have e2 : pds (es ++ [p]) = pds es ++ [pd p] := by simp [pds]
  rw [e1, e2]
  refine ⟨?_, ?_, ?_, ?_⟩
  · rw [ad_last, List.getLast?_concat]; rfl
  · rw [ad_dropLast, List.dropLast_concat]
  · rw [ad_last, List.getLast?_concat]; rfl
  · rw [ad_dropLast, List.dropLast_concat]
theorem tail1 (es : List T) (l : T) : (ad (pds (es ++ [l]))).getLast? = some (.d (.tup [l.d, .lst (sd l.fr)])) ∧ ((ad (pds (es ++ [l]))).dropLast = ad (pds es)) ∧ atI (pds (es ++ [l])) (-1) = some (.tup [l.d, .lst (sd l.fr)]) ∧ (pds (es ++ [l])).isEmpty = false := by
  have e2 : pds (es ++ [l]) = pds es ++ [pd l] := by simp [pds]
  rw [e2]
  refine ⟨?_, ?_, ?_, ?_⟩
  · rw [ad_last, List.getLast?_concat]; rfl
  · rw [ad_dropLast, List.dropLast_concat]
  · rw [atI_neg]; rfl
  · simp
def Ends (z : A) (s dg : Nat) (r : RS) (es : List T) (used : Nat) : Prop := ∃ b5 b6 b7 b8 b9 b10 Q, r = .nx [z, .d (.int (s : Nat)), .cell 0, .d (.int (used : Nat)), .d (.int (dg : Nat)), b5, b6, b7, b8, b9, b10] (.lst (ad (pds es)) :: Q)
theorem Ends.mk {z : A} {s dg used : Nat} {es : List T} {L : List A} {u : Int} {b5 b6 b7 b8 b9 b10 : A} {Q : List O} (h : L = ad (pds es)) (hu : u = (used : Nat)) : Ends z s dg (.nx [z, .d (.int (s : Nat)), .cell 0, .d (.int u), .d (.int (dg : Nat)), b5, b6, b7, b8, b9, b10] (.lst L :: Q)) es used := ⟨b5, b6, b7, b8, b9, b10, Q, by rw [h, hu]⟩
section
variable (X : Mi) {w : W} {s used m dg : Nat} {es : List T} {z a5 a6 a7 a8 a9 a10 : A} {Q : List O}
/-- what each turn knows -/
structure Kn (w : W) (s used : Nat) (es : List T) : Prop where
  n1 : ∀ M, pcall (w.run 25) [.d (.int (used : Nat)), .d (.int (s : Nat))] M = .ok (.d (.str (lnm used s))) M
  hq : ∀ (R : List O) (n : Nat), (O.lst (ad (pds es)) :: R)[n]? = some (.lst (ad [])) → eqA (.cell 0) (.cell n) (O.lst (ad (pds es)) :: R) = some (pds es).isEmpty
  hel : es.length < sizeLine
theorem e7 : pds es ++ [D.tup [.tup [.str sName, .str (lnm used s)], .lst [.str (lnm used s)]]] = pds (es ++ [T.nm (lnm used s)]) := by simp [pds, pd, T.fr, sd]
theorem push0 (k : Kn w s used es) (hk : (dg : Int) % 6 = 0) : Ends z s dg (X.exs w foB35 [z, .d (.int (s : Nat)), .cell 0, .d (.int (used : Nat)), .d (.int (dg : Nat)), a5, a6, a7, a8, a9, a10] (.lst (ad (pds es)) :: Q)) (es ++ [.nm (lnm used s)]) (used + 1) := by
  simp [foB35, B35, hk, k.n1, k.hel]
  exact Ends.mk (by rw [e7]) (by simp)
theorem push1 (k : Kn w s used es) (he : es = []) (hk : (dg : Int) % 6 = 1 ∨ (dg : Int) % 6 = 5) : Ends z s dg (X.exs w foB35 [z, .d (.int (s : Nat)), .cell 0, .d (.int (used : Nat)), .d (.int (dg : Nat)), a5, a6, a7, a8, a9, a10] (.lst (ad (pds es)) :: Q)) (es ++ [.nm (lnm used s)]) (used + 1) := by
  have he2 : (pds es).isEmpty = true := by rw [he]; rfl
  have hq := k.hq
  rw [he2] at hq
  rcases hk with hk | hk
  · simp [foB35, B35, hk, k.n1, k.hel, hq]
    exact Ends.mk (by rw [e7]) (by simp)
  · simp [foB35, B35, hk, k.n1, k.hel, hq]
    exact Ends.mk (by rw [e7]) (by simp)
theorem push2 (k : Kn w s used es) (he : ¬ (2 : Int) ≤ (es.length : Nat)) (hk : (dg : Int) % 6 = 2 ∨ (dg : Int) % 6 = 3) : Ends z s dg (X.exs w foB35 [z, .d (.int (s : Nat)), .cell 0, .d (.int (used : Nat)), .d (.int (dg : Nat)), a5, a6, a7, a8, a9, a10] (.lst (ad (pds es)) :: Q)) (es ++ [.nm (lnm used s)]) (used + 1) := by
  rcases hk with hk | hk
  · simp [foB35, B35, hk, k.n1, k.hel, he]
    exact Ends.mk (by rw [e7]) (by simp)
  · simp [foB35, B35, hk, k.n1, k.hel, he]
    exact Ends.mk (by rw [e7]) (by simp)
theorem push4 (k : Kn w s used es) (he : es = []) (hk : (dg : Int) % 6 = 4) : Ends z s dg (X.exs w foB35 [z, .d (.int (s : Nat)), .cell 0, .d (.int (used : Nat)), .d (.int (dg : Nat)), a5, a6, a7, a8, a9, a10] (.lst (ad (pds es)) :: Q)) (es ++ [.nm (lnm used s)]) (used + 1) := by
  have he2 : (pds es).isEmpty = true := by rw [he]; rfl
  have hq := k.hq
  rw [he2] at hq
  simp [foB35, B35, hk, k.n1, k.hel, hq]
  exact Ends.mk (by rw [e7]) (by simp)
end
section
variable (X : Mi) {w : W} {s used m dg : Nat} {es : List T} {l : T} {z a5 a6 a7 a8 a9 a10 : A} {Q : List O}
theorem push5 (k : Kn w s used (es ++ [l])) (hl : l.fr = []) (hk : (dg : Int) % 6 = 1 ∨ (dg : Int) % 6 = 5) : Ends z s dg (X.exs w foB35 [z, .d (.int (s : Nat)), .cell 0, .d (.int (used : Nat)), .d (.int (dg : Nat)), a5, a6, a7, a8, a9, a10] (.lst (ad (pds (es ++ [l]))) :: Q)) ((es ++ [l]) ++ [.nm (lnm used s)]) (used + 1) := by
  obtain ⟨t1, t2, t3, t4⟩ := tail1 es l
  have hq := k.hq
  have hel := k.hel
  have n1 := k.n1
  rw [t4] at hq
  have he := e7 (es := es ++ [l]) (s := s) (used := used)
  rw [hl] at t1 t3
  have hL : (pds (es ++ [l])).length = es.length + 1 := by simp
  have hel2 : es.length + 1 < sizeLine := by simpa using hel
  have hn : ∀ {n : Nat} {M : List O}, M[n]? = some (.lst (ad [])) → eqA (.d (.lst (sd []))) (.cell n) M = some true := fun h2 => eqA_nilD h2 shaped_nil
  generalize pds (es ++ [l]) = L at *
  rcases hk with hk | hk
  · simp [foB35, B35, hk, n1, hel2, hq, t1, t3, hn, hL]
    exact Ends.mk (by have := congrArg ad he; simpa using this) (by simp)
  · simp [foB35, B35, hk, n1, hel2, hq, t1, t3, hn, hL]
    exact Ends.mk (by have := congrArg ad he; simpa using this) (by simp)
theorem bind1 (k : Kn w s used (es ++ [l])) (hl : l.fr ≠ []) (hsl : SeqAt.shaped (D.lst (sd l.fr)).py = true) (hll : l.fr.length ≤ 1000) (hk : (dg : Int) % 6 = 1 ∨ (dg : Int) % 6 = 5) : Ends z s dg (X.exs w foB35 [z, .d (.int (s : Nat)), .cell 0, .d (.int (used : Nat)), .d (.int (dg : Nat)), a5, a6, a7, a8, a9, a10] (.lst (ad (pds (es ++ [l]))) :: Q)) (es ++ [.bd (chosen l dg) l]) used := by
  obtain ⟨t1, t2, t3, t4⟩ := tail1 es l
  have hq := k.hq
  have hel : es.length < sizeLine := by have := k.hel; simp at this; omega
  have n1 := k.n1
  rw [t4] at hq
  obtain ⟨c1, c2⟩ := chosen_mem (dg := dg) hl
  have hpl : 0 < l.fr.length := List.length_pos_iff.mpr hl
  have hpl2 : (0 : Int) < (l.fr.length : Nat) := by omega
  have hat : atI l.fr ((dg : Int) / 6 % (l.fr.length : Nat)) = some (chosen l dg) := by rw [modc hpl, atI_nat']; exact c2
  have hn : ∀ {n : Nat} {M : List O}, M[n]? = some (.lst (ad [])) → eqA (.d (.lst (sd l.fr))) (.cell n) M = some false := fun h2 => by
      rw [eqA_nilD h2 hsl]
      cases hp2 : l.fr with
      | nil => exact absurd hp2 hl
      | cons y r => rfl
  have he : pds es ++ [D.tup [.tup [.str sBind, .str (chosen l dg), l.d], .lst (sd (l.fr.filter fun y => decide (y ≠ chosen l dg)))]] = pds (es ++ [.bd (chosen l dg) l]) := by simp [pds, pd, T.fr]
  obtain ⟨fl, hfe⟩ : ∃ fl, fl = l.fr.filter fun y => decide (y ≠ chosen l dg) := ⟨_, rfl⟩
  have e3 : List.map D.str fl = sd fl := rfl
  rw [← hfe] at he
  generalize pds (es ++ [l]) = L at *
  rcases hk with hk | hk
  · simp [foB35, B35, hk, n1, hq, t1, t2, t3, hn, div6, hpl, hpl2, hat, -ad_last, -ad_dropLast]
    rw [compR_of (M1 := .lst (ad (pds es)) :: (Q ++ [.lst (ad [.int 1, .int 5]), .lst (ad []), .lst (ad [])])) (as := [.d (.lst (sd l.fr))]) (M2 := .lst (ad (pds es)) :: (Q ++ [.lst (ad [.int 1, .int 5]), .lst (ad []), .lst (ad [])])) (xs := l.fr) D.str (fun y => !(y == chosen l dg)) D.str ?_ ?_ ?_ (le_line (by omega))]
    · rw [fltr, ← hfe]
      simp [e3, hel]
      exact Ends.mk (by rw [← he]) rfl
    · simp
    · simp [sd]
    · intro y _ acc
      refine ⟨_, rfl, ?_, ?_⟩
      · simp
      · intro _
        simp
  · simp [foB35, B35, hk, n1, hq, t1, t2, t3, hn, div6, hpl, hpl2, hat, -ad_last, -ad_dropLast]
    rw [compR_of (M1 := .lst (ad (pds es)) :: (Q ++ [.lst (ad [.int 1, .int 5]), .lst (ad []), .lst (ad [])])) (as := [.d (.lst (sd l.fr))]) (M2 := .lst (ad (pds es)) :: (Q ++ [.lst (ad [.int 1, .int 5]), .lst (ad []), .lst (ad [])])) (xs := l.fr) D.str (fun y => !(y == chosen l dg)) D.str ?_ ?_ ?_ (le_line (by omega))]
    · rw [fltr, ← hfe]
      simp [e3, hel]
      exact Ends.mk (by rw [← he]) rfl
    · simp
    · simp [sd]
    · intro y _ acc
      refine ⟨_, rfl, ?_, ?_⟩
      · simp
      · intro _
        simp
theorem bind4 (k : Kn w s used (es ++ [l])) (hf : (T.bd (lnm used s) l).fr = l.fr) (hk : (dg : Int) % 6 = 4) : Ends z s dg (X.exs w foB35 [z, .d (.int (s : Nat)), .cell 0, .d (.int (used : Nat)), .d (.int (dg : Nat)), a5, a6, a7, a8, a9, a10] (.lst (ad (pds (es ++ [l]))) :: Q)) (es ++ [.bd (lnm used s) l]) (used + 1) := by
  obtain ⟨t1, t2, t3, t4⟩ := tail1 es l
  have hq := k.hq
  have hel : es.length < sizeLine := by have := k.hel; simp at this; omega
  have n1 := k.n1
  rw [t4] at hq
  have he : pds es ++ [D.tup [.tup [.str sBind, .str (lnm used s), l.d], .lst (sd l.fr)]] = pds (es ++ [.bd (lnm used s) l]) := by simp [pds, pd, hf]
  generalize pds (es ++ [l]) = L at *
  simp [foB35, B35, hk, n1, hq, t1, t2, t3, hel, -ad_last, -ad_dropLast]
  exact Ends.mk (by rw [← he]) (by simp)
end
theorem join2 (X : Mi) {w : W} {s used dg : Nat} {es : List T} {p l : T} {z a5 a6 a7 a8 a9 a10 : A} {Q : List O} (k : Kn w s used (es ++ [p, l])) (h26 : P26 w) (hsp : SeqAt.shaped (D.lst (sd p.fr)).py = true) (hll : p.fr.length + l.fr.length ≤ 1000) (hes : es.length ≤ 1000) (hk : dg % 6 = 2 ∨ dg % 6 = 3) : Ends z s dg (X.exs w foB35 [z, .d (.int (s : Nat)), .cell 0, .d (.int (used : Nat)), .d (.int (dg : Nat)), a5, a6, a7, a8, a9, a10] (.lst (ad (pds (es ++ [p, l]))) :: Q)) (es ++ [jn (dg % 6) dg p l]) used := by
  obtain ⟨t1, t2, t3, t4⟩ := tail2 es p l
  have n1 := k.n1
  obtain ⟨Q', h⟩ := h26 es p l (dg % 6) dg (Q ++ [.lst (ad [.int 1, .int 5]), .lst (ad [.int 2, .int 3])]) _ _ hsp hll hes t1 t2 t3 t4
  have hL : (2 : Int) ≤ ((pds (es ++ [p, l])).length : Nat) := by simp; omega
  have he : pds es ++ [pd (jn (dg % 6) dg p l)] = pds (es ++ [jn (dg % 6) dg p l]) := by simp [pds]
  rw [he] at h
  generalize pds (es ++ [p, l]) = L at *
  rcases hk with hk | hk
  · have hk2 : (dg : Int) % 6 = 2 := by omega
    rw [hk] at h ⊢
    simp at h
    simp [foB35, B35, hk2, n1, hL, h, -ad_last, -ad_dropLast]
    exact Ends.mk rfl rfl
  · have hk2 : (dg : Int) % 6 = 3 := by omega
    rw [hk] at h ⊢
    simp at h
    simp [foB35, B35, hk2, n1, hL, h, -ad_last, -ad_dropLast]
    exact Ends.mk rfl rfl
/-- one digit -/
theorem b35 (X : Mi) {w : W} {s used m dg : Nat} {es : List T} {z a5 a6 a7 a8 a9 a10 : A} {Q : List O} (hs : s < 5) (hm : m < 31) (h : Inv s es used m)
    (h25 : ∀ k M, k < 40 → pcall (w.run 25) [.d (.int (k : Nat)), .d (.int (s : Nat))] M = .ok (.d (.str (lnm k s))) M) (h26 : P26 w) :
    ∃ es' used', Inv s es' used' (m + 1) ∧ es' ≠ [] ∧ Ends z s dg (X.exs w foB35 [z, .d (.int (s : Nat)), .cell 0, .d (.int (used : Nat)), .d (.int (dg : Nat)), a5, a6, a7, a8, a9, a10] (.lst (ad (pds es)) :: Q)) es' used' := by
  have hu : used < 40 := by have := h.used; omega
  have hlen := h.len
  have kn : Kn w s used es := ⟨fun M => h25 used M hu, fun R n h2 => eqA_nil (.inl rfl) h2 (h.shaped hs (by omega)), lt_line (by omega)⟩
  have hpush := h.push hs hu
  have hne : ∀ (a : List T) (b : T), a ++ [b] ≠ [] := fun a b => by simp
  have hk : dg % 6 = 0 ∨ dg % 6 = 1 ∨ dg % 6 = 2 ∨ dg % 6 = 3 ∨ dg % 6 = 4 ∨ dg % 6 = 5 := by omega
  rcases hk with hk | hk
  · exact ⟨_, _, hpush, hne _ _, push0 X kn (by omega)⟩
  · by_cases h15 : dg % 6 = 1 ∨ dg % 6 = 5
    · have h15' : (dg : Int) % 6 = 1 ∨ (dg : Int) % 6 = 5 := by omega
      rcases List.eq_nil_or_concat es with he | ⟨es0, l, he⟩
      · exact ⟨_, _, hpush, hne _ _, push1 X kn he h15'⟩
      · rw [List.concat_eq_append] at he
        subst he
        by_cases hl : l.fr = []
        · exact ⟨_, _, hpush, hne _ _, push5 X kn hl h15'⟩
        · have hel := h.ent l (by simp)
          have hz := sz_sum (e := l) (es := es0 ++ [l]) (by simp)
          have hsum := h.sum
          have hfl := fr_len l
          exact ⟨_, _, h.bind (chosen_mem (dg := dg) hl).1, hne _ _, bind1 X kn hl (shaped_sd fun x hx => hel.isN hs hu x (T.us_nms (T.fr_us hx))) (by omega) h15'⟩
    · by_cases h4 : dg % 6 = 4
      · rcases List.eq_nil_or_concat es with he | ⟨es0, l, he⟩
        · exact ⟨_, _, hpush, hne _ _, push4 X kn he (by omega)⟩
        · rw [List.concat_eq_append] at he
          subst he
          exact ⟨_, _, h.bindNew hs hu, hne _ _, bind4 X kn (fr_bd_new (h.ent l (by simp)) hs hu) (by omega)⟩
      · have h23 : dg % 6 = 2 ∨ dg % 6 = 3 := by omega
        rcases split2 es with he | ⟨l, he⟩ | ⟨es0, p, l, he⟩
        · exact ⟨_, _, hpush, hne _ _, push2 X kn (by rw [he]; simp) (by omega)⟩
        · exact ⟨_, _, hpush, hne _ _, push2 X kn (by rw [he]; simp) (by omega)⟩
        · subst he
          have hep := h.ent p (by simp)
          have hzp := sz_sum (e := p) (es := es0 ++ [p, l]) (by simp)
          have hzl := sz_sum (e := l) (es := es0 ++ [p, l]) (by simp)
          have hsum := h.sum
          have f1 := fr_len p
          have f2 := fr_len l
          simp at hlen
          exact ⟨_, _, h.join (dg % 6) dg, hne _ _, join2 X kn h26 (shaped_sd fun x hx => hep.isN hs hu x (T.us_nms (T.fr_us hx))) (by omega) (by omega) h23⟩
theorem f35 (X : Mi) {w : W} {s : Nat} {z : A} (hs : s < 5) (h25 : ∀ k M, k < 40 → pcall (w.run 25) [.d (.int (k : Nat)), .d (.int (s : Nat))] M = .ok (.d (.str (lnm k s))) M) (h26 : P26 w) :
    ∀ (ds : List Nat) (es : List T) (used m : Nat) (a4 a5 a6 a7 a8 a9 a10 : A) (Q : List O), m + ds.length < 32 → Inv s es used m →
      ∃ es' used' b4 b5 b6 b7 b8 b9 b10 Q', Inv s es' used' (m + ds.length) ∧ forR (.one 4) (X.exs w foB35) (nd ds) [z, .d (.int (s : Nat)), .cell 0, .d (.int (used : Nat)), a4, a5, a6, a7, a8, a9, a10] (.lst (ad (pds es)) :: Q) =
        .nx [z, .d (.int (s : Nat)), .cell 0, .d (.int (used' : Nat)), b4, b5, b6, b7, b8, b9, b10] (.lst (ad (pds es')) :: Q')
  | [], es, used, m, a4, a5, a6, a7, a8, a9, a10, Q, _, h => ⟨es, used, a4, a5, a6, a7, a8, a9, a10, Q, h, rfl⟩
  | dg :: r, es, used, m, a4, a5, a6, a7, a8, a9, a10, Q, hm, h => by
    rw [List.length_cons] at hm
    obtain ⟨es1, u1, i1, _, b5, b6, b7, b8, b9, b10, Q1, e1⟩ := b35 X (z := z) (dg := dg) (a5 := a5) (a6 := a6) (a7 := a7) (a8 := a8) (a9 := a9) (a10 := a10) (Q := Q) hs (by omega) h h25 h26
    obtain ⟨es2, u2, c4, c5, c6, c7, c8, c9, c10, Q2, i2, e2⟩ := f35 X (z := z) hs h25 h26 r es1 u1 (m + 1) (.d (.int (dg : Nat))) b5 b6 b7 b8 b9 b10 Q1 (by omega) i1
    refine ⟨es2, u2, c4, c5, c6, c7, c8, c9, c10, Q2, by rw [List.length_cons, show m + (r.length + 1) = m + 1 + r.length from by omega]; exact i2, ?_⟩
    have en : nd (dg :: r) = D.int (dg : Nat) :: nd r := rfl
    simp only [en, forR_cons, set_one, List.set_cons_succ, List.set_cons_zero]
    rw [e1]
    exact e2
/-- the joining at the end -/
theorem c35 (X : Mi) {w : W} {s m : Nat} {z u a4 a5 a6 a7 a8 a10 : A} (hs : s < 5) (hm : m < 32) (h26 : P26 w) :
    ∀ (xs : List Nat) (es : List T) (used : Nat) (a9 : A) (Q : List O), Inv s es used m → es ≠ [] →
      ∃ es' b9 Q', Inv s es' used m ∧ es' ≠ [] ∧ (es.length ≤ xs.length + 1 → es'.length = 1) ∧ forR (.one 9) (X.exs w foC35) (nd xs) [z, .d (.int (s : Nat)), .cell 0, u, a4, a5, a6, a7, a8, a9, a10] (.lst (ad (pds es)) :: Q) =
        .nx [z, .d (.int (s : Nat)), .cell 0, u, a4, a5, a6, a7, a8, b9, a10] (.lst (ad (pds es')) :: Q')
  | [], es, used, a9, Q, h, hne => ⟨es, a9, Q, h, hne, fun h1 => by
      have : 0 < es.length := List.length_pos_iff.mpr hne
      simp at h1; omega, rfl⟩
  | x :: r, es, used, a9, Q, h, hne => by
    have en : nd (x :: r) = D.int (x : Nat) :: nd r := rfl
    simp only [en, forR_cons, set_one, List.set_cons_succ, List.set_cons_zero]
    rcases split2 es with he | ⟨l, he⟩ | ⟨es0, p, l, he⟩
    · exact absurd he hne
    · subst he
      obtain ⟨es', b9, Q', i1, i2, i3, e2⟩ := c35 X (z := z) (u := u) (a4 := a4) (a5 := a5) (a6 := a6) (a7 := a7) (a8 := a8) (a10 := a10) hs hm h26 r [l] used (.d (.int (x : Nat))) Q h (by simp)
      refine ⟨es', b9, Q', i1, i2, fun _ => i3 (by simp), ?_⟩
      have e1 : X.exs w foC35 [z, .d (.int (s : Nat)), .cell 0, u, a4, a5, a6, a7, a8, .d (.int (x : Nat)), a10] (.lst (ad (pds [l])) :: Q) = .nx [z, .d (.int (s : Nat)), .cell 0, u, a4, a5, a6, a7, a8, .d (.int (x : Nat)), a10] (.lst (ad (pds [l])) :: Q) := by
        simp [foC35, B35]
      rw [e1]
      exact e2
    · subst he
      obtain ⟨t1, t2, t3, t4⟩ := tail2 es0 p l
      have hep := h.ent p (by simp)
      have hu : used < 40 := by have := h.used; omega
      have hzp := sz_sum (e := p) (es := es0 ++ [p, l]) (by simp)
      have hzl := sz_sum (e := l) (es := es0 ++ [p, l]) (by simp)
      have hsum := h.sum
      have f1 := fr_len p
      have f2 := fr_len l
      have hlen := h.len
      simp at hlen
      obtain ⟨Q', hc⟩ := h26 es0 p l 2 0 Q _ _ (shaped_sd fun x hx => hep.isN hs hu x (T.us_nms (T.fr_us hx))) (by omega) (by omega) t1 t2 t3 t4
      have hj : jn 2 0 p l = .ap p l := by simp [jn]
      have he : pds es0 ++ [pd (T.ap p l)] = pds (es0 ++ [T.ap p l]) := by simp [pds]
      rw [hj, he] at hc
      obtain ⟨es', b9, Q2, i1, i2, i3, e2⟩ := c35 X (z := z) (u := u) (a4 := a4) (a5 := a5) (a6 := a6) (a7 := a7) (a8 := a8) (a10 := a10) hs hm h26 r (es0 ++ [T.ap p l]) used (.d (.int (x : Nat))) Q' h.join0 (by simp)
      refine ⟨es', b9, Q2, i1, i2, fun h1 => i3 (by simp at h1 ⊢; omega), ?_⟩
      have hL : (2 : Int) ≤ ((pds (es0 ++ [p, l])).length : Nat) := by simp; omega
      have e1 : X.exs w foC35 [z, .d (.int (s : Nat)), .cell 0, u, a4, a5, a6, a7, a8, .d (.int (x : Nat)), a10] (.lst (ad (pds (es0 ++ [p, l]))) :: Q) = .nx [z, .d (.int (s : Nat)), .cell 0, u, a4, a5, a6, a7, a8, .d (.int (x : Nat)), a10] (.lst (ad (pds (es0 ++ [T.ap p l]))) :: Q') := by
        simp at hc
        generalize pds (es0 ++ [p, l]) = L at *
        simp [foC35, B35, hL, hc]
      rw [e1]
      exact e2
theorem g35 (X : Mi) {w : W} {s : Nat} {ds : List Nat} (hs : s < 5) (hd : ds.length ≤ 30) (h25 : ∀ k M, k < 40 → pcall (w.run 25) [.d (.int (k : Nat)), .d (.int (s : Nat))] M = .ok (.d (.str (lnm k s))) M) (h26 : P26 w) :
    ∃ e used M2, Ent s used e ∧ used ≤ 31 ∧ e.sz ≤ 30 ∧ X.go F35 w [.d (.lst (nd ds)), .d (.int (s : Nat))] [] = .ok (.d (pd e)) M2 := by
  have i0 : Inv s [] 0 0 := ⟨fun _ h => (List.not_mem_nil h).elim, List.Pairwise.nil, by simp, by omega, by simp⟩
  obtain ⟨es, used, b4, b5, b6, b7, b8, b9, b10, Q, i1, e1⟩ := f35 X (z := .d (.lst (nd ds))) hs h25 h26 ds [] 0 0 .un .un .un .un .un .un .un [] (by omega) i0
  rw [Nat.zero_add] at i1
  have hr : inR (ds.length : Int) = true := inR_nat (by omega)
  have hu : used < 40 := by have := i1.used; omega
  have hsh := i1.shaped hs (by omega)
  simp only [foB35, B35] at e1
  rw [show pds [] = [] from rfl] at e1
  simp at e1
  by_cases he : es = []
  · subst he
    have hz : ds.length = 0 ∨ 0 < ds.length := by omega
    have i2 : Inv s ([] ++ [T.nm (lnm used s)]) (used + 1) (ds.length + 1) := i1.push hs hu
    rw [List.nil_append] at i2
    obtain ⟨es', c9, Q2, i3, n3, l3, e2⟩ := c35 X (z := .d (.lst (nd ds))) (u := .d (.int (used : Nat))) (a4 := b4) (a5 := b5) (a6 := b6) (a7 := b7) (a8 := b8) (a10 := b10) hs (by omega) h26 (List.range ds.length) [T.nm (lnm used s)] (used + 1) b9 (Q ++ [.lst (ad []), .frz (.lst [.str (lnm used s)])]) i2 (by simp)
    have h1 := l3 (by simp)
    obtain ⟨e, rfl⟩ := List.length_eq_one_iff.mp h1
    have hq : eqA (.cell 0) (.cell (Q.length + 1)) (O.lst (ad []) :: (Q ++ [.lst (ad [])])) = some true := eqA_nil (xs := []) (.inl rfl) (by simp) shaped_nil
    have n1 := fun M => h25 used M hu
    simp only [foC35, B35] at e2
    rw [show pds [T.nm (lnm used s)] = [.tup [.tup [.str sName, .str (lnm used s)], .lst [.str (lnm used s)]]] from rfl] at e2
    rw [show pds [] = [] from rfl] at e1
    simp at e1 e2
    have hsum := i3.sum
    have hm := i1.sum
    refine ⟨e, used + 1, .lst (ad (pds [e])) :: Q2, i3.ent e (by simp), by have := i1.used; omega, by simp at hsum; omega, ?_⟩
    have hp : (pds [e])[0]? = some (pd e) := rfl
    generalize pds [e] = L at *
    have h0 : 0 < sizeLine := by decide
    simp [Mi.go, F35, B35, e1, hq, hr, n1, e2, hp, h0]
  · obtain ⟨es', c9, Q2, i3, n3, l3, e2⟩ := c35 X (z := .d (.lst (nd ds))) (u := .d (.int (used : Nat))) (a4 := b4) (a5 := b5) (a6 := b6) (a7 := b7) (a8 := b8) (a10 := b10) hs (by omega) h26 (List.range ds.length) es used b9 (Q ++ [.lst (ad [])]) i1 he
    have h1 := l3 (by have := i1.len; simp; omega)
    obtain ⟨e, rfl⟩ := List.length_eq_one_iff.mp h1
    have hq : eqA (.cell 0) (.cell (Q.length + 1)) (O.lst (ad (pds es)) :: (Q ++ [.lst (ad [])])) = some false := by
      rw [eqA_nil (xs := pds es) (.inl rfl) (by simp) hsh]
      cases es with
      | nil => exact absurd rfl he
      | cons a r => rfl
    simp only [foC35, B35] at e2
    simp at e2
    have hsum := i3.sum
    refine ⟨e, used, .lst (ad (pds [e])) :: Q2, i3.ent e (by simp), by have := i1.used; omega, by simp at hsum; omega, ?_⟩
    have hp : (pds [e])[0]? = some (pd e) := rfl
    generalize pds [e] = L at *
    simp [Mi.go, F35, B35, e1, hq, hr, e2, hp]
theorem p26 (n : Nat) : ∀ (es : List T) (p l : T) (kd dg : Nat) (Q : List O) (L1 L2 : List A), SeqAt.shaped (D.lst (sd p.fr)).py = true → p.fr.length + l.fr.length ≤ 1000 → es.length ≤ 1000 →
    L2.getLast? = some (.d (.tup [l.d, .lst (sd l.fr)])) → L2.dropLast = L1 → L1.getLast? = some (.d (.tup [p.d, .lst (sd p.fr)])) → L1.dropLast = ad (pds es) →
    ∃ Q', prg.run (n + 1) 26 [.cell 0, .d (.int (kd : Nat)), .d (.int (dg : Nat))] (.lst L2 :: Q) = .ok (.d .non) (.lst (ad (pds es ++ [pd (jn kd dg p l)])) :: Q') := fun es p l kd dg Q L1 L2 h1 h2 h3 h4 h5 h6 h7 => by
  rw [prg.run_eq n 26 F26 rfl]
  exact g26 mi h1 h2 h3 h4 h5 h6 h7
theorem r35 (n : Nat) (s : Nat) (ds : List Nat) (hs : s < 5) (hd : ds.length ≤ 30) : ∃ e used, Ent s used e ∧ used ≤ 31 ∧ e.sz ≤ 30 ∧ Ret (prg.run (n + 2) 35) [.lst (nd ds), .int (s : Nat)] (pd e) := by
  obtain ⟨e, used, M2, h1, h2, h3, h4⟩ := g35 mi (w := ⟨prg.run (n + 1), prg.sub, prg.turns⟩) hs hd (fun k M hk => p25 (n := n) hk hs) (p26 n)
  exact ⟨e, used, h1, h2, h3, M2, by rw [prg.run_eq (n + 1) 35 F35 rfl]; exact h4⟩
end K90

set_option Elab.async false
set_option linter.all false
set_option maxRecDepth 100000
set_option maxHeartbeats 4000000
/-! k90: _law_row. -/
namespace Mq
open PySem PySem.Spec L2 Mini
@[simp high] theorem apg0 {M r : List O} {a : O} : (M ++ a :: r)[M.length]? = some a := by
  rw [List.getElem?_append_right (Nat.le_refl _), Nat.sub_self]; rfl
@[simp high] theorem apg1 {M r : List O} {a b : O} : (M ++ a :: b :: r)[M.length + 1]? = some b := by
  rw [List.getElem?_append_right (by omega), show M.length + 1 - M.length = 1 from by omega]; rfl
@[simp high] theorem apg2 {M r : List O} {a b c : O} : (M ++ a :: b :: c :: r)[M.length + 1 + 1]? = some c := by
  rw [List.getElem?_append_right (by omega), show M.length + 1 + 1 - M.length = 2 from by omega]; rfl
@[simp high] theorem apg3 {M r : List O} {a b c d : O} : (M ++ a :: b :: c :: d :: r)[M.length + 1 + 1 + 1]? = some d := by
  rw [List.getElem?_append_right (by omega), show M.length + 1 + 1 + 1 - M.length = 3 from by omega]; rfl
end Mq
namespace K90
open PySem PySem.Spec L2 Mini Mq
def foB41 : List Mini.S := match B41 with
  | [_, .forS _ _ _ b, _] => b
  | _ => []
def foN41 : List Mini.S := [Mini.S.ifS
                  ((Mini.E.cmp Mini.Cmp.nin (Mini.E.var 7) (Mini.E.var 4)).an
                    (Mini.E.call 39 [Mini.E.var 2, Mini.E.var 7] [] []).nt)
                  [Mini.S.ret (Mini.E.cst Mini.D.non)] []]
theorem n41 (X : Mi) {w : W} {z dg k a5 a6 : A} {t : T} {c : Nat} {M : List O} (hc : M[c]? = some (.lst (ad (nd t.spots)))) (h39 : ∀ (k : Nat) M, k ∉ t.spots → pcall (w.run 39) [.d t.d, .d (.int (k : Nat))] M = .ok (.d (.bl true)) M) :
    ∀ (xs : List Nat) (a7 : A), ∃ b7, forR (.one 7) (X.exs w foN41) (nd xs) [z, dg, .d t.d, k, .cell c, a5, a6, a7] M = .nx [z, dg, .d t.d, k, .cell c, a5, a6, b7] M
  | [], a7 => ⟨a7, rfl⟩
  | x :: r, a7 => by
    obtain ⟨b7, ih⟩ := n41 X (z := z) (dg := dg) (k := k) (a5 := a5) (a6 := a6) hc h39 r (.d (.int (x : Nat)))
    refine ⟨b7, ?_⟩
    have en : nd (x :: r) = D.int (x : Nat) :: nd r := rfl
    simp only [en, forR_cons, set_one, List.set_cons_succ, List.set_cons_zero]
    have e1 : X.exs w foN41 [z, dg, .d t.d, k, .cell c, a5, a6, .d (.int (x : Nat))] M = .nx [z, dg, .d t.d, k, .cell c, a5, a6, .d (.int (x : Nat))] M := by
      by_cases hx : x ∈ t.spots
      · simp [foN41, hc, hx]
      · have h1 := fun M => h39 x M hx
        simp [foN41, hc, hx, h1]
    rw [e1]
    exact ih
/-- what a turn leans on -/
structure Rw (w : W) (t : T) (ds : List Nat) : Prop where
  h36 : ∀ M, pcall (w.run 36) [.d t.d] M = .ok (.cell M.length) (M ++ [.lst (ad (nd t.spots))])
  h10 : ∀ M, pcall (w.run 10) [.d t.d] M = .ok (.cell M.length) (M ++ [.lst (ad (nd t.spots))])
  h24 : ∀ (as : List A) M, denL (den 8 M) as = some [.lst (nd t.spots), .lst (nd t.spots)] → pcall (w.run 24) as M = .ok (.d (.bl true)) M
  h24t : ∀ (k : Nat) M, k ∈ t.spots → pcall (w.run 24) [.d (t.stp k).d, .d (t.stp k).d] M = .ok (.d (.bl true)) M
  h22 : ∀ (k : Nat) M, pcall (w.run 22) [.d (.lst (nd ds)), .d (.int (k : Nat))] M = .ok (.d (.int ((ds[k]?.getD 0 : Nat) : Int))) M
  h37 : Dn (w.run 37) t
  h19 : ∀ (k : Nat) M, k ∈ t.spots → pcall (w.run 19) [.d t.d, .d (.int (k : Nat))] M = .ok (.d (t.stp k).d) M
  h39 : ∀ (k : Nat) M, k ∉ t.spots → pcall (w.run 39) [.d t.d, .d (.int (k : Nat))] M = .ok (.d (.bl true)) M
  h28 : ∀ M, pcall (w.run 28) [.d t.d] M = .ok (.d (.int t.sz)) M
theorem b41nil (X : Mi) {w : W} {t : T} {ds : List Nat} {z a4 a5 a6 a7 k : A} {M : List O} (h : Rw w t ds) (hs : t.spots = []) : ∃ δ M', X.exs w foB41 [z, .d (.lst (nd ds)), .d t.d, k, a4, a5, a6, a7] M = .bk δ M' ∧ δ[2]? = some (.d t.d) := by
  have h36 := h.h36
  have h10 := h.h10
  have h24 := h.h24
  rw [hs] at h36 h10 h24
  have he : eqA (.cell M.length) (.cell (M.length + 1 + 1)) (M ++ [O.lst (ad (nd [])), .lst (ad (nd [])), .lst (ad [])]) = some true := by
    rw [eqA_nil (xs := nd []) (.inl (by simp)) (by simp) (shaped_nd _)]
    rfl
  refine ⟨[z, .d (.lst (nd ds)), .d t.d, k, .cell M.length, a5, a6, a7], (M ++ [O.lst (ad (nd [])), .lst (ad (nd [])), .lst (ad [])]), ?_, rfl⟩
  simp [foB41, B41, h36, h10, h24, he]
theorem b41 (X : Mi) {w : W} {t : T} {ds : List Nat} {z a4 a5 a6 a7 : A} {j : Nat} {M : List O} (h : Rw w t ds) (hz : t.sz ≤ 30) (hs : t.spots ≠ []) : ∃ k b4 b5 b6 b7 M', k ∈ t.spots ∧ X.exs w foB41 [z, .d (.lst (nd ds)), .d t.d, .d (.int (j : Nat)), a4, a5, a6, a7] M = .nx [z, .d (.lst (nd ds)), .d (t.stp k).d, .d (.int (j : Nat)), b4, b5, b6, b7] M' := by
  have hpl : 0 < t.spots.length := List.length_pos_iff.mpr hs
  have hpl2 : (0 : Int) < (t.spots.length : Nat) := by omega
  obtain ⟨i, hi⟩ : ∃ i, i = (ds[j]?.getD 0) % t.spots.length := ⟨_, rfl⟩
  have hil : i < t.spots.length := by rw [hi]; exact Nat.mod_lt _ hpl
  have hge : t.spots[i]? = some t.spots[i] := List.getElem?_eq_getElem hil
  have hmem : t.spots[i] ∈ t.spots := List.getElem_mem hil
  generalize t.spots[i] = k at hge hmem
  have hat : atI (nd t.spots) (((ds[j]?.getD 0 : Nat) : Int) % (t.spots.length : Nat)) = some (.int (k : Nat)) := by
    have : ((ds[j]?.getD 0 : Nat) : Int) % (t.spots.length : Nat) = (i : Nat) := by rw [hi]; simp
    rw [this, atI_nat', nd_get, hge]
    rfl
  have hszn : t.sz ∉ t.spots := fun q => by
    have := T.rdx_lt _ _ (T.mem_spots.mp q)
    omega
  have he : eqA (.cell M.length) (.cell (M.length + 1 + 1)) (M ++ [O.lst (ad (nd t.spots)), .lst (ad (nd t.spots)), .lst (ad [])]) = some false := by
    rw [eqA_nil (xs := nd t.spots) (.inl (by simp)) (by simp) (shaped_nd _)]
    cases h2 : t.spots with
    | nil => exact absurd h2 hs
    | cons a r => rfl
  obtain ⟨h', _, e37⟩ := (h.h37 k 0 (M.length + 1 + 1 + 1) (M ++ [O.lst (ad (nd t.spots)), .lst (ad (nd t.spots)), .lst (ad []), .lst (ad [.int 0])]) (by simp)).2 (by omega) (T.mem_spots.mp hmem)
  rw [Nat.sub_zero] at e37
  have hset : (M ++ [O.lst (ad (nd t.spots)), .lst (ad (nd t.spots)), .lst (ad []), .lst (ad [.int 0])]).set (M.length + 1 + 1 + 1) (.lst (ad [.int (h' : Nat)])) = M ++ [O.lst (ad (nd t.spots)), .lst (ad (nd t.spots)), .lst (ad []), .lst (ad [.int (h' : Nat)])] := by
    rw [List.set_append_right _ _ (by omega)]
    simp [show M.length + 1 + 1 + 1 - M.length = 3 from by omega]
  rw [hset] at e37
  have e19 := fun M => h.h19 k M hmem
  have e24 := fun M => h.h24t k M hmem
  have e39 := fun M => h.h39 t.sz M hszn
  have hr : inR (t.sz : Int) = true := inR_nat (by omega)
  obtain ⟨b7, hn⟩ := n41 X (z := z) (dg := .d (.lst (nd ds))) (k := .d (.int (j : Nat))) (a5 := .d (.int (k : Nat))) (a6 := .d (t.stp k).d) (t := t) (c := M.length) (M := M ++ [O.lst (ad (nd t.spots)), .lst (ad (nd t.spots)), .lst (ad []), .lst (ad [.int (h' : Nat)])]) (by simp) h.h39 (List.range t.sz) a7
  simp only [foN41] at hn
  refine ⟨k, .cell M.length, .d (.int (k : Nat)), .d (t.stp k).d, b7, (M ++ [O.lst (ad (nd t.spots)), .lst (ad (nd t.spots)), .lst (ad []), .lst (ad [.int (h' : Nat)])]), hmem, ?_⟩
  have h36 := h.h36
  have h10 := h.h10
  have h24 := h.h24
  have h22 := h.h22
  have h28 := h.h28
  rw [← nd_len t.spots] at hpl hpl2 hat
  generalize nd t.spots = L at *
  simp [foB41, B41, h36, h10, h24, he, h22, hpl, hpl2, hat, e37, e19, e24, e39, h28, hr, hn]
/-- the row's end -/
theorem f41 (X : Mi) {w : W} {ds : List Nat} {z : A} (hw : ∀ t : T, t.ok → t.sz ≤ 30 → Rw w t ds) :
    ∀ (n : Nat) (xs : List Nat) (t : T) (a3 a4 a5 a6 a7 : A) (M : List O), t.ok → t.sz ≤ 30 → t.sz < 2 * n → xs.length = n → ∃ u δ M', T.Star t u ∧ u.nf ∧ forR (.one 3) (X.exs w foB41) (nd xs) [z, .d (.lst (nd ds)), .d t.d, a3, a4, a5, a6, a7] M = .nx δ M' ∧ δ[2]? = some (.d u.d)
  | 0, xs, t, a3, a4, a5, a6, a7, M, ho, hz, hn, hx => by omega
  | n + 1, [], t, a3, a4, a5, a6, a7, M, ho, hz, hn, hx => by simp at hx
  | n + 1, x :: r, t, a3, a4, a5, a6, a7, M, ho, hz, hn, hx => by
    have en : nd (x :: r) = D.int (x : Nat) :: nd r := rfl
    simp only [en, forR_cons, set_one, List.set_cons_succ, List.set_cons_zero]
    by_cases hs : t.spots = []
    · obtain ⟨δ, M', e1, e2⟩ := b41nil X (z := z) (a4 := a4) (a5 := a5) (a6 := a6) (a7 := a7) (k := .d (.int (x : Nat))) (M := M) (hw t ho hz) hs
      refine ⟨t, δ, M', .refl t, T.nf_spots.mpr hs, ?_, e2⟩
      rw [e1]
    · obtain ⟨k, b4, b5, b6, b7, M', hk, e1⟩ := b41 X (z := z) (a4 := a4) (a5 := a5) (a6 := a6) (a7 := a7) (j := x) (M := M) (hw t ho hz) hz hs
      have hr := T.mem_spots.mp hk
      obtain ⟨h1, _, h3⟩ := T.stp_ok ho hr
      rw [List.length_cons] at hx
      rw [e1]
      by_cases hz0 : (t.stp k).sz = 0
      · cases n with
        | zero =>
          omega
        | succ n =>
          obtain ⟨u, δ, M2, s1, s2, e2, e3⟩ := f41 X (z := z) hw (n + 1) r (t.stp k) (.d (.int (x : Nat))) b4 b5 b6 b7 M' h1 (by omega) (by omega) (by omega)
          exact ⟨u, δ, M2, .head (T.stp_step t k hr) s1, s2, e2, e3⟩
      · obtain ⟨u, δ, M2, s1, s2, e2, e3⟩ := f41 X (z := z) hw n r (t.stp k) (.d (.int (x : Nat))) b4 b5 b6 b7 M' h1 (by omega) (by omega) (by omega)
        exact ⟨u, δ, M2, .head (T.stp_step t k hr) s1, s2, e2, e3⟩
theorem g41 (X : Mi) {w : W} {t : T} {ds : List Nat} (hw : ∀ t : T, t.ok → t.sz ≤ 30 → Rw w t ds) (ho : t.ok) (hz : t.sz ≤ 30) : ∃ u M', T.Star t u ∧ u.nf ∧ X.go F41 w [.d t.d, .d (.lst (nd ds))] [] = .ok (.d u.d) M' := by
  obtain ⟨u, δ, M', s1, s2, e1, e2⟩ := f41 X (z := .d t.d) hw (t.sz + 1) (List.range (t.sz + 1)) t .un .un .un .un .un [] ho hz (by omega) (by simp)
  have h28 := (hw t ho hz).h28
  have hi : items .r1 [.d (.int ((t.sz : Int) + 1))] [] = some (nd (List.range (t.sz + 1)), []) := by
    have := items_r1 (j := t.sz + 1) (M := [])
    rw [inR_nat (by omega)] at this
    simpa using this
  refine ⟨u, M', s1, s2, ?_⟩
  simp only [foB41, B41] at e1
  simp at e1
  simp [Mi.go, F41, B41, h28, hi, e1, e2]
theorem rw41 (n : Nat) (t : T) (ds : List Nat) (ho : t.ok) (hz : t.sz ≤ 30) : Rw ⟨prg.run (n + 130), prg.sub, prg.turns⟩ t ds where
  h36 := fun M => Ret.lstd (r36 (n + 129) t (by have := t.ht_le_sz; omega) (by omega))
  h10 := fun M => p10 (n := n + 127) (by omega) M
  h24 := fun as M h1 => p24 (m := n + 89) (Pl.nd (n := 39) (by
    have : t.spots.length ≤ t.nodes.length := by
      have := List.length_filter_le (fun k => (t.nodes[k]?.map T.isRedex).getD false) (List.range t.nodes.length)
      rw [List.length_range] at this
      exact this
    rw [T.nodes_len] at this
    omega)) h1
  h24t := fun k M hk => p24 (m := n + 89) (Pl.tm (t.stp k) (by
    have h1 := (t.stp k).ht_le_sz
    have h2 := (T.stp_ok ho (T.mem_spots.mp hk)).2.2
    omega)) (by simp)
  h22 := fun k M => p22 (n := n + 129) (by simp)
  h37 := r37 (n + 39) t (by have := t.ht_le_sz; omega) (by have := t.ht_le_sz; omega)
  h19 := fun k M hk => Ret.tmd (r19 (n + 7) t k hz hk)
  h39 := fun k M hk => p39 (n := n + 6) hz hk
  h28 := fun M => (r28 (n + 130) t (by have := t.ht_le_sz; omega)).sc rfl (by simp)
theorem r41 (n : Nat) (t : T) (ds : List Nat) (ho : t.ok) (hz : t.sz ≤ 30) : ∃ u, T.Star t u ∧ u.nf ∧ Ret (prg.run (n + 131) 41) [t.d, .lst (nd ds)] u.d := by
  obtain ⟨u, M', s1, s2, e⟩ := g41 mi (w := ⟨prg.run (n + 130), prg.sub, prg.turns⟩) (t := t) (ds := ds) (fun t h1 h2 => rw41 n t ds h1 h2) ho hz
  exact ⟨u, s1, s2, Ret.ok_tm (by rw [prg.run_eq (n + 130) 41 F41 rfl]; exact e)⟩
end K90

set_option Elab.async false
set_option linter.all false
set_option maxRecDepth 100000
set_option maxHeartbeats 4000000
/-! k90: _law_faults. -/
namespace K90
open PySem PySem.Spec L2 Mini Mq
theorem T.us_ne : ∀ t : T, t.us ≠ []
  | .nm x => by simp [us]
  | .bd x t => us_ne t
  | .ap l r => by simp [us, us_ne l]
theorem T.us_len : ∀ t : T, t.us.length ≤ t.sz + 1
  | .nm x => by simp [us, sz]
  | .bd x t => by have := us_len t; simp [us, sz]; omega
  | .ap l r => by have := us_len l; have := us_len r; simp [us, sz]; omega
theorem uses_sd (t : T) : List.map (fun s : T => D.str s.name) (t.parts.filter T.isNm) = sd t.us := by
  rw [← T.uses_eq]
  unfold sd T.uses
  rw [List.map_map]
  rfl
theorem binds_sd (t : T) : List.map (fun s : T => D.str s.name) (t.parts.filter T.isBd) = sd t.bs := by
  rw [← T.binds_eq]
  unfold sd T.binds
  rw [List.map_map]
  rfl
abbrev sFree0 : Str := { cps := { toList := [102, 114, 101, 101, 48] } }
abbrev sFree1 : Str := { cps := { toList := [102, 114, 101, 101, 49] } }
abbrev sBadN : Str := { cps := { toList := [66, 97, 100] } }
abbrev s7x : Str := { cps := { toList := [55, 120] } }
abbrev sq : Str := { cps := { toList := [113] } }
/-- what the faults lean on -/
structure Ft (w : W) (t : T) : Prop where
  h29 : P29 w t
  h38 : ∀ (s : T) M, s.sz ≤ 60 → s.short → pcall (w.run 38) [.d s.d] M = .ok (.d (told s)) M
  h24 : ∀ (d : D) M, Pl 40 d → pcall (w.run 24) [.d d, .d d] M = .ok (.d (.bl true)) M
theorem pl_rep (x : Str) : Pl 40 (.tup [.str tRep, .str x, .bl true]) := Pl.trip (n := 39) (.str _) (.str _) (.bl _)
theorem pl_bad (x : Str) : Pl 40 (.tup [.str tBad, .str x]) := Pl.pair (n := 39) (.str _) (.str _)
theorem compU (X : Mi) {w : W} {t : T} {δ : List A} {M M1 M2 : List O} {as : List A} {its : List A → List O → Mini.R (List A)} (hz : t.sz ≤ 90) (e1 : its δ M = .ok as M1) (e2 : items .seq as M1 = some (td t.parts, M2)) {v : Nat} (hv : v < δ.length) :
    compR (.one v) .seq [v] its (X.evA w [Mini.E.cmp Mini.Cmp.eq ((Mini.E.var v).ix (Mini.E.cst (Mini.D.int (Int.ofNat 0)))) (Mini.E.cst (Mini.D.str { cps := { toList := [110, 97, 109, 101] } }))]) (X.ev w ((Mini.E.var v).ix (Mini.E.cst (Mini.D.int (Int.ofNat 1))))) δ M = .ok (.cell M2.length) (M2 ++ [.lst (ad (sd t.us))]) := by
  rw [compR_of (M1 := M1) (as := as) (M2 := M2) (xs := t.parts) T.d T.isNm (fun s => .str s.name) e1 e2 ?_ (sz_line hz), uses_sd]
  intro s _ acc
  refine ⟨_, rfl, ?_, ?_⟩
  · cases s <;> simp [T.isNm, hv]
  · intro hs
    rcases s with y | ⟨y, b⟩ | ⟨l, r⟩
    · simp [T.name, hv]
    · cases hs
    · cases hs
theorem compB (X : Mi) {w : W} {t : T} {δ : List A} {M M1 M2 : List O} {as : List A} {its : List A → List O → Mini.R (List A)} (hz : t.sz ≤ 90) (e1 : its δ M = .ok as M1) (e2 : items .seq as M1 = some (td t.parts, M2)) {v : Nat} (hv : v < δ.length) :
    compR (.one v) .seq [v] its (X.evA w [Mini.E.cmp Mini.Cmp.eq ((Mini.E.var v).ix (Mini.E.cst (Mini.D.int (Int.ofNat 0)))) (Mini.E.cst (Mini.D.str { cps := { toList := [98, 105, 110, 100] } }))]) (X.ev w ((Mini.E.var v).ix (Mini.E.cst (Mini.D.int (Int.ofNat 1))))) δ M = .ok (.cell M2.length) (M2 ++ [.lst (ad (sd t.bs))]) := by
  rw [compR_of (M1 := M1) (as := as) (M2 := M2) (xs := t.parts) T.d T.isBd (fun s => .str s.name) e1 e2 ?_ (sz_line hz), binds_sd]
  intro s _ acc
  refine ⟨_, rfl, ?_, ?_⟩
  · cases s <;> simp [T.isBd, hv]
  · intro hs
    rcases s with y | ⟨y, b⟩ | ⟨l, r⟩
    · cases hs
    · simp [T.name, hv]
    · cases hs
theorem g42 (X : Mi) {w : W} {t : T} {dg : Nat} (h : Ft w t) (hv : Va t) (hs : t.short) (hz : t.sz ≤ 30) (hf : fr0 ∉ t.nms) : ∃ M2, X.go F42 w [.d t.d, .d (.int (dg : Nat))] [] = .ok (.d (.bl true)) M2 := by
  have hul : 0 < t.us.length := List.length_pos_iff.mpr t.us_ne
  have hul2 : (0 : Int) < (t.us.length : Nat) := by omega
  obtain ⟨i, hi⟩ : ∃ i, i = dg % t.us.length := ⟨_, rfl⟩
  have hil : i < t.us.length := by rw [hi]; exact Nat.mod_lt _ hul
  have hge : t.us[i]? = some t.us[i] := List.getElem?_eq_getElem hil
  have hm : t.us[i] ∈ t.us := List.getElem_mem hil
  generalize t.us[i] = x at hge hm
  have hat : atI t.us ((dg : Int) % (t.us.length : Nat)) = some x := by
    have : (dg : Int) % (t.us.length : Nat) = (i : Nat) := by rw [hi]; simp
    rw [this, atI_nat', hge]
  have hxs : x.length ≤ 100 := by
    have : ∀ t : T, t.short → x ∈ t.us → x.length ≤ 100 := by
      intro t
      induction t with
      | nm y => intro h1 h2; have : x = y := List.mem_singleton.mp h2; subst this; exact h1
      | bd y t ih => intro h1 h2; exact ih h1.2 h2
      | ap l r i1 i2 => intro h1 h2; rcases List.mem_append.mp h2 with h2 | h2; exact i1 h1.1 h2; exact i2 h1.2 h2
    exact this t hs hm
  have n0 : isN fr0 = true := by decide +kernel
  have nb : isN sBadN = false := by decide +kernel
  have n7 : isN s7x = false := by decide +kernel
  have ta := fun M => h.h38 (.ap t (.nm x)) M (by simp [T.sz]; omega) ⟨hs, hxs⟩
  have tb := fun M => h.h38 (.bd x (.ap t (.nm x))) M (by simp [T.sz]; omega) ⟨hxs, hs, hxs⟩
  have tc := fun M => h.h38 (.ap (.bd fr0 t) (.nm fr0)) M (by simp [T.sz]; omega) ⟨⟨by decide, hs⟩, by show fr0.length ≤ 100; decide⟩
  have te := fun M => h.h38 (.ap t (.bd sBadN (.nm sq))) M (by simp [T.sz]; omega) ⟨hs, by decide, by show sq.length ≤ 100; decide⟩
  have tf := fun M => h.h38 (.ap t (.ap (.nm s7x) (.nm x))) M (by simp [T.sz]; omega) ⟨hs, by show s7x.length ≤ 100; decide, hxs⟩
  rw [told_a hv hm] at ta
  rw [told_b hv hm] at tb
  rw [told_c hv hf n0] at tc
  rw [told_d hv nb] at te
  rw [told_e hv n7] at tf
  simp only [T.d_ap, T.d_nm, T.d_bd] at ta tb tc te tf
  have q1 := fun M => h.h24 _ M (pl_rep x)
  have q2 := fun M => h.h24 _ M (pl_rep fr0)
  have q3 := fun M => h.h24 _ M (pl_bad sBadN)
  have q4 := fun M => h.h24 _ M (pl_bad s7x)
  unfold fr0 at tc q2
  have c1 := compU X (w := w) (t := t) (δ := [.d t.d, .d (.int (dg : Nat)), .un, .un, .un, .un, .un]) (M := []) (M1 := [.lst (ad (td t.parts))]) (M2 := [.frz (.lst (td t.parts))]) (as := [.cell 0]) (its := X.evs w [Mini.E.call 29 [Mini.E.var 0] [] []]) (by omega) (by simp [h.h29 []]) (by simp) (v := 6) (by simp)
  have c2 := compB X (w := w) (t := t) (δ := [.d t.d, .d (.int (dg : Nat)), .cell 1, .un, .un, .un, .un]) (M := [.frz (.lst (td t.parts)), .lst (ad (sd t.us))]) (M1 := [.frz (.lst (td t.parts)), .lst (ad (sd t.us)), .lst (ad (td t.parts))]) (M2 := [.frz (.lst (td t.parts)), .lst (ad (sd t.us)), .frz (.lst (td t.parts))]) (as := [.cell 2]) (its := X.evs w [Mini.E.call 29 [Mini.E.var 0] [] []]) (by omega) (by simp [h.h29 _]) (by simp) (v := 6) (by simp)
  simp only [Int.ofNat_eq_natCast] at c1 c2
  have hb : ∀ y ∈ t.bs, isN y = true := fun y hy => hv.nms y (T.bs_nms hy)
  have hq : ∀ (R : List O), eqA (.cell 3) (.cell 4) (.frz (.lst (td t.parts)) :: .lst (ad (sd t.us)) :: .frz (.lst (td t.parts)) :: .lst (ad (sd t.bs)) :: .lst (ad []) :: R) = some (sd t.bs).isEmpty := fun R => eqA_nil (.inl rfl) rfl (shaped_sd hb)
  by_cases hbn : t.bs = []
  · rw [hbn] at hq c2
    apply Exists.intro
    simp [Mi.go, F42, B42]
    simp at c1 c2
    simp [c1, c2, hul, hul2, hat, ta, q1, tb, tc, q2, te, q3, tf, q4, hq]
    rfl
  · have hbl : 0 < t.bs.length := List.length_pos_iff.mpr hbn
    have hbl2 : (0 : Int) < (t.bs.length : Nat) := by omega
    obtain ⟨j, hj⟩ : ∃ j, j = dg % t.bs.length := ⟨_, rfl⟩
    have hjl : j < t.bs.length := by rw [hj]; exact Nat.mod_lt _ hbl
    have hge2 : t.bs[j]? = some t.bs[j] := List.getElem?_eq_getElem hjl
    have hm2 : t.bs[j] ∈ t.bs := List.getElem_mem hjl
    generalize t.bs[j] = y at hge2 hm2
    have hat2 : atI t.bs ((dg : Int) % (t.bs.length : Nat)) = some y := by
      have : (dg : Int) % (t.bs.length : Nat) = (j : Nat) := by rw [hj]; simp
      rw [this, atI_nat', hge2]
    have hys : y.length ≤ 100 := by
      have : ∀ t : T, t.short → y ∈ t.bs → y.length ≤ 100 := by
        intro t
        induction t with
        | nm z => intro h1 h2; cases h2
        | bd z t ih =>
          intro h1 h2
          rcases List.mem_cons.mp h2 with rfl | h2
          · exact h1.1
          · exact ih h1.2 h2
        | ap l r i1 i2 => intro h1 h2; rcases List.mem_append.mp h2 with h2 | h2; exact i1 h1.1 h2; exact i2 h1.2 h2
      exact this t hs hm2
    have tg := fun M => h.h38 (.ap t (.bd y (.nm fr0))) M (by simp [T.sz]; omega) ⟨hs, hys, by show fr0.length ≤ 100; decide⟩
    rw [told_f hv hm2] at tg
    simp only [T.d_ap, T.d_nm, T.d_bd] at tg
    unfold fr0 at tg
    have q5 := fun M => h.h24 _ M (pl_rep y)
    have hbe : (sd t.bs).isEmpty = false := by
      cases h2 : t.bs with
      | nil => exact absurd h2 hbn
      | cons a r => rfl
    rw [hbe] at hq
    apply Exists.intro
    simp [Mi.go, F42, B42]
    simp at c1 c2
    simp [c1, c2, hul, hul2, hat, ta, q1, tb, tc, q2, te, q3, tf, q4, hq, hbl, hbl2, hat2, tg, q5]
    rfl
end K90

set_option Elab.async false
set_option linter.all false
set_option maxRecDepth 100000
set_option maxHeartbeats 4000000
/-! k90: nests; the law's statements (printed by mkst.py). -/
namespace K90
open PySem PySem.Spec L2 Mini Mq
def st44_0 : Mini.S := Mini.S.asg (Mini.Tg.one 1)
          (Mini.E.call 34
            [Mini.E.call 21 [Mini.E.var 0, Mini.E.cst (Mini.D.int (Int.ofNat 0))] [] [],
              Mini.E.cst (Mini.D.int (Int.ofNat 14)), Mini.E.cst (Mini.D.int (Int.ofNat 30))]
            [] [])
def st44_1 : Mini.S := Mini.S.asg (Mini.Tg.one 2)
          (Mini.E.call 35
            [Mini.E.call 23
                [Mini.E.call 21 [Mini.E.var 0, Mini.E.cst (Mini.D.int (Int.ofNat 1))] [] [], Mini.E.var 1,
                  Mini.E.cst (Mini.D.int (Int.ofNat 3))]
                [] [],
              Mini.E.bin Mini.Bin.mod
                (Mini.E.bi Mini.Bi.int [Mini.E.call 21 [Mini.E.var 0, Mini.E.cst (Mini.D.int (Int.ofNat 2))] [] []])
                (Mini.E.cst (Mini.D.int (Int.ofNat 5)))]
            [] [])
def st44_2 : Mini.S := Mini.S.asg (Mini.Tg.one 3) ((Mini.E.var 2).ix (Mini.E.cst (Mini.D.int (Int.ofNat 0))))
def st44_3 : Mini.S := Mini.S.asg (Mini.Tg.one 4) (Mini.E.call 29 [Mini.E.var 3] [] [])
def st44_4 : Mini.S := Mini.S.asg (Mini.Tg.one 5)
          (((Mini.E.var 13).ix (Mini.E.cst (Mini.D.int (Int.ofNat 1)))).comp (Mini.Tg.one 13) Mini.IK.seq [Mini.E.var 4]
            [Mini.E.cmp Mini.Cmp.eq ((Mini.E.var 13).ix (Mini.E.cst (Mini.D.int (Int.ofNat 0))))
                (Mini.E.cst (Mini.D.str { cps := { toList := [110, 97, 109, 101] } }))]
            [13])
def st44_5 : Mini.S := Mini.S.asg (Mini.Tg.one 6)
          (((Mini.E.var 13).ix (Mini.E.cst (Mini.D.int (Int.ofNat 1)))).comp (Mini.Tg.one 13) Mini.IK.seq [Mini.E.var 4]
            [(Mini.E.cmp Mini.Cmp.eq ((Mini.E.var 13).ix (Mini.E.cst (Mini.D.int (Int.ofNat 0))))
                    (Mini.E.cst (Mini.D.str { cps := { toList := [98, 105, 110, 100] } }))).an
                (Mini.E.cmp Mini.Cmp.nin ((Mini.E.var 13).ix (Mini.E.cst (Mini.D.int (Int.ofNat 1)))) (Mini.E.var 5))]
            [13])
def st44_6 : Mini.S := Mini.S.ifS
          ((Mini.E.call 24
                  [Mini.E.call 38 [Mini.E.var 3] [] [],
                    Mini.E.tup
                      [Mini.E.cst (Mini.D.str { cps := { toList := [115, 105, 122, 101] } }),
                        Mini.E.call 28 [Mini.E.var 3] [] []]]
                  [] []).nt.orr
            (Mini.E.call 24 [Mini.E.call 15 [Mini.E.var 3] [] [], Mini.E.var 6] [] []).nt)
          [Mini.S.ret (Mini.E.cst (Mini.D.bl false))] []
def st44_7 : Mini.S := Mini.S.asg (Mini.Tg.one 7)
          (Mini.E.call 41
            [Mini.E.var 3,
              Mini.E.call 23
                [Mini.E.call 21 [Mini.E.var 0, Mini.E.cst (Mini.D.int (Int.ofNat 3))] [] [],
                  Mini.E.cst (Mini.D.int (Int.ofNat 40)), Mini.E.cst (Mini.D.int (Int.ofNat 5))]
                [] []]
            [] [])
def st44_8 : Mini.S := Mini.S.asg (Mini.Tg.one 8)
          (Mini.E.call 41
            [Mini.E.var 3,
              Mini.E.call 23
                [Mini.E.call 21 [Mini.E.var 0, Mini.E.cst (Mini.D.int (Int.ofNat 4))] [] [],
                  Mini.E.cst (Mini.D.int (Int.ofNat 40)), Mini.E.cst (Mini.D.int (Int.ofNat 7))]
                [] []]
            [] [])
def st44_9 : Mini.S := Mini.S.ifS
          ((Mini.E.cmp Mini.Cmp.isN (Mini.E.var 7) (Mini.E.cst Mini.D.non)).orr
            ((Mini.E.cmp Mini.Cmp.isN (Mini.E.var 8) (Mini.E.cst Mini.D.non)).orr
              (Mini.E.call 24 [Mini.E.var 7, Mini.E.var 8] [] []).nt))
          [Mini.S.ret (Mini.E.cst (Mini.D.bl false))] []
def st44_10 : Mini.S := Mini.S.ifS
          ((Mini.E.call 24 [Mini.E.call 20 [Mini.E.var 3] [] [], Mini.E.call 33 [Mini.E.var 3] [] []] [] []).nt.orr
            (Mini.E.call 24
                [(Mini.E.call 33 [Mini.E.var 3] [] []).ix (Mini.E.cst (Mini.D.int (Int.ofNat 0))), Mini.E.var 7] []
                []).nt)
          [Mini.S.ret (Mini.E.cst (Mini.D.bl false))] []
def st44_11 : Mini.S := Mini.S.ifS
          ((Mini.E.cmp Mini.Cmp.eq (Mini.E.var 6) (Mini.E.lst [])).an
            (Mini.E.call 24 [Mini.E.call 12 [Mini.E.var 3] [] [], Mini.E.call 20 [Mini.E.var 3] [] []] [] []).nt)
          [Mini.S.ret (Mini.E.cst (Mini.D.bl false))] []
def st44_12 : Mini.S := Mini.S.asg (Mini.Tg.one 9)
          (Mini.E.call 27
            [Mini.E.bin Mini.Bin.add ((Mini.E.var 2).ix (Mini.E.cst (Mini.D.int (Int.ofNat 1))))
                (Mini.E.lst [Mini.E.cst (Mini.D.str { cps := { toList := [102, 114, 101, 101, 49] } })]),
              Mini.E.call 23
                [Mini.E.call 21 [Mini.E.var 0, Mini.E.cst (Mini.D.int (Int.ofNat 5))] [] [],
                  Mini.E.cst (Mini.D.int (Int.ofNat 40)), Mini.E.cst (Mini.D.int (Int.ofNat 11))]
                [] []]
            [] [])
def st44_13 : Mini.S := Mini.S.forS (Mini.Tg.one 10) Mini.IK.seq [Mini.E.lst [Mini.E.var 9, Mini.E.bi Mini.Bi.tuple [Mini.E.var 9]]]
          [Mini.S.ifS
              (Mini.E.call 24
                  [Mini.E.call 40 [Mini.E.var 3, Mini.E.var 10] [] [],
                    Mini.E.tup
                      [Mini.E.cst (Mini.D.str { cps := { toList := [110, 97, 109, 101, 115] } }), Mini.E.var 9]]
                  [] []).nt
              [Mini.S.ret (Mini.E.cst (Mini.D.bl false))] []]
def st44_14 : Mini.S := Mini.S.ifS
          (Mini.E.call 24
              [Mini.E.call 40 [Mini.E.var 3, Mini.E.cst Mini.D.non] [] [],
                Mini.E.tup
                  [Mini.E.cst (Mini.D.str { cps := { toList := [110, 97, 109, 101, 115] } }),
                    (Mini.E.var 2).ix (Mini.E.cst (Mini.D.int (Int.ofNat 1)))]]
              [] []).nt
          [Mini.S.ret (Mini.E.cst (Mini.D.bl false))] []
def st44_15 : Mini.S := Mini.S.asg (Mini.Tg.one 11)
          (Mini.E.mcall 30 [Mini.E.var 3, Mini.E.dnew, Mini.E.var 9, Mini.E.lst [Mini.E.cst (Mini.D.int (Int.ofNat 0))]]
            [] [])
def st44_16 : Mini.S := Mini.S.ifS (Mini.E.call 24 [Mini.E.call 17 [Mini.E.var 3, Mini.E.var 9] [] [], Mini.E.var 11] [] []).nt
          [Mini.S.ret (Mini.E.cst (Mini.D.bl false))] []
def st44_17 : Mini.S := Mini.S.ifS
          (Mini.E.call 24
              [Mini.E.call 40
                  [Mini.E.var 3,
                    Mini.E.bin Mini.Bin.add (Mini.E.var 9)
                      (Mini.E.lst
                        [Mini.E.cst (Mini.D.str { cps := { toList := [66, 97, 100] } }),
                          (Mini.E.var 9).ix (Mini.E.cst (Mini.D.int (Int.ofNat 0)))])]
                  [] [],
                Mini.E.tup
                  [Mini.E.cst (Mini.D.str { cps := { toList := [98, 97, 100] } }),
                    Mini.E.cst (Mini.D.str { cps := { toList := [66, 97, 100] } })]]
              [] []).nt
          [Mini.S.ret (Mini.E.cst (Mini.D.bl false))] []
def st44_18 : Mini.S := Mini.S.ifS
          (Mini.E.call 24
              [Mini.E.call 40
                  [Mini.E.var 3,
                    Mini.E.bin Mini.Bin.add (Mini.E.var 9)
                      (Mini.E.lst
                        [(Mini.E.var 9).ix (Mini.E.cst (Mini.D.int (Int.ofNat 0))),
                          Mini.E.cst (Mini.D.str { cps := { toList := [66, 97, 100] } })])]
                  [] [],
                Mini.E.tup
                  [Mini.E.cst (Mini.D.str { cps := { toList := [114, 101, 112, 101, 97, 116, 101, 100] } }),
                    (Mini.E.var 9).ix (Mini.E.cst (Mini.D.int (Int.ofNat 0)))]]
              [] []).nt
          [Mini.S.ret (Mini.E.cst (Mini.D.bl false))] []
def st44_19 : Mini.S := Mini.S.ifS
          ((Mini.E.cmp Mini.Cmp.ne ((Mini.E.var 2).ix (Mini.E.cst (Mini.D.int (Int.ofNat 1)))) (Mini.E.lst [])).an
            (Mini.E.call 24
                [Mini.E.call 40
                    [Mini.E.var 3,
                      Mini.E.lst [Mini.E.cst (Mini.D.str { cps := { toList := [102, 114, 101, 101, 49] } })]]
                    [] [],
                  Mini.E.tup
                    [Mini.E.cst (Mini.D.str { cps := { toList := [111, 116, 104, 101, 114] } }), Mini.E.lst []]]
                [] []).nt)
          [Mini.S.ret (Mini.E.cst (Mini.D.bl false))] []
def st44_20 : Mini.S := Mini.S.asg (Mini.Tg.one 12)
          (((Mini.E.var 13).ix (Mini.E.cst (Mini.D.int (Int.ofNat 1)))).comp (Mini.Tg.one 13) Mini.IK.seq [Mini.E.var 4]
            [Mini.E.cmp Mini.Cmp.eq ((Mini.E.var 13).ix (Mini.E.cst (Mini.D.int (Int.ofNat 0))))
                (Mini.E.cst (Mini.D.str { cps := { toList := [98, 105, 110, 100] } }))]
            [13])
def st44_21 : Mini.S := Mini.S.ifS
          ((Mini.E.cmp Mini.Cmp.ne (Mini.E.var 12) (Mini.E.lst [])).an
            (Mini.E.call 24
                [Mini.E.call 40
                    [Mini.E.var 3,
                      Mini.E.bin Mini.Bin.add (Mini.E.var 9)
                        (Mini.E.sl false true (Mini.E.var 12) (Mini.E.cst Mini.D.non)
                          (Mini.E.cst (Mini.D.int (Int.ofNat 1))))]
                    [] [],
                  Mini.E.tup
                    [Mini.E.cst (Mini.D.str { cps := { toList := [111, 116, 104, 101, 114] } }), Mini.E.lst []]]
                [] []).nt)
          [Mini.S.ret (Mini.E.cst (Mini.D.bl false))] []
def st44_22 : Mini.S := Mini.S.ifS
          (Mini.E.call 24
              [Mini.E.call 38 [Mini.E.call 43 [Mini.E.cst (Mini.D.int (Int.ofNat 60))] [] []] [] [],
                Mini.E.tup
                  [Mini.E.cst (Mini.D.str { cps := { toList := [115, 105, 122, 101] } }),
                    Mini.E.cst (Mini.D.int (Int.ofNat 60))]]
              [] []).nt
          [Mini.S.ret (Mini.E.cst (Mini.D.bl false))] []
def st44_23 : Mini.S := Mini.S.ifS
          (Mini.E.call 24
              [Mini.E.call 38 [Mini.E.call 43 [Mini.E.cst (Mini.D.int (Int.ofNat 61))] [] []] [] [],
                Mini.E.tup
                  [Mini.E.cst (Mini.D.str { cps := { toList := [108, 97, 114, 103, 101] } }),
                    Mini.E.cst (Mini.D.str { cps := { toList := [] } })]]
              [] []).nt
          [Mini.S.ret (Mini.E.cst (Mini.D.bl false))] []
def st44_24 : Mini.S := Mini.S.ret
          (Mini.E.call 42
            [Mini.E.var 3,
              Mini.E.bin Mini.Bin.mod
                (Mini.E.bi Mini.Bi.int [Mini.E.call 21 [Mini.E.var 0, Mini.E.cst (Mini.D.int (Int.ofNat 6))] [] []])
                (Mini.E.cst (Mini.D.int (Int.ofNat 997)))]
            [] [])
theorem B44_eq : B44 = [st44_0, st44_1, st44_2, st44_3, st44_4, st44_5, st44_6, st44_7, st44_8, st44_9, st44_10, st44_11, st44_12, st44_13, st44_14, st44_15, st44_16, st44_17, st44_18, st44_19, st44_20, st44_21, st44_22, st44_23, st44_24] := rfl
/-! ### nests -/
def ynm (k : Nat) : Str := { cps := { toList := [121] } } ++ num k
def T.nest : Nat → T
  | 0 => .nm { cps := { toList := [120] } }
  | k + 1 => .bd (ynm k) (nest k)
theorem ynm_ok : ∀ k : Nat, k < 62 → isN (ynm k) = true ∧ (ynm k).length ≤ 8 := by decide +kernel
theorem ynm_inj : ∀ i : Nat, i < 62 → ∀ j : Nat, j < 62 → ynm i = ynm j → i = j := by decide +kernel
theorem ynm_x : ∀ i : Nat, i < 62 → ynm i ≠ { cps := { toList := [120] } } := by decide +kernel
theorem T.nest_sz : ∀ k, (nest k).sz = k
  | 0 => rfl
  | k + 1 => by simp [nest, sz, nest_sz k]
theorem T.nest_bs {y : Str} : ∀ {k}, y ∈ (nest k).bs → ∃ j < k, y = ynm j
  | 0, h => by cases h
  | k + 1, h => by
    rcases List.mem_cons.mp h with rfl | h
    · exact ⟨k, by omega, rfl⟩
    · obtain ⟨j, h1, h2⟩ := nest_bs h
      exact ⟨j, by omega, h2⟩
theorem T.nest_ok : ∀ k, k < 62 → (nest k).ok ∧ (∀ x ∈ (nest k).nms, isN x = true) ∧ (nest k).short
  | 0, _ => ⟨trivial, fun x hx => by rw [List.mem_singleton.mp hx]; decide +kernel, by show Str.length _ ≤ 100; decide⟩
  | k + 1, h => by
    obtain ⟨h1, h2, h3⟩ := nest_ok k (by omega)
    obtain ⟨y1, y2⟩ := ynm_ok k (by omega)
    refine ⟨⟨h1, fun q => ?_⟩, fun x hx => ?_, by omega, h3⟩
    · obtain ⟨j, j1, j2⟩ := nest_bs q
      have := ynm_inj k (by omega) j (by omega) j2
      omega
    · rcases List.mem_cons.mp hx with rfl | hx
      · exact y1
      · exact h2 x hx
def foB43 : List Mini.S := match B43 with
  | [_, .forS _ _ _ b, _] => b
  | _ => []
theorem f43 (X : Mi) {w : W} {z : A} {M : List O} : ∀ (n k : Nat) (a : A), k + n ≤ 62 → ∃ a', forR (.one 2) (X.exs w foB43) (nd (List.range' k n)) [z, .d (T.nest k).d, a] M = .nx [z, .d (T.nest (k + n)).d, a'] M
  | 0, k, a, _ => ⟨a, rfl⟩
  | n + 1, k, a, h => by
    obtain ⟨a', ih⟩ := f43 X (w := w) (z := z) (M := M) n (k + 1) (.d (.int (k : Nat))) (by omega)
    refine ⟨a', ?_⟩
    have en : nd (List.range' k (n + 1)) = D.int (k : Nat) :: nd (List.range' (k + 1) n) := rfl
    have l1 : okNum (k : Int) = true := okNum_of (by omega)
    have l2 : Str.length { cps := { toList := [121] } } + (num (k : Int)).length ≤ sizeLine := le_line (by have := num_len k (by omega); show 1 + _ ≤ _; omega)
    simp only [en, forR_cons, set_one, List.set_cons_succ, List.set_cons_zero]
    have e1 : X.exs w foB43 [z, .d (T.nest k).d, .d (.int (k : Nat))] M = .nx [z, .d (T.nest (k + 1)).d, .d (.int (k : Nat))] M := by
      simp [foB43, B43, l1, l2, T.nest, ynm]
    rw [e1]
    simp only
    rw [ih, show k + 1 + n = k + (n + 1) from by omega]
theorem g43 (X : Mi) {w : W} {n : Nat} (h : n ≤ 62) : X.go F43 w [.d (.int (n : Nat))] [] = .ok (.d (T.nest n).d) [] := by
  obtain ⟨a', e⟩ := f43 X (w := w) (z := .d (.int (n : Nat))) (M := []) n 0 .un (by omega)
  have hi : inR (n : Int) = true := inR_nat (by omega)
  rw [← List.range_eq_range', Nat.zero_add] at e
  simp only [foB43, B43] at e
  rw [show (T.nest 0).d = D.tup [.str sName, .str { cps := { toList := [120] } }] from rfl] at e
  simp [Mi.go, F43, B43, hi, e]
theorem p43 {n m : Nat} {M : List O} (h : m ≤ 62) : pcall (prg.run (n + 1) 43) [.d (.int (m : Nat))] M = .ok (.d (T.nest m).d) M := Ret.tmd (ds := [.int (m : Nat)]) (Ret.ok_tm (M2 := []) (by rw [prg.run_eq n 43 F43 rfl]; exact g43 mi h))
theorem g14x (X : Mi) {w : W} {t : T} (hz : 60 < t.sz) (h4 : ∀ M, pcall (w.run 4) [.d t.d] M = .ok (.d (.int t.sz)) M) : X.go F14 w [.d t.d] [] = .ex ⟨sLarge, []⟩ [] := by
  have hz2 : (60 : Int) < t.sz := by omega
  simp [Mi.go, F14, B14, h4, hz2]
theorem g38x (X : Mi) {w : W} {t : T} (hs : w.sub sLarge sLarge = true) (h14 : ∀ M, pcall (w.run 14) [.d t.d] M = .ex ⟨sLarge, []⟩ M) : X.go F38 w [.d t.d] [] = .ok (.d (.tup [.str { cps := { toList := [108, 97, 114, 103, 101] } }, .str { cps := { toList := [] } }])) [] := by
  simp [Mi.go, F38, B38, h14, clsR, hs, xev, xevs]
theorem p38x {n : Nat} {t : T} {M : List O} (hz : 60 < t.sz) (hz2 : t.sz ≤ 90) : pcall (prg.run (n + 5) 38) [.d t.d] M = .ok (.d (.tup [.str { cps := { toList := [108, 97, 114, 103, 101] } }, .str { cps := { toList := [] } }])) M := by
  have h1 : Exc (prg.run (n + 4) 14) [t.d] ⟨sLarge, []⟩ := ⟨[], by
    rw [prg.run_eq (n + 3) 14 F14 rfl]
    exact g14x mi hz (p4 (n := n) hz2)⟩
  have h : Ret (prg.run (n + 5) 38) [t.d] (.tup [.str { cps := { toList := [108, 97, 114, 103, 101] } }, .str { cps := { toList := [] } }]) := ⟨[], by
    rw [prg.run_eq (n + 4) 38 F38 rfl]
    exact g38x mi (by show prg.sub sLarge sLarge = true; decide +kernel) fun M => h1.call (by simp)⟩
  rw [h.tup (by simp) (by simp)]
  simp
/-- a store but for two cells -/
theorem set2 {M M' : List O} {i j : Nat} {a b : O} (hij : i ≠ j) (hl : M'.length = M.length) (h1 : M'[i]? = some a) (h2 : M'[j]? = some b) (h : ∀ k, k ≠ i → k ≠ j → M'[k]? = M[k]?) : M' = (M.set i a).set j b := by
  apply List.ext_getElem?
  intro k
  have hi := (List.getElem?_eq_some_iff.mp h1).1
  have hj := (List.getElem?_eq_some_iff.mp h2).1
  by_cases e2 : j = k
  · subst e2
    rw [h2, List.getElem?_set_self (by simp; omega)]
  · rw [List.getElem?_set_ne e2]
    by_cases e1 : i = k
    · subst e1
      rw [h1, List.getElem?_set_self (by omega)]
    · rw [List.getElem?_set_ne e1, h k (Ne.symm e1) (Ne.symm e2)]
end K90

set_option Elab.async false
set_option linter.all false
set_option maxRecDepth 100000
set_option maxHeartbeats 4000000
/-! k90: what given_names gives for the law's names. -/
namespace K90
open PySem PySem.Spec L2 Mini Mq
theorem nmE_app : ∀ (ys pre zs : List Str), (∀ y ∈ ys, isN y = true) → (pre ++ ys).Nodup → nmE pre (ys ++ zs) = nmE (pre ++ ys) zs
  | [], pre, zs, _, _ => by simp
  | y :: r, pre, zs, hv, hn => by
    have h1 := hv y (List.mem_cons_self ..)
    have h2 : y ∉ pre := fun q => by
      rw [List.nodup_append] at hn
      exact hn.2.2 y q y (List.mem_cons_self ..) rfl
    rw [List.cons_append, nmE, if_pos h1, if_neg h2, nmE_app r (pre ++ [y]) zs (fun z hz => hv z (List.mem_cons_of_mem _ hz)) (by simpa using hn)]
    simp
theorem nmE_none {ys : List Str} (hv : ∀ y ∈ ys, isN y = true) (hn : ys.Nodup) : nmE [] ys = none := by
  have := nmE_app ys [] [] hv (by simpa using hn)
  rw [List.append_nil, List.nil_append] at this
  rw [this]
  rfl
theorem T.fr_nodup : ∀ {t : T}, t.ok → t.fr.Nodup
  | .nm x, _ => by simp [fr]
  | .bd x t, h => (fr_nodup h.1).filter _
  | .ap l r, h => by
    rw [fr, List.nodup_append]
    exact ⟨fr_nodup h.1, fr_nodup h.2.1, fun a ha b hb e => h.2.2 a (us_nms (fr_us ha)) (by rw [e]; exact us_nms (fr_us hb))⟩
theorem any_bd {t : T} {xs : List Str} : t.parts.any (bdIn xs) = true ↔ ∃ x ∈ t.bs, x ∈ xs := by
  rw [List.any_eq_true]
  constructor
  · rintro ⟨s, hs, h⟩
    rcases s with y | ⟨y, b⟩ | ⟨l, r⟩
    · cases h
    · refine ⟨y, ?_, by simpa [bdIn] using h⟩
      rw [← T.binds_eq]
      exact List.mem_map.mpr ⟨_, List.mem_filter.mpr ⟨hs, rfl⟩, rfl⟩
    · cases h
  · rintro ⟨x, hx, h⟩
    rw [← T.binds_eq] at hx
    obtain ⟨s, hs, rfl⟩ := List.mem_map.mp hx
    obtain ⟨h1, h2⟩ := List.mem_filter.mp hs
    rcases s with y | ⟨y, b⟩ | ⟨l, r⟩
    · cases h2
    · exact ⟨_, h1, by simpa [bdIn, T.name] using h⟩
    · cases h2
/-- the given names -/
structure Gn (e : T) (ys : List Str) : Prop where
  ok : e.ok
  v : ∀ y ∈ ys, isN y = true
  vb : ∀ y ∈ e.nms, isN y = true
  nd : ys.Nodup
  per : ys.Perm (e.fr ++ [fr1])
  f1 : fr1 ∉ e.nms
theorem Gn.mem {e : T} {ys : List Str} (h : Gn e ys) {y : Str} : y ∈ ys ↔ y ∈ e.fr ∨ y = fr1 := by
  rw [h.per.mem_iff, List.mem_append, List.mem_singleton]
theorem Gn.bs {e : T} {ys : List Str} (h : Gn e ys) {y : Str} (hy : y ∈ e.bs) : y ∉ ys := fun q => by
  rcases h.mem.mp q with q | q
  · exact T.fr_bs h.ok q hy
  · subst q
    exact h.f1 (T.bs_nms hy)
theorem Gn.all {e : T} {ys zs : List Str} (h : Gn e ys) : (e.frees.all fun y => decide (y ∈ ys ++ zs)) = true := by
  rw [T.frees_eq h.ok, List.all_eq_true]
  intro y hy
  simp [h.mem, hy]
theorem Gn.gvE {e : T} {ys : List Str} (h : Gn e ys) : gvE e ys = none := by
  unfold K90.gvE
  rw [nmE_none h.v h.nd]
  simp only
  have := h.all (zs := [])
  rw [List.append_nil] at this
  rw [if_pos this, if_neg]
  rw [any_bd]
  rintro ⟨x, hx, q⟩
  exact h.bs hx q
theorem Gn.d1 {e : T} {ys : List Str} (h : Gn e ys) : gvD e ys = .tup [.str tNames, .lst (sd ys)] := by
  unfold gvD
  rw [nmE_none h.v h.nd]
  simp only
  rw [h.gvE]
theorem Gn.d2 {e : T} {ys : List Str} (h : Gn e ys) (y : Str) : gvD e (ys ++ [sBadN, y]) = .tup [.str tBad, .str sBadN] := by
  unfold gvD
  have : nmE [] (ys ++ [sBadN, y]) = some (.bad sBadN) := by
    rw [nmE_app ys [] _ h.v (by simpa using h.nd), nmE, if_neg (by decide)]
  rw [this]
theorem Gn.d3 {e : T} {ys : List Str} (h : Gn e ys) {y : Str} (hy : y ∈ ys) (z : Str) : gvD e (ys ++ [y, z]) = .tup [.str tRep, .str y] := by
  unfold gvD
  have : nmE [] (ys ++ [y, z]) = some (.rep y) := by
    rw [nmE_app ys [] _ h.v (by simpa using h.nd), nmE, if_pos (h.v y hy), List.nil_append, if_pos hy]
  rw [this]
theorem fr1_ok : isN fr1 = true := by decide +kernel
theorem Gn.d4 {e : T} {ys : List Str} (h : Gn e ys) (hf : e.fr ≠ []) : gvD e [fr1] = .tup [.str tOther, .lst []] := by
  have h0 : nmE [] [fr1] = none := nmE_none (fun y hy => by rw [List.mem_singleton.mp hy]; exact fr1_ok) (by simp)
  have h1 : K90.gvE e [fr1] = some ⟨sBN, []⟩ := by
    unfold K90.gvE
    rw [h0]
    simp only
    rw [if_neg]
    intro q
    rw [T.frees_eq h.ok, List.all_eq_true] at q
    cases hc : e.fr with
    | nil => exact hf hc
    | cons y r =>
      have hy : y ∈ e.fr := by rw [hc]; exact List.mem_cons_self ..
      have := q y hy
      simp at this
      exact h.f1 (by rw [← this]; exact T.us_nms (T.fr_us hy))
  unfold gvD
  rw [h0]
  simp only
  rw [h1]
theorem Gn.d5 {e : T} {ys : List Str} (h : Gn e ys) {b : Str} (hb : b ∈ e.bs) : gvD e (ys ++ [b]) = .tup [.str tOther, .lst []] := by
  have h0 : nmE [] (ys ++ [b]) = none := nmE_none (fun y hy => by
    rcases List.mem_append.mp hy with hy | hy
    · exact h.v y hy
    · rw [List.mem_singleton.mp hy]; exact h.vb b (T.bs_nms hb)) (by
    rw [List.nodup_append]
    exact ⟨h.nd, by simp, fun a ha c hc e => h.bs hb (by rw [List.mem_singleton.mp hc] at e; rw [← e]; exact ha)⟩)
  have h1 : K90.gvE e (ys ++ [b]) = some ⟨sBN, []⟩ := by
    unfold K90.gvE
    rw [h0]
    simp only
    rw [if_pos h.all, if_pos (any_bd.mpr ⟨b, hb, by simp⟩)]
  unfold gvD
  rw [h0]
  simp only
  rw [h1]
theorem Gn.of {s u : Nat} {e : T} {ys : List Str} (hs : s < 5) (hu : u < 40) (he : Ent s u e) (hp : ys.Perm (e.fr ++ [fr1])) : Gn e ys := by
  have f1 : fr1 ∉ e.nms := fun q => by
    obtain ⟨j, h1, h2⟩ := he.nm _ q
    exact (lnm_ok j (by omega) s hs).2.2.2 h2.symm
  have hv := he.isN hs hu
  refine ⟨he.ok, fun y hy => ?_, hv, ?_, hp, f1⟩
  · rw [hp.mem_iff, List.mem_append, List.mem_singleton] at hy
    rcases hy with hy | rfl
    · exact hv y (T.us_nms (T.fr_us hy))
    · exact fr1_ok
  · rw [hp.nodup_iff, List.nodup_append]
    exact ⟨T.fr_nodup he.ok, by simp, fun a ha b hb q => f1 (by rw [List.mem_singleton.mp hb] at q; rw [← q]; exact T.us_nms (T.fr_us ha))⟩
theorem T.short_of : ∀ {t : T}, (∀ x ∈ t.nms, x.length ≤ 100) → t.short
  | .nm x, h => h x (List.mem_cons_self ..)
  | .bd x t, h => ⟨h x (List.mem_cons_self ..), short_of fun y hy => h y (List.mem_cons_of_mem _ hy)⟩
  | .ap l r, h => ⟨short_of fun y hy => h y (List.mem_append_left _ hy), short_of fun y hy => h y (List.mem_append_right _ hy)⟩
theorem isN_len {x : Str} (h : isN x = true) : x.length ≤ 8 := by
  rw [str_len]
  unfold isN at h
  cases e : x.cps.toList with
  | nil => simp
  | cons c r =>
    rw [e] at h
    simp at h
    simp
    omega
theorem thrown_lin {t : T} (ho : t.ok) (h : t.thrown = []) : t.lin := T.lin_of ho fun x hx => by
  rw [← T.binds_eq] at hx
  obtain ⟨s, hs, rfl⟩ := List.mem_map.mp hx
  obtain ⟨h1, h2⟩ := List.mem_filter.mp hs
  rcases s with y | ⟨y, b⟩ | ⟨l, r⟩
  · cases h2
  · rw [← T.uses_eq]
    by_cases q : y ∈ t.uses
    · exact q
    · have : y ∈ t.thrown := List.mem_map.mpr ⟨.bd y b, List.mem_filter.mpr ⟨h1, by simp [T.thP, q]⟩, rfl⟩
      rw [h] at this
      cases this
  · cases h2
theorem thrown_sd (t : T) : List.map (fun s : T => D.str s.name) (t.parts.filter t.thP) = sd t.thrown := by
  unfold sd T.thrown
  rw [List.map_map]
  rfl
theorem thrown_nm {t : T} {x : Str} (h : x ∈ t.thrown) : x ∈ t.nms := by
  obtain ⟨s, hs, rfl⟩ := List.mem_map.mp h
  obtain ⟨h1, h2⟩ := List.mem_filter.mp hs
  rcases s with y | ⟨y, b⟩ | ⟨l, r⟩
  · cases h2
  · apply T.bs_nms
    rw [← T.binds_eq]
    exact List.mem_map.mpr ⟨_, List.mem_filter.mpr ⟨h1, rfl⟩, rfl⟩
  · cases h2
theorem T.parts_nms {x : Str} : ∀ {t : T} {s : T}, s ∈ t.parts → s.isBd = true → s.name = x → x ∈ t.bs := fun {t s} h1 h2 h3 => by
  rw [← T.binds_eq]
  exact List.mem_map.mpr ⟨s, List.mem_filter.mpr ⟨h1, h2⟩, h3⟩
theorem nrm_eq {t : T} (ho : t.ok) (hz : t.sz ≤ 30) : T.nrm 200 t 0 = T.nrm (t.sz + 1) t 0 ∧ (T.nrm 200 t 0).1.nf ∧ T.Star t (T.nrm 200 t 0).1 := by
  have h1 := T.nrm_more (t.sz + 1) t 0 (199 - t.sz) ho (by omega)
  rw [show t.sz + 1 + (199 - t.sz) = 200 from by omega] at h1
  refine ⟨h1.1.symm, ?_, T.nrm_star _ _ _⟩
  rw [← h1.1]
  exact T.nf_spots.mpr h1.2
theorem star_ok {t u : T} (h : T.Star t u) : t.ok → u.ok ∧ u.sz ≤ t.sz := by
  induction h with
  | refl => exact fun h => ⟨h, Nat.le_refl _⟩
  | head s _ ih =>
    intro h
    obtain ⟨h1, _, _, h4⟩ := T.step_ok s h
    obtain ⟨i1, i2⟩ := ih h1
    exact ⟨i1, by omega⟩
end K90

set_option Elab.async false
set_option linter.all false
set_option maxRecDepth 100000
set_option maxHeartbeats 4000000
/-! k90: the law. -/
namespace K90
open PySem PySem.Spec L2 Mini Mq
def cl (ns : List Int) (k : Nat) : Int := ns[k]?.getD 0
/-- what the law leans on: the drawn things and what the defs give -/
structure Lw (w : W) (ns : List Int) (m s : Nat) (d1 d2 d3 d5 : List Nat) (e u1 : T) (ys : List Str) : Prop where
  gn : Gn e ys
  sz : e.sz ≤ 30
  sh : e.short
  h21 : ∀ (k : Nat) M, pcall (w.run 21) [.d (.rol (idt ns)), .d (.int (k : Nat))] M = .ok (.d (.int (cl ns k))) M
  h34 : ∀ M, pcall (w.run 34) [.d (.int (cl ns 0)), .d (.int 14), .d (.int 30)] M = .ok (.d (.int (m : Nat))) M
  c1 : ∀ M, pcall (w.run 23) [.d (.int (cl ns 1)), .d (.int (m : Nat)), .d (.int 3)] M = .ok (.cell M.length) (M ++ [.lst (ad (nd d1))])
  c3 : ∀ M, pcall (w.run 23) [.d (.int (cl ns 3)), .d (.int 40), .d (.int 5)] M = .ok (.cell M.length) (M ++ [.lst (ad (nd d2))])
  c4 : ∀ M, pcall (w.run 23) [.d (.int (cl ns 4)), .d (.int 40), .d (.int 7)] M = .ok (.cell M.length) (M ++ [.lst (ad (nd d3))])
  c5 : ∀ M, pcall (w.run 23) [.d (.int (cl ns 5)), .d (.int 40), .d (.int 11)] M = .ok (.cell M.length) (M ++ [.lst (ad (nd d5))])
  hs : cl ns 2 % 5 = (s : Nat)
  h35 : Ret (w.run 35) [.lst (nd d1), .int (s : Nat)] (pd e)
  h29 : P29 w e
  h38 : ∀ (s : T) M, s.sz ≤ 60 → s.short → pcall (w.run 38) [.d s.d] M = .ok (.d (told s)) M
  h38x : ∀ (s : T) M, 60 < s.sz → s.sz ≤ 90 → pcall (w.run 38) [.d s.d] M = .ok (.d (.tup [.str { cps := { toList := [108, 97, 114, 103, 101] } }, .str { cps := { toList := [] } }])) M
  h28 : ∀ M, pcall (w.run 28) [.d e.d] M = .ok (.d (.int e.sz)) M
  h15 : ∀ M, pcall (w.run 15) [.d e.d] M = .ok (.cell M.length) (M ++ [.lst (ad (sd e.thrown))])
  h24 : ∀ (d : D), Pl 40 d → Ret (w.run 24) [d, d] (.bl true)
  h41a : Ret (w.run 41) [e.d, .lst (nd d2)] u1.d
  h41b : Ret (w.run 41) [e.d, .lst (nd d3)] u1.d
  uu : u1 = (T.nrm 200 e 0).1
  h20 : ∀ M, pcall (w.run 20) [.d e.d] M = .ok (.d (.tup [u1.d, .int ((T.nrm 200 e 0).2 : Nat)])) M
  h33 : ∀ M, pcall (w.run 33) [.d e.d] M = .ok (.d (.tup [u1.d, .int ((T.nrm 200 e 0).2 : Nat)])) M
  h12 : e.thrown = [] → ∀ M, pcall (w.run 12) [.d e.d] M = .ok (.d (.tup [u1.d, .int ((T.nrm 200 e 0).2 : Nat)])) M
  h27 : Ret (w.run 27) [.lst (sd (e.fr ++ [fr1])), .lst (nd d5)] (.lst (sd ys))
  h40 : ∀ (d : D) (xs : List Str), Sq d xs → (∀ y ∈ xs, y.length ≤ 100) → Ret (w.run 40) [e.d, d] (gvD e xs)
  h40n : Ret (w.run 40) [e.d, .non] (.tup [.str tNames, .lst (sd e.fr)])
  h17 : Ret (w.run 17) [e.d, .lst (sd ys)] (e.can ys).d
  h30 : Cn (w.run 30) ys e
  h43 : ∀ (k : Nat) M, k ≤ 62 → pcall (w.run 43) [.d (.int (k : Nat))] M = .ok (.d (T.nest k).d) M
  h42 : ∀ (k : Nat) M, pcall (w.run 42) [.d e.d, .d (.int (k : Nat))] M = .ok (.d (.bl true)) M
section
variable (X : Mi) {w : W} {ns : List Int} {m s : Nat} {d1 d2 d3 d5 : List Nat} {e u1 : T} {ys : List Str}
abbrev scr (ns : List Int) : A := .d (.rol (idt ns))
theorem Lw.s24 (h : Lw w ns m s d1 d2 d3 d5 e u1 ys) {d : D} (hd : Pl 40 d) (as : List A) (M : List O) (h1 : denL (den 8 M) as = some [d, d]) : pcall (w.run 24) as M = .ok (.d (.bl true)) M := (h.h24 d hd).sc rfl h1
theorem s0 (h : Lw w ns m s d1 d2 d3 d5 e u1 ys) : X.exS w st44_0 [scr ns, .un, .un, .un, .un, .un, .un, .un, .un, .un, .un, .un, .un, .un] [] = .nx [scr ns, .d (.int (m : Nat)), .un, .un, .un, .un, .un, .un, .un, .un, .un, .un, .un, .un] [] := by
  have q := fun M => h.h21 0 M
  simp at q
  simp [st44_0, q, h.h34]
theorem s1 (h : Lw w ns m s d1 d2 d3 d5 e u1 ys) : X.exS w st44_1 [scr ns, .d (.int (m : Nat)), .un, .un, .un, .un, .un, .un, .un, .un, .un, .un, .un, .un] [] = .nx [scr ns, .d (.int (m : Nat)), .d (pd e), .un, .un, .un, .un, .un, .un, .un, .un, .un, .un, .un] [.frz (.lst (nd d1))] := by
  have q := fun M => h.h21 1 M
  have q2 := fun M => h.h21 2 M
  have q3 := fun (as : List A) M h1 h2 => h.h35.tup (as := as) (M := M) h1 h2
  simp at q q2
  simp [st44_1, q, q2, h.c1, h.hs]
  rw [q3 _ _ (by simp) (by simp)]
  simp [pd]
theorem s2 : X.exS w st44_2 [scr ns, .d (.int (m : Nat)), .d (pd e), .un, .un, .un, .un, .un, .un, .un, .un, .un, .un, .un] [.frz (.lst (nd d1))] = .nx [scr ns, .d (.int (m : Nat)), .d (pd e), .d e.d, .un, .un, .un, .un, .un, .un, .un, .un, .un, .un] [.frz (.lst (nd d1))] := by
  simp [st44_2, pd]
theorem s3 (h : Lw w ns m s d1 d2 d3 d5 e u1 ys) : X.exS w st44_3 [scr ns, .d (.int (m : Nat)), .d (pd e), .d e.d, .un, .un, .un, .un, .un, .un, .un, .un, .un, .un] [.frz (.lst (nd d1))] = .nx [scr ns, .d (.int (m : Nat)), .d (pd e), .d e.d, .cell 1, .un, .un, .un, .un, .un, .un, .un, .un, .un] [.frz (.lst (nd d1)), .lst (ad (td e.parts))] := by
  simp [st44_3, h.h29 _]
theorem s4 (h : Lw w ns m s d1 d2 d3 d5 e u1 ys) : X.exS w st44_4 [scr ns, .d (.int (m : Nat)), .d (pd e), .d e.d, .cell 1, .un, .un, .un, .un, .un, .un, .un, .un, .un] [.frz (.lst (nd d1)), .lst (ad (td e.parts))] = .nx [scr ns, .d (.int (m : Nat)), .d (pd e), .d e.d, .cell 1, .cell 2, .un, .un, .un, .un, .un, .un, .un, .un] [.frz (.lst (nd d1)), .frz (.lst (td e.parts)), .lst (ad (sd e.us))] := by
  have hz := h.sz
  have c1 := compU X (w := w) (t := e) (δ := [scr ns, .d (.int (m : Nat)), .d (pd e), .d e.d, .cell 1, .un, .un, .un, .un, .un, .un, .un, .un, .un]) (M := [.frz (.lst (nd d1)), .lst (ad (td e.parts))]) (M1 := [.frz (.lst (nd d1)), .lst (ad (td e.parts))]) (M2 := [.frz (.lst (nd d1)), .frz (.lst (td e.parts))]) (as := [.cell 1]) (its := X.evs w [Mini.E.var 4]) (by omega) (by simp) (by simp) (v := 13) (by simp)
  simp only [st44_4, Mi.exS_asg, Mi.ev_comp]
  rw [c1]
  simp
theorem s5 (h : Lw w ns m s d1 d2 d3 d5 e u1 ys) : X.exS w st44_5 [scr ns, .d (.int (m : Nat)), .d (pd e), .d e.d, .cell 1, .cell 2, .un, .un, .un, .un, .un, .un, .un, .un] [.frz (.lst (nd d1)), .frz (.lst (td e.parts)), .lst (ad (sd e.us))] = .nx [scr ns, .d (.int (m : Nat)), .d (pd e), .d e.d, .cell 1, .cell 2, .cell 3, .un, .un, .un, .un, .un, .un, .un] [.frz (.lst (nd d1)), .frz (.lst (td e.parts)), .lst (ad (sd e.us)), .lst (ad (sd e.thrown))] := by
  have hz := h.sz
  simp only [st44_5, Mi.exS_asg, Mi.ev_comp]
  rw [compR_of (M1 := [.frz (.lst (nd d1)), .frz (.lst (td e.parts)), .lst (ad (sd e.us))]) (as := [.cell 1]) (M2 := [.frz (.lst (nd d1)), .frz (.lst (td e.parts)), .lst (ad (sd e.us))]) (xs := e.parts) T.d e.thP (fun s => .str s.name) ?_ ?_ ?_ (sz_line (by omega)), thrown_sd]
  · simp
  · simp
  · simp [td]
  · intro s _ acc
    refine ⟨_, rfl, ?_, ?_⟩
    · rcases s with y | ⟨y, b⟩ | ⟨l, r⟩
      · simp [T.thP]
      · simp [T.thP, ← T.uses_eq]
      · simp [T.thP]
    · intro hs
      rcases s with y | ⟨y, b⟩ | ⟨l, r⟩
      · cases hs
      · simp [T.name]
      · cases hs
theorem s6 (h : Lw w ns m s d1 d2 d3 d5 e u1 ys) : X.exS w st44_6 [scr ns, .d (.int (m : Nat)), .d (pd e), .d e.d, .cell 1, .cell 2, .cell 3, .un, .un, .un, .un, .un, .un, .un] [.frz (.lst (nd d1)), .frz (.lst (td e.parts)), .lst (ad (sd e.us)), .lst (ad (sd e.thrown))] = .nx [scr ns, .d (.int (m : Nat)), .d (pd e), .d e.d, .cell 1, .cell 2, .cell 3, .un, .un, .un, .un, .un, .un, .un] [.frz (.lst (nd d1)), .frz (.lst (td e.parts)), .lst (ad (sd e.us)), .lst (ad (sd e.thrown)), .lst (ad (sd e.thrown))] := by
  have hz := h.sz
  have q1 := fun M => h.h38 e M (by omega) h.sh
  rw [told_va ⟨h.gn.ok, h.gn.vb⟩] at q1
  have q2 := fun M => h.s24 (d := .tup [.str tSize, .int e.sz]) (Pl.pair (n := 39) (.str _) (.int _)) [.d (.tup [.str tSize, .int e.sz]), .d (.tup [.str tSize, .int e.sz])] M (by simp)
  have hl : e.thrown.length ≤ 1000 := by
    have h1 : e.thrown.length ≤ e.parts.length := by
      unfold T.thrown
      rw [List.length_map]
      exact List.length_filter_le _ _
    have := e.parts_len
    omega
  have q3 := fun as M h1 => h.s24 (d := .lst (sd e.thrown)) (Pl.sd (n := 39) hl) as M h1
  simp [st44_6, q1, h.h28, q2, h.h15, q3]
end
end K90

set_option Elab.async false
set_option linter.all false
set_option maxRecDepth 100000
set_option maxHeartbeats 4000000
/-! k90: the law, its second half. -/
namespace Mq
open PySem PySem.Spec L2 Mini
@[simp] theorem bi_tuple_cell {n : Nat} {M : List O} : bi .tuple [.cell n] M = match lsv M (.cell n) with
    | some xs => (match frzL (frz 8) M xs with
      | some (ds, M1) => .ok (.d (.tup ds)) M1
      | none => .no)
    | none => .no := by
  show (match lsv M (.cell n) with
      | some xs => (match frzL (frz 8) M xs with
        | some (ds, M1) => Mini.R.ok (A.d (.tup ds)) M1
        | none => .no)
      | none => .no) = _
  rfl
@[simp] theorem mkL_cd {n : Nat} {x : D} {M : List O} : mkL M [.cell n, .d x] = .ok (.cell M.length) (M ++ [.lst [.cell n, .d x]]) := rfl
@[simp] theorem frz7 {n : Nat} {M : List O} : frz 7 M (.cell n) = match M[n]? with
    | some (.frz x) => some (x, M)
    | some (.lst xs) => (match frzL (frz 6) M xs with
      | some (ds, M1) => (match M1[n]? with
        | some (.lst _) => some (.lst ds, M1.set n (.frz (.lst ds)))
        | _ => none)
      | none => none)
    | _ => none := rfl
end Mq
namespace K90
open PySem PySem.Spec L2 Mini Mq
section
variable (X : Mi) {w : W} {ns : List Int} {m s : Nat} {d1 d2 d3 d5 : List Nat} {e u1 : T} {ys : List Str}
def M6 (d1 : List Nat) (e : T) : List O := [.frz (.lst (nd d1)), .frz (.lst (td e.parts)), .lst (ad (sd e.us)), .lst (ad (sd e.thrown)), .lst (ad (sd e.thrown))]
theorem Lw.cells (h : Lw w ns m s d1 d2 d3 d5 e u1 ys) : (∀ M, pcall (w.run 21) [scr ns, .d (.int 3)] M = .ok (.d (.int (cl ns 3))) M) ∧ (∀ M, pcall (w.run 21) [scr ns, .d (.int 4)] M = .ok (.d (.int (cl ns 4))) M) ∧ (∀ M, pcall (w.run 21) [scr ns, .d (.int 5)] M = .ok (.d (.int (cl ns 5))) M) ∧ (∀ M, pcall (w.run 21) [scr ns, .d (.int 6)] M = .ok (.d (.int (cl ns 6))) M) := ⟨h.h21 3, h.h21 4, h.h21 5, h.h21 6⟩
theorem s7 (h : Lw w ns m s d1 d2 d3 d5 e u1 ys) : X.exS w st44_7 [scr ns, .d (.int (m : Nat)), .d (pd e), .d e.d, .cell 1, .cell 2, .cell 3, .un, .un, .un, .un, .un, .un, .un] (M6 d1 e) = .nx [scr ns, .d (.int (m : Nat)), .d (pd e), .d e.d, .cell 1, .cell 2, .cell 3, .d u1.d, .un, .un, .un, .un, .un, .un] (M6 d1 e ++ [.frz (.lst (nd d2))]) := by
  obtain ⟨q3, q4, q5, q6⟩ := h.cells
  have q := fun (as : List A) M h1 h2 => Ret.tm (as := as) (M := M) h.h41a h1 h2
  simp [st44_7, q3, h.c3]
  rw [q _ _ (by simp) (by simp)]
  simp
theorem s8 (h : Lw w ns m s d1 d2 d3 d5 e u1 ys) : X.exS w st44_8 [scr ns, .d (.int (m : Nat)), .d (pd e), .d e.d, .cell 1, .cell 2, .cell 3, .d u1.d, .un, .un, .un, .un, .un, .un] (M6 d1 e ++ [.frz (.lst (nd d2))]) = .nx [scr ns, .d (.int (m : Nat)), .d (pd e), .d e.d, .cell 1, .cell 2, .cell 3, .d u1.d, .d u1.d, .un, .un, .un, .un, .un] (M6 d1 e ++ [.frz (.lst (nd d2)), .frz (.lst (nd d3))]) := by
  obtain ⟨q3, q4, q5, q6⟩ := h.cells
  have q := fun (as : List A) M h1 h2 => Ret.tm (as := as) (M := M) h.h41b h1 h2
  simp [st44_8, q4, h.c4]
  rw [q _ _ (by simp [M6]) (by simp [M6])]
  simp [M6]
theorem u1_pl (h : Lw w ns m s d1 d2 d3 d5 e u1 ys) : Pl 39 u1.d := Pl.tm u1 (by
  have h1 := u1.ht_le_sz
  have h2 := (star_ok (T.nrm_star 200 e 0) h.gn.ok).2
  rw [← h.uu] at h2
  have := h.sz
  omega)
theorem s9 (h : Lw w ns m s d1 d2 d3 d5 e u1 ys) {M : List O} : X.exS w st44_9 [scr ns, .d (.int (m : Nat)), .d (pd e), .d e.d, .cell 1, .cell 2, .cell 3, .d u1.d, .d u1.d, .un, .un, .un, .un, .un] M = .nx [scr ns, .d (.int (m : Nat)), .d (pd e), .d e.d, .cell 1, .cell 2, .cell 3, .d u1.d, .d u1.d, .un, .un, .un, .un, .un] M := by
  have q1 := h.s24 ((u1_pl h).mono (by omega)) [.d u1.d, .d u1.d] M (by simp)
  have q2 : cmpR .isN (.d u1.d) (.d .non) M = .ok (.d (.bl false)) M := by
    obtain ⟨ds, hd⟩ := u1.d_tup
    rw [hd]
    simp
  generalize u1.d = u at *
  simp [st44_9, q1, q2]
theorem s10 (h : Lw w ns m s d1 d2 d3 d5 e u1 ys) {M : List O} : X.exS w st44_10 [scr ns, .d (.int (m : Nat)), .d (pd e), .d e.d, .cell 1, .cell 2, .cell 3, .d u1.d, .d u1.d, .un, .un, .un, .un, .un] M = .nx [scr ns, .d (.int (m : Nat)), .d (pd e), .d e.d, .cell 1, .cell 2, .cell 3, .d u1.d, .d u1.d, .un, .un, .un, .un, .un] M := by
  have q1 := fun M => h.s24 ((u1_pl h).mono (by omega)) [.d u1.d, .d u1.d] M (by simp)
  have q2 := fun M => h.s24 (Pl.pair (n := 39) (u1_pl h) (.int ((T.nrm 200 e 0).2 : Nat))) [.d (.tup [u1.d, .int ((T.nrm 200 e 0).2 : Nat)]), .d (.tup [u1.d, .int ((T.nrm 200 e 0).2 : Nat)])] M (by simp)
  simp [st44_10, h.h20, h.h33, q1, q2]
theorem shaped_thrown (h : Lw w ns m s d1 d2 d3 d5 e u1 ys) : SeqAt.shaped (D.lst (sd e.thrown)).py = true := shaped_sd fun x hx => h.gn.vb x (thrown_nm hx)
theorem s11 (h : Lw w ns m s d1 d2 d3 d5 e u1 ys) : X.exS w st44_11 [scr ns, .d (.int (m : Nat)), .d (pd e), .d e.d, .cell 1, .cell 2, .cell 3, .d u1.d, .d u1.d, .un, .un, .un, .un, .un] (M6 d1 e ++ [.frz (.lst (nd d2)), .frz (.lst (nd d3))]) = .nx [scr ns, .d (.int (m : Nat)), .d (pd e), .d e.d, .cell 1, .cell 2, .cell 3, .d u1.d, .d u1.d, .un, .un, .un, .un, .un] (M6 d1 e ++ [.frz (.lst (nd d2)), .frz (.lst (nd d3)), .lst (ad [])]) := by
  have q2 := fun M => h.s24 (Pl.pair (n := 39) (u1_pl h) (.int ((T.nrm 200 e 0).2 : Nat))) [.d (.tup [u1.d, .int ((T.nrm 200 e 0).2 : Nat)]), .d (.tup [u1.d, .int ((T.nrm 200 e 0).2 : Nat)])] M (by simp)
  have hq : eqA (.cell 3) (.cell 7) (M6 d1 e ++ [.frz (.lst (nd d2)), .frz (.lst (nd d3)), .lst (ad [])]) = some (sd e.thrown).isEmpty := eqA_nil (.inl rfl) rfl (shaped_thrown h)
  simp only [M6] at *
  simp at hq
  by_cases ht : e.thrown = []
  · have q12 := h.h12 ht
    rw [ht] at hq
    rw [ht]
    simp [st44_11, hq, q12, h.h20, q2]
  · have hb : e.thrown.isEmpty = false := by
      cases h2 : e.thrown with
      | nil => exact absurd h2 ht
      | cons a r => rfl
    rw [hb] at hq
    simp [st44_11, hq]
def M12 (d1 d2 d3 d5 : List Nat) (e : T) (ys : List Str) : List O := M6 d1 e ++ [.frz (.lst (nd d2)), .frz (.lst (nd d3)), .lst (ad []), .lst (ad [.str fr1]), .frz (.lst (sd (e.fr ++ [fr1]))), .frz (.lst (nd d5)), .lst (ad (sd ys))]
theorem s12 (h : Lw w ns m s d1 d2 d3 d5 e u1 ys) : X.exS w st44_12 [scr ns, .d (.int (m : Nat)), .d (pd e), .d e.d, .cell 1, .cell 2, .cell 3, .d u1.d, .d u1.d, .un, .un, .un, .un, .un] (M6 d1 e ++ [.frz (.lst (nd d2)), .frz (.lst (nd d3)), .lst (ad [])]) = .nx [scr ns, .d (.int (m : Nat)), .d (pd e), .d e.d, .cell 1, .cell 2, .cell 3, .d u1.d, .d u1.d, .cell 11, .un, .un, .un, .un] (M12 d1 d2 d3 d5 e ys) := by
  obtain ⟨q3, q4, q5, q6⟩ := h.cells
  have q := fun (as : List A) M h1 h2 => h.h27.lst (as := as) (M := M) h1 h2
  have hz := h.sz
  have hl : e.fr.length + 1 ≤ sizeLine := le_line (by have := fr_len e; omega)
  have e1 : sd e.fr ++ [D.str { cps := { toList := [102, 114, 101, 101, 49] } }] = sd (e.fr ++ [fr1]) := by simp [sd, fr1]
  simp only [M6, M12]
  simp [st44_12, pd, q5, h.c5, hl, e1, -sd_app1]
  have e2 : sd (e.fr ++ [{ cps := { toList := [102, 114, 101, 101, 49] } }]) = sd (e.fr ++ [fr1]) := rfl
  try rw [e2]
  rw [q _ _ (by simp) (by simp)]
  simp [fr1]
end
end K90

set_option Elab.async false
set_option linter.all false
set_option maxRecDepth 100000
set_option maxHeartbeats 4000000
/-! k90: the law, its end. -/
namespace K90
open PySem PySem.Spec L2 Mini Mq
section
variable (X : Mi) {w : W} {ns : List Int} {m s : Nat} {d1 d2 d3 d5 : List Nat} {e u1 : T} {ys : List Str}
theorem Lw.len (h : Lw w ns m s d1 d2 d3 d5 e u1 ys) : ys.length ≤ 32 ∧ (∀ y ∈ ys, y.length ≤ 100) := by
  have h1 := h.gn.per.length_eq
  have h2 := fr_len e
  have h3 := h.sz
  simp at h1
  exact ⟨by omega, fun y hy => by have := isN_len (h.gn.v y hy); omega⟩
theorem Lw.pl (h : Lw w ns m s d1 d2 d3 d5 e u1 ys) : Pl 40 (.tup [.str tNames, .lst (sd ys)]) := Pl.pair (n := 39) (.str _) (Pl.sd (n := 38) (by have := h.len; omega))
theorem fl13 (h : Lw w ns m s d1 d2 d3 d5 e u1 ys) {d : D} (hd : Sq d ys) {M : List O} (hM : M[11]? = some (.frz (.lst (sd ys)))) :
    X.exs w [Mini.S.ifS
              (Mini.E.call 24
                  [Mini.E.call 40 [Mini.E.var 3, Mini.E.var 10] [] [],
                    Mini.E.tup
                      [Mini.E.cst (Mini.D.str { cps := { toList := [110, 97, 109, 101, 115] } }), Mini.E.var 9]]
                  [] []).nt
              [Mini.S.ret (Mini.E.cst (Mini.D.bl false))] []] [scr ns, .d (.int (m : Nat)), .d (pd e), .d e.d, .cell 1, .cell 2, .cell 3, .d u1.d, .d u1.d, .cell 11, .d d, .un, .un, .un] M = .nx [scr ns, .d (.int (m : Nat)), .d (pd e), .d e.d, .cell 1, .cell 2, .cell 3, .d u1.d, .d u1.d, .cell 11, .d d, .un, .un, .un] M := by
  have q := h.h40 d ys hd h.len.2
  rw [h.gn.d1] at q
  have q1 : pcall (w.run 40) [.d e.d, .d d] M = .ok (.d (.tup [.str tNames, .lst (sd ys)])) M := by
    rw [q.tup (by simp) (by simp)]
    simp
  have q2 := h.s24 h.pl [.d (.tup [.str tNames, .lst (sd ys)]), .d (.tup [.str tNames, .lst (sd ys)])] M (by simp)
  simp [q1, hM, q2]
def M13 (d1 d2 d3 d5 : List Nat) (e : T) (ys : List Str) : List O := M6 d1 e ++ [.frz (.lst (nd d2)), .frz (.lst (nd d3)), .lst (ad []), .lst (ad [.str fr1]), .frz (.lst (sd (e.fr ++ [fr1]))), .frz (.lst (nd d5)), .frz (.lst (sd ys)), .frz (.lst [.lst (sd ys), .tup (sd ys)])]
theorem s13 (h : Lw w ns m s d1 d2 d3 d5 e u1 ys) : X.exS w st44_13 [scr ns, .d (.int (m : Nat)), .d (pd e), .d e.d, .cell 1, .cell 2, .cell 3, .d u1.d, .d u1.d, .cell 11, .un, .un, .un, .un] (M12 d1 d2 d3 d5 e ys) = .nx [scr ns, .d (.int (m : Nat)), .d (pd e), .d e.d, .cell 1, .cell 2, .cell 3, .d u1.d, .d u1.d, .cell 11, .d (.tup (sd ys)), .un, .un, .un] (M13 d1 d2 d3 d5 e ys) := by
  have e1 : items .seq [.cell 12] (M12 d1 d2 d3 d5 e ys ++ [.lst [.cell 11, .d (.tup (sd ys))]]) = some ([.lst (sd ys), .tup (sd ys)], M13 d1 d2 d3 d5 e ys) := by
    simp [M12, M13, M6]
  have e2 : (X.evs w [Mini.E.lst [Mini.E.var 9, Mini.E.bi Mini.Bi.tuple [Mini.E.var 9]]] [scr ns, .d (.int (m : Nat)), .d (pd e), .d e.d, .cell 1, .cell 2, .cell 3, .d u1.d, .d u1.d, .cell 11, .un, .un, .un, .un] (M12 d1 d2 d3 d5 e ys)) = .ok [.cell 12] (M12 d1 d2 d3 d5 e ys ++ [.lst [.cell 11, .d (.tup (sd ys))]]) := by
    simp [M12, M6]
  unfold st44_13
  rw [Mi.exS_for, e2]
  simp only [R.toS_ok]
  rw [e1]
  simp only [forR_cons, forR_nil, set_one, List.set_cons_succ, List.set_cons_zero]
  rw [fl13 X h (.inl rfl) rfl]
  simp only [List.set_cons_succ, List.set_cons_zero]
  rw [fl13 X h (.inr rfl) rfl]
theorem s14 (h : Lw w ns m s d1 d2 d3 d5 e u1 ys) {M : List O} : X.exS w st44_14 [scr ns, .d (.int (m : Nat)), .d (pd e), .d e.d, .cell 1, .cell 2, .cell 3, .d u1.d, .d u1.d, .cell 11, .d (.tup (sd ys)), .un, .un, .un] M = .nx [scr ns, .d (.int (m : Nat)), .d (pd e), .d e.d, .cell 1, .cell 2, .cell 3, .d u1.d, .d u1.d, .cell 11, .d (.tup (sd ys)), .un, .un, .un] M := by
  have q1 : pcall (w.run 40) [.d e.d, .d .non] M = .ok (.d (.tup [.str tNames, .lst (sd e.fr)])) M := by
    rw [h.h40n.tup (by simp) (by simp)]
    simp
  have q2 := h.s24 (d := .tup [.str tNames, .lst (sd e.fr)]) (Pl.pair (n := 39) (.str _) (Pl.sd (n := 38) (by have := fr_len e; have := h.sz; omega))) [.d (.tup [.str tNames, .lst (sd e.fr)]), .d (.tup [.str tNames, .lst (sd e.fr)])] M (by simp)
  simp [st44_14, q1, pd, q2]
theorem s15 (h : Lw w ns m s d1 d2 d3 d5 e u1 ys) : ∃ M', X.exS w st44_15 [scr ns, .d (.int (m : Nat)), .d (pd e), .d e.d, .cell 1, .cell 2, .cell 3, .d u1.d, .d u1.d, .cell 11, .d (.tup (sd ys)), .un, .un, .un] (M13 d1 d2 d3 d5 e ys) = .nx [scr ns, .d (.int (m : Nat)), .d (pd e), .d e.d, .cell 1, .cell 2, .cell 3, .d u1.d, .d u1.d, .cell 11, .d (.tup (sd ys)), .d (e.can ys).d, .un, .un] M' ∧ M'[1]? = some (.frz (.lst (td e.parts))) ∧ M'[11]? = some (.frz (.lst (sd ys))) := by
  have hbs := bs_sz e
  have hz := h.sz
  have hh := hit_zero ys
  have hl := h.len.1
  obtain ⟨kvs', M', a1, a2, a3, a4, a5, a6, a7, a8, a9⟩ := h.h30 (fun _ => none) [] 0 13 11 14 (M13 d1 d2 d3 d5 e ys ++ [.dct [], .lst (ad [.int 0])]) (by omega) (by omega) (by omega) rfl rfl rfl (fun x => rfl) (by omega) (by simp; omega)
  refine ⟨M', ?_, by rw [a9 1 (by omega) (by omega)]; rfl, by rw [a9 11 (by omega) (by omega)]; rfl⟩
  have e0 : (M13 d1 d2 d3 d5 e ys).length = 13 := rfl
  have e1 : (M13 d1 d2 d3 d5 e ys ++ [O.dct []]).length = 14 := rfl
  generalize M13 d1 d2 d3 d5 e ys = M at *
  simp [st44_15, e0, a1, T.can]
end
/-- what the store keeps -/
structure Kp (e : T) (ys : List Str) (M : List O) : Prop where
  k1 : M[1]? = some (.frz (.lst (td e.parts)))
  k11 : M[11]? = some (.frz (.lst (sd ys)))
theorem Kp.app {e : T} {ys : List Str} {M : List O} (h : Kp e ys M) (Q : List O) : Kp e ys (M ++ Q) := ⟨by rw [List.getElem?_append_left (List.getElem?_eq_some_iff.mp h.k1).1]; exact h.k1, by rw [List.getElem?_append_left (List.getElem?_eq_some_iff.mp h.k11).1]; exact h.k11⟩
section
variable (X : Mi) {w : W} {ns : List Int} {m s : Nat} {d1 d2 d3 d5 : List Nat} {e u1 : T} {ys : List Str} {M : List O} {a12 : A}
theorem s16 (h : Lw w ns m s d1 d2 d3 d5 e u1 ys) (k : Kp e ys M) : X.exS w st44_16 [scr ns, .d (.int (m : Nat)), .d (pd e), .d e.d, .cell 1, .cell 2, .cell 3, .d u1.d, .d u1.d, .cell 11, .d (.tup (sd ys)), .d (e.can ys).d, .un, .un] M = .nx [scr ns, .d (.int (m : Nat)), .d (pd e), .d e.d, .cell 1, .cell 2, .cell 3, .d u1.d, .d u1.d, .cell 11, .d (.tup (sd ys)), .d (e.can ys).d, .un, .un] M := by
  have q1 : pcall (w.run 17) [.d e.d, .cell 11] M = .ok (.d (e.can ys).d) M := by
    rw [Ret.tm h.h17 (by simp [k.k11]) (by simp [k.k11])]
    simp [k.k11]
  have hht : (e.can ys).ht < 40 := by
    have h1 : ∀ (f : Str → Str) (t : T), (t.ren f).ht = t.ht := by
      intro f t
      induction t with
      | nm x => rfl
      | bd x t ih => simp [T.ren, T.ht, ih]
      | ap l r i1 i2 => simp [T.ren, T.ht, i1, i2]
    have h2 := e.ht_le_sz
    have h3 := h.sz
    unfold T.can
    rw [h1]
    omega
  have q2 := h.s24 (Pl.tm (e.can ys) hht) [.d (e.can ys).d, .d (e.can ys).d] M (by simp)
  generalize (e.can ys).d = c at *
  simp [st44_16, q1, q2]
theorem Lw.head (h : Lw w ns m s d1 d2 d3 d5 e u1 ys) : ∃ y r, ys = y :: r := by
  cases hy : ys with
  | nil =>
    have := h.gn.mem.mpr (.inr rfl)
    rw [hy] at this
    cases this
  | cons y r => exact ⟨y, r, rfl⟩
theorem s17 (h : Lw w ns m s d1 d2 d3 d5 e u1 ys) (k : Kp e ys M) {a11 : A} : ∃ Q, X.exS w st44_17 [scr ns, .d (.int (m : Nat)), .d (pd e), .d e.d, .cell 1, .cell 2, .cell 3, .d u1.d, .d u1.d, .cell 11, .d (.tup (sd ys)), a11, .un, .un] M = .nx [scr ns, .d (.int (m : Nat)), .d (pd e), .d e.d, .cell 1, .cell 2, .cell 3, .d u1.d, .d u1.d, .cell 11, .d (.tup (sd ys)), a11, .un, .un] (M ++ Q) := by
  obtain ⟨y, r, hy⟩ := h.head
  have hy0 : (sd ys)[0]? = some (.str y) := by rw [hy]; rfl
  have hym : y ∈ ys := by rw [hy]; exact List.mem_cons_self ..
  have hyl := h.len.2 y hym
  have q := h.h40 (.lst (sd ys ++ [.str sBadN, .str y])) (ys ++ [sBadN, y]) (.inl (by simp [sd])) (fun z hz => by
    rcases List.mem_append.mp hz with hz | hz
    · exact h.len.2 z hz
    · simp at hz
      rcases hz with rfl | rfl
      · show Str.length _ ≤ 100; decide
      · exact hyl)
  rw [h.gn.d2 y] at q
  have hl : ys.length + 2 ≤ sizeLine := le_line (by have := h.len.1; omega)
  have k2 := (k.app [.lst (ad [.str sBadN, .str y])]).k11
  have q1 := fun (as : List A) M h1 h2 => q.tup (as := as) (M := M) h1 h2
  have q2 := fun M => h.s24 (pl_bad sBadN) [.d (.tup [.str tBad, .str sBadN]), .d (.tup [.str tBad, .str sBadN])] M (by simp)
  refine ⟨[.lst (ad [.str sBadN, .str y]), .frz (.lst (sd ys ++ [.str sBadN, .str y]))], ?_⟩
  have k11 := k.k11
  clear k
  generalize hL : sd ys = L at *
  have hLl : L.length = ys.length := by rw [← hL]; simp
  simp [st44_17, k11, hy0, k2, hLl, hl]
  rw [q1 _ _ (by simp) (by simp)]
  simp [q2]
theorem s18 (h : Lw w ns m s d1 d2 d3 d5 e u1 ys) (k : Kp e ys M) {a11 : A} : ∃ Q, X.exS w st44_18 [scr ns, .d (.int (m : Nat)), .d (pd e), .d e.d, .cell 1, .cell 2, .cell 3, .d u1.d, .d u1.d, .cell 11, .d (.tup (sd ys)), a11, .un, .un] M = .nx [scr ns, .d (.int (m : Nat)), .d (pd e), .d e.d, .cell 1, .cell 2, .cell 3, .d u1.d, .d u1.d, .cell 11, .d (.tup (sd ys)), a11, .un, .un] (M ++ Q) := by
  obtain ⟨y, r, hy⟩ := h.head
  have hy0 : (sd ys)[0]? = some (.str y) := by rw [hy]; rfl
  have hym : y ∈ ys := by rw [hy]; exact List.mem_cons_self ..
  have hyl := h.len.2 y hym
  have q := h.h40 (.lst (sd ys ++ [.str y, .str sBadN])) (ys ++ [y, sBadN]) (.inl (by simp [sd])) (fun z hz => by
    rcases List.mem_append.mp hz with hz | hz
    · exact h.len.2 z hz
    · simp at hz
      rcases hz with rfl | rfl
      · exact hyl
      · show Str.length _ ≤ 100; decide)
  rw [h.gn.d3 hym sBadN] at q
  have hl : ys.length + 2 ≤ sizeLine := le_line (by have := h.len.1; omega)
  have k2 := (k.app [.lst (ad [.str y, .str sBadN])]).k11
  have k3 := (k.app [.lst (ad [.str y, .str sBadN]), .frz (.lst (sd ys ++ [.str y, .str sBadN]))]).k11
  have q1 := fun (as : List A) M h1 h2 => q.tup (as := as) (M := M) h1 h2
  have q2 := fun M => h.s24 (d := .tup [.str tRep, .str y]) (Pl.pair (n := 39) (.str _) (.str _)) [.d (.tup [.str tRep, .str y]), .d (.tup [.str tRep, .str y])] M (by simp)
  refine ⟨[.lst (ad [.str y, .str sBadN]), .frz (.lst (sd ys ++ [.str y, .str sBadN]))], ?_⟩
  have k11 := k.k11
  clear k
  generalize hL : sd ys = L at *
  have hLl : L.length = ys.length := by rw [← hL]; simp
  simp [st44_18, k11, hy0, k2, hLl, hl]
  rw [q1 _ _ (by simp) (by simp)]
  simp [k3, hy0, q2]
theorem s19 (h : Lw w ns m s d1 d2 d3 d5 e u1 ys) {a11 : A} : ∃ Q, X.exS w st44_19 [scr ns, .d (.int (m : Nat)), .d (pd e), .d e.d, .cell 1, .cell 2, .cell 3, .d u1.d, .d u1.d, .cell 11, .d (.tup (sd ys)), a11, .un, .un] M = .nx [scr ns, .d (.int (m : Nat)), .d (pd e), .d e.d, .cell 1, .cell 2, .cell 3, .d u1.d, .d u1.d, .cell 11, .d (.tup (sd ys)), a11, .un, .un] (M ++ Q) := by
  have hsf : SeqAt.shaped (D.lst (sd e.fr)).py = true := shaped_sd fun x hx => h.gn.vb x (T.us_nms (T.fr_us hx))
  have hq : eqA (.d (.lst (sd e.fr))) (.cell M.length) (M ++ [.lst (ad [])]) = some (sd e.fr).isEmpty := eqA_nilD (by simp) hsf
  by_cases hf : e.fr = []
  · refine ⟨[.lst (ad [])], ?_⟩
    rw [hf] at hq
    simp [st44_19, pd, hf, hq]
  · have hb : (sd e.fr).isEmpty = false := by
      cases h2 : e.fr with
      | nil => exact absurd h2 hf
      | cons a r => rfl
    rw [hb] at hq
    have q := h.h40 (.lst [.str fr1]) [fr1] (.inl rfl) (fun z hz => by rw [List.mem_singleton.mp hz]; show Str.length _ ≤ 100; decide)
    rw [h.gn.d4 hf] at q
    unfold fr1 at q
    have q1 := fun (as : List A) M h1 h2 => q.tup (as := as) (M := M) h1 h2
    have q2 := fun M => h.s24 (d := .tup [.str tOther, .lst []]) (Pl.pair (n := 39) (.str _) (.lst (n := 38) [] (by simp) (by simp))) [.d (.tup [.str tOther, .lst []]), .d (.tup [.str tOther, .lst []])] M (by simp)
    refine ⟨[.lst (ad []), .frz (.lst [.str { cps := { toList := [102, 114, 101, 101, 49] } }]), .frz (.lst [])], ?_⟩
    simp [st44_19, pd, hq]
    rw [q1 _ _ (by simp) (by simp)]
    simp [q2]
end
end K90

set_option Elab.async false
set_option linter.all false
set_option maxRecDepth 100000
set_option maxHeartbeats 4000000
/-! k90: the law holds. -/
namespace Mq
open PySem PySem.Spec L2 Mini
@[simp] theorem sl_cell {n : Nat} {l h : Option Int} {M : List O} : slA M (.cell n) l h = match lsv M (.cell n) with
    | some xs => newL M (cutA xs l h)
    | none => .no := rfl
end Mq
namespace K90
open PySem PySem.Spec L2 Mini Mq
section
variable (X : Mi) {w : W} {ns : List Int} {m s : Nat} {d1 d2 d3 d5 : List Nat} {e u1 : T} {ys : List Str} {M : List O} {a11 : A}
theorem s20 (h : Lw w ns m s d1 d2 d3 d5 e u1 ys) (k : Kp e ys M) : X.exS w st44_20 [scr ns, .d (.int (m : Nat)), .d (pd e), .d e.d, .cell 1, .cell 2, .cell 3, .d u1.d, .d u1.d, .cell 11, .d (.tup (sd ys)), a11, .un, .un] M = .nx [scr ns, .d (.int (m : Nat)), .d (pd e), .d e.d, .cell 1, .cell 2, .cell 3, .d u1.d, .d u1.d, .cell 11, .d (.tup (sd ys)), a11, .cell M.length, .un] (M ++ [.lst (ad (sd e.bs))]) := by
  have hz := h.sz
  have c1 := compB X (w := w) (t := e) (δ := [scr ns, .d (.int (m : Nat)), .d (pd e), .d e.d, .cell 1, .cell 2, .cell 3, .d u1.d, .d u1.d, .cell 11, .d (.tup (sd ys)), a11, .un, .un]) (M := M) (M1 := M) (M2 := M) (as := [.cell 1]) (its := X.evs w [Mini.E.var 4]) (by omega) (by simp) (by simp [k.k1]) (v := 13) (by simp)
  simp only [st44_20, Mi.exS_asg, Mi.ev_comp]
  rw [c1]
  simp
theorem s21 (h : Lw w ns m s d1 d2 d3 d5 e u1 ys) (k : Kp e ys M) {c : Nat} (hc : M[c]? = some (.lst (ad (sd e.bs)))) : ∃ Q, X.exS w st44_21 [scr ns, .d (.int (m : Nat)), .d (pd e), .d e.d, .cell 1, .cell 2, .cell 3, .d u1.d, .d u1.d, .cell 11, .d (.tup (sd ys)), a11, .cell c, .un] M = .nx [scr ns, .d (.int (m : Nat)), .d (pd e), .d e.d, .cell 1, .cell 2, .cell 3, .d u1.d, .d u1.d, .cell 11, .d (.tup (sd ys)), a11, .cell c, .un] (M ++ Q) := by
  have hcl := (List.getElem?_eq_some_iff.mp hc).1
  have hc2 : ∀ Q, (M ++ Q)[c]? = some (.lst (ad (sd e.bs))) := fun Q => by rw [List.getElem?_append_left hcl]; exact hc
  have hsf : SeqAt.shaped (D.lst (sd e.bs)).py = true := shaped_sd fun x hx => h.gn.vb x (T.bs_nms hx)
  have hq : eqA (.cell c) (.cell M.length) (M ++ [.lst (ad [])]) = some (sd e.bs).isEmpty := eqA_nil (.inl (hc2 _)) (by simp) hsf
  by_cases hb : e.bs = []
  · rw [hb] at hq
    exact ⟨[.lst (ad [])], by simp [st44_21, hq]⟩
  · obtain ⟨b, r, hbr⟩ : ∃ b r, e.bs = b :: r := by
      cases h2 : e.bs with
      | nil => exact absurd h2 hb
      | cons a r => exact ⟨a, r, rfl⟩
    have hbm : b ∈ e.bs := by rw [hbr]; exact List.mem_cons_self ..
    have hbe : (sd e.bs).isEmpty = false := by rw [hbr]; rfl
    rw [hbe] at hq
    have hcut : cutA (ad (sd e.bs)) none (some 1) = ad [.str b] := by
      have := cut_ad (sd e.bs) 1 (by rw [hbr]; simp [sd])
      rw [hbr] at this ⊢
      exact this
    have q := h.h40 (.lst (sd ys ++ [.str b])) (ys ++ [b]) (.inl (by simp [sd])) (fun z hz => by
      rcases List.mem_append.mp hz with hz | hz
      · exact h.len.2 z hz
      · rw [List.mem_singleton.mp hz]
        have := isN_len (h.gn.vb b (T.bs_nms hbm))
        omega)
    rw [h.gn.d5 hbm] at q
    have q1 := fun (as : List A) M h1 h2 => q.tup (as := as) (M := M) h1 h2
    have q2 := fun M => h.s24 (d := .tup [.str tOther, .lst []]) (Pl.pair (n := 39) (.str _) (.lst (n := 38) [] (by simp) (by simp))) [.d (.tup [.str tOther, .lst []]), .d (.tup [.str tOther, .lst []])] M (by simp)
    have hl : ys.length + 1 ≤ sizeLine := le_line (by have := h.len.1; omega)
    have k2 := fun Q => (k.app Q).k11
    refine ⟨[.lst (ad []), .lst (ad [.str b]), .frz (.lst (sd ys ++ [.str b])), .frz (.lst [])], ?_⟩
    clear k
    generalize hL : sd ys = L at *
    have hLl : L.length = ys.length := by rw [← hL]; simp
    generalize hB : sd e.bs = B at *
    simp [st44_21, hq, k2, hc2, hcut, hLl, hl]
    rw [q1 _ _ (by simp) (by simp)]
    simp [q2]
theorem s22 (h : Lw w ns m s d1 d2 d3 d5 e u1 ys) {δ : List A} : X.exS w st44_22 δ M = .nx δ M := by
  have q1 := fun M => h.h43 60 M (by omega)
  have q2 := fun M => h.h38 (T.nest 60) M (by rw [T.nest_sz]; omega) (T.nest_ok 60 (by omega)).2.2
  rw [told_va ⟨(T.nest_ok 60 (by omega)).1, (T.nest_ok 60 (by omega)).2.1⟩, T.nest_sz] at q2
  have q3 := fun M => h.s24 (d := .tup [.str tSize, .int 60]) (Pl.pair (n := 39) (.str _) (.int _)) [.d (.tup [.str tSize, .int 60]), .d (.tup [.str tSize, .int 60])] M (by simp)
  generalize (T.nest 60).d = d at *
  simp at q1 q2
  simp [st44_22, q1, q2, q3]
theorem s23 (h : Lw w ns m s d1 d2 d3 d5 e u1 ys) {δ : List A} : X.exS w st44_23 δ M = .nx δ M := by
  have q1 := fun M => h.h43 61 M (by omega)
  have q2 := fun M => h.h38x (T.nest 61) M (by rw [T.nest_sz]; omega) (by rw [T.nest_sz]; omega)
  have q3 := fun M => h.s24 (d := .tup [.str { cps := { toList := [108, 97, 114, 103, 101] } }, .str { cps := { toList := [] } }]) (Pl.pair (n := 39) (.str _) (.str _)) [.d (.tup [.str { cps := { toList := [108, 97, 114, 103, 101] } }, .str { cps := { toList := [] } }]), .d (.tup [.str { cps := { toList := [108, 97, 114, 103, 101] } }, .str { cps := { toList := [] } }])] M (by simp)
  generalize (T.nest 61).d = d at *
  simp at q1
  simp [st44_23, q1, q2, q3]
theorem s24' (h : Lw w ns m s d1 d2 d3 d5 e u1 ys) {a12 : A} : X.exS w st44_24 [scr ns, .d (.int (m : Nat)), .d (pd e), .d e.d, .cell 1, .cell 2, .cell 3, .d u1.d, .d u1.d, .cell 11, .d (.tup (sd ys)), a11, a12, .un] M = .rt (.d (.bl true)) M := by
  obtain ⟨q3, q4, q5, q6⟩ := h.cells
  obtain ⟨k, hk⟩ : ∃ k : Nat, cl ns 6 % 997 = (k : Nat) := ⟨(cl ns 6 % 997).toNat, by omega⟩
  simp [st44_24, q6, hk, h.h42]
theorem run_cons {st : Mini.S} {r : List Mini.S} {δ δ1 : List A} {M M1 : List O} {z : RS} (h1 : X.exS w st δ M = .nx δ1 M1) (h2 : X.exs w r δ1 M1 = z) : X.exs w (st :: r) δ M = z := by
  rw [Mi.exs_cons, h1]
  exact h2
theorem g44 (h : Lw w ns m s d1 d2 d3 d5 e u1 ys) : ∃ M', X.go F44 w [scr ns] [] = .ok (.d (.bl true)) M' := by
  obtain ⟨M15, e15, k1, k11⟩ := s15 X h
  have k : Kp e ys M15 := ⟨k1, k11⟩
  obtain ⟨Q17, e17⟩ := s17 X h k (a11 := .d (e.can ys).d)
  obtain ⟨Q18, e18⟩ := s18 X h (k.app Q17) (a11 := .d (e.can ys).d)
  obtain ⟨Q19, e19⟩ := s19 X h (M := M15 ++ Q17 ++ Q18) (a11 := .d (e.can ys).d)
  have kk := ((k.app Q17).app Q18).app Q19
  have e20 := s20 X h kk (a11 := .d (e.can ys).d)
  obtain ⟨Q21, e21⟩ := s21 X h (kk.app [.lst (ad (sd e.bs))]) (c := (M15 ++ Q17 ++ Q18 ++ Q19).length) (by simp) (a11 := .d (e.can ys).d)
  refine ⟨M15 ++ Q17 ++ Q18 ++ Q19 ++ [.lst (ad (sd e.bs))] ++ Q21, ?_⟩
  have hb : X.exs w B44 [scr ns, .un, .un, .un, .un, .un, .un, .un, .un, .un, .un, .un, .un, .un] [] = .rt (.d (.bl true)) (M15 ++ Q17 ++ Q18 ++ Q19 ++ [.lst (ad (sd e.bs))] ++ Q21) := by
    rw [B44_eq]
    refine run_cons X (s0 X h) ?_
    refine run_cons X (s1 X h) ?_
    refine run_cons X (s2 X) ?_
    refine run_cons X (s3 X h) ?_
    refine run_cons X (s4 X h) ?_
    refine run_cons X (s5 X h) ?_
    refine run_cons X (s6 X h) ?_
    refine run_cons X (s7 X h) ?_
    refine run_cons X (s8 X h) ?_
    refine run_cons X (s9 X h) ?_
    refine run_cons X (s10 X h) ?_
    refine run_cons X (s11 X h) ?_
    refine run_cons X (s12 X h) ?_
    refine run_cons X (s13 X h) ?_
    refine run_cons X (s14 X h) ?_
    refine run_cons X e15 ?_
    refine run_cons X (s16 X h k) ?_
    refine run_cons X e17 ?_
    refine run_cons X e18 ?_
    refine run_cons X e19 ?_
    refine run_cons X e20 ?_
    refine run_cons X e21 ?_
    refine run_cons X (s22 X h) ?_
    refine run_cons X (s23 X h) ?_
    rw [Mi.exs_cons, s24' X h]
    rfl
  unfold Mi.go
  show (match X.exs w B44 [scr ns, .un, .un, .un, .un, .un, .un, .un, .un, .un, .un, .un, .un, .un] [] with
  | .nx _ M1 => Mini.R.ok (A.d .non) M1
  | .rt a M1 => .ok a M1
  | .ex x _ M1 => .ex x M1
  | _ => .no) = _
  rw [hb]
end
theorem cells_eq (ns : List Int) : ns.map D.int = idt ns := rfl
theorem law_true (ns : List Int) (hl : ns.length ≤ 63) : ∃ M, prg.run 140 44 [.d (.rol (ns.map .int))] [] = .ok (.d (.bl true)) M := by
  rw [cells_eq]
  obtain ⟨m, hm, hm2⟩ : ∃ m : Nat, (if cl ns 0 % 8 = 5 then (30 : Int) else 14) = (m : Nat) ∧ m ≤ 30 := by
    by_cases h : cl ns 0 % 8 = 5
    · exact ⟨30, by simp [h], by omega⟩
    · exact ⟨14, by simp [h], by omega⟩
  obtain ⟨s, hs, hs5⟩ : ∃ s : Nat, cl ns 2 % 5 = (s : Nat) ∧ s < 5 := ⟨(cl ns 2 % 5).toNat, by omega, by omega⟩
  obtain ⟨d1, l1, _, r1'⟩ := r23 138 (cl ns 1) m 3 (by omega) (by omega)
  obtain ⟨d2, l2, _, r2'⟩ := r23 138 (cl ns 3) 40 5 (by omega) (by omega)
  obtain ⟨d3, l3, _, r3'⟩ := r23 138 (cl ns 4) 40 7 (by omega) (by omega)
  obtain ⟨d5, l5, _, r5'⟩ := r23 138 (cl ns 5) 40 11 (by omega) (by omega)
  obtain ⟨e, used, he, hu, hz, r35'⟩ := r35 137 s d1 hs5 (by omega)
  obtain ⟨ys, hp, r27'⟩ := r27 137 (e.fr ++ [fr1]) d5 (by have := fr_len e; simp; omega)
  have gn := Gn.of hs5 (by omega) he hp
  have hv := he.isN hs5 (show used < 40 by omega)
  have hsh : e.short := T.short_of fun x hx => by have := isN_len (hv x hx); omega
  have hyl : ys.length ≤ 40 := by
    have h1 := hp.length_eq
    have h2 := fr_len e
    simp at h1
    omega
  have hyv : ∀ y ∈ ys, y.length ≤ 100 := fun y hy => by have := isN_len (gn.v y hy); omega
  obtain ⟨nq, nn, nst⟩ := nrm_eq he.ok hz
  obtain ⟨ua, sa, na, ra⟩ := r41 8 e d2 he.ok hz
  obtain ⟨ub, sb, nb, rb⟩ := r41 8 e d3 he.ok hz
  have ea : ua = (T.nrm 200 e 0).1 := T.one_nf 30 e hz he.ok _ _ sa na nst nn
  have eb : ub = (T.nrm 200 e 0).1 := T.one_nf 30 e hz he.ok _ _ sb nb nst nn
  rw [ea] at ra
  rw [eb] at rb
  have hd := e.ht_le_sz
  have hf0 : fr0 ∉ e.nms := fun q => by
    obtain ⟨j, h1, h2⟩ := he.nm _ q
    exact (lnm_ok j (by omega) s hs5).2.2.1 h2.symm
  have ft : Ft ⟨prg.run 138, prg.sub, prg.turns⟩ e := ⟨p29 (by omega) (by omega), fun s M h1 h2 => p38 (n := 72) h1 h2 M, fun d M h1 => p24 (m := 97) h1 (by simp)⟩
  have lw : Lw ⟨prg.run 139, prg.sub, prg.turns⟩ ns m s d1 d2 d3 d5 e (T.nrm 200 e 0).1 ys := {
    gn := gn
    sz := hz
    sh := hsh
    h21 := fun k M => p21 (n := 138)
    h34 := fun M => by
      have := p34 (n := 138) (c := cl ns 0) (a := 14) (b := 30) (M := M)
      rw [hm] at this
      exact this
    c1 := fun M => Ret.lstd r1'
    c3 := fun M => Ret.lstd r2'
    c4 := fun M => Ret.lstd r3'
    c5 := fun M => Ret.lstd r5'
    hs := hs
    h35 := r35'
    h29 := p29 (by omega) (by omega)
    h38 := fun s M h1 h2 => p38 (n := 73) h1 h2 M
    h38x := fun s M h1 h2 => p38x (n := 134) h1 h2
    h28 := fun M => (r28 139 e (by omega)).sc rfl (by simp)
    h15 := p15 (n := 136) (by omega)
    h24 := fun d h1 => (by
      have := r24 40 98 d h1
      exact this)
    h41a := ra
    h41b := rb
    uu := rfl
    h20 := fun M => by
      have := r20 16 e he.ok hz
      have e2 := this.tup (M := M) (as := [.d e.d]) (by simp) (by simp)
      simpa using e2
    h33 := fun M => by
      have := r33 16 e he.ok hz
      rw [← nq] at this
      have e2 := this.tup (M := M) (as := [.d e.d]) (by simp) (by simp)
      simpa using e2
    h12 := fun ht M => by
      have := r12 13 e he.ok (thrown_lin he.ok ht) hz
      have e2 := this.tup (M := M) (as := [.d e.d]) (by simp) (by simp)
      simpa using e2
    h27 := r27'
    h40 := fun d xs h1 h2 => r40 134 e d xs h1 (by omega) h2
    h40n := by
      have := r40n 134 e (by omega)
      rw [T.frees_eq he.ok] at this
      exact this
    h17 := r17 94 e _ ys (.inl rfl) gn.gvE hyl (by omega) hyv
    h30 := r30 hyl 139 e (by omega) he.ok
    h43 := fun k M h1 => p43 (n := 138) h1
    h42 := fun k M => by
      obtain ⟨M2, h2⟩ := g42 mi (dg := k) ft ⟨he.ok, hv⟩ hsh hz hf0
      have : Ret (prg.run 139 42) [e.d, .int (k : Nat)] (.bl true) := ⟨M2, by rw [prg.run_eq 138 42 F42 rfl]; exact h2⟩
      exact this.sc rfl (by simp) }
  obtain ⟨M', h⟩ := g44 mi lw
  exact ⟨M', by rw [prg.run_eq 139 44 F44 rfl]; exact h⟩
end K90

open PySem PySem.W PyProof.Rows L2 Mini
set_option maxRecDepth 100000 in
set_option maxHeartbeats 0 in
theorem PySem.Challenge.cw_kindstellterms_k90_loose_terms_and_steps_holds : PySem.Challenge.rw_kindstellterms_k90_loose_terms_and_steps.Holds := by
  w_on
  o_law
  refine K90.holds_of K90.law_true ?_
  · w_witness2
