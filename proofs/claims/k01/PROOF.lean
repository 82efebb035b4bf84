import PyProof.Rows.All
import Wide.All
import OpenK.AllK
import Wide.FinOn
import PyProof.EqAt
import PyProof.EqKinds
import PyProof.TupleCall
import KE.KExcSuper
import HandS.ForExc
import HandS.HeadWalk
import HandS.ForMost
import HandS.HeadHook1
import HandS.Deep
import HandS.Flow
import HandS.CallSlots
import HandS.Defaults
import HandS.TryOnly
import HandS.Dict
import HandS.List
import HandS.DictTup
import HandS.TupAny
import HandS.Text
import HandS.Replace
import HandS.IsInst
import HandS.StrSplit
import HandS.TupLen
import HandS.Iter
import HandS.HeadHook3
import HandS.HeadHook4
import HandS.CallLocal
import HandS.Head0
import HandS.Head1
import HandS.Head2
import HandS.HeadEnd
import PySem.Challenge.RW_fenceweaver_k01_first_wrong_words
set_option Elab.async false
set_option linter.all false
set_option maxRecDepth 100000
set_option maxHeartbeats 2000000
namespace PySem
namespace FwX
open PySem.W PySem.Calls PyProof.Rows PySem.HandSPX
def iA (p1 p2 : Pos) : Arguments := { posonlyargs := [], args := [{ arg := "self", annotation := none, pos := p1 }, { arg := "at", annotation := none, pos := p2 }], vararg := none, kwonlyargs := [], kw_defaults := [], kwarg := none, defaults := [] }
structure IPos where
  (s0 s1 s2 s3 s4 s5 q1 q2 q3 q4 : Pos)
def iB (q : IPos) : List Stmt := [.Expr (.Call (.Attribute (.Call (.Name "super" q.s0) [] [] q.s1) "__init__" q.s2) [.Name "at" q.s3] [] q.s4) q.s5, .Assign [.Attribute (.Name "self" q.q1) "at" q.q2] (.Name "at" q.q3) q.q4]
def iS : Scope := { kind := .function, names := [(PySem.Str.ofString "self", .local), (PySem.Str.ofString "at", .local), (PySem.Str.ofString "__class__", .free), (PySem.Str.ofString "super", .globalImplicit)], isGenerator := false, isCoroutine := false, more := [] }
theorem mc_line {p0 p1 apos pos : Pos} {name : Str} {a : Expr} {env : Env} (hl : (apos.endLine == pos.line) = true) (ha : starEach [a] env = [(false, eval a env)] := by rfl) :
    eval (.Call (.Attribute (.Call (.Name "super" p0) [] [] p1) name apos) [a] [] pos) env = (do
      let ov ← attributeBase (.Call (.Name "super" p0) [] [] p1) name env (eval (.Call (.Name "super" p0) [] [] p1) env)
      standAt apos.atName
      let (f, first) ← holding [ov] (getMethod ov name (L2.plainOf (.Call (.Name "super" p0) [] [] p1) env))
      callWith pos f first (backTo pos (starEach [a] env)) []) := by
  show (do
      let ov ← attributeBase (.Call (.Name "super" p0) [] [] p1) name env (eval (.Call (.Name "super" p0) [] [] p1) env)
      standAt apos.atName
      methodCall (.Call (.Name "super" p0) [] [] p1) name apos pos env ov 1 (backTo pos (starEach [a] env)) (backToKw pos (keywordEach [] env))) = _
  have hf : methodCallForm 1 (backTo pos (starEach [a] env)) (backToKw pos (keywordEach [] env)) = true := by rw [ha]; rfl
  simp only [L2.mcall_line hf hl]
  rfl
structure CellTxt (P : Program) (K : Frag) (C D fI : Addr) : Prop where
  cls : ∃ nm q N bs bm sn sub ab col dd k0 k1 k2 k3 k5, K.lookup C = some (excClassObj nm q C N bs bm true sn sub ab col dd k0 k1 k2 k3 k5 "ValueError.__new__") ∧ refsVE bm = true
  sa : findIn K (.ref C) "__setattr__" = some (some (.builtin "object.__setattr__"))
  ga : findIn K (.ref C) "__getattribute__" = some (some (.builtin "BaseException.__getattribute__"))
  gg : findIn K (.ref C) "__getattr__" = some none
  noN : findIn K (.ref C) "at" = some none
  iC : findIn K (.ref C) "__init__" = some (some (.ref fI))
  tC : typeIn K (.ref fI) = some (.type "function")
  kC : keepIn K (.ref C) = true
  exC : subIn K (.ref C) (.type "BaseException") = some true
  tyC : typeIn K (.ref C) = some (.type "type")
  hdC : hasDictIn K C = true
  veC : subIn K (.ref C) (.type "ValueError") = some true
  sup : ks_superIn K C D "__init__" = some (some (.builtin "ValueError.__init__"))
  mro : mroIn K C (.ref D) = some true
  clD : ∃ cdD, clsIn K D = some cdD
  noS : nsIn K mainGlobals "super" = some none
  opq : nsIn K cStatics "thirdparty.any" = some none
  fn : ∃ (oc : Value) (od : Option Addr) (doc pm : Value) (an : Option Addr) (cda cc : Addr) (ct : Value) (osl : Array (Option Value)) (p1 p2 : Pos) (q : IPos),
    K.lookup fI = some ⟨oc, od, .func (ksFn "__init__" "CellError.__init__" (iA p1 p2) (iB q) iS .none .none doc pm an (.ref cda) ct cc), osl⟩ ∧ codeIn K (.ref cda) "CellError.__init__" = true ∧ (q.s2.endLine == q.s4.line) = true ∧
    (∃ ccl cdd vs ccs file tf, K.lookup cda = some ⟨ccl, cdd, .fields vs, ccs⟩ ∧ vs[2]? = some (.str file tf) ∧ ((P.main.file : Str) == file) = true) ∧
    ∃ cl cld csl, K.lookup cc = some ⟨cl, cld, .cell (some (.ref D)), csl⟩
theorem one_size (v : Value) : [v].length ≤ sizeLine := by
  rw [sizeLine_eq]
  exact (by decide : 1 ≤ 16777216)
structure InitEnd (h h' : Heap) (x C dx t1 : Addr) (v : Value) : Prop where
  keep : ∀ b o, b ≠ x → h.get? b = some o → h'.get? b = some o
  obj : h'.get? x = some { cls := .ref C, dict := some dx, data := .fields #[.ref t1, .none, .none, .none, .bool false, .none] }
  dbig : h.objs.size ≤ dx
  dne : dx ≠ x
  ns : h'.Ns1 dx (fun y => if y = "at" then some v else none)
structure OwnMade (h h' : Heap) (e C d : Addr) (v : Value) : Prop where
  keep : ∀ b o, h.get? b = some o → h'.get? b = some o
  new : h.objs.size ≤ e
  obj : ∃ oe vs, h'.get? e = some oe ∧ oe.cls = .ref C ∧ oe.dict = some d ∧ oe.data = .fields vs ∧ vs[1]? = some .none
  dbig : h.objs.size ≤ d
  dne : d ≠ e
  ns : h'.Ns1 d (fun y => if y = "at" then some v else none)
section
variable {prog : Program} {w : World} {A : Around} {E : Value → Shared → Prop} {h : Heap} {g : Array GenState} {d : Drawn} {t : Nat} {os : OsState}
variable {nm q : Str} {C N : Addr} {bs bm : List Value} {hdct : Bool} {sn : List Str} {sub : List Value} {ab : Bool} {col : Option Bool} {dd : Option Addr} {k0 k1 k2 k3 k5 : Option Value}
theorem call_mw {u e t0 : Addr} {rest : List Value} {Q : Value → Shared → Prop}
    (hC : h.get? C = some (excClassObj nm q C N bs bm hdct sn sub ab col dd k0 k1 k2 k3 k5 "ValueError.__new__")) (he : h.get? e = some (excO C t0)) (hu : h.get? u = some (kxs_mw "ValueError.__init__" e)) (hrest : rest.length ≤ sizeLine)
    (hq : ∀ h' t1, (∀ b o, b ≠ e → h.get? b = some o → h'.get? b = some o) → h'.get? e = some (excO C t1) → Q .none ⟨h', g, d, t, os⟩) :
    wpAny (model prog w) A (call (.ref u) rest) Q E ⟨h, g, d, t, os⟩ := by
  refine wpAny_call (codeAny_of_tree ?_)
  show wpAny _ A.in1 (callAny (.ref u) ⟨rest, []⟩) _ _ _
  simp only [callAny]
  refine wpAny_bind (wpAny_load hu ?_)
  simp only [kxs_mw, show (Value.type "method-wrapper" == Value.type "method" || Value.type "method-wrapper" == Value.type "builtin_function_or_method" || Value.type "method-wrapper" == Value.type "method-wrapper") = true by decide, if_true]
  refine KFB.if_so (by decide) ?_
  refine wpAny_bind (check_bound_init F.excBase_ValueError.toExcCallFacts hC he rfl ?_)
  refine wpAny_bind (wpAny_pure (wpAny_pure ?_))
  refine ⟨plainId_quiet F.excBase_ValueError.init.plain _, codeAny_builtin F.excBase_ValueError.initEntry ?_⟩
  exact exc_init_tree (cls := .ref C) (t0 := t0) (dv := none) (c2 := .none) (c3 := .none) (b4 := .bool false) he hrest (fun h' k' e' t' => hq h' _ k' e')
end
theorem ldL {M : Model} {A : Around} {E : Value → Shared → Prop} {s : Shared} {env : Env} {m : Str → Option Value} {x : Str} {pos : Pos} {v : Value} {Q : Value → Shared → Prop} (hn : s.heap.Ns env.locals m) (hv : m x = some v) (h : Q v s)
    (hk : env.scope.kind = .function := by rfl) (hl : env.kindOf x = some .local := by rfl) (hd : (x == ("__debug__" : Str)) = false := by decide) : wpAny M A (eval (.Name x pos) env) Q E s := wpAny_Name (wpAny_loadName_local hk hl hn hv h) hd
section
variable {prog : Program} {w : World} {A : Around} {E : Value → Shared → Prop} {R : Result → Shared → Prop} {s : Shared} {K : Frag} {mg mb : Str → Option Value} {C D fI : Addr}
theorem cell_init (T : CellTxt prog K C D fI) {x t0 : Addr} {v : Value} (X : K.In s.heap) (hlim : s.heap.NoLimit) (hg : s.heap.Ns mainGlobals mg) (hb : s.heap.Ns builtinsNs mb) (hbb : ∀ x : Str, x ≠ "__name__" → mb x = bootBuiltins x)
    (htop : (prog.main.scope.names.lookup ("super" : Str)).isSome = false)
    (hx : s.heap.get? x = some (excO C t0)) (hnx : K.lookup x = none) (hroom : A.depth < recursionLimit)
    (hq : ∀ h' tk dx t1, InitEnd s.heap h' x C dx t1 v → R (.ok (.ret .none)) { s with heap := h', toks := tk }) :
    codeAny (model prog w) A (.call (.ref fI) ⟨[.ref x, v], []⟩) R s := by
  obtain ⟨oc, od, doc, pm, an, cda, cc, ct, osl, p1, p2, q, ho, hcd, hln, ⟨ccl, cdd, vs, ccs, file, tf, hcode, hvs, hfile⟩, cl, cld, csl, hcell⟩ := T.fn
  obtain ⟨nm, qn, N, bs, bm, sn, sub, ab, col, dd, k0, k1, k2, k3, k5, hC, hbm⟩ := T.cls
  obtain ⟨cdD, hD⟩ := T.clD
  have hcl : clsIn K C = some { name := nm, bases := bs, mro := .ref C :: bm, ns := N, qualname := qn, hasDict := true, slotNames := sn, subclasses := sub, abstract := ab, collection := col, hasDel := false } := by unfold clsIn; rw [hC] <;> rfl
  have hsup : alongIn K "__init__" (((Value.ref C :: bm).dropWhile (· != .ref D)).drop 1) = some (some (.builtin "ValueError.__init__")) := by
    have z := T.sup
    unfold ks_superIn at z
    rw [hcl] at z
    exact z
  refine ks_codeAny_call_defAt (fd := ksFn "__init__" "CellError.__init__" (iA p1 p2) (iB q) iS .none .none doc pm an (.ref cda) ct cc) (body := iB q) (binds := [("self", .ref x), ("at", v)]) hroom (X _ _ ho) rfl hlim (codeRec_of X hcd) rfl (BindsTo.of_eq rfl) (by show ∀ x ∈ iS.names, x.2 ≠ .cell; decide) (locs rfl) (fun h₁ hns k => ?_) rfl rfl rfl
  have X₁ : K.In h₁ := X.keeps k
  have hx₁ := k _ _ hx
  have hg₁ := hg.keeps k
  have hb₁ := hb.keeps k
  obtain ⟨oD, hD1, hD2⟩ : ∃ oD, h₁.get? D = some oD ∧ oD.data = .cls cdD := by
    unfold clsIn at hD
    split at hD
    · rename_i c d cd' sl ho
      cases hD
      exact ⟨_, X₁ _ _ ho, rfl⟩
    · cases hD
  have I₁ : PySem.W.InstAt h₁ x (excO C t0) C none := ⟨hx₁, rfl, rfl, trivial⟩
  -- super().__init__(at)
  refine ks_wpAt_execs_cons (ks_wpAt_Expr_any (ks_wpAt_MethodCall (pl := L2.plainOf _ _) ?_ (mc_line hln)))
  refine ks_wpAt_super_base (env := callEnv (ksFn "__init__" "CellError.__init__" (iA p1 p2) (iB q) iS .none .none doc pm an (.ref cda) ct cc) s.heap.objs.size fI) rfl rfl (by decide) rfl (X₁ _ _ ho) rfl rfl rfl (X₁ _ _ hcode) rfl hvs hfile htop ?_
  refine ks_loadName_global rfl rfl (loadGlobal_builtin hg₁ (mg_none_of X hg T.noS) hb₁ ((hbb _ (by decide +kernel)).trans (by decide +kernel)) ⟨rfl, ?_⟩)
  refine wpAny_loadName_free rfl rfl rfl ⟨_, X₁ _ _ hcell, rfl⟩ ?_
  refine wpAny_loadName_local rfl rfl hns (by rfl) ?_
  refine ks_wpAny_isType_cls hD1 hD2 ⟨rfl, ?_⟩
  refine ks_wpAny_call_super hD1 hD2 I₁.at_ I₁.cls (fun c e => ?_) (looks_mroIn X₁ T.mro) (fun h₂ e₂ k₂ => ?_)
  · cases e
  have X₂ : K.In h₂ := X₁.keeps k₂
  have hx₂ := k₂ _ _ hx₁
  have I₂ : PySem.W.InstAt h₂ x (excO C t0) C none := ⟨hx₂, rfl, rfl, trivial⟩
  have hC₂ := X₂ _ _ hC
  have hns₂ := hns.keeps k₂
  refine kxs_getMethod kxs_ValueError (l₀ := .ref C :: bm) e₂ (looks_opaque X₂ T.opq) (fun A Q E s k q => wpAny_bind ((looks_clsIn X₂ hcl) A _ E s k (wpAny_pure q))) rfl X₂ hsup (I₂.type.andThen (looks_subIn X₂ T.veC)) (ks_ne X₂ I₂ hcl) (by decide) ?_
  have k₃ : ∀ b o, h₂.get? b = some o → (h₂.push (kxs_mw "ValueError.__init__" x)).get? b = some o := fun b o e => Heap.get?_push_of_some _ e
  have hu : (h₂.push (kxs_mw "ValueError.__init__" x)).get? h₂.objs.size = some (kxs_mw "ValueError.__init__" x) := Heap.get?_push_at rfl rfl
  have hns₃ := hns₂.keeps k₃
  refine kxs_callWith (i := "ValueError.__init__") (x := x) rfl ?_
  refine evalArgs_plain (Calls.spliced_cons (ldL hns₃ (by rfl) (Calls.spliced_nil ⟨hu, ?_⟩)))
  refine call_mw (k₃ _ _ hC₂) (k₃ _ _ hx₂) hu (one_size v) (fun h₄ t1 k₄ e₄ => ?_)
  -- self.at = at
  have xk : ∀ b o, s.heap.get? b = some o → (h₂.push (kxs_mw "ValueError.__init__" x)).get? b = some o := fun b o e => k₃ _ _ (k₂ _ _ (k _ _ e))
  have X₄ : K.In h₄ := fun b o e => k₄ b o (fun z => by rw [z, hnx] at e; cases e) ((X₂.keeps k₃) b o e)
  have hsx : s.heap.objs.size ≠ x := Nat.ne_of_gt (Heap.lt_size hx)
  obtain ⟨oL, es, ep, hoL, hrL⟩ := hns₃
  have hns₄ : h₄.Ns s.heap.objs.size (fun x_1 => List.lookup x_1 [(PySem.Str.ofString "self", Value.ref x), (PySem.Str.ofString "at", v)].reverse) := ⟨oL, es, ep, k₄ _ _ hsx hoL, hrL⟩
  refine ks_wpAt_execs_cons (wpAt_of_wpAny (plainObj_wpAny_Assign_Attribute ?_))
  refine ldL hns₄ (by rfl) (ldL hns₄ (by rfl) ?_)
  refine set_plain X₄ (ox := excO C t1) (od := none) ⟨e₄, rfl, rfl, trivial⟩ T.sa ?_
  refine exc_osa X₄ e₄ hcl (show refsVE (.ref C :: bm) = true from hbm) rfl T.noN (fun h₅ tk₅ dx k₅ dn dne hx₅ hn₅ => ?_)
  refine wpAt_of_wpAny (wpAny_execs_nil (hq h₅ tk₅ dx t1 ⟨fun b o hb e => k₅ b o hb (k₄ b o hb (xk b o e)), hx₅, ?_, dne, hn₅⟩))
  have z1 : s.heap.objs.size < h₄.objs.size := Heap.lt_size (k₄ _ _ hsx hoL)
  exact Nat.le_of_lt (Nat.lt_of_lt_of_le z1 dn)
theorem cell_made (T : CellTxt prog K C D fI) {v : Value} (X : K.In s.heap) (hlim : s.heap.NoLimit) (hg : s.heap.Ns mainGlobals mg) (hb : s.heap.Ns builtinsNs mb) (hbb : ∀ x : Str, x ≠ "__name__" → mb x = bootBuiltins x)
    (htop : (prog.main.scope.names.lookup ("super" : Str)).isSome = false) (hroom : A.depth + 1 < recursionLimit)
    (hq : ∀ h' tk e d, OwnMade s.heap h' e C d v → R (.ok (.ret (.ref e))) { s with heap := h', toks := tk }) :
    codeAny (model prog w) A (.call (.ref C) ⟨[v], []⟩) R s := by
  obtain ⟨nm, q, N, bs, bm, sn, sub, ab, col, dd, k0, k1, k2, k3, k5, hC, hbm⟩ := T.cls
  obtain ⟨hp, g, dr, tk, os⟩ := s
  have k : ∀ b o, hp.get? b = some o → ((hp.push (kdv_tup [v])).push (excO C hp.objs.size)).get? b = some o := fun b o e => Heap.get?_push_of_some _ (Heap.get?_push_of_some _ e)
  have hget : ((hp.push (kdv_tup [v])).push (excO C hp.objs.size)).get? (hp.objs.size + 1) = some (excO C hp.objs.size) := by heap_get
  have hnx : K.lookup (hp.objs.size + 1) = none := by
    cases e : K.lookup (hp.objs.size + 1) with
    | none => rfl
    | some o =>
      have z : hp.get? (hp.objs.size + 1) = some o := X _ _ e
      exact absurd (Nat.lt_of_succ_lt (Heap.lt_size z)) (Nat.lt_irrefl _)
  refine call_own F.excBase_ValueError (fun X => refsVE_contains X bm hbm) (X _ _ hC) (looks_findIn X T.iC) (fun self => bind_fn X self T.tC) (one_size v) ?_
  refine cell_init (s := ⟨(hp.push (kdv_tup [v])).push (excO C hp.objs.size), g, dr, tk, os⟩) T (X.keeps k) (hlim.keeps k) (hg.keeps k) (hb.keeps k) hbb htop hget hnx ?_ fun h' tk' dx t1 ⟨k', hx, dn, dne, hns⟩ => ?_
  · show A.depth + 1 < recursionLimit
    exact hroom
  · have old : ∀ b o, hp.get? b = some o → h'.get? b = some o := fun b o e => k' b o (Nat.ne_of_lt (Nat.lt_succ_of_lt (Heap.lt_size e))) (k b o e)
    have z : hp.objs.size + 1 + 1 ≤ dx := by
      first
        | (simpa only [Heap.size_push] using dn)
        | exact dn
        | (have q := dn; rw [Heap.size_push, Heap.size_push] at q; exact q)
    exact ⟨rfl, hq h' tk' (hp.objs.size + 1) dx ⟨old, Nat.le_succ _, ⟨_, _, hx, rfl, rfl, rfl, rfl⟩, Nat.le_trans (Nat.le_trans (Nat.le_succ _) (Nat.le_succ _)) z, dne, hns⟩⟩
end
end FwX
end PySem

namespace L2
open PySem PySem.Spec PyProof.Rows
theorem relO_at {v : V} {v' : Value} (r : RelV v v') (f : Str) : RelO (List.lookup f [(("at" : Str), v)]) (if f = "at" then some v' else none) := by
  by_cases hw : f = "at"
  · subst hw
    rw [if_pos rfl]
    have q : List.lookup ("at" : Str) [(("at" : Str), v)] = some v := by simp [List.lookup]
    rw [q]
    exact r
  · rw [if_neg hw]
    have qw : (f == ("at" : Str)) = false := by simpa using hw
    have q2 : List.lookup f [(("at" : Str), v)] = none := by simp [List.lookup, qw]
    rw [q2]
    trivial
section
variable {X : Cx} {C D fI : Addr}
def tMkCell (C : Addr) (ta : TA) : St → Hp → XK → Prop := fun σ H Q => ta σ H fun vs H1 => ∃ v, vs = [v] ∧ ∀ d, H1 d = none → Q (.ref C) (some d) (upd H1 d (.xd [(("at" : Str), v)]))
theorem pmk_cell {a : Expr} {ta : TA} {x : Str} {p pos : Pos} {k : Nat} (T : PySem.FwX.CellTxt X.prog X.K C D fI) (gC : X.mg x = some (.ref C)) (htop : (X.prog.main.scope.names.lookup ("super" : Str)).isSome = false) (hr : Room k X.A) (ha : PA X [a] ta) (hg : Gl X x := by rfl)
    (hdb : (x == ("__debug__" : Str)) = false := by decide)
    (he : starEach (a :: []) X.env = (false, eval a X.env) :: starEach [] X.env := by rfl) (hpl : (backTo pos (starEach [] X.env)).any (·.1) = false := by rfl) :
    PMk X (.Call (.Name x p) [a] [] pos) (tMkCell C ta) := by
  intro pins s σ H Q I h
  refine wpAny_Call_Name_kw (ld_glob I hg gC ?_ hdb)
  refine PySem.W.callWith_K (h₀ := X.base) I.ok.mod.kin T.kC (thn (ha.run pos pins s σ H _ I h) fun us s1 hh => ?_) he hpl
  obtain ⟨vs, H1, I1, r1, v, ev, q1⟩ := hh
  subst ev
  refine ⟨I1.kIn, ?_⟩
  cases r1 with
  | cons rv rn =>
    rename_i v' us'
    cases rn
    show wpAny _ _ (call (.ref C) [v']) _ _ _
    have hlim := I1.nolimit
    obtain ⟨mb, hb1, hbb⟩ := I1.mod.blt
    have hg1 := I1.mod.glob.keeps I1.bk
    have hb2 := hb1.keeps I1.bk
    obtain ⟨hp, g, dr, tk, os⟩ := s1
    refine wpAny_call (PySem.FwX.cell_made T I1.kIn hlim hg1 hb2 hbb htop (by have := hr.dp; omega) fun h' tk' e d M => ?_)
    show MkP X pins σ Q (.ref e) ⟨h', g, dr, tk', os⟩
    obtain ⟨oe, fv, hoe, hc, hd, hdat, h1⟩ := M.obj
    have hns := M.ns
    obtain ⟨G', g1, g2⟩ := restrict h' fun b => decide (b ≠ e)
    have gk : ∀ b, b ≠ e → G'.get? b = h'.get? b := fun b hb => g1 b (decide_eq_true hb)
    have ge : G'.get? e = none := g2 e (by simp)
    have old : ∀ b o, hp.get? b = some o → G'.get? b = some o := fun b o q => (gk b (Nat.ne_of_lt (Nat.lt_of_lt_of_le (Heap.lt_size q) M.new))).trans (M.keep b o q)
    have ob : ObjOk X.prog X.w (upd H1 d (.xd [(("at" : Str), v)])) G' d (.xd [(("at" : Str), v)]) :=
      ⟨_, hns.at (fun o q => (gk d M.dne).trans q), fun f => relO_at rv f⟩
    have J : Inv X pins σ (upd H1 d (.xd [(("at" : Str), v)])) ⟨G', g, dr, tk', os⟩ := I1.laid (t' := tk') old M.dbig ob
    refine ⟨e, oe, fv, ⟨G', g, dr, tk', os⟩, _, .ref C, some d, rfl, J, fun b o q => ?_, ge, hoe, ⟨hc, hd⟩, hdat, h1, ?_, rfl, I1.bare, raises_own T.exC T.tyC, q1 d (I1.hok.fresh M.dbig)⟩
    · by_cases hb : b = e
      · have q' : G'.get? b = some o := q
        rw [hb, ge] at q'; cases q'
      · exact (gk b hb).symm.trans q
    · rw [upd_ne (Ne.symm M.dne)]
      exact I1.hok.fresh M.new
def tRaiseCell (C : Addr) (W : WX) (ta : TA) : TS := fun _ σ H => tMkCell C ta σ H fun cls d H' => W cls d σ H'
theorem ps_raiseCell {a : Expr} {ta : TA} {W : WX} {x : Str} {p pos pos2 : Pos} {k : Nat} (hc : X.calm = true) (T : PySem.FwX.CellTxt X.prog X.K C D fI) (gC : X.mg x = some (.ref C)) (htop : (X.prog.main.scope.names.lookup ("super" : Str)).isSome = false) (hr : Room k X.A) (tk : Takes X W) (ha : PA X [a] ta) (hg : Gl X x := by rfl)
    (hdb : (x == ("__debug__" : Str)) = false := by decide)
    (he : starEach (a :: []) X.env = (false, eval a X.env) :: starEach [] X.env := by rfl) (hpl : (backTo pos (starEach [] X.env)).any (·.1) = false := by rfl) :
    PS X (.Raise (some (.Call (.Name x p) [a] [] pos)) none pos2) (tRaiseCell C W ta) := ps_raise hc tk (pmk_cell T gC htop hr ha hg hdb he hpl)
def tAtCell (a : Addr) (d : Option Addr) (te : TE) : TE := fun σ H Q => te σ H fun x H1 => x = .ref a ∧ ∃ (dd : Addr) (v : V), d = some dd ∧ H1 dd = some (.xd [(("at" : Str), v)]) ∧ Q v H1
theorem pe_atCell {a : Addr} {oe : Obj} {d : Option Addr} {pn : List (Addr × Obj)} {e : Expr} {te : TE} {pos : Pos} (T : PySem.FwX.CellTxt X.prog X.K C D fI) (hz : Zc (.ref C) d oe) (hf : ∃ vs, oe.data = .fields vs) (he : PE (X.suite a ((a, oe) :: pn)) e te)
    (hb : attributeBase e "at" X.env (eval e X.env) = eval e X.env := by rfl) :
    PE (X.suite a ((a, oe) :: pn)) (.Attribute e "at" pos) (tAtCell a d te) := by
  refine ⟨fun pins s σ H Q I h => ?_⟩
  refine attr_of hb (thn (he.run pins s σ H _ I h) fun u s1 hh => ?_)
  obtain ⟨x, H1, I1, rx, ex, dd, v, ed, ea, q⟩ := hh
  subst ex
  obtain rfl : u = Value.ref a := rx
  subst ed
  obtain ⟨ha, _⟩ := I1.pin (a, oe) (List.mem_append_left _ List.mem_cons_self)
  obtain ⟨vs, hd⟩ := hf
  have hx : ObjOk X.prog X.w H1 s1.heap dd (.xd [(("at" : Str), v)]) := I1.hok dd _ ea
  obtain ⟨mA, hns, hr⟩ := hx
  obtain ⟨od, ho, hl⟩ := lookIn_ns hns
  have l : List.lookup ("at" : Str) [(("at" : Str), v)] = some v := by simp [List.lookup]
  obtain ⟨u, hu, ru⟩ := RelO.some_of (v := v) (o := mA "at") (by rw [← l]; exact hr "at")
  have J : PySem.W.InstAt s1.heap a oe C (some od) := ⟨ha, hz.1, by unfold PySem.W.notCls; rw [hd] <;> rfl, by rw [hz.2]; exact ho⟩
  exact HandSPX.exc_get I1.kIn J T.ga T.gg T.exC (PySem.W.findObj_own T.hdC T.noN rfl (by rw [hl, hu])) (handed_of ru) ⟨v, H1, I1.tok _, ru, q⟩
end
end L2

set_option maxRecDepth 100000
set_option maxHeartbeats 1000000
namespace LP
open PySem PySem.Spec
open PyProof.Rows hiding St
open L2
set_option autoImplicit false

inductive D where
  | non | bl (b : Bool) | int (i : Int) | str (s : List Nat) | tup (ds : List D) | lst (ds : List D) | scr (ds : List D) | dct (kvs : List (D × D)) | dtt (kvs : List (D × D)) | ins (c : Str) (fs : List (Str × D)) | fn (x : Str) | ty (n : Nat)

abbrev Ad := Addr → Prop
structure Nd where
  O : Ad
  N : Ad
  on : ∀ a, O a → N a
  al : Nat → Addr
  sz : Nat
def tyNm : Nat → String
  | 0 => "str"
  | 1 => "int"
  | 2 => "bool"
  | 3 => "tuple"
  | 4 => "list"
  | 5 => "dict"
  | _ => "NoneType"
def kD : Key → D
  | .inl i => .int i
  | .inr x => .str x.cps.toList
def ScrAt (K : PySem.W.Frag) (N : Nd) (H : Hp) (a : Addr) (xs : List V) : Prop := (Rd H a (.lst xs) ∧ ¬ N.N a) ∨
  ∃ (o : Obj) (its : Array Value) (n : Nat), K.lookup a = some o ∧ o.cls = .type "list" ∧ o.dict = none ∧ o.data = .seq its n ∧ its.size ≤ sizeLine ∧ Vals xs its.toList
theorem ScrAt.sq {K : PySem.W.Frag} {N : Nd} {H : Hp} {a : Addr} {xs : List V} (h : ScrAt K N H a xs) : SqL K H a xs := h.imp (fun h => h.1) fun h => h
mutual
inductive Rep (K : PySem.W.Frag) (N : Nd) (H : Hp) : V → D → Prop
  | non : Rep K N H .non .non
  | bl (b : Bool) : Rep K N H (.bl b) (.bl b)
  | int (i : Int) : Rep K N H (.int i) (.int i)
  | str (s : List Nat) : Rep K N H (.str ⟨⟨s⟩⟩) (.str s)
  | tup {a : Addr} {xs : List V} {ds : List D} : SqT K H a xs → RepL K N H xs ds → Rep K N H (.ref a) (.tup ds)
  | lst {a : Addr} {xs : List V} {ds : List D} : H a = some (.lst xs) → ¬ N.N a → RepL K N H xs ds → Rep K N H (.ref a) (.lst ds)
  | scr {a : Addr} {xs : List V} {ds : List D} : ScrAt K N H a xs → True → RepL K N H xs ds → Rep K N H (.ref a) (.scr ds)
  | dK {a : Addr} {ks : List (Key × V)} {kvs : List (D × D)} : Rd H a (.dK ks) → ¬ N.N a → RepK K N H ks kvs → Rep K N H (.ref a) (.dct kvs)
  | dT {a : Addr} {ks : List (List Key × V)} {kvs : List (D × D)} : Rd H a (.dT ks) → ¬ N.N a → RepT K N H ks kvs → Rep K N H (.ref a) (.dtt kvs)
  | ins {a dx : Addr} {c : Str} {gs : List (Str × V)} {fs : List (Str × D)} : H a = some (.ins (He.ga K c) dx gs) → ¬ N.N a → RepF K N H gs fs → Rep K N H (.ref a) (.ins c fs)
  | fn (x : Str) : Rep K N H (.ref (He.ga K x)) (.fn x)
  | ty (n : Nat) : Rep K N H (.ty (tyNm n)) (.ty n)
inductive RepL (K : PySem.W.Frag) (N : Nd) (H : Hp) : List V → List D → Prop
  | nil : RepL K N H [] []
  | cons {v : V} {vs : List V} {d : D} {ds : List D} : Rep K N H v d → RepL K N H vs ds → RepL K N H (v :: vs) (d :: ds)
inductive RepK (K : PySem.W.Frag) (N : Nd) (H : Hp) : List (Key × V) → List (D × D) → Prop
  | nil : RepK K N H [] []
  | cons {k : Key} {v : V} {ks : List (Key × V)} {d : D} {kvs : List (D × D)} : Rep K N H v d → RepK K N H ks kvs → RepK K N H ((k, v) :: ks) ((kD k, d) :: kvs)
inductive RepT (K : PySem.W.Frag) (N : Nd) (H : Hp) : List (List Key × V) → List (D × D) → Prop
  | nil : RepT K N H [] []
  | cons {k : List Key} {v : V} {ks : List (List Key × V)} {d : D} {kvs : List (D × D)} : Rep K N H v d → RepT K N H ks kvs → RepT K N H ((k, v) :: ks) ((.tup (k.map kD), d) :: kvs)
inductive RepF (K : PySem.W.Frag) (N : Nd) (H : Hp) : List (Str × V) → List (Str × D) → Prop
  | nil : RepF K N H [] []
  | cons {f : Str} {v : V} {gs : List (Str × V)} {d : D} {fs : List (Str × D)} : Rep K N H v d → RepF K N H gs fs → RepF K N H ((f, v) :: gs) ((f, d) :: fs)
end

structure Keep (N : Nd) (H H' : Hp) : Prop where
  tup : ∀ a xs, Rd H a (.tup xs) → Rd H' a (.tup xs)
  rest : ∀ a o, ¬ N.N a → H a = some o → H' a = some o
structure KeepO (N : Nd) (H H' : Hp) : Prop where
  tup : ∀ a xs, Rd H a (.tup xs) → Rd H' a (.tup xs)
  rest : ∀ a o, ¬ N.O a → H a = some o → H' a = some o
theorem KeepO.n {N : Nd} {H H' : Hp} (k : KeepO N H H') : Keep N H H' := ⟨k.tup, fun a o n h => k.rest a o (fun z => n (N.on a z)) h⟩
theorem Keep.refl {N : Nd} {H : Hp} : Keep N H H := ⟨fun _ _ h => h, fun _ _ _ h => h⟩
theorem KeepO.refl {N : Nd} {H : Hp} : KeepO N H H := ⟨fun _ _ h => h, fun _ _ _ h => h⟩
theorem KeepO.of_same {N : Nd} {H H' : Hp} (s : Same H H') : KeepO N H H' := ⟨fun a xs h => h.elim (fun h => .inl (s _ _ h)) fun ⟨o, h⟩ => .inr ⟨o, s _ _ h⟩, fun a o _ h => s _ _ h⟩
theorem Keep.of_same {N : Nd} {H H' : Hp} (s : Same H H') : Keep N H H' := ⟨fun a xs h => h.elim (fun h => .inl (s _ _ h)) fun ⟨o, h⟩ => .inr ⟨o, s _ _ h⟩, fun a o _ h => s _ _ h⟩
theorem same_upd {H : Hp} {p : Addr} {o : HO} (h : H p = none) : Same H (upd H p o) := fun b u e => by rw [upd_ne (ne_of_none e h)]; exact e
theorem Keep.new {N : Nd} {H : Hp} {p : Addr} {o : HO} (h : H p = none) : Keep N H (upd H p o) := Keep.of_same (same_upd h)
def Sub (N : Nd) (H : Hp) (N' : Nd) : Prop := ∀ a, N'.N a → N.N a ∨ H a = none
theorem Sub.refl {N : Nd} {H : Hp} : Sub N H N := fun _ h => .inl h
section
variable {K : PySem.W.Frag} {N N' : Nd} {H H' : Hp}
theorem Keep.rd {a : Addr} {u : HO} (k : Keep N H H') (n : ¬ N.N a) (h : Rd H a u) : Rd H' a u := h.elim (fun h => .inl (k.rest _ _ n h)) fun ⟨o, h⟩ => .inr ⟨o, k.rest _ _ n h⟩
theorem Keep.at' {a : Addr} {u : HO} (k : Keep N H H') (n : ¬ N.N a) (h : H a = some u) : H' a = some u := k.rest _ _ n h
theorem Keep.sqT {a : Addr} {xs : List V} (k : Keep N H H') (h : SqT K H a xs) : SqT K H' a xs := h.elim (fun h => .inl (k.tup _ _ h)) .inr
theorem rd_some {a : Addr} {u : HO} (h : Rd H a u) : ∃ o, H a = some o := h.elim (fun h => ⟨_, h⟩) fun ⟨_, h⟩ => ⟨_, h⟩
theorem Sub.not {a : Addr} {o : HO} (s : Sub N H N') (n : ¬ N.N a) (h : H a = some o) : ¬ N'.N a := fun z => (s a z).elim n fun q => by rw [q] at h; cases h
theorem Sub.notR {a : Addr} {u : HO} (s : Sub N H N') (n : ¬ N.N a) (h : Rd H a u) : ¬ N'.N a := let ⟨_, q⟩ := rd_some h; s.not n q
theorem ScrAt.keep {a : Addr} {xs : List V} (k : Keep N H H') (s : Sub N H N') (h : ScrAt K N H a xs) : ScrAt K N' H' a xs := h.imp (fun h => ⟨k.rd h.2 h.1, s.notR h.2 h.1⟩) fun h => h
mutual
theorem Rep.keep (k : Keep N H H') (s : Sub N H N') : ∀ {v : V} {d : D}, Rep K N H v d → Rep K N' H' v d
  | _, _, .non => .non
  | _, _, .bl b => .bl b
  | _, _, .int i => .int i
  | _, _, .str x => .str x
  | _, _, .tup h r => .tup (k.sqT h) (RepL.keep k s r)
  | _, _, .lst h n r => .lst (k.at' n h) (s.not n h) (RepL.keep k s r)
  | _, _, .scr h n r => .scr (h.keep k s) n (RepL.keep k s r)
  | _, _, .dK h n r => .dK (k.rd n h) (s.notR n h) (RepK.keep k s r)
  | _, _, .dT h n r => .dT (k.rd n h) (s.notR n h) (RepT.keep k s r)
  | _, _, .ins h n r => .ins (k.at' n h) (s.not n h) (RepF.keep k s r)
  | _, _, .fn x => .fn x
  | _, _, .ty n => .ty n
theorem RepL.keep (k : Keep N H H') (s : Sub N H N') : ∀ {v : List V} {d : List D}, RepL K N H v d → RepL K N' H' v d
  | _, _, .nil => .nil
  | _, _, .cons a b => .cons (Rep.keep k s a) (RepL.keep k s b)
theorem RepK.keep (k : Keep N H H') (s : Sub N H N') : ∀ {v : List (Key × V)} {d : List (D × D)}, RepK K N H v d → RepK K N' H' v d
  | _, _, .nil => .nil
  | _, _, .cons a b => .cons (Rep.keep k s a) (RepK.keep k s b)
theorem RepT.keep (k : Keep N H H') (s : Sub N H N') : ∀ {v : List (List Key × V)} {d : List (D × D)}, RepT K N H v d → RepT K N' H' v d
  | _, _, .nil => .nil
  | _, _, .cons a b => .cons (Rep.keep k s a) (RepT.keep k s b)
theorem RepF.keep (k : Keep N H H') (s : Sub N H N') : ∀ {v : List (Str × V)} {d : List (Str × D)}, RepF K N H v d → RepF K N' H' v d
  | _, _, .nil => .nil
  | _, _, .cons a b => .cons (Rep.keep k s a) (RepF.keep k s b)
end
theorem Rep.more (s : Same H H') {v : V} {d : D} (r : Rep K N H v d) : Rep K N H' v d := r.keep (Keep.of_same s) Sub.refl
theorem RepL.more (s : Same H H') {v : List V} {d : List D} (r : RepL K N H v d) : RepL K N H' v d := r.keep (Keep.of_same s) Sub.refl
theorem RepL.length : ∀ {vs : List V} {ds : List D}, RepL K N H vs ds → vs.length = ds.length
  | _, _, .nil => rfl
  | _, _, .cons _ r => congrArg (· + 1) (RepL.length r)
theorem RepL.get : ∀ {vs : List V} {ds : List D} {i : Nat} {d : D}, RepL K N H vs ds → ds[i]? = some d → ∃ v, vs[i]? = some v ∧ Rep K N H v d
  | _, _, _, _, .nil, e => by simp at e
  | _, _, 0, _, .cons a _, e => by simp at e; subst e; exact ⟨_, rfl, a⟩
  | _, _, i + 1, d, .cons _ r, e => by
    obtain ⟨v, h1, h2⟩ := RepL.get (i := i) (d := d) r (by simpa using e)
    exact ⟨v, by simpa using h1, h2⟩
theorem RepL.getV : ∀ {vs : List V} {ds : List D} {i : Nat} {v : V}, RepL K N H vs ds → vs[i]? = some v → ∃ d, ds[i]? = some d ∧ Rep K N H v d
  | _, _, _, _, .nil, e => by simp at e
  | _, _, 0, _, .cons a _, e => by simp at e; subst e; exact ⟨_, rfl, a⟩
  | _, _, i + 1, d, .cons _ r, e => by
    obtain ⟨v, h1, h2⟩ := RepL.getV (i := i) (v := d) r (by simpa using e)
    exact ⟨v, by simpa using h1, h2⟩
theorem RepL.append : ∀ {vs us : List V} {ds es : List D}, RepL K N H vs ds → RepL K N H us es → RepL K N H (vs ++ us) (ds ++ es)
  | _, _, _, _, .nil, s => s
  | _, _, _, _, .cons a r, s => .cons a (RepL.append r s)
theorem RepL.drop : ∀ {vs : List V} {ds : List D} (n : Nat), RepL K N H vs ds → RepL K N H (vs.drop n) (ds.drop n)
  | _, _, 0, r => r
  | _, _, n + 1, .nil => .nil
  | _, _, n + 1, .cons _ r => RepL.drop n r
theorem RepL.take : ∀ {vs : List V} {ds : List D} (n : Nat), RepL K N H vs ds → RepL K N H (vs.take n) (ds.take n)
  | _, _, 0, r => .nil
  | _, _, n + 1, .nil => .nil
  | _, _, n + 1, .cons a r => .cons a (RepL.take n r)
theorem RepL.set {v : V} {d : D} (q : Rep K N H v d) : ∀ {vs : List V} {ds : List D} (n : Nat), RepL K N H vs ds → RepL K N H (vs.set n v) (ds.set n d)
  | _, _, _, .nil => .nil
  | _, _, 0, .cons _ r => .cons q r
  | _, _, n + 1, .cons a r => .cons a (RepL.set q n r)
theorem RepL.dropLast {vs : List V} {ds : List D} (r : RepL K N H vs ds) : RepL K N H vs.dropLast ds.dropLast := by
  rw [List.dropLast_eq_take, List.dropLast_eq_take, r.length]
  exact r.take _
theorem RepL.reverse {vs : List V} {ds : List D} (r : RepL K N H vs ds) : RepL K N H vs.reverse ds.reverse := by
  induction vs generalizing ds with
  | nil => cases r; exact .nil
  | cons v vs ih =>
    cases r with
    | cons a r =>
      rw [List.reverse_cons, List.reverse_cons]
      exact (ih r).append (.cons a .nil)
end
end LP

set_option maxRecDepth 100000
set_option maxHeartbeats 1000000
namespace LP
open PySem PySem.Spec
open PyProof.Rows hiding St
open L2
set_option autoImplicit false
inductive OV where
  | d (x : D) | o (id : Nat)
inductive Node where
  | lst (xs : List OV) | dK (kvs : List (D × OV)) | dT (kvs : List (D × OV)) | ins (c : Str) (fs : List (Str × OV))
inductive Sl where
  | no | v (d : D) | o (id : Nat) | exc (d : D)
structure Ro where
  sl : List Sl
  ob : List (Option Node)
def Ro.set (ρ : Ro) (i : Nat) (s : Sl) : Ro := ⟨ρ.sl.set i s, ρ.ob⟩
def RepO (K : PySem.W.Frag) (N : Nd) (H : Hp) (v : V) : OV → Prop
  | .d x => Rep K N H v x
  | .o id => v = .ref (N.al id) ∧ id < N.sz
inductive RepOL (K : PySem.W.Frag) (N : Nd) (H : Hp) : List V → List OV → Prop
  | nil : RepOL K N H [] []
  | cons {v : V} {vs : List V} {d : OV} {ds : List OV} : RepO K N H v d → RepOL K N H vs ds → RepOL K N H (v :: vs) (d :: ds)
inductive RepOK (K : PySem.W.Frag) (N : Nd) (H : Hp) : List (Key × V) → List (D × OV) → Prop
  | nil : RepOK K N H [] []
  | cons {k : Key} {v : V} {ks : List (Key × V)} {d : OV} {kvs : List (D × OV)} : RepO K N H v d → RepOK K N H ks kvs → RepOK K N H ((k, v) :: ks) ((kD k, d) :: kvs)
inductive RepOT (K : PySem.W.Frag) (N : Nd) (H : Hp) : List (List Key × V) → List (D × OV) → Prop
  | nil : RepOT K N H [] []
  | cons {k : List Key} {v : V} {ks : List (List Key × V)} {d : OV} {kvs : List (D × OV)} : RepO K N H v d → RepOT K N H ks kvs → RepOT K N H ((k, v) :: ks) ((.tup (k.map kD), d) :: kvs)
inductive RepOF (K : PySem.W.Frag) (N : Nd) (H : Hp) : List (Str × V) → List (Str × OV) → Prop
  | nil : RepOF K N H [] []
  | cons {f : Str} {v : V} {gs : List (Str × V)} {d : OV} {fs : List (Str × OV)} : RepO K N H v d → RepOF K N H gs fs → RepOF K N H ((f, v) :: gs) ((f, d) :: fs)
def NodeAt (K : PySem.W.Frag) (N : Nd) (H : Hp) (a : Addr) : Node → Prop
  | .lst xs => ∃ vs, H a = some (.lst vs) ∧ RepOL K N H vs xs
  | .dK kvs => ∃ ks, H a = some (.dK ks) ∧ RepOK K N H ks kvs
  | .dT kvs => ∃ ks, H a = some (.dT ks) ∧ RepOT K N H ks kvs
  | .ins c fs => ∃ dx gs, H a = some (.ins (He.ga K c) dx gs) ∧ RepOF K N H gs fs
structure Fx where
  K : PySem.W.Frag
  H0 : Hp
  N0 : Ad
  Pa : Ad
  ea : Addr := 0
  ed : Addr := 0
structure Ht (K : PySem.W.Frag) (N : Nd) (ob : List (Option Node)) (H : Hp) : Prop where
  nod : ∀ (id : Nat) (w : Node), ob[id]? = some (some w) → N.O (N.al id) ∧ NodeAt K N H (N.al id) w
  inj : ∀ (i j : Nat), i < N.sz → j < N.sz → N.al i = N.al j → i = j
  sz : N.sz = ob.length
  nin : ∀ a, N.N a → ∃ o, H a = some o
  has : ∀ (i : Nat), i < N.sz → ∃ o, H (N.al i) = some o
structure Rel (F : Fx) (N : Nd) (ρ : Ro) (σ : L2.St) (H : Hp) : Prop where
  val : ∀ (i : Nat) (d : D), ρ.sl[i]? = some (Sl.v d) → ∃ v, σ[i]? = some (some v) ∧ Rep F.K N H v d
  obj : ∀ (i : Nat) (id : Nat), ρ.sl[i]? = some (Sl.o id) → σ[i]? = some (some (V.ref (N.al id))) ∧ id < N.sz
  ht : Ht F.K N ρ.ob H
  own : ∀ a, N.O a → F.Pa a ∨ F.H0 a = none
  exc : ∀ (i : Nat) (d : D), ρ.sl[i]? = some (Sl.exc d) → ∃ v, σ[i]? = some (some (V.ref F.ea)) ∧ H F.ed = some (.xd [(("at" : Str), v)]) ∧ ¬ N.N F.ed ∧ Rep F.K N H v d
  frame : ∀ a o, F.H0 a = some o → ¬ F.Pa a → H a = some o
  n0 : ∀ a, F.N0 a → ¬ F.Pa a → N.N a
  z0 : ∀ a, F.N0 a → ∃ o, F.H0 a = some o
  len : σ.length = ρ.sl.length
theorem Rel.nin {F : Fx} {N : Nd} {ρ : Ro} {σ : L2.St} {H : Hp} (R : Rel F N ρ σ H) : ∀ a, N.N a → ∃ o, H a = some o := R.ht.nin
structure Mv (N : Nd) (H : Hp) (N' : Nd) (H' : Hp) : Prop where
  keep : KeepO N H H'
  sub : Sub N H N'
  subO : ∀ a, N'.O a → N.O a ∨ H a = none
  stay : ∀ a o, N.N a → ¬ N.O a → H a = some o → N'.N a
  szs : N.sz ≤ N'.sz
  als : ∀ i, i < N.sz → N'.al i = N.al i
theorem Mv.refl {N : Nd} {H : Hp} : Mv N H N H := ⟨.refl, .refl, fun _ h => .inl h, fun _ _ h _ _ => h, Nat.le_refl _, fun _ _ => rfl⟩
theorem Mv.trans {N N1 N2 : Nd} {H H1 H2 : Hp} (a : Mv N H N1 H1) (b : Mv N1 H1 N2 H2) : Mv N H N2 H2 := by
  have back : ∀ p, ¬ N.O p → H1 p = none → H p = none := fun p n q => by
    cases e : H p with
    | none => rfl
    | some o => rw [a.keep.rest _ _ n e] at q; cases q
  refine ⟨⟨fun p xs h => b.keep.tup _ _ (a.keep.tup _ _ h), fun p o n h => b.keep.rest _ _ (fun z => (a.subO p z).elim n fun q => by rw [h] at q; cases q) (a.keep.rest _ _ n h)⟩, fun p z => (b.sub p z).elim (fun q => a.sub p q) fun q => ?_, fun p z => (b.subO p z).elim (fun q => a.subO p q) fun q => ?_, fun p o h n e => b.stay p o (a.stay p o h n e) (fun z => ?_) (a.keep.rest _ _ n e), Nat.le_trans a.szs b.szs, fun i h => (b.als i (Nat.lt_of_lt_of_le h a.szs)).trans (a.als i h)⟩
  · by_cases n : N.O p
    · exact .inl (N.on p n)
    · exact .inr (back p n q)
  · by_cases n : N.O p
    · exact .inl n
    · exact .inr (back p n q)
  · exact (a.subO p z).elim n fun q => by rw [e] at q; cases q
theorem Mv.same {N : Nd} {H H' : Hp} (s : Same H H') : Mv N H N H' := ⟨KeepO.of_same s, .refl, fun _ h => .inl h, fun _ _ h _ _ => h, Nat.le_refl _, fun _ _ => rfl⟩
theorem Rep.mv {K : PySem.W.Frag} {N N' : Nd} {H H' : Hp} {v : V} {d : D} (r : Rep K N H v d) (m : Mv N H N' H') : Rep K N' H' v d := r.keep m.keep.n m.sub
theorem RepL.mv {K : PySem.W.Frag} {N N' : Nd} {H H' : Hp} {v : List V} {d : List D} (r : RepL K N H v d) (m : Mv N H N' H') : RepL K N' H' v d := r.keep m.keep.n m.sub
structure Als (N N' : Nd) : Prop where
  szs : N.sz ≤ N'.sz
  als : ∀ i, i < N.sz → N'.al i = N.al i
theorem Als.refl {N : Nd} : Als N N := ⟨Nat.le_refl _, fun _ _ => rfl⟩
theorem Mv.al {N N' : Nd} {H H' : Hp} (m : Mv N H N' H') : Als N N' := ⟨m.szs, m.als⟩
section
variable {K : PySem.W.Frag} {N N' : Nd} {H H' : Hp}
theorem RepO.keep (k : Keep N H H') (s : Sub N H N') (l : Als N N') {v : V} : ∀ {x : OV}, RepO K N H v x → RepO K N' H' v x
  | .d _, r => Rep.keep k s r
  | .o id, ⟨h, z⟩ => ⟨by rw [l.als id z]; exact h, Nat.lt_of_lt_of_le z l.szs⟩
theorem RepOL.keep (k : Keep N H H') (s : Sub N H N') (l : Als N N') : ∀ {v : List V} {x : List OV}, RepOL K N H v x → RepOL K N' H' v x
  | _, _, .nil => .nil
  | _, _, .cons a b => .cons (RepO.keep k s l a) (RepOL.keep k s l b)
theorem RepOK.keep (k : Keep N H H') (s : Sub N H N') (l : Als N N') : ∀ {v : List (Key × V)} {x : List (D × OV)}, RepOK K N H v x → RepOK K N' H' v x
  | _, _, .nil => .nil
  | _, _, .cons a b => .cons (RepO.keep k s l a) (RepOK.keep k s l b)
theorem RepOT.keep (k : Keep N H H') (s : Sub N H N') (l : Als N N') : ∀ {v : List (List Key × V)} {x : List (D × OV)}, RepOT K N H v x → RepOT K N' H' v x
  | _, _, .nil => .nil
  | _, _, .cons a b => .cons (RepO.keep k s l a) (RepOT.keep k s l b)
theorem RepOF.keep (k : Keep N H H') (s : Sub N H N') (l : Als N N') : ∀ {v : List (Str × V)} {x : List (Str × OV)}, RepOF K N H v x → RepOF K N' H' v x
  | _, _, .nil => .nil
  | _, _, .cons a b => .cons (RepO.keep k s l a) (RepOF.keep k s l b)
theorem NodeAt.keep (k : Keep N H H') (s : Sub N H N') (l : Als N N') {a : Addr} (ha : ∀ o, H a = some o → H' a = some o) : ∀ {w : Node}, NodeAt K N H a w → NodeAt K N' H' a w
  | .lst _, ⟨vs, h, r⟩ => ⟨vs, ha _ h, r.keep k s l⟩
  | .dK _, ⟨vs, h, r⟩ => ⟨vs, ha _ h, r.keep k s l⟩
  | .dT _, ⟨vs, h, r⟩ => ⟨vs, ha _ h, r.keep k s l⟩
  | .ins _ _, ⟨dx, vs, h, r⟩ => ⟨dx, vs, ha _ h, r.keep k s l⟩
end
section
variable {F : Fx} {N N' : Nd} {ρ : Ro} {σ : L2.St} {H H' : Hp}
theorem Rel.more (R : Rel F N ρ σ H) (s : Same H H') : Rel F N ρ σ H' where
  val := fun i d e => let ⟨v, h, r⟩ := R.val i d e; ⟨v, h, r.more s⟩
  obj := R.obj
  ht := ⟨fun i w e => let ⟨a, q⟩ := R.ht.nod i w e; ⟨a, q.keep (Keep.of_same s) .refl .refl fun o h => s _ _ h⟩, R.ht.inj, R.ht.sz, fun a n => let ⟨o, h⟩ := R.ht.nin a n; ⟨o, s _ _ h⟩, fun i n => let ⟨o, h⟩ := R.ht.has i n; ⟨o, s _ _ h⟩⟩
  own := R.own
  exc := fun i d e => let ⟨v, h1, h2, h3, h4⟩ := R.exc i d e; ⟨v, h1, s _ _ h2, h3, h4.more s⟩
  frame := fun a o h p => s _ _ (R.frame a o h p)
  n0 := R.n0
  z0 := R.z0
  len := R.len
theorem set_at {ρ : Ro} {i j : Nat} {s t : Sl} (h : (ρ.set i s).sl[j]? = some t) : (j = i ∧ t = s ∧ i < ρ.sl.length) ∨ (j ≠ i ∧ ρ.sl[j]? = some t) := by
  have h : (ρ.sl.set i s)[j]? = some t := h
  by_cases q : i = j
  · subst q
    have hl : i < ρ.sl.length := by
      have := (List.getElem?_eq_some_iff.mp h).1
      simpa using this
    rw [List.getElem?_set_self hl] at h
    cases h
    exact .inl ⟨rfl, rfl, hl⟩
  · rw [List.getElem?_set_ne q] at h
    exact .inr ⟨fun z => q z.symm, h⟩
theorem Rel.set (R : Rel F N ρ σ H) {i : Nat} {v : V} {d : D} (r : Rep F.K N H v d) : Rel F N (ρ.set i (.v d)) (σ.set i (some v)) H where
  val := fun j e h => by
    rcases set_at h with ⟨rfl, q, hl⟩ | ⟨n, h⟩
    · cases q
      exact ⟨v, by rw [List.getElem?_set_self (by rw [R.len]; exact hl)], r⟩
    · rw [List.getElem?_set_ne (Ne.symm n)]
      exact R.val j e h
  obj := fun j id h => by
    rcases set_at h with ⟨rfl, q, hl⟩ | ⟨n, h⟩
    · cases q
    · rw [List.getElem?_set_ne (Ne.symm n)]
      exact R.obj j id h
  ht := R.ht
  own := R.own
  exc := fun j e h => by
    rcases set_at h with ⟨rfl, q, hl⟩ | ⟨n, h⟩
    · cases q
    · rw [List.getElem?_set_ne (Ne.symm n)]
      exact R.exc j e h
  frame := R.frame
  n0 := R.n0
  z0 := R.z0
  len := by simp [Ro.set, R.len]
theorem Rel.setO (R : Rel F N ρ σ H) {i id : Nat} (hz : id < N.sz) : Rel F N (ρ.set i (.o id)) (σ.set i (some (.ref (N.al id)))) H where
  val := fun j e h => by
    rcases set_at h with ⟨rfl, q, hl⟩ | ⟨n, h⟩
    · cases q
    · rw [List.getElem?_set_ne (Ne.symm n)]
      exact R.val j e h
  obj := fun j id h => by
    rcases set_at h with ⟨rfl, q, hl⟩ | ⟨n, h⟩
    · cases q
      exact ⟨by rw [List.getElem?_set_self (by rw [R.len]; exact hl)], hz⟩
    · rw [List.getElem?_set_ne (Ne.symm n)]
      exact R.obj j id h
  ht := R.ht
  own := R.own
  exc := fun j e h => by
    rcases set_at h with ⟨rfl, q, hl⟩ | ⟨n, h⟩
    · cases q
    · rw [List.getElem?_set_ne (Ne.symm n)]
      exact R.exc j e h
  frame := R.frame
  n0 := R.n0
  z0 := R.z0
  len := by simp [Ro.set, R.len]
end
def OV.sl : OV → Sl
  | .d x => .v x
  | .o id => .o id
theorem Rel.setX {F : Fx} {N : Nd} {ρ : Ro} {σ : L2.St} {H : Hp} (R : Rel F N ρ σ H) {i : Nat} {v : V} : ∀ {x : OV}, RepO F.K N H v x → Rel F N (ρ.set i x.sl) (σ.set i (some v)) H
  | .d _, r => R.set r
  | .o _, ⟨e, z⟩ => by subst e; exact R.setO z
theorem RepO.mv {K : PySem.W.Frag} {N N' : Nd} {H H' : Hp} {v : V} {x : OV} (r : RepO K N H v x) (m : Mv N H N' H') : RepO K N' H' v x := r.keep m.keep.n m.sub m.al
theorem RepOL.mv {K : PySem.W.Frag} {N N' : Nd} {H H' : Hp} {v : List V} {x : List OV} (r : RepOL K N H v x) (m : Mv N H N' H') : RepOL K N' H' v x := r.keep m.keep.n m.sub m.al
theorem Rel.step {F : Fx} {N N' : Nd} {ρ : Ro} {σ : L2.St} {H H' : Hp} {ob' : List (Option Node)} (R : Rel F N ρ σ H) (m : Mv N H N' H') (h : Ht F.K N' ob' H') : Rel F N' ⟨ρ.sl, ob'⟩ σ H' where
  val := fun i d e => let ⟨v, h, r⟩ := R.val i d e; ⟨v, h, r.mv m⟩
  obj := fun i id e => by
    obtain ⟨h1, h2⟩ := R.obj i id e
    rw [m.als id h2]
    exact ⟨h1, Nat.lt_of_lt_of_le h2 m.szs⟩
  ht := h
  own := fun a o => (m.subO a o).elim (R.own a) fun q => by
    by_cases p : F.Pa a
    · exact .inl p
    · right
      cases e : F.H0 a with
      | none => rfl
      | some o => have := R.frame a o e p; rw [q] at this; cases this
  exc := fun i d e => by
    obtain ⟨v, h1, h2, h3, h4⟩ := R.exc i d e
    exact ⟨v, h1, m.keep.n.rest _ _ h3 h2, m.sub.not h3 h2, h4.mv m⟩
  frame := fun a o h p => m.keep.rest a o (fun z => (R.own a z).elim p fun q => by rw [q] at h; cases h) (R.frame a o h p)
  n0 := fun a h p => by
    have n := R.n0 a h p
    obtain ⟨o, q⟩ := R.ht.nin a n
    by_cases z : N.O a
    · obtain ⟨o', q'⟩ := R.z0 a h
      exact ((R.own a z).elim p fun q0 => by rw [q0] at q'; cases q').elim
    · exact m.stay a o n z q
  z0 := R.z0
  len := R.len
inductive Res (α : Type) where
  | ok (a : α) | er (c : Str) (d : D)
abbrev M (α : Type) := Ro → Option (Res α × Ro)
abbrev Ev := M D
abbrev EvT := M Bool
abbrev EvA := M (List D)
def bnd {α β : Type} (m : M α) (k : α → M β) : M β := fun ρ => match m ρ with
  | some (.ok a, ρ1) => k a ρ1
  | some (.er c d, ρ1) => some (.er c d, ρ1)
  | none => none
def optM {α : Type} (o : Option α) : M α := fun ρ => match o with
  | some a => some (.ok a, ρ)
  | none => none
def retM {α : Type} (a : α) : M α := fun ρ => some (.ok a, ρ)
theorem bnd_some {α β : Type} {m : M α} {k : α → M β} {ρ ρ' : Ro} {r : Res β} (h : bnd m k ρ = some (r, ρ')) : (∃ a ρ1, m ρ = some (.ok a, ρ1) ∧ k a ρ1 = some (r, ρ')) ∨ ∃ c d, m ρ = some (.er c d, ρ') ∧ r = .er c d := by
  unfold bnd at h
  split at h
  · rename_i a ρ1 h1
    exact .inl ⟨a, ρ1, h1, h⟩
  · rename_i c d ρ1 h1
    cases h
    exact .inr ⟨c, d, h1, rfl⟩
  · cases h
theorem optM_some {α : Type} {o : Option α} {ρ ρ' : Ro} {r : Res α} (h : optM o ρ = some (r, ρ')) : ∃ a, o = some a ∧ r = .ok a ∧ ρ' = ρ := by
  unfold optM at h
  split at h
  · cases h
    exact ⟨_, rfl, rfl, rfl⟩
  · cases h
def XKs (F : Fx) (W : WX) (N : Nd) (H : Hp) (σ : L2.St) (c : Str) (d : D) (ρ' : Ro) : Prop :=
  ∀ v dd H' N', Rel F N' ρ' σ H' → Mv N H N' H' → H' dd = some (.xd [(("at" : Str), v)]) → ¬ N'.N dd → Rep F.K N' H' v d → W (.ref (He.ga F.K c)) (some dd) σ H'
def CK {α β : Type} (F : Fx) (W : WX) (N : Nd) (H : Hp) (σ : L2.St) (ρ' : Ro) (rel : Nd → Hp → β → α → Prop) (Q : β → Hp → Prop) : Res α → Prop
  | .ok a => ∀ x H' N', Rel F N' ρ' σ H' → Mv N H N' H' → rel N' H' x a → Q x H'
  | .er c d => XKs F W N H σ c d ρ'
def tM {α β : Type} (F : Fx) (W : WX) (m : M α) (rel : Nd → Hp → β → α → Prop) : L2.St → Hp → (β → Hp → Prop) → Prop := fun σ H Q =>
  ∃ N ρ r ρ', Rel F N ρ σ H ∧ m ρ = some (r, ρ') ∧ CK F W N H σ ρ' rel Q r
abbrev tD (F : Fx) (W : WX) (f : Ev) : TE := tM F W f (Rep F.K)
abbrev tDT (F : Fx) (W : WX) (f : EvT) : TT := tM F W f fun _ _ x a => x = a
abbrev tDA (F : Fx) (W : WX) (f : EvA) : TA := tM F W f (RepL F.K)

section
variable {α β γ δ : Type} {F : Fx} {W : WX} {N N1 : Nd} {H H1 : Hp} {σ : L2.St} {ρ ρ' ρ1 : Ro}
theorem XKs.mv {c : Str} {d : D} (m : Mv N H N1 H1) (h : XKs F W N H σ c d ρ') : XKs F W N1 H1 σ c d ρ' := fun v dd H' N' R m' => h v dd H' N' R (m.trans m')
theorem CK.mv {rel : Nd → Hp → β → α → Prop} {Q : β → Hp → Prop} {r : Res α} (m : Mv N H N1 H1) (h : CK F W N H σ ρ' rel Q r) : CK F W N1 H1 σ ρ' rel Q r := by
  cases r with
  | ok a => exact fun x H' N' R m' => h x H' N' R (m.trans m')
  | er c d => exact XKs.mv m h
theorem tM_bind {m : M α} {k : α → M γ} {ra : Nd → Hp → β → α → Prop} {rb : Nd → Hp → δ → γ → Prop} {Q : δ → Hp → Prop} {P : β → Hp → Prop} {r : Res γ} (R : Rel F N ρ σ H) (e : bnd m k ρ = some (r, ρ')) (q : CK F W N H σ ρ' rb Q r)
    (body : ∀ a ρ1 x H1 N1, Rel F N1 ρ1 σ H1 → ra N1 H1 x a → k a ρ1 = some (r, ρ') → Mv N H N1 H1 → CK F W N1 H1 σ ρ' rb Q r → P x H1) : tM F W m ra σ H P := by
  rcases bnd_some e with ⟨a, ρ1, e1, e2⟩ | ⟨c, d, e1, rfl⟩
  · exact ⟨N, ρ, .ok a, ρ1, R, e1, fun x H1 N1 R1 m1 r1 => body a ρ1 x H1 N1 R1 r1 e2 m1 (q.mv m1)⟩
  · exact ⟨N, ρ, .er c d, ρ', R, e1, q⟩
theorem CK.fin {rel : Nd → Hp → β → α → Prop} {Q : β → Hp → Prop} {a : α} {x : β} (q : CK F W N H σ ρ' rel Q (.ok a)) (R : Rel F N ρ' σ H) (r : rel N H x a) : Q x H := q x H N R .refl r
theorem CK.more {rel : Nd → Hp → β → α → Prop} {Q : β → Hp → Prop} {a : α} {x : β} (q : CK F W N H σ ρ' rel Q (.ok a)) (R : Rel F N ρ' σ H) (s : Same H H1) (r : rel N H1 x a) : Q x H1 := q x H1 N (R.more s) (.same s) r
end
inductive Out where
  | nx (ρ : Ro) | rt (x : OV) (ρ : Ro) | bk (ρ : Ro) | ct (ρ : Ro) | rs (c : Str) (d : D) (ρ : Ro)
abbrev Sv := Ro → Option Out
def Post (F : Fx) (W : WX) (E : Ends) (N : Nd) (H : Hp) : Out → Prop
  | .nx ρ => ∀ σ' H' N', Rel F N' ρ σ' H' → Mv N H N' H' → E.nx σ' H'
  | .rt x ρ => ∀ v σ' H' N', Rel F N' ρ σ' H' → Mv N H N' H' → RepO F.K N' H' v x → E.rt v H'
  | .bk ρ => ∀ σ' H' N', Rel F N' ρ σ' H' → Mv N H N' H' → E.bk σ' H'
  | .ct ρ => ∀ σ' H' N', Rel F N' ρ σ' H' → Mv N H N' H' → E.ct σ' H'
  | .rs c d ρ => ∀ σ', XKs F W N H σ' c d ρ
def tDS (F : Fx) (W : WX) (f : Sv) : TS := fun E σ H => ∃ N ρ o, Rel F N ρ σ H ∧ f ρ = some o ∧ Post F W E N H o
theorem Post.mv {F : Fx} {W : WX} {E : Ends} {N N1 : Nd} {H H1 : Hp} {o : Out} (m : Mv N H N1 H1) (h : Post F W E N H o) : Post F W E N1 H1 o := by
  cases o with
  | nx ρ => exact fun σ' H' N' R m' => h σ' H' N' R (m.trans m')
  | rt d ρ => exact fun v σ' H' N' R m' => h v σ' H' N' R (m.trans m')
  | bk ρ => exact fun σ' H' N' R m' => h σ' H' N' R (m.trans m')
  | ct ρ => exact fun σ' H' N' R m' => h σ' H' N' R (m.trans m')
  | rs c d ρ => exact fun σ' => (h σ').mv m
theorem _root_.L2.PE.imp {X : Cx} {e : Expr} {t t' : TE} (h : PE X e t) (i : ∀ σ H Q, t' σ H Q → t σ H Q) : PE X e t' := ⟨fun pins s σ H Q I hw => h.run pins s σ H Q I (i _ _ _ hw)⟩
theorem _root_.L2.PT.imp {X : Cx} {e : Expr} {t t' : TT} (h : PT X e t) (i : ∀ σ H Q, t' σ H Q → t σ H Q) : PT X e t' := ⟨fun pins s σ H Q I hw => h.run pins s σ H Q I (i _ _ _ hw)⟩
theorem _root_.L2.PW.imp {X : Cx} {e : Expr} {t t' : TT} (h : PW X e t) (i : ∀ σ H Q, t' σ H Q → t σ H Q) : PW X e t' := ⟨fun whole pins s σ H Q I hw => h.run whole pins s σ H Q I (i _ _ _ hw)⟩
theorem _root_.L2.PA.imp {X : Cx} {e : List Expr} {t t' : TA} (h : PA X e t) (i : ∀ σ H Q, t' σ H Q → t σ H Q) : PA X e t' := ⟨fun pos pins s σ H Q I hw => h.run pos pins s σ H Q I (i _ _ _ hw)⟩
theorem _root_.L2.PS.imp {X : Cx} {e : Stmt} {t t' : TS} (h : PS X e t) (i : ∀ E σ H, t' E σ H → t E σ H) : PS X e t' := ⟨fun pins s σ H D I hw => h.run pins s σ H D I (i _ _ _ hw)⟩
theorem _root_.L2.PSs.imp {X : Cx} {e : List Stmt} {t t' : TS} (h : PSs X e t) (i : ∀ E σ H, t' E σ H → t E σ H) : PSs X e t' := ⟨fun pins s σ H D I hw => h.run pins s σ H D I (i _ _ _ hw)⟩
theorem Rel.notNew {F : Fx} {N : Nd} {ρ : Ro} {σ : L2.St} {H : Hp} {p : Addr} (R : Rel F N ρ σ H) (hp : H p = none) : ¬ N.N p := fun z => by
  obtain ⟨o, q⟩ := R.nin p z
  rw [hp] at q
  cases q
section
variable {X : Cx} {F : Fx} {W : WX}
def vF (i : Nat) : Ev := fun ρ => match ρ.sl[i]? with
  | some (.v d) => some (.ok d, ρ)
  | _ => none
theorem de_var {i : Nat} {e : Expr} (h : PE X e (tVar i)) : PE X e (tD F W (vF i)) := h.imp fun σ H Q ⟨N, ρ, r, ρ', R, e, k⟩ => by
  unfold vF at e
  split at e
  · rename_i d' h'
    cases e
    obtain ⟨v, h1, r⟩ := R.val i _ h'
    exact ⟨v, h1, k.fin R r⟩
  · cases e
def cF (d : D) : Ev := retM d
theorem de_const {e : Expr} {v : V} {d : D} (h : PE X e (tC v)) (r : ∀ N H, Rep F.K N H v d) : PE X e (tD F W (cF d)) := h.imp fun σ H Q ⟨N, ρ, d', ρ', R, e, k⟩ => by
  cases e
  exact k.fin R (r N H)
theorem de_int {i : Int} {j pos} : PE X (.Constant (.int i) j pos) (tD F W (cF (.int i))) := de_const pe_int fun _ _ => .int i
theorem de_bl {b : Bool} {j pos} : PE X (.Constant (.bool b) j pos) (tD F W (cF (.bl b))) := de_const pe_bl fun _ _ => .bl b
theorem de_non {j pos} : PE X (.Constant .none j pos) (tD F W (cF .non)) := de_const pe_non fun _ _ => .non
theorem de_str {x : Str} {s : List Nat} {j pos} (h : x = ⟨⟨s⟩⟩) : PE X (.Constant (.str x) j pos) (tD F W (cF (.str s))) := de_const pe_str fun _ _ => by rw [h]; exact .str s
def Op2 (K : PySem.W.Frag) (r : R2) (g : D → D → Option D) : Prop := ∀ N H x y a b c Q, (∀ p, N.N p → ∃ o, H p = some o) → Rep K N H x a → Rep K N H y b → g a b = some c → (∀ v H', Same H H' → Rep K N H' v c → Q v H') → r x y H Q
def bF (g : D → D → Option D) (fa fb : Ev) : Ev := bnd fa fun a => bnd fb fun b => optM (g a b)
theorem two_of {g : D → D → Option D} {fa fb : Ev} {r : R2} (o : Op2 F.K r g) {σ : L2.St} {H : Hp} {Q : VK} (h : tD F W (bF g fa fb) σ H Q) : tOp r (tD F W fa) (tD F W fb) σ H Q := by
  obtain ⟨N, ρ, c, ρ', R, e, k⟩ := h
  refine tM_bind R e k fun a ρ1 x H1 N1 R1 r1 e1 m1 k1 => tM_bind R1 e1 k1 fun b ρ2 y H2 N2 R2 r2 e2 m2 k2 => ?_
  obtain ⟨c, e3, rfl, rfl⟩ := optM_some e2
  exact o N2 H2 x y a b c Q R2.nin (r1.mv m2) r2 e3 fun v H3 s r => k2.more R2 s r
theorem de_op {op : Operator} {a b : Expr} {fa fb : Ev} {r : R2} {g : D → D → Option D} {pos : Pos} (ho : OpR X (binaryOp op) r) (o : Op2 F.K r g) (ha : PE X a (tD F W fa)) (hb : PE X b (tD F W fb)) : PE X (.BinOp a op b pos) (tD F W (bF g fa fb)) :=
  (pe_op ho ha hb).imp fun _ _ _ h => two_of o h
theorem de_cmp {op : CmpOp} {a b : Expr} {fa fb : Ev} {r : R2} {g : D → D → Option D} {pos : Pos} (ho : OpR X (compareOp op) r) (o : Op2 F.K r g) (ha : PE X a (tD F W fa)) (hb : PE X b (tD F W fb)) (hm : behindInMarks op b = false) : PE X (.Compare a [op] [b] pos) (tD F W (bF g fa fb)) :=
  (pe_cmpR ho ha hb hm).imp fun _ _ _ h => two_of o h
theorem de_ix {a b : Expr} {fa fb : Ev} {r : R2} {g : D → D → Option D} {pos : Pos} (ho : IxR X r) (o : Op2 F.K r g) (ha : PE X a (tD F W fa)) (hb : PE X b (tD F W fb)) (hs : PlainIx b) : PE X (.Subscript a b pos) (tD F W (bF g fa fb)) :=
  (pe_ix ho ha hb hs).imp fun _ _ _ h => two_of o h
def asB : D → Option Bool
  | .bl b => some b
  | _ => none
theorem asB_some {d : D} {b : Bool} (h : asB d = some b) : d = .bl b := by
  cases d with
  | bl c => cases h; rfl
  | _ => cases h
def tF (f : Ev) : EvT := bnd f fun d => optM (asB d)
theorem dt_val {e : Expr} {f : Ev} (h : PE X e (tD F W f)) (he : ∀ whole, isTrue e X.env whole = (do let v ← whole; standAt e.pos; holding [v] (truthy v)) := by intro _; rfl) : PT X e (tDT F W (tF f)) :=
  (pt_val h he).imp fun σ H Q ⟨N, ρ, b, ρ', R, e, k⟩ => tM_bind R e k fun a ρ1 x H1 N1 R1 r1 e1 m1 k1 => by
    obtain ⟨c, e3, rfl, rfl⟩ := optM_some e1
    obtain rfl := asB_some e3
    cases r1
    exact ⟨c, rfl, k1.fin R1 rfl⟩
def notF (f : EvT) : EvT := bnd f fun b => retM (!b)
theorem dt_not {a : Expr} {f : EvT} {pos : Pos} (h : PT X a (tDT F W f)) : PT X (.UnaryOp .Not a pos) (tDT F W (notF f)) :=
  (pt_not h).imp fun σ H Q ⟨N, ρ, b, ρ', R, e, k⟩ => tM_bind R e k fun a ρ1 x H1 N1 R1 r1 e1 m1 k1 => by
    cases e1
    subst r1
    exact k1.fin R1 rfl
def andF (f g : EvT) : EvT := bnd f fun b => if b then g else retM false
def orF (f g : EvT) : EvT := bnd f fun b => if b then retM true else g
theorem dw_and1 {a : Expr} {f : EvT} {pos : Pos} (h : PT X a (tDT F W f)) : PW X (.BoolOp .And [a] pos) (tDT F W f) := pw_and1 h
theorem dw_or1 {a : Expr} {f : EvT} {pos : Pos} (h : PT X a (tDT F W f)) : PW X (.BoolOp .Or [a] pos) (tDT F W f) := pw_or1 h
theorem dw_and {a b : Expr} {rest : List Expr} {f g : EvT} {pos : Pos} (ha : PT X a (tDT F W f)) (hb : PW X (.BoolOp .And (b :: rest) pos) (tDT F W g)) : PW X (.BoolOp .And (a :: b :: rest) pos) (tDT F W (andF f g)) :=
  (pw_and ha hb).imp fun σ H Q ⟨N, ρ, c, ρ', R, e, k⟩ => tM_bind R e k fun a ρ1 x H1 N1 R1 r1 e1 m1 k1 => by
    subst r1
    cases x with
    | true => exact iteT ⟨N1, ρ1, c, ρ', R1, e1, k1⟩
    | false => cases e1; exact iteF (k1.fin R1 rfl)
theorem dw_or {a b : Expr} {rest : List Expr} {f g : EvT} {pos : Pos} (ha : PT X a (tDT F W f)) (hb : PW X (.BoolOp .Or (b :: rest) pos) (tDT F W g)) : PW X (.BoolOp .Or (a :: b :: rest) pos) (tDT F W (orF f g)) :=
  (pw_or ha hb).imp fun σ H Q ⟨N, ρ, c, ρ', R, e, k⟩ => tM_bind R e k fun a ρ1 x H1 N1 R1 r1 e1 m1 k1 => by
    subst r1
    cases x with
    | false => exact iteF ⟨N1, ρ1, c, ρ', R1, e1, k1⟩
    | true => cases e1; exact iteT (k1.fin R1 rfl)
def andV (f g : Ev) : Ev := bnd f fun d => bnd (optM (asB d)) fun b => if b then g else retM (.bl false)
def orV (f g : Ev) : Ev := bnd f fun d => bnd (optM (asB d)) fun b => if b then retM (.bl true) else g
theorem bnd_opt {α β : Type} {o : Option α} {k : α → M β} {ρ ρ' : Ro} {r : Res β} (h : bnd (optM o) k ρ = some (r, ρ')) : ∃ a, o = some a ∧ k a ρ = some (r, ρ') := by
  rcases bnd_some h with ⟨a, ρ1, e1, e2⟩ | ⟨c, d, e1, rfl⟩
  · obtain ⟨b, e3, e4, rfl⟩ := optM_some e1
    cases e4
    exact ⟨_, e3, e2⟩
  · obtain ⟨b, e3, e4, rfl⟩ := optM_some e1
    cases e4
theorem de_one {op} {a : Expr} {f : Ev} {pos : Pos} (h : PE X a (tD F W f)) : PE X (.BoolOp op [a] pos) (tD F W f) := pe_one h
theorem de_and {a b : Expr} {rest : List Expr} {f g : Ev} {pos : Pos} (ha : PE X a (tD F W f)) (hb : PE X (.BoolOp .And (b :: rest) pos) (tD F W g)) : PE X (.BoolOp .And (a :: b :: rest) pos) (tD F W (andV f g)) :=
  (pe_and ha hb).imp fun σ H Q ⟨N, ρ, c, ρ', R, e, k⟩ => tM_bind R e k fun a ρ1 x H1 N1 R1 r1 e1 m1 k1 => by
    obtain ⟨b, e3, e2⟩ := bnd_opt e1
    obtain rfl := asB_some e3
    cases r1
    refine ⟨b, rfl, ?_⟩
    cases b with
    | true => exact iteT ⟨N1, ρ1, c, ρ', R1, e2, k1⟩
    | false => cases e2; exact iteF (k1.fin R1 (.bl false))
theorem de_or {a b : Expr} {rest : List Expr} {f g : Ev} {pos : Pos} (ha : PE X a (tD F W f)) (hb : PE X (.BoolOp .Or (b :: rest) pos) (tD F W g)) : PE X (.BoolOp .Or (a :: b :: rest) pos) (tD F W (orV f g)) :=
  (pe_or ha hb).imp fun σ H Q ⟨N, ρ, c, ρ', R, e, k⟩ => tM_bind R e k fun a ρ1 x H1 N1 R1 r1 e1 m1 k1 => by
    obtain ⟨b, e3, e2⟩ := bnd_opt e1
    obtain rfl := asB_some e3
    cases r1
    refine ⟨b, rfl, ?_⟩
    cases b with
    | false => exact iteF ⟨N1, ρ1, c, ρ', R1, e2, k1⟩
    | true => cases e2; exact iteT (k1.fin R1 (.bl true))
def notV (f : Ev) : Ev := bnd f fun d => bnd (optM (asB d)) fun b => retM (.bl (!b))
theorem de_not {a : Expr} {f : Ev} {pos : Pos} (h : PE X a (tD F W f)) : PE X (.UnaryOp .Not a pos) (tD F W (notV f)) :=
  (pe_not h).imp fun σ H Q ⟨N, ρ, c, ρ', R, e, k⟩ => tM_bind R e k fun a ρ1 x H1 N1 R1 r1 e1 m1 k1 => by
    obtain ⟨b, e3, e2⟩ := bnd_opt e1
    obtain rfl := asB_some e3
    cases r1
    cases e2
    exact ⟨b, rfl, k1.fin R1 (.bl _)⟩
def ifF (t : EvT) (f g : Ev) : Ev := bnd t fun b => if b then f else g
theorem de_if {c a b : Expr} {t : EvT} {f g : Ev} {pos : Pos} (hc : PT X c (tDT F W t)) (ha : PE X a (tD F W f)) (hb : PE X b (tD F W g)) : PE X (.IfExp c a b pos) (tD F W (ifF t f g)) :=
  (pe_ifExp hc ha hb).imp fun σ H Q ⟨N, ρ, d, ρ', R, e, k⟩ => tM_bind R e k fun a ρ1 x H1 N1 R1 r1 e1 m1 k1 => by
    subst r1
    cases x with
    | true => exact iteT ⟨N1, ρ1, d, ρ', R1, e1, k1⟩
    | false => exact iteF ⟨N1, ρ1, d, ρ', R1, e1, k1⟩
def nilF : EvA := retM []
def consF (f : Ev) (g : EvA) : EvA := bnd f fun a => bnd g fun as => retM (a :: as)
theorem da_nil : PA X [] (tDA F W nilF) := pa_nil.imp fun σ H Q ⟨N, ρ, d, ρ', R, e, k⟩ => by
  cases e
  exact k.fin R .nil
theorem da_cons {a : Expr} {es : List Expr} {f : Ev} {g : EvA} (ha : PE X a (tD F W f)) (hr : PA X es (tDA F W g)) (hs : starEach (a :: es) X.env = (false, eval a X.env) :: starEach es X.env := by rfl) : PA X (a :: es) (tDA F W (consF f g)) :=
  (pa_cons ha hr hs).imp fun σ H Q ⟨N, ρ, d, ρ', R, e, k⟩ => tM_bind R e k fun a ρ1 x H1 N1 R1 r1 e1 m1 k1 => tM_bind R1 e1 k1 fun as ρ2 xs H2 N2 R2 r2 e2 m2 k2 => by
    cases e2
    exact k2.fin R2 (.cons (r1.mv m2) r2)
def lnOk {α : Type} (l : List α) : Bool := Nat.ble l.length sizeLine
theorem lnOk_le {α : Type} {l : List α} (h : lnOk l = true) : l.length ≤ sizeLine := Nat.le_of_ble_eq_true h
def tupF (f : EvA) : Ev := bnd f fun as => optM (if lnOk as then some (.tup as) else none)
def lstF (f : EvA) : Ev := bnd f fun as => optM (if lnOk as then some (.lst as) else none)
theorem de_tup {es : List Expr} {f : EvA} {x1} {pos : Pos} (h : PA X es (tDA F W f)) : PE X (.Tuple es x1 pos) (tD F W (tupF f)) := (pe_tup h).imp fun σ H Q ⟨N, ρ, d, ρ', R, e, k⟩ => tM_bind R e k fun as ρ1 xs H1 N1 R1 r1 e1 m1 k1 => by
  obtain ⟨c, e3, rfl, rfl⟩ := optM_some e1
  split at e3
  · rename_i hz
    cases e3
    refine ⟨by rw [r1.length]; exact lnOk_le hz, fun p hp => ?_⟩
    have s := same_upd (o := .tup xs) hp
    exact k1.more R1 s (.tup (SqT.of upd_same) (r1.more s))
  · cases e3
theorem de_lst {es : List Expr} {f : EvA} {pos : Pos} (h : PA X es (tDA F W f)) : PE X (.List es pos) (tD F W (lstF f)) := (pe_lst h).imp fun σ H Q ⟨N, ρ, d, ρ', R, e, k⟩ => tM_bind R e k fun as ρ1 xs H1 N1 R1 r1 e1 m1 k1 => by
  obtain ⟨c, e3, rfl, rfl⟩ := optM_some e1
  split at e3
  · rename_i hz
    cases e3
    refine ⟨by rw [r1.length]; exact lnOk_le hz, fun p hp => ?_⟩
    have s := same_upd (o := .lst xs) hp
    exact k1.more R1 s (.lst upd_same (R1.notNew hp) (r1.more s))
  · cases e3
end
end LP

set_option maxRecDepth 100000
set_option maxHeartbeats 1000000
namespace LP
open PySem PySem.Spec
open PyProof.Rows hiding St
open L2
set_option autoImplicit false
section
variable {X : Cx} {F : Fx} {W : WX}
def nxS : Sv := fun ρ => some (.nx ρ)
def seqS (f g : Sv) : Sv := fun ρ => match f ρ with
  | some (.nx ρ1) => g ρ1
  | o => o
def stM {α : Type} (m : M α) (k : α → Sv) : Sv := fun ρ => match m ρ with
  | some (.ok a, ρ1) => k a ρ1
  | some (.er c d, ρ1) => some (.rs c d ρ1)
  | none => none
theorem stM_some {α : Type} {m : M α} {k : α → Sv} {ρ : Ro} {o : Out} (h : stM m k ρ = some o) : (∃ a ρ1, m ρ = some (.ok a, ρ1) ∧ k a ρ1 = some o) ∨ ∃ c d ρ1, m ρ = some (.er c d, ρ1) ∧ o = .rs c d ρ1 := by
  unfold stM at h
  split at h
  · rename_i a ρ1 h1
    exact .inl ⟨a, ρ1, h1, h⟩
  · rename_i c d ρ1 h1
    cases h
    exact .inr ⟨c, d, ρ1, h1, rfl⟩
  · cases h
theorem tM_st {α β : Type} {N : Nd} {H : Hp} {σ : L2.St} {ρ : Ro} {m : M α} {k : α → Sv} {ra : Nd → Hp → β → α → Prop} {E : Ends} {P : β → Hp → Prop} {o : Out} (R : Rel F N ρ σ H) (e : stM m k ρ = some o) (q : Post F W E N H o)
    (body : ∀ a ρ1 x H1 N1, Rel F N1 ρ1 σ H1 → ra N1 H1 x a → k a ρ1 = some o → Mv N H N1 H1 → Post F W E N1 H1 o → P x H1) : tM F W m ra σ H P := by
  rcases stM_some e with ⟨a, ρ1, e1, e2⟩ | ⟨c, d, ρ1, e1, rfl⟩
  · exact ⟨N, ρ, .ok a, ρ1, R, e1, fun x H1 N1 R1 m1 r1 => body a ρ1 x H1 N1 R1 r1 e2 m1 (q.mv m1)⟩
  · exact ⟨N, ρ, .er c d, ρ1, R, e1, q σ⟩
theorem ds_nil : PSs X [] (tDS F W nxS) := pss_nil.imp fun E σ H ⟨N, ρ, o, R, e, q⟩ => by
  cases e
  exact q σ H N R .refl
theorem ds_one {st : Stmt} {f : Sv} (h : PS X st (tDS F W f)) : PSs X [st] (tDS F W f) := pss_one h
theorem ds_cons {st : Stmt} {rest : List Stmt} {f g : Sv} (h1 : PS X st (tDS F W f)) (h2 : PSs X rest (tDS F W g)) : PSs X (st :: rest) (tDS F W (seqS f g)) := (pss_cons h1 h2).imp fun E σ H ⟨N, ρ, o, R, e, q⟩ => by
  unfold seqS at e
  split at e
  · rename_i ρ1 h
    exact ⟨N, ρ, .nx ρ1, R, h, fun σ' H' N' R' m' => ⟨N', ρ1, o, R', e, q.mv m'⟩⟩
  · rename_i hn
    refine ⟨N, ρ, o, R, e, ?_⟩
    cases o with
    | nx ρ1 => exact absurd e (hn ρ1)
    | rt d ρ1 => exact q
    | bk ρ1 => exact q
    | ct ρ1 => exact q
    | rs c d ρ1 => exact q
def rtS (f : Ev) : Sv := stM f fun d ρ => some (.rt (.d d) ρ)
theorem ds_ret {e : Expr} {f : Ev} {pos : Pos} (h : PE X e (tD F W f)) : PS X (.Return (some e) pos) (tDS F W (rtS f)) := (ps_ret h).imp fun E σ H ⟨N, ρ, o, R, e, q⟩ => tM_st R e q fun a ρ1 x H1 N1 R1 r1 e1 m1 q1 => by
  cases e1
  exact q1 x σ H1 N1 R1 .refl r1
theorem ds_retN {pos : Pos} : PS X (.Return none pos) (tDS F W fun ρ => some (.rt (.d .non) ρ)) := ps_retN.imp fun E σ H ⟨N, ρ, o, R, e, q⟩ => by
  cases e
  exact q _ σ H N R .refl (.non : Rep F.K N H .non .non)
def stS (i : Nat) (f : Ev) : Sv := stM f fun d ρ => some (.nx (ρ.set i (.v d)))
theorem ds_set {i : Nat} {x : Str} {e : Expr} {f : Ev} {pos pos' : Pos} (hN : X.N.Nodup) (hi : X.N[i]? = some x) (hx : Loc X.env.scope x) (he : PE X e (tD F W f)) (hs : swapsWith e (some (.Name x pos')) pos.line X.env = pure false := by rfl)
    (hf : X.fn x = true ∨ X.env.scope.names.lookup x = some .local := by first | exact .inl rfl | exact .inr rfl | assumption) : PS X (.Assign [.Name x pos'] e pos) (tDS F W (stS i f)) := (ps_set hN hi hx he hs hf).imp fun E σ H ⟨N, ρ, o, R, e, q⟩ => tM_st R e q fun a ρ1 x H1 N1 R1 r1 e1 m1 q1 => by
  cases e1
  exact q1 _ H1 N1 (R1.set r1) .refl
def exS (f : Ev) : Sv := stM f fun _ ρ => some (.nx ρ)
theorem ds_expr {e : Expr} {f : Ev} {pos : Pos} (he : PE X e (tD F W f)) (hs : swapsWith e none pos.line X.env = pure false := by rfl) : PS X (.Expr e pos) (tDS F W (exS f)) := (ps_expr he hs).imp fun E σ H ⟨N, ρ, o, R, e, q⟩ => tM_st R e q fun a ρ1 x H1 N1 R1 r1 e1 m1 q1 => by
  cases e1
  exact q1 _ H1 N1 R1 .refl
def ifS (t : EvT) (f g : Sv) : Sv := stM t fun b => if b then f else g
theorem ds_if {c : Expr} {a b : List Stmt} {t : EvT} {f g : Sv} {pos : Pos} (hc : PT X c (tDT F W t)) (ha : PSs X a (tDS F W f)) (hb : PSs X b (tDS F W g)) : PS X (.If c a b pos) (tDS F W (ifS t f g)) := (ps_if hc ha hb).imp fun E σ H ⟨N, ρ, o, R, e, q⟩ => tM_st R e q fun a ρ1 x H1 N1 R1 r1 e1 m1 q1 => by
  subst r1
  cases x with
  | true => exact iteT ⟨N1, ρ1, o, R1, e1, q1⟩
  | false => exact iteF ⟨N1, ρ1, o, R1, e1, q1⟩
theorem ds_pass {pos : Pos} : PS X (.Pass pos) (tDS F W nxS) := ps_pass.imp fun E σ H ⟨N, ρ, o, R, e, q⟩ => by
  cases e
  exact q σ H N R .refl
theorem ds_break {pos : Pos} : PS X (.Break pos) (tDS F W fun ρ => some (.bk ρ)) := ps_break.imp fun E σ H ⟨N, ρ, o, R, e, q⟩ => by
  cases e
  exact q σ H N R .refl
theorem ds_continue {pos : Pos} : PS X (.Continue pos) (tDS F W fun ρ => some (.ct ρ)) := ps_continue.imp fun E σ H ⟨N, ρ, o, R, e, q⟩ => by
  cases e
  exact q σ H N R .refl
theorem ds_never {st : Stmt} : PS X st (tDS F W fun _ => none) := ps_never.imp fun E σ H ⟨N, ρ, o, R, e, q⟩ => by cases e
abbrev Tg := OV → Ro → Option Ro
theorem wipe_in {σ : L2.St} {i : Nat} : ∀ {vs : List Nat}, i ∈ vs → (wipe σ vs)[i]? = if i < σ.length then some none else none
  | [], h => by cases h
  | v :: vs, h => by
    unfold wipe
    by_cases e : v = i
    · subst e
      rw [List.getElem?_set_self', ]
      by_cases hl : v < σ.length
      · rw [if_pos hl, List.getElem?_eq_getElem (by rw [wipe_length]; exact hl)]
        rfl
      · rw [if_neg hl, List.getElem?_eq_none (by rw [wipe_length]; omega)]
        rfl
    · rw [List.getElem?_set_ne e]
      rcases List.mem_cons.mp h with z | z
      · exact absurd z.symm e
      · exact wipe_in z
theorem wipe_eq {σ τ : L2.St} {vs : List Nat} (hl : τ.length = σ.length) (h : ∀ i, i ∉ vs → τ[i]? = σ[i]?) : wipe τ vs = wipe σ vs := by
  apply List.ext_getElem?
  intro i
  by_cases hi : i ∈ vs
  · rw [wipe_in hi, wipe_in hi, hl]
  · rw [wipe_out hi, wipe_out hi, h i hi]
def Onl (is : List Nat) (σ σ' : L2.St) : Prop := σ'.length = σ.length ∧ ∀ i, i ∉ is → σ'[i]? = σ[i]?
theorem Onl.wipe {is vs : List Nat} {σ σ' : L2.St} (h : Onl is σ σ') (hs : ∀ i, i ∈ is → i ∈ vs) : wipe σ' vs = wipe σ vs := wipe_eq h.1 fun i hi => h.2 i fun z => hi (hs i z)
theorem Onl.trans {is js : List Nat} {σ σ1 σ2 : L2.St} (o1 : Onl is σ σ1) (o2 : Onl js σ1 σ2) : Onl (is ++ js) σ σ2 := ⟨o2.1.trans o1.1, fun i hi => (o2.2 i fun z => hi (List.mem_append_right _ z)).trans (o1.2 i fun z => hi (List.mem_append_left _ z))⟩
def OpG (F : Fx) (is : List Nat) (t : TG) (g : Tg) : Prop := ∀ N ρ σ H v x ρ' (Q : L2.St → Hp → Prop), Rel F N ρ σ H → RepO F.K N H v x → g x ρ = some ρ' → (∀ σ' H' N', Rel F N' ρ' σ' H' → Mv N H N' H' → Onl is σ σ' → Q σ' H') → t v σ H Q
def nmG (i : Nat) : Tg := fun x ρ => some (ρ.set i x.sl)
theorem og_name (i : Nat) : OpG F [i] (gName i) (nmG i) := fun N ρ σ H v x ρ' Q R r e k => by
  cases e
  exact k _ H N (R.setX r) .refl ⟨by simp, fun j hj => List.getElem?_set_ne (fun z => hj (by rw [z]; exact List.mem_singleton_self j))⟩
abbrev TgL := List OV → Ro → Option Ro
def OpGs (F : Fx) (is : List Nat) (t : TGs) (g : TgL) : Prop := ∀ N ρ σ H vs xs ρ' (Q : L2.St → Hp → Prop), Rel F N ρ σ H → RepOL F.K N H vs xs → g xs ρ = some ρ' → (∀ σ' H' N', Rel F N' ρ' σ' H' → Mv N H N' H' → Onl is σ σ' → Q σ' H') → t vs σ H Q
def nlG : TgL := fun ds ρ => match ds with
  | [] => some ρ
  | _ => none
def csG (g : Tg) (h : TgL) : TgL := fun ds ρ => match ds with
  | d :: r => (match g d ρ with
    | some ρ1 => h r ρ1
    | none => none)
  | [] => none
theorem ogs_nil : OpGs F [] gNil nlG := fun N ρ σ H vs xs ρ' Q R r e k => by
  cases r with
  | nil => cases e; exact ⟨rfl, k σ H N R .refl ⟨rfl, fun _ _ => rfl⟩⟩
  | cons a b => cases e
theorem ogs_cons {is js : List Nat} {t : TG} {u : TGs} {g : Tg} {h : TgL} (a : OpG F is t g) (b : OpGs F js u h) : OpGs F (is ++ js) (gCons t u) (csG g h) := fun N ρ σ H vs xs ρ' Q R r e k => by
  cases r with
  | nil => cases e
  | cons r1 r2 =>
    unfold csG at e
    dsimp only at e
    split at e
    · rename_i ρ1 h1
      exact ⟨_, _, rfl, a N ρ σ H _ _ ρ1 _ R r1 h1 fun σ1 H1 N1 R1 m1 o1 => b N1 ρ1 σ1 H1 _ _ ρ' _ R1 (r2.mv m1) e fun σ2 H2 N2 R2 m2 o2 => k σ2 H2 N2 R2 (m1.trans m2) (o1.trans o2)⟩
    · cases e
theorem RepL.ol {K : PySem.W.Frag} {N : Nd} {H : Hp} : ∀ {vs : List V} {ds : List D}, RepL K N H vs ds → RepOL K N H vs (ds.map OV.d)
  | _, _, .nil => .nil
  | _, _, .cons a b => .cons a (RepL.ol b)
theorem RepOL.length {K : PySem.W.Frag} {N : Nd} {H : Hp} : ∀ {vs : List V} {xs : List OV}, RepOL K N H vs xs → vs.length = xs.length
  | _, _, .nil => rfl
  | _, _, .cons _ r => congrArg (· + 1) (RepOL.length r)
def tpG (n : Nat) (h : TgL) : Tg := fun x ρ => match x with
  | .d (.tup ds) => if ds.length == n then h (ds.map OV.d) ρ else none
  | _ => none
theorem og_tup {n : Nat} {is : List Nat} {u : TGs} {h : TgL} (b : OpGs F is u h) : OpG F is (gTup F.K n u) (tpG n h) := fun N ρ σ H v x ρ' Q R r e k => by
  unfold tpG at e
  split at e
  · rename_i ds
    split at e
    · rename_i hl
      have r : Rep F.K N H v (.tup ds) := r
      cases r with
      | tup hs rl =>
        exact ⟨_, _, rfl, hs, rl.length.trans (beq_iff_eq.mp hl), b N ρ σ H _ _ ρ' Q R rl.ol e k⟩
    · cases e
  · cases e
def tgS (f : Ev) (g : Tg) : Sv := stM f fun d ρ => match g (.d d) ρ with
  | some ρ1 => some (.nx ρ1)
  | none => none
theorem ds_asg {tg e : Expr} {f : Ev} {is : List Nat} {t : TG} {g : Tg} {pos : Pos} (he : PE X e (tD F W f)) (hg : PG X tg t) (og : OpG F is t g) (hs : swapsWithSole [tg] e pos.line X.env = pure false := by rfl) (hw : swappedStores [tg] e X.env = pure none := by rfl)
    (h1 : (assignEach [tg] X.env).map (·.2) = [assign tg X.env] := by rfl) : PS X (.Assign [tg] e pos) (tDS F W (tgS f g)) := (ps_asg he hg hs hw h1).imp fun E σ H ⟨N, ρ, o, R, e, q⟩ => tM_st R e q fun a ρ1 x H1 N1 R1 r1 e1 m1 q1 => by
  split at e1
  · rename_i ρ2 h2
    cases e1
    exact og N1 ρ1 σ H1 x (.d a) ρ2 _ R1 r1 h2 fun σ' H' N' R' m' _ => q1 σ' H' N' R' m'
  · cases e1
def parS (i j : Nat) (f : EvA) : Sv := stM f fun ds ρ => match ds with
  | [a, b] => some (.nx ((ρ.set i (.v a)).set j (.v b)))
  | _ => none
theorem ds_par {i j : Nat} {x y : Str} {a b : Expr} {f : EvA} {px py pt pos : Pos} {kt k2 pt2} (hc : X.calm = true) (hN : X.N.Nodup) (hi : X.N[i]? = some x) (hj : X.N[j]? = some y) (hij : i ≠ j)
    (hx : X.env.scope.names.lookup x = some .local) (hy : X.env.scope.names.lookup y = some .local) (ha : PA X [a, b] (tDA F W f))
    (hw : swappedStores [.Tuple [.Name x px, .Name y py] kt pt] (.Tuple [a, b] k2 pt2) X.env = pure (some [x, y]))
    (hs : swapsWithSole [.Tuple [.Name x px, .Name y py] kt pt] (.Tuple [a, b] k2 pt2) pos.line X.env = pure false := by rfl) :
    PS X (.Assign [.Tuple [.Name x px, .Name y py] kt pt] (.Tuple [a, b] k2 pt2) pos) (tDS F W (parS i j f)) := (ps_par hc hN hi hj hij hx hy ha hw hs).imp fun E σ H ⟨N, ρ, o, R, e, q⟩ => tM_st R e q fun ds ρ1 xs H1 N1 R1 r1 e1 m1 q1 => by
  split at e1
  · rename_i a b
    cases e1
    cases r1 with
    | cons ra r1 =>
      cases r1 with
      | cons rb r1 =>
        cases r1
        exact ⟨_, _, rfl, q1 _ H1 N1 ((R1.set ra).set rb) .refl⟩
  · cases e1
def agS (i : Nat) (g : D → D → Option D) (f : Ev) : Sv := fun ρ => match ρ.sl[i]? with
  | some (.v a) => stM f (fun b ρ1 => match g a b with
    | some c => some (.nx (ρ1.set i (.v c)))
    | none => none) ρ
  | _ => none
theorem ds_aug {i : Nat} {x : Str} {e : Expr} {f : Ev} {op : Operator} {r : R2} {g : D → D → Option D} {pos pos' : Pos} (hN : X.N.Nodup) (hi : X.N[i]? = some x) (hx : Loc X.env.scope x) (he : PE X e (tD F W f)) (ho : PIp X op r) (o : Op2 F.K r g)
    (hf : X.fn x = true ∨ X.env.scope.names.lookup x = some .local := by first | exact .inl rfl | exact .inr rfl | assumption) : PS X (.AugAssign (.Name x pos') op e pos) (tDS F W (agS i g f)) := (ps_aug hN hi hx he ho hf).imp fun E σ H ⟨N, ρ, out, R, e, q⟩ => by
  unfold agS at e
  split at e
  · rename_i a ha
    obtain ⟨v, hv, rv⟩ := R.val i a ha
    refine ⟨v, hv, tM_st R e q fun b ρ1 y H1 N1 R1 r1 e1 m1 q1 => ?_⟩
    split at e1
    · rename_i c hc
      cases e1
      exact o N1 H1 v y a b c _ R1.nin (rv.mv m1) r1 hc fun z H2 s rz => q1 _ H2 N1 ((R1.more s).set rz) (.same s)
    · cases e1
  · cases e
def loopS (g : Tg) (b : Sv) : List D → Ro → Option Out
  | [], ρ => some (.nx ρ)
  | d :: ds, ρ => match g (.d d) ρ with
    | some ρ1 => (match b ρ1 with
      | some (.nx ρ2) => loopS g b ds ρ2
      | some (.ct ρ2) => loopS g b ds ρ2
      | some (.bk ρ2) => some (.nx ρ2)
      | o => o)
    | none => none
def itemsOf : D → Option (List D)
  | .lst ds => some ds
  | .scr ds => some ds
  | .tup ds => some ds
  | .str s => some (s.map fun c => .str [c])
  | _ => none
def forS (f : M (List D)) (g : Tg) (b : Sv) : Sv := stM f fun ds => loopS g b ds
def Sq (F : Fx) (J : It) (ds : List D) (N : Nd) (H : Hp) : Prop := ∀ N' H', Mv N H N' H' → ∀ i, (∀ d, ds[i]? = some d → J.go i H' ∧ ∀ x H2, J.yld i H' x H2 → Same H' H2 ∧ Rep F.K N' H2 x d) ∧ (ds[i]? = none → J.stop i H')
theorem Sq.mv {J : It} {ds : List D} {N N1 : Nd} {H H1 : Hp} (m : Mv N H N1 H1) (q : Sq F J ds N H) : Sq F J ds N1 H1 := fun N' H' m' => q N' H' (m.trans m')
abbrev tDI (F : Fx) (W : WX) (f : M (List D)) : TI := tM F W f fun N H J ds => Sq F J ds N H
theorem sq_list {K : PySem.W.Frag} {N : Nd} {H : Hp} {a : Addr} {xs : List V} {ds : List D} (hK : F.K = K) (h : Rd H a (.lst xs)) (n : ¬ N.N a) (r : RepL F.K N H xs ds) : Sq F (Itl K a) ds N H := fun N' H' m i => by
  have h' : Rd H' a (.lst xs) := m.keep.n.rd n h
  have r' := r.mv m
  have one : ∀ ys, SqL K H' a ys → ys = xs ∨ ∃ o its n, K.lookup a = some o ∧ o.cls = .type "list" ∧ o.dict = Option.none ∧ o.data = .seq its n ∧ its.size ≤ sizeLine ∧ Vals ys its.toList := fun ys q => by
    rcases q with q | q
    · left
      rcases q with q | ⟨o, q⟩ <;> rcases h' with z | ⟨o', z⟩ <;> rw [z] at q <;> cases q <;> rfl
    · exact .inr q
  refine ⟨fun d e => ?_, fun e => ⟨xs, .inl h', ?_⟩⟩
  · obtain ⟨v, h1, h2⟩ := r'.get e
    refine ⟨⟨xs, v, .inl h', h1⟩, fun x H2 y => ?_⟩
    obtain ⟨rfl, y⟩ := y
    have z := y xs (.inl h')
    rw [h1] at z
    cases z
    exact ⟨Same.refl _, h2⟩
  · rw [r'.length]
    exact List.getElem?_eq_none_iff.mp e
theorem sq_scr {K : PySem.W.Frag} {N : Nd} {H : Hp} {a : Addr} {xs : List V} {ds : List D} (hK : F.K = K) (h : ScrAt K N H a xs) (r : RepL F.K N H xs ds) : Sq F (Itl K a) ds N H := by
  rcases h with h | hk
  · exact sq_list hK h.1 h.2 r
  · intro N' H' m i
    have r' := r.mv m
    have h' : SqL K H' a xs := .inr hk
    refine ⟨fun d e => ?_, fun e => ⟨xs, h', ?_⟩⟩
    · obtain ⟨v, h1, h2⟩ := r'.get e
      refine ⟨⟨xs, v, h', h1⟩, fun x H2 y => ?_⟩
      obtain ⟨rfl, y⟩ := y
      have z := y xs h'
      rw [h1] at z
      cases z
      exact ⟨Same.refl _, h2⟩
    · rw [r'.length]
      exact List.getElem?_eq_none_iff.mp e
theorem sq_tup {K : PySem.W.Frag} {N : Nd} {H : Hp} {a : Addr} {xs : List V} {ds : List D} (hK : F.K = K) (h : SqT K H a xs) (r : RepL F.K N H xs ds) : Sq F (Itt K a) ds N H := fun N' H' m i => by
  have h' : SqT K H' a xs := m.keep.n.sqT h
  have r' := r.mv m
  refine ⟨fun d e => ?_, fun e => ⟨xs, h', ?_⟩⟩
  · obtain ⟨v, h1, h2⟩ := r'.get e
    refine ⟨⟨xs, v, h', h1⟩, fun x H2 y => ?_⟩
    obtain ⟨rfl, y⟩ := y
    have z := y xs h'
    rw [h1] at z
    cases z
    exact ⟨Same.refl _, h2⟩
  · rw [r'.length]
    exact List.getElem?_eq_none_iff.mp e
theorem sq_str {N : Nd} {H : Hp} {s : List Nat} : Sq F (Its ⟨⟨s⟩⟩) (s.map fun c => .str [c]) N H := fun N' H' m i => by
  refine ⟨fun d e => ?_, fun e => ?_⟩
  · rw [List.getElem?_map] at e
    cases h : s[i]? with
    | none => rw [h] at e; cases e
    | some c =>
      rw [h] at e
      cases e
      have hl : i < s.length := (List.getElem?_eq_some_iff.mp h).1
      refine ⟨hl, fun x H2 y => ?_⟩
      obtain ⟨rfl, c', e1, rfl⟩ := y
      have e2 : s[i]? = some c' := by simpa using e1
      rw [h] at e2
      cases e2
      exact ⟨Same.refl _, .str [c]⟩
  · rw [List.getElem?_map] at e
    cases h : s[i]? with
    | none => exact List.getElem?_eq_none_iff.mp h
    | some c => rw [h] at e; cases e
def iSeq (K : PySem.W.Frag) (t : TE) : TI := fun σ H R => t σ H fun x H1 => (∃ a, x = .ref a ∧ (∃ xs, SqL K H1 a xs) ∧ R (Itl K a) H1) ∨ (∃ a, x = .ref a ∧ (∃ xs, SqT K H1 a xs) ∧ R (Itt K a) H1) ∨ ∃ z, x = .str z ∧ R (Its z) H1
theorem pi_seq {tg l : Expr} {tl : TE} (hl : PE X l tl) : PI X tg l (iSeq X.K tl) := by
  refine ⟨fun pins s σ H R I h => ?_⟩
  refine thn (hl.run pins s σ H _ I h) fun v s1 ⟨x, H1, I1, r1, q1⟩ => ?_
  rcases q1 with ⟨a, e, ⟨xs, hq⟩, q⟩ | ⟨a, e, ⟨xs, hq⟩, q⟩ | ⟨x, ex, q⟩
  · subst e
    cases r1
    obtain ⟨its, rv, p, hz⟩ := I1.list hq
    refine wpAny_pyIter_list p.isList ?_
    refine ⟨s1.heap.objs.size, [s1.heap.objs.size], _, _, H1, rfl, I1.kept (t' := s1.toks) fun b o e => Heap.get?_push_of_some _ e, turn_list a _, ⟨_, Heap.get?_push_size _ rfl, rfl, rfl⟩, fun b hb => ?_, q⟩
    have e : b = s1.heap.objs.size := by simpa using hb
    subst e
    exact I1.fpOk (Nat.le_refl _) (I1.hok.fresh (Nat.le_refl _))
  · subst e
    cases r1
    obtain ⟨its, rv, p, hz⟩ := I1.tuple hq
    refine wpAny_pyIter_tuple (show s1.heap.IsTuple a its.toArray from p) ?_
    refine ⟨s1.heap.objs.size, [s1.heap.objs.size], _, _, H1, rfl, I1.kept (t' := s1.toks) fun b o e => Heap.get?_push_of_some _ e, turn_tuple a _, ⟨_, Heap.get?_push_size _ rfl, rfl, rfl⟩, fun b hb => ?_, q⟩
    have e : b = s1.heap.objs.size := by simpa using hb
    subst e
    exact I1.fpOk (Nat.le_refl _) (I1.hok.fresh (Nat.le_refl _))
  · subst ex
    obtain ⟨t, rfl⟩ := r1
    cases ha : x.cps.all (· < 128)
    · exact wpAny_pyIter_wide ha (pi_one (tk := s1.toks) I1 _ (turn_str _ x t "str_iterator" (.inr rfl)) ⟨_, Heap.get?_push_size _ rfl, rfl, rfl⟩ q)
    · exact wpAny_pyIter_ascii ha (pi_one (tk := s1.toks) I1 _ (turn_str _ x t "str_ascii_iterator" (.inl rfl)) ⟨_, Heap.get?_push_size _ rfl, rfl, rfl⟩ q)
theorem _root_.L2.PI.imp {X : Cx} {tg e : Expr} {t t' : TI} (h : PI X tg e t) (i : ∀ σ H Q, t' σ H Q → t σ H Q) : PI X tg e t' := ⟨fun pins s σ H Q I hw => h.run pins s σ H Q I (i _ _ _ hw)⟩
def sqF (f : Ev) : M (List D) := bnd f fun d => optM (itemsOf d)
theorem di_seq {tg e : Expr} {f : Ev} (hK : F.K = X.K) (h : PE X e (tD F W f)) : PI X tg e (tDI F W (sqF f)) := (pi_seq h).imp fun σ H Q ⟨N, ρ, r, ρ', R, e, k⟩ => tM_bind R e k fun d ρ1 x H1 N1 R1 r1 e1 m1 k1 => by
  obtain ⟨ds, e3, rfl, rfl⟩ := optM_some e1
  cases r1 with
  | lst h n rl => cases e3; exact .inl ⟨_, rfl, ⟨_, SqL.of h⟩, k1.fin R1 (sq_list hK (.inl h) n rl)⟩
  | scr h n rl => cases e3; exact .inl ⟨_, rfl, ⟨_, hK ▸ h.sq⟩, k1.fin R1 (sq_scr hK (hK ▸ h) rl)⟩
  | tup h rl => cases e3; exact .inr (.inl ⟨_, rfl, ⟨_, hK ▸ h⟩, k1.fin R1 (sq_tup hK (hK ▸ h) rl)⟩)
  | str s => cases e3; exact .inr (.inr ⟨_, rfl, k1.fin R1 sq_str⟩)
  | _ => cases e3
theorem ds_for {tg iter : Expr} {body : List Stmt} {f : M (List D)} {is : List Nat} {t : TG} {g : Tg} {b : Sv} {pos : Pos} (hp : PassesOwn (model X.prog X.w) X.A X.env X.xe) (hc : X.calm = true) (hi : PI X tg iter (tDI F W f)) (hg : PG X tg t) (og : OpG F is t g) (hb : PSs X body (tDS F W b))
    (hs : ∀ x, foldedSetIterable iter X.env x = pure x := by intro _; rfl) : PS X (.For tg iter body [] pos) (tDS F W (forS f g b)) := (ps_for hp hc hi hg hb hs).imp fun E σ H ⟨N, ρ, o, R, e, q⟩ => tM_st R e q fun ds ρ1 J H1 N1 R1 sq e1 m1 q1 => by
  refine ⟨fun i m σ H2 => m = ds.length - i ∧ ∃ N2 ρ2, Rel F N2 ρ2 σ H2 ∧ Mv N1 H1 N2 H2 ∧ loopS g b (ds.drop i) ρ2 = some o, ⟨ds.length, by simp, N1, ρ1, R1, .refl, e1⟩, ?_⟩
  rintro i m σ2 H2 ⟨rfl, N2, ρ2, R2, m2, e2⟩
  obtain ⟨go, st⟩ := sq N2 H2 m2 i
  cases hd : ds[i]? with
  | none =>
    left
    refine ⟨st hd, ?_⟩
    have z : ds.drop i = [] := List.drop_eq_nil_of_le (List.getElem?_eq_none_iff.mp hd)
    rw [z] at e2
    cases e2
    exact q1 σ2 H2 N2 R2 m2
  | some d =>
    right
    obtain ⟨g1, g2⟩ := go d hd
    have hl : i < ds.length := (List.getElem?_eq_some_iff.mp hd).1
    have z : ds.drop i = d :: ds.drop (i + 1) := by
      rw [List.drop_eq_getElem_cons hl]
      have : ds[i] = d := by
        have := (List.getElem?_eq_some_iff.mp hd).2
        exact this
      rw [this]
    rw [z] at e2
    refine ⟨g1, fun σ3 H3 => ∃ N3 ρ3, Rel F N3 ρ3 σ3 H3 ∧ Mv N1 H1 N3 H3 ∧ loopS g b (ds.drop (i + 1)) ρ3 = some o, fun σ3 H3 ⟨N3, ρ3, R3, m3, e3⟩ => ⟨ds.length - (i + 1), by omega, rfl, N3, ρ3, R3, m3, e3⟩, fun x H3 y => ?_⟩
    obtain ⟨sm, rx⟩ := g2 x H3 y
    unfold loopS at e2
    split at e2
    · rename_i ρ3 h3
      have m3 : Mv N1 H1 N2 H3 := m2.trans (.same sm)
      refine og N2 ρ2 σ2 H3 x (.d d) ρ3 _ (R2.more sm) rx h3 fun σ4 H4 N4 R4 m4' _ => ?_
      have m3 : Mv N1 H1 N4 H4 := m3.trans m4'
      cases hbo : b ρ3 with
      | none => rw [hbo] at e2; cases e2
      | some o' =>
        refine ⟨N4, ρ3, o', R4, hbo, ?_⟩
        rw [hbo] at e2
        cases o' with
        | nx ρ4 => exact fun σ' H' N' R' m' => ⟨N', ρ4, R', m3.trans m', e2⟩
        | ct ρ4 => exact fun σ' H' N' R' m' => ⟨N', ρ4, R', m3.trans m', e2⟩
        | bk ρ4 => cases e2; exact fun σ' H' N' R' m' => q1 σ' H' N' R' (m3.trans m')
        | rt d' ρ4 => cases e2; exact fun v σ' H' N' R' m' r' => q1 v σ' H' N' R' (m3.trans m') r'
        | rs c d' ρ4 => cases e2; exact fun σ' => (q1 σ').mv m3
    · cases e2
def whileF (t : EvT) (b : Sv) : Nat → Ro → Option Out
  | 0, _ => none
  | n + 1, ρ => stM t (fun c ρ1 => match c with
    | false => some (.nx ρ1)
    | true => match b ρ1 with
      | some (.nx ρ2) => whileF t b n ρ2
      | some (.ct ρ2) => whileF t b n ρ2
      | some (.bk ρ2) => some (.nx ρ2)
      | o => o) ρ
theorem ds_while {c : Expr} {body : List Stmt} {t : EvT} {b : Sv} {pos : Pos} (n : Nat) (hp : PassesOwn (model X.prog X.w) X.A X.env X.xe) (hc : PT X c (tDT F W t)) (hb : PSs X body (tDS F W b)) : PS X (.While c body [] pos) (tDS F W (whileF t b n)) := (ps_while hp hc hb).imp fun E σ H ⟨N, ρ, o, R, e, q⟩ => by
  refine ⟨fun m σ2 H2 => ∃ N2 ρ2, Rel F N2 ρ2 σ2 H2 ∧ Mv N H N2 H2 ∧ whileF t b m ρ2 = some o, ⟨n, N, ρ, R, .refl, e⟩, ?_⟩
  rintro m σ2 H2 ⟨N2, ρ2, R2, m2, e2⟩
  cases m with
  | zero => cases e2
  | succ m =>
    unfold whileF at e2
    refine tM_st R2 e2 (q.mv m2) fun c ρ3 x H3 N3 R3 r3 e3 m3 q3 => ?_
    subst r3
    cases x with
    | false => cases e3; exact iteF (q3 σ2 H3 N3 R3 .refl)
    | true =>
      refine iteT ⟨fun σ4 H4 => ∃ N4 ρ4, Rel F N4 ρ4 σ4 H4 ∧ Mv N H N4 H4 ∧ whileF t b m ρ4 = some o, fun σ4 H4 ⟨N4, ρ4, R4, m4, e4⟩ => ⟨m, Nat.lt_succ_self m, N4, ρ4, R4, m4, e4⟩, ?_⟩
      dsimp only at e3
      cases hbo : b ρ3 with
      | none => rw [hbo] at e3; cases e3
      | some o' =>
        refine ⟨N3, ρ3, o', R3, hbo, ?_⟩
        rw [hbo] at e3
        have m4 := m2.trans m3
        cases o' with
        | nx ρ4 => exact fun σ' H' N' R' m' => ⟨N', ρ4, R', m4.trans m', e3⟩
        | ct ρ4 => exact fun σ' H' N' R' m' => ⟨N', ρ4, R', m4.trans m', e3⟩
        | bk ρ4 => cases e3; exact fun σ' H' N' R' m' => q3 σ' H' N' R' m'
        | rt d' ρ4 => cases e3; exact fun v σ' H' N' R' m' r' => q3 v σ' H' N' R' m' r'
        | rs c d' ρ4 => cases e3; exact fun σ' => q3 σ'
end
end LP

set_option maxRecDepth 100000
set_option maxHeartbeats 1000000
namespace LP
open PySem PySem.Spec
open PyProof.Rows hiding St
open L2
set_option autoImplicit false
def deepL (f : OV → Option (D × List Nat)) : List OV → Option (List D × List Nat)
  | [] => some ([], [])
  | x :: xs => match f x with
    | some (d, is) => (match deepL f xs with
      | some (ds, js) => some (d :: ds, is ++ js)
      | none => none)
    | none => none
def deepP (f : OV → Option (D × List Nat)) : List (D × OV) → Option (List (D × D) × List Nat)
  | [] => some ([], [])
  | (k, x) :: xs => match f x with
    | some (d, is) => (match deepP f xs with
      | some (ds, js) => some ((k, d) :: ds, is ++ js)
      | none => none)
    | none => none
def deepF (f : OV → Option (D × List Nat)) : List (Str × OV) → Option (List (Str × D) × List Nat)
  | [] => some ([], [])
  | (k, x) :: xs => match f x with
    | some (d, is) => (match deepF f xs with
      | some (ds, js) => some ((k, d) :: ds, is ++ js)
      | none => none)
    | none => none
def deepO (ob : List (Option Node)) : Nat → OV → Option (D × List Nat)
  | _, .d x => some (x, [])
  | 0, .o _ => none
  | n + 1, .o id => match ob[id]? with
    | some (some (.lst xs)) => (match deepL (deepO ob n) xs with
      | some (ds, is) => some (.lst ds, id :: is)
      | none => none)
    | some (some (.dK kvs)) => (match deepP (deepO ob n) kvs with
      | some (ds, is) => some (.dct ds, id :: is)
      | none => none)
    | some (some (.dT kvs)) => (match deepP (deepO ob n) kvs with
      | some (ds, is) => some (.dtt ds, id :: is)
      | none => none)
    | some (some (.ins c fs)) => (match deepF (deepO ob n) fs with
      | some (ds, is) => some (.ins c ds, id :: is)
      | none => none)
    | _ => none
section
variable {K : PySem.W.Frag} {N N' : Nd} {H : Hp} {ob : List (Option Node)}
theorem deepO_d {n : Nat} {x : D} : deepO ob n (.d x) = some (x, []) := by cases n <;> rfl
theorem deep_rep (h : Ht K N ob H) (sb : ∀ a, N'.N a → N.N a) : ∀ (n : Nat) (x : OV) (v : V) (d : D) (is : List Nat), RepO K N H v x → deepO ob n x = some (d, is) → (∀ i, i ∈ is → ¬ N'.N (N.al i)) → Rep K N' H v d := by
  have base : ∀ (x : D) (v : V), Rep K N H v x → Rep K N' H v x := fun x v r => r.keep .refl fun a z => .inl (sb a z)
  intro n
  induction n with
  | zero =>
    intro x v d is r e hn
    cases x with
    | d x => cases e; exact base _ _ r
    | o id => cases e
  | succ n ih =>
    have ihL : ∀ (xs : List OV) (vs : List V) (ds : List D) (is : List Nat), RepOL K N H vs xs → deepL (deepO ob n) xs = some (ds, is) → (∀ i, i ∈ is → ¬ N'.N (N.al i)) → RepL K N' H vs ds := by
      intro xs
      induction xs with
      | nil => intro vs ds is r e hn; cases r; cases e; exact .nil
      | cons x xs ihx =>
        intro vs ds is r e hn
        cases r with
        | cons a b =>
          unfold deepL at e
          split at e
          · rename_i d is1 h1
            split at e
            · rename_i ds2 js h2
              cases e
              exact .cons (ih _ _ _ _ a h1 fun i hi => hn i (List.mem_append_left _ hi)) (ihx _ _ _ b h2 fun i hi => hn i (List.mem_append_right _ hi))
            · cases e
          · cases e
    have ihK : ∀ (xs : List (D × OV)) (vs : List (Key × V)) (ds : List (D × D)) (is : List Nat), RepOK K N H vs xs → deepP (deepO ob n) xs = some (ds, is) → (∀ i, i ∈ is → ¬ N'.N (N.al i)) → RepK K N' H vs ds := by
      intro xs
      induction xs with
      | nil => intro vs ds is r e hn; cases r; cases e; exact .nil
      | cons x xs ihx =>
        intro vs ds is r e hn
        cases r with
        | cons a b =>
          unfold deepP at e
          split at e
          · rename_i d is1 h1
            split at e
            · rename_i ds2 js h2
              cases e
              exact .cons (ih _ _ _ _ a h1 fun i hi => hn i (List.mem_append_left _ hi)) (ihx _ _ _ b h2 fun i hi => hn i (List.mem_append_right _ hi))
            · cases e
          · cases e
    have ihT : ∀ (xs : List (D × OV)) (vs : List (List Key × V)) (ds : List (D × D)) (is : List Nat), RepOT K N H vs xs → deepP (deepO ob n) xs = some (ds, is) → (∀ i, i ∈ is → ¬ N'.N (N.al i)) → RepT K N' H vs ds := by
      intro xs
      induction xs with
      | nil => intro vs ds is r e hn; cases r; cases e; exact .nil
      | cons x xs ihx =>
        intro vs ds is r e hn
        cases r with
        | cons a b =>
          unfold deepP at e
          split at e
          · rename_i d is1 h1
            split at e
            · rename_i ds2 js h2
              cases e
              exact .cons (ih _ _ _ _ a h1 fun i hi => hn i (List.mem_append_left _ hi)) (ihx _ _ _ b h2 fun i hi => hn i (List.mem_append_right _ hi))
            · cases e
          · cases e
    have ihF : ∀ (xs : List (Str × OV)) (vs : List (Str × V)) (ds : List (Str × D)) (is : List Nat), RepOF K N H vs xs → deepF (deepO ob n) xs = some (ds, is) → (∀ i, i ∈ is → ¬ N'.N (N.al i)) → RepF K N' H vs ds := by
      intro xs
      induction xs with
      | nil => intro vs ds is r e hn; cases r; cases e; exact .nil
      | cons x xs ihx =>
        intro vs ds is r e hn
        cases r with
        | cons a b =>
          unfold deepF at e
          split at e
          · rename_i d is1 h1
            split at e
            · rename_i ds2 js h2
              cases e
              exact .cons (ih _ _ _ _ a h1 fun i hi => hn i (List.mem_append_left _ hi)) (ihx _ _ _ b h2 fun i hi => hn i (List.mem_append_right _ hi))
            · cases e
          · cases e
    intro x v d is r e hn
    cases x with
    | d x => cases e; exact base _ _ r
    | o id =>
      obtain ⟨rfl, hz⟩ := r
      unfold deepO at e
      split at e
      · rename_i xs hx
        obtain ⟨o1, vs, hv, rv⟩ := h.nod id _ hx
        split at e
        · rename_i ds js hd
          cases e
          exact .lst hv (hn id List.mem_cons_self) (ihL _ _ _ _ rv hd fun i hi => hn i (List.mem_cons_of_mem _ hi))
        · cases e
      · rename_i xs hx
        obtain ⟨o1, vs, hv, rv⟩ := h.nod id _ hx
        split at e
        · rename_i ds js hd
          cases e
          exact .dK (.inl hv) (hn id List.mem_cons_self) (ihK _ _ _ _ rv hd fun i hi => hn i (List.mem_cons_of_mem _ hi))
        · cases e
      · rename_i xs hx
        obtain ⟨o1, vs, hv, rv⟩ := h.nod id _ hx
        split at e
        · rename_i ds js hd
          cases e
          exact .dT (.inl hv) (hn id List.mem_cons_self) (ihT _ _ _ _ rv hd fun i hi => hn i (List.mem_cons_of_mem _ hi))
        · cases e
      · rename_i c xs hx
        obtain ⟨o1, dx, vs, hv, rv⟩ := h.nod id _ hx
        split at e
        · rename_i ds js hd
          cases e
          exact .ins hv (hn id List.mem_cons_self) (ihF _ _ _ _ rv hd fun i hi => hn i (List.mem_cons_of_mem _ hi))
        · cases e
      · cases e
theorem deep_ids : ∀ (n : Nat) (x : OV) (d : D) (is : List Nat), deepO ob n x = some (d, is) → ∀ i, i ∈ is → ∃ w, ob[i]? = some (some w) := by
  intro n
  induction n with
  | zero =>
    intro x d is e i hi
    cases x with
    | d x => cases e; cases hi
    | o id => cases e
  | succ n ih =>
    have ihL : ∀ (xs : List OV) (ds : List D) (is : List Nat), deepL (deepO ob n) xs = some (ds, is) → ∀ i, i ∈ is → ∃ w, ob[i]? = some (some w) := by
      intro xs
      induction xs with
      | nil => intro ds is e i hi; cases e; cases hi
      | cons x xs ihx =>
        intro ds is e i hi
        unfold deepL at e
        split at e
        · rename_i d is1 h1
          split at e
          · rename_i ds2 js h2
            cases e
            exact (List.mem_append.mp hi).elim (ih _ _ _ h1 i) (ihx _ _ h2 i)
          · cases e
        · cases e
    have ihP : ∀ (xs : List (D × OV)) (ds : List (D × D)) (is : List Nat), deepP (deepO ob n) xs = some (ds, is) → ∀ i, i ∈ is → ∃ w, ob[i]? = some (some w) := by
      intro xs
      induction xs with
      | nil => intro ds is e i hi; cases e; cases hi
      | cons x xs ihx =>
        intro ds is e i hi
        unfold deepP at e
        split at e
        · rename_i d is1 h1
          split at e
          · rename_i ds2 js h2
            cases e
            exact (List.mem_append.mp hi).elim (ih _ _ _ h1 i) (ihx _ _ h2 i)
          · cases e
        · cases e
    have ihF : ∀ (xs : List (Str × OV)) (ds : List (Str × D)) (is : List Nat), deepF (deepO ob n) xs = some (ds, is) → ∀ i, i ∈ is → ∃ w, ob[i]? = some (some w) := by
      intro xs
      induction xs with
      | nil => intro ds is e i hi; cases e; cases hi
      | cons x xs ihx =>
        intro ds is e i hi
        unfold deepF at e
        split at e
        · rename_i d is1 h1
          split at e
          · rename_i ds2 js h2
            cases e
            exact (List.mem_append.mp hi).elim (ih _ _ _ h1 i) (ihx _ _ h2 i)
          · cases e
        · cases e
    intro x d is e i hi
    cases x with
    | d x => cases e; cases hi
    | o id =>
      unfold deepO at e
      split at e
      · rename_i xs hx
        split at e
        · rename_i ds js hd
          cases e
          exact (List.mem_cons.mp hi).elim (fun z => ⟨_, by rw [z]; exact hx⟩) (ihL _ _ _ hd i)
        · cases e
      · rename_i xs hx
        split at e
        · rename_i ds js hd
          cases e
          exact (List.mem_cons.mp hi).elim (fun z => ⟨_, by rw [z]; exact hx⟩) (ihP _ _ _ hd i)
        · cases e
      · rename_i xs hx
        split at e
        · rename_i ds js hd
          cases e
          exact (List.mem_cons.mp hi).elim (fun z => ⟨_, by rw [z]; exact hx⟩) (ihP _ _ _ hd i)
        · cases e
      · rename_i c xs hx
        split at e
        · rename_i ds js hd
          cases e
          exact (List.mem_cons.mp hi).elim (fun z => ⟨_, by rw [z]; exact hx⟩) (ihF _ _ _ hd i)
        · cases e
      · cases e
def kill : List (Option Node) → List Nat → List (Option Node)
  | ob, [] => ob
  | ob, i :: is => (kill ob is).set i none
theorem kill_length (ob : List (Option Node)) : ∀ is, (kill ob is).length = ob.length
  | [] => rfl
  | i :: is => by
    show ((kill ob is).set i none).length = _
    rw [List.length_set, kill_length ob is]
theorem kill_some {w : Node} {j : Nat} : ∀ {is : List Nat}, (kill ob is)[j]? = some (some w) → ob[j]? = some (some w) ∧ j ∉ is
  | [], h => ⟨h, by simp⟩
  | i :: is, h => by
    have h : ((kill ob is).set i none)[j]? = some (some w) := h
    by_cases q : i = j
    · subst q
      rw [List.getElem?_set_self'] at h
      cases e : (kill ob is)[i]? with
      | none => rw [e] at h; cases h
      | some x => rw [e] at h; cases h
    · rw [List.getElem?_set_ne q] at h
      obtain ⟨a, b⟩ := kill_some h
      exact ⟨a, fun z => (List.mem_cons.mp z).elim (fun z => q z.symm) b⟩
def Nd.off (N : Nd) (is : List Nat) : Nd := ⟨fun a => N.O a ∧ ∀ i, i ∈ is → a ≠ N.al i, fun a => N.N a ∧ ∀ i, i ∈ is → a ≠ N.al i, fun a h => ⟨N.on a h.1, h.2⟩, N.al, N.sz⟩
theorem lt_of_some {i : Nat} {α : Type} {l : List α} {x : α} (h : l[i]? = some x) : i < l.length := (List.getElem?_eq_some_iff.mp h).1
theorem Ht.off (h : Ht K N ob H) {is : List Nat} (hi : ∀ i, i ∈ is → ∃ w, ob[i]? = some (some w)) : Ht K (N.off is) (kill ob is) H where
  nod := fun j w e => by
    obtain ⟨e1, n1⟩ := kill_some e
    obtain ⟨o1, q⟩ := h.nod j w e1
    refine ⟨⟨o1, fun i him z => ?_⟩, q.keep (N' := N.off is) .refl (fun a (z : (N.off is).N a) => .inl z.1) ⟨Nat.le_refl _, fun _ _ => rfl⟩ fun o z => z⟩
    obtain ⟨w', e'⟩ := hi i him
    have := h.inj j i (by rw [h.sz]; exact lt_of_some e1) (by rw [h.sz]; exact lt_of_some e') z
    exact n1 (by rw [this]; exact him)
  inj := h.inj
  sz := by rw [kill_length]; exact h.sz
  nin := fun a z => h.nin a z.1
  has := h.has
theorem Mv.off (h : Ht K N ob H) {is : List Nat} (hi : ∀ i, i ∈ is → ∃ w, ob[i]? = some (some w)) : Mv N H (N.off is) H where
  keep := .refl
  sub := fun a z => .inl z.1
  subO := fun a z => .inl z.1
  stay := fun a o n no e => ⟨n, fun i him z => by
    obtain ⟨w, e'⟩ := hi i him
    exact no (by rw [z]; exact (h.nod i w e').1)⟩
  szs := Nat.le_refl _
  als := fun _ _ => rfl
def Nd.bor (N : Nd) (H : Hp) : Nd := ⟨fun _ => False, fun a => N.N a ∧ ∃ fs, H a = some (.xd fs), fun _ h => h.elim, fun _ => 0, 0⟩
theorem bor_nin (h : Ht K N ob H) : ∀ a, (N.bor H).N a → ∃ o, H a = some o := fun a z => h.nin a z.1
theorem bor_rep (h : Ht K N ob H) {n : Nat} {x : OV} {v : V} {d : D} {is : List Nat} (r : RepO K N H v x) (e : deepO ob n x = some (d, is)) : Rep K (N.bor H) H v d :=
  deep_rep h (fun a (z : (N.bor H).N a) => z.1) n x v d is r e fun i hi z => by
    obtain ⟨w, e'⟩ := deep_ids n x d is e i hi
    obtain ⟨fs, z⟩ := z.2
    have q := (h.nod i w e').2
    cases w with
    | lst xs => obtain ⟨vs, q, _⟩ := q; rw [z] at q; cases q
    | dK xs => obtain ⟨vs, q, _⟩ := q; rw [z] at q; cases q
    | dT xs => obtain ⟨vs, q, _⟩ := q; rw [z] at q; cases q
    | ins c xs => obtain ⟨dx, vs, q, _⟩ := q; rw [z] at q; cases q
def flatD : Nat → D → Bool
  | 0, _ => false
  | n + 1, d => match d with
    | .non => true
    | .bl _ => true
    | .int _ => true
    | .str _ => true
    | .fn _ => true
    | .ty _ => true
    | .tup ds => ds.all (flatD n)
    | _ => false
abbrev flatN : Nat := 12
theorem flat_repL {N1 N2 : Nd} (n : Nat) (ih : ∀ (d : D) (v : V), flatD n d = true → Rep K N1 H v d → Rep K N2 H v d) : ∀ {ds : List D} {vs : List V}, List.all ds (flatD n) = true → RepL K N1 H vs ds → RepL K N2 H vs ds
  | _, _, _, .nil => .nil
  | _, _, h, .cons a b => by
    rw [List.all_cons, Bool.and_eq_true] at h
    exact .cons (ih _ _ h.1 a) (flat_repL n ih h.2 b)
theorem flat_rep {N1 N2 : Nd} : ∀ (n : Nat) (d : D) (v : V), flatD n d = true → Rep K N1 H v d → Rep K N2 H v d := by
  intro n
  induction n with
  | zero => intro d v h; cases h
  | succ n ih =>
    intro d v h r
    cases r with
    | non => exact .non
    | bl b => exact .bl b
    | int i => exact .int i
    | str s => exact .str s
    | fn x => exact .fn x
    | ty x => exact .ty x
    | tup hs rl =>
      refine .tup hs ?_
      have h : List.all _ (flatD n) = true := h
      exact flat_repL n ih h rl
    | lst _ _ _ => cases h
    | scr _ _ _ => cases h
    | dK _ _ _ => cases h
    | dT _ _ _ => cases h
    | ins _ _ _ => cases h
end
end LP

set_option maxRecDepth 100000
set_option maxHeartbeats 1000000
namespace LP
open PySem PySem.Spec
open PyProof.Rows hiding St
open L2
set_option autoImplicit false
abbrev Fm := List D → Option (Res D)
def ResK (K : PySem.W.Frag) (N : Nd) (H : Hp) (Q : VK) (E : XK) : Res D → Prop
  | .ok d => ∀ v H', Same H H' → Rep K N H' v d → Q v H'
  | .er c d => ∀ v dd H', Same H H' → H' dd = some (.xd [(("at" : Str), v)]) → ¬ N.N dd → Rep K N H' v d → E (.ref (He.ga K c)) (some dd) H'
def spF (K : PySem.W.Frag) (n : Nat) (f : Fm) : Sp := fun vs H Q E => ∃ N ds r, (∀ a, N.N a → ∃ o, H a = some o) ∧ RepL K N H vs ds ∧ vs.length = n ∧ f ds = some r ∧ ResK K N H Q E r
def ro0 (n : Nat) (ds : List D) : Ro := ⟨ds.map .v ++ List.replicate (n - ds.length) .no, []⟩
def dpO (ρ : Ro) (x : OV) : Option (D × List Nat) := deepO ρ.ob (ρ.ob.length + 1) x
def bodyF (n : Nat) (f : Sv) : Fm := fun ds => match f (ro0 n ds) with
  | some (.rt x ρ) => (match dpO ρ x with
    | some (d, _) => some (.ok d)
    | none => none)
  | some (.nx _) => some (.ok .non)
  | some (.rs c d _) => some (.er c d)
  | _ => none
def Nd.clear (N : Nd) : Nd := ⟨fun _ => False, N.N, fun _ h => h.elim, fun _ => 0, 0⟩
theorem Rep.clear {K : PySem.W.Frag} {N : Nd} {H : Hp} {v : V} {d : D} (r : Rep K N H v d) : Rep K N.clear H v d := r.keep (N := N) (N' := N.clear) .refl fun _ h => .inl h
theorem RepL.clear {K : PySem.W.Frag} {N : Nd} {H : Hp} {v : List V} {d : List D} (r : RepL K N H v d) : RepL K N.clear H v d := r.keep (N := N) (N' := N.clear) .refl fun _ h => .inl h
theorem ro0_at {n i : Nat} {ds : List D} {s : Sl} (e : (ro0 n ds).sl[i]? = some s) : s = .no ∨ ∃ d, s = .v d ∧ ds[i]? = some d := by
  have e : (ds.map Sl.v ++ List.replicate (n - ds.length) Sl.no)[i]? = some s := e
  by_cases hi : i < ds.length
  · rw [List.getElem?_append_left (by simpa using hi), List.getElem?_map] at e
    cases h : ds[i]? with
    | none => rw [h] at e; cases e
    | some d' =>
      rw [h] at e
      cases e
      exact .inr ⟨d', rfl, rfl⟩
  · rw [List.getElem?_append_right (by simpa using hi), List.getElem?_replicate] at e
    split at e
    · cases e; exact .inl rfl
    · cases e
theorem rel0 {K : PySem.W.Frag} {N : Nd} {H : Hp} {ns : List Str} {vs : List V} {ds : List D} (nin : ∀ a, N.N a → ∃ o, H a = some o) (r : RepL K N H vs ds) : Rel ⟨K, H, N.N, fun _ => False, 0, 0⟩ N.clear (ro0 ns.length ds) (L2.start ns vs) H where
  val := fun i d e => by
    rcases ro0_at e with z | ⟨d', z, h⟩
    · cases z
    · cases z
      obtain ⟨v, h1, h2⟩ := r.get h
      refine ⟨v, ?_, h2.clear⟩
      have hi : i < ds.length := (List.getElem?_eq_some_iff.mp h).1
      unfold L2.start
      rw [List.getElem?_append_left (by rw [List.length_map, r.length]; exact hi), List.getElem?_map, h1]
      rfl
  obj := fun i o e => by
    rcases ro0_at e with z | ⟨d', z, h⟩ <;> cases z
  ht := ⟨fun i w e => by
    have e : ([] : List (Option Node))[i]? = some (some w) := e
    simp at e, fun i j h => absurd h (Nat.not_lt_zero _), rfl, nin, fun i h => absurd h (Nat.not_lt_zero _)⟩
  own := fun a h => False.elim h
  exc := fun i d e => by
    rcases ro0_at e with z | ⟨d', z, h⟩ <;> cases z
  frame := fun a o h _ => h
  n0 := fun a h _ => h
  z0 := nin
  len := by simp [ro0, L2.start, r.length]
theorem body_ok {K : PySem.W.Frag} {N : Nd} {H : Hp} {ns : List Str} {vs : List V} {ds : List D} {Q : VK} {E : XK} {f : Sv} {r : Res D} (nin : ∀ a, N.N a → ∃ o, H a = some o) (hr : RepL K N H vs ds) (e : bodyF ns.length f ds = some r) (k : ResK K N H Q E r) :
    tDS ⟨K, H, N.N, fun _ => False, 0, 0⟩ (fun cls d _ H => E cls d H) f { nx := fun _ H' => Q .non H', rt := Q } (L2.start ns vs) H := by
  unfold bodyF at e
  have sm : ∀ {ρ : Ro} {σ' : L2.St} {H' : Hp} {N' : Nd}, Rel ⟨K, H, N.N, fun _ => False, 0, 0⟩ N' ρ σ' H' → Same H H' := fun R a o h => R.frame a o h fun z => z
  have sb : ∀ {ρ : Ro} {σ' : L2.St} {H' : Hp} {N' : Nd} {v : V} {d : D}, Rel ⟨K, H, N.N, fun _ => False, 0, 0⟩ N' ρ σ' H' → Rep K N' H' v d → Rep K N H' v d := fun R r => r.keep .refl fun a h => .inl (R.n0 a h fun z => z)
  cases h : f (ro0 ns.length ds) with
  | none => rw [h] at e; cases e
  | some o =>
    rw [h] at e
    refine ⟨N.clear, ro0 ns.length ds, o, rel0 nin hr, h, ?_⟩
    cases o with
    | nx ρ => cases e; exact fun σ' H' N' R m => k .non H' (sm R) .non
    | rt x ρ =>
      dsimp only at e
      split at e
      · rename_i d is hd
        cases e
        exact fun v σ' H' N' R m rd => k v H' (sm R) (deep_rep R.ht (fun a z => R.n0 a z fun z => z) _ x v d is rd hd fun i hi z => by
          obtain ⟨w, e'⟩ := deep_ids _ x d is hd i hi
          rcases R.own _ (R.ht.nod i w e').1 with q | q
          · exact q
          · obtain ⟨o, q'⟩ := nin _ z
            have q : H (N'.al i) = none := q
            rw [q] at q'
            cases q')
      · cases e
    | bk ρ => cases e
    | ct ρ => cases e
    | rs c d ρ => cases e; exact fun σ' v dd H' N' R m hd nd rd => k v dd H' (sm R) hd (fun z => nd (R.n0 dd z fun z => z)) (sb R rd)
theorem fun_ok {P : Program} {w : World} {K : PySem.W.Frag} {mg : Str → Option Value} {base : Heap} {x qual : Str} {params : Arguments} {body : List Stmt} {scope : Scope} {a : Addr} {fd : FuncData} {ns ps : List Str} {k : Nat} {f : Sv} (G : FunD K x qual params body scope [] [] a fd) (S : FnScope ns ps scope)
    (h : ∀ (cdv : Value) (A : Around) (outer : List Env) (s : Shared) (H : Hp) (E : XK) (F : Fx), F.K = K → Room k (A.deeper (envOfC qual scope s.heap.objs.size a cdv)) →
      PSs (cxOf (L2.CX P w) P w K mg base ns qual scope a cdv A outer s H E) body (tDS F (fun cls d _ H => E cls d H) f)) : FnOk P w K mg base (L2.CX P w) (k + 1) a fd ps (spF K ps.length (bodyF ns.length f)) :=
  G.ok S (fun vs H Q E h => by obtain ⟨N, ds, r, _, _, h, _⟩ := h; exact h) fun cdv A outer s H vs Q E hr ⟨N, ds, r, nin, rl, _, e, kk⟩ => ⟨_, h cdv A outer s H E ⟨K, H, N.N, fun _ => False, 0, 0⟩ rfl hr, body_ok nin rl e kk⟩
theorem fn_never {P : Program} {w : World} {K : PySem.W.Frag} {mg : Str → Option Value} {base : Heap} {a : Addr} {fd : FuncData} {ps : List Str} {k n : Nat} {CX : CXT} : FnOk P w K mg base CX k a fd ps (spF K n fun _ => none) :=
  ⟨fun vs H Q E h => (by obtain ⟨N, ds, r, _, _, _, h, _⟩ := h; cases h), fun A outer s H args us vs Q E hr he hb hv h => (by obtain ⟨N, ds, r, _, _, _, h, _⟩ := h; cases h)⟩
abbrev Gm := List OV → List (Option Node) → Option (Res OV × List (Option Node))
def ResS (K : PySem.W.Frag) (N : Nd) (H : Hp) (Q : VK) (E : XK) (ob' : List (Option Node)) : Res OV → Prop
  | .ok x => ∀ v H' N', Ht K N' ob' H' → Mv N H N' H' → RepO K N' H' v x → Q v H'
  | .er c d => ∀ v dd H' N', Ht K N' ob' H' → Mv N H N' H' → H' dd = some (.xd [(("at" : Str), v)]) → ¬ N'.N dd → Rep K N' H' v d → E (.ref (He.ga K c)) (some dd) H'
def spS (K : PySem.W.Frag) (n : Nat) (f : Gm) : Sp := fun vs H Q E => ∃ N ob xs r ob', Ht K N ob H ∧ RepOL K N H vs xs ∧ vs.length = n ∧ f xs ob = some (r, ob') ∧ ResS K N H Q E ob' r
def ro1 (n : Nat) (xs : List OV) (ob : List (Option Node)) : Ro := ⟨xs.map OV.sl ++ List.replicate (n - xs.length) .no, ob⟩
def bodyS (n : Nat) (f : Sv) : Gm := fun xs ob => match f (ro1 n xs ob) with
  | some (.rt x ρ) => some (.ok x, ρ.ob)
  | some (.nx ρ) => some (.ok (.d .non), ρ.ob)
  | some (.rs c d ρ) => some (.er c d, ρ.ob)
  | _ => none
theorem ro1_at {n i : Nat} {xs : List OV} {ob : List (Option Node)} {s : Sl} (e : (ro1 n xs ob).sl[i]? = some s) : s = .no ∨ ∃ x, s = x.sl ∧ xs[i]? = some x := by
  have e : (xs.map OV.sl ++ List.replicate (n - xs.length) Sl.no)[i]? = some s := e
  by_cases hi : i < xs.length
  · rw [List.getElem?_append_left (by simpa using hi), List.getElem?_map] at e
    cases h : xs[i]? with
    | none => rw [h] at e; cases e
    | some d' =>
      rw [h] at e
      cases e
      exact .inr ⟨d', rfl, rfl⟩
  · rw [List.getElem?_append_right (by simpa using hi), List.getElem?_replicate] at e
    split at e
    · cases e; exact .inl rfl
    · cases e
theorem RepOL.get {K : PySem.W.Frag} {N : Nd} {H : Hp} : ∀ {vs : List V} {ds : List OV} {i : Nat} {d : OV}, RepOL K N H vs ds → ds[i]? = some d → ∃ v, vs[i]? = some v ∧ RepO K N H v d
  | _, _, _, _, .nil, e => by simp at e
  | _, _, 0, _, .cons a _, e => by simp at e; subst e; exact ⟨_, rfl, a⟩
  | _, _, i + 1, d, .cons _ r, e => by
    obtain ⟨v, h1, h2⟩ := RepOL.get (i := i) (d := d) r (by simpa using e)
    exact ⟨v, by simpa using h1, h2⟩
theorem rel1 {K : PySem.W.Frag} {N : Nd} {H : Hp} {ns : List Str} {vs : List V} {xs : List OV} {ob : List (Option Node)} (h : Ht K N ob H) (r : RepOL K N H vs xs) : Rel ⟨K, H, N.N, N.O, 0, 0⟩ N (ro1 ns.length xs ob) (L2.start ns vs) H where
  val := fun i d e => by
    rcases ro1_at e with z | ⟨x, z, h⟩
    · cases z
    · cases x with
      | o id => cases z
      | d x =>
        cases z
        obtain ⟨v, h1, h2⟩ := r.get h
        refine ⟨v, ?_, h2⟩
        have hi : i < xs.length := (List.getElem?_eq_some_iff.mp h).1
        unfold L2.start
        rw [List.getElem?_append_left (by rw [List.length_map, r.length]; exact hi), List.getElem?_map, h1]
        rfl
  obj := fun i o e => by
    rcases ro1_at e with z | ⟨x, z, h⟩
    · cases z
    · cases x with
      | d x => cases z
      | o id =>
        cases z
        obtain ⟨v, h1, h2, h3⟩ := r.get h
        subst h2
        refine ⟨?_, h3⟩
        have hi : i < xs.length := (List.getElem?_eq_some_iff.mp h).1
        unfold L2.start
        rw [List.getElem?_append_left (by rw [List.length_map, r.length]; exact hi), List.getElem?_map, h1]
        rfl
  ht := h
  own := fun a h => .inl h
  exc := fun i d e => by
    rcases ro1_at e with z | ⟨x, z, h⟩
    · cases z
    · cases x <;> cases z
  frame := fun a o h _ => h
  n0 := fun a h _ => h
  z0 := h.nin
  len := by simp [ro1, L2.start, r.length]
theorem body_okS {K : PySem.W.Frag} {N : Nd} {H : Hp} {ns : List Str} {vs : List V} {xs : List OV} {ob ob' : List (Option Node)} {Q : VK} {E : XK} {f : Sv} {r : Res OV} (h : Ht K N ob H) (hr : RepOL K N H vs xs) (e : bodyS ns.length f xs ob = some (r, ob')) (k : ResS K N H Q E ob' r) :
    tDS ⟨K, H, N.N, N.O, 0, 0⟩ (fun cls d _ H => E cls d H) f { nx := fun _ H' => Q .non H', rt := Q } (L2.start ns vs) H := by
  unfold bodyS at e
  cases hf : f (ro1 ns.length xs ob) with
  | none => rw [hf] at e; cases e
  | some o =>
    rw [hf] at e
    refine ⟨N, ro1 ns.length xs ob, o, rel1 h hr, hf, ?_⟩
    cases o with
    | nx ρ => cases e; exact fun σ' H' N' R m => k .non H' N' R.ht m (.non : Rep K N' H' .non .non)
    | rt x ρ => cases e; exact fun v σ' H' N' R m rd => k v H' N' R.ht m rd
    | bk ρ => cases e
    | ct ρ => cases e
    | rs c d ρ => cases e; exact fun σ' v dd H' N' R m hd nd rd => k v dd H' N' R.ht m hd nd rd
theorem fun_okS {P : Program} {w : World} {K : PySem.W.Frag} {mg : Str → Option Value} {base : Heap} {x qual : Str} {params : Arguments} {body : List Stmt} {scope : Scope} {a : Addr} {fd : FuncData} {ns ps : List Str} {k : Nat} {f : Sv} (G : FunD K x qual params body scope [] [] a fd) (S : FnScope ns ps scope)
    (h : ∀ (cdv : Value) (A : Around) (outer : List Env) (s : Shared) (H : Hp) (E : XK) (F : Fx), F.K = K → Room k (A.deeper (envOfC qual scope s.heap.objs.size a cdv)) →
      PSs (cxOf (L2.CX P w) P w K mg base ns qual scope a cdv A outer s H E) body (tDS F (fun cls d _ H => E cls d H) f)) : FnOk P w K mg base (L2.CX P w) (k + 1) a fd ps (spS K ps.length (bodyS ns.length f)) :=
  G.ok S (fun vs H Q E h => by obtain ⟨N, ob, xs, r, ob', _, _, h, _⟩ := h; exact h) fun cdv A outer s H vs Q E hr ⟨N, ob, xs, r, ob', ht, rl, _, e, kk⟩ => ⟨_, h cdv A outer s H E ⟨K, H, N.N, N.O, 0, 0⟩ rfl hr, body_okS ht rl e kk⟩
section
variable {X : Cx} {F : Fx} {W : WX}
theorem spF_call {K : PySem.W.Frag} {n : Nat} {f : Fm} {N : Nd} {H : Hp} {σ : L2.St} {ρ : Ro} {vs : List V} {ds : List D} {r : Res D} {Q : VK} (hK : F.K = K) (R : Rel F N ρ σ H) (rl : RepL F.K N H vs ds) (hn : ds.length = n) (e : f ds = some r) (k : CK F W N H σ ρ (Rep F.K) Q r) : spF K n f vs H Q (WE W σ) := by
  subst hK
  refine ⟨N, ds, r, R.nin, rl, rl.length.trans hn, e, ?_⟩
  cases r with
  | ok d => exact fun v H' s rd => k.more R s rd
  | er c d => exact fun v dd H' s hd nd rd => k v dd H' N (R.more s) (.same s) hd nd rd
def clF (n : Nat) (f : Fm) (g : EvA) : Ev := bnd g fun ds ρ => if ds.length == n then (match f ds with
  | some r => some (r, ρ)
  | none => none) else none
theorem clF_some {n : Nat} {f : Fm} {ds : List D} {ρ ρ' : Ro} {r : Res D} (h : (if ds.length == n then (match f ds with
  | some r => some (r, ρ)
  | none => none) else none) = some (r, ρ')) : ds.length = n ∧ f ds = some r ∧ ρ' = ρ := by
  split at h
  · rename_i hn
    split at h
    · rename_i r' h'
      cases h
      exact ⟨beq_iff_eq.mp hn, h', rfl⟩
    · cases h
  · cases h
theorem de_call {k : Nat} {a : Addr} {fd : FuncData} {ps : List Str} {n : Nat} {f : Fm} {x : Str} {p pos : Pos} {e : Expr} {es : List Expr} {g : EvA} (hK : F.K = X.K) (G : FnOk X.prog X.w X.K X.mg X.base (L2.CX X.prog X.w) k a fd ps (spF X.K n f)) (tk : Takes X W) (hr : Room k X.A) (hm : X.mg x = some (.ref a)) (hk : PySem.W.keepIn X.K (.ref a) = true) (hb : Binds X.K fd ps [])
    (ha : PA X (e :: es) (tDA F W g)) (hg : Gl X x := by rfl) (hdb : (x == ("__debug__" : Str)) = false := by decide) (he : starEach (e :: es) X.env = (false, eval e X.env) :: starEach es X.env := by rfl) (hpl : (backTo pos (starEach es X.env)).any (·.1) = false := by rfl) :
    PE X (.Call (.Name x p) (e :: es) [] pos) (tD F W (clF n f g)) :=
  (pe_callS G hr hg hm hk hb (fun σ => passAt tk σ) ha hdb he hpl).imp fun σ H Q ⟨N, ρ, r, ρ', R, e, kk⟩ => tM_bind R e kk fun ds ρ1 vs H1 N1 R1 r1 e1 m1 k1 => by
    obtain ⟨h1, h2, rfl⟩ := clF_some e1
    exact spF_call hK R1 r1 h1 h2 k1
theorem de_call0 {k : Nat} {a : Addr} {fd : FuncData} {ps : List Str} {f : Fm} {x : Str} {p pos : Pos} (hK : F.K = X.K) (G : FnOk X.prog X.w X.K X.mg X.base (L2.CX X.prog X.w) k a fd ps (spF X.K 0 f)) (tk : Takes X W) (hr : Room k X.A) (hm : X.mg x = some (.ref a)) (hk : PySem.W.keepIn X.K (.ref a) = true) (hb : Binds X.K fd ps [])
    (hg : Gl X x := by rfl) (hdb : (x == ("__debug__" : Str)) = false := by decide) : PE X (.Call (.Name x p) [] [] pos) (tD F W (clF 0 f nilF)) := by
  refine ⟨fun pins s σ H Q I ⟨N, ρ, r, ρ', R, e, kk⟩ => ?_⟩
  refine wpAny_Call_Name_kw (ld_glob I hg hm ?_ hdb)
  obtain ⟨h1, h2, rfl⟩ := clF_some (show (if ([] : List D).length == 0 then (match f [] with
    | some r => some (r, ρ)
    | none => none) else none) = some (r, ρ') from e)
  exact PySem.W.callWith_K0 I.kIn hk (run_fnS (us := []) (vs := []) G hr hb (passAt tk σ) I .nil (spF_call hK R .nil h1 h2 kk))
theorem lookup_rep {K : PySem.W.Frag} {N : Nd} {H : Hp} {f : Str} {d : D} : ∀ {gs : List (Str × V)} {fs : List (Str × D)}, RepF K N H gs fs → fs.lookup f = some d → ∃ v, gs.lookup f = some v ∧ Rep K N H v d
  | _, _, .nil, e => by cases e
  | _, _, .cons (f := f') (v := v) (gs := gs) (d := d') (fs := fs) a b, e => by
    rw [List.lookup_cons] at e
    rw [List.lookup_cons]
    cases h : f == f' with
    | true =>
      rw [h] at e
      cases e
      exact ⟨v, rfl, a⟩
    | false =>
      rw [h] at e
      exact lookup_rep b e
theorem lookup_repN {K : PySem.W.Frag} {N : Nd} {H : Hp} {f : Str} : ∀ {gs : List (Str × V)} {fs : List (Str × D)}, RepF K N H gs fs → fs.lookup f = none → gs.lookup f = none
  | _, _, .nil, _ => rfl
  | _, _, .cons (f := f') (v := v) (gs := gs) (d := d') (fs := fs) a b, e => by
    rw [List.lookup_cons] at e
    rw [List.lookup_cons]
    cases h : f == f' with
    | true =>
      rw [h] at e
      cases e
    | false =>
      rw [h] at e
      exact lookup_repN b e
def insOf (c : Str) : D → Option (List (Str × D))
  | .ins c' fs => if c' == c then some fs else none
  | _ => none
theorem insOf_some {c : Str} {d : D} {fs : List (Str × D)} (h : insOf c d = some fs) : d = .ins c fs := by
  unfold insOf at h
  split at h
  · rename_i c' fs'
    split at h
    · rename_i hc
      cases h
      rw [beq_iff_eq.mp hc]
    · cases h
  · cases h
def flF (c f : Str) (o : Ev) : Ev := bnd o fun d => optM ((insOf c d).bind fun fs => fs.lookup f)
theorem de_fld {c f : Str} {e : Expr} {o : Ev} {pos : Pos} (hK : F.K = X.K) (he : PE X e (tD F W o)) (cl : Cls X.K (He.ga X.K c)) (na : NoAttr X.K (He.ga X.K c) f) (hb : attributeBase e f X.env (eval e X.env) = eval e X.env := by rfl) : PE X (.Attribute e f pos) (tD F W (flF c f o)) :=
  (pe_fld he hb).imp fun σ H Q ⟨N, ρ, r, ρ', R, e, kk⟩ => tM_bind R e kk fun d ρ1 x H1 N1 R1 r1 e1 m1 k1 => by
    obtain ⟨v, e3, rfl, rfl⟩ := optM_some e1
    obtain ⟨fs, e4, e5⟩ := Option.bind_eq_some_iff.mp e3
    obtain rfl := insOf_some e4
    cases r1 with
    | ins h n rf =>
      obtain ⟨y, h1, h2⟩ := lookup_rep rf e5
      rw [hK] at h
      exact ⟨_, _, _, _, y, rfl, h, cl, na, h1, k1.fin R1 h2⟩
def tMethW (C : Addr) (m : Str) (sp : Sp) (W : WX) (ta : TE) (t : TA) : TE := fun σ H Q => ta σ H fun x H1 => ∃ a dx fs, x = .ref a ∧ H1 a = some (.ins C dx fs) ∧ fs.lookup m = none ∧ t σ H1 fun vs H2 => sp (x :: vs) H2 Q (WE W σ)
section
variable {k : Nat} {f C : Addr} {fd : FuncData} {ps : List Str} {sp : Sp} {x m : Str} {p pos apos : Pos} {e o : Expr} {es : List Expr} {ta : TE} {t : TA}
theorem pe_methW {pl : Sem Bool} (he : PE X o ta) (c : Cls X.K C) (hm : Meth X.K C m f) (G : FnOk X.prog X.w X.K X.mg X.base (L2.CX X.prog X.w) k f fd ps sp) (hr : Room k X.A) (hb : Binds X.K fd ps []) (tk : Takes X W) (ha : PA X (e :: es) t)
    (hst : starEach (e :: es) X.env = (false, eval e X.env) :: starEach es X.env := by rfl) (hpl : (backTo pos (starEach es X.env)).any (·.1) = false := by rfl)
    (ht : eval (.Call (.Attribute o m apos) (e :: es) [] pos) X.env = (do
      let ov ← eval o X.env
      standAt apos.atName
      let (f, first) ← holding [ov] (getMethod ov m pl)
      callWith pos f first (backTo pos (starEach (e :: es) X.env)) (backToKw pos (keywordEach [] X.env))) := by rfl) :
    PE X (.Call (.Attribute o m apos) (e :: es) [] pos) (tMethW C m sp W ta t) := by
  refine ⟨fun pins s σ H Q I h => ?_⟩
  refine PySem.W.methodCall_KW (pl := pl) (thn (he.run pins s σ H _ I h) fun u s1 ⟨x, H1, I1, rx, a, dx, fs, ex, ea, l, q⟩ => ?_) ht
  subst ex
  obtain rfl : u = Value.ref a := rx
  refine getmeth_ok I1 ea c hm l ?_
  refine PySem.W.callWith_K (first := [.ref a]) (h₀ := X.base) I.ok.mod.kin hm.kp (thn (ha.run pos pins s1 σ H1 _ I1 q) fun us s2 ⟨vs, H2, I2, r, q2⟩ => ⟨I2.kIn, ?_⟩) hst hpl
  exact run_fnS (us := .ref a :: us) (vs := .ref a :: vs) G hr hb (passAt tk σ) I2 (.cons rfl r) q2
theorem pe_meth0W {pl : Sem Bool} (he : PE X o ta) (c : Cls X.K C) (hm : Meth X.K C m f) (G : FnOk X.prog X.w X.K X.mg X.base (L2.CX X.prog X.w) k f fd ps sp) (hr : Room k X.A) (hb : Binds X.K fd ps []) (tk : Takes X W)
    (ht : eval (.Call (.Attribute o m apos) [] [] pos) X.env = (do
      let ov ← eval o X.env
      standAt apos.atName
      let (f, first) ← holding [ov] (getMethod ov m pl)
      callWith pos f first (backTo pos (starEach [] X.env)) (backToKw pos (keywordEach [] X.env))) := by rfl) :
    PE X (.Call (.Attribute o m apos) [] [] pos) (tMethW C m sp W ta tNil) := by
  refine ⟨fun pins s σ H Q I h => ?_⟩
  refine PySem.W.methodCall_KW (pl := pl) (thn (he.run pins s σ H _ I h) fun u s1 ⟨x, H1, I1, rx, a, dx, fs, ex, ea, l, q⟩ => ?_) ht
  subst ex
  obtain rfl : u = Value.ref a := rx
  refine getmeth_ok I1 ea c hm l ?_
  exact PySem.W.callWith_K0 (first := [.ref a]) I1.kIn hm.kp (run_fnS (us := [.ref a]) (vs := [.ref a]) G hr hb (passAt tk σ) I1 (.cons rfl .nil) q)
def tMakeW (C : Addr) (sp : Sp) (W : WX) (t : TA) : TE := fun σ H Q => t σ H fun vs H1 => ∀ x dx, H1 x = none → H1 dx = none → dx ≠ x →
  sp (.ref x :: vs) (upd (upd H1 dx (.own x)) x (.ins C dx [])) (fun v H2 => v = .non ∧ Q (.ref x) H2) (WE W σ)
theorem run_makeW {pins : List (Addr × Obj)} {σ : L2.St} {H : Hp} {s : Shared} {Q : VK} {us : List Value} {vs : List V} (M : Mk X.K C f) (G : FnOk X.prog X.w X.K X.mg X.base (L2.CX X.prog X.w) k f fd ps sp) (hr : Room (k + 1) X.A) (hb : Binds X.K fd ps [])
    (tk : Takes X W) (I : L2.Inv X pins σ H s) (r : Vals vs us)
    (h : ∀ x dx, H x = none → H dx = none → dx ≠ x → sp (.ref x :: vs) (upd (upd H dx (.own x)) x (.ins C dx [])) (fun v H2 => v = .non ∧ Q (.ref x) H2) (WE W σ)) :
    wpAny (model X.prog X.w) X.A (call (.ref C) us) (EP X pins σ Q) X.xe s := by
  have hq := h (s.heap.objs.size + 1) s.heap.objs.size (I.hok.fresh (Nat.le_succ _)) (I.hok.fresh (Nat.le_refl _)) (Nat.ne_of_lt (Nat.lt_succ_self _))
  have I2 := Inv.made (C := C) I
  have r2 : Vals (V.ref (s.heap.objs.size + 1) :: vs) (Value.ref (s.heap.objs.size + 1) :: us) := .cons rfl r
  have hl : (Value.ref (s.heap.objs.size + 1) :: us).length = ps.length := by
    have e := r2.length
    rw [G.len _ _ _ _ hq] at e
    exact e.symm
  have b := hb { s with heap := (s.heap.push PySem.W.emptyDict).push (PySem.W.instObj C s.heap.objs.size) } (Value.ref (s.heap.objs.size + 1) :: us) I2.kIn (by rw [List.append_nil]; exact hl)
  rw [List.append_nil] at b
  refine wpAny_call (make_map (f := f) I.kIn M.makes M.init (beq_iff_eq.mp M.fn) (codeAny_mono (G.run _ X.stack _ _ ⟨Value.ref (s.heap.objs.size + 1) :: us, []⟩ (Value.ref (s.heap.objs.size + 1) :: us) _ _ (WE W σ) (hr.make C us [])
    (I2.env0.make C us []) b r2 hq) fun r s' hq' => ?_))
  cases r with
  | error e => exact passAt tk σ pins _ _ e s' I2 hq'
  | ok fl =>
    cases fl with
    | ret u =>
      obtain ⟨v, H', I3, rv, ev, q3⟩ := I2.after hq'
      subst ev
      exact ⟨rv, ⟨V.ref (s.heap.objs.size + 1), H', I3, rfl, q3⟩⟩
    | next => exact False.elim hq'
    | brk => exact False.elim hq'
    | cont => exact False.elim hq'
theorem pe_makeW (M : Mk X.K C f) (G : FnOk X.prog X.w X.K X.mg X.base (L2.CX X.prog X.w) k f fd ps sp) (hr : Room (k + 1) X.A) (hg : Gl X x) (hm : X.mg x = some (.ref C)) (hb : Binds X.K fd ps []) (tk : Takes X W)
    (ha : PA X (e :: es) t) (hdb : (x == ("__debug__" : Str)) = false := by decide) (he : starEach (e :: es) X.env = (false, eval e X.env) :: starEach es X.env := by rfl) (hpl : (backTo pos (starEach es X.env)).any (·.1) = false := by rfl) :
    PE X (.Call (.Name x p) (e :: es) [] pos) (tMakeW C sp W t) := by
  refine ⟨fun pins s σ H Q I h => ?_⟩
  refine wpAny_Call_Name_kw (ld_glob I hg hm ?_ hdb)
  refine PySem.W.callWith_K (h₀ := X.base) I.ok.mod.kin M.kp (thn (ha.run pos pins s σ H _ I h) fun us s1 ⟨vs, H1, I1, r, q⟩ => ⟨I1.kIn, ?_⟩) he hpl
  exact run_makeW M G hr hb tk I1 r q
theorem pe_make0W (M : Mk X.K C f) (G : FnOk X.prog X.w X.K X.mg X.base (L2.CX X.prog X.w) k f fd ps sp) (hr : Room (k + 1) X.A) (hg : Gl X x) (hm : X.mg x = some (.ref C)) (hb : Binds X.K fd ps []) (tk : Takes X W)
    (hdb : (x == ("__debug__" : Str)) = false := by decide) : PE X (.Call (.Name x p) [] [] pos) (tMakeW C sp W tNil) := by
  refine ⟨fun pins s σ H Q I h => ?_⟩
  refine wpAny_Call_Name_kw (ld_glob I hg hm ?_ hdb)
  exact PySem.W.callWith_K0 I.kIn M.kp (run_makeW (us := []) M G hr hb tk I .nil h)
end
def mtF (c m : Str) (n : Nat) (f : Fm) (o : Ev) (g : EvA) : Ev := bnd o fun d => bnd (optM ((insOf c d).bind fun fs => match fs.lookup m with
  | some _ => none
  | none => some ())) fun _ => bnd g fun ds ρ => if (d :: ds).length == n then (match f (d :: ds) with
  | some r => some (r, ρ)
  | none => none) else none
theorem meth_of {K : PySem.W.Frag} {c m : Str} {n : Nat} {f : Fm} {o : Ev} {g : EvA} {σ : L2.St} {H : Hp} {Q : VK} (hK : F.K = K) (h : tD F W (mtF c m n f o g) σ H Q) : tMethW (He.ga K c) m (spF K n f) W (tD F W o) (tDA F W g) σ H Q := by
  obtain ⟨N, ρ, r, ρ', R, e, kk⟩ := h
  refine tM_bind R e kk fun d ρ1 x H1 N1 R1 r1 e1 m1 k1 => ?_
  obtain ⟨u, e3, e2⟩ := bnd_opt e1
  obtain ⟨fs, e4, e5⟩ := Option.bind_eq_some_iff.mp e3
  obtain rfl := insOf_some e4
  split at e5
  · cases e5
  · rename_i hl
    have r1' := r1
    cases r1 with
    | ins h nn rf =>
      subst hK
      refine ⟨_, _, _, rfl, h, lookup_repN rf hl, tM_bind R1 e2 k1 fun ds ρ2 vs H2 N2 R2 r2 e6 m2 k2 => ?_⟩
      obtain ⟨h1, h2, rfl⟩ := clF_some e6
      exact spF_call rfl R2 (.cons (r1'.mv m2) r2) h1 h2 k2
theorem de_meth {pl : Sem Bool} {k : Nat} {a : Addr} {fd : FuncData} {ps : List Str} {n : Nat} {f : Fm} {c m : Str} {apos pos : Pos} {o e : Expr} {es : List Expr} {go : Ev} {g : EvA} (hK : F.K = X.K) (he : PE X o (tD F W go)) (cl : Cls X.K (He.ga X.K c)) (hm : Meth X.K (He.ga X.K c) m a)
    (G : FnOk X.prog X.w X.K X.mg X.base (L2.CX X.prog X.w) k a fd ps (spF X.K n f)) (tk : Takes X W) (hr : Room k X.A) (hb : Binds X.K fd ps []) (ha : PA X (e :: es) (tDA F W g))
    (hst : starEach (e :: es) X.env = (false, eval e X.env) :: starEach es X.env := by rfl) (hpl : (backTo pos (starEach es X.env)).any (·.1) = false := by rfl)
    (ht : eval (.Call (.Attribute o m apos) (e :: es) [] pos) X.env = (do
      let ov ← eval o X.env
      standAt apos.atName
      let (f, first) ← holding [ov] (getMethod ov m pl)
      callWith pos f first (backTo pos (starEach (e :: es) X.env)) (backToKw pos (keywordEach [] X.env))) := by rfl) :
    PE X (.Call (.Attribute o m apos) (e :: es) [] pos) (tD F W (mtF c m n f go g)) := (pe_methW he cl hm G hr hb tk ha hst hpl ht).imp fun _ _ _ h => meth_of hK h
theorem de_meth0 {pl : Sem Bool} {k : Nat} {a : Addr} {fd : FuncData} {ps : List Str} {n : Nat} {f : Fm} {c m : Str} {apos pos : Pos} {o : Expr} {go : Ev} (hK : F.K = X.K) (he : PE X o (tD F W go)) (cl : Cls X.K (He.ga X.K c)) (hm : Meth X.K (He.ga X.K c) m a)
    (G : FnOk X.prog X.w X.K X.mg X.base (L2.CX X.prog X.w) k a fd ps (spF X.K n f)) (tk : Takes X W) (hr : Room k X.A) (hb : Binds X.K fd ps [])
    (ht : eval (.Call (.Attribute o m apos) [] [] pos) X.env = (do
      let ov ← eval o X.env
      standAt apos.atName
      let (f, first) ← holding [ov] (getMethod ov m pl)
      callWith pos f first (backTo pos (starEach [] X.env)) (backToKw pos (keywordEach [] X.env))) := by rfl) :
    PE X (.Call (.Attribute o m apos) [] [] pos) (tD F W (mtF c m n f go nilF)) := (pe_meth0W he cl hm G hr hb tk ht).imp fun σ H Q h => by
  obtain ⟨N, ρ, r, ρ', R, e, kk⟩ := meth_of (K := X.K) hK h
  refine ⟨N, ρ, r, ρ', R, e, ?_⟩
  cases r with
  | er c d => exact kk
  | ok d =>
    intro x H1 N1 R1 m1 r1
    obtain ⟨a, dx, fs, ex, h1, h2, N2, ρ2, r2, ρ2', R2, e2, k2⟩ := kk x H1 N1 R1 m1 r1
    cases e2
    exact ⟨a, dx, fs, ex, h1, h2, k2 [] H1 N2 R2 .refl .nil⟩
end
end LP

set_option maxRecDepth 100000
set_option maxHeartbeats 1000000
namespace LP
open PySem PySem.Spec
open PyProof.Rows hiding St
open L2
set_option autoImplicit false
def wipeR (ρ : Ro) : List Nat → Ro
  | [] => ρ
  | v :: vs => (wipeR ρ vs).set v .no
theorem wipeR_length (ρ : Ro) : ∀ vs : List Nat, (wipeR ρ vs).sl.length = ρ.sl.length
  | [] => rfl
  | v :: vs => by
    show ((wipeR ρ vs).sl.set v .no).length = _
    rw [List.length_set, wipeR_length ρ vs]
theorem wipeR_ob (ρ : Ro) : ∀ vs : List Nat, (wipeR ρ vs).ob = ρ.ob
  | [] => rfl
  | v :: vs => wipeR_ob ρ vs
theorem wipeR_some {ρ : Ro} {i : Nat} {x : Sl} : ∀ {vs : List Nat}, (wipeR ρ vs).sl[i]? = some x → (i ∈ vs ∧ x = .no) ∨ (i ∉ vs ∧ ρ.sl[i]? = some x)
  | [], h => .inr ⟨by simp, h⟩
  | v :: vs, h => by
    rcases set_at (ρ := wipeR ρ vs) h with ⟨rfl, q, hl⟩ | ⟨n, h⟩
    · exact .inl ⟨List.mem_cons_self, q⟩
    · rcases wipeR_some h with ⟨a, b⟩ | ⟨a, b⟩
      · exact .inl ⟨List.mem_cons_of_mem _ a, b⟩
      · exact .inr ⟨fun z => (List.mem_cons.mp z).elim n a, b⟩
def mergeR (ρ ρ2 : Ro) : List Nat → Ro
  | [] => ρ2
  | v :: vs => (mergeR ρ ρ2 vs).set v (match ρ.sl[v]? with
    | some (.v d) => .v d
    | _ => .no)
theorem mergeR_length (ρ ρ2 : Ro) : ∀ vs : List Nat, (mergeR ρ ρ2 vs).sl.length = ρ2.sl.length
  | [] => rfl
  | v :: vs => by
    show ((mergeR ρ ρ2 vs).sl.set v _).length = _
    rw [List.length_set, mergeR_length ρ ρ2 vs]
theorem mergeR_ob (ρ ρ2 : Ro) : ∀ vs : List Nat, (mergeR ρ ρ2 vs).ob = ρ2.ob
  | [] => rfl
  | v :: vs => mergeR_ob ρ ρ2 vs
theorem mergeR_some {ρ ρ2 : Ro} {i : Nat} {x : Sl} : ∀ {vs : List Nat}, (mergeR ρ ρ2 vs).sl[i]? = some x → (i ∈ vs ∧ (x = .no ∨ ∃ d, x = .v d ∧ ρ.sl[i]? = some (.v d))) ∨ (i ∉ vs ∧ ρ2.sl[i]? = some x)
  | [], h => .inr ⟨by simp, h⟩
  | v :: vs, h => by
    rcases set_at (ρ := mergeR ρ ρ2 vs) h with ⟨rfl, q, hl⟩ | ⟨n, h⟩
    · refine .inl ⟨List.mem_cons_self, ?_⟩
      split at q
      · rename_i d hd
        exact .inr ⟨d, q, hd⟩
      · exact .inl q
    · rcases mergeR_some h with ⟨a, b⟩ | ⟨a, b⟩
      · exact .inl ⟨List.mem_cons_of_mem _ a, b⟩
      · exact .inr ⟨fun z => (List.mem_cons.mp z).elim n a, b⟩
section
variable {F : Fx} {N N' : Nd} {ρ : Ro} {σ : L2.St} {H H' : Hp}
theorem Rel.wiped (R : Rel F N ρ σ H) (vs : List Nat) : Rel F N (wipeR ρ vs) (wipe σ vs) H where
  val := fun i d e => by
    rcases wipeR_some e with ⟨_, z⟩ | ⟨n, z⟩
    · cases z
    · rw [wipe_out n]; exact R.val i d z
  obj := fun i o e => by
    rcases wipeR_some e with ⟨_, z⟩ | ⟨n, z⟩
    · cases z
    · rw [wipe_out n]; exact R.obj i o z
  ht := by rw [wipeR_ob]; exact R.ht
  own := R.own
  exc := fun i d e => by
    rcases wipeR_some e with ⟨_, z⟩ | ⟨n, z⟩
    · cases z
    · rw [wipe_out n]; exact R.exc i d z
  frame := R.frame
  n0 := R.n0
  z0 := R.z0
  len := by rw [wipe_length, wipeR_length, R.len]
theorem Rel.merge {ρ2 : Ro} {vs : List Nat} (R : Rel F N ρ σ H) (m : Mv N H N' H') (R2 : Rel F N' ρ2 (wipe σ vs) H') : Rel F N' (mergeR ρ ρ2 vs) σ H' where
  val := fun i d e => by
    rcases mergeR_some e with ⟨_, z | ⟨d', z, q⟩⟩ | ⟨n, z⟩
    · cases z
    · cases z
      obtain ⟨v, h, r⟩ := R.val i d q
      exact ⟨v, h, r.mv m⟩
    · obtain ⟨v, h, r⟩ := R2.val i d z
      rw [wipe_out n] at h
      exact ⟨v, h, r⟩
  obj := fun i o e => by
    rcases mergeR_some e with ⟨_, z | ⟨d', z, q⟩⟩ | ⟨n, z⟩
    · cases z
    · cases z
    · obtain ⟨h, r⟩ := R2.obj i o z
      rw [wipe_out n] at h
      exact ⟨h, r⟩
  ht := by rw [mergeR_ob]; exact R2.ht
  own := R2.own
  exc := fun i d e => by
    rcases mergeR_some e with ⟨_, z | ⟨d', z, q⟩⟩ | ⟨n, z⟩
    · cases z
    · cases z
    · obtain ⟨v, h, r⟩ := R2.exc i d z
      rw [wipe_out n] at h
      exact ⟨v, h, r⟩
  frame := R2.frame
  n0 := R2.n0
  z0 := R2.z0
  len := by rw [mergeR_length, ← R2.len, wipe_length]
theorem keep_upd {D : Addr} {o : HO} {us : List V} (hD : H D = some (.lst us)) (n : N.N D) : Keep N H (upd H D o) where
  tup := fun a xs h => by
    have ne : a ≠ D := fun z => by
      rw [z] at h
      rcases h with h | ⟨o, h⟩ <;> rw [hD] at h <;> cases h
    exact h.elim (fun h => .inl (by rw [upd_ne ne]; exact h)) fun ⟨o, h⟩ => .inr ⟨o, by rw [upd_ne ne]; exact h⟩
  rest := fun a o' na h => by
    have ne : a ≠ D := fun z => na (by rw [z]; exact n)
    rw [upd_ne ne]
    exact h
theorem Rel.updD {D : Addr} {o : HO} {us : List V} (R : Rel F N ρ σ H) (hD : H D = some (.lst us)) (n : N.N D) (no : ¬ N.O D) (h0 : F.Pa D ∨ F.H0 D = none) : Rel F N ρ σ (upd H D o) where
  val := fun i d e => let ⟨v, h, r⟩ := R.val i d e; ⟨v, h, r.keep (keep_upd hD n) .refl⟩
  obj := R.obj
  ht := ⟨fun i w e => by
    obtain ⟨o1, q⟩ := R.ht.nod i w e
    have ne : N.al i ≠ D := fun z => no (by rw [← z]; exact o1)
    exact ⟨o1, q.keep (keep_upd hD n) .refl .refl fun o h => by rw [upd_ne ne]; exact h⟩, R.ht.inj, R.ht.sz, fun a h => by
    by_cases z : a = D
    · exact ⟨o, by rw [z]; exact upd_same⟩
    · rw [upd_ne z]; exact R.ht.nin a h, fun i h => by
    by_cases z : N.al i = D
    · exact ⟨o, by rw [z]; exact upd_same⟩
    · rw [upd_ne z]; exact R.ht.has i h⟩
  own := R.own
  exc := fun i d e => by
    obtain ⟨v, h1, h2, h3, h4⟩ := R.exc i d e
    have ne : F.ed ≠ D := fun z => h3 (by rw [z]; exact n)
    exact ⟨v, h1, by rw [upd_ne ne]; exact h2, h3, h4.keep (keep_upd hD n) .refl⟩
  frame := fun a w h p => by
    have ne : a ≠ D := fun z => by
      subst z
      rcases h0 with q | q
      · exact p q
      · rw [q] at h; cases h
    rw [upd_ne ne]
    exact R.frame a w h p
  n0 := R.n0
  z0 := R.z0
  len := R.len
theorem Mv.updD {D : Addr} {o : HO} {us : List V} (m : Mv N H N' H') (h1 : H D = none) (hD : H' D = some (.lst us)) : Mv N H N' (upd H' D o) where
  keep := ⟨fun a xs h => by
    have ne : a ≠ D := fun z => by
      rw [z] at h
      rcases h with h | ⟨o, h⟩ <;> rw [h1] at h <;> cases h
    have h' := m.keep.tup a xs h
    exact h'.elim (fun h => .inl (by rw [upd_ne ne]; exact h)) fun ⟨o, h⟩ => .inr ⟨o, by rw [upd_ne ne]; exact h⟩, fun a w n h => by
    have ne : a ≠ D := fun z => by rw [z, h1] at h; cases h
    rw [upd_ne ne]
    exact m.keep.rest a w n h⟩
  sub := m.sub
  subO := m.subO
  stay := m.stay
  szs := m.szs
  als := m.als
def Nd.add (N : Nd) (D : Addr) : Nd := ⟨N.O, fun a => N.N a ∨ a = D, fun a h => .inl (N.on a h), N.al, N.sz⟩
def Nd.drop (N : Nd) (D : Addr) (no : ¬ N.O D) : Nd := ⟨N.O, fun a => N.N a ∧ a ≠ D, fun a h => ⟨N.on a h, fun z => no (by rw [← z]; exact h)⟩, N.al, N.sz⟩
theorem Rel.add {D : Addr} {o : HO} (R : Rel F N ρ σ H) (hD : H D = none) : Rel F (N.add D) ρ σ (L2.upd H D o) := by
  have sm : Same H (L2.upd H D o) := same_upd hD
  have R' := R.more sm
  have s : Sub N H (N.add D) := fun a h => h.elim .inl fun z => .inr (by rw [z]; exact hD)
  have al : Als N (N.add D) := ⟨Nat.le_refl _, fun _ _ => rfl⟩
  refine ⟨fun i d e => ?_, R.obj, ⟨fun i w e => ?_, R.ht.inj, R.ht.sz, fun a h => ?_, R'.ht.has⟩, R.own, fun i d e => ?_, R'.frame, fun a h p => .inl (R.n0 a h p), R.z0, R.len⟩
  · obtain ⟨v, h, r⟩ := R.val i d e
    exact ⟨v, h, r.keep (Keep.of_same sm) s⟩
  · obtain ⟨o1, q⟩ := R.ht.nod i w e
    exact ⟨o1, q.keep (Keep.of_same sm) s al fun o h => sm _ _ h⟩
  · rcases h with h | h
    · exact R'.nin a h
    · exact ⟨o, by rw [h]; exact upd_same⟩
  · obtain ⟨v, h1, h2, h3, h4⟩ := R.exc i d e
    exact ⟨v, h1, sm _ _ h2, s.not h3 h2, h4.keep (Keep.of_same sm) s⟩
theorem Rel.drop {D : Addr} (R : Rel F N ρ σ H) (no : ¬ N.O D) (hn : F.N0 D → F.Pa D) : Rel F (N.drop D no) ρ σ H := by
  have s : Sub N H (N.drop D no) := fun a h => .inl h.1
  have al : Als N (N.drop D no) := ⟨Nat.le_refl _, fun _ _ => rfl⟩
  refine ⟨fun i d e => ?_, R.obj, ⟨fun i w e => ?_, R.ht.inj, R.ht.sz, fun a h => R.nin a h.1, R.ht.has⟩, R.own, fun i d e => ?_, R.frame, fun a h p => ⟨R.n0 a h p, fun z => p (hn (by rw [← z]; exact h) |> fun q => by rw [z]; exact q)⟩, R.z0, R.len⟩
  · obtain ⟨v, h, r⟩ := R.val i d e
    exact ⟨v, h, r.keep .refl s⟩
  · obtain ⟨o1, q⟩ := R.ht.nod i w e
    exact ⟨o1, q.keep .refl s al fun o h => h⟩
  · obtain ⟨v, h1, h2, h3, h4⟩ := R.exc i d e
    exact ⟨v, h1, h2, fun z => h3 z.1, h4.keep .refl s⟩
end
def W0 : WX := fun _ _ _ _ => False
def compL (g : Tg) (t : EvT) (e : Ev) (vs : List Nat) : List D → Ro → Nat → Option (List D × Ro)
  | [], ρ, _ => some ([], ρ)
  | d :: ds, ρ, n => match g (.d d) ρ with
    | some ρ1 => (match t ρ1 with
      | some (.ok true, ρ2) => (match e ρ2 with
        | some (.ok x, ρ3) => if Nat.blt n sizeLine then (match compL g t e vs ds (wipeR ρ3 vs) (n + 1) with
          | some (xs, ρ4) => some (x :: xs, ρ4)
          | none => none) else none
        | _ => none)
      | some (.ok false, ρ2) => compL g t e vs ds (wipeR ρ2 vs) n
      | _ => none)
    | none => none
def cpF (f : M (List D)) (g : Tg) (t : EvT) (e : Ev) (vs : List Nat) : Ev := bnd f fun ds ρ => match compL g t e vs ds (wipeR ρ vs) 0 with
  | some (xs, ρ2) => some (.ok (.lst xs), mergeR ρ ρ2 vs)
  | none => none
theorem lc_of {F : Fx} {W : WX} {f : M (List D)} {is vs : List Nat} {tg : TG} {g : Tg} {t : EvT} {e : Ev} (og : OpG F is tg g) (hs : ∀ i, i ∈ is → i ∈ vs) {σ : L2.St} {H : Hp} {Q : VK} (h : tD F W (cpF f g t e vs) σ H Q) :
    tLc (tDI F W f) tg (tDT F W0 t) (tD F W0 e) vs σ H Q := by
  obtain ⟨N, ρ, r, ρ', R, ee, kk⟩ := h
  refine tM_bind R ee kk fun ds ρ1 J H1 N1 R1 sq e1 m1 k1 => ?_
  intro D hD
  split at e1
  · rename_i xs ρf hc
    cases e1
    have hD0 : F.Pa D ∨ F.H0 D = none := by
      by_cases p : F.Pa D
      · exact .inl p
      · right
        cases q : F.H0 D with
        | none => rfl
        | some o => have := R1.frame D o q p; rw [hD] at this; cases this
    have hN0 : F.N0 D → F.Pa D := fun q => by
      by_cases p : F.Pa D
      · exact p
      · obtain ⟨o, z⟩ := R1.nin D (R1.n0 D q p)
        rw [hD] at z; cases z
    have noD : ¬ N1.O D := fun z => by
      obtain ⟨o, q⟩ := R1.nin D (N1.on D z)
      rw [hD] at q; cases q
    have mA : Mv N1 H1 (N1.add D) (upd H1 D (.lst [])) := ⟨KeepO.of_same (same_upd hD), fun a h => h.elim .inl fun z => .inr (by rw [z]; exact hD), fun a h => .inl h, fun a o h _ _ => .inl h, Nat.le_refl _, fun _ _ => rfl⟩
    refine ⟨fun i m H2 => m = ds.length - i ∧ ∃ N2 ρ2 das rest us, Rel F N2 ρ2 (wipe σ vs) H2 ∧ Mv N1 H1 N2 H2 ∧ N2.N D ∧ ¬ N2.O D ∧ H2 D = some (.lst us) ∧ RepL F.K N2 H2 us das ∧ compL g t e vs (ds.drop i) ρ2 das.length = some (rest, ρf) ∧ das ++ rest = xs,
      ⟨ds.length, by simp, N1.add D, wipeR ρ1 vs, [], xs, [], (R1.add hD).wiped vs, mA, .inr rfl, noD, upd_same, .nil, hc, rfl⟩, ?_⟩
    rintro i m H2 ⟨rfl, N2, ρ2, das, rest, us, R2, m2, nD, oD, hD2, rus, e2, ex⟩
    obtain ⟨go, st⟩ := sq N2 H2 m2 i
    cases hd : ds[i]? with
    | none =>
      left
      refine ⟨st hd, ?_⟩
      have z : ds.drop i = [] := List.drop_eq_nil_of_le (List.getElem?_eq_none_iff.mp hd)
      rw [z] at e2
      cases e2
      rw [List.append_nil] at ex
      subst ex
      have RM := (R1.merge m2 R2).drop oD hN0
      have sb : Sub N2 H2 (N2.drop D oD) := fun a h => .inl h.1
      refine k1 _ H2 (N2.drop D oD) RM ⟨m2.keep, fun a h => m2.sub a h.1, m2.subO, fun a o h n q => ⟨m2.stay a o h n q, fun z => by rw [z, hD] at q; cases q⟩, m2.szs, m2.als⟩ (.lst hD2 (fun z => z.2 rfl) (rus.keep .refl sb))
    | some d =>
      right
      obtain ⟨g1, g2⟩ := go d hd
      have hl : i < ds.length := (List.getElem?_eq_some_iff.mp hd).1
      have z : ds.drop i = d :: ds.drop (i + 1) := by
        rw [List.drop_eq_getElem_cons hl]
        have : ds[i] = d := (List.getElem?_eq_some_iff.mp hd).2
        rw [this]
      rw [z] at e2
      refine ⟨g1, fun H3 => ∃ N3 ρ3 das rest us, Rel F N3 ρ3 (wipe σ vs) H3 ∧ Mv N1 H1 N3 H3 ∧ N3.N D ∧ ¬ N3.O D ∧ H3 D = some (.lst us) ∧ RepL F.K N3 H3 us das ∧ compL g t e vs (ds.drop (i + 1)) ρ3 das.length = some (rest, ρf) ∧ das ++ rest = xs, fun H3 p => ⟨ds.length - (i + 1), by omega, rfl, p⟩, fun x H3 y => ?_⟩
      obtain ⟨sm, rx⟩ := g2 x H3 y
      unfold compL at e2
      split at e2
      · rename_i ρ3 h3
        refine og N2 ρ2 (wipe σ vs) H3 x (.d d) ρ3 _ (R2.more sm) rx h3 fun σ4 H4 N4 R4 m4' o4 => ?_
        have ew : wipe σ4 vs = wipe σ vs := by
          rw [o4.wipe hs]
          apply List.ext_getElem?
          intro j
          by_cases hj : j ∈ vs
          · rw [wipe_in hj, wipe_in hj, wipe_length]
          · rw [wipe_out hj]
        refine ⟨ew, ?_⟩
        have mS : Mv N2 H2 N4 H4 := (Mv.same sm).trans m4'
        -- what stays of the new list over a further step
        have stayD : ∀ {N4 : Nd} {H4 : Hp}, Mv N2 H2 N4 H4 → N4.N D ∧ ¬ N4.O D ∧ H4 D = some (.lst us) := fun {N4 H4} m4 => ⟨m4.stay D _ nD oD hD2, fun q => (m4.subO D q).elim oD (fun q => by rw [hD2] at q; cases q), m4.keep.rest D _ oD hD2⟩
        split at e2
        · rename_i ρ4 h4
          refine ⟨N4, ρ3, .ok true, ρ4, R4, h4, fun b H5 N5 R5 m5 eb => ?_⟩
          subst eb
          refine iteT ?_
          split at e2
          · rename_i y ρ5 h5
            split at e2
            · rename_i hz
              refine ⟨N5, ρ4, .ok y, ρ5, R5, h5, fun yv H6 N6 R6 m6 ry => ?_⟩
              have m26 : Mv N2 H2 N6 H6 := (mS.trans m5).trans m6
              obtain ⟨a1, a2, a3⟩ := stayD m26
              split at e2
              · rename_i xs' ρ6 h6
                cases e2
                have rus' := rus.mv m26
                refine ⟨us, a3, ?_, N6, wipeR ρ5 vs, das ++ [y], xs', us ++ [yv], ?_, ((m2.trans m26)).updD hD a3, a1, a2, upd_same, ?_, ?_, ?_⟩
                · rw [rus.length]
                  exact Nat.le_of_ble_eq_true hz
                · rw [← ew]
                  exact (R6.updD a3 a1 a2 hD0).wiped vs
                · exact (rus'.append (.cons ry .nil)).keep (keep_upd a3 a1) .refl
                · rw [List.length_append, List.length_singleton]
                  exact h6
                · rw [List.append_assoc]
                  exact ex
              · cases e2
            · cases e2
          · cases e2
        · rename_i ρ4 h4
          refine ⟨N4, ρ3, .ok false, ρ4, R4, h4, fun b H5 N5 R5 m5 eb => ?_⟩
          subst eb
          refine iteF ?_
          have m25 : Mv N2 H2 N5 H5 := mS.trans m5
          obtain ⟨a1, a2, a3⟩ := stayD m25
          exact ⟨N5, wipeR ρ4 vs, das, rest, us, by rw [← ew]; exact R5.wiped vs, m2.trans m25, a1, a2, a3, rus.mv m25, e2, ex⟩
        · cases e2
      · cases e2
  · cases e1
section
variable {X : Cx} {F : Fx} {W : WX}
theorem dts_nil : PTs X [] (tDT F W (retM true)) := ⟨fun pins s σ H Q I ⟨N, ρ, r, ρ', R, e, k⟩ => by
  cases e
  exact pts_nil.run pins s σ H Q I (k true H N R .refl rfl)⟩
theorem de_lc {elt tg iter : Expr} {ifs : List Expr} {scope : Scope} {own : List (Str × Nat)} {pos : Pos} {f : M (List D)} {is : List Nat} {tt : TG} {g : Tg} {t : EvT} {e : Ev} (hc : X.calm = true) (hN : X.N.Nodup) (hi : PI X tg iter (tDI F W f)) (ok : BlkOk X.N X.env.scope scope own)
    (hg : ∀ (s : Shared) (H : Hp) (C : Addr) (cl : List (Str × Addr)) (fp : List Addr), PG (X.blk s H scope (compEnvC scope cl C X.env) fp) tg tt) (og : OpG F is tt g) (hs : ∀ i, i ∈ is → i ∈ own.map (·.2))
    (ht : ∀ (s : Shared) (H : Hp) (C : Addr) (cl : List (Str × Addr)) (fp : List Addr), PTs (X.blk s H scope (compEnvC scope cl C X.env) fp) ifs (tDT F W0 t))
    (he : ∀ (s : Shared) (H : Hp) (C : Addr) (cl : List (Str × Addr)) (fp : List Addr), PE (X.blk s H scope (compEnvC scope cl C X.env) fp) elt (tD F W0 e)) (hs' : ∀ x, foldedSetIterable iter X.env x = pure x := by intro _; rfl) :
    PE X (.ListComp elt [⟨tg, iter, ifs, 0⟩] scope pos) (tD F W (cpF f g t e (own.map (·.2)))) := (pe_lc hc hN hi ok hg ht he hs').imp fun _ _ _ h => lc_of og hs h
theorem ds_setLc {i : Nat} {y : Str} {py : Pos} {elt tg iter : Expr} {ifs : List Expr} {scope : Scope} {own : List (Str × Nat)} {pos spos : Pos} {f : M (List D)} {is : List Nat} {tt : TG} {g : Tg} {t : EvT} {e : Ev} (hc : X.calm = true) (hN : X.N.Nodup) (hy : X.N[i]? = some y) (hyl : X.env.scope.names.lookup y = some .local)
    (hsw : swapsWith (.ListComp elt [⟨tg, iter, ifs, 0⟩] scope pos) (some (.Name y py)) spos.line X.env = pure true) (hi : PI X tg iter (tDI F W f)) (ok : BlkOk X.N X.env.scope scope own)
    (hg : ∀ (s : Shared) (H : Hp) (C : Addr) (cl : List (Str × Addr)) (fp : List Addr), PG (X.blk s H scope (compEnvC scope cl C X.env) fp) tg tt) (og : OpG F is tt g) (hs : ∀ i, i ∈ is → i ∈ own.map (·.2))
    (ht : ∀ (s : Shared) (H : Hp) (C : Addr) (cl : List (Str × Addr)) (fp : List Addr), PTs (X.blk s H scope (compEnvC scope cl C X.env) fp) ifs (tDT F W0 t))
    (he : ∀ (s : Shared) (H : Hp) (C : Addr) (cl : List (Str × Addr)) (fp : List Addr), PE (X.blk s H scope (compEnvC scope cl C X.env) fp) elt (tD F W0 e)) (hs' : ∀ x, foldedSetIterable iter X.env x = pure x := by intro _; rfl) :
    PS X (.Assign [.Name y py] (.ListComp elt [⟨tg, iter, ifs, 0⟩] scope pos) spos) (tDS F W (stS i (cpF f g t e (own.map (·.2))))) := (ps_setLc hc hN hy hyl hsw hi ok hg ht he hs').imp fun E σ H ⟨N, ρ, o, R, ee, q⟩ => by
  refine lc_of (W := W) og hs ?_
  exact tM_st R ee q fun a ρ1 x H1 N1 R1 r1 e1 m1 q1 => by
    cases e1
    exact q1 _ H1 N1 (R1.set r1) .refl
def rsS (c : Str) (f : Ev) : Sv := stM f fun d ρ => some (.rs c d ρ)
theorem ds_raise {c : Str} {Da fI : Addr} {a : Expr} {f : Ev} {x : Str} {p pos pos2 : Pos} {k : Nat} (hK : F.K = X.K) (hc : X.calm = true) (T : PySem.FwX.CellTxt X.prog X.K (He.ga X.K c) Da fI) (gC : X.mg x = some (.ref (He.ga X.K c))) (htop : (X.prog.main.scope.names.lookup ("super" : Str)).isSome = false) (hr : Room k X.A) (tk : Takes X W) (ha : PE X a (tD F W f)) (hg : Gl X x := by rfl)
    (hdb : (x == ("__debug__" : Str)) = false := by decide)
    (he : starEach (a :: []) X.env = (false, eval a X.env) :: starEach [] X.env := by rfl) (hpl : (backTo pos (starEach [] X.env)).any (·.1) = false := by rfl) :
    PS X (.Raise (some (.Call (.Name x p) [a] [] pos)) none pos2) (tDS F W (rsS c f)) := (ps_raiseCell hc T gC htop hr tk (pa_cons ha pa_nil he) hg hdb he hpl).imp fun E σ H ⟨N, ρ, o, R, e, q⟩ => tM_st R e q fun d ρ1 v H1 N1 R1 r1 e1 m1 q1 => by
  cases e1
  refine ⟨v, rfl, fun dd hdd => ?_⟩
  have s := same_upd (o := .xd [(("at" : Str), v)]) hdd
  have z := q1 σ v dd (upd H1 dd (.xd [(("at" : Str), v)])) N1 (R1.more s) (.same s) upd_same (R1.notNew hdd) (r1.more s)
  rw [hK] at z
  exact z
end
end LP

set_option maxRecDepth 100000
set_option maxHeartbeats 1000000
namespace LP
open PySem PySem.Spec
open PyProof.Rows hiding St
open L2
set_option autoImplicit false
section
variable {F : Fx} {N N' : Nd} {ρ : Ro} {σ : L2.St} {H H' : Hp}
def noExc (ρ : Ro) : Bool := ρ.sl.all fun s => match s with
  | .exc _ => false
  | _ => true
theorem noExc_at {i : Nat} {d : D} (h : noExc ρ = true) : ρ.sl[i]? ≠ some (.exc d) := fun e => by
  have := List.all_eq_true.mp h _ (List.mem_of_getElem? e)
  cases this
theorem Rel.hold {i : Nat} {a dd : Addr} {v : V} {d : D} (R : Rel F N ρ σ H) (no : noExc ρ = true) (hd : H dd = some (.xd [(("at" : Str), v)])) (r : Rep F.K N H v d) (nd : ¬ N.N dd) : Rel { F with ea := a, ed := dd } N (ρ.set i (.exc d)) (σ.set i (some (.ref a))) H where
  val := fun j e h => by
    rcases set_at h with ⟨rfl, q, hl⟩ | ⟨n, h⟩
    · cases q
    · rw [List.getElem?_set_ne (Ne.symm n)]
      exact R.val j e h
  obj := fun j id h => by
    rcases set_at h with ⟨rfl, q, hl⟩ | ⟨n, h⟩
    · cases q
    · rw [List.getElem?_set_ne (Ne.symm n)]
      exact R.obj j id h
  ht := R.ht
  own := R.own
  exc := fun j e h => by
    rcases set_at h with ⟨rfl, q, hl⟩ | ⟨n, h⟩
    · cases q
      exact ⟨v, by rw [List.getElem?_set_self (by rw [R.len]; exact hl)], hd, nd, r⟩
    · exact absurd h (noExc_at no)
  frame := R.frame
  n0 := R.n0
  z0 := R.z0
  len := by simp [Ro.set, R.len]
theorem Rel.unhold {i : Nat} {a dd : Addr} {x : Option V} (R : Rel { F with ea := a, ed := dd } N ρ σ H) (no : noExc (ρ.set i .no) = true) : Rel F N (ρ.set i .no) (σ.set i x) H where
  val := fun j e h => by
    rcases set_at h with ⟨rfl, q, hl⟩ | ⟨n, h⟩
    · cases q
    · rw [List.getElem?_set_ne (Ne.symm n)]
      exact R.val j e h
  obj := fun j id h => by
    rcases set_at h with ⟨rfl, q, hl⟩ | ⟨n, h⟩
    · cases q
    · rw [List.getElem?_set_ne (Ne.symm n)]
      exact R.obj j id h
  ht := R.ht
  own := R.own
  exc := fun j e h => absurd h (noExc_at no)
  frame := R.frame
  n0 := R.n0
  z0 := R.z0
  len := by simp [Ro.set, R.len]
end
def tyS (b : Sv) (i : Nat) (mt : Str → Option Bool) (h : Sv) : Sv := fun ρ => match b ρ with
  | some (.rs c d ρ1) => (match mt c with
    | some true => if noExc ρ1 then (match h (ρ1.set i (.exc d)) with
      | some (.nx ρ2) => if noExc (ρ2.set i .no) then some (.nx (ρ2.set i .no)) else none
      | some (.bk ρ2) => if noExc (ρ2.set i .no) then some (.bk (ρ2.set i .no)) else none
      | some (.ct ρ2) => if noExc (ρ2.set i .no) then some (.ct (ρ2.set i .no)) else none
      | some (.rt d ρ2) => if noExc (ρ2.set i .no) then some (.rt d (ρ2.set i .no)) else none
      | _ => none) else none
    | some false => some (.rs c d ρ1)
    | none => none)
  | o => o
def toS (b : Sv) (mt : Str → Option Bool) (h : Sv) : Sv := fun ρ => match b ρ with
  | some (.rs c d ρ1) => (match mt c with
    | some true => (match h ρ1 with
      | some (.rs _ _ _) => none
      | o => o)
    | some false => some (.rs c d ρ1)
    | none => none)
  | o => o
section
variable {X : Cx} {F : Fx} {W : WX}
theorem ds_try_as {i : Nat} {c n x : Str} {body suite : List Stmt} {b₀ : Stmt} {np pos pos' : Pos} {b h : Sv} {mt : Str → Option Bool} (hs : X.stack = X.env :: X.outer) (hf : X.env.frame = some X.env.locals) (hN : X.N.Nodup) (hi : X.N[i]? = some n) (hln : X.env.kindOf n = some .local)
    (hc : Names X x (.ref (He.ga F.K c))) (tk : Takes X W) (hm : ∀ c' k, mt c' = some k → PySem.W.exmOne X.K (.ref (He.ga F.K c')) (.ref (He.ga F.K c)) = some k)
    (hb : ∀ (W' : WX) (pn : List (Addr × Obj)) (xe : Value → Shared → Prop), Takes (X.tr pn xe) W' → PassesOwn (model X.prog X.w) X.A X.env xe → PSs (X.tr pn xe) body (tDS F W' b))
    (hsu : ∀ (c' : Str) (a dd : Addr) (oe : Obj) (pn : List (Addr × Obj)), mt c' = some true → Zc (.ref (He.ga F.K c')) (some dd) oe → (∃ vs, oe.data = .fields vs) → PSs (X.suite a ((a, oe) :: pn)) (b₀ :: suite) (tDS { F with ea := a, ed := dd } W0 h)) :
    PS X (.Try body [.ExceptHandler (some (.Name x np)) (some n) (b₀ :: suite) pos'] [] [] pos) (tDS F W (tyS b i mt h)) := by
  refine (ps_try_as (tb := fun W' => tDS F W' b) (ts := fun a cls d E σ H => ∃ c' dd, cls = .ref (He.ga F.K c') ∧ d = some dd ∧ mt c' = some true ∧ tDS { F with ea := a, ed := dd } W0 h E σ H) (Wout := W) hs hf hN hi hln hc tk hb
    (fun a oe cls d pn hz hfs => ⟨fun pins s σ H D I hw => by
      obtain ⟨c', dd, e1, e2, hmt, hw⟩ := hw
      subst e1 e2
      exact (hsu c' a dd oe pn hmt hz hfs).run pins s σ H D I hw⟩)).imp fun E σ H ⟨N, ρ, o, R, e, q⟩ => ?_
  unfold tyS at e
  cases hbo : b ρ with
  | none => rw [hbo] at e; cases e
  | some o' =>
    refine ⟨N, ρ, o', R, hbo, ?_⟩
    rw [hbo] at e
    cases o' with
    | nx ρ1 => cases e; exact q
    | rt d ρ1 => cases e; exact q
    | bk ρ1 => cases e; exact q
    | ct ρ1 => cases e; exact q
    | rs c' d ρ1 =>
      intro σ' v dd H' N' R' m hd nd r
      dsimp only at e
      split at e
      · rename_i hmt
        refine ⟨true, hm c' true hmt, fun _ a ha => ?_, fun z => Bool.noConfusion z⟩
        split at e
        · rename_i no
          refine ⟨c', dd, rfl, rfl, hmt, N', ρ1.set i (.exc d), ?_⟩
          cases hho : h (ρ1.set i (.exc d)) with
          | none => rw [hho] at e; cases e
          | some o2 =>
            rw [hho] at e
            refine ⟨o2, R'.hold no hd r nd, rfl, ?_⟩
            cases o2 with
            | nx ρ2 =>
              dsimp only at e
              split at e
              · rename_i n2
                cases e
                exact fun σ2 H2 N2 R2 m2 => q _ H2 N2 (R2.unhold n2) (m.trans m2)
              · cases e
            | bk ρ2 =>
              dsimp only at e
              split at e
              · rename_i n2
                cases e
                exact fun σ2 H2 N2 R2 m2 => q _ H2 N2 (R2.unhold n2) (m.trans m2)
              · cases e
            | ct ρ2 =>
              dsimp only at e
              split at e
              · rename_i n2
                cases e
                exact fun σ2 H2 N2 R2 m2 => q _ H2 N2 (R2.unhold n2) (m.trans m2)
              · cases e
            | rt d2 ρ2 =>
              dsimp only at e
              split at e
              · rename_i n2
                cases e
                exact fun v2 σ2 H2 N2 R2 m2 r2 => q v2 (σ2.set i none) H2 N2 (R2.unhold n2) (m.trans m2) r2
              · cases e
            | rs c2 d2 ρ2 => cases e
        · cases e
      · rename_i hmt
        cases e
        exact ⟨false, hm c' false hmt, fun z => Bool.noConfusion z, fun _ => q σ' v dd H' N' R' m hd nd r⟩
      · cases e
def atF (i : Nat) : Ev := fun ρ => match ρ.sl[i]? with
  | some (.exc d) => some (.ok d, ρ)
  | _ => none
theorem de_at {i : Nat} {c' : Str} {Da fI a dd : Addr} {oe : Obj} {pn : List (Addr × Obj)} {e : Expr} {pos : Pos} (T : PySem.FwX.CellTxt X.prog X.K (He.ga X.K c') Da fI) (hz : Zc (.ref (He.ga X.K c')) (some dd) oe) (hf : ∃ vs, oe.data = .fields vs) (he : PE (X.suite a ((a, oe) :: pn)) e (tVar i))
    (hb : attributeBase e "at" X.env (eval e X.env) = eval e X.env := by rfl) : PE (X.suite a ((a, oe) :: pn)) (.Attribute e "at" pos) (tD { F with ea := a, ed := dd } W (atF i)) := (pe_atCell T hz hf he hb).imp fun σ H Q ⟨N, ρ, r, ρ', R, e, k⟩ => by
  unfold atF at e
  split at e
  · rename_i d hd
    cases e
    obtain ⟨v, h1, h2, h3, h4⟩ := R.exc i d hd
    exact ⟨_, h1, rfl, dd, v, rfl, h2, k.fin R h4⟩
  · cases e
end
end LP

set_option maxRecDepth 100000
set_option maxHeartbeats 1000000
namespace LP
open PySem PySem.Spec
open PyProof.Rows hiding St
open L2
set_option autoImplicit false
abbrev Ex := M OV
abbrev tO (F : Fx) (W : WX) (m : Ex) : TE := tM F W m (RepO F.K)
abbrev tOA (F : Fx) (W : WX) (m : M (List OV)) : TA := tM F W m (RepOL F.K)
section
variable {K : PySem.W.Frag} {N : Nd} {H : Hp} {ob : List (Option Node)}
theorem not_tup {a : Addr} {w : Node} (q : NodeAt K N H a w) (xs : List V) : ¬ Rd H a (.tup xs) := fun h => by
  cases w with
  | lst _ => obtain ⟨vs, q, _⟩ := q; rcases h with h | ⟨o, h⟩ <;> rw [q] at h <;> cases h
  | dK _ => obtain ⟨vs, q, _⟩ := q; rcases h with h | ⟨o, h⟩ <;> rw [q] at h <;> cases h
  | dT _ => obtain ⟨vs, q, _⟩ := q; rcases h with h | ⟨o, h⟩ <;> rw [q] at h <;> cases h
  | ins _ _ => obtain ⟨dx, vs, q, _⟩ := q; rcases h with h | ⟨o, h⟩ <;> rw [q] at h <;> cases h
theorem Keep.put {id : Nat} {w : Node} {o : HO} (h : Ht K N ob H) (e : ob[id]? = some (some w)) : Keep N H (upd H (N.al id) o) where
  tup := fun b xs hb => by
    have ne : b ≠ N.al id := fun z => not_tup (h.nod id w e).2 xs (by rw [← z]; exact hb)
    exact hb.elim (fun h => .inl (by rw [upd_ne ne]; exact h)) fun ⟨o, h⟩ => .inr ⟨o, by rw [upd_ne ne]; exact h⟩
  rest := fun b o' nb hb => by
    have ne : b ≠ N.al id := fun z => nb (by rw [z]; exact N.on _ (h.nod id w e).1)
    rw [upd_ne ne]
    exact hb
theorem Mv.put {id : Nat} {w : Node} {o : HO} (h : Ht K N ob H) (e : ob[id]? = some (some w)) : Mv N H N (upd H (N.al id) o) where
  keep := ⟨(Keep.put h e).tup, fun b o' nb hb => by
    have ne : b ≠ N.al id := fun z => nb (by rw [z]; exact (h.nod id w e).1)
    rw [upd_ne ne]
    exact hb⟩
  sub := .refl
  subO := fun a z => .inl z
  stay := fun a o n _ _ => n
  szs := Nat.le_refl _
  als := fun _ _ => rfl
theorem Ht.put {id : Nat} {w w' : Node} {o : HO} (h : Ht K N ob H) (e : ob[id]? = some (some w)) (q : NodeAt K N (upd H (N.al id) o) (N.al id) w') : Ht K N (ob.set id (some w')) (upd H (N.al id) o) where
  nod := fun j w1 e1 => by
    by_cases z : id = j
    · subst z
      rw [List.getElem?_set_self (lt_of_some e)] at e1
      cases e1
      exact ⟨(h.nod id w e).1, q⟩
    · rw [List.getElem?_set_ne z] at e1
      obtain ⟨o1, q1⟩ := h.nod j w1 e1
      have ne : N.al j ≠ N.al id := fun y => z (h.inj j id (by rw [h.sz]; exact lt_of_some e1) (by rw [h.sz]; exact lt_of_some e) y).symm
      exact ⟨o1, q1.keep (Keep.put h e) .refl .refl fun o h => by rw [upd_ne ne]; exact h⟩
  inj := h.inj
  sz := by rw [List.length_set]; exact h.sz
  nin := fun a n => by
    by_cases z : a = N.al id
    · exact ⟨o, by rw [z]; exact upd_same⟩
    · rw [upd_ne z]; exact h.nin a n
  has := fun i n => by
    by_cases z : N.al i = N.al id
    · exact ⟨o, by rw [z]; exact upd_same⟩
    · rw [upd_ne z]; exact h.has i n
def Nd.new (N : Nd) (p : Addr) : Nd := ⟨fun a => N.O a ∨ a = p, fun a => N.N a ∨ a = p, fun a h => h.imp (N.on a) fun z => z, fun i => if i = N.sz then p else N.al i, N.sz + 1⟩
theorem Nd.new_sub {p : Addr} (hp : H p = none) : Sub N H (N.new p) := fun a h => h.imp (fun z => z) fun z => by rw [z]; exact hp
theorem Nd.new_als {p : Addr} : Als N (N.new p) := ⟨Nat.le_succ _, fun i h => by show (if i = N.sz then p else N.al i) = _; rw [if_neg (Nat.ne_of_lt h)]⟩
theorem Mv.new {p : Addr} {H' : Hp} (hp : H p = none) (s : Same H H') : Mv N H (N.new p) H' where
  keep := KeepO.of_same s
  sub := Nd.new_sub hp
  subO := fun a h => h.imp (fun z => z) fun z => by rw [z]; exact hp
  stay := fun a o n _ _ => .inl n
  szs := Nat.le_succ _
  als := Nd.new_als.als
theorem Ht.new {p : Addr} {H' : Hp} {w : Node} (h : Ht K N ob H) (hp : H p = none) (s : Same H H') (q : NodeAt K (N.new p) H' p w) : Ht K (N.new p) (ob ++ [some w]) H' where
  nod := fun j w1 e1 => by
    by_cases z : j < ob.length
    · rw [List.getElem?_append_left z] at e1
      obtain ⟨o1, q1⟩ := h.nod j w1 e1
      rw [Nd.new_als.als j (by rw [h.sz]; exact z)]
      exact ⟨.inl o1, q1.keep (Keep.of_same s) (Nd.new_sub hp) Nd.new_als fun o h => s _ _ h⟩
    · have z' : j = ob.length := by
        have := lt_of_some e1
        simp at this
        omega
      subst z'
      simp at e1
      subst e1
      have e : (N.new p).al ob.length = p := by
        show (if ob.length = N.sz then p else _) = p
        rw [if_pos h.sz.symm]
      rw [e]
      exact ⟨.inr rfl, q⟩
  inj := fun i j hi hj e => by
    have fr : ∀ i, i < N.sz → N.al i ≠ p := fun i hi z => by
      obtain ⟨o, q⟩ := h.has i hi
      rw [z, hp] at q
      cases q
    have at' : ∀ i, i < N.sz + 1 → (i < N.sz ∧ (N.new p).al i = N.al i) ∨ (i = N.sz ∧ (N.new p).al i = p) := fun i hi => by
      by_cases z : i = N.sz
      · exact .inr ⟨z, if_pos z⟩
      · exact .inl ⟨by omega, if_neg z⟩
    rcases at' i hi with ⟨a1, a2⟩ | ⟨a1, a2⟩ <;> rcases at' j hj with ⟨b1, b2⟩ | ⟨b1, b2⟩
    · rw [a2, b2] at e; exact h.inj i j a1 b1 e
    · rw [a2, b2] at e; exact absurd e (fr i a1)
    · rw [a2, b2] at e; exact absurd e.symm (fr j b1)
    · rw [a1, b1]
  sz := by simp [Nd.new, h.sz]
  nin := fun a n => n.elim (fun n => let ⟨o, q⟩ := h.nin a n; ⟨o, s _ _ q⟩) fun z => by
    subst z
    cases w with
    | lst _ => obtain ⟨vs, q, _⟩ := q; exact ⟨_, q⟩
    | dK _ => obtain ⟨vs, q, _⟩ := q; exact ⟨_, q⟩
    | dT _ => obtain ⟨vs, q, _⟩ := q; exact ⟨_, q⟩
    | ins _ _ => obtain ⟨dx, vs, q, _⟩ := q; exact ⟨_, q⟩
  has := fun i hi => by
    by_cases z : i = N.sz
    · have e : (N.new p).al i = p := if_pos z
      rw [e]
      cases w with
      | lst _ => obtain ⟨vs, q, _⟩ := q; exact ⟨_, q⟩
      | dK _ => obtain ⟨vs, q, _⟩ := q; exact ⟨_, q⟩
      | dT _ => obtain ⟨vs, q, _⟩ := q; exact ⟨_, q⟩
      | ins _ _ => obtain ⟨dx, vs, q, _⟩ := q; exact ⟨_, q⟩
    · have e : (N.new p).al i = N.al i := if_neg z
      rw [e]
      have hi : i < N.sz + 1 := hi
      obtain ⟨o, q⟩ := h.has i (by omega)
      exact ⟨o, s _ _ q⟩
end
end LP

set_option maxRecDepth 100000
set_option maxHeartbeats 1000000
namespace LP
open PySem PySem.Spec
open PyProof.Rows hiding St
open L2
set_option autoImplicit false
section
variable {X : Cx} {F : Fx} {W : WX}
def vO (f : Ev) : Ex := bnd f fun d => retM (.d d)
theorem oe_d {e : Expr} {f : Ev} (h : PE X e (tD F W f)) : PE X e (tO F W (vO f)) := h.imp fun σ H Q ⟨N, ρ, r, ρ', R, e, k⟩ => tM_bind R e k fun d ρ1 x H1 N1 R1 r1 e1 m1 k1 => by
  cases e1
  exact k1.fin R1 r1
def ovr (i : Nat) : Ex := fun ρ => match ρ.sl[i]? with
  | some (.v d) => some (.ok (.d d), ρ)
  | some (.o id) => some (.ok (.o id), ρ)
  | _ => none
theorem oe_var {i : Nat} {e : Expr} (h : PE X e (tVar i)) : PE X e (tO F W (ovr i)) := h.imp fun σ H Q ⟨N, ρ, r, ρ', R, e, k⟩ => by
  unfold ovr at e
  split at e
  · rename_i d' h'
    cases e
    obtain ⟨v, h1, r⟩ := R.val i _ h'
    exact ⟨v, h1, k.fin R r⟩
  · rename_i id h'
    cases e
    obtain ⟨h1, h2⟩ := R.obj i _ h'
    exact ⟨_, h1, k.fin R ⟨rfl, h2⟩⟩
  · cases e
def fzF (m : Ex) : Ev := bnd m fun x ρ => match dpO ρ x with
  | some (d, is) => some (.ok d, ⟨ρ.sl, kill ρ.ob is⟩)
  | none => none
theorem off_rep {K : PySem.W.Frag} {N : Nd} {ob : List (Option Node)} {H : Hp} (h : Ht K N ob H) {n : Nat} {x : OV} {v : V} {d : D} {is : List Nat} (r : RepO K N H v x) (e : deepO ob n x = some (d, is)) : Rep K (N.off is) H v d :=
  deep_rep h (fun a (z : (N.off is).N a) => z.1) n x v d is r e fun i hi (z : (N.off is).N _) => z.2 i hi rfl
theorem CK.st {α β : Type} {N N1 : Nd} {H H1 : Hp} {σ : L2.St} {ρ' : Ro} {rel : Nd → Hp → β → α → Prop} {Q : β → Hp → Prop} {a : α} {x : β} (q : CK F W N H σ ρ' rel Q (.ok a)) (m : Mv N H N1 H1) (R : Rel F N1 ρ' σ H1) (r : rel N1 H1 x a) : Q x H1 := q x H1 N1 R m r
theorem de_fz {e : Expr} {m : Ex} (h : PE X e (tO F W m)) : PE X e (tD F W (fzF m)) := h.imp fun σ H Q ⟨N, ρ, r, ρ', R, e, k⟩ => tM_bind R e k fun x ρ1 v H1 N1 R1 r1 e1 m1 k1 => by
  split at e1
  · rename_i d is hd
    cases e1
    have hi := deep_ids _ x d is hd
    exact k1.st (Mv.off R1.ht hi) (R1.step (Mv.off R1.ht hi) (R1.ht.off hi)) (off_rep R1.ht r1 hd)
  · cases e1
def nilO : M (List OV) := retM []
def consO (f : Ex) (g : M (List OV)) : M (List OV) := bnd f fun a => bnd g fun as => retM (a :: as)
theorem oa_nil : PA X [] (tOA F W nilO) := pa_nil.imp fun σ H Q ⟨N, ρ, d, ρ', R, e, k⟩ => by
  cases e
  exact k.fin R .nil
theorem oa_cons {a : Expr} {es : List Expr} {f : Ex} {g : M (List OV)} (ha : PE X a (tO F W f)) (hr : PA X es (tOA F W g)) (hs : starEach (a :: es) X.env = (false, eval a X.env) :: starEach es X.env := by rfl) : PA X (a :: es) (tOA F W (consO f g)) :=
  (pa_cons ha hr hs).imp fun σ H Q ⟨N, ρ, d, ρ', R, e, k⟩ => tM_bind R e k fun a ρ1 x H1 N1 R1 r1 e1 m1 k1 => tM_bind R1 e1 k1 fun as ρ2 xs H2 N2 R2 r2 e2 m2 k2 => by
    cases e2
    exact k2.fin R2 (.cons (r1.mv m2) r2)
def dpL (ρ : Ro) (xs : List OV) : Option (List D) := match deepL (deepO ρ.ob (ρ.ob.length + 1)) xs with
  | some (ds, _) => some ds
  | none => none
theorem bor_repL {K : PySem.W.Frag} {N : Nd} {ob : List (Option Node)} {H : Hp} (h : Ht K N ob H) {n : Nat} : ∀ {xs : List OV} {vs : List V} {ds : List D} {is : List Nat}, RepOL K N H vs xs → deepL (deepO ob n) xs = some (ds, is) → RepL K (N.bor H) H vs ds
  | _, _, _, _, .nil, e => by cases e; exact .nil
  | _, _, _, _, .cons a b, e => by
    unfold deepL at e
    split at e
    · rename_i d is1 h1
      split at e
      · rename_i ds2 js h2
        cases e
        exact .cons (bor_rep h a h1) (bor_repL h b h2)
      · cases e
    · cases e
theorem dpL_rep {N : Nd} {ρ : Ro} {σ : L2.St} {H : Hp} (R : Rel F N ρ σ H) {xs : List OV} {vs : List V} {ds : List D} (r : RepOL F.K N H vs xs) (e : dpL ρ xs = some ds) : RepL F.K (N.bor H) H vs ds := by
  unfold dpL at e
  split at e
  · rename_i ds' is h
    cases e
    exact bor_repL R.ht r h
  · cases e
def okFlat (d : D) : Option D := if flatD flatN d then some d else none
theorem okFlat_some {d d' : D} (h : okFlat d = some d') : d' = d ∧ flatD flatN d = true := by
  unfold okFlat at h
  split at h
  · rename_i q
    cases h
    exact ⟨rfl, q⟩
  · cases h
def bB (g : D → D → Option D) (m1 m2 : Ex) : Ev := bnd m1 fun x => bnd m2 fun y ρ => match dpL ρ [x, y] with
  | some [a, b] => (match (g a b).bind okFlat with
    | some c => some (.ok c, ρ)
    | none => none)
  | _ => none
theorem two_ofB {g : D → D → Option D} {m1 m2 : Ex} {r : R2} (o : Op2 F.K r g) {σ : L2.St} {H : Hp} {Q : VK} (h : tD F W (bB g m1 m2) σ H Q) : tOp r (tO F W m1) (tO F W m2) σ H Q := by
  obtain ⟨N, ρ, c, ρ', R, e, k⟩ := h
  refine tM_bind R e k fun a ρ1 x H1 N1 R1 r1 e1 m1 k1 => tM_bind R1 e1 k1 fun b ρ2 y H2 N2 R2 r2 e2 m2 k2 => ?_
  split at e2
  · rename_i a' b' hd
    split at e2
    · rename_i c' hg
      cases e2
      obtain ⟨c0, hg0, hf⟩ := Option.bind_eq_some_iff.mp hg
      obtain ⟨rfl, hf⟩ := okFlat_some hf
      have rl := dpL_rep R2 (.cons (r1.mv m2) (.cons r2 .nil)) hd
      cases rl with
      | cons ra rl =>
        cases rl with
        | cons rb rl =>
          exact o (N2.bor H2) H2 x y a' b' c' _ (bor_nin R2.ht) ra rb hg0 fun v H3 s r => k2.more R2 s (flat_rep flatN _ _ hf r)
    · cases e2
  · cases e2
theorem ob_op {op : Operator} {a b : Expr} {fa fb : Ex} {r : R2} {g : D → D → Option D} {pos : Pos} (ho : OpR X (binaryOp op) r) (o : Op2 F.K r g) (ha : PE X a (tO F W fa)) (hb : PE X b (tO F W fb)) : PE X (.BinOp a op b pos) (tD F W (bB g fa fb)) :=
  (pe_op ho ha hb).imp fun _ _ _ h => two_ofB o h
theorem ob_cmp {op : CmpOp} {a b : Expr} {fa fb : Ex} {r : R2} {g : D → D → Option D} {pos : Pos} (ho : OpR X (compareOp op) r) (o : Op2 F.K r g) (ha : PE X a (tO F W fa)) (hb : PE X b (tO F W fb)) (hm : behindInMarks op b = false) : PE X (.Compare a [op] [b] pos) (tD F W (bB g fa fb)) :=
  (pe_cmpR ho ha hb hm).imp fun _ _ _ h => two_ofB o h
theorem ob_ix {a b : Expr} {fa fb : Ex} {r : R2} {g : D → D → Option D} {pos : Pos} (ho : IxR X r) (o : Op2 F.K r g) (ha : PE X a (tO F W fa)) (hb : PE X b (tO F W fb)) (hs : PlainIx b) : PE X (.Subscript a b pos) (tD F W (bB g fa fb)) :=
  (pe_ix ho ha hb hs).imp fun _ _ _ h => two_ofB o h
def OpN (K : PySem.W.Frag) (r : List V → Hp → VK → Prop) (g : List D → Option D) : Prop := ∀ N H vs ds c Q, (∀ p, N.N p → ∃ o, H p = some o) → RepL K N H vs ds → g ds = some c → (∀ v H', Same H H' → Rep K N H' v c → Q v H') → r vs H Q
def cbF (g : List D → Option D) (ga : EvA) : Ev := bnd ga fun ds => optM (g ds)
theorem cb_of {g : List D → Option D} {ga : EvA} {r : List V → Hp → VK → Prop} (o : OpN F.K r g) {σ : L2.St} {H : Hp} {Q : VK} (h : tD F W (cbF g ga) σ H Q) : tCB r (tDA F W ga) σ H Q := by
  obtain ⟨N, ρ, c, ρ', R, e, k⟩ := h
  refine tM_bind R e k fun ds ρ1 vs H1 N1 R1 r1 e1 m1 k1 => ?_
  obtain ⟨c, e3, rfl, rfl⟩ := optM_some e1
  exact o N1 H1 vs ds c Q R1.nin r1 e3 fun v H3 s r => k1.more R1 s r
def cbB (g : List D → Option D) (ga : M (List OV)) : Ev := bnd ga fun xs ρ => match dpL ρ xs with
  | some ds => (match (g ds).bind okFlat with
    | some c => some (.ok c, ρ)
    | none => none)
  | _ => none
theorem cb_ofB {g : List D → Option D} {ga : M (List OV)} {r : List V → Hp → VK → Prop} (o : OpN F.K r g) {σ : L2.St} {H : Hp} {Q : VK} (h : tD F W (cbB g ga) σ H Q) : tCB r (tOA F W ga) σ H Q := by
  obtain ⟨N, ρ, c, ρ', R, e, k⟩ := h
  refine tM_bind R e k fun xs ρ1 vs H1 N1 R1 r1 e1 m1 k1 => ?_
  split at e1
  · rename_i ds hd
    split at e1
    · rename_i c' hg
      cases e1
      obtain ⟨c0, hg0, hf⟩ := Option.bind_eq_some_iff.mp hg
      obtain ⟨rfl, hf⟩ := okFlat_some hf
      exact o (N1.bor H1) H1 vs ds c' Q (bor_nin R1.ht) (dpL_rep R1 r1 hd) hg0 fun v H3 s r => k1.more R1 s (flat_rep flatN _ _ hf r)
    · cases e1
  · cases e1
theorem de_callB {id : String} {x : Str} {p pos : Pos} {e : Expr} {es : List Expr} {ga : EvA} {r : List V → Hp → VK → Prop} {g : List D → Option D} (o : OpN F.K r g) (hc : CallR X (.builtin id) r) (hm : X.mg x = none) (hv : bootBuiltins x = some (.builtin id)) (ha : PA X (e :: es) (tDA F W ga)) (hg : Gl X x := by rfl) (hn : x ≠ "__name__" := by decide) (hdb : (x == ("__debug__" : Str)) = false := by decide)
    (he : starEach (e :: es) X.env = (false, eval e X.env) :: starEach es X.env := by rfl) (hpl : (backTo pos (starEach es X.env)).any (·.1) = false := by rfl) : PE X (.Call (.Name x p) (e :: es) [] pos) (tD F W (cbF g ga)) :=
  (pe_callB hc hg hm hv ha hn hdb he hpl).imp fun _ _ _ h => cb_of o h
theorem ob_callB {id : String} {x : Str} {p pos : Pos} {e : Expr} {es : List Expr} {ga : M (List OV)} {r : List V → Hp → VK → Prop} {g : List D → Option D} (o : OpN F.K r g) (hc : CallR X (.builtin id) r) (hm : X.mg x = none) (hv : bootBuiltins x = some (.builtin id)) (ha : PA X (e :: es) (tOA F W ga)) (hg : Gl X x := by rfl) (hn : x ≠ "__name__" := by decide) (hdb : (x == ("__debug__" : Str)) = false := by decide)
    (he : starEach (e :: es) X.env = (false, eval e X.env) :: starEach es X.env := by rfl) (hpl : (backTo pos (starEach es X.env)).any (·.1) = false := by rfl) : PE X (.Call (.Name x p) (e :: es) [] pos) (tD F W (cbB g ga)) :=
  (pe_callB hc hg hm hv ha hn hdb he hpl).imp fun _ _ _ h => cb_ofB o h
theorem de_callTy {T : String} {x : Str} {p pos : Pos} {e : Expr} {es : List Expr} {ga : EvA} {r : List V → Hp → VK → Prop} {g : List D → Option D} (o : OpN F.K r g) (hc : CallR X (.type T) r) (hm : X.mg x = none) (hv : bootBuiltins x = some (.type T)) (ha : PA X (e :: es) (tDA F W ga)) (hg : Gl X x := by rfl) (hn : x ≠ "__name__" := by decide) (hdb : (x == ("__debug__" : Str)) = false := by decide)
    (he : starEach (e :: es) X.env = (false, eval e X.env) :: starEach es X.env := by rfl) (hpl : (backTo pos (starEach es X.env)).any (·.1) = false := by rfl) : PE X (.Call (.Name x p) (e :: es) [] pos) (tD F W (cbF g ga)) :=
  (pe_callTy hc hg hm hv ha hn hdb he hpl).imp fun _ _ _ h => cb_of o h
theorem ob_callTy {T : String} {x : Str} {p pos : Pos} {e : Expr} {es : List Expr} {ga : M (List OV)} {r : List V → Hp → VK → Prop} {g : List D → Option D} (o : OpN F.K r g) (hc : CallR X (.type T) r) (hm : X.mg x = none) (hv : bootBuiltins x = some (.type T)) (ha : PA X (e :: es) (tOA F W ga)) (hg : Gl X x := by rfl) (hn : x ≠ "__name__" := by decide) (hdb : (x == ("__debug__" : Str)) = false := by decide)
    (he : starEach (e :: es) X.env = (false, eval e X.env) :: starEach es X.env := by rfl) (hpl : (backTo pos (starEach es X.env)).any (·.1) = false := by rfl) : PE X (.Call (.Name x p) (e :: es) [] pos) (tD F W (cbB g ga)) :=
  (pe_callTy hc hg hm hv ha hn hdb he hpl).imp fun _ _ _ h => cb_ofB o h
structure OpM (K : PySem.W.Frag) (T : String) (r : V → List V → Hp → VK → Prop) (ok : D → Bool) (g : D → List D → Option D) : Prop where
  ty : ∀ N H x a, Rep K N H x a → ok a = true → tyV K T x H
  run : ∀ N H x vs a ds c Q, (∀ p, N.N p → ∃ o, H p = some o) → Rep K N H x a → RepL K N H vs ds → g a ds = some c → (∀ v H', Same H H' → Rep K N H' v c → Q v H') → r x vs H Q
def bmF (ok : D → Bool) (g : D → List D → Option D) (f : Ev) (ga : EvA) : Ev := bnd f fun a => bnd (optM (if ok a then some () else none)) fun _ => bnd ga fun ds => optM (g a ds)
theorem de_bm {T id : String} {name : Str} {apos cpos : Pos} {o e : Expr} {es : List Expr} {f : Ev} {ga : EvA} {r : V → List V → Hp → VK → Prop} {ok : D → Bool} {g : D → List D → Option D} (om : OpM F.K T r ok g) (hK : F.K = X.K) (pa : PlainAttrs T) (slot : Slot T name id) (hty : typeOf (.builtin id) = pure (.type "method_descriptor")) (hm : MtR X id r) (ho : PE X o (tD F W f)) (ha : PA X (e :: es) (tDA F W ga))
    (hbase : attributeBase o name X.env (eval o X.env) = eval o X.env := by rfl)
    (hfew : ((backTo cpos (starEach (e :: es) X.env)).all (fun x => !x.1) && (backToKw cpos (keywordEach [] X.env)).all (fun x => x.1.isSome)
      && decide ((e :: es).length + ([] : List Keyword).length + (if ([] : List Keyword).isEmpty then 0 else 1) < 30)) = true := by rfl)
    (hline : (apos.endLine == cpos.line) = true := by rfl) (hs : starEach (e :: es) X.env = (false, eval e X.env) :: starEach es X.env := by rfl) (hplain : (backTo cpos (starEach es X.env)).any (·.1) = false := by rfl) :
    PE X (.Call (.Attribute o name apos) (e :: es) [] cpos) (tD F W (bmF ok g f ga)) := (pe_bm pa slot hty hm ho ha hbase hfew hline hs hplain).imp fun σ H Q ⟨N, ρ, r, ρ', R, e, k⟩ => tM_bind R e k fun a ρ1 x H1 N1 R1 r1 e1 m1 k1 => by
      obtain ⟨u, e3, e2⟩ := bnd_opt e1
      split at e3
      · rename_i hok
        refine ⟨by have := om.ty N1 H1 x a r1 hok; rw [hK] at this; exact this, tM_bind R1 e2 k1 fun ds ρ2 vs H2 N2 R2 r2 e4 m2 k2 => ?_⟩
        obtain ⟨c, e5, rfl, rfl⟩ := optM_some e4
        exact om.run N2 H2 x vs a ds c Q R2.nin (r1.mv m2) r2 e5 fun v H3 s r => k2.more R2 s r
      · cases e3
end
end LP

set_option maxRecDepth 100000
set_option maxHeartbeats 1000000
namespace LP
open PySem PySem.Spec
open PyProof.Rows hiding St
open L2
set_option autoImplicit false
section
variable {X : Cx} {F : Fx} {W : WX}
def clS (n : Nat) (f : Gm) (g : M (List OV)) : Ex := bnd g fun xs ρ => if xs.length == n then (match f xs ρ.ob with
  | some (r, ob') => some (r, ⟨ρ.sl, ob'⟩)
  | none => none) else none
theorem spS_call {K : PySem.W.Frag} {n : Nat} {f : Gm} {N : Nd} {H : Hp} {σ : L2.St} {ρ : Ro} {vs : List V} {xs : List OV} {r : Res OV} {ob' : List (Option Node)} {Q : VK} (hK : F.K = K) (R : Rel F N ρ σ H) (rl : RepOL F.K N H vs xs) (hn : xs.length = n) (e : f xs ρ.ob = some (r, ob'))
    (k : CK F W N H σ ⟨ρ.sl, ob'⟩ (RepO F.K) Q r) : spS K n f vs H Q (WE W σ) := by
  subst hK
  refine ⟨N, ρ.ob, xs, r, ob', R.ht, rl, rl.length.trans hn, e, ?_⟩
  cases r with
  | ok d => exact fun v H' N' h' m rd => k v H' N' (R.step m h') m rd
  | er c d => exact fun v dd H' N' h' m hd nd rd => k v dd H' N' (R.step m h') m hd nd rd
theorem clS_some {n : Nat} {f : Gm} {xs : List OV} {ρ ρ' : Ro} {r : Res OV} (h : (if xs.length == n then (match f xs ρ.ob with
  | some (r, ob') => some (r, (⟨ρ.sl, ob'⟩ : Ro))
  | none => none) else none) = some (r, ρ')) : xs.length = n ∧ ∃ ob', f xs ρ.ob = some (r, ob') ∧ ρ' = ⟨ρ.sl, ob'⟩ := by
  split at h
  · rename_i hn
    split at h
    · rename_i r' ob' h'
      cases h
      exact ⟨beq_iff_eq.mp hn, ob', h', rfl⟩
    · cases h
  · cases h
theorem oe_call {k : Nat} {a : Addr} {fd : FuncData} {ps : List Str} {n : Nat} {f : Gm} {x : Str} {p pos : Pos} {e : Expr} {es : List Expr} {g : M (List OV)} (hK : F.K = X.K) (G : FnOk X.prog X.w X.K X.mg X.base (L2.CX X.prog X.w) k a fd ps (spS X.K n f)) (tk : Takes X W) (hr : Room k X.A) (hm : X.mg x = some (.ref a)) (hk : PySem.W.keepIn X.K (.ref a) = true) (hb : Binds X.K fd ps [])
    (ha : PA X (e :: es) (tOA F W g)) (hg : Gl X x := by rfl) (hdb : (x == ("__debug__" : Str)) = false := by decide) (he : starEach (e :: es) X.env = (false, eval e X.env) :: starEach es X.env := by rfl) (hpl : (backTo pos (starEach es X.env)).any (·.1) = false := by rfl) :
    PE X (.Call (.Name x p) (e :: es) [] pos) (tO F W (clS n f g)) :=
  (pe_callS G hr hg hm hk hb (fun σ => passAt tk σ) ha hdb he hpl).imp fun σ H Q ⟨N, ρ, r, ρ', R, e, kk⟩ => tM_bind R e kk fun xs ρ1 vs H1 N1 R1 r1 e1 m1 k1 => by
    obtain ⟨h1, ob', h2, rfl⟩ := clS_some e1
    exact spS_call hK R1 r1 h1 h2 k1
def Res.flat : Res D → Bool
  | .ok d => flatD flatN d
  | .er _ d => flatD flatN d
def clB (n : Nat) (f : Fm) (g : M (List OV)) : Ev := bnd g fun xs ρ => match dpL ρ xs with
  | some ds => if ds.length == n then (match f ds with
    | some r => if r.flat then some (r, ρ) else none
    | none => none) else none
  | none => none
theorem bor_xd {N : Nd} {H H' : Hp} {dd : Addr} {fs : List (Str × V)} (nin : ∀ a, N.N a → ∃ o, H a = some o) (s : Same H H') (hd : H' dd = some (.xd fs)) (nd : ¬ (N.bor H).N dd) : ¬ N.N dd := fun z => by
  obtain ⟨o, q⟩ := nin dd z
  have := s _ _ q
  rw [hd] at this
  cases this
  exact nd ⟨z, _, q⟩
theorem spF_callB {K : PySem.W.Frag} {n : Nat} {f : Fm} {N : Nd} {H : Hp} {σ : L2.St} {ρ : Ro} {vs : List V} {xs : List OV} {ds : List D} {r : Res D} {Q : VK} (hK : F.K = K) (R : Rel F N ρ σ H) (rl : RepOL F.K N H vs xs) (hd : dpL ρ xs = some ds) (hn : ds.length = n) (e : f ds = some r)
    (hf : r.flat = true) (k : CK F W N H σ ρ (Rep F.K) Q r) : spF K n f vs H Q (WE W σ) := by
  subst hK
  have rb := dpL_rep R rl hd
  refine ⟨N.bor H, ds, r, bor_nin R.ht, rb, rb.length.trans hn, e, ?_⟩
  cases r with
  | ok d => exact fun v H' s rd => k.more R s (flat_rep flatN _ _ hf rd)
  | er c d => exact fun v dd H' s hd nd rd => k v dd H' N (R.more s) (.same s) hd (bor_xd R.nin s hd nd) (flat_rep flatN _ _ hf rd)
theorem clB_some {n : Nat} {f : Fm} {xs : List OV} {ρ ρ' : Ro} {r : Res D} (h : (match dpL ρ xs with
  | some ds => if ds.length == n then (match f ds with
    | some r => if r.flat then some (r, ρ) else none
    | none => none) else none
  | none => none) = some (r, ρ')) : ∃ ds, dpL ρ xs = some ds ∧ ds.length = n ∧ f ds = some r ∧ ρ' = ρ ∧ r.flat = true := by
  split at h
  · rename_i ds hd
    split at h
    · rename_i hn
      split at h
      · rename_i r' hf
        split at h
        · rename_i q
          cases h
          exact ⟨ds, hd, beq_iff_eq.mp hn, hf, rfl, q⟩
        · cases h
      · cases h
    · cases h
  · cases h
theorem ob_call {k : Nat} {a : Addr} {fd : FuncData} {ps : List Str} {n : Nat} {f : Fm} {x : Str} {p pos : Pos} {e : Expr} {es : List Expr} {g : M (List OV)} (hK : F.K = X.K) (G : FnOk X.prog X.w X.K X.mg X.base (L2.CX X.prog X.w) k a fd ps (spF X.K n f)) (tk : Takes X W) (hr : Room k X.A) (hm : X.mg x = some (.ref a)) (hk : PySem.W.keepIn X.K (.ref a) = true) (hb : Binds X.K fd ps [])
    (ha : PA X (e :: es) (tOA F W g)) (hg : Gl X x := by rfl) (hdb : (x == ("__debug__" : Str)) = false := by decide) (he : starEach (e :: es) X.env = (false, eval e X.env) :: starEach es X.env := by rfl) (hpl : (backTo pos (starEach es X.env)).any (·.1) = false := by rfl) :
    PE X (.Call (.Name x p) (e :: es) [] pos) (tD F W (clB n f g)) :=
  (pe_callS G hr hg hm hk hb (fun σ => passAt tk σ) ha hdb he hpl).imp fun σ H Q ⟨N, ρ, r, ρ', R, e, kk⟩ => tM_bind R e kk fun xs ρ1 vs H1 N1 R1 r1 e1 m1 k1 => by
    obtain ⟨ds, h1, h2, h3, rfl, h5⟩ := clB_some e1
    exact spF_callB hK R1 r1 h1 h2 h3 h5 k1
theorem lookup_repO {K : PySem.W.Frag} {N : Nd} {H : Hp} {f : Str} {d : OV} : ∀ {gs : List (Str × V)} {fs : List (Str × OV)}, RepOF K N H gs fs → fs.lookup f = some d → ∃ v, gs.lookup f = some v ∧ RepO K N H v d
  | _, _, .nil, e => by cases e
  | _, _, .cons (f := f') (v := v) (gs := gs) (d := d') (fs := fs) a b, e => by
    rw [List.lookup_cons] at e
    rw [List.lookup_cons]
    cases h : f == f' with
    | true =>
      rw [h] at e
      cases e
      exact ⟨v, rfl, a⟩
    | false =>
      rw [h] at e
      exact lookup_repO b e
theorem lookup_repON {K : PySem.W.Frag} {N : Nd} {H : Hp} {f : Str} : ∀ {gs : List (Str × V)} {fs : List (Str × OV)}, RepOF K N H gs fs → fs.lookup f = none → gs.lookup f = none
  | _, _, .nil, _ => rfl
  | _, _, .cons (f := f') (v := v) (gs := gs) (d := d') (fs := fs) a b, e => by
    rw [List.lookup_cons] at e
    rw [List.lookup_cons]
    cases h : f == f' with
    | true =>
      rw [h] at e
      cases e
    | false =>
      rw [h] at e
      exact lookup_repON b e
def putO (f : Str) (v : OV) : List (Str × OV) → List (Str × OV)
  | [] => [(f, v)]
  | (g, x) :: r => if g = f then (g, v) :: r else (g, x) :: putO f v r
theorem put_rep {K : PySem.W.Frag} {N : Nd} {H : Hp} {f : Str} {v : V} {y : OV} (q : RepO K N H v y) : ∀ {gs : List (Str × V)} {fs : List (Str × OV)}, RepOF K N H gs fs → RepOF K N H (putF f v gs) (putO f y fs)
  | _, _, .nil => .cons q .nil
  | _, _, .cons (f := f') (v := v') (gs := gs) (d := d') (fs := fs) a b => by
    unfold putF putO
    by_cases h : f' = f
    · rw [if_pos h, if_pos h]
      exact .cons q b
    · rw [if_neg h, if_neg h]
      exact .cons a (put_rep q b)
theorem repOF_length {K : PySem.W.Frag} {N : Nd} {H : Hp} : ∀ {gs : List (Str × V)} {fs : List (Str × OV)}, RepOF K N H gs fs → gs.length = fs.length
  | _, _, .nil => rfl
  | _, _, .cons _ b => congrArg (· + 1) (repOF_length b)
def fsOf (c : Str) (ρ : Ro) : OV → Option (List (Str × OV))
  | .o id => match ρ.ob[id]? with
    | some (some (.ins c' fs)) => if c' == c then some fs else none
    | _ => none
  | .d (.ins c' fs) => if c' == c then some (fs.map fun p => (p.1, OV.d p.2)) else none
  | _ => none
theorem RepF.of {K : PySem.W.Frag} {N : Nd} {H : Hp} : ∀ {gs : List (Str × V)} {fs : List (Str × D)}, RepF K N H gs fs → RepOF K N H gs (fs.map fun p => (p.1, OV.d p.2))
  | _, _, .nil => .nil
  | _, _, .cons a b => .cons a (RepF.of b)
theorem fs_at {c : Str} {N : Nd} {ρ : Ro} {σ : L2.St} {H : Hp} {x : OV} {v : V} {fs : List (Str × OV)} (R : Rel F N ρ σ H) (r : RepO F.K N H v x) (e : fsOf c ρ x = some fs) : ∃ a dx gs, v = .ref a ∧ H a = some (.ins (He.ga F.K c) dx gs) ∧ RepOF F.K N H gs fs := by
  unfold fsOf at e
  split at e
  · rename_i id
    split at e
    · rename_i c' fs' h
      split at e
      · rename_i hc
        cases e
        obtain ⟨rfl, hz⟩ := r
        obtain ⟨o1, dx, gs, h1, h2⟩ := R.ht.nod id _ h
        rw [beq_iff_eq.mp hc] at h1
        exact ⟨_, dx, gs, rfl, h1, h2⟩
      · cases e
    · cases e
  · rename_i c' fs'
    split at e
    · rename_i hc
      cases e
      have r : Rep F.K N H v (.ins c' fs') := r
      cases r with
      | ins h n rf =>
        rw [beq_iff_eq.mp hc] at h
        exact ⟨_, _, _, rfl, h, rf.of⟩
    · cases e
  · cases e
def flO (c f : Str) (m : Ex) : Ex := bnd m fun x ρ => match (fsOf c ρ x).bind fun fs => fs.lookup f with
  | some y => some (.ok y, ρ)
  | none => none
theorem oe_fld {c f : Str} {e : Expr} {m : Ex} {pos : Pos} (hK : F.K = X.K) (he : PE X e (tO F W m)) (cl : Cls X.K (He.ga X.K c)) (na : NoAttr X.K (He.ga X.K c) f) (hb : attributeBase e f X.env (eval e X.env) = eval e X.env := by rfl) : PE X (.Attribute e f pos) (tO F W (flO c f m)) :=
  (pe_fld he hb).imp fun σ H Q ⟨N, ρ, r, ρ', R, e, kk⟩ => tM_bind R e kk fun x ρ1 v H1 N1 R1 r1 e1 m1 k1 => by
    split at e1
    · rename_i y hy
      cases e1
      obtain ⟨fs, e4, e5⟩ := Option.bind_eq_some_iff.mp hy
      obtain ⟨a, dx, gs, rfl, h1, h2⟩ := fs_at R1 r1 e4
      obtain ⟨u, h3, h4⟩ := lookup_repO h2 e5
      rw [hK] at h1
      exact ⟨_, _, _, _, u, rfl, h1, cl, na, h3, k1.fin R1 h4⟩
    · cases e1
def rcv (c m : Str) (ρ : Ro) (x : OV) : Bool := match fsOf c ρ x with
  | some fs => (fs.lookup m).isNone
  | none => false
theorem rcv_at {c m : Str} {N : Nd} {ρ : Ro} {σ : L2.St} {H : Hp} {x : OV} {v : V} (R : Rel F N ρ σ H) (r : RepO F.K N H v x) (e : rcv c m ρ x = true) : ∃ a dx gs, v = .ref a ∧ H a = some (.ins (He.ga F.K c) dx gs) ∧ gs.lookup m = none := by
  unfold rcv at e
  split at e
  · rename_i fs h
    obtain ⟨a, dx, gs, h1, h2, h3⟩ := fs_at R r h
    exact ⟨a, dx, gs, h1, h2, lookup_repON h3 (Option.isNone_iff_eq_none.mp e)⟩
  · cases e
def mtS (c m : Str) (n : Nat) (f : Gm) (o : Ex) (g : M (List OV)) : Ex := bnd o fun x ρ => if rcv c m ρ x then bnd g (fun xs ρ1 => if (x :: xs).length == n then (match f (x :: xs) ρ1.ob with
  | some (r, ob') => some (r, ⟨ρ1.sl, ob'⟩)
  | none => none) else none) ρ else none
theorem mtS_of {K : PySem.W.Frag} {c m : Str} {n : Nat} {f : Gm} {o : Ex} {g : M (List OV)} {σ : L2.St} {H : Hp} {Q : VK} (hK : F.K = K) (h : tO F W (mtS c m n f o g) σ H Q) : tMethW (He.ga K c) m (spS K n f) W (tO F W o) (tOA F W g) σ H Q := by
  obtain ⟨N, ρ, r, ρ', R, e, kk⟩ := h
  refine tM_bind R e kk fun x ρ1 v H1 N1 R1 r1 e1 m1 k1 => ?_
  split at e1
  · rename_i hr
    obtain ⟨a, dx, gs, rfl, h1, h2⟩ := rcv_at R1 r1 hr
    subst hK
    refine ⟨a, dx, gs, rfl, h1, h2, tM_bind R1 e1 k1 fun xs ρ2 vs H2 N2 R2 r2 e6 m2 k2 => ?_⟩
    obtain ⟨h3, ob', h4, rfl⟩ := clS_some e6
    exact spS_call rfl R2 (.cons (r1.mv m2) r2) h3 h4 k2
  · cases e1
def mtB (c m : Str) (n : Nat) (f : Fm) (o : Ex) (g : M (List OV)) : Ev := bnd o fun x ρ => if rcv c m ρ x then bnd g (fun xs ρ1 => match dpL ρ1 (x :: xs) with
  | some ds => if ds.length == n then (match f ds with
    | some r => if r.flat then some (r, ρ1) else none
    | none => none) else none
  | none => none) ρ else none
theorem mtB_of {K : PySem.W.Frag} {c m : Str} {n : Nat} {f : Fm} {o : Ex} {g : M (List OV)} {σ : L2.St} {H : Hp} {Q : VK} (hK : F.K = K) (h : tD F W (mtB c m n f o g) σ H Q) : tMethW (He.ga K c) m (spF K n f) W (tO F W o) (tOA F W g) σ H Q := by
  obtain ⟨N, ρ, r, ρ', R, e, kk⟩ := h
  refine tM_bind R e kk fun x ρ1 v H1 N1 R1 r1 e1 m1 k1 => ?_
  split at e1
  · rename_i hr
    obtain ⟨a, dx, gs, rfl, h1, h2⟩ := rcv_at R1 r1 hr
    subst hK
    refine ⟨a, dx, gs, rfl, h1, h2, tM_bind R1 e1 k1 fun xs ρ2 vs H2 N2 R2 r2 e6 m2 k2 => ?_⟩
    obtain ⟨ds, h3, h4, h5, rfl, h7⟩ := clB_some e6
    exact spF_callB rfl R2 (.cons (r1.mv m2) r2) h3 h4 h5 h7 k2
  · cases e1
section
variable {pl : Sem Bool} {k : Nat} {a : Addr} {fd : FuncData} {ps : List Str} {n : Nat} {c m : Str} {apos pos : Pos} {o e : Expr} {es : List Expr} {go : Ex} {g : M (List OV)}
theorem oe_meth {f : Gm} (hK : F.K = X.K) (he : PE X o (tO F W go)) (cl : Cls X.K (He.ga X.K c)) (hm : Meth X.K (He.ga X.K c) m a)
    (G : FnOk X.prog X.w X.K X.mg X.base (L2.CX X.prog X.w) k a fd ps (spS X.K n f)) (tk : Takes X W) (hr : Room k X.A) (hb : Binds X.K fd ps []) (ha : PA X (e :: es) (tOA F W g))
    (hst : starEach (e :: es) X.env = (false, eval e X.env) :: starEach es X.env := by rfl) (hpl : (backTo pos (starEach es X.env)).any (·.1) = false := by rfl)
    (ht : eval (.Call (.Attribute o m apos) (e :: es) [] pos) X.env = (do
      let ov ← eval o X.env
      standAt apos.atName
      let (f, first) ← holding [ov] (getMethod ov m pl)
      callWith pos f first (backTo pos (starEach (e :: es) X.env)) (backToKw pos (keywordEach [] X.env))) := by rfl) :
    PE X (.Call (.Attribute o m apos) (e :: es) [] pos) (tO F W (mtS c m n f go g)) := (pe_methW he cl hm G hr hb tk ha hst hpl ht).imp fun _ _ _ h => mtS_of hK h
theorem nil_of {K : PySem.W.Frag} {C : Addr} {m : Str} {sp : Sp} {ta : TE} {σ : L2.St} {H : Hp} {Q : VK} (h : tMethW C m sp W ta (tOA F W nilO) σ H Q) (hmono : ∀ (σ : L2.St) (H : Hp) (P P' : VK), (∀ v H, P v H → P' v H) → ta σ H P → ta σ H P') : tMethW C m sp W ta tNil σ H Q := by
  refine hmono σ H _ _ ?_ h
  rintro v H1 ⟨a, dx, fs, e1, e2, e3, N2, ρ2, r2, ρ2', R2, e, k2⟩
  cases e
  exact ⟨a, dx, fs, e1, e2, e3, k2 [] H1 N2 R2 .refl .nil⟩
theorem tM_mono {α β : Type} {m : M α} {rel : Nd → Hp → β → α → Prop} (σ : L2.St) (H : Hp) (P P' : β → Hp → Prop) (i : ∀ v H, P v H → P' v H) (h : tM F W m rel σ H P) : tM F W m rel σ H P' := by
  obtain ⟨N, ρ, r, ρ', R, e, k⟩ := h
  refine ⟨N, ρ, r, ρ', R, e, ?_⟩
  cases r with
  | ok a => exact fun x H' N' R' m' r' => i _ _ (k x H' N' R' m' r')
  | er c d => exact k
theorem oe_meth0 {f : Gm} (hK : F.K = X.K) (he : PE X o (tO F W go)) (cl : Cls X.K (He.ga X.K c)) (hm : Meth X.K (He.ga X.K c) m a)
    (G : FnOk X.prog X.w X.K X.mg X.base (L2.CX X.prog X.w) k a fd ps (spS X.K n f)) (tk : Takes X W) (hr : Room k X.A) (hb : Binds X.K fd ps [])
    (ht : eval (.Call (.Attribute o m apos) [] [] pos) X.env = (do
      let ov ← eval o X.env
      standAt apos.atName
      let (f, first) ← holding [ov] (getMethod ov m pl)
      callWith pos f first (backTo pos (starEach [] X.env)) (backToKw pos (keywordEach [] X.env))) := by rfl) :
    PE X (.Call (.Attribute o m apos) [] [] pos) (tO F W (mtS c m n f go nilO)) := (pe_meth0W he cl hm G hr hb tk ht).imp fun _ _ _ h => nil_of (K := X.K) (mtS_of hK h) tM_mono
theorem ob_meth {f : Fm} (hK : F.K = X.K) (he : PE X o (tO F W go)) (cl : Cls X.K (He.ga X.K c)) (hm : Meth X.K (He.ga X.K c) m a)
    (G : FnOk X.prog X.w X.K X.mg X.base (L2.CX X.prog X.w) k a fd ps (spF X.K n f)) (tk : Takes X W) (hr : Room k X.A) (hb : Binds X.K fd ps []) (ha : PA X (e :: es) (tOA F W g))
    (hst : starEach (e :: es) X.env = (false, eval e X.env) :: starEach es X.env := by rfl) (hpl : (backTo pos (starEach es X.env)).any (·.1) = false := by rfl)
    (ht : eval (.Call (.Attribute o m apos) (e :: es) [] pos) X.env = (do
      let ov ← eval o X.env
      standAt apos.atName
      let (f, first) ← holding [ov] (getMethod ov m pl)
      callWith pos f first (backTo pos (starEach (e :: es) X.env)) (backToKw pos (keywordEach [] X.env))) := by rfl) :
    PE X (.Call (.Attribute o m apos) (e :: es) [] pos) (tD F W (mtB c m n f go g)) := (pe_methW he cl hm G hr hb tk ha hst hpl ht).imp fun _ _ _ h => mtB_of hK h
theorem ob_meth0 {f : Fm} (hK : F.K = X.K) (he : PE X o (tO F W go)) (cl : Cls X.K (He.ga X.K c)) (hm : Meth X.K (He.ga X.K c) m a)
    (G : FnOk X.prog X.w X.K X.mg X.base (L2.CX X.prog X.w) k a fd ps (spF X.K n f)) (tk : Takes X W) (hr : Room k X.A) (hb : Binds X.K fd ps [])
    (ht : eval (.Call (.Attribute o m apos) [] [] pos) X.env = (do
      let ov ← eval o X.env
      standAt apos.atName
      let (f, first) ← holding [ov] (getMethod ov m pl)
      callWith pos f first (backTo pos (starEach [] X.env)) (backToKw pos (keywordEach [] X.env))) := by rfl) :
    PE X (.Call (.Attribute o m apos) [] [] pos) (tD F W (mtB c m n f go nilO)) := (pe_meth0W he cl hm G hr hb tk ht).imp fun _ _ _ h => nil_of (K := X.K) (mtB_of hK h) tM_mono
end
def mkS (c : Str) (n : Nat) (f : Gm) (g : M (List OV)) : Ex := bnd g fun xs ρ => if xs.length + 1 == n then (match f (.o ρ.ob.length :: xs) (ρ.ob ++ [some (.ins c [])]) with
  | some (.ok (.d .non), ob') => some (.ok (.o ρ.ob.length), ⟨ρ.sl, ob'⟩)
  | some (.er c d, ob') => some (.er c d, ⟨ρ.sl, ob'⟩)
  | _ => none) else none
theorem mk_of {c : Str} {n : Nat} {f : Gm} {N : Nd} {H : Hp} {σ : L2.St} {ρ ρ' : Ro} {vs : List V} {xs : List OV} {r : Res OV} {Q : VK} (R : Rel F N ρ σ H) (rl : RepOL F.K N H vs xs)
    (e : (if xs.length + 1 == n then (match f (.o ρ.ob.length :: xs) (ρ.ob ++ [some (.ins c [])]) with
      | some (.ok (.d .non), ob') => some ((.ok (.o ρ.ob.length) : Res OV), (⟨ρ.sl, ob'⟩ : Ro))
      | some (.er c d, ob') => some (.er c d, ⟨ρ.sl, ob'⟩)
      | _ => none) else none) = some (r, ρ')) (k : CK F W N H σ ρ' (RepO F.K) Q r) (x dx : Addr) (hx : H x = none) (hdx : H dx = none) (hne : dx ≠ x) :
    spS F.K n f (.ref x :: vs) (upd (upd H dx (.own x)) x (.ins (He.ga F.K c) dx [])) (fun v H2 => v = .non ∧ Q (.ref x) H2) (WE W σ) := by
  have s : Same H (upd (upd H dx (.own x)) x (.ins (He.ga F.K c) dx [])) := fun a o h => by
    rw [upd_ne (ne_of_none h hx), upd_ne (ne_of_none h hdx)]
    exact h
  have m0 : Mv N H (N.new x) _ := Mv.new hx s
  have q0 : NodeAt F.K (N.new x) (upd (upd H dx (.own x)) x (.ins (He.ga F.K c) dx [])) x (.ins c []) := ⟨dx, [], upd_same, .nil⟩
  have h0 := R.ht.new hx s q0
  have eal : (N.new x).al ρ.ob.length = x := if_pos R.ht.sz.symm
  have hlt : ρ.ob.length < (N.new x).sz := by show ρ.ob.length < N.sz + 1; rw [R.ht.sz]; exact Nat.lt_succ_self _
  split at e
  · rename_i hn
    split at e
    · rename_i ob' hf
      cases e
      refine ⟨N.new x, _, .o ρ.ob.length :: xs, .ok (.d .non), ob', h0, .cons ⟨by rw [eal], hlt⟩ (rl.mv m0), by rw [List.length_cons, rl.length]; exact beq_iff_eq.mp hn, hf, ?_⟩
      intro v H' N' h' m rd
      have rd : Rep F.K N' H' v .non := rd
      cases rd
      refine ⟨rfl, k (.ref x) H' N' (R.step (m0.trans m) h') (m0.trans m) ⟨?_, Nat.lt_of_lt_of_le hlt m.szs⟩⟩
      rw [m.als _ hlt, eal]
    · rename_i c' d' ob' hf
      cases e
      refine ⟨N.new x, _, .o ρ.ob.length :: xs, .er c' d', ob', h0, .cons ⟨by rw [eal], hlt⟩ (rl.mv m0), by rw [List.length_cons, rl.length]; exact beq_iff_eq.mp hn, hf, ?_⟩
      exact fun v dd H' N' h' m hd nd rd => k v dd H' N' (R.step (m0.trans m) h') (m0.trans m) hd nd rd
    · cases e
  · cases e
theorem oe_make {k : Nat} {fI : Addr} {fd : FuncData} {ps : List Str} {n : Nat} {c : Str} {f : Gm} {x : Str} {p pos : Pos} {e : Expr} {es : List Expr} {g : M (List OV)} (hK : F.K = X.K) (M : Mk X.K (He.ga X.K c) fI) (G : FnOk X.prog X.w X.K X.mg X.base (L2.CX X.prog X.w) k fI fd ps (spS X.K n f)) (tk : Takes X W) (hr : Room (k + 1) X.A) (hm : X.mg x = some (.ref (He.ga X.K c))) (hb : Binds X.K fd ps [])
    (ha : PA X (e :: es) (tOA F W g)) (hg : Gl X x := by rfl) (hdb : (x == ("__debug__" : Str)) = false := by decide) (he : starEach (e :: es) X.env = (false, eval e X.env) :: starEach es X.env := by rfl) (hpl : (backTo pos (starEach es X.env)).any (·.1) = false := by rfl) :
    PE X (.Call (.Name x p) (e :: es) [] pos) (tO F W (mkS c n f g)) :=
  (pe_makeW M G hr hg hm hb tk ha hdb he hpl).imp fun σ H Q ⟨N, ρ, r, ρ', R, e, kk⟩ => tM_bind R e kk fun xs ρ1 vs H1 N1 R1 r1 e1 m1 k1 => fun y dx hy hd hne => by
    have z := mk_of R1 r1 e1 k1 y dx hy hd hne
    rw [hK] at z
    exact z
theorem oe_make0 {k : Nat} {fI : Addr} {fd : FuncData} {ps : List Str} {n : Nat} {c : Str} {f : Gm} {x : Str} {p pos : Pos} (hK : F.K = X.K) (M : Mk X.K (He.ga X.K c) fI) (G : FnOk X.prog X.w X.K X.mg X.base (L2.CX X.prog X.w) k fI fd ps (spS X.K n f)) (tk : Takes X W) (hr : Room (k + 1) X.A) (hm : X.mg x = some (.ref (He.ga X.K c))) (hb : Binds X.K fd ps [])
    (hg : Gl X x := by rfl) (hdb : (x == ("__debug__" : Str)) = false := by decide) : PE X (.Call (.Name x p) [] [] pos) (tO F W (mkS c n f nilO)) :=
  (pe_make0W M G hr hg hm hb tk hdb).imp fun σ H Q ⟨N, ρ, r, ρ', R, e, kk⟩ => fun y dx hy hd hne => by
    have z := mk_of (xs := []) (vs := []) R .nil e kk y dx hy hd hne
    rw [hK] at z
    exact z
end
end LP

set_option maxRecDepth 100000
set_option maxHeartbeats 1000000
namespace LP
open PySem PySem.Spec
open PyProof.Rows hiding St
open L2
set_option autoImplicit false
section
variable {X : Cx} {F : Fx} {W : WX}
def stX (i : Nat) (m : Ex) : Sv := stM m fun x ρ => some (.nx (ρ.set i x.sl))
theorem os_set {i : Nat} {x : Str} {e : Expr} {m : Ex} {pos pos' : Pos} (hN : X.N.Nodup) (hi : X.N[i]? = some x) (hx : Loc X.env.scope x) (he : PE X e (tO F W m)) (hs : swapsWith e (some (.Name x pos')) pos.line X.env = pure false := by rfl)
    (hf : X.fn x = true ∨ X.env.scope.names.lookup x = some .local := by first | exact .inl rfl | exact .inr rfl | assumption) : PS X (.Assign [.Name x pos'] e pos) (tDS F W (stX i m)) := (ps_set hN hi hx he hs hf).imp fun E σ H ⟨N, ρ, o, R, e, q⟩ => tM_st R e q fun a ρ1 x H1 N1 R1 r1 e1 m1 q1 => by
  cases e1
  exact q1 _ H1 N1 (R1.setX r1) .refl
def rtX (m : Ex) : Sv := stM m fun x ρ => some (.rt x ρ)
theorem os_ret {e : Expr} {m : Ex} {pos : Pos} (h : PE X e (tO F W m)) : PS X (.Return (some e) pos) (tDS F W (rtX m)) := (ps_ret h).imp fun E σ H ⟨N, ρ, o, R, e, q⟩ => tM_st R e q fun a ρ1 x H1 N1 R1 r1 e1 m1 q1 => by
  cases e1
  exact q1 x σ H1 N1 R1 .refl r1
def exX (m : Ex) : Sv := stM m fun _ ρ => some (.nx ρ)
theorem os_expr {e : Expr} {m : Ex} {pos : Pos} (he : PE X e (tO F W m)) (hs : swapsWith e none pos.line X.env = pure false := by rfl) : PS X (.Expr e pos) (tDS F W (exX m)) := (ps_expr he hs).imp fun E σ H ⟨N, ρ, o, R, e, q⟩ => tM_st R e q fun a ρ1 x H1 N1 R1 r1 e1 m1 q1 => by
  cases e1
  exact q1 _ H1 N1 R1 .refl
def tgX (m : Ex) (g : Tg) : Sv := stM m fun x ρ => match g x ρ with
  | some ρ1 => some (.nx ρ1)
  | none => none
theorem os_asg {tg e : Expr} {m : Ex} {is : List Nat} {t : TG} {g : Tg} {pos : Pos} (he : PE X e (tO F W m)) (hg : PG X tg t) (og : OpG F is t g) (hs : swapsWithSole [tg] e pos.line X.env = pure false := by rfl) (hw : swappedStores [tg] e X.env = pure none := by rfl)
    (h1 : (assignEach [tg] X.env).map (·.2) = [assign tg X.env] := by rfl) : PS X (.Assign [tg] e pos) (tDS F W (tgX m g)) := (ps_asg he hg hs hw h1).imp fun E σ H ⟨N, ρ, o, R, e, q⟩ => tM_st R e q fun a ρ1 x H1 N1 R1 r1 e1 m1 q1 => by
  split at e1
  · rename_i ρ2 h2
    cases e1
    exact og N1 ρ1 σ H1 x a ρ2 _ R1 r1 h2 fun σ' H' N' R' m' _ => q1 σ' H' N' R' m'
  · cases e1
def RepTO (K : PySem.W.Frag) (N : Nd) (H : Hp) (v : V) (xs : List OV) : Prop := ∃ a vs, v = .ref a ∧ SqT K H a vs ∧ RepOL K N H vs xs
def rwF (g : M (List OV)) : M (List OV) := bnd g fun xs => optM (if lnOk xs then some xs else none)
theorem oe_row {es : List Expr} {g : M (List OV)} {x1} {pos : Pos} (h : PA X es (tOA F W g)) : PE X (.Tuple es x1 pos) (tM F W (rwF g) (RepTO F.K)) := (pe_tup h).imp fun σ H Q ⟨N, ρ, d, ρ', R, e, k⟩ => tM_bind R e k fun xs ρ1 vs H1 N1 R1 r1 e1 m1 k1 => by
  obtain ⟨c, e3, rfl, rfl⟩ := optM_some e1
  split at e3
  · rename_i hz
    cases e3
    refine ⟨by rw [r1.length]; exact lnOk_le hz, fun p hp => ?_⟩
    have s := same_upd (o := .tup vs) hp
    exact k1.more R1 s ⟨p, vs, rfl, SqT.of upd_same, r1.mv (.same s)⟩
  · cases e3
def rowS (m : M (List OV)) (n : Nat) (h : TgL) : Sv := stM m fun xs ρ => if xs.length == n then (match h xs ρ with
  | some ρ1 => some (.nx ρ1)
  | none => none) else none
theorem os_row {tg e : Expr} {m : M (List OV)} {is : List Nat} {n : Nat} {u : TGs} {h : TgL} {pos : Pos} (he : PE X e (tM F W m (RepTO F.K))) (hK : F.K = X.K) (hg : PG X tg (gTup X.K n u)) (og : OpGs F is u h) (hs : swapsWithSole [tg] e pos.line X.env = pure false := by rfl) (hw : swappedStores [tg] e X.env = pure none := by rfl)
    (h1 : (assignEach [tg] X.env).map (·.2) = [assign tg X.env] := by rfl) : PS X (.Assign [tg] e pos) (tDS F W (rowS m n h)) := (ps_asg he hg hs hw h1).imp fun E σ H ⟨N, ρ, o, R, e, q⟩ => tM_st R e q fun xs ρ1 v H1 N1 R1 r1 e1 m1 q1 => by
  split at e1
  · rename_i hn
    split at e1
    · rename_i ρ2 h2
      cases e1
      obtain ⟨a, vs, rfl, hq, rl⟩ := r1
      exact ⟨a, vs, rfl, hK ▸ hq, rl.length.trans (beq_iff_eq.mp hn), og N1 ρ1 σ H1 vs xs ρ2 _ R1 rl h2 fun σ' H' N' R' m' _ => q1 σ' H' N' R' m'⟩
    · cases e1
  · cases e1
def setF (c f : Str) (ρ : Ro) (x y : OV) : Option Ro := match x with
  | .o id => match ρ.ob[id]? with
    | some (some (.ins c' fs)) => if c' == c && Nat.blt fs.length 900 then some ⟨ρ.sl, ρ.ob.set id (some (.ins c' (putO f y fs)))⟩ else none
    | _ => none
  | _ => none
theorem setF_some {c f : Str} {ρ ρ' : Ro} {x y : OV} {N : Nd} {σ : L2.St} {H : Hp} {v u : V} (R : Rel F N ρ σ H) (rx : RepO F.K N H v x) (ry : RepO F.K N H u y) (e : setF c f ρ x y = some ρ') : ∃ a dx gs, v = .ref a ∧ H a = some (.ins (He.ga F.K c) dx gs) ∧ gs.length < 1000 ∧
    Rel F N ρ' σ (upd H a (.ins (He.ga F.K c) dx (putF f u gs))) ∧ Mv N H N (upd H a (.ins (He.ga F.K c) dx (putF f u gs))) := by
  unfold setF at e
  split at e
  · rename_i id
    split at e
    · rename_i c' fs h
      split at e
      · rename_i hc
        cases e
        rw [Bool.and_eq_true] at hc
        obtain ⟨rfl, hz⟩ := rx
        obtain ⟨o1, dx, gs, h1, h2⟩ := R.ht.nod id _ h
        have hc1 := beq_iff_eq.mp hc.1
        subst hc1
        have hl := repOF_length h2
        have hl2 := Nat.blt_eq.mp hc.2
        have mv : Mv N H N (upd H (N.al id) (.ins (He.ga F.K c') dx (putF f u gs))) := Mv.put R.ht h
        refine ⟨_, dx, gs, rfl, h1, by omega, R.step mv (R.ht.put h ⟨dx, _, upd_same, ?_⟩), mv⟩
        exact put_rep (ry.mv mv) (RepOF.keep mv.keep.n mv.sub mv.al h2)
      · cases e
    · cases e
  · cases e
def sfS (c f : Str) (m o : Ex) : Sv := stM m fun y => stM o fun x ρ => match setF c f ρ x y with
  | some ρ1 => some (.nx ρ1)
  | none => none
theorem os_fld {c f : Str} {o value : Expr} {m mo : Ex} {pos pos' : Pos} (hK : F.K = X.K) (ho : PE X o (tO F W mo)) (hv : PE X value (tO F W m)) (cl : Cls X.K (He.ga X.K c)) (na : NoAttr X.K (He.ga X.K c) f) (hs : swapsWith value (some (.Attribute o f pos')) pos.line X.env = pure false := by rfl) :
    PS X (.Assign [.Attribute o f pos'] value pos) (tDS F W (sfS c f m mo)) := (ps_fld ho hv hs).imp fun E σ H ⟨N, ρ, out, R, e, q⟩ => tM_st R e q fun y ρ1 u H1 N1 R1 r1 e1 m1 q1 => tM_st R1 e1 q1 fun x ρ2 v H2 N2 R2 r2 e2 m2 q2 => by
  split at e2
  · rename_i ρ3 h3
    cases e2
    obtain ⟨a, dx, gs, rfl, h1, h2, R3, m3⟩ := setF_some R2 r2 (r1.mv m2) h3
    rw [hK] at h1 R3 m3
    exact ⟨a, _, dx, gs, rfl, h1, cl, na, h2, q2 σ _ N2 R3 m3⟩
  · cases e2
def gFld (K : PySem.W.Frag) (ta : TE) (f : Str) : TG := fun v σ H Q => ta σ H fun x H2 => ∃ a C dx fs, x = .ref a ∧ H2 a = some (.ins C dx fs) ∧ Cls K C ∧ NoAttr K C f ∧ fs.length < 1000 ∧ Q σ (upd H2 a (.ins C dx (putF f v fs)))
theorem pg_fld {o : Expr} {f : Str} {pos : Pos} {ta : TE} (ho : PE X o ta) : PG X (.Attribute o f pos) (gFld X.K ta f) := by
  refine ⟨fun pins s σ H v u Q I r h => ?_⟩
  rw [PySem.assign_Attribute]
  refine wpAny_bind (wpAny_holding (thn (ho.run pins s σ H _ I h) fun ov s1 ⟨x, H1, I1, rx, a, C, dx, fs, ex, ea, c, n, l, q⟩ => ?_))
  subst ex
  obtain rfl : ov = Value.ref a := rx
  refine wpAny_bind (wpAny_standAt (wpAny_bind (wpAny_holding (setattr_ok I1 ea c n l r fun s3 I3 => ?_))))
  exact wpAny_release ⟨σ, _, I3, q⟩
def fdG (c f : Str) (m : Ex) : Tg := fun y ρ => match m ρ with
  | some (.ok x, ρ1) => setF c f ρ1 x y
  | _ => none
theorem og_fld {c f : Str} {m : Ex} (hK : F.K = X.K) (cl : Cls X.K (He.ga X.K c)) (na : NoAttr X.K (He.ga X.K c) f) : OpG F [] (gFld X.K (tO F W m) f) (fdG c f m) := fun N ρ σ H u y ρ' Q R r e k => by
  unfold fdG at e
  split at e
  · rename_i x ρ1 h1
    refine ⟨N, ρ, .ok x, ρ1, R, h1, fun v H1 N1 R1 m1 r1 => ?_⟩
    obtain ⟨a, dx, gs, rfl, h2, h3, R3, m3⟩ := setF_some R1 r1 (r.mv m1) e
    rw [hK] at h2 R3 m3
    exact ⟨a, _, dx, gs, rfl, h2, cl, na, h3, k σ _ N1 R3 (m1.trans m3) ⟨rfl, fun _ _ => rfl⟩⟩
  · cases e
def sgS (c f : Str) (g : D → D → Option D) (o : Ex) (m : Ev) : Sv := stM o fun x ρ => match (fsOf c ρ x).bind fun fs => fs.lookup f with
  | some (.d a) => stM m (fun b ρ1 => match g a b with
    | some z => (match setF c f ρ1 x (.d z) with
      | some ρ2 => some (.nx ρ2)
      | none => none)
    | none => none) ρ
  | _ => none
theorem os_fldaug {c f : Str} {o value : Expr} {m : Ev} {mo : Ex} {op : Operator} {rd : V → V → Hp → VK → Prop} {g : D → D → Option D} {pos tpos : Pos} (hK : F.K = X.K) (ho : PE X o (tO F W mo)) (hv : PE X value (tD F W m)) (hop : InOp X op rd) (og : Op2 F.K rd g) (cl : Cls X.K (He.ga X.K c)) (na : NoAttr X.K (He.ga X.K c) f) :
    PS X (.AugAssign (.Attribute o f tpos) op value pos) (tDS F W (sgS c f g mo m)) := (ps_fldaug ho hv hop).imp fun E σ H ⟨N, ρ, out, R, e, q⟩ => tM_st R e q fun x ρ1 v H1 N1 R1 r1 e1 m1 q1 => by
  split at e1
  · rename_i a ha
    obtain ⟨fs, e4, e5⟩ := Option.bind_eq_some_iff.mp ha
    obtain ⟨p, dx, gs, rfl, h1, h2⟩ := fs_at R1 r1 e4
    obtain ⟨u, h3, h4⟩ := lookup_repO h2 e5
    have h4 : Rep F.K N1 H1 u a := h4
    rw [hK] at h1
    refine ⟨p, _, dx, gs, u, rfl, h1, cl, na, h3, tM_st R1 e1 q1 fun b ρ2 y H2 N2 R2 r2 e2 m2 q2 => ?_⟩
    split at e2
    · rename_i z hz
      split at e2
      · rename_i ρ3 h5
        cases e2
        refine og N2 H2 u y a b z _ R2.nin (h4.mv m2) r2 hz fun w H3 s rz => ?_
        have R3 := R2.more s
        have m3 : Mv N1 H1 N2 H3 := m2.trans (.same s)
        obtain ⟨p', dx', gs', ep, h6, h7, R4, m4⟩ := setF_some (y := .d z) R3 (r1.mv m3) rz h5
        cases ep
        rw [hK] at h6 R4 m4
        exact ⟨dx', gs', h6, h7, q2 σ _ N2 R4 ((Mv.same s).trans m4)⟩
      · cases e2
    · cases e2
  · cases e1
def lsOf (ρ : Ro) : OV → Option (List OV)
  | .o id => match ρ.ob[id]? with
    | some (some (.lst xs)) => some xs
    | _ => none
  | _ => none
theorem ls_at {N : Nd} {ρ : Ro} {σ : L2.St} {H : Hp} {x : OV} {v : V} {xs : List OV} (R : Rel F N ρ σ H) (r : RepO F.K N H v x) (e : lsOf ρ x = some xs) : ∃ id vs, x = .o id ∧ v = .ref (N.al id) ∧ ρ.ob[id]? = some (some (.lst xs)) ∧ H (N.al id) = some (.lst vs) ∧ RepOL F.K N H vs xs := by
  unfold lsOf at e
  split at e
  · rename_i id
    split at e
    · rename_i xs' h
      cases e
      obtain ⟨rfl, hz⟩ := r
      obtain ⟨o1, vs, h1, h2⟩ := R.ht.nod id _ h
      exact ⟨id, vs, rfl, rfl, h, h1, h2⟩
    · cases e
  · cases e
def setL (ρ : Ro) (x : OV) (xs : List OV) : Option Ro := match x with
  | .o id => some ⟨ρ.sl, ρ.ob.set id (some (.lst xs))⟩
  | _ => none
theorem set_ls {N : Nd} {ρ : Ro} {σ : L2.St} {H : Hp} {id : Nat} {xs ys : List OV} {vs : List V} (R : Rel F N ρ σ H) (h : ρ.ob[id]? = some (some (.lst xs))) (r : RepOL F.K N H vs ys) : Rel F N ⟨ρ.sl, ρ.ob.set id (some (.lst ys))⟩ σ (upd H (N.al id) (.lst vs)) ∧ Mv N H N (upd H (N.al id) (.lst vs)) := by
  have mv : Mv N H N (upd H (N.al id) (.lst vs)) := Mv.put R.ht h
  exact ⟨R.step mv (R.ht.put h ⟨vs, upd_same, r.mv mv⟩), mv⟩
theorem RepOL.append {K : PySem.W.Frag} {N : Nd} {H : Hp} : ∀ {vs us : List V} {ds es : List OV}, RepOL K N H vs ds → RepOL K N H us es → RepOL K N H (vs ++ us) (ds ++ es)
  | _, _, _, _, .nil, s => s
  | _, _, _, _, .cons a r, s => .cons a (RepOL.append r s)
theorem RepOL.take {K : PySem.W.Frag} {N : Nd} {H : Hp} : ∀ {vs : List V} {ds : List OV} (n : Nat), RepOL K N H vs ds → RepOL K N H (vs.take n) (ds.take n)
  | _, _, 0, r => .nil
  | _, _, n + 1, .nil => .nil
  | _, _, n + 1, .cons a r => .cons a (RepOL.take n r)
theorem RepOL.set {K : PySem.W.Frag} {N : Nd} {H : Hp} {v : V} {d : OV} (q : RepO K N H v d) : ∀ {vs : List V} {ds : List OV} (n : Nat), RepOL K N H vs ds → RepOL K N H (vs.set n v) (ds.set n d)
  | _, _, _, .nil => .nil
  | _, _, 0, .cons _ r => .cons q r
  | _, _, n + 1, .cons a r => .cons a (RepOL.set q n r)
def apF (o : Ex) (m : Ex) : Ex := bnd o fun x ρ => match lsOf ρ x with
  | some _ => bnd m (fun y ρ1 => match lsOf ρ1 x with
    | some xs => if Nat.blt xs.length sizeLine then (match setL ρ1 x (xs ++ [y]) with
      | some ρ2 => some (.ok (.d .non), ρ2)
      | none => none) else none
    | none => none) ρ
  | none => none
theorem oe_append {o e : Expr} {mo m : Ex} {apos cpos : Pos} (hK : F.K = X.K) (ho : PE X o (tO F W mo)) (he : PE X e (tO F W m))
    (hbase : attributeBase o "append" X.env (eval o X.env) = eval o X.env := by rfl)
    (hfew : ((backTo cpos (starEach [e] X.env)).all (fun x => !x.1) && (backToKw cpos (keywordEach [] X.env)).all (fun x => x.1.isSome)
      && decide (([e] : List Expr).length + ([] : List Keyword).length + (if ([] : List Keyword).isEmpty then 0 else 1) < 30)) = true := by rfl)
    (hline : (apos.endLine == cpos.line) = true := by rfl) (hs : starEach [e] X.env = (false, eval e X.env) :: starEach [] X.env := by rfl) (hplain : (backTo cpos (starEach [] X.env)).any (·.1) = false := by rfl) :
    PE X (.Call (.Attribute o "append" apos) [e] [] cpos) (tO F W (apF mo m)) := (pe_bm PySem.F.plainAttrs_list PySem.F.slot_list_append PySem.F.type_list_append mt_append ho (pa_cons he pa_nil hs) hbase hfew hline hs hplain).imp fun σ H Q ⟨N, ρ, r, ρ', R, e, k⟩ => tM_bind R e k fun x ρ1 v H1 N1 R1 r1 e1 m1 k1 => by
  split at e1
  · rename_i xs0 h0
    obtain ⟨id, vs, rfl, rfl, h1, h2, h3⟩ := ls_at R1 r1 h0
    refine ⟨.inl ⟨rfl, vs, SqL.of h2⟩, tM_bind R1 e1 k1 fun y ρ2 u H2 N2 R2 r2 e2 m2 k2 => ?_⟩
    split at e2
    · rename_i xs h4
      split at e2
      · rename_i hz
        split at e2
        · rename_i ρ3 h5
          cases e2
          obtain ⟨id', vs', e6, e7, h6, h7, h8⟩ := ls_at R2 (r1.mv m2) h4
          cases e6
          cases h5
          obtain ⟨R3, m3⟩ := set_ls R2 h6 (h8.append (.cons r2 .nil))
          refine ⟨_, vs', u, e7, rfl, h7, by rw [h8.length]; exact Nat.blt_eq.mp hz, k2.st m3 R3 (.non : Rep F.K N2 _ .non .non)⟩
        · cases e2
      · cases e2
    · cases e2
  · cases e1
def ppF (o : Ex) : Ex := bnd o fun x ρ => match lsOf ρ x with
  | some xs => (match xs[xs.length - 1]? with
    | some y => (match setL ρ x xs.dropLast with
      | some ρ2 => some (.ok y, ρ2)
      | none => none)
    | none => none)
  | none => none
theorem oe_pop {o : Expr} {mo : Ex} {apos cpos : Pos} (hK : F.K = X.K) (ho : PE X o (tO F W mo))
    (hbase : attributeBase o "pop" X.env (eval o X.env) = eval o X.env := by rfl) (hline : (apos.endLine == cpos.line) = true := by rfl) :
    PE X (.Call (.Attribute o "pop" apos) [] [] cpos) (tO F W (ppF mo)) := (pe_bm0 PySem.F.plainAttrs_list PySem.F.slot_list_pop PySem.F.type_list_pop mt_pop ho hbase hline).imp fun σ H Q ⟨N, ρ, r, ρ', R, e, k⟩ => tM_bind R e k fun x ρ1 v H1 N1 R1 r1 e1 m1 k1 => by
  split at e1
  · rename_i xs h0
    obtain ⟨id, vs, rfl, rfl, h1, h2, h3⟩ := ls_at R1 r1 h0
    split at e1
    · rename_i y hy
      split at e1
      · rename_i ρ2 h5
        cases e1
        cases h5
        obtain ⟨u, hu, ru⟩ := h3.get hy
        rw [← h3.length] at hu
        have rl : RepOL F.K N1 H1 vs.dropLast xs.dropLast := by
          rw [List.dropLast_eq_take, List.dropLast_eq_take, h3.length]
          exact h3.take _
        obtain ⟨R3, m3⟩ := set_ls R1 h1 rl
        exact ⟨.inl ⟨rfl, vs, SqL.of h2⟩, _, vs, u, rfl, rfl, h2, hu, k1.st m3 R3 (ru.mv m3)⟩
      · cases e1
    · cases e1
  · cases e1
def ixO (o : Ex) (i : Ev) : Ex := bnd o fun x => bnd i fun d ρ => match d with
  | .int j => (match (lsOf ρ x).bind fun xs => atI xs j with
    | some y => some (.ok y, ρ)
    | none => none)
  | _ => none
theorem at_ol {K : PySem.W.Frag} {N : Nd} {H : Hp} {vs : List V} {xs : List OV} {j : Int} {y : OV} (r : RepOL K N H vs xs) (e : atI xs j = some y) : ∃ u, atI vs j = some u ∧ RepO K N H u y := by
  unfold atI at e ⊢
  rw [r.length]
  obtain ⟨n, h1, h2⟩ := Option.bind_eq_some_iff.mp e
  obtain ⟨u, h3, h4⟩ := r.get h2
  exact ⟨u, by rw [h1]; exact h3, h4⟩
theorem oe_ix {a b : Expr} {fa : Ex} {fb : Ev} {pos : Pos} (hK : F.K = X.K) (ha : PE X a (tO F W fa)) (hb : PE X b (tD F W fb)) (hs : PlainIx b) : PE X (.Subscript a b pos) (tO F W (ixO fa fb)) :=
  (pe_ix ix_list ha hb hs).imp fun σ H Q ⟨N, ρ, r, ρ', R, e, k⟩ => tM_bind R e k fun x ρ1 v H1 N1 R1 r1 e1 m1 k1 => tM_bind R1 e1 k1 fun d ρ2 w H2 N2 R2 r2 e2 m2 k2 => by
    split at e2
    · rename_i j
      split at e2
      · rename_i y hy
        cases e2
        obtain ⟨xs, h1, h2⟩ := Option.bind_eq_some_iff.mp hy
        obtain ⟨id, vs, rfl, h0, h3, h4, h5⟩ := ls_at R2 (r1.mv m2) h1
        obtain ⟨u, h6, h7⟩ := at_ol h5 h2
        have r2 : Rep F.K N2 H2 w (.int j) := r2
        cases r2
        exact ⟨_, vs, j, u, h0, rfl, SqL.of h4, h6, k2.fin R2 h7⟩
      · cases e2
    · cases e2
def isG (o : Ex) (i : Ev) : Tg := fun y ρ => match o ρ with
  | some (.ok x, ρ1) => (match i ρ1 with
    | some (.ok (.int k), ρ2) => (match lsOf ρ2 x with
      | some xs => (match ixN xs.length k with
        | some j => setL ρ2 x (xs.set j y)
        | none => none)
      | none => none)
    | _ => none)
  | _ => none
theorem og_ix {o : Ex} {i : Ev} : OpG F [] (gSub (tO F W o) (tD F W i) rSetL) (isG o i) := fun N ρ σ H u y ρ' Q R r e k => by
  unfold isG at e
  split at e
  · rename_i x ρ1 h1
    refine ⟨N, ρ, .ok x, ρ1, R, h1, fun v H1 N1 R1 m1 r1 => ?_⟩
    split at e
    · rename_i k' ρ2 h2
      refine ⟨N1, ρ1, .ok (.int k'), ρ2, R1, h2, fun w H2 N2 R2 m2 r2 => ?_⟩
      split at e
      · rename_i xs h3
        split at e
        · rename_i j h4
          obtain ⟨id, vs, rfl, h0, h5, h6, h7⟩ := ls_at R2 (r1.mv m2) h3
          cases e
          have r2 : Rep F.K N2 H2 w (.int k') := r2
          cases r2
          obtain ⟨R3, m3⟩ := set_ls R2 h5 (RepOL.set ((r.mv m1).mv m2) j h7)
          exact ⟨_, vs, k', j, h0, rfl, h6, by rw [h7.length]; exact h4, k σ _ N2 R3 ((m1.trans m2).trans m3) ⟨rfl, fun _ _ => rfl⟩⟩
        · cases e
      · cases e
    · cases e
  · cases e
def nlO (g : M (List OV)) : Ex := bnd g fun xs ρ => if lnOk xs then some (.ok (.o ρ.ob.length), ⟨ρ.sl, ρ.ob ++ [some (.lst xs)]⟩) else none
theorem new_of {N : Nd} {ρ : Ro} {σ : L2.St} {H : Hp} {p : Addr} {o : HO} {w : Node} (R : Rel F N ρ σ H) (hp : H p = none) (q : NodeAt F.K (N.new p) (upd H p o) p w) : Rel F (N.new p) ⟨ρ.sl, ρ.ob ++ [some w]⟩ σ (upd H p o) ∧ Mv N H (N.new p) (upd H p o) ∧ RepO F.K (N.new p) (upd H p o) (.ref p) (.o ρ.ob.length) := by
  have s := same_upd (o := o) hp
  have mv : Mv N H (N.new p) (upd H p o) := Mv.new hp s
  have eal : (N.new p).al ρ.ob.length = p := if_pos R.ht.sz.symm
  exact ⟨R.step mv (R.ht.new hp s q), mv, by rw [eal], by show ρ.ob.length < N.sz + 1; rw [R.ht.sz]; exact Nat.lt_succ_self _⟩
theorem oe_lst {es : List Expr} {g : M (List OV)} {pos : Pos} (h : PA X es (tOA F W g)) : PE X (.List es pos) (tO F W (nlO g)) := (pe_lst h).imp fun σ H Q ⟨N, ρ, d, ρ', R, e, k⟩ => tM_bind R e k fun xs ρ1 vs H1 N1 R1 r1 e1 m1 k1 => by
  split at e1
  · rename_i hz
    cases e1
    refine ⟨by rw [r1.length]; exact lnOk_le hz, fun p hp => ?_⟩
    have s := same_upd (o := .lst vs) hp
    obtain ⟨R2, m2, r2⟩ := new_of (o := .lst vs) (w := .lst xs) R1 hp ⟨vs, upd_same, RepOL.keep (Keep.of_same s) (Nd.new_sub hp) Nd.new_als r1⟩
    exact k1.st m2 R2 r2
  · cases e1
def ndO : Ex := fun ρ => some (.ok (.o ρ.ob.length), ⟨ρ.sl, ρ.ob ++ [some (.dK [])]⟩)
theorem oe_dct {pos : Pos} : PE X (.Dict [] [] pos) (tO F W ndO) := pe_dnewK.imp fun σ H Q ⟨N, ρ, d, ρ', R, e, k⟩ => by
  cases e
  intro p hp
  obtain ⟨R2, m2, r2⟩ := new_of (o := .dK []) (w := .dK []) R hp ⟨[], upd_same, .nil⟩
  exact k.st m2 R2 r2
def lsO (f : Ev) : Ex := bnd f fun d ρ => match d with
  | .lst ds => some (.ok (.o ρ.ob.length), ⟨ρ.sl, ρ.ob ++ [some (.lst (ds.map .d))]⟩)
  | .scr ds => some (.ok (.o ρ.ob.length), ⟨ρ.sl, ρ.ob ++ [some (.lst (ds.map .d))]⟩)
  | .tup ds => some (.ok (.o ρ.ob.length), ⟨ρ.sl, ρ.ob ++ [some (.lst (ds.map .d))]⟩)
  | _ => none
theorem oe_list {p pos : Pos} {e : Expr} {f : Ev} (hK : F.K = X.K) (ha : PE X e (tD F W f)) (hm : X.mg "list" = none) (hg : Gl X "list" := by rfl)
    (he : starEach [e] X.env = (false, eval e X.env) :: starEach [] X.env := by rfl) (hpl : (backTo pos (starEach [] X.env)).any (·.1) = false := by rfl) : PE X (.Call (.Name "list" p) [e] [] pos) (tO F W (lsO f)) :=
  (pe_callTy call_list_of hg hm boot_list (pa_cons ha pa_nil he) (by decide) (by decide) he hpl).imp fun σ H Q ⟨N, ρ, r, ρ', R, e, k⟩ => tM_bind R e k fun d ρ1 v H1 N1 R1 r1 e1 m1 k1 => by
    have fin : ∀ (ds : List D) (ys : List V), RepL F.K N1 H1 ys ds → some ((.ok (.o ρ1.ob.length) : Res OV), (⟨ρ1.sl, ρ1.ob ++ [some (.lst (ds.map .d))]⟩ : Ro)) = some (r, ρ') → ∀ l, H1 l = none → Q (.ref l) (upd H1 l (.lst ys)) := fun ds ys rl e l hl => by
      cases e
      have s := same_upd (o := .lst ys) hl
      obtain ⟨R2, m2, r2⟩ := new_of (o := .lst ys) (w := .lst (ds.map .d)) R1 hl ⟨ys, upd_same, RepOL.keep (Keep.of_same s) (Nd.new_sub hl) Nd.new_als rl.ol⟩
      exact k1.st m2 R2 r2
    split at e1
    · rename_i ds
      cases r1 with
      | lst h n rl => exact ⟨_, _, rfl, .inl (SqL.of h), fin _ _ rl e1⟩
    · rename_i ds
      cases r1 with
      | scr h n rl => exact ⟨_, _, rfl, .inl (hK ▸ h.sq), fin _ _ rl e1⟩
    · rename_i ds
      cases r1 with
      | tup h rl => exact ⟨_, _, rfl, .inr (hK ▸ h), fin _ _ rl e1⟩
    · cases e1
end
end LP

set_option maxRecDepth 100000
set_option maxHeartbeats 1000000
namespace LP
open PySem PySem.Spec
open PyProof.Rows hiding St
open L2
set_option autoImplicit false
section
variable {K : PySem.W.Frag}
def or2 (g g' : D → D → Option D) : D → D → Option D := fun a b => match g a b with
  | some c => some c
  | none => g' a b
theorem Op2.or {r r' : R2} {g g' : D → D → Option D} (h : Op2 K r g) (h' : Op2 K r' g') : Op2 K (fun x y H Q => r x y H Q ∨ r' x y H Q) (or2 g g') := fun N H x y a b c Q nin ra rb e k => by
  unfold or2 at e
  split at e
  · rename_i hg
    cases e
    exact .inl (h N H x y a b _ Q nin ra rb hg k)
  · exact .inr (h' N H x y a b c Q nin ra rb e k)
def gI (g : Int → Int → Option D) : D → D → Option D
  | .int i, .int j => g i j
  | _, _ => none
theorem o_rI0 {f : Int → Int → V} {g : Int → Int → D} (h : ∀ i j N H, Rep K N H (f i j) (g i j)) : Op2 K (rI0 f) (gI fun i j => some (g i j)) := fun N H x y a b c Q nin ra rb e k => by
  cases ra with
  | int i =>
    cases rb with
    | int j => cases e; exact ⟨i, j, rfl, rfl, k _ _ (Same.refl _) (h i j N H)⟩
    | _ => cases e
  | _ => cases e
theorem o_rI {C : Int → Int → Prop} {f : Int → Int → V} {g : Int → Int → Option D} (h : ∀ i j d N H, g i j = some d → C i j ∧ Rep K N H (f i j) d) : Op2 K (rI C f) (gI g) := fun N H x y a b c Q nin ra rb e k => by
  cases ra with
  | int i =>
    cases rb with
    | int j =>
      obtain ⟨h1, h2⟩ := h i j c N H e
      exact ⟨i, j, rfl, rfl, h1, k _ _ (Same.refl _) h2⟩
    | _ => cases e
  | _ => cases e
def gSub : D → D → Option D := gI fun i j => some (.int (i - j))
def gLt : D → D → Option D := gI fun i j => some (.bl (decide (i < j)))
def gLe : D → D → Option D := gI fun i j => some (.bl (decide (i ≤ j)))
def gGt : D → D → Option D := gI fun i j => some (.bl (decide (j < i)))
def gGe : D → D → Option D := gI fun i j => some (.bl (decide (j ≤ i)))
theorem o_sub : Op2 K (rI0 fun i j => .int (i - j)) gSub := o_rI0 fun i j N H => .int _
theorem o_lt : Op2 K (rI0 fun i j => .bl (decide (i < j))) gLt := o_rI0 fun i j N H => .bl _
theorem o_le : Op2 K (rI0 fun i j => .bl (decide (i ≤ j))) gLe := o_rI0 fun i j N H => .bl _
theorem o_gt : Op2 K (rI0 fun i j => .bl (decide (j < i))) gGt := o_rI0 fun i j N H => .bl _
theorem o_ge : Op2 K (rI0 fun i j => .bl (decide (j ≤ i))) gGe := o_rI0 fun i j N H => .bl _
def gMod : D → D → Option D := gI fun i j => if 0 < j then some (.int (i % j)) else none
theorem o_mod : Op2 K (rI (fun _ j => 0 < j) fun i j => .int (i % j)) gMod := o_rI fun i j d N H e => by
  split at e
  · rename_i h
    cases e
    exact ⟨h, .int _⟩
  · cases e
def gFdiv : D → D → Option D := gI fun i j => if 0 < j ∧ j < 1073741824 then some (.int (i / j)) else none
theorem o_fdiv : Op2 K (rI CDiv fun i j => .int (i / j)) gFdiv := o_rI fun i j d N H e => by
  split at e
  · rename_i h
    cases e
    exact ⟨h, .int _⟩
  · cases e
def gMulI : D → D → Option D := gI fun i j => if -(2 ^ 64) < j ∧ j < 2 ^ 64 then some (.int (i * j)) else none
theorem o_mulI : Op2 K (rI CMul fun i j => .int (i * j)) gMulI := o_rI fun i j d N H e => by
  split at e
  · rename_i h
    cases e
    exact ⟨.inr h, .int _⟩
  · cases e
def gPow : D → D → Option D := gI fun i j => if 0 ≤ j ∧ j ≤ 64 ∧ i.natAbs < 1000 then some (.int (i ^ j.toNat)) else none
theorem o_pow : Op2 K (rI CPow fun i j => .int (i ^ j.toNat)) gPow := o_rI fun i j d N H e => by
  split at e
  · rename_i h
    cases e
    exact ⟨⟨h.1, by omega, by omega⟩, .int _⟩
  · cases e
def gAdd : D → D → Option D
  | .int i, .int j => some (.int (i + j))
  | .str s, .str t => if Nat.ble (s.length + t.length) sizeLine then some (.str (s ++ t)) else none
  | .lst a, .lst b => if Nat.ble (a.length + b.length) sizeLine then some (.lst (a ++ b)) else none
  | .tup a, .tup b => if Nat.ble (a.length + b.length) sizeLine then some (.tup (a ++ b)) else none
  | _, _ => none
def rAdd4 (K : PySem.W.Frag) : R2 := fun x y H Q => rI0 (fun i j => .int (i + j)) x y H Q ∨ (∃ i j, x = .str i ∧ y = .str j ∧ i.length + j.length ≤ sizeLine ∧ Q (.str (i ++ j)) H) ∨ rCat x y H Q ∨ rCatA K x y H Q
theorem str_app (s t : List Nat) : (⟨⟨s⟩⟩ : Str) ++ ⟨⟨t⟩⟩ = ⟨⟨s ++ t⟩⟩ := TL.ext_tl (by rw [TL.tl_append])
theorem o_add : Op2 K (rAdd4 K) gAdd := fun N H x y a b c Q nin ra rb e k => by
  unfold gAdd at e
  split at e
  · cases ra; cases rb; cases e
    exact .inl ⟨_, _, rfl, rfl, k _ _ (Same.refl _) (.int _)⟩
  · rename_i s t
    split at e
    · rename_i hz
      cases ra; cases rb; cases e
      exact .inr (.inl ⟨_, _, rfl, rfl, Nat.le_of_ble_eq_true hz, k _ _ (Same.refl _) (by rw [str_app]; exact .str _)⟩)
    · cases e
  · rename_i u v
    split at e
    · rename_i hz
      cases e
      cases ra with
      | lst h1 n1 r1 =>
        cases rb with
        | lst h2 n2 r2 =>
          refine .inr (.inr (.inl ⟨_, _, _, _, rfl, rfl, h1, h2, by rw [r1.length, r2.length]; exact Nat.le_of_ble_eq_true hz, fun p hp => ?_⟩))
          exact k _ _ (same_upd hp) (.lst upd_same (fun z => by obtain ⟨o, q⟩ := nin _ z; rw [hp] at q; cases q) ((r1.append r2).more (same_upd hp)))
    · cases e
  · rename_i u v
    split at e
    · rename_i hz
      cases e
      cases ra with
      | tup h1 r1 =>
        cases rb with
        | tup h2 r2 =>
          refine .inr (.inr (.inr ⟨_, _, _, _, rfl, rfl, h1, h2, by rw [r1.length, r2.length]; exact Nat.le_of_ble_eq_true hz, fun ez => ?_, fun e1 e2 => ?_, fun e1 e2 p hp => ?_⟩))
          · subst ez
            cases r1
            exact k _ _ (Same.refl _) (.tup h2 r2)
          · subst e2
            cases r2
            refine k _ _ (Same.refl _) ?_
            rw [List.append_nil]
            exact .tup h1 r1
          · exact k _ _ (same_upd hp) (.tup (SqT.of upd_same) ((r1.append r2).more (same_upd hp)))
    · cases e
  · cases e
def gMul : D → D → Option D
  | .int i, .int j => gMulI (.int i) (.int j)
  | .lst a, .int k => if 0 ≤ k ∧ k < 2 ^ 63 ∧ a.length * k.toNat ≤ sizeLine then some (.lst (List.replicate k.toNat a).flatten) else none
  | _, _ => none
def rMul2 : R2 := fun x y H Q => rI CMul (fun i j => .int (i * j)) x y H Q ∨ rRep x y H Q
theorem RepL.rep {N : Nd} {H : Hp} {vs : List V} {ds : List D} (r : RepL K N H vs ds) : ∀ n : Nat, RepL K N H (List.replicate n vs).flatten (List.replicate n ds).flatten
  | 0 => .nil
  | n + 1 => by
    rw [List.replicate_succ, List.replicate_succ, List.flatten_cons, List.flatten_cons]
    exact r.append (RepL.rep r n)
theorem o_mul : Op2 K rMul2 gMul := fun N H x y a b c Q nin ra rb e k => by
  unfold gMul at e
  split at e
  · exact .inl (o_mulI N H x y _ _ c Q nin ra rb e k)
  · rename_i u j
    split at e
    · rename_i hz
      cases e
      cases ra with
      | lst h1 n1 r1 =>
        cases rb
        refine .inr ⟨_, j, _, rfl, rfl, h1, by omega, hz.2.1, by rw [r1.length]; exact hz.2.2, fun p hp => ?_⟩
        exact k _ _ (same_upd hp) (.lst upd_same (fun z => by obtain ⟨o, q⟩ := nin _ z; rw [hp] at q; cases q) ((r1.rep _).more (same_upd hp)))
    · cases e
  · cases e
mutual
def toPy : D → Option PyData
  | .non => some .none
  | .bl b => some (.bool b)
  | .int i => some (.int i)
  | .str s => some (.str ⟨⟨s⟩⟩)
  | .tup ds => match toPyL ds with
    | some xs => some (.tuple xs)
    | none => none
  | .lst ds => match toPyL ds with
    | some xs => some (.list xs)
    | none => none
  | _ => none
def toPyL : List D → Option (List PyData)
  | [] => some []
  | d :: ds => match toPy d with
    | some x => (match toPyL ds with
      | some xs => some (x :: xs)
      | none => none)
    | none => none
end
mutual
theorem toPy_dp {N : Nd} {H : Hp} : ∀ {v : V} {d : D} {x : PyData}, Rep K N H v d → toPy d = some x → Dp K H v x
  | _, _, _, .non, e => by cases e; exact .non
  | _, _, _, .bl b, e => by cases e; exact .bl b
  | _, _, _, .int i, e => by cases e; exact .int i
  | _, _, _, .str s, e => by cases e; exact .str _
  | _, _, _, .tup (ds := ds) h r, e => by
    unfold toPy at e
    cases hq : toPyL ds with
    | none => rw [hq] at e; cases e
    | some xs =>
      rw [hq] at e
      cases e
      exact .tup h (toPyL_dp r hq)
  | _, _, _, .lst (ds := ds) h n r, e => by
    unfold toPy at e
    cases hq : toPyL ds with
    | none => rw [hq] at e; cases e
    | some xs =>
      rw [hq] at e
      cases e
      exact .lst (SqL.of h) (toPyL_dp r hq)
  | _, _, _, .scr _ _ _, e => by cases e
  | _, _, _, .dK _ _ _, e => by cases e
  | _, _, _, .dT _ _ _, e => by cases e
  | _, _, _, .ins _ _ _, e => by cases e
  | _, _, _, .fn _, e => by cases e
  | _, _, _, .ty _, e => by cases e
theorem toPyL_dp {N : Nd} {H : Hp} : ∀ {vs : List V} {ds : List D} {xs : List PyData}, RepL K N H vs ds → toPyL ds = some xs → DpAll K H vs xs
  | _, _, _, .nil, e => by cases e; exact .nil
  | _, _, _, .cons (d := d) (ds := ds) a b, e => by
    unfold toPyL at e
    cases h1 : toPy d with
    | none => rw [h1] at e; cases e
    | some x =>
      rw [h1] at e
      cases h2 : toPyL ds with
      | none => rw [h2] at e; cases e
      | some xs =>
        rw [h2] at e
        cases e
        exact .cons (toPy_dp a h1) (toPyL_dp b h2)
end
def eqS : D → D → Option Bool
  | .int i, .int j => some (i == j)
  | .str s, .str t => some (s == t)
  | .bl a, .bl b => some (a == b)
  | .non, .non => some true
  | .non, .int _ => some false
  | .int _, .non => some false
  | .non, .bl _ => some false
  | .bl _, .non => some false
  | .non, .str _ => some false
  | .str _, .non => some false
  | .int _, .str _ => some false
  | .str _, .int _ => some false
  | .bl _, .str _ => some false
  | .str _, .bl _ => some false
  | _, _ => none
def eqP (a b : D) : Option Bool := match toPy a, toPy b with
  | some x, some y => if SeqAt.shaped x && SeqAt.shaped y then some (PyData.eqv x y) else none
  | _, _ => none
def eqA (a b : D) : Option Bool := match eqS a b with
  | some c => some c
  | none => eqP a b
def gEq (a b : D) : Option D := (eqA a b).map .bl
def gNe (a b : D) : Option D := (eqA a b).map fun c => .bl (!c)
theorem str_inj {s t : List Nat} : (V.str ⟨⟨s⟩⟩ = V.str ⟨⟨t⟩⟩) ↔ s = t := ⟨fun h => by cases h; rfl, fun h => by rw [h]⟩
theorem eqS_rep {N : Nd} {H : Hp} {x y : V} {a b : D} {c : Bool} (ra : Rep K N H x a) (rb : Rep K N H y b) (e : eqS a b = some c) : scal x y = true ∧ decide (x = y) = c := by
  cases ra <;> cases rb <;> first | (cases e; done) | skip
  all_goals first
    | (cases e; exact ⟨rfl, decide_eq_true rfl⟩)
    | (cases e; exact ⟨rfl, decide_eq_false (fun z => by cases z)⟩)
    | (cases e; refine ⟨rfl, ?_⟩; rw [Bool.eq_iff_iff, decide_eq_true_iff, beq_iff_eq]; first | exact str_inj | (constructor <;> intro h <;> cases h <;> rfl))
def rEqA (K : PySem.W.Frag) : R2 := fun x y H Q => rEq x y H Q ∨ rEqD K x y H Q
def rNeA (K : PySem.W.Frag) : R2 := fun x y H Q => rNe x y H Q ∨ rNeD K x y H Q
theorem eqP_rep {N : Nd} {H : Hp} {x y : V} {a b : D} {c : Bool} (ra : Rep K N H x a) (rb : Rep K N H y b) (e : eqP a b = some c) : ∃ d d', Dp K H x d ∧ Dp K H y d' ∧ SeqAt.shaped d = true ∧ SeqAt.shaped d' = true ∧ PyData.eqv d d' = c := by
  unfold eqP at e
  split at e
  · rename_i u v h1 h2
    split at e
    · rename_i hs
      rw [Bool.and_eq_true] at hs
      cases e
      exact ⟨u, v, toPy_dp ra h1, toPy_dp rb h2, hs.1, hs.2, rfl⟩
    · cases e
  · cases e
theorem o_eq : Op2 K (rEqA K) gEq := fun N H x y a b c Q nin ra rb e k => by
  unfold gEq eqA at e
  cases h : eqS a b with
  | some r =>
    rw [h] at e
    cases e
    obtain ⟨h1, h2⟩ := eqS_rep ra rb h
    exact .inl ⟨h1, by rw [h2]; exact k _ _ (Same.refl _) (.bl _)⟩
  | none =>
    rw [h] at e
    cases h' : eqP a b with
    | none => rw [h'] at e; cases e
    | some r =>
      rw [h'] at e
      cases e
      obtain ⟨d, d', h1, h2, h3, h4, h5⟩ := eqP_rep ra rb h'
      exact .inr ⟨d, d', h1, h2, h3, h4, by rw [h5]; exact k _ _ (Same.refl _) (.bl _)⟩
theorem o_ne : Op2 K (rNeA K) gNe := fun N H x y a b c Q nin ra rb e k => by
  unfold gNe eqA at e
  cases h : eqS a b with
  | some r =>
    rw [h] at e
    cases e
    obtain ⟨h1, h2⟩ := eqS_rep ra rb h
    exact .inl ⟨h1, by rw [h2]; exact k _ _ (Same.refl _) (.bl _)⟩
  | none =>
    rw [h] at e
    cases h' : eqP a b with
    | none => rw [h'] at e; cases e
    | some r =>
      rw [h'] at e
      cases e
      obtain ⟨d, d', h1, h2, h3, h4, h5⟩ := eqP_rep ra rb h'
      exact .inr ⟨d, d', h1, h2, h3, h4, by rw [h5]; exact k _ _ (Same.refl _) (.bl _)⟩
end
section
variable {X : Cx}
theorem ho_add : OpR X (binaryOp .Add) (rAdd4 X.K) := op_add.or (op_add_str.or (op_cat.or op_catA))
theorem ho_mul : OpR X (binaryOp .Mult) rMul2 := op_mul.or op_rep
theorem ho_eq (hu : X.A.units + 64 < cLine) : OpR X (compareOp .Eq) (rEqA X.K) := op_eq.or (op_eqD hu)
theorem ho_ne (hu : X.A.units + 64 < cLine) : OpR X (compareOp .NotEq) (rNeA X.K) := op_ne.or (op_neD hu)
end
end LP

set_option maxRecDepth 100000
set_option maxHeartbeats 1000000
namespace LP
open PySem PySem.Spec
open PyProof.Rows hiding St
open L2
set_option autoImplicit false
section
variable {K : PySem.W.Frag}
def flS : D → Bool
  | .non => true
  | .bl _ => true
  | .int _ => true
  | .str _ => true
  | _ => false
def eqF : D → D → Bool
  | .non, .non => true
  | .bl a, .bl b => a == b
  | .bl a, .int b => (if a then 1 else 0) == b
  | .int a, .bl b => a == (if b then 1 else 0)
  | .int a, .int b => a == b
  | .str a, .str b => a == b
  | _, _ => false
theorem flS_rep {N : Nd} {H : Hp} {x : V} {a : D} (r : Rep K N H x a) (h : flS a = true) : flatV x = true := by
  cases r <;> first | rfl | cases h
theorem str_beq {s t : List Nat} : ((⟨⟨s⟩⟩ : Str) == ⟨⟨t⟩⟩) = (s == t) := by
  rw [Bool.eq_iff_iff, beq_iff_eq, beq_iff_eq]
  exact ⟨fun h => by cases h; rfl, fun h => by rw [h]⟩
theorem eqF_rep {N : Nd} {H : Hp} {x y : V} {a b : D} (ra : Rep K N H x a) (rb : Rep K N H y b) (h : flS a = true) (h' : flS b = true) : eqV x y = eqF a b := by
  cases ra <;> first | (cases h; done) | skip
  all_goals (cases rb <;> first | (cases h'; done) | rfl | exact str_beq)
theorem inV_rep {N : Nd} {H : Hp} {x : V} {a : D} (ra : Rep K N H x a) (h : flS a = true) : ∀ {vs : List V} {ds : List D}, RepL K N H vs ds → ds.all flS = true → vs.all flatV = true ∧ inV x vs = ds.any fun d => eqF d a
  | _, _, .nil, _ => ⟨rfl, rfl⟩
  | _, _, .cons r s, e => by
    rw [List.all_cons, Bool.and_eq_true] at e
    obtain ⟨h1, h2⟩ := inV_rep ra h s e.2
    refine ⟨by rw [List.all_cons, flS_rep r e.1, h1]; rfl, ?_⟩
    unfold inV at h2 ⊢
    rw [List.any_cons, List.any_cons, h2, eqF_rep r ra e.1 h]
def seqD : D → Option (List D)
  | .lst ds => some ds
  | .scr ds => some ds
  | .tup ds => some ds
  | _ => none
theorem seq_rep {N : Nd} {H : Hp} {y : V} {b : D} {ds : List D} (r : Rep K N H y b) (e : seqD b = some ds) : ∃ p vs, y = .ref p ∧ (SqL K H p vs ∨ SqT K H p vs) ∧ RepL K N H vs ds := by
  cases r with
  | lst h n r => cases e; exact ⟨_, _, rfl, .inl (SqL.of h), r⟩
  | scr h n r => cases e; exact ⟨_, _, rfl, .inl h.sq, r⟩
  | tup h r => cases e; exact ⟨_, _, rfl, .inr h, r⟩
  | _ => cases e
def inA (a b : D) : Option Bool := match a, b with
  | .str [c], .str z => some (z.elem c)
  | _, _ => match seqD b with
    | some ds => if flS a && ds.all flS then some (ds.any fun d => eqF d a) else (match b, toPy a, toPyL ds with
      | .lst _, some x, some ys => if SeqAt.shaped x && SeqAt.shaped (.list ys) then some (ys.any fun z => PyData.eqv z x) else none
      | _, _, _ => none)
    | none => none
def gIn (a b : D) : Option D := (inA a b).map .bl
def gNotIn (a b : D) : Option D := (inA a b).map fun c => .bl (!c)
def rInA (K : PySem.W.Frag) : R2 := fun x y H Q => (∃ (c : Nat) (z : Str), x = .str ⟨#[c]⟩ ∧ y = .str z ∧ Q (.bl (decide (c ∈ z.cps.toList))) H) ∨ rIn K false x y H Q ∨ rInD K x y H Q
def rNotInA (K : PySem.W.Frag) : R2 := fun x y H Q => (∃ (c : Nat) (z : Str), x = .str ⟨#[c]⟩ ∧ y = .str z ∧ Q (.bl (!decide (c ∈ z.cps.toList))) H) ∨ rIn K true x y H Q ∨ rNotInD K x y H Q
theorem elem_dec (c : Nat) (z : List Nat) : decide (c ∈ z) = z.elem c := by
  rw [Bool.eq_iff_iff, decide_eq_true_iff, List.elem_eq_mem, decide_eq_true_iff]
theorem inA_cases {N : Nd} {H : Hp} {x y : V} {a b : D} {c : Bool} (ra : Rep K N H x a) (rb : Rep K N H y b) (e : inA a b = some c) :
    (∃ (n : Nat) (z : Str), x = .str ⟨#[n]⟩ ∧ y = .str z ∧ decide (n ∈ z.cps.toList) = c) ∨ (∃ p xs, y = .ref p ∧ (SqL K H p xs ∨ SqT K H p xs) ∧ flatV x = true ∧ xs.all flatV = true ∧ inV x xs = c) ∨
    (∃ d ds, Dp K H x d ∧ Dp K H y (.list ds) ∧ SeqAt.shaped d = true ∧ SeqAt.shaped (.list ds) = true ∧ (ds.any fun z => PyData.eqv z d) = c) := by
  unfold inA at e
  split at e
  · rename_i n z
    cases ra
    cases rb
    cases e
    exact .inl ⟨n, _, rfl, rfl, elem_dec _ _⟩
  · split at e
    · rename_i ds hds
      split at e
      · rename_i hf
        cases e
        rw [Bool.and_eq_true] at hf
        obtain ⟨p, vs, rfl, hs, rl⟩ := seq_rep rb hds
        obtain ⟨h1, h2⟩ := inV_rep ra hf.1 rl hf.2
        exact .inr (.inl ⟨p, vs, rfl, hs, flS_rep ra hf.1, h1, h2⟩)
      · split at e
        · rename_i u v h1 h2 _
          split at e
          · rename_i hs
            cases e
            cases hds
            rw [Bool.and_eq_true] at hs
            refine .inr (.inr ⟨u, v, toPy_dp ra h1, toPy_dp rb ?_, hs.1, hs.2, rfl⟩)
            unfold toPy
            rw [h2]
          · cases e
        · cases e
    · cases e
theorem o_in : Op2 K (rInA K) gIn := fun N H x y a b c Q nin ra rb e k => by
  obtain ⟨r, h, rfl⟩ := Option.map_eq_some_iff.mp e
  rcases inA_cases ra rb h with ⟨n, z, h1, h2, h3⟩ | ⟨p, xs, h1, h2, h3, h4, h5⟩ | ⟨d, ds, h1, h2, h3, h4, h5⟩
  · exact .inl ⟨n, z, h1, h2, by rw [h3]; exact k _ _ (Same.refl _) (.bl _)⟩
  · exact .inr (.inl ⟨p, xs, h1, h2, h3, h4, by rw [h5]; exact k _ _ (Same.refl _) (.bl _)⟩)
  · exact .inr (.inr ⟨d, ds, h1, h2, h3, h4, by rw [h5]; exact k _ _ (Same.refl _) (.bl _)⟩)
theorem o_notIn : Op2 K (rNotInA K) gNotIn := fun N H x y a b c Q nin ra rb e k => by
  obtain ⟨r, h, rfl⟩ := Option.map_eq_some_iff.mp e
  rcases inA_cases ra rb h with ⟨n, z, h1, h2, h3⟩ | ⟨p, xs, h1, h2, h3, h4, h5⟩ | ⟨d, ds, h1, h2, h3, h4, h5⟩
  · exact .inl ⟨n, z, h1, h2, by rw [h3]; exact k _ _ (Same.refl _) (.bl _)⟩
  · exact .inr (.inl ⟨p, xs, h1, h2, h3, h4, by show Q (.bl (!inV x xs)) H; rw [h5]; exact k _ _ (Same.refl _) (.bl _)⟩)
  · exact .inr (.inr ⟨d, ds, h1, h2, h3, h4, by rw [h5]; exact k _ _ (Same.refl _) (.bl _)⟩)
def isNo : D → Bool
  | .non => true
  | _ => false
def gIs (a b : D) : Option D := match b with
  | .non => some (.bl (isNo a))
  | _ => none
def gIsNot (a b : D) : Option D := match b with
  | .non => some (.bl (!isNo a))
  | _ => none
theorem isNo_rep {N : Nd} {H : Hp} {x : V} {a : D} (r : Rep K N H x a) : decide (x = .non) = isNo a := by
  cases r <;> rfl
theorem o_is : Op2 K (fun x y H Q => y = .non ∧ Q (.bl (decide (x = .non))) H) gIs := fun N H x y a b c Q nin ra rb e k => by
  cases rb with
  | non => cases e; exact ⟨rfl, by rw [isNo_rep ra]; exact k _ _ (Same.refl _) (.bl _)⟩
  | _ => cases e
theorem o_isNot : Op2 K (fun x y H Q => y = .non ∧ Q (.bl (!decide (x = .non))) H) gIsNot := fun N H x y a b c Q nin ra rb e k => by
  cases rb with
  | non => cases e; exact ⟨rfl, by rw [isNo_rep ra]; exact k _ _ (Same.refl _) (.bl _)⟩
  | _ => cases e
def gIx (a b : D) : Option D := match b with
  | .int i => match a with
    | .lst ds => atI ds i
    | .scr ds => atI ds i
    | .tup ds => atI ds i
    | .str s => if Nat.ble s.length sizeLine then (atI s i).map fun c => .str [c] else none
    | _ => none
  | _ => none
theorem at_rep {N : Nd} {H : Hp} {vs : List V} {ds : List D} {j : Int} {d : D} (r : RepL K N H vs ds) (e : atI ds j = some d) : ∃ u, atI vs j = some u ∧ Rep K N H u d := by
  unfold atI at e ⊢
  rw [r.length]
  obtain ⟨n, h1, h2⟩ := Option.bind_eq_some_iff.mp e
  obtain ⟨u, h3, h4⟩ := r.get h2
  exact ⟨u, by rw [h1]; exact h3, h4⟩
theorem o_ix : Op2 K (rIx K) gIx := fun N H x y a b c Q nin ra rb e k => by
  unfold gIx at e
  split at e
  · rename_i i
    cases rb
    split at e
    · rename_i ds
      cases ra with
      | lst h n r =>
        obtain ⟨u, h1, h2⟩ := at_rep r e
        exact .inl ⟨_, _, i, u, rfl, rfl, SqL.of h, h1, k _ _ (Same.refl _) h2⟩
    · rename_i ds
      cases ra with
      | scr h n r =>
        obtain ⟨u, h1, h2⟩ := at_rep r e
        exact .inl ⟨_, _, i, u, rfl, rfl, h.sq, h1, k _ _ (Same.refl _) h2⟩
    · rename_i ds
      cases ra with
      | tup h r =>
        obtain ⟨u, h1, h2⟩ := at_rep r e
        exact .inr (.inl ⟨_, _, i, u, rfl, rfl, h, h1, k _ _ (Same.refl _) h2⟩)
    · rename_i s
      split at e
      · rename_i hz
        cases ra
        obtain ⟨n, h1, rfl⟩ := Option.map_eq_some_iff.mp e
        exact .inr (.inr ⟨_, i, n, rfl, rfl, Nat.le_of_ble_eq_true hz, h1, k _ _ (Same.refl _) (.str _)⟩)
      · cases e
    · cases e
  · cases e
def cutD {α : Type} (xs : List α) (lo hi : Option Int) : List α := (xs.drop (HT.sIx xs.length 0 lo)).take (HT.sIx xs.length xs.length hi - HT.sIx xs.length 0 lo)
def gSl (a : D) (lo hi : Option Int) : Option D := match a with
  | .lst ds => some (.lst (cutD ds lo hi))
  | .scr ds => some (.lst (cutD ds lo hi))
  | .tup ds => some (.tup (cutD ds lo hi))
  | .str s => if Nat.ble s.length sizeLine then some (.str (cutD s lo hi)) else none
  | _ => none
theorem RepL.cut {N : Nd} {H : Hp} {vs : List V} {ds : List D} (r : RepL K N H vs ds) (lo hi : Option Int) : RepL K N H (cutV vs lo hi) (cutD ds lo hi) := by
  unfold cutV cutD
  rw [r.length]
  exact (r.drop _).take _
def rSl3 (K : PySem.W.Frag) : V → Option Int → Option Int → Hp → VK → Prop := fun x lo hi H Q => rSlL K x lo hi H Q ∨ rSlA K x lo hi H Q ∨ rSlS x lo hi H Q
theorem o_sl {N : Nd} {H : Hp} {x : V} {a c : D} {lo hi : Option Int} {Q : VK} (nin : ∀ p, N.N p → ∃ o, H p = some o) (ra : Rep K N H x a) (e : gSl a lo hi = some c) (k : ∀ v H', Same H H' → Rep K N H' v c → Q v H') : rSl3 K x lo hi H Q := by
  have ls : ∀ {p : Addr} {vs : List V} {ds : List D}, SqL K H p vs → RepL K N H vs ds → (∀ v H', Same H H' → Rep K N H' v (.lst (cutD ds lo hi)) → Q v H') → rSl3 K (.ref p) lo hi H Q := fun {p vs ds} h r k => by
    refine .inl ⟨p, vs, rfl, h, fun q hq => ?_⟩
    exact k _ _ (same_upd hq) (.lst upd_same (fun z => by obtain ⟨o, q'⟩ := nin _ z; rw [hq] at q'; cases q') ((r.cut lo hi).more (same_upd hq)))
  unfold gSl at e
  split at e
  · cases ra with
    | lst h n r => cases e; exact ls (SqL.of h) r k
  · cases ra with
    | scr h n r => cases e; exact ls h.sq r k
  · cases ra with
    | tup h r =>
      cases e
      refine .inr (.inl ⟨_, _, rfl, h, fun hw => ?_, fun hw p hp => ?_⟩)
      · refine k _ _ (Same.refl _) (.tup h ?_)
        unfold cutD
        rw [r.length] at hw
        rw [hw.1, hw.2, Nat.sub_zero, List.drop_zero, List.take_length]
        exact r
      · exact k _ _ (same_upd hp) (.tup (SqT.of upd_same) ((r.cut lo hi).more (same_upd hp)))
  · split at e
    · rename_i hz
      cases ra
      cases e
      refine .inr (.inr ⟨_, rfl, Nat.le_of_ble_eq_true hz, ?_⟩)
      exact k _ _ (Same.refl _) (.str _)
    · cases e
  · cases e
def lenD : D → Option Nat
  | .str s => if Nat.ble s.length sizeLine then some s.length else none
  | .lst ds => some ds.length
  | .scr ds => some ds.length
  | .tup ds => some ds.length
  | .dct kvs => some kvs.length
  | .dtt kvs => some kvs.length
  | _ => none
def gLen : List D → Option D
  | [d] => (lenD d).map fun n => .int n
  | _ => none
theorem RepK.length {N : Nd} {H : Hp} : ∀ {ks : List (Key × V)} {kvs : List (D × D)}, RepK K N H ks kvs → ks.length = kvs.length
  | _, _, .nil => rfl
  | _, _, .cons _ r => congrArg (· + 1) (RepK.length r)
theorem RepT.length {N : Nd} {H : Hp} : ∀ {ks : List (List Key × V)} {kvs : List (D × D)}, RepT K N H ks kvs → ks.length = kvs.length
  | _, _, .nil => rfl
  | _, _, .cons _ r => congrArg (· + 1) (RepT.length r)
def rLenA (K : PySem.W.Frag) : List V → Hp → VK → Prop := fun xs H Q => (∃ x n, xs = [x] ∧ LenV K x H n ∧ Q (.int n) H) ∨ (∃ a kvs, xs = [V.ref a] ∧ Rd H a (.dK kvs) ∧ Q (.int kvs.length) H) ∨ ∃ a kvs, xs = [V.ref a] ∧ Rd H a (.dT kvs) ∧ Q (.int kvs.length) H
theorem vals_one {N : Nd} {H : Hp} {vs : List V} {d : D} (r : RepL K N H vs [d]) : ∃ v, vs = [v] ∧ Rep K N H v d := by
  cases r with
  | cons a b => cases b; exact ⟨_, rfl, a⟩
theorem o_len : OpN K (rLenA K) gLen := fun N H vs ds c Q nin r e k => by
  unfold gLen at e
  split at e
  · rename_i d
    obtain ⟨n, h, rfl⟩ := Option.map_eq_some_iff.mp e
    obtain ⟨v, rfl, rv⟩ := vals_one r
    have fin := k (.int n) H (Same.refl _) (.int _)
    unfold lenD at h
    split at h
    · split at h
      · rename_i hz
        cases h
        cases rv
        exact .inl ⟨_, _, rfl, ⟨Nat.le_of_ble_eq_true hz, rfl⟩, fin⟩
      · cases h
    · cases h
      cases rv with
      | lst hh nn rr => exact .inl ⟨_, _, rfl, .inl ⟨_, SqL.of hh, rr.length.symm⟩, fin⟩
    · cases h
      cases rv with
      | scr hh nn rr => exact .inl ⟨_, _, rfl, .inl ⟨_, hh.sq, rr.length.symm⟩, fin⟩
    · cases h
      cases rv with
      | tup hh rr => exact .inl ⟨_, _, rfl, .inr ⟨_, hh, rr.length.symm⟩, fin⟩
    · cases h
      cases rv with
      | dK hh nn rr => exact .inr (.inl ⟨_, _, rfl, hh, by rw [rr.length]; exact fin⟩)
    · cases h
      cases rv with
      | dT hh nn rr => exact .inr (.inr ⟨_, _, rfl, hh, by rw [rr.length]; exact fin⟩)
    · cases h
  · cases e
end
section
variable {X : Cx}
theorem ho_in (hu : X.A.units + 65 < cLine) : OpR X (compareOp .In) (rInA X.K) := op_in_sign.or (op_in_seq.or (op_inD hu))
theorem ho_notIn (hu : X.A.units + 65 < cLine) : OpR X (compareOp .NotIn) (rNotInA X.K) := op_notIn_sign.or (op_notIn_seq.or (op_notInD hu))
theorem ho_sl : SlR X (rSl3 X.K) := sl_list.or (sl_tupA.or sl_str)
theorem call_lenK : CallR X (.builtin "len") (fun xs H Q => ∃ a kvs, xs = [V.ref a] ∧ Rd H a (.dK kvs) ∧ Q (.int kvs.length) H) := by
  intro pins s σ H xs us Q I r h
  obtain ⟨p, kvs, rfl, hp, q⟩ := h
  obtain ⟨u, rfl, rx⟩ := vals1 r
  obtain rfl : u = .ref p := rx
  obtain ⟨z, hd, ys, rel, dd⟩ := dk_rd I.hok hp
  have hl : kvs.length = ys.length := rel.length
  refine call_len_dict hd dd (by rw [← hl]; rw [sizeLine_eq] at z; omega) ?_
  rw [← hl]
  exact ⟨.int _, H, I.tok _, ⟨_, rfl⟩, q⟩
theorem call_lenT : CallR X (.builtin "len") (fun xs H Q => ∃ a kvs, xs = [V.ref a] ∧ Rd H a (.dT kvs) ∧ Q (.int kvs.length) H) := by
  intro pins s σ H xs us Q I r h
  obtain ⟨p, kvs, rfl, hp, q⟩ := h
  obtain ⟨u, rfl, rx⟩ := vals1 r
  obtain rfl : u = .ref p := rx
  obtain ⟨z, hd, ys, rel, dd⟩ := dt_rd I.hok hp
  have hl : kvs.length = ys.length := Paired.length rel
  refine call_len_dictH hd dd (by rw [← hl]; rw [sizeLine_eq] at z; omega) ?_
  rw [← hl]
  exact ⟨.int _, H, I.tok _, ⟨_, rfl⟩, q⟩
theorem ho_len : CallR X (.builtin "len") (rLenA X.K) := call_len.or (call_lenK.or call_lenT)
end
end LP

set_option maxRecDepth 100000
set_option maxHeartbeats 1000000
namespace LP
open PySem PySem.Spec
open PyProof.Rows hiding St
open L2
set_option autoImplicit false
section
variable {K : PySem.W.Frag}
theorem vals_two {N : Nd} {H : Hp} {vs : List V} {d e : D} (r : RepL K N H vs [d, e]) : ∃ v u, vs = [v, u] ∧ Rep K N H v d ∧ Rep K N H u e := by
  cases r with
  | cons a b => obtain ⟨u, rfl, ru⟩ := vals_one b; exact ⟨_, u, rfl, a, ru⟩
def tyOf : D → Option Nat
  | .str _ => some 0
  | .int _ => some 1
  | .bl _ => some 2
  | .tup _ => some 3
  | .lst _ => some 4
  | .scr _ => some 4
  | .dct _ => some 5
  | .dtt _ => some 5
  | .non => some 6
  | _ => none
def isiB (t c : Nat) : Bool := t == c || (t == 2 && c == 1)
theorem isi_kit (K : PySem.W.Frag) {t c : Nat} (ht : t ≤ 6) (hc : c ≤ 5) : PySem.W.kitOne K (.type (tyNm t)) (.type (tyNm c)) = some (isiB t c) := by
  have e1 : t = 0 ∨ t = 1 ∨ t = 2 ∨ t = 3 ∨ t = 4 ∨ t = 5 ∨ t = 6 := by omega
  have e2 : c = 0 ∨ c = 1 ∨ c = 2 ∨ c = 3 ∨ c = 4 ∨ c = 5 := by omega
  rcases e1 with rfl | rfl | rfl | rfl | rfl | rfl | rfl <;> rcases e2 with rfl | rfl | rfl | rfl | rfl | rfl <;> rfl
theorem tyOf_rep {N : Nd} {H : Hp} {v : V} {d : D} {t : Nat} (r : Rep K N H v d) (e : tyOf d = some t) : t ≤ 6 ∧ (TyX K H v (.type (tyNm t)) ∨ (t = 5 ∧ ∃ a ob kvs, v = .ref a ∧ H a = some (.frz ob (.dT kvs)))) := by
  cases r with
  | non => cases e; exact ⟨by decide, .inl (.base .non)⟩
  | bl b => cases e; exact ⟨by decide, .inl (.base (.bl _))⟩
  | int i => cases e; exact ⟨by decide, .inl (.base (.int _))⟩
  | str s => cases e; exact ⟨by decide, .inl (.base (.str _))⟩
  | lst h n r => cases e; exact ⟨by decide, .inl (.base (.lst h))⟩
  | scr h n r =>
    cases e
    rcases h with ⟨h | ⟨o, h⟩, _⟩ | ⟨o, its, n, h, c, _⟩
    · exact ⟨by decide, .inl (.base (.lst h))⟩
    · exact ⟨by decide, .inl (.base (.frz h))⟩
    · exact ⟨by decide, .inl (.kList h c)⟩
  | tup h r =>
    cases e
    rcases h with (h | ⟨o, h⟩) | ⟨o, its, n, h, c, _⟩
    · exact ⟨by decide, .inl (.base (.tup h))⟩
    · exact ⟨by decide, .inl (.fTuple h)⟩
    · exact ⟨by decide, .inl (.kTuple h c)⟩
  | dK h n r =>
    cases e
    rcases h with h | ⟨o, h⟩
    · exact ⟨by decide, .inl (.base (.dK h))⟩
    · exact ⟨by decide, .inl (.fDict h)⟩
  | dT h n r =>
    cases e
    rcases h with h | ⟨o, h⟩
    · exact ⟨by decide, .inl (.base (.dT h))⟩
    · exact ⟨by decide, .inr ⟨rfl, _, o, _, rfl, h⟩⟩
  | ins _ _ _ => cases e
  | fn _ => cases e
  | ty _ => cases e
def gIsi : List D → Option D
  | [d, .ty c] => match tyOf d with
    | some t => if Nat.ble c 5 then some (.bl (isiB t c)) else none
    | none => none
  | _ => none
def rIsiA (K : PySem.W.Frag) : List V → Hp → VK → Prop := fun xs H Q => rIsi K xs H Q ∨ ∃ (a : Addr) (ob : Obj) (kvs : List (List Key × V)) (c : String) (b : Bool), xs = [.ref a, .ty c] ∧ H a = some (.frz ob (.dT kvs)) ∧ PySem.W.kitOne K (.type "dict") (.type c) = some b ∧ Q (.bl b) H
theorem o_isi : OpN K (rIsiA K) gIsi := fun N H vs ds c Q nin r e k => by
  unfold gIsi at e
  split at e
  · rename_i d c'
    obtain ⟨v, u, rfl, r1, r2⟩ := vals_two r
    cases r2
    split at e
    · rename_i t ht
      split at e
      · rename_i hc
        cases e
        obtain ⟨h1, h2⟩ := tyOf_rep r1 ht
        have hk := isi_kit K h1 (Nat.le_of_ble_eq_true hc)
        rcases h2 with h2 | ⟨rfl, a, ob, kvs, rfl, h2⟩
        · exact .inl ⟨_, _, _, _, _, rfl, .ty _, h2, hk, k _ _ (Same.refl _) (.bl _)⟩
        · exact .inr ⟨a, ob, kvs, _, _, rfl, h2, hk, k _ _ (Same.refl _) (.bl _)⟩
      · cases e
    · cases e
  · cases e
def gInt : List D → Option D
  | [.int i] => some (.int i)
  | [.bl b] => some (.int (if b then 1 else 0))
  | _ => none
theorem o_int : OpN K (fun xs H Q => (∃ i, xs = [.int i] ∧ Q (.int i) H) ∨ ∃ k, xs = [.bl k] ∧ Q (.int (if k then 1 else 0)) H) gInt := fun N H vs ds c Q nin r e k => by
  unfold gInt at e
  split at e
  · obtain ⟨v, rfl, r1⟩ := vals_one r
    cases r1; cases e
    exact .inl ⟨_, rfl, k _ _ (Same.refl _) (.int _)⟩
  · obtain ⟨v, rfl, r1⟩ := vals_one r
    cases r1; cases e
    exact .inr ⟨_, rfl, k _ _ (Same.refl _) (.int _)⟩
  · cases e
def digs (n : Nat) : List Nat := if n < 10 then [48 + n] else if n < 100 then [48 + n / 10, 48 + n % 10] else [48 + n / 100, 48 + n / 10 % 10, 48 + n % 10]
theorem digs_ok : ∀ n : Nat, n < 200 → (toString (n : Int) : String).toList.map Char.toNat = digs n := by decide +kernel
def gStr : List D → Option D
  | [.int i] => if 0 ≤ i ∧ i < 200 then some (.str (digs i.toNat)) else none
  | _ => none
theorem o_str : OpN K (fun xs H Q => ∃ i, xs = [.int i] ∧ i.natAbs.log2 < 1920 ∧ Q (.str (toString i)) H) gStr := fun N H vs ds c Q nin r e k => by
  unfold gStr at e
  split at e
  · rename_i i
    obtain ⟨v, rfl, r1⟩ := vals_one r
    cases r1
    split at e
    · rename_i h
      cases e
      obtain ⟨n, rfl⟩ := Int.eq_ofNat_of_zero_le h.1
      have hn : n < 200 := by omega
      refine ⟨_, rfl, ?_, k _ _ (Same.refl _) ?_⟩
      · have : (n : Int).natAbs = n := rfl
        rw [this]
        by_cases h0 : n = 0
        · subst h0; decide
        · have := (Nat.log2_lt h0).mpr (show n < 2 ^ 1920 from Nat.lt_of_lt_of_le hn (by decide))
          exact this
      · have e1 : (Str.ofString (toString (n : Int))) = ⟨⟨digs n⟩⟩ := by rw [Str.ofString_eq_toList, digs_ok n hn]
        show Rep K N H (.str (Str.ofString (toString (n : Int)))) (.str (digs n))
        rw [e1]
        exact .str _
    · cases e
  · cases e
def bools : List D → Option (List Bool)
  | [] => some []
  | .bl b :: r => (bools r).map (b :: ·)
  | _ => none
theorem bools_rep {N : Nd} {H : Hp} : ∀ {vs : List V} {ds : List D} {bs : List Bool}, RepL K N H vs ds → bools ds = some bs → vs = bs.map V.bl
  | _, _, _, .nil, e => by cases e; rfl
  | _, _, _, .cons a b, e => by
    cases a with
    | bl x =>
      obtain ⟨bs', h, rfl⟩ := Option.map_eq_some_iff.mp e
      rw [bools_rep b h]
      rfl
    | _ => cases e
def gAll : List D → Option D
  | [.lst ds] => (bools ds).map fun bs => .bl (bs.all id)
  | _ => none
def gAny : List D → Option D
  | [.lst ds] => (bools ds).map fun bs => .bl (bs.any id)
  | _ => none
theorem o_all : OpN K (rAll K) gAll := fun N H vs ds c Q nin r e k => by
  unfold gAll at e
  split at e
  · obtain ⟨v, rfl, r1⟩ := vals_one r
    obtain ⟨bs, h, rfl⟩ := Option.map_eq_some_iff.mp e
    cases r1 with
    | lst hh n rl => exact ⟨_, bs, rfl, by rw [← bools_rep rl h]; exact SqL.of hh, k _ _ (Same.refl _) (.bl _)⟩
  · cases e
theorem o_any : OpN K (rAny K) gAny := fun N H vs ds c Q nin r e k => by
  unfold gAny at e
  split at e
  · obtain ⟨v, rfl, r1⟩ := vals_one r
    obtain ⟨bs, h, rfl⟩ := Option.map_eq_some_iff.mp e
    cases r1 with
    | lst hh n rl => exact ⟨_, bs, rfl, by rw [← bools_rep rl h]; exact SqL.of hh, k _ _ (Same.refl _) (.bl _)⟩
  · cases e
def intsD : List D → Option (List Int)
  | [] => some []
  | .int b :: r => (intsD r).map (b :: ·)
  | _ => none
theorem ints_rep {N : Nd} {H : Hp} : ∀ {vs : List V} {ds : List D} {bs : List Int}, RepL K N H vs ds → intsD ds = some bs → vs = bs.map V.int
  | _, _, _, .nil, e => by cases e; rfl
  | _, _, _, .cons a b, e => by
    cases a with
    | int x =>
      obtain ⟨bs', h, rfl⟩ := Option.map_eq_some_iff.mp e
      rw [ints_rep b h]
      rfl
    | _ => cases e
def gSum : List D → Option D
  | [.lst ds] => (intsD ds).map fun bs => .int bs.sum
  | _ => none
theorem o_sum : OpN K (rSum K) gSum := fun N H vs ds c Q nin r e k => by
  unfold gSum at e
  split at e
  · obtain ⟨v, rfl, r1⟩ := vals_one r
    obtain ⟨bs, h, rfl⟩ := Option.map_eq_some_iff.mp e
    cases r1 with
    | lst hh n rl => exact ⟨_, bs, rfl, by rw [← ints_rep rl h]; exact SqL.of hh, k _ _ (Same.refl _) (.int _)⟩
  · cases e
def gTuple : List D → Option D
  | [.lst ds] => some (.tup ds)
  | [.scr ds] => some (.tup ds)
  | [.tup ds] => some (.tup ds)
  | _ => none
theorem o_tuple : OpN K (fun xs H Q => ∃ p ys, xs = [.ref p] ∧ ((SqL K H p ys ∧ ∀ l, H l = none → Q (.ref l) (upd H l (.tup ys))) ∨ (SqT K H p ys ∧ Q (.ref p) H))) gTuple := fun N H vs ds c Q nin r e k => by
  unfold gTuple at e
  split at e
  · obtain ⟨v, rfl, r1⟩ := vals_one r
    cases e
    cases r1 with
    | lst hh n rl => exact ⟨_, _, rfl, .inl ⟨SqL.of hh, fun l hl => k _ _ (same_upd hl) (.tup (SqT.of upd_same) (rl.more (same_upd hl)))⟩⟩
  · obtain ⟨v, rfl, r1⟩ := vals_one r
    cases e
    cases r1 with
    | scr hh n rl => exact ⟨_, _, rfl, .inl ⟨hh.sq, fun l hl => k _ _ (same_upd hl) (.tup (SqT.of upd_same) (rl.more (same_upd hl)))⟩⟩
  · obtain ⟨v, rfl, r1⟩ := vals_one r
    cases e
    cases r1 with
    | tup hh rl => exact ⟨_, _, rfl, .inr ⟨hh, k _ _ (Same.refl _) (.tup hh rl)⟩⟩
  · cases e
def gList : List D → Option D
  | [.lst ds] => some (.lst ds)
  | [.scr ds] => some (.lst ds)
  | [.tup ds] => some (.lst ds)
  | _ => none
theorem o_list : OpN K (fun xs H Q => ∃ p ys, xs = [.ref p] ∧ (SqL K H p ys ∨ SqT K H p ys) ∧ ∀ l, H l = none → Q (.ref l) (upd H l (.lst ys))) gList := fun N H vs ds c Q nin r e k => by
  have fin : ∀ {l : Addr} {ys : List V} {ds : List D}, RepL K N H ys ds → (∀ v H', Same H H' → Rep K N H' v (.lst ds) → Q v H') → H l = none → Q (.ref l) (upd H l (.lst ys)) := fun {l ys ds} rl k hl => k _ _ (same_upd hl) (.lst upd_same (fun z => by obtain ⟨o, q⟩ := nin _ z; rw [hl] at q; cases q) (rl.more (same_upd hl)))
  unfold gList at e
  split at e
  · obtain ⟨v, rfl, r1⟩ := vals_one r
    cases e
    cases r1 with
    | lst hh n rl => exact ⟨_, _, rfl, .inl (SqL.of hh), fun l hl => fin rl k hl⟩
  · obtain ⟨v, rfl, r1⟩ := vals_one r
    cases e
    cases r1 with
    | scr hh n rl => exact ⟨_, _, rfl, .inl hh.sq, fun l hl => fin rl k hl⟩
  · obtain ⟨v, rfl, r1⟩ := vals_one r
    cases e
    cases r1 with
    | tup hh rl => exact ⟨_, _, rfl, .inr hh, fun l hl => fin rl k hl⟩
  · cases e
def gDict : List D → Option D
  | [.dct kvs] => some (.dct kvs)
  | _ => none
theorem o_dict : OpN K (fun xs H Q => ∃ (a : Addr) (kvs : List (Key × V)), xs = [.ref a] ∧ Rd H a (.dK kvs) ∧ ∀ p, H p = none → Q (.ref p) (upd H p (.dK kvs))) gDict := fun N H vs ds c Q nin r e k => by
  unfold gDict at e
  split at e
  · obtain ⟨v, rfl, r1⟩ := vals_one r
    cases e
    cases r1 with
    | dK hh n rl => exact ⟨_, _, rfl, hh, fun l hl => k _ _ (same_upd hl) (.dK (.inl upd_same) (fun z => by obtain ⟨o, q⟩ := nin _ z; rw [hl] at q; cases q) (rl.keep (Keep.of_same (same_upd hl)) .refl))⟩
  · cases e
def isStr : D → Bool
  | .str _ => true
  | _ => false
theorem ty_str {N : Nd} {H : Hp} {x : V} {a : D} (r : Rep K N H x a) (h : isStr a = true) : tyV K "str" x H := by
  cases r <;> first | rfl | cases h
def splD (S : List Nat) (s : List Nat) : List (List Nat) := TL.spl S 0 [] s
def gSplit (a : D) : List D → Option D
  | [.str S] => match a with
    | .str s => if !S.isEmpty && S.all (· < 256) && Nat.ble (s.length + 2) sizeLine then some (.lst ((splD S s).map .str)) else none
    | _ => none
  | _ => none
theorem strs_rep {N : Nd} {H : Hp} : ∀ ys : List Str, RepL K N H (ys.map V.str) ((ys.map TL.tl).map D.str)
  | [] => .nil
  | y :: r => .cons (by
    have e : y = ⟨⟨TL.tl y⟩⟩ := TL.ext_tl rfl
    show Rep K N H (.str y) (.str (TL.tl y))
    rw [e]
    exact .str _) (strs_rep r)
theorem m_split : OpM K "str" (fun x xs H Q => ∃ a b, x = .str a ∧ xs = [.str b] ∧ (b.length == 0) = false ∧ a.length + 2 ≤ sizeLine ∧ rNewStrs (Txt.split a b) H Q) isStr gSplit where
  ty := fun N H x a r h => ty_str r h
  run := fun N H x vs a ds c Q nin ra r e k => by
    unfold gSplit at e
    split at e
    · rename_i S
      obtain ⟨v, rfl, r1⟩ := vals_one r
      cases r1
      split at e
      · rename_i s
        cases ra
        split at e
        · rename_i h
          cases e
          rw [Bool.and_eq_true, Bool.and_eq_true] at h
          obtain ⟨⟨h1, h2⟩, h3⟩ := h
          have hS : S ≠ [] := fun z => by rw [z] at h1; cases h1
          have hl : S.length ≠ 0 := fun z => hS (List.eq_nil_of_length_eq_zero z)
          refine ⟨_, _, rfl, rfl, beq_eq_false_iff_ne.mpr hl, Nat.le_of_ble_eq_true h3, fun p hp => ?_⟩
          have es := TL.split_spl ⟨⟨s⟩⟩ ⟨⟨S⟩⟩ hS (TL.kind_ok (by simpa using h2))
          refine k _ _ (same_upd hp) (.lst upd_same (fun z => by obtain ⟨o, q⟩ := nin _ z; rw [hp] at q; cases q) ?_)
          have := strs_rep (K := K) (N := N) (H := upd H p (.lst ((Txt.split ⟨⟨s⟩⟩ ⟨⟨S⟩⟩).map V.str))) (Txt.split ⟨⟨s⟩⟩ ⟨⟨S⟩⟩)
          rw [es] at this
          exact this
        · cases e
      · cases e
    · cases e
def strsD : List D → Option (List (List Nat))
  | [] => some []
  | .str b :: r => (strsD r).map (b :: ·)
  | _ => none
theorem strsD_rep {N : Nd} {H : Hp} : ∀ {vs : List V} {ds : List D} {bs : List (List Nat)}, RepL K N H vs ds → strsD ds = some bs → vs = (bs.map fun s => (⟨⟨s⟩⟩ : Str)).map V.str
  | _, _, _, .nil, e => by cases e; rfl
  | _, _, _, .cons a b, e => by
    cases a with
    | str x =>
      obtain ⟨bs', h, rfl⟩ := Option.map_eq_some_iff.mp e
      rw [strsD_rep b h]
      rfl
    | _ => cases e
def gJoin (a : D) : List D → Option D
  | [d] => match a, seqD d with
    | .str s, some ds => (match strsD ds with
      | some bs => if Nat.ble ((bs.map (·.length)).sum + bs.length * s.length) 16777216 then some (.str (TL.joinL s bs)) else none
      | none => none)
    | _, _ => none
  | _ => none
theorem m_join : OpM K "str" (fun x xs H Q => ∃ a p, ∃ ys : List Str, x = .str a ∧ xs = [.ref p] ∧ (SqL K H p (ys.map V.str) ∨ SqT K H p (ys.map V.str)) ∧
    (ys.map (·.length)).sum + ys.length * a.length ≤ 16777216 ∧ Q (.str (Txt.join a ys)) H) isStr gJoin where
  ty := fun N H x a r h => ty_str r h
  run := fun N H x vs a ds c Q nin ra r e k => by
    unfold gJoin at e
    split at e
    · rename_i d
      obtain ⟨v, rfl, r1⟩ := vals_one r
      split at e
      · rename_i s ds hs
        cases ra
        split at e
        · rename_i bs hb
          split at e
          · rename_i hz
            cases e
            obtain ⟨p, ws, rfl, hq, rl⟩ := seq_rep r1 hs
            rw [strsD_rep rl hb] at hq
            refine ⟨_, p, bs.map fun s => (⟨⟨s⟩⟩ : Str), rfl, rfl, hq, ?_, k _ _ (Same.refl _) ?_⟩
            · rw [List.map_map, List.length_map]
              exact Nat.le_of_ble_eq_true hz
            · have e1 : Txt.join ⟨⟨s⟩⟩ (bs.map fun s => (⟨⟨s⟩⟩ : Str)) = ⟨⟨TL.joinL s bs⟩⟩ := TL.ext_tl (by
                rw [TL.join_eq, TL.tl_join, List.map_map]
                have : (bs.map (TL.tl ∘ fun s => (⟨⟨s⟩⟩ : Str))) = bs := by
                  conv => rhs; rw [← List.map_id bs]
                  rfl
                rw [this])
              rw [e1]
              exact .str _
          · cases e
        · cases e
      · cases e
    · cases e
def figs : List Nat := [48, 49, 50, 51, 52, 53, 54, 55, 56, 57]
theorem figs_at : ∀ c : Nat, c < 10 → Builtin.Str.occurrences ⟨⟨figs⟩⟩ ⟨⟨[48 + c]⟩⟩ 0 10 1 = [c] := by
  intro c hc
  rw [PySem.StrLaws.occ_eq]
  revert c
  decide +kernel
def gFig (a : D) : List D → Option D
  | [.str [c]] => match a with
    | .str s => if s == figs && Nat.ble 48 c && Nat.ble c 57 then some (.int ((c - 48 : Nat) : Int)) else none
    | _ => none
  | _ => none
theorem m_fig : OpM K "str" (fun x xs H Q => ∃ a b i rest, x = .str a ∧ xs = [.str b] ∧ Builtin.Str.occurrences a b 0 a.length 1 = i :: rest ∧ Q (.int (i : Nat)) H) isStr gFig where
  ty := fun N H x a r h => ty_str r h
  run := fun N H x vs a ds c Q nin ra r e k => by
    unfold gFig at e
    split at e
    · rename_i n
      obtain ⟨v, rfl, r1⟩ := vals_one r
      cases r1
      split at e
      · rename_i s
        cases ra
        split at e
        · rename_i h
          cases e
          rw [Bool.and_eq_true, Bool.and_eq_true] at h
          obtain ⟨⟨h1, h2⟩, h3⟩ := h
          obtain rfl := beq_iff_eq.mp h1
          have h2 := Nat.le_of_ble_eq_true h2
          have h3 := Nat.le_of_ble_eq_true h3
          have := figs_at (n - 48) (by omega)
          rw [show 48 + (n - 48) = n by omega] at this
          exact ⟨_, _, n - 48, [], rfl, rfl, this, k _ _ (Same.refl _) (.int _)⟩
        · cases e
      · cases e
    · cases e
end
section
variable {X : Cx}
theorem call_isiFT : CallR X (.builtin "isinstance") (fun xs H Q => ∃ (a : Addr) (ob : Obj) (kvs : List (List Key × V)) (c : String) (b : Bool), xs = [.ref a, .ty c] ∧ H a = some (.frz ob (.dT kvs)) ∧ PySem.W.kitOne X.K (.type "dict") (.type c) = some b ∧ Q (.bl b) H) := by
  intro pins s σ H xs us Q I r h
  obtain ⟨a, ob, kvs, c, b, rfl, e, hk, q⟩ := h
  obtain ⟨u1, u2, rfl, r1, r2⟩ := vals2 r
  obtain rfl : u1 = .ref a := r1
  obtain rfl : u2 = .type c := r2
  obtain ⟨e0, z, y, xs, rl, o, es, ep, h1, h2, _⟩ := (show ObjOk X.prog X.w H s.heap a (.frz ob (.dT kvs)) from I.hok a _ e)
  exact PySem.W.kia_one PySem.W.kitx_dict I.kIn ⟨o, h1, h2.1⟩ hk (fun z => nomatch z) fun tk => ⟨.bl b, H, I.tok tk, rfl, q⟩
theorem ho_isi : CallR X (.builtin "isinstance") (rIsiA X.K) := call_isi.or call_isiFT
end
end LP

set_option maxRecDepth 100000
set_option maxHeartbeats 1000000
namespace LP
open PySem PySem.Spec
open PyProof.Rows hiding St
open L2
set_option autoImplicit false
section
variable {X : Cx} {F : Fx} {W : WX}
theorem dt_of {e : Expr} {te : TE} {f : Ev} (h : PT X e (tTest te)) (i : ∀ σ H Q, tD F W f σ H Q → te σ H Q) : PT X e (tDT F W (tF f)) := h.imp fun σ H Q ⟨N, ρ, b, ρ', R, e, k⟩ => i σ H _ (tM_bind R e k fun a ρ1 x H1 N1 R1 r1 e1 m1 k1 => by
  obtain ⟨c, e3, rfl, rfl⟩ := optM_some e1
  obtain rfl := asB_some e3
  cases r1
  exact ⟨c, rfl, k1.fin R1 rfl⟩)
theorem dt_cmp {op : CmpOp} {a b : Expr} {fa fb : Ev} {r : R2} {g : D → D → Option D} {pos : Pos} (ho : OpR X (compareOp op) r) (o : Op2 F.K r g) (ha : PE X a (tD F W fa)) (hb : PE X b (tD F W fb)) (hm : behindInMarks op b = false) : PT X (.Compare a [op] [b] pos) (tDT F W (tF (bF g fa fb))) :=
  dt_of (pt_cmpR ho ha hb hm) fun _ _ _ h => two_of o h
theorem ot_cmp {op : CmpOp} {a b : Expr} {fa fb : Ex} {r : R2} {g : D → D → Option D} {pos : Pos} (ho : OpR X (compareOp op) r) (o : Op2 F.K r g) (ha : PE X a (tO F W fa)) (hb : PE X b (tO F W fb)) (hm : behindInMarks op b = false) : PT X (.Compare a [op] [b] pos) (tDT F W (tF (bB g fa fb))) :=
  dt_of (pt_cmpR ho ha hb hm) fun _ _ _ h => two_ofB o h
def chF (g g' : D → D → Option D) (fa fb fc : Ev) : Ev := bnd fa fun a => bnd fb fun b => bnd (optM ((g a b).bind asB)) fun k => if k then bnd fc (fun c => optM (g' b c)) else retM (.bl false)
theorem ch_of {g g' : D → D → Option D} {fa fb fc : Ev} {r r' : R2} (o : Op2 F.K r g) (o' : Op2 F.K r' g') {σ : L2.St} {H : Hp} {Q : VK} (h : tD F W (chF g g' fa fb fc) σ H Q) : tChain r r' (tD F W fa) (tD F W fb) (tD F W fc) σ H Q := by
  obtain ⟨N, ρ, r, ρ', R, e, k⟩ := h
  refine tM_bind R e k fun a ρ1 x H1 N1 R1 r1 e1 m1 k1 => tM_bind R1 e1 k1 fun b ρ2 y H2 N2 R2 r2 e2 m2 k2 => ?_
  obtain ⟨c, e3, e4⟩ := bnd_opt e2
  obtain ⟨d, e5, e6⟩ := Option.bind_eq_some_iff.mp e3
  obtain rfl := asB_some e6
  refine o N2 H2 x y a b _ _ R2.nin (r1.mv m2) r2 e5 fun z H3 s rz => ?_
  cases rz
  refine ⟨c, rfl, ?_⟩
  have R3 := R2.more s
  have k3 := k2.mv (Mv.same s)
  cases c with
  | true =>
    refine iteT (tM_bind R3 e4 k3 fun c ρ4 w H4 N4 R4 r4 e7 m4 k4 => ?_)
    obtain ⟨d, e8, rfl, rfl⟩ := optM_some e7
    exact o' N4 H4 y w b c d Q R4.nin ((r2.more s).mv m4) r4 e8 fun v H5 s r => k4.more R4 s r
  | false =>
    cases e4
    exact iteF (k3.fin R3 (.bl false))
theorem de_chain {op op' : CmpOp} {a b c : Expr} {fa fb fc : Ev} {r r' : R2} {g g' : D → D → Option D} {pos : Pos} (ho : OpR X (compareOp op) r) (ho' : OpR X (compareOp op') r') (o : Op2 F.K r g) (o' : Op2 F.K r' g') (ha : PE X a (tD F W fa)) (hb : PE X b (tD F W fb)) (hc : PE X c (tD F W fc))
    (hm : lastMarks [op, op'] [b, c] = false := by with_unfolding_all rfl) : PE X (.Compare a [op, op'] [b, c] pos) (tD F W (chF g g' fa fb fc)) := (pe_chain ho ho' ha hb hc hm).imp fun _ _ _ h => ch_of o o' h
theorem dt_chain {op op' : CmpOp} {a b c : Expr} {fa fb fc : Ev} {r r' : R2} {g g' : D → D → Option D} {pos : Pos} (ho : OpR X (compareOp op) r) (ho' : OpR X (compareOp op') r') (o : Op2 F.K r g) (o' : Op2 F.K r' g') (ha : PE X a (tD F W fa)) (hb : PE X b (tD F W fb)) (hc : PE X c (tD F W fc))
    (hm : lastMarks [op, op'] [b, c] = false := by with_unfolding_all rfl) : PT X (.Compare a [op, op'] [b, c] pos) (tDT F W (tF (chF g g' fa fb fc))) := dt_of (pt_chain ho ho' ha hb hc hm) fun _ _ _ h => ch_of o o' h
def noP : M (Option Int) := retM none
def soP (f : Ev) : M (Option Int) := bnd f fun d => optM (match d with
  | .int i => some (some i)
  | _ => none)
abbrev tDP (F : Fx) (W : WX) (m : M (Option Int)) : TO := tM F W m fun _ _ x a => x = a
theorem _root_.L2.PO.imp {X : Cx} {e : Option Expr} {t t' : TO} (h : PO X e t) (i : ∀ σ H Q, t' σ H Q → t σ H Q) : PO X e t' := ⟨fun pins s σ H Q I hw => h.run pins s σ H Q I (i _ _ _ hw)⟩
theorem dp_no : PO X none (tDP F W noP) := po_none.imp fun σ H Q ⟨N, ρ, r, ρ', R, e, k⟩ => by
  cases e
  exact k.fin R rfl
theorem dp_so {e : Expr} {f : Ev} (h : PE X e (tD F W f)) : PO X (some e) (tDP F W (soP f)) := (po_some h).imp fun σ H Q ⟨N, ρ, r, ρ', R, e, k⟩ => tM_bind R e k fun a ρ1 x H1 N1 R1 r1 e1 m1 k1 => by
  obtain ⟨c, e3, rfl, rfl⟩ := optM_some e1
  split at e3
  · cases r1
    cases e3
    exact ⟨_, rfl, k1.fin R1 rfl⟩
  · cases e3
def slF (f : Ev) (lo hi : M (Option Int)) : Ev := bnd f fun a => bnd lo fun l => bnd hi fun h => optM (gSl a l h)
theorem de_slice {e : Expr} {lo hi : Option Expr} {f : Ev} {ml mh : M (Option Int)} {pos p2 : Pos} (hK : F.K = X.K) (he : PE X e (tD F W f)) (hl : PO X lo (tDP F W ml)) (hu : PO X hi (tDP F W mh)) : PE X (.Subscript e (.Slice lo hi none p2) pos) (tD F W (slF f ml mh)) :=
  (pe_slice ho_sl he hl hu).imp fun σ H Q ⟨N, ρ, r, ρ', R, e, k⟩ => tM_bind R e k fun a ρ1 x H1 N1 R1 r1 e1 m1 k1 => tM_bind R1 e1 k1 fun l ρ2 l' H2 N2 R2 r2 e2 m2 k2 => tM_bind R2 e2 k2 fun h ρ3 h' H3 N3 R3 r3 e3 m3 k3 => by
    obtain ⟨c, e4, rfl, rfl⟩ := optM_some e3
    subst r2 r3
    rw [← hK]
    exact o_sl R3.nin ((r1.mv m2).mv m3) e4 fun v H4 s r => k3.more R3 s r
def keyEq : D → D → Bool
  | .int i, .int j => i == j
  | .str s, .str t => s == t
  | _, _ => false
theorem keyEq_kD (a b : Key) : keyEq (kD a) (kD b) = decide (a = b) := by
  rcases a with i | x <;> rcases b with j | y
  · show (i == j) = _
    rw [Bool.eq_iff_iff, beq_iff_eq, decide_eq_true_iff]
    exact ⟨fun h => by rw [h], fun h => by cases h; rfl⟩
  · exact (decide_eq_false (fun h => by cases h)).symm
  · exact (decide_eq_false (fun h => by cases h)).symm
  · show (x.cps.toList == y.cps.toList) = _
    rw [Bool.eq_iff_iff, beq_iff_eq, decide_eq_true_iff]
    exact ⟨fun h => by rw [TL.ext_tl h], fun h => by cases h; rfl⟩
def isKey : D → Bool
  | .int _ => true
  | .str _ => true
  | _ => false
theorem isKey_rep {K : PySem.W.Frag} {N : Nd} {H : Hp} {v : V} {d : D} (r : Rep K N H v d) (h : isKey d = true) : ∃ k : Key, v = kV k ∧ d = kD k := by
  cases r with
  | int i => exact ⟨.inl i, rfl, rfl⟩
  | str s => exact ⟨.inr ⟨⟨s⟩⟩, rfl, rfl⟩
  | _ => cases h
def atK {α : Type} (k : D) : List (D × α) → Option α
  | [] => none
  | p :: r => if keyEq p.1 k then some p.2 else atK k r
theorem atK_rep {K : PySem.W.Frag} {N : Nd} {H : Hp} (k : Key) : ∀ {ks : List (Key × V)} {kvs : List (D × D)}, RepK K N H ks kvs → (∀ d, atK (kD k) kvs = some d → ∃ v, valV ks k = some v ∧ Rep K N H v d) ∧ (atK (kD k) kvs = none → valV ks k = none)
  | _, _, .nil => ⟨fun d e => (by cases e), fun _ => rfl⟩
  | _, _, .cons (k := k') (v := v) (ks := ks) (d := d') (kvs := kvs) a b => by
    obtain ⟨h1, h2⟩ := atK_rep k b
    by_cases h : k' = k
    · subst h
      have e1 : keyEq (kD k') (kD k') = true := by rw [keyEq_kD]; exact decide_eq_true rfl
      refine ⟨fun d e => ?_, fun e => ?_⟩
      · unfold atK at e
        rw [if_pos e1] at e
        cases e
        exact ⟨v, valV_pos rfl, a⟩
      · unfold atK at e
        rw [if_pos e1] at e
        cases e
    · have e1 : ¬ keyEq (kD k') (kD k) = true := by rw [keyEq_kD, decide_eq_true_iff]; exact h
      refine ⟨fun d e => ?_, fun e => ?_⟩
      · unfold atK at e
        rw [if_neg e1] at e
        rw [valV_neg h]
        exact h1 d e
      · unfold atK at e
        rw [if_neg e1] at e
        rw [valV_neg h]
        exact h2 e
theorem atK_repO {K : PySem.W.Frag} {N : Nd} {H : Hp} (k : Key) : ∀ {ks : List (Key × V)} {kvs : List (D × OV)}, RepOK K N H ks kvs → (∀ d, atK (kD k) kvs = some d → ∃ v, valV ks k = some v ∧ RepO K N H v d) ∧ (atK (kD k) kvs = none → valV ks k = none)
  | _, _, .nil => ⟨fun d e => (by cases e), fun _ => rfl⟩
  | _, _, .cons (k := k') (v := v) (ks := ks) (d := d') (kvs := kvs) a b => by
    obtain ⟨h1, h2⟩ := atK_repO k b
    by_cases h : k' = k
    · subst h
      have e1 : keyEq (kD k') (kD k') = true := by rw [keyEq_kD]; exact decide_eq_true rfl
      refine ⟨fun d e => ?_, fun e => ?_⟩
      · unfold atK at e
        rw [if_pos e1] at e
        cases e
        exact ⟨v, valV_pos rfl, a⟩
      · unfold atK at e
        rw [if_pos e1] at e
        cases e
    · have e1 : ¬ keyEq (kD k') (kD k) = true := by rw [keyEq_kD, decide_eq_true_iff]; exact h
      refine ⟨fun d e => ?_, fun e => ?_⟩
      · unfold atK at e
        rw [if_neg e1] at e
        rw [valV_neg h]
        exact h1 d e
      · unfold atK at e
        rw [if_neg e1] at e
        rw [valV_neg h]
        exact h2 e
def dinB (neg : Bool) (m1 m2 : Ex) : Ev := bnd m1 fun y => bnd m2 fun x ρ => match dpL ρ [y, x] with
  | some [k, .dct kvs] => if isKey k then some (.ok (.bl (if neg then !(atK k kvs).isSome else (atK k kvs).isSome)), ρ) else none
  | _ => none
theorem din_at {K : PySem.W.Frag} {N : Nd} {H : Hp} {y x : V} {k : D} {kvs : List (D × D)} (ry : Rep K N H y k) (rx : Rep K N H x (.dct kvs)) (hk : isKey k = true) : ∃ a o, x = .ref a ∧ DGet H a y o ∧ o.isSome = (atK k kvs).isSome ∧ ∀ d, atK k kvs = some d → ∃ v, o = some v ∧ Rep K N H v d := by
  obtain ⟨k', rfl, rfl⟩ := isKey_rep ry hk
  cases rx with
  | dK h n r =>
    obtain ⟨h1, h2⟩ := atK_rep k' r
    refine ⟨_, _, rfl, .inl ⟨_, k', h, rfl, rfl⟩, ?_, h1⟩
    cases e : atK (kD k') kvs with
    | none => rw [h2 e]; rfl
    | some d => obtain ⟨v, h3, _⟩ := h1 d e; rw [h3]; rfl
theorem din_of {m1 m2 : Ex} {neg : Bool} {σ : L2.St} {H : Hp} {Q : VK} (h : tD F W (dinB neg m1 m2) σ H Q) : (tO F W m1) σ H fun y H1 => (tO F W m2) σ H1 fun x H2 => ∃ a o, x = .ref a ∧ DGet H2 a y o ∧ Q (.bl (if neg then !o.isSome else o.isSome)) H2 := by
  obtain ⟨N, ρ, r, ρ', R, e, k⟩ := h
  refine tM_bind R e k fun a ρ1 y H1 N1 R1 r1 e1 m1 k1 => tM_bind R1 e1 k1 fun b ρ2 x H2 N2 R2 r2 e2 m2 k2 => ?_
  split at e2
  · rename_i kk kvs hd
    split at e2
    · rename_i hk
      cases e2
      have rl := dpL_rep R2 (.cons (r1.mv m2) (.cons r2 .nil)) hd
      cases rl with
      | cons ra rl =>
        cases rl with
        | cons rb rl =>
          obtain ⟨p, o, h1, h2, h3, h4⟩ := din_at ra rb hk
          refine ⟨p, o, h1, h2, ?_⟩
          rw [h3]
          exact k2.fin R2 (.bl _)
    · cases e2
  · cases e2
theorem ob_din {i o : Expr} {m1 m2 : Ex} {pos : Pos} (hu : X.A.units + 1 < cLine) (hi : PE X i (tO F W m1)) (ho : PE X o (tO F W m2)) (hm : behindInMarks .In o = false) : PE X (.Compare i [.In] [o] pos) (tD F W (dinB false m1 m2)) :=
  (pe_cmp (pc_din hu hi ho) hm).imp fun σ H Q h => din_of h
theorem ob_dnotin {i o : Expr} {m1 m2 : Ex} {pos : Pos} (hu : X.A.units + 1 < cLine) (hi : PE X i (tO F W m1)) (ho : PE X o (tO F W m2)) (hm : behindInMarks .NotIn o = false) : PE X (.Compare i [.NotIn] [o] pos) (tD F W (dinB true m1 m2)) :=
  (pe_cmp (pc_dnotin hu hi ho) hm).imp fun σ H Q h => din_of h
theorem tB_of {te : TE} {f : Ev} {σ : L2.St} {H : Hp} {Q : Bool → Hp → Prop} (i : ∀ Q, tD F W f σ H Q → te σ H Q) (h : tDT F W (tF f) σ H Q) : te σ H fun x H' => ∃ k, x = .bl k ∧ Q k H' := by
  obtain ⟨N, ρ, b, ρ', R, e, k⟩ := h
  exact i _ (tM_bind R e k fun a ρ1 x H1 N1 R1 r1 e1 m1 k1 => by
    obtain ⟨c, e3, rfl, rfl⟩ := optM_some e1
    obtain rfl := asB_some e3
    cases r1
    exact ⟨c, rfl, k1.fin R1 rfl⟩)
def dgF (fd fk : Ev) : Ev := bnd fd fun x => bnd fk fun k => optM (match x with
  | .dct kvs => if isKey k then atK k kvs else none
  | _ => none)
theorem de_dget {o i : Expr} {fd fk : Ev} {pos : Pos} (hu : X.A.units + 1 < cLine) (ho : PE X o (tD F W fd)) (hi : PE X i (tD F W fk)) (hs : NoSl i) : PE X (.Subscript o i pos) (tD F W (dgF fd fk)) := (pe_dget hu ho hi hs).imp fun σ H Q ⟨N, ρ, r, ρ', R, e, k⟩ => tM_bind R e k fun a ρ1 x H1 N1 R1 r1 e1 m1 k1 => tM_bind R1 e1 k1 fun b ρ2 y H2 N2 R2 r2 e2 m2 k2 => by
  obtain ⟨c, e3, rfl, rfl⟩ := optM_some e2
  split at e3
  · rename_i kvs
    split at e3
    · rename_i hk
      obtain ⟨p, o, h1, h2, h3, h4⟩ := din_at r2 (r1.mv m2) hk
      obtain ⟨v, rfl, rv⟩ := h4 c e3
      exact ⟨p, v, h1, h2, k2.fin R2 rv⟩
    · cases e3
  · cases e3
def dgB (m1 m2 : Ex) : Ev := bnd m1 fun x => bnd m2 fun y ρ => match dpL ρ [y, x] with
  | some [k, .dct kvs] => if isKey k then (match (atK k kvs).bind okFlat with
    | some c => some (.ok c, ρ)
    | none => none) else none
  | _ => none
theorem ob_dget {o i : Expr} {fd fk : Ex} {pos : Pos} (hu : X.A.units + 1 < cLine) (ho : PE X o (tO F W fd)) (hi : PE X i (tO F W fk)) (hs : NoSl i) : PE X (.Subscript o i pos) (tD F W (dgB fd fk)) := (pe_dget hu ho hi hs).imp fun σ H Q ⟨N, ρ, r, ρ', R, e, k⟩ => tM_bind R e k fun a ρ1 x H1 N1 R1 r1 e1 m1 k1 => tM_bind R1 e1 k1 fun b ρ2 y H2 N2 R2 r2 e2 m2 k2 => by
  split at e2
  · rename_i kk kvs hd
    split at e2
    · rename_i hk
      split at e2
      · rename_i c hc
        cases e2
        obtain ⟨c0, hc0, hf⟩ := Option.bind_eq_some_iff.mp hc
        obtain ⟨rfl, hf⟩ := okFlat_some hf
        have rl := dpL_rep R2 (.cons r2 (.cons (r1.mv m2) .nil)) hd
        cases rl with
        | cons ra rl =>
          cases rl with
          | cons rb rl =>
            obtain ⟨p, o, h1, h2, h3, h4⟩ := din_at ra rb hk
            obtain ⟨v, rfl, rv⟩ := h4 _ hc0
            exact ⟨p, v, h1, h2, k2.fin R2 (flat_rep flatN _ _ hf rv)⟩
      · cases e2
    · cases e2
  · cases e2
def putD (k : D) (v : OV) : List (D × OV) → List (D × OV)
  | [] => [(k, v)]
  | p :: r => if keyEq p.1 k then (p.1, v) :: putX k v r else p :: putD k v r
where
  putX (k : D) (v : OV) : List (D × OV) → List (D × OV)
  | [] => []
  | p :: r => (if keyEq p.1 k then (p.1, v) else p) :: putX k v r
theorem putX_rep {K : PySem.W.Frag} {N : Nd} {H : Hp} {k : Key} {v : V} {y : OV} (q : RepO K N H v y) : ∀ {ks : List (Key × V)} {kvs : List (D × OV)}, RepOK K N H ks kvs → RepOK K N H (ks.map (fun kv => if kv.1 = k then (kv.1, v) else kv)) (putD.putX (kD k) y kvs)
  | _, _, .nil => .nil
  | _, _, .cons (k := k') (v := v') (ks := ks) (d := d') (kvs := kvs) a b => by
    rw [List.map_cons]
    unfold putD.putX
    by_cases h : k' = k
    · subst h
      rw [if_pos rfl, if_pos (by rw [keyEq_kD]; exact decide_eq_true rfl)]
      exact .cons q (putX_rep q b)
    · rw [if_neg h, if_neg (by rw [keyEq_kD, decide_eq_true_iff]; exact h)]
      exact .cons a (putX_rep q b)
theorem putD_rep {K : PySem.W.Frag} {N : Nd} {H : Hp} {k : Key} {v : V} {y : OV} (q : RepO K N H v y) : ∀ {ks : List (Key × V)} {kvs : List (D × OV)}, RepOK K N H ks kvs → RepOK K N H (putK ks k v) (putD (kD k) y kvs)
  | _, _, .nil => .cons q .nil
  | _, _, .cons (k := k') (v := v') (ks := ks) (d := d') (kvs := kvs) a b => by
    have ih := putD_rep (k := k) q b
    unfold putD
    by_cases h : k' = k
    · subst h
      rw [if_pos (by rw [keyEq_kD]; exact decide_eq_true rfl)]
      unfold putK
      rw [if_pos (by simp), List.map_cons, if_pos rfl]
      exact .cons q (putX_rep q b)
    · rw [if_neg (by rw [keyEq_kD, decide_eq_true_iff]; exact h)]
      have e : putK ((k', v') :: ks) k v = (k', v') :: putK ks k v := by
        unfold putK
        have h2 : ((k', v') :: ks).any (fun kv => decide (kv.1 = k)) = ks.any (fun kv => decide (kv.1 = k)) := by
          rw [List.any_cons, decide_eq_false h, Bool.false_or]
        rw [h2]
        by_cases h3 : (ks.any fun kv => decide (kv.1 = k)) = true
        · rw [if_pos h3, if_pos h3, List.map_cons, if_neg h]
        · rw [if_neg h3, if_neg h3]; rfl
      rw [e]
      exact .cons a ih
def ddOf (ρ : Ro) : OV → Option (List (D × OV))
  | .o id => match ρ.ob[id]? with
    | some (some (.dK xs)) => some xs
    | _ => none
  | _ => none
def setD (ρ : Ro) (x : OV) (xs : List (D × OV)) : Option Ro := match x with
  | .o id => some ⟨ρ.sl, ρ.ob.set id (some (.dK xs))⟩
  | _ => none
theorem repOK_length {K : PySem.W.Frag} {N : Nd} {H : Hp} : ∀ {ks : List (Key × V)} {kvs : List (D × OV)}, RepOK K N H ks kvs → ks.length = kvs.length
  | _, _, .nil => rfl
  | _, _, .cons _ r => congrArg (· + 1) (repOK_length r)
def dpS (m o : Ex) (i : Ev) : Sv := stM m fun y => stM o fun x => stM i fun k ρ => match ddOf ρ x with
  | some kvs => if isKey k && Nat.blt kvs.length sizeLine then (match setD ρ x (putD k y kvs) with
    | some ρ1 => some (.nx ρ1)
    | none => none) else none
  | none => none
theorem os_dput {o i value : Expr} {m mo : Ex} {fi : Ev} {pos pos' : Pos} (hu : X.A.units + 1 < cLine) (ho : PE X o (tO F W mo)) (hi : PE X i (tD F W fi)) (hv : PE X value (tO F W m)) (hs : swapsWith value (some (.Subscript o i pos')) pos.line X.env = pure false := by rfl) :
    PS X (.Assign [.Subscript o i pos'] value pos) (tDS F W (dpS m mo fi)) := (ps_dput hu ho hi hv hs).imp fun E σ H ⟨N, ρ, out, R, e, q⟩ => tM_st R e q fun y ρ1 u H1 N1 R1 r1 e1 m1 q1 => tM_st R1 e1 q1 fun x ρ2 v H2 N2 R2 r2 e2 m2 q2 => tM_st R2 e2 q2 fun k ρ3 kv H3 N3 R3 r3 e3 m3 q3 => by
  unfold ddOf at e3
  split at e3
  · rename_i kvs hd
    split at e3
    · rename_i hz
      rw [Bool.and_eq_true] at hz
      split at e3
      · rename_i ρ4 h4
        cases e3
        cases x with
        | d _ => cases hd
        | o id =>
          dsimp only at hd
          split at hd
          · rename_i xs h
            cases hd
            cases h4
            obtain ⟨rfl, _⟩ := r2.mv m3
            obtain ⟨o1, ks, h1, h2⟩ := R3.ht.nod id _ h
            obtain ⟨k', rfl, rfl⟩ := isKey_rep r3 hz.1
            have mv : Mv N3 H3 N3 (upd H3 (N3.al id) (.dK (putK ks k' u))) := Mv.put R3.ht h
            refine ⟨_, _, rfl, DPut.k h1 (by rw [repOK_length h2]; exact Nat.blt_eq.mp hz.2), q3 σ _ N3 (R3.step mv (R3.ht.put h ⟨_, upd_same, ?_⟩)) mv⟩
            exact putD_rep (((r1.mv m2).mv m3).mv mv) (RepOK.keep mv.keep.n mv.sub mv.al h2)
          · cases hd
      · cases e3
    · cases e3
  · cases e3
end
end LP

set_option maxRecDepth 100000
set_option maxHeartbeats 1000000
namespace LP
open PySem PySem.Spec
open PyProof.Rows hiding St
open L2
set_option autoImplicit false
section
variable {X : Cx} {F : Fx} {W : WX}
theorem dts_one {c : Expr} {t : EvT} (h : PT X c (tDT F W t)) : PTs X [c] (tDT F W t) := pts_one h
theorem sq_rng {N : Nd} {H : Hp} {lo : Int} {n : Nat} : Sq F (Itr lo n) ((List.range n).map fun i => .int (lo + (i : Nat))) N H := fun N' H' m i => by
  refine ⟨fun d e => ?_, fun e => ?_⟩
  · rw [List.getElem?_map] at e
    cases h : (List.range n)[i]? with
    | none => rw [h] at e; cases e
    | some j =>
      rw [h] at e
      cases e
      obtain ⟨hl, hj⟩ := List.getElem?_eq_some_iff.mp h
      rw [List.getElem_range] at hj
      rw [List.length_range] at hl
      subst hj
      refine ⟨hl, fun x H2 y => ?_⟩
      obtain ⟨rfl, rfl⟩ := y
      exact ⟨Same.refl _, .int _⟩
  · rw [List.getElem?_map] at e
    cases h : (List.range n)[i]? with
    | none =>
      have := List.getElem?_eq_none_iff.mp h
      rw [List.length_range] at this
      exact this
    | some j => rw [h] at e; cases e
theorem sq_rng3 {N : Nd} {H : Hp} {lo c : Int} {n : Nat} : Sq F (Itc lo c n) ((List.range n).map fun i => .int (lo + (i : Nat) * c)) N H := fun N' H' m i => by
  refine ⟨fun d e => ?_, fun e => ?_⟩
  · rw [List.getElem?_map] at e
    cases h : (List.range n)[i]? with
    | none => rw [h] at e; cases e
    | some j =>
      rw [h] at e
      cases e
      obtain ⟨hl, hj⟩ := List.getElem?_eq_some_iff.mp h
      rw [List.getElem_range] at hj
      rw [List.length_range] at hl
      subst hj
      refine ⟨hl, fun x H2 y => ?_⟩
      obtain ⟨rfl, rfl⟩ := y
      exact ⟨Same.refl _, .int _⟩
  · rw [List.getElem?_map] at e
    cases h : (List.range n)[i]? with
    | none =>
      have := List.getElem?_eq_none_iff.mp h
      rw [List.length_range] at this
      exact this
    | some j => rw [h] at e; cases e
def rg1 : List D → Option (List D)
  | [.int j] => if -(2 ^ 62) ≤ j ∧ j < 2 ^ 62 then some ((List.range j.toNat).map fun i => .int (0 + (i : Nat))) else none
  | _ => none
def rg2 : List D → Option (List D)
  | [.int i, .int j] => if -(2 ^ 62) ≤ i ∧ i < 2 ^ 62 ∧ -(2 ^ 62) ≤ j ∧ j < 2 ^ 62 then some ((List.range (j - i).toNat).map fun k => .int (i + (k : Nat))) else none
  | _ => none
def rg3 : List D → Option (List D)
  | [.int i, .int j, .int c] => if c ≠ 0 ∧ c.natAbs < 1073741824 ∧ Builtin.Range.small i j c = true ∧ 0 ≤ Builtin.Range.rangeSize i j c then some ((List.range (Builtin.Range.rangeSize i j c).toNat).map fun k => .int (i + (k : Nat) * c)) else none
  | _ => none
def rgF (r : List D → Option (List D)) (g : EvA) : M (List D) := bnd g fun ds => optM (r ds)
theorem di_rng1 {tg a : Expr} {g : EvA} {p pos : Pos} (hm : X.mg "range" = none) (ha : PA X [a] (tDA F W g)) (hg : Gl X "range" := by rfl) (hs : starEach [a] X.env = [(false, eval a X.env)] := by rfl) : PI X tg (.Call (.Name "range" p) [a] [] pos) (tDI F W (rgF rg1 g)) :=
  (pi_range1 hg hm ha hs).imp fun σ H Q ⟨N, ρ, r, ρ', R, e, k⟩ => tM_bind R e k fun ds ρ1 vs H1 N1 R1 r1 e1 m1 k1 => by
    obtain ⟨c, e3, rfl, rfl⟩ := optM_some e1
    unfold rg1 at e3
    split at e3
    · split at e3
      · rename_i h
        cases e3
        obtain ⟨v, rfl, rv⟩ := vals_one r1
        cases rv
        exact ⟨_, rfl, h.1, h.2, k1.fin R1 sq_rng⟩
      · cases e3
    · cases e3
theorem di_rng2 {tg a b : Expr} {g : EvA} {p pos : Pos} (hm : X.mg "range" = none) (ha : PA X [a, b] (tDA F W g)) (hg : Gl X "range" := by rfl) (hs : starEach [a, b] X.env = [(false, eval a X.env), (false, eval b X.env)] := by rfl) (hs2 : starEach [b] X.env = [(false, eval b X.env)] := by rfl) : PI X tg (.Call (.Name "range" p) [a, b] [] pos) (tDI F W (rgF rg2 g)) :=
  (pi_range2 hg hm ha hs hs2).imp fun σ H Q ⟨N, ρ, r, ρ', R, e, k⟩ => tM_bind R e k fun ds ρ1 vs H1 N1 R1 r1 e1 m1 k1 => by
    obtain ⟨c, e3, rfl, rfl⟩ := optM_some e1
    unfold rg2 at e3
    split at e3
    · split at e3
      · rename_i h
        cases e3
        obtain ⟨v, u, rfl, rv, ru⟩ := vals_two r1
        cases rv
        cases ru
        exact ⟨_, _, rfl, h, k1.fin R1 sq_rng⟩
      · cases e3
    · cases e3
theorem di_rng3 {tg a b c : Expr} {g : EvA} {p pos : Pos} (hm : X.mg "range" = none) (ha : PA X [a, b, c] (tDA F W g)) (hg : Gl X "range" := by rfl) (hs : starEach [a, b, c] X.env = (false, eval a X.env) :: starEach [b, c] X.env := by rfl) (hpl : (backTo pos (starEach [b, c] X.env)).any (·.1) = false := by rfl) : PI X tg (.Call (.Name "range" p) [a, b, c] [] pos) (tDI F W (rgF rg3 g)) :=
  (pi_range3 hg hm ha hs hpl).imp fun σ H Q ⟨N, ρ, r, ρ', R, e, k⟩ => tM_bind R e k fun ds ρ1 vs H1 N1 R1 r1 e1 m1 k1 => by
    obtain ⟨c, e3, rfl, rfl⟩ := optM_some e1
    unfold rg3 at e3
    split at e3
    · split at e3
      · rename_i h
        cases e3
        cases r1 with
        | cons ra r1 =>
          obtain ⟨v, u, rfl, rv, ru⟩ := vals_two r1
          cases ra
          cases rv
          cases ru
          exact ⟨_, _, _, _, rfl, ⟨h.1, h.2.1, h.2.2.1, (Int.toNat_of_nonneg h.2.2.2).symm⟩, k1.fin R1 sq_rng3⟩
      · cases e3
    · cases e3
theorem ds_try_only {c x : Str} {body suite : List Stmt} {b₀ : Stmt} {np pos pos' : Pos} {b h : Sv} {mt : Str → Option Bool} (hs : X.stack = X.env :: X.outer) (hf : X.env.frame = some X.env.locals)
    (hc : Names X x (.ref (He.ga F.K c))) (tk : Takes X W) (hm : ∀ c' k, mt c' = some k → PySem.W.exmOne X.K (.ref (He.ga F.K c')) (.ref (He.ga F.K c)) = some k)
    (hb : ∀ (W' : WX) (pn : List (Addr × Obj)) (xe : Value → Shared → Prop), Takes (X.tr pn xe) W' → PassesOwn (model X.prog X.w) X.A X.env xe → PSs (X.tr pn xe) body (tDS F W' b))
    (hsu : ∀ (a : Addr) (oe : Obj) (pn : List (Addr × Obj)), PSs (X.suite a ((a, oe) :: pn)) (b₀ :: suite) (tDS F W0 h)) :
    PS X (.Try body [.ExceptHandler (some (.Name x np)) none (b₀ :: suite) pos'] [] [] pos) (tDS F W (toS b mt h)) := by
  refine (ps_try_only (tb := fun W' => tDS F W' b) (ts := fun a cls d => tDS F W0 h) (Wout := W) hs hf hc tk hb (fun a oe cls d pn _ _ => hsu a oe pn)).imp fun E σ H ⟨N, ρ, o, R, e, q⟩ => ?_
  unfold toS at e
  cases hbo : b ρ with
  | none => rw [hbo] at e; cases e
  | some o' =>
    refine ⟨N, ρ, o', R, hbo, ?_⟩
    rw [hbo] at e
    cases o' with
    | nx ρ1 => cases e; exact q
    | rt d ρ1 => cases e; exact q
    | bk ρ1 => cases e; exact q
    | ct ρ1 => cases e; exact q
    | rs c' d ρ1 =>
      intro σ' v dd H' N' R' m hd nd r
      dsimp only at e
      split at e
      · rename_i hmt
        refine ⟨true, hm c' true hmt, fun _ a ha => ?_, fun z => Bool.noConfusion z⟩
        refine ⟨N', ρ1, ?_⟩
        cases hho : h ρ1 with
        | none => rw [hho] at e; cases e
        | some o2 =>
          rw [hho] at e
          refine ⟨o2, R', rfl, ?_⟩
          cases o2 with
          | nx ρ2 => cases e; exact fun σ2 H2 N2 R2 m2 => q _ H2 N2 R2 (m.trans m2)
          | bk ρ2 => cases e; exact fun σ2 H2 N2 R2 m2 => q _ H2 N2 R2 (m.trans m2)
          | ct ρ2 => cases e; exact fun σ2 H2 N2 R2 m2 => q _ H2 N2 R2 (m.trans m2)
          | rt d2 ρ2 => cases e; exact fun v2 σ2 H2 N2 R2 m2 r2 => q v2 σ2 H2 N2 R2 (m.trans m2) r2
          | rs c2 d2 ρ2 => cases e
      · rename_i hmt
        cases e
        exact ⟨false, hm c' false hmt, fun z => Bool.noConfusion z, fun _ => q σ' v dd H' N' R' m hd nd r⟩
      · cases e
end
end LP

set_option maxRecDepth 100000
set_option maxHeartbeats 1000000
namespace LP
open PySem PySem.Spec
open PyProof.Rows hiding St
open L2
set_option autoImplicit false
section
variable {K : PySem.W.Frag} {N : Nd} {H H' : Hp} {d : Addr} {ks : List (Key × V)}
structure Sw (d : Addr) (ks : List (Key × V)) (H H' : Hp) : Prop where
  ne : ∀ a, a ≠ d → H' a = H a
  l : Rd H d (.dK ks)
  r : Rd H' d (.dK ks)
theorem Sw.eq {u : List (Key × V)} (h : Rd H d (.dK ks)) (h' : Rd H d (.dK u)) : u = ks := by
  rcases h with h | ⟨o, h⟩ <;> rcases h' with h' | ⟨o', h'⟩ <;> rw [h] at h' <;> cases h' <;> rfl
theorem Sw.at' (s : Sw d ks H H') {a : Addr} {o : HO} (h : H a = some o) (n : ∀ u, o ≠ .dK u) (n2 : ∀ ob u, o ≠ .frz ob u) : H' a = some o := by
  have ne : a ≠ d := fun z => by
    subst z
    rcases s.l with q | ⟨o', q⟩ <;> rw [h] at q <;> cases q
    · exact n _ rfl
    · exact n2 _ _ rfl
  rw [s.ne a ne]
  exact h
theorem Sw.rd (s : Sw d ks H H') {a : Addr} {u : HO} (h : Rd H a u) (n : ∀ kv, u ≠ .dK kv) (n2 : ∀ ob u', u ≠ .frz ob u') : Rd H' a u := by
  have ne : a ≠ d := fun z => by
    subst z
    rcases s.l with q | ⟨o', q⟩ <;> rcases h with h | ⟨o'', h⟩ <;> rw [h] at q <;> cases q
    · exact n _ rfl
    · exact n2 _ _ rfl
    · exact n _ rfl
  rcases h with h | ⟨o, h⟩
  · exact .inl (by rw [s.ne a ne]; exact h)
  · exact .inr ⟨o, by rw [s.ne a ne]; exact h⟩
theorem Sw.dk (s : Sw d ks H H') {a : Addr} {u : List (Key × V)} (h : Rd H a (.dK u)) : Rd H' a (.dK u) := by
  by_cases z : a = d
  · subst z
    rw [Sw.eq s.l h]
    exact s.r
  · rcases h with h | ⟨o, h⟩
    · exact .inl (by rw [s.ne a z]; exact h)
    · exact .inr ⟨o, by rw [s.ne a z]; exact h⟩
theorem Sw.sqT (s : Sw d ks H H') {a : Addr} {xs : List V} (h : SqT K H a xs) : SqT K H' a xs := h.elim (fun h => .inl (s.rd h (fun _ z => by cases z) fun _ _ z => by cases z)) .inr
mutual
theorem Rep.sw (s : Sw d ks H H') : ∀ {v : V} {x : D}, Rep K N H v x → Rep K N H' v x
  | _, _, .non => .non
  | _, _, .bl b => .bl b
  | _, _, .int i => .int i
  | _, _, .str x => .str x
  | _, _, .tup h r => .tup (s.sqT h) (RepL.sw s r)
  | _, _, .lst h n r => .lst (s.at' h (fun _ z => by cases z) fun _ _ z => by cases z) n (RepL.sw s r)
  | _, _, .scr h n r => .scr (h.imp (fun h => ⟨s.rd h.1 (fun _ z => by cases z) (fun _ _ z => by cases z), h.2⟩) fun h => h) n (RepL.sw s r)
  | _, _, .dK h n r => .dK (s.dk h) n (RepK.sw s r)
  | _, _, .dT h n r => .dT (s.rd h (fun _ z => by cases z) fun _ _ z => by cases z) n (RepT.sw s r)
  | _, _, .ins h n r => .ins (s.at' h (fun _ z => by cases z) fun _ _ z => by cases z) n (RepF.sw s r)
  | _, _, .fn x => .fn x
  | _, _, .ty n => .ty n
theorem RepL.sw (s : Sw d ks H H') : ∀ {v : List V} {x : List D}, RepL K N H v x → RepL K N H' v x
  | _, _, .nil => .nil
  | _, _, .cons a b => .cons (Rep.sw s a) (RepL.sw s b)
theorem RepK.sw (s : Sw d ks H H') : ∀ {v : List (Key × V)} {x : List (D × D)}, RepK K N H v x → RepK K N H' v x
  | _, _, .nil => .nil
  | _, _, .cons a b => .cons (Rep.sw s a) (RepK.sw s b)
theorem RepT.sw (s : Sw d ks H H') : ∀ {v : List (List Key × V)} {x : List (D × D)}, RepT K N H v x → RepT K N H' v x
  | _, _, .nil => .nil
  | _, _, .cons a b => .cons (Rep.sw s a) (RepT.sw s b)
theorem RepF.sw (s : Sw d ks H H') : ∀ {v : List (Str × V)} {x : List (Str × D)}, RepF K N H v x → RepF K N H' v x
  | _, _, .nil => .nil
  | _, _, .cons a b => .cons (Rep.sw s a) (RepF.sw s b)
end
theorem RepO.sw (s : Sw d ks H H') {v : V} : ∀ {x : OV}, RepO K N H v x → RepO K N H' v x
  | .d _, r => Rep.sw s r
  | .o _, r => r
theorem RepOL.sw (s : Sw d ks H H') : ∀ {v : List V} {x : List OV}, RepOL K N H v x → RepOL K N H' v x
  | _, _, .nil => .nil
  | _, _, .cons a b => .cons (RepO.sw s a) (RepOL.sw s b)
theorem RepOK.sw (s : Sw d ks H H') : ∀ {v : List (Key × V)} {x : List (D × OV)}, RepOK K N H v x → RepOK K N H' v x
  | _, _, .nil => .nil
  | _, _, .cons a b => .cons (RepO.sw s a) (RepOK.sw s b)
theorem RepOT.sw (s : Sw d ks H H') : ∀ {v : List (List Key × V)} {x : List (D × OV)}, RepOT K N H v x → RepOT K N H' v x
  | _, _, .nil => .nil
  | _, _, .cons a b => .cons (RepO.sw s a) (RepOT.sw s b)
theorem RepOF.sw (s : Sw d ks H H') : ∀ {v : List (Str × V)} {x : List (Str × OV)}, RepOF K N H v x → RepOF K N H' v x
  | _, _, .nil => .nil
  | _, _, .cons a b => .cons (RepO.sw s a) (RepOF.sw s b)
theorem NodeAt.sw (s : Sw d ks H H') {a : Addr} (na : a ≠ d) : ∀ {w : Node}, NodeAt K N H a w → NodeAt K N H' a w
  | .lst _, ⟨vs, h, r⟩ => ⟨vs, by rw [s.ne a na]; exact h, r.sw s⟩
  | .dK _, ⟨vs, h, r⟩ => ⟨vs, by rw [s.ne a na]; exact h, r.sw s⟩
  | .dT _, ⟨vs, h, r⟩ => ⟨vs, by rw [s.ne a na]; exact h, r.sw s⟩
  | .ins _ _, ⟨dx, vs, h, r⟩ => ⟨dx, vs, by rw [s.ne a na]; exact h, r.sw s⟩
theorem Sw.some (s : Sw d ks H H') {a : Addr} {o : HO} (h : H a = some o) : ∃ o', H' a = some o' := by
  by_cases z : a = d
  · subst z
    rcases s.r with q | ⟨o', q⟩ <;> exact ⟨_, q⟩
  · exact ⟨o, by rw [s.ne a z]; exact h⟩
theorem Ht.sw {ob : List (Option Node)} (s : Sw d ks H H') (n : ¬ N.N d) (h : Ht K N ob H) : Ht K N ob H' where
  nod := fun id w e => by
    obtain ⟨o1, q⟩ := h.nod id w e
    exact ⟨o1, q.sw s fun z => n (by rw [← z]; exact N.on _ o1)⟩
  inj := h.inj
  sz := h.sz
  nin := fun a z => let ⟨o, q⟩ := h.nin a z; s.some q
  has := fun i z => let ⟨o, q⟩ := h.has i z; s.some q
def lkH (F0 : Hp) (d : Addr) (o : HO) : Hp := fun a => if a = d ∧ (F0 a).isSome = true then some o else F0 a
theorem Rel.lock {F : Fx} {ρ : Ro} {σ : L2.St} {od : Obj} (R : Rel F N ρ σ H) (n : ¬ N.N d) (h : H d = some (.dK ks)) :
    Rel { F with H0 := lkH F.H0 d (.frz od (.dK ks)) } N ρ σ (upd H d (.frz od (.dK ks))) := by
  have s : Sw d ks H (upd H d (.frz od (.dK ks))) := ⟨fun a ne => upd_ne ne, .inl h, .inr ⟨od, upd_same⟩⟩
  refine ⟨fun i x e => ?_, R.obj, R.ht.sw s n, fun a z => ?_, fun i x e => ?_, fun a o e p => ?_, R.n0, fun a z => ?_, R.len⟩
  · obtain ⟨v, h1, h2⟩ := R.val i x e
    exact ⟨v, h1, h2.sw s⟩
  · rcases R.own a z with q | q
    · exact .inl q
    · right
      show (if a = d ∧ (F.H0 a).isSome = true then _ else F.H0 a) = none
      rw [if_neg (fun z => by rw [q] at z; cases z.2)]
      exact q
  · obtain ⟨v, h1, h2, h3, h4⟩ := R.exc i x e
    exact ⟨v, h1, s.at' h2 (fun _ z => by cases z) (fun _ _ z => by cases z), h3, h4.sw s⟩
  · have e : (if a = d ∧ (F.H0 a).isSome = true then some (HO.frz od (.dK ks)) else F.H0 a) = some o := e
    by_cases q : a = d ∧ (F.H0 a).isSome = true
    · rw [if_pos q] at e
      cases e
      rw [q.1]
      exact upd_same
    · rw [if_neg q] at e
      have ne : a ≠ d := fun z => q ⟨z, by rw [e]; rfl⟩
      rw [upd_ne ne]
      exact R.frame a o e p
  · obtain ⟨o, q⟩ := R.z0 a z
    by_cases y : a = d ∧ (F.H0 a).isSome = true
    · exact ⟨_, if_pos y⟩
    · exact ⟨o, (if_neg y).trans q⟩
theorem Rel.unlock {F : Fx} {N' : Nd} {ρ : Ro} {σ : L2.St} {od : Obj} (h : F.H0 d = none ∨ F.Pa d ∨ F.H0 d = some (.dK ks)) (n' : ¬ N'.N d) (hd : H' d = some (.frz od (.dK ks)))
    (R : Rel { F with H0 := lkH F.H0 d (.frz od (.dK ks)) } N' ρ σ H') : Rel F N' ρ σ (upd H' d (.dK ks)) := by
  have s : Sw d ks H' (upd H' d (.dK ks)) := ⟨fun a ne => upd_ne ne, .inr ⟨od, hd⟩, .inl upd_same⟩
  refine ⟨fun i x e => ?_, R.obj, R.ht.sw s n', fun a z => ?_, fun i x e => ?_, fun a o e p => ?_, R.n0, fun a z => ?_, R.len⟩
  · obtain ⟨v, h1, h2⟩ := R.val i x e
    exact ⟨v, h1, h2.sw s⟩
  · rcases R.own a z with q | q
    · exact .inl q
    · right
      have q : (if a = d ∧ (F.H0 a).isSome = true then some (HO.frz od (.dK ks)) else F.H0 a) = none := q
      by_cases y : a = d ∧ (F.H0 a).isSome = true
      · rw [if_pos y] at q; cases q
      · rw [if_neg y] at q; exact q
  · obtain ⟨v, h1, h2, h3, h4⟩ := R.exc i x e
    exact ⟨v, h1, s.at' h2 (fun _ z => by cases z) (fun _ _ z => by cases z), h3, h4.sw s⟩
  · by_cases z : a = d
    · subst z
      rw [upd_same]
      rcases h with h | h | h
      · rw [e] at h; cases h
      · exact absurd h p
      · rw [← h]; exact e
    · rw [upd_ne z]
      refine R.frame a o ?_ p
      show (if a = d ∧ (F.H0 a).isSome = true then _ else F.H0 a) = _
      rw [if_neg (fun y => z y.1)]
      exact e
  · obtain ⟨o, q⟩ := R.z0 a z
    have q : (if a = d ∧ (F.H0 a).isSome = true then some (HO.frz od (.dK ks)) else F.H0 a) = some o := q
    by_cases y : a = d ∧ (F.H0 a).isSome = true
    · exact Option.isSome_iff_exists.mp y.2
    · rw [if_neg y] at q; exact ⟨o, q⟩
theorem Mv.unlock {N' : Nd} {od : Obj} (n : ¬ N.N d) (h : H d = some (.dK ks)) (m : Mv N (upd H d (.frz od (.dK ks))) N' H') : Mv N H N' (upd H' d (.dK ks)) ∧ H' d = some (.frz od (.dK ks)) ∧ ¬ N'.N d := by
  have hd : H' d = some (.frz od (.dK ks)) := m.keep.rest d _ (fun z => n (N.on d z)) upd_same
  have none_of : ∀ a, upd H d (.frz od (.dK ks)) a = none → H a = none := fun a q => by
    by_cases z : a = d
    · subst z; rw [upd_same] at q; cases q
    · rw [upd_ne z] at q; exact q
  refine ⟨⟨⟨fun a xs q => ?_, fun a o no q => ?_⟩, fun a z => (m.sub a z).imp (fun z => z) (none_of a), fun a z => (m.subO a z).imp (fun z => z) (none_of a), fun a o z no q => ?_, m.szs, m.als⟩, hd, fun z => (m.sub d z).elim n fun q => by rw [upd_same] at q; cases q⟩
  · have ne : a ≠ d := fun z => by
      subst z
      rcases q with q | ⟨o, q⟩ <;> rw [h] at q <;> cases q
    have q1 : Rd (upd H d (.frz od (.dK ks))) a (.tup xs) := q.elim (fun q => .inl (by rw [upd_ne ne]; exact q)) fun ⟨o, q⟩ => .inr ⟨o, by rw [upd_ne ne]; exact q⟩
    exact (m.keep.tup a xs q1).elim (fun q => .inl (by rw [upd_ne ne]; exact q)) fun ⟨o, q⟩ => .inr ⟨o, by rw [upd_ne ne]; exact q⟩
  · by_cases z : a = d
    · subst z
      rw [h] at q
      cases q
      exact upd_same
    · rw [upd_ne z]
      exact m.keep.rest a o no (by rw [upd_ne z]; exact q)
  · by_cases y : a = d
    · subst y; exact absurd z n
    · exact m.stay a o z no (by rw [upd_ne y]; exact q)
end
section
variable {X : Cx} {F : Fx} {W : WX}
theorem PS.or {st : Stmt} {t t' : TS} (h : PS X st t) (h' : PS X st t') : PS X st (fun E σ H => t E σ H ∨ t' E σ H) := ⟨fun pins s σ H D I hw => hw.elim (h.run pins s σ H D I) (h'.run pins s σ H D I)⟩
def tLockN (X : Cx) (t : TS) : TS := fun D σ H => ∃ d u, H d = some u ∧ Mut (some u) ∧ ((∀ o' u', X.H_0 d ≠ some (.frz o' u')) → ∀ od, t ⟨fun σ' H' => H' d = some (.frz od u) ∧ D.nx σ' (upd H' d u), fun v H' => H' d = some (.frz od u) ∧ D.rt v (upd H' d u), fun σ' H' => H' d = some (.frz od u) ∧ D.bk σ' (upd H' d u), fun σ' H' => H' d = some (.frz od u) ∧ D.ct σ' (upd H' d u)⟩ σ (upd H d (.frz od u)))
theorem ps_lockN {st : Stmt} {t : TS} (h : PS X st t) : PS X st (tLockN X t) := by
  refine ⟨fun pins s σ H D I hw => ?_⟩
  obtain ⟨d, u, hd, mu, hw⟩ := hw
  obtain ⟨od, I1⟩ := I.lock hd mu
  refine thn (h.run pins s σ _ _ I1 (hw (I.nofrz hd mu) od)) fun f s1 q => ?_
  cases f with
  | next => obtain ⟨σ', H', I2, e, q⟩ := q; exact ⟨σ', _, I2.unlock e (I.nofrz hd mu), q⟩
  | brk => obtain ⟨σ', H', I2, e, q⟩ := q; exact ⟨σ', _, I2.unlock e (I.nofrz hd mu), q⟩
  | cont => obtain ⟨σ', H', I2, e, q⟩ := q; exact ⟨σ', _, I2.unlock e (I.nofrz hd mu), q⟩
  | ret v => obtain ⟨x, σ', H', I2, r, e, q⟩ := q; exact ⟨x, σ', _, I2.unlock e (I.nofrz hd mu), r, q⟩
def wLock (W : WX) (d : Addr) (od : Obj) (u : HO) : WX := fun c dd σ H => H d = some (.frz od u) ∧ W c dd σ (upd H d u)
theorem Takes.lock {d : Addr} {od : Obj} {u : HO} (tk : Takes X W) (nf : ∀ o' u', X.H_0 d ≠ some (.frz o' u')) : Takes X (wLock W d od u) := fun e s' ⟨a, B, sI, pins, σ, H, cls, dd, eq, I, nb, up, sky, na, os, ag, hd, w⟩ => by
  refine tk e s' ⟨a, B, sI, pins, σ, upd H d u, cls, dd, eq, I.unlock hd nf, nb, up, sky, ?_, os, ag, w⟩
  rw [upd_ne (fun z => by rw [z, hd] at na; cases na)]
  exact na
def kysF (i : Nat) (g : Tg) (b : Sv) : Sv := fun ρ => match ρ.sl[i]? with
  | some (.v (.dct kvs)) => loopS g b (kvs.map (·.1)) ρ
  | _ => none
theorem repK_key {K : PySem.W.Frag} {N : Nd} {H : Hp} : ∀ {ks : List (Key × V)} {kvs : List (D × D)} {i : Nat}, RepK K N H ks kvs → (kvs.map (·.1))[i]? = (ks[i]?).map fun p => kD p.1
  | _, _, _, .nil => by simp
  | _, _, 0, .cons _ _ => rfl
  | _, _, i + 1, .cons _ b => by
    have := repK_key (i := i) b
    simpa using this
theorem kD_rep {K : PySem.W.Frag} {N : Nd} {H : Hp} (k : Key) : Rep K N H (kV k) (kD k) := by
  rcases k with i | x
  · exact .int i
  · exact .str x.cps.toList
theorem loop_lk {g : Tg} {b : Sv} {is : List Nat} {t : TG} {tb : TS} {F1 : Fx} {W1 : WX} {E : Ends} {N1 : Nd} {ρ1 : Ro} {σ : L2.St} {H1 : Hp} {o : Out} {d : Addr} {od : Obj} {ks : List (Key × V)} {kvs : List (D × D)}
    (og : OpG F1 is t g) (hb : ∀ E σ H, tDS F1 W1 b E σ H → tb E σ H) (R1 : Rel F1 N1 ρ1 σ H1) (e1 : loopS g b (kvs.map (·.1)) ρ1 = some o) (q1 : Post F1 W1 E N1 H1 o) (no : ¬ N1.O d) (hd : H1 d = some (.frz od (.dK ks))) (rk : RepK F1.K N1 H1 ks kvs) :
    ∃ Wf : Nat → Nat → L2.St → Hp → Prop, (∃ m, Wf 0 m σ H1) ∧ ∀ i m σ H, Wf i m σ H → ((Itk d od ks).stop i H ∧ E.nx σ H) ∨ ((Itk d od ks).go i H ∧ ∃ Nx : L2.St → Hp → Prop, (∀ σ' H', Nx σ' H' → ∃ m', m' < m ∧ Wf (i + 1) m' σ' H') ∧ ∀ x H', (Itk d od ks).yld i H x H' → t x σ H' fun σ2 H2 => tb { E with nx := Nx, ct := Nx, bk := E.nx } σ2 H2) := by
  refine ⟨fun i m σ H2 => m = ks.length - i ∧ ∃ N2 ρ2, Rel F1 N2 ρ2 σ H2 ∧ Mv N1 H1 N2 H2 ∧ loopS g b ((kvs.map (·.1)).drop i) ρ2 = some o, ⟨ks.length, by simp, N1, ρ1, R1, .refl, e1⟩, ?_⟩
  rintro i m σ2 H2 ⟨rfl, N2, ρ2, R2, m2, e2⟩
  have hd2 : H2 d = some (.frz od (.dK ks)) := m2.keep.rest d _ no hd
  have hk := repK_key (i := i) rk
  cases hq : ks[i]? with
  | none =>
    left
    have hl := List.getElem?_eq_none_iff.mp hq
    refine ⟨⟨hd2, hl⟩, ?_⟩
    rw [hq] at hk
    have z : (kvs.map (·.1)).drop i = [] := List.drop_eq_nil_of_le (List.getElem?_eq_none_iff.mp hk)
    rw [z] at e2
    cases e2
    exact q1 σ2 H2 N2 R2 m2
  | some kv =>
    right
    have hl : i < ks.length := lt_of_some hq
    rw [hq] at hk
    have hl2 : i < (kvs.map (·.1)).length := lt_of_some hk
    have z : (kvs.map (·.1)).drop i = kD kv.1 :: (kvs.map (·.1)).drop (i + 1) := by
      rw [List.drop_eq_getElem_cons hl2]
      rw [(List.getElem?_eq_some_iff.mp hk).2]
    rw [z] at e2
    refine ⟨⟨hd2, hl⟩, fun σ3 H3 => ∃ N3 ρ3, Rel F1 N3 ρ3 σ3 H3 ∧ Mv N1 H1 N3 H3 ∧ loopS g b ((kvs.map (·.1)).drop (i + 1)) ρ3 = some o, fun σ3 H3 ⟨N3, ρ3, R3, m3, e3⟩ => ⟨ks.length - (i + 1), by omega, rfl, N3, ρ3, R3, m3, e3⟩, fun x H3 y => ?_⟩
    obtain ⟨rfl, k', v', hkv, rfl⟩ := y
    rw [hq] at hkv
    cases hkv
    unfold loopS at e2
    split at e2
    · rename_i ρ3 h3
      refine og N2 ρ2 σ2 H3 (kV k') (.d (kD k')) ρ3 _ R2 (kD_rep k') h3 fun σ4 H4 N4 R4 m4' _ => hb _ _ _ ?_
      have m3 : Mv N1 H1 N4 H4 := m2.trans m4'
      cases hbo : b ρ3 with
      | none => rw [hbo] at e2; cases e2
      | some o' =>
        refine ⟨N4, ρ3, o', R4, hbo, ?_⟩
        rw [hbo] at e2
        cases o' with
        | nx ρ4 => exact fun σ' H' N' R' m' => ⟨N', ρ4, R', m3.trans m', e2⟩
        | ct ρ4 => exact fun σ' H' N' R' m' => ⟨N', ρ4, R', m3.trans m', e2⟩
        | bk ρ4 => cases e2; exact fun σ' H' N' R' m' => q1 σ' H' N' R' (m3.trans m')
        | rt d' ρ4 => cases e2; exact fun v σ' H' N' R' m' r' => q1 v σ' H' N' R' (m3.trans m') r'
        | rs c d' ρ4 => cases e2; exact fun σ' => (q1 σ').mv m3
    · cases e2
theorem ds_forK {i : Nat} {tg iter : Expr} {body : List Stmt} {is : List Nat} {t : TG} {g : Tg} {b : Sv} {pos : Pos} (hp : PassesOwn (model X.prog X.w) X.A X.env X.xe) (hc : X.calm = true) (tk : Takes X W) (hi : PE X iter (tVar i)) (hg : PG X tg t) (og : ∀ H0', OpG { F with H0 := H0' } is t g)
    (hb : ∀ (H0' : Hp) (W' : WX), Takes X W' → PSs X body (tDS { F with H0 := H0' } W' b)) (hs : ∀ x, foldedSetIterable iter X.env x = pure x := by intro _; rfl) : PS X (.For tg iter body [] pos) (tDS F W (kysF i g b)) := by
  let tb : TS := fun E σ H => ∃ (H0' : Hp) (W' : WX), Takes X W' ∧ tDS { F with H0 := H0' } W' b E σ H
  have hbT : PSs X body tb := ⟨fun pins s σ H D I ⟨H0', W', tk', hw⟩ => (hb H0' W' tk').run pins s σ H D I hw⟩
  have core := ps_for (pos := pos) hp hc (pi_keys (tg := tg) hi) hg hbT hs
  refine (PS.or (ps_lockN core) core).imp fun E σ H ⟨N, ρ, o, R, e, q⟩ => ?_
  unfold kysF at e
  split at e
  · rename_i kvs hv
    obtain ⟨v, hσ, rv⟩ := R.val i _ hv
    cases rv with
    | dK h n rk =>
      rename_i d ks
      rcases h with h | ⟨od, h⟩
      · left
        refine ⟨d, .dK ks, h, True.intro, fun nf od => ⟨.ref d, hσ, d, od, rfl, .inl ⟨ks, upd_same, ?_⟩⟩⟩
        have R1 := R.lock (od := od) n h
        have hh : F.H0 d = none ∨ F.Pa d ∨ F.H0 d = some (.dK ks) := by
          by_cases p : F.Pa d
          · exact .inr (.inl p)
          · cases e0 : F.H0 d with
            | none => exact .inl rfl
            | some o => have := R.frame d o e0 p; rw [h] at this; cases this; exact .inr (.inr rfl)
        have s : Sw d ks H (upd H d (.frz od (.dK ks))) := ⟨fun a ne => upd_ne ne, .inl h, .inr ⟨od, upd_same⟩⟩
        refine loop_lk (F1 := { F with H0 := lkH F.H0 d (.frz od (.dK ks)) }) (W1 := wLock W d od (.dK ks)) (og _) (fun E σ H hw => ⟨_, _, Takes.lock tk nf, hw⟩) R1 e ?_ (fun z => n (N.on d z)) upd_same (rk.sw s)
        cases o with
        | nx ρ' =>
          intro σ' H' N' R' m'
          obtain ⟨mo, hd', n'⟩ := Mv.unlock n h m'
          exact ⟨hd', q σ' _ N' (R'.unlock hh n' hd') mo⟩
        | bk ρ' =>
          intro σ' H' N' R' m'
          obtain ⟨mo, hd', n'⟩ := Mv.unlock n h m'
          exact ⟨hd', q σ' _ N' (R'.unlock hh n' hd') mo⟩
        | ct ρ' =>
          intro σ' H' N' R' m'
          obtain ⟨mo, hd', n'⟩ := Mv.unlock n h m'
          exact ⟨hd', q σ' _ N' (R'.unlock hh n' hd') mo⟩
        | rt x ρ' =>
          intro v σ' H' N' R' m' r'
          obtain ⟨mo, hd', n'⟩ := Mv.unlock n h m'
          exact ⟨hd', q v σ' _ N' (R'.unlock hh n' hd') mo (r'.sw ⟨fun a ne => upd_ne ne, .inr ⟨od, hd'⟩, .inl upd_same⟩)⟩
        | rs c x ρ' =>
          intro σ' v dd H' N' R' m' hx nx r'
          obtain ⟨mo, hd', n'⟩ := Mv.unlock n h m'
          refine ⟨hd', q σ' v dd _ N' (R'.unlock hh n' hd') mo ?_ nx (r'.sw ⟨fun a ne => upd_ne ne, .inr ⟨od, hd'⟩, .inl upd_same⟩)⟩
          rw [upd_ne (fun z => by rw [z, hd'] at hx; cases hx)]
          exact hx
      · right
        exact ⟨.ref d, hσ, d, od, rfl, .inl ⟨ks, h, loop_lk (F1 := F) (W1 := W) (og F.H0) (fun E σ H hw => ⟨F.H0, W, tk, hw⟩) R e q (fun z => n (N.on d z)) h rk⟩⟩
  · cases e
end
end LP

set_option maxRecDepth 100000
set_option maxHeartbeats 1000000
namespace LP
open PySem PySem.Spec
open PyProof.Rows hiding St
open L2
set_option autoImplicit false
theorem tk0 {X : Cx} : Takes X W0 := fun u s' ⟨a, B, sI, pins, σ, H, cls, d, e, I, nb, up, sky, na, os, ag, w⟩ => w.elim
def tupAt (K : PySem.W.Frag) (a : Addr) (vs : List He.Dv) : Bool := match K.lookup a with
  | some ⟨.type c, _, .seq its _, _⟩ => decide (c = "tuple") && (decide (its.size ≤ sizeLine) && He.relAll (vs.map (He.Dv.v K)) its.toList)
  | _ => false
theorem tupAt_ok {K : PySem.W.Frag} {a : Addr} {vs : List He.Dv} (h : tupAt K a vs = true) (H : Hp) : SqT K H a (vs.map (He.Dv.v K)) := by
  unfold tupAt at h
  cases q : K.lookup a with
  | none =>
    rw [q] at h
    cases h
  | some o =>
    obtain ⟨oc, od, dt, osl⟩ := o
    rw [q] at h
    cases oc with
    | type c =>
      cases dt with
      | seq its n =>
        obtain ⟨h1, h2⟩ := He.ba (show (decide (c = "tuple") && (decide (its.size ≤ sizeLine) && He.relAll (vs.map (He.Dv.v K)) its.toList)) = true from h)
        obtain ⟨h3, h4⟩ := He.ba h2
        exact .inr ⟨_, its, n, q, congrArg Value.type (of_decide_eq_true h1), rfl, of_decide_eq_true h3, He.relAll_ok h4⟩
      | _ => cases h
    | _ => cases dt <;> cases h
def dS (s : List Nat) : He.Dv := .str ⟨⟨s⟩⟩
theorem dS_rep {K : PySem.W.Frag} {N : Nd} {H : Hp} : ∀ ss : List (List Nat), RepL K N H ((ss.map dS).map (He.Dv.v K)) (ss.map D.str)
  | [] => .nil
  | s :: r => .cons (.str s) (dS_rep r)
def exTup (x : Str) (ss : List (List Nat)) (K : PySem.W.Frag) : Bool := tupAt K (He.ga K x) (ss.map dS)
def exTab (x : Str) (tab : List (List Nat × List (List Nat))) (K : PySem.W.Frag) : Bool := tab.all fun q => match PySem.W.nsIn K (He.ga K x) ⟨⟨q.1⟩⟩ with
  | some (some (.ref a)) => tupAt K a (q.2.map dS)
  | _ => false
structure Tx (fa : List He.Fa) (fn : List He.DefD) (ts : List He.Tab) (exs : List (PySem.W.Frag → Bool)) (w : World) (K : PySem.W.Frag) (mg : Str → Option Value) : Prop where
  k : ∃ h : Heap, K.In h ∧ h.Ns mainGlobals mg
  t : He.SaysT fa fn ts w K
  more : (exs.all fun p => p K) = true
section
variable {fa : List He.Fa} {fn : List He.DefD} {ts : List He.Tab} {exs : List (PySem.W.Frag → Bool)} {w : World} {K : PySem.W.Frag} {mg : Str → Option Value}
theorem Tx.glo (T : Tx fa fn ts exs w K mg) (i : Nat) {x : Str} (h : fa[i]? = some (.glo x) := by rfl) : mg x = some (.ref (He.ga K x)) := let ⟨_, a, b⟩ := T.k; He.glo_ok a b (T.t.d.fact i h)
theorem Tx.free (T : Tx fa fn ts exs w K mg) (i : Nat) {x : Str} (h : fa[i]? = some (.free x) := by rfl) : mg x = none := let ⟨_, a, b⟩ := T.k; He.free_ok a b (T.t.d.fact i h)
theorem Tx.int (T : Tx fa fn ts exs w K mg) (i : Nat) {x : Str} {z : Int} (h : fa[i]? = some (.int x z) := by rfl) : ∃ t, mg x = some (.int z t) := let ⟨_, a, b⟩ := T.k; He.int_ok a b (T.t.d.fact i h)
theorem Tx.str (T : Tx fa fn ts exs w K mg) (i : Nat) {x z : Str} (h : fa[i]? = some (.str x z) := by rfl) : ∃ t, mg x = some (.str z t) := let ⟨_, a, b⟩ := T.k; He.str_ok a b (T.t.d.fact i h)
theorem Tx.cls (T : Tx fa fn ts exs w K mg) (i : Nat) {x : Str} (h : fa[i]? = some (.cls x) := by rfl) : Cls K (He.ga K x) := He.cls_ok (T.t.d.fact i h)
theorem Tx.noat (T : Tx fa fn ts exs w K mg) (i : Nat) {x f : Str} (h : fa[i]? = some (.noat x f) := by rfl) : NoAttr K (He.ga K x) f := He.noat_ok (T.t.d.fact i h)
theorem Tx.meth (T : Tx fa fn ts exs w K mg) (i : Nat) {x m : Str} (h : fa[i]? = some (.meth x m) := by rfl) : Meth K (He.ga K x) m (He.ma K (He.ga K x) m) := He.meth_ok (T.t.d.fact i h)
theorem Tx.mkr (T : Tx fa fn ts exs w K mg) (i : Nat) {x : Str} (h : fa[i]? = some (.mkr x) := by rfl) : Mk K (He.ga K x) (He.ma K (He.ga K x) "__init__") := He.mkr_ok (T.t.d.fact i h)
theorem Tx.exm (T : Tx fa fn ts exs w K mg) (i : Nat) {x y : Str} {b : Bool} (h : fa[i]? = some (.exm x y b) := by rfl) : PySem.W.exmOne K (.ref (He.ga K x)) (.ref (He.ga K y)) = some b := He.exm_ok (T.t.d.fact i h)
theorem Tx.ex (T : Tx fa fn ts exs w K mg) (i : Nat) {p : PySem.W.Frag → Bool} (h : exs[i]? = some p := by rfl) : p K = true := List.all_eq_true.mp T.more p (List.mem_of_getElem? h)
end
def OkF (P : Program) (w : World) (K : PySem.W.Frag) (mg : Str → Option Value) (base : Heap) (k : Nat) (a : Addr) (ps : List Str) (sp : Sp) : Prop :=
  ∃ fd, FnOk P w K mg base (L2.CX P w) k a fd ps sp ∧ PySem.W.keepIn K (.ref a) = true ∧ Binds K fd ps []
section
variable {X : Cx} {F : Fx} {W : WX}
theorem de_gint {n : Int} {x : Str} {pos : Pos} (hm : ∃ t, X.mg x = some (.int n t)) (hg : Gl X x := by rfl) (hd : (x == ("__debug__" : Str)) = false := by decide) : PE X (.Name x pos) (tD F W (cF (.int n))) := by
  obtain ⟨t, hm⟩ := hm
  exact de_const (pe_glob hg hm (v := .int n) ⟨t, rfl⟩ hd) fun _ _ => .int n
theorem de_gstr {s : List Nat} {x : Str} {pos : Pos} (hm : ∃ t, X.mg x = some (.str ⟨⟨s⟩⟩ t)) (hg : Gl X x := by rfl) (hd : (x == ("__debug__" : Str)) = false := by decide) : PE X (.Name x pos) (tD F W (cF (.str s))) := by
  obtain ⟨t, hm⟩ := hm
  exact de_const (pe_glob hg hm (v := .str ⟨⟨s⟩⟩) ⟨t, rfl⟩ hd) fun _ _ => .str s
theorem de_gtup {ss : List (List Nat)} {x : Str} {pos : Pos} (hK : F.K = X.K) (hm : X.mg x = some (.ref (He.ga X.K x))) (ht : exTup x ss X.K = true) (hg : Gl X x := by rfl) (hd : (x == ("__debug__" : Str)) = false := by decide) : PE X (.Name x pos) (tD F W (cF (.tup (ss.map .str)))) :=
  de_const (pe_glob hg hm (v := .ref (He.ga X.K x)) rfl hd) fun N H => by
    rw [hK]
    exact .tup (tupAt_ok ht H) (dS_rep ss)
theorem de_gfn {x : Str} {pos : Pos} (hK : F.K = X.K) (hm : X.mg x = some (.ref (He.ga X.K x))) (hg : Gl X x := by rfl) (hd : (x == ("__debug__" : Str)) = false := by decide) : PE X (.Name x pos) (tD F W (cF (.fn x))) :=
  de_const (pe_glob hg hm (v := .ref (He.ga X.K x)) rfl hd) fun N H => by
    rw [← hK]
    exact .fn x
theorem de_ty {x : Str} (n : Nat) {pos : Pos} (hm : X.mg x = none) (hv : bootBuiltins x = some (.type (tyNm n))) (hg : Gl X x := by rfl) (hn : x ≠ "__name__" := by decide) (hd : (x == ("__debug__" : Str)) = false := by decide) : PE X (.Name x pos) (tD F W (cF (.ty n))) :=
  de_const (pe_bltn hg hm hv (v := .ty (tyNm n)) rfl hn hd) fun _ _ => .ty n
def tabAt (s : List Nat) : List (List Nat × List (List Nat)) → Option (List (List Nat))
  | [] => none
  | p :: r => if p.1 == s then some p.2 else tabAt s r
def tabF (tab : List (List Nat × List (List Nat))) (f : Ev) : Ev := bnd f fun d => optM (match d with
  | .str s => (tabAt s tab).map fun ss => .tup (ss.map .str)
  | _ => none)
theorem tabAt_mem {s : List Nat} {ss : List (List Nat)} : ∀ {tab : List (List Nat × List (List Nat))}, tabAt s tab = some ss → (s, ss) ∈ tab
  | [], h => by cases h
  | p :: r, h => by
    unfold tabAt at h
    split at h
    · rename_i e
      cases h
      rw [← beq_iff_eq.mp e]
      exact List.mem_cons_self
    · exact List.mem_cons_of_mem _ (tabAt_mem h)
theorem de_tabix {tab : List (List Nat × List (List Nat))} {x : Str} {i : Expr} {f : Ev} {pos p : Pos} (hK : F.K = X.K) (hm : X.mg x = some (.ref (He.ga X.K x))) (hd : ∃ es n, KDict X.K X.w (He.ga X.K x) es n) (ht : exTab x tab X.K = true) (hi : PE X i (tD F W f)) (hs : PlainIx i) (hg : Gl X x := by rfl) (hdb : (x == ("__debug__" : Str)) = false := by decide) :
    PE X (.Subscript (.Name x p) i pos) (tD F W (tabF tab f)) := (pe_ix ix_kdict (pe_glob hg hm (v := .ref (He.ga X.K x)) rfl hdb) hi hs).imp fun σ H Q ⟨N, ρ, r, ρ', R, e, k⟩ => by
  refine tM_bind R e k fun a ρ1 y H1 N1 R1 r1 e1 m1 k1 => ?_
  obtain ⟨c, e3, rfl, rfl⟩ := optM_some e1
  split at e3
  · rename_i s
    obtain ⟨ss, h1, rfl⟩ := Option.map_eq_some_iff.mp e3
    cases r1
    have h2 := List.all_eq_true.mp ht _ (tabAt_mem h1)
    dsimp only at h2
    split at h2
    · rename_i b hb
      obtain ⟨es, n, kd⟩ := hd
      refine ⟨_, _, .ref b, rfl, rfl, ⟨es, n, .ref b, kd.at_, kd.lit, hb, rfl⟩, k1.fin R1 ?_⟩
      rw [hK]
      exact .tup (tupAt_ok h2 H1) (dS_rep ss)
    · cases h2
  · cases e3
def tinF (neg : Bool) (ks : List (List Nat)) (f : Ev) : Ev := bnd f fun d => optM (match d with
  | .str s => some (.bl (if neg then !ks.elem s else ks.elem s))
  | _ => none)
theorem kd_find {P : Params} {z : List Nat} : ∀ {l : List DictEntry} {ks : List (List Nat)}, l.map He.keyOf = He.keysIn P (ks.map fun s => ⟨⟨s⟩⟩) → (l.find? (·.key.isStr ⟨⟨z⟩⟩)).isSome = ks.elem z ∧ l.any (·.refKey) = false
  | [], [], _ => ⟨rfl, rfl⟩
  | [], _ :: _, h => by cases h
  | _ :: _, [], h => by cases h
  | e :: l, k :: ks, h => by
    have h1 : He.keyOf e :: l.map He.keyOf = some (⟨⟨k⟩⟩, PyData.keyHash P ⟨⟨k⟩⟩) :: He.keysIn P (ks.map fun s => ⟨⟨s⟩⟩) := h
    injection h1 with h2 h3
    obtain ⟨i1, i2⟩ := kd_find h3
    unfold He.keyOf at h2
    split at h2
    · rename_i x t q
      have h4 : x = ⟨⟨k⟩⟩ := congrArg Prod.fst (Option.some.inj h2)
      subst h4
      have e1 : e.key.isStr ⟨⟨z⟩⟩ = (z == k) := by
        rw [q]
        show ((⟨⟨k⟩⟩ : Str) == ⟨⟨z⟩⟩) = _
        rw [str_beq, Bool.eq_iff_iff, beq_iff_eq, beq_iff_eq]
        exact eq_comm
      have e2 : e.refKey = false := by
        unfold DictEntry.refKey
        rw [q]
      refine ⟨?_, by rw [List.any_cons, e2, i2]; rfl⟩
      rw [List.find?_cons, e1, List.elem_cons]
      cases hz : z == k with
      | true => rfl
      | false => exact i1
    · cases h2
theorem kd_ns {K : PySem.W.Frag} {w : World} {a : Addr} {ks : List (List Nat)} (h : He.dicW K a = some (He.keysIn w.params (ks.map fun s => ⟨⟨s⟩⟩))) (s : List Nat) : ∃ r, PySem.W.nsIn K a ⟨⟨s⟩⟩ = some r ∧ r.isSome = ks.elem s := by
  unfold He.dicW at h
  split at h
  · rename_i c es n sl hq
    split at h
    · obtain ⟨h1, h2⟩ := kd_find (z := s) (Option.some.inj h)
      unfold PySem.W.nsIn
      rw [hq]
      dsimp only
      cases hf : es.toList.find? (·.key.isStr ⟨⟨s⟩⟩) with
      | some e =>
        rw [hf] at h1
        exact ⟨_, rfl, h1⟩
      | none =>
        rw [hf] at h1
        dsimp only
        rw [h2]
        exact ⟨_, rfl, h1⟩
    · cases h
  · cases h
theorem tin_of {neg : Bool} {ks : List (List Nat)} {a : Addr} {f : Ev} (hd : He.dicW X.K a = some (He.keysIn X.w.params (ks.map fun s => ⟨⟨s⟩⟩))) {σ : L2.St} {H : Hp} {Q : VK} (h : tD F W (tinF neg ks f) σ H Q) :
    tOp (fun x y H Q => ∃ (z : Str) (r : Option Value), x = .str z ∧ y = .ref a ∧ PySem.W.nsIn X.K a z = some r ∧ Q (.bl (if neg then !r.isSome else r.isSome)) H) (tD F W f) (tC (.ref a)) σ H Q := by
  obtain ⟨N, ρ, r, ρ', R, e, k⟩ := h
  refine tM_bind R e k fun d ρ1 y H1 N1 R1 r1 e1 m1 k1 => ?_
  obtain ⟨c, e3, rfl, rfl⟩ := optM_some e1
  split at e3
  · rename_i s
    cases e3
    cases r1
    obtain ⟨r, h1, h2⟩ := kd_ns hd s
    refine ⟨_, r, rfl, rfl, h1, ?_⟩
    rw [h2]
    exact k1.fin R1 (.bl _)
  · cases e3
theorem de_tin {ks : List (List Nat)} {x : Str} {i : Expr} {f : Ev} {pos p : Pos} (hm : X.mg x = some (.ref (He.ga X.K x))) (hd : He.dicW X.K (He.ga X.K x) = some (He.keysIn X.w.params (ks.map fun s => ⟨⟨s⟩⟩))) (hi : PE X i (tD F W f)) (hg : Gl X x := by rfl) (hdb : (x == ("__debug__" : Str)) = false := by decide) :
    PE X (.Compare i [.In] [.Name x p] pos) (tD F W (tinF false ks f)) := by
  obtain ⟨es, n, kd⟩ := He.dicW_ok hd
  exact (pe_cmpR (op_in_kd kd) hi (pe_glob hg hm (v := .ref (He.ga X.K x)) rfl hdb) rfl).imp fun σ H Q h => tin_of hd h
theorem de_tnotin {ks : List (List Nat)} {x : Str} {i : Expr} {f : Ev} {pos p : Pos} (hm : X.mg x = some (.ref (He.ga X.K x))) (hd : He.dicW X.K (He.ga X.K x) = some (He.keysIn X.w.params (ks.map fun s => ⟨⟨s⟩⟩))) (hi : PE X i (tD F W f)) (hg : Gl X x := by rfl) (hdb : (x == ("__debug__" : Str)) = false := by decide) :
    PE X (.Compare i [.NotIn] [.Name x p] pos) (tD F W (tinF true ks f)) := by
  obtain ⟨es, n, kd⟩ := He.dicW_ok hd
  exact (pe_cmpR (op_notIn_kd kd) hi (pe_glob hg hm (v := .ref (He.ga X.K x)) rfl hdb) rfl).imp fun σ H Q h => tin_of hd h
theorem dt_tnotin {ks : List (List Nat)} {x : Str} {i : Expr} {f : Ev} {pos p : Pos} (hm : X.mg x = some (.ref (He.ga X.K x))) (hd : He.dicW X.K (He.ga X.K x) = some (He.keysIn X.w.params (ks.map fun s => ⟨⟨s⟩⟩))) (hi : PE X i (tD F W f)) (hg : Gl X x := by rfl) (hdb : (x == ("__debug__" : Str)) = false := by decide) :
    PT X (.Compare i [.NotIn] [.Name x p] pos) (tDT F W (tF (tinF true ks f))) := by
  obtain ⟨es, n, kd⟩ := He.dicW_ok hd
  exact dt_of (pt_cmpR (op_notIn_kd kd) hi (pe_glob hg hm (v := .ref (He.ga X.K x)) rfl hdb) rfl) fun σ H Q h => tin_of hd h
section
variable {k j : Nat} {a : Addr} {ps : List Str} {n : Nat} {x c m : Str} {p pos apos : Pos} {e o : Expr} {es : List Expr}
theorem dk_call {f : Fm} {g : EvA} (hK : F.K = X.K) (G : OkF X.prog X.w X.K X.mg X.base k a ps (spF X.K n f)) (tk : Takes X W) (hr : Room j X.A) (hj : k ≤ j) (hm : X.mg x = some (.ref a)) (ha : PA X (e :: es) (tDA F W g))
    (hg : Gl X x := by rfl) (hdb : (x == ("__debug__" : Str)) = false := by decide) (he : starEach (e :: es) X.env = (false, eval e X.env) :: starEach es X.env := by rfl) (hpl : (backTo pos (starEach es X.env)).any (·.1) = false := by rfl) :
    PE X (.Call (.Name x p) (e :: es) [] pos) (tD F W (clF n f g)) := by
  obtain ⟨fd, G, hk, hb⟩ := G
  exact de_call hK G tk (hr.mono hj) hm hk hb ha hg hdb he hpl
theorem bk_call {f : Fm} {g : M (List OV)} (hK : F.K = X.K) (G : OkF X.prog X.w X.K X.mg X.base k a ps (spF X.K n f)) (tk : Takes X W) (hr : Room j X.A) (hj : k ≤ j) (hm : X.mg x = some (.ref a)) (ha : PA X (e :: es) (tOA F W g))
    (hg : Gl X x := by rfl) (hdb : (x == ("__debug__" : Str)) = false := by decide) (he : starEach (e :: es) X.env = (false, eval e X.env) :: starEach es X.env := by rfl) (hpl : (backTo pos (starEach es X.env)).any (·.1) = false := by rfl) :
    PE X (.Call (.Name x p) (e :: es) [] pos) (tD F W (clB n f g)) := by
  obtain ⟨fd, G, hk, hb⟩ := G
  exact ob_call hK G tk (hr.mono hj) hm hk hb ha hg hdb he hpl
theorem ok_call {f : Gm} {g : M (List OV)} (hK : F.K = X.K) (G : OkF X.prog X.w X.K X.mg X.base k a ps (spS X.K n f)) (tk : Takes X W) (hr : Room j X.A) (hj : k ≤ j) (hm : X.mg x = some (.ref a)) (ha : PA X (e :: es) (tOA F W g))
    (hg : Gl X x := by rfl) (hdb : (x == ("__debug__" : Str)) = false := by decide) (he : starEach (e :: es) X.env = (false, eval e X.env) :: starEach es X.env := by rfl) (hpl : (backTo pos (starEach es X.env)).any (·.1) = false := by rfl) :
    PE X (.Call (.Name x p) (e :: es) [] pos) (tO F W (clS n f g)) := by
  obtain ⟨fd, G, hk, hb⟩ := G
  exact oe_call hK G tk (hr.mono hj) hm hk hb ha hg hdb he hpl
theorem ok_meth {pl : Sem Bool} {f : Gm} {go : Ex} {g : M (List OV)} (hK : F.K = X.K) (he : PE X o (tO F W go)) (cl : Cls X.K (He.ga X.K c)) (hm : Meth X.K (He.ga X.K c) m a) (G : OkF X.prog X.w X.K X.mg X.base k a ps (spS X.K n f)) (tk : Takes X W) (hr : Room j X.A) (hj : k ≤ j) (ha : PA X (e :: es) (tOA F W g))
    (hst : starEach (e :: es) X.env = (false, eval e X.env) :: starEach es X.env := by rfl) (hpl : (backTo pos (starEach es X.env)).any (·.1) = false := by rfl)
    (ht : eval (.Call (.Attribute o m apos) (e :: es) [] pos) X.env = (do
      let ov ← eval o X.env
      standAt apos.atName
      let (f, first) ← holding [ov] (getMethod ov m pl)
      callWith pos f first (backTo pos (starEach (e :: es) X.env)) (backToKw pos (keywordEach [] X.env))) := by rfl) :
    PE X (.Call (.Attribute o m apos) (e :: es) [] pos) (tO F W (mtS c m n f go g)) := by
  obtain ⟨fd, G, hk, hb⟩ := G
  exact oe_meth (pl := pl) hK he cl hm G tk (hr.mono hj) hb ha hst hpl ht
theorem ok_meth0 {pl : Sem Bool} {f : Gm} {go : Ex} (hK : F.K = X.K) (he : PE X o (tO F W go)) (cl : Cls X.K (He.ga X.K c)) (hm : Meth X.K (He.ga X.K c) m a) (G : OkF X.prog X.w X.K X.mg X.base k a ps (spS X.K n f)) (tk : Takes X W) (hr : Room j X.A) (hj : k ≤ j)
    (ht : eval (.Call (.Attribute o m apos) [] [] pos) X.env = (do
      let ov ← eval o X.env
      standAt apos.atName
      let (f, first) ← holding [ov] (getMethod ov m pl)
      callWith pos f first (backTo pos (starEach [] X.env)) (backToKw pos (keywordEach [] X.env))) := by rfl) :
    PE X (.Call (.Attribute o m apos) [] [] pos) (tO F W (mtS c m n f go nilO)) := by
  obtain ⟨fd, G, hk, hb⟩ := G
  exact oe_meth0 (pl := pl) hK he cl hm G tk (hr.mono hj) hb ht
theorem bk_meth {pl : Sem Bool} {f : Fm} {go : Ex} {g : M (List OV)} (hK : F.K = X.K) (he : PE X o (tO F W go)) (cl : Cls X.K (He.ga X.K c)) (hm : Meth X.K (He.ga X.K c) m a) (G : OkF X.prog X.w X.K X.mg X.base k a ps (spF X.K n f)) (tk : Takes X W) (hr : Room j X.A) (hj : k ≤ j) (ha : PA X (e :: es) (tOA F W g))
    (hst : starEach (e :: es) X.env = (false, eval e X.env) :: starEach es X.env := by rfl) (hpl : (backTo pos (starEach es X.env)).any (·.1) = false := by rfl)
    (ht : eval (.Call (.Attribute o m apos) (e :: es) [] pos) X.env = (do
      let ov ← eval o X.env
      standAt apos.atName
      let (f, first) ← holding [ov] (getMethod ov m pl)
      callWith pos f first (backTo pos (starEach (e :: es) X.env)) (backToKw pos (keywordEach [] X.env))) := by rfl) :
    PE X (.Call (.Attribute o m apos) (e :: es) [] pos) (tD F W (mtB c m n f go g)) := by
  obtain ⟨fd, G, hk, hb⟩ := G
  exact ob_meth (pl := pl) hK he cl hm G tk (hr.mono hj) hb ha hst hpl ht
theorem ok_make {f : Gm} {g : M (List OV)} (hK : F.K = X.K) (M : Mk X.K (He.ga X.K c) a) (G : OkF X.prog X.w X.K X.mg X.base k a ps (spS X.K n f)) (tk : Takes X W) (hr : Room j X.A) (hj : k + 1 ≤ j) (hm : X.mg x = some (.ref (He.ga X.K c))) (ha : PA X (e :: es) (tOA F W g))
    (hg : Gl X x := by rfl) (hdb : (x == ("__debug__" : Str)) = false := by decide) (he : starEach (e :: es) X.env = (false, eval e X.env) :: starEach es X.env := by rfl) (hpl : (backTo pos (starEach es X.env)).any (·.1) = false := by rfl) :
    PE X (.Call (.Name x p) (e :: es) [] pos) (tO F W (mkS c n f g)) := by
  obtain ⟨fd, G, hk, hb⟩ := G
  exact oe_make hK M G tk (hr.mono hj) hm hb ha hg hdb he hpl
theorem ok_make0 {f : Gm} (hK : F.K = X.K) (M : Mk X.K (He.ga X.K c) a) (G : OkF X.prog X.w X.K X.mg X.base k a ps (spS X.K n f)) (tk : Takes X W) (hr : Room j X.A) (hj : k + 1 ≤ j) (hm : X.mg x = some (.ref (He.ga X.K c)))
    (hg : Gl X x := by rfl) (hdb : (x == ("__debug__" : Str)) = false := by decide) : PE X (.Call (.Name x p) [] [] pos) (tO F W (mkS c n f nilO)) := by
  obtain ⟨fd, G, hk, hb⟩ := G
  exact oe_make0 hK M G tk (hr.mono hj) hm hb hg hdb
theorem pe_callLS {f : Addr} {fd : FuncData} {sp : Sp} {i : Nat} {t : TA} (G : FnOk X.prog X.w X.K X.mg X.base (L2.CX X.prog X.w) k f fd ps sp) (hr : Room k X.A) (hN : X.N[i]? = some x) (hv : Vis X.env.scope x) (hk : PySem.W.keepIn X.K (.ref f) = true) (hb : Binds X.K fd ps []) (tk : Takes X W) (ha : PA X (e :: es) t)
    (hdb : (x == ("__debug__" : Str)) = false := by decide) (hcd : (x == ("__classdict__" : Str)) = false := by decide)
    (he : starEach (e :: es) X.env = (false, eval e X.env) :: starEach es X.env := by rfl) (hpl : (backTo pos (starEach es X.env)).any (·.1) = false := by rfl) : PE X (.Call (.Name x p) (e :: es) [] pos) (fun σ H Q => σ[i]? = some (some (.ref f)) ∧ t σ H fun vs H1 => sp vs H1 Q (WE W σ)) := by
  refine ⟨fun pins s σ H Q I h => ?_⟩
  obtain ⟨hs, ht⟩ := h
  refine wpAny_Call_Name_kw (thn ((pe_var (pos := p) hN hv hdb hcd).run pins s σ H (fun v H1 => v = .ref f ∧ H1 = H) I ⟨.ref f, hs, rfl, rfl⟩) fun u s1 ⟨v, H1, I1, r1, q1⟩ => ?_)
  obtain ⟨rfl, rfl⟩ := q1
  cases r1
  refine PySem.W.callWith_K (h₀ := X.base) I.ok.mod.kin hk (thn (ha.run pos pins s1 σ _ _ I1 ht) fun us s2 ⟨vs, H2, I2, r, q⟩ => ⟨I2.kIn, ?_⟩) he hpl
  exact run_fnS G hr hb (passAt tk σ) I2 r q
def cl2F (i : Nat) (x1 : Str) (f1 : Fm) (x2 : Str) (f2 : Fm) (n : Nat) (g : EvA) : Ev := fun ρ => match ρ.sl[i]? with
  | some (.v (.fn y)) => if y == x1 then clF n f1 g ρ else if y == x2 then clF n f2 g ρ else none
  | _ => none
theorem PE.or {ex : Expr} {t t' : TE} (h : PE X ex t) (h' : PE X ex t') : PE X ex (fun σ H Q => t σ H Q ∨ t' σ H Q) := ⟨fun pins s σ H Q I hw => hw.elim (h.run pins s σ H Q I) (h'.run pins s σ H Q I)⟩
theorem dk_call2 {i k1 k2 : Nat} {x1 x2 : Str} {ps1 ps2 : List Str} {f1 f2 : Fm} {g : EvA} (hK : F.K = X.K) (G1 : OkF X.prog X.w X.K X.mg X.base k1 (He.ga X.K x1) ps1 (spF X.K n f1)) (G2 : OkF X.prog X.w X.K X.mg X.base k2 (He.ga X.K x2) ps2 (spF X.K n f2)) (tk : Takes X W) (hr : Room j X.A) (h1 : k1 ≤ j) (h2 : k2 ≤ j) (ha : PA X (e :: es) (tDA F W g))
    (hN : X.N[i]? = some x := by rfl) (hv : Vis X.env.scope x := by first | exact Or.inl rfl | exact Or.inr (Or.inl rfl) | exact Or.inr (Or.inr rfl)) (hdb : (x == ("__debug__" : Str)) = false := by decide) (hcd : (x == ("__classdict__" : Str)) = false := by decide)
    (he : starEach (e :: es) X.env = (false, eval e X.env) :: starEach es X.env := by rfl) (hpl : (backTo pos (starEach es X.env)).any (·.1) = false := by rfl) : PE X (.Call (.Name x p) (e :: es) [] pos) (tD F W (cl2F i x1 f1 x2 f2 n g)) := by
  obtain ⟨fd1, G1, hk1, hb1⟩ := G1
  obtain ⟨fd2, G2, hk2, hb2⟩ := G2
  refine (PE.or (pe_callLS (i := i) (t := tDA F W g) (pos := pos) (p := p) G1 (hr.mono h1) hN hv hk1 hb1 tk ha hdb hcd he hpl) (pe_callLS (i := i) (t := tDA F W g) G2 (hr.mono h2) hN hv hk2 hb2 tk ha hdb hcd he hpl)).imp fun σ H Q ⟨N, ρ, r, ρ', R, e, kk⟩ => ?_
  unfold cl2F at e
  split at e
  · rename_i y hy
    obtain ⟨v, h3, h4⟩ := R.val i _ hy
    cases h4
    rw [hK] at h3
    split at e
    · rename_i q
      rw [beq_iff_eq.mp q] at h3
      refine .inl ⟨h3, tM_bind R e kk fun ds ρ1 vs H1 N1 R1 r1 e1 m1 k1 => ?_⟩
      obtain ⟨h5, h6, rfl⟩ := clF_some e1
      exact spF_call hK R1 r1 h5 h6 k1
    · split at e
      · rename_i q
        rw [beq_iff_eq.mp q] at h3
        refine .inr ⟨h3, tM_bind R e kk fun ds ρ1 vs H1 N1 R1 r1 e1 m1 k1 => ?_⟩
        obtain ⟨h5, h6, rfl⟩ := clF_some e1
        exact spF_call hK R1 r1 h5 h6 k1
      · cases e
  · cases e
end
theorem mk_ok {P : Program} {w : World} {K : PySem.W.Frag} {mg : Str → Option Value} {base : Heap} {d : He.DefD} {ns ps : List Str} {k : Nat} {f : Sv} (G : ∃ fd, FunD K d.name d.qual d.params d.body d.scope [] [] (He.fAd K d.at_) fd) (S : FnScope ns ps d.scope)
    (hb : ∀ fd, FunD K d.name d.qual d.params d.body d.scope [] [] (He.fAd K d.at_) fd → Binds K fd ps [])
    (h : ∀ (cdv : Value) (A : Around) (outer : List Env) (s : Shared) (H : Hp) (E : XK) (F : Fx), F.K = K → Room k (A.deeper (envOfC d.qual d.scope s.heap.objs.size (He.fAd K d.at_) cdv)) →
      PSs (cxOf (L2.CX P w) P w K mg base ns d.qual d.scope (He.fAd K d.at_) cdv A outer s H E) d.body (tDS F (fun cls d _ H => E cls d H) f)) :
    OkF P w K mg base (k + 1) (He.fAd K d.at_) ps (spF K ps.length (bodyF ns.length f)) ∧ OkF P w K mg base (k + 1) (He.fAd K d.at_) ps (spS K ps.length (bodyS ns.length f)) := by
  obtain ⟨fd, G⟩ := G
  exact ⟨⟨fd, fun_ok G S h, G.kp, hb fd G⟩, ⟨fd, fun_okS G S h, G.kp, hb fd G⟩⟩
theorem OkF.mono {P : Program} {w : World} {K : PySem.W.Frag} {mg : Str → Option Value} {base : Heap} {j k : Nat} {a : Addr} {ps : List Str} {sp : Sp} (h : OkF P w K mg base j a ps sp) (hj : j ≤ k) : OkF P w K mg base k a ps sp := let ⟨fd, G, a, b⟩ := h; ⟨fd, G.mono hj, a, b⟩
theorem ok_none {P : Program} {w : World} {K : PySem.W.Frag} {mg : Str → Option Value} {base : Heap} {d : He.DefD} {ps : List Str} {k n : Nat} (G : ∃ fd, FunD K d.name d.qual d.params d.body d.scope [] [] (He.fAd K d.at_) fd)
    (hb : ∀ fd, FunD K d.name d.qual d.params d.body d.scope [] [] (He.fAd K d.at_) fd → Binds K fd ps []) : OkF P w K mg base k (He.fAd K d.at_) ps (spF K n fun _ => none) := let ⟨fd, G⟩ := G; ⟨fd, fn_never, G.kp, hb fd G⟩
def par3S (i j l : Nat) (f : EvA) : Sv := stM f fun ds ρ => match ds with
  | [a, b, c] => some (.nx (((ρ.set i (.v a)).set j (.v b)).set l (.v c)))
  | _ => none
theorem o_ipadd {K : PySem.W.Frag} : Op2 K (ipI fun i j => i + j) (gI fun i j => some (.int (i + j))) := fun N H x y a b c Q nin ra rb e k => by
  cases ra with
  | int i =>
    cases rb with
    | int j => cases e; exact ⟨i, j, rfl, rfl, k _ _ (Same.refl _) (.int _)⟩
    | _ => cases e
  | _ => cases e
theorem o_radd {K : PySem.W.Frag} : Op2 K rAdd (gI fun i j => some (.int (i + j))) := fun N H x y a b c Q nin ra rb e k => by
  cases ra with
  | int i =>
    cases rb with
    | int j => cases e; exact ⟨i, j, rfl, rfl, k _ _ (Same.refl _) (.int _)⟩
    | _ => cases e
  | _ => cases e
theorem hu65 {k : Nat} (hr : Room k X.A) : X.A.units + 65 < cLine := by have := hr.un; omega
theorem hu1 {k : Nat} (hr : Room k X.A) : X.A.units + 1 < cLine := by have := hr.un; omega
end
end LP

set_option maxRecDepth 100000
set_option maxHeartbeats 1000000
namespace LP
open PySem PySem.Spec
open PyProof.Rows hiding St
open L2
set_option autoImplicit false
section
variable {X : Cx} {F : Fx} {W : WX}
def gAddI : D → D → Option D := gI fun i j => some (.int (i + j))
def negF (f : Ev) : Ev := bnd f fun d => optM (match d with
  | .int i => some (.int (-i))
  | _ => none)
theorem de_neg {a : Expr} {f : Ev} {pos : Pos} (h : PE X a (tD F W f)) : PE X (.UnaryOp .USub a pos) (tD F W (negF f)) := (pe_un un_neg h).imp fun σ H Q ⟨N, ρ, c, ρ', R, e, k⟩ => tM_bind R e k fun a ρ1 x H1 N1 R1 r1 e1 m1 k1 => by
  obtain ⟨c, e3, rfl, rfl⟩ := optM_some e1
  split at e3
  · cases r1
    cases e3
    exact ⟨_, rfl, k1.fin R1 (.int _)⟩
  · cases e3
theorem ot_din {i o : Expr} {m1 m2 : Ex} {pos : Pos} (hu : X.A.units + 1 < cLine) (hi : PE X i (tO F W m1)) (ho : PE X o (tO F W m2)) (hm : behindInMarks .In o = false) : PT X (.Compare i [.In] [o] pos) (tDT F W (tF (dinB false m1 m2))) :=
  (pt_cmp (pc_din hu hi ho) hm).imp fun σ H Q h => tB_of (te := tDIn (tO F W m1) (tO F W m2)) (fun Q h => din_of (neg := false) h) h
theorem ot_dnotin {i o : Expr} {m1 m2 : Ex} {pos : Pos} (hu : X.A.units + 1 < cLine) (hi : PE X i (tO F W m1)) (ho : PE X o (tO F W m2)) (hm : behindInMarks .NotIn o = false) : PT X (.Compare i [.NotIn] [o] pos) (tDT F W (tF (dinB true m1 m2))) :=
  (pt_cmp (pc_dnotin hu hi ho) hm).imp fun σ H Q h => tB_of (te := tDNotIn (tO F W m1) (tO F W m2)) (fun Q h => din_of (neg := true) h) h
theorem dt_tin {ks : List (List Nat)} {x : Str} {i : Expr} {f : Ev} {pos p : Pos} (hm : X.mg x = some (.ref (He.ga X.K x))) (hd : He.dicW X.K (He.ga X.K x) = some (He.keysIn X.w.params (ks.map fun s => ⟨⟨s⟩⟩))) (hi : PE X i (tD F W f)) (hg : Gl X x := by rfl) (hdb : (x == ("__debug__" : Str)) = false := by decide) :
    PT X (.Compare i [.In] [.Name x p] pos) (tDT F W (tF (tinF false ks f))) := by
  obtain ⟨es, n, kd⟩ := He.dicW_ok hd
  exact dt_of (pt_cmpR (op_in_kd kd) hi (pe_glob hg hm (v := .ref (He.ga X.K x)) rfl hdb) rfl) fun σ H Q h => tin_of hd h
def fzV (i : Nat) : Ev := fun ρ => match ρ.sl[i]? with
  | some (.v d) => some (.ok d, ρ)
  | some (.o id) => (match dpO ρ (.o id) with
    | some (d, is) => some (.ok d, ⟨ρ.sl.set i (.v d), kill ρ.ob is⟩)
    | none => none)
  | _ => none
theorem de_fzV {i : Nat} {e : Expr} (h : PE X e (tVar i)) : PE X e (tD F W (fzV i)) := h.imp fun σ H Q ⟨N, ρ, r, ρ', R, e, k⟩ => by
  unfold fzV at e
  split at e
  · rename_i d' h'
    cases e
    obtain ⟨v, h1, r⟩ := R.val i _ h'
    exact ⟨v, h1, k.fin R r⟩
  · rename_i id h'
    split at e
    · rename_i d is hd
      cases e
      obtain ⟨h1, h2⟩ := R.obj i _ h'
      have hi := deep_ids _ _ d is hd
      have rd := off_rep (n := ρ.ob.length + 1) (x := .o id) R.ht ⟨rfl, h2⟩ hd
      have R1 := (R.step (Mv.off R.ht hi) (R.ht.off hi)).set (i := i) rd
      refine ⟨_, h1, k.st (Mv.off R.ht hi) ?_ rd⟩
      have es : σ.set i (some (V.ref (N.al id))) = σ := by
        apply List.ext_getElem?
        intro j
        by_cases z : i = j
        · subst z
          rw [List.getElem?_set_self (lt_of_some h1), h1]
        · rw [List.getElem?_set_ne z]
      rw [es] at R1
      exact R1
    · cases e
  · cases e
end
section
variable {F : Fx} {K : PySem.W.Frag}
theorem o_addH (h : F.K = K) : Op2 F.K (rAdd4 K) gAdd := by rw [h]; exact o_add
theorem o_eqH (h : F.K = K) : Op2 F.K (rEqA K) gEq := by rw [h]; exact o_eq
theorem o_neH (h : F.K = K) : Op2 F.K (rNeA K) gNe := by rw [h]; exact o_ne
theorem o_inH (h : F.K = K) : Op2 F.K (rInA K) gIn := by rw [h]; exact o_in
theorem o_notInH (h : F.K = K) : Op2 F.K (rNotInA K) gNotIn := by rw [h]; exact o_notIn
theorem o_ixH (h : F.K = K) : Op2 F.K (rIx K) gIx := by rw [h]; exact o_ix
theorem o_lenH (h : F.K = K) : OpN F.K (rLenA K) gLen := by rw [h]; exact o_len
theorem o_isiH (h : F.K = K) : OpN F.K (rIsiA K) gIsi := by rw [h]; exact o_isi
theorem o_allH (h : F.K = K) : OpN F.K (rAll K) gAll := by rw [h]; exact o_all
theorem o_anyH (h : F.K = K) : OpN F.K (rAny K) gAny := by rw [h]; exact o_any
theorem o_sumH (h : F.K = K) : OpN F.K (rSum K) gSum := by rw [h]; exact o_sum
theorem o_tupleH (h : F.K = K) : OpN F.K (fun xs H Q => ∃ p ys, xs = [.ref p] ∧ ((SqL K H p ys ∧ ∀ l, H l = none → Q (.ref l) (upd H l (.tup ys))) ∨ (SqT K H p ys ∧ Q (.ref p) H))) gTuple := by rw [h]; exact o_tuple
theorem o_listH (h : F.K = K) : OpN F.K (fun xs H Q => ∃ p ys, xs = [.ref p] ∧ (SqL K H p ys ∨ SqT K H p ys) ∧ ∀ l, H l = none → Q (.ref l) (upd H l (.lst ys))) gList := by rw [h]; exact o_list
theorem m_joinH (h : F.K = K) : OpM F.K "str" (fun x xs H Q => ∃ a p, ∃ ys : List Str, x = .str a ∧ xs = [.ref p] ∧ (SqL K H p (ys.map V.str) ∨ SqT K H p (ys.map V.str)) ∧
    (ys.map (·.length)).sum + ys.length * a.length ≤ 16777216 ∧ Q (.str (Txt.join a ys)) H) isStr gJoin := by rw [h]; exact m_join
theorem og_tupH {n : Nat} {is : List Nat} {u : TGs} {g : TgL} (h : F.K = K) (b : OpGs F is u g) : OpG F is (gTup K n u) (tpG n g) := by rw [← h]; exact og_tup b
end
end LP

set_option maxRecDepth 100000
set_option maxHeartbeats 1000000
namespace LP
open PySem PySem.Spec PySem.W
open PyProof.Rows hiding St
set_option autoImplicit false
def iBat : List Stmt → Option PySem.FwX.IPos
  | [.Expr (.Call (.Attribute (.Call (.Name x s0) [] [] s1) y s2) [.Name z s3] [] s4) s5, .Assign [.Attribute (.Name u q1) v q2] (.Name t q3) q4] =>
    if decide (x = "super") && (decide (y = "__init__") && (decide (z = "at") && (decide (u = "self") && (decide (v = "at") && decide (t = "at"))))) then some ⟨s0, s1, s2, s3, s4, s5, q1, q2, q3, q4⟩ else none
  | _ => none
theorem iBat_ok {b : List Stmt} {q : PySem.FwX.IPos} (h : iBat b = some q) : b = PySem.FwX.iB q := by
  unfold iBat at h
  split at h
  · rename_i x s0 s1 y s2 z s3 s4 s5 u q1 v q2 t q3 q4
    split at h
    · rename_i hc
      cases h
      obtain ⟨h1, hc⟩ := He.ba hc
      obtain ⟨h2, hc⟩ := He.ba hc
      obtain ⟨h3, hc⟩ := He.ba hc
      obtain ⟨h4, hc⟩ := He.ba hc
      obtain ⟨h5, h6⟩ := He.ba hc
      rw [of_decide_eq_true h1, of_decide_eq_true h2, of_decide_eq_true h3, of_decide_eq_true h4, of_decide_eq_true h5, of_decide_eq_true h6]
      rfl
    · cases h
  · cases h
def iAat : Arguments → Option (Pos × Pos)
  | ⟨[], [⟨x, none, p1⟩, ⟨y, none, p2⟩], none, [], [], none, []⟩ => if decide (x = "self") && decide (y = "at") then some (p1, p2) else none
  | _ => none
theorem iAat_ok {a : Arguments} {p : Pos × Pos} (h : iAat a = some p) : a = PySem.FwX.iA p.1 p.2 := by
  unfold iAat at h
  split at h
  · rename_i x p1 y p2
    split at h
    · rename_i hc
      cases h
      obtain ⟨h1, h2⟩ := He.ba hc
      rw [of_decide_eq_true h1, of_decide_eq_true h2]
      rfl
    · cases h
  · cases h
def clsB (K : Frag) (C : Addr) : Bool := match K.lookup C with
  | some ⟨.type c, _, .cls cd, sl⟩ => (match cd.mro, sl.toList with
    | .ref C' :: bm, [_, _, _, _, some (.builtin n), _] => decide (c = "type") && (decide (C' = C) && (decide (n = "ValueError.__new__") && (!cd.hasDel && (cd.hasDict && PySem.HandSPX.refsVE bm))))
    | _, _ => false)
  | _ => false
theorem clsB_ok {K : Frag} {C : Addr} (h : clsB K C = true) : ∃ nm q N bs bm sn sub ab col dd k0 k1 k2 k3 k5, K.lookup C = some (excClassObj nm q C N bs bm true sn sub ab col dd k0 k1 k2 k3 k5 "ValueError.__new__") ∧ PySem.HandSPX.refsVE bm = true := by
  unfold clsB at h
  split at h
  · rename_i c dd cd sl ho
    split at h
    · rename_i C' bm k0 k1 k2 k3 n k5 hm hs
      obtain ⟨h1, h⟩ := He.ba h
      obtain ⟨h2, h⟩ := He.ba h
      obtain ⟨h3, h⟩ := He.ba h
      obtain ⟨h4, h⟩ := He.ba h
      obtain ⟨h5, h6⟩ := He.ba h
      have e1 := of_decide_eq_true h1
      have e2 := of_decide_eq_true h2
      have e3 := of_decide_eq_true h3
      obtain ⟨nm, bs, mro, ns, qn, hd, sn, sub, ab, col, del⟩ := cd
      dsimp only at hm h4 h5
      obtain ⟨l⟩ := sl
      dsimp only at hs
      subst e1 e2 e3 hm hs
      have h5 : hd = true := h5
      have h4 : del = false := by cases del <;> first | rfl | cases h4
      subst h4 h5
      exact ⟨nm, qn, ns, bs, bm, sn, sub, ab, col, dd, k0, k1, k2, k3, k5, ho, h6⟩
    · cases h
  · cases h
def fileB (K : Frag) (f : Str) (cda : Addr) : Bool := match K.lookup cda with
  | some ⟨_, _, .fields vs, _⟩ => (match (vs[2]? : Option Value) with
    | some (Value.str file _) => f == file
    | _ => false)
  | _ => false
theorem fileB_ok {K : Frag} {f : Str} {cda : Addr} (h : fileB K f cda = true) : ∃ ccl cdd vs ccs file tf, K.lookup cda = some ⟨ccl, cdd, .fields vs, ccs⟩ ∧ vs[2]? = some (.str file tf) ∧ (f == file) = true := by
  unfold fileB at h
  split at h
  · rename_i a b vs c ho
    split at h
    · rename_i file tf hv
      exact ⟨_, _, vs, _, file, tf, ho, hv, h⟩
    · cases h
  · cases h
def cellIn (K : Frag) (cc D : Addr) : Bool := match K.lookup cc with
  | some ⟨_, _, .cell (some (.ref d)), _⟩ => decide (d = D)
  | _ => false
theorem cellIn_ok {K : Frag} {cc D : Addr} (h : cellIn K cc D = true) : ∃ cl cld csl, K.lookup cc = some ⟨cl, cld, .cell (some (.ref D)), csl⟩ := by
  unfold cellIn at h
  split at h
  · rename_i a b d c ho
    have := of_decide_eq_true h
    subst this
    exact ⟨_, _, _, ho⟩
  · cases h
def initB (K : Frag) (file : Str) (D fI : Addr) : Bool := match K.lookup fI with
  | some ⟨_, _, .func fd, _⟩ => (match fd.body, fd.closure, fd.code, fd.defaults, fd.kwdefaults with
    | .stmts b, [(x, cc)], .ref cda, .none, .none => decide (fd.name = "__init__") && (decide (fd.qualname = "CellError.__init__") && (decide (fd.globals = mainGlobals) && (decide (fd.builtins = builtinsNs) && (decide (fd.scope = PySem.FwX.iS) && (decide (x = "__class__") &&
      ((iAat fd.params).isSome && ((match iBat b with | some q => (q.s2.endLine == q.s4.line) | none => false) && (codeIn K (.ref cda) "CellError.__init__" && (fileB K file cda && cellIn K cc D)))))))))
    | _, _, _, _, _ => false)
  | _ => false
theorem initB_ok {P : Program} {K : Frag} {D fI : Addr} (h : initB K P.main.file D fI = true) : ∃ (oc : Value) (od : Option Addr) (doc pm : Value) (an : Option Addr) (cda cc : Addr) (ct : Value) (osl : Array (Option Value)) (p1 p2 : Pos) (q : PySem.FwX.IPos),
    K.lookup fI = some ⟨oc, od, .func (ksFn "__init__" "CellError.__init__" (PySem.FwX.iA p1 p2) (PySem.FwX.iB q) PySem.FwX.iS .none .none doc pm an (.ref cda) ct cc), osl⟩ ∧ codeIn K (.ref cda) "CellError.__init__" = true ∧ (q.s2.endLine == q.s4.line) = true ∧
    (∃ ccl cdd vs ccs file tf, K.lookup cda = some ⟨ccl, cdd, .fields vs, ccs⟩ ∧ vs[2]? = some (.str file tf) ∧ ((P.main.file : Str) == file) = true) ∧
    ∃ cl cld csl, K.lookup cc = some ⟨cl, cld, .cell (some (.ref D)), csl⟩ := by
  unfold initB at h
  split at h
  · rename_i oc od fd osl ho
    obtain ⟨n1, n2, n3, n4, n5, n6, n7, n8, n9, n10, n11, n12, n13, n14, n15⟩ := fd
    dsimp only at h
    split at h
    · rename_i b x cc cda
      obtain ⟨h1, h⟩ := He.ba h
      obtain ⟨h2, h⟩ := He.ba h
      obtain ⟨h3, h⟩ := He.ba h
      obtain ⟨h4, h⟩ := He.ba h
      obtain ⟨h5, h⟩ := He.ba h
      obtain ⟨h6, h⟩ := He.ba h
      obtain ⟨h7, h⟩ := He.ba h
      obtain ⟨h8, h⟩ := He.ba h
      obtain ⟨h9, h⟩ := He.ba h
      obtain ⟨h10, h11⟩ := He.ba h
      have e1 := of_decide_eq_true h1
      have e2 := of_decide_eq_true h2
      have e3 := of_decide_eq_true h3
      have e4 := of_decide_eq_true h4
      have e5 := of_decide_eq_true h5
      have e6 := of_decide_eq_true h6
      subst e1 e2 e3 e4 e5 e6
      obtain ⟨p, hp⟩ := Option.isSome_iff_exists.mp h7
      have ep := iAat_ok hp
      subst ep
      split at h8
      · rename_i q hq
        have eq := iBat_ok hq
        subst eq
        exact ⟨oc, od, n10, n11, n12, cda, cc, n14, osl, p.1, p.2, q, ho, h9, h8, fileB_ok h10, cellIn_ok h11⟩
      · cases h8
    · cases h
  · cases h
def cellX (file : Str) (x : Str) (K : Frag) : Bool :=
  let C := He.ga K x; let D := He.ga K "CellError"; let fI := He.ma K C "__init__"
  clsB K C && (He.eqO (findIn K (.ref C) "__setattr__") (some (some (.builtin "object.__setattr__"))) && (He.eqO (findIn K (.ref C) "__getattribute__") (some (some (.builtin "BaseException.__getattribute__"))) &&
  (He.eqO (findIn K (.ref C) "__getattr__") (some none) && (He.eqO (findIn K (.ref C) "at") (some none) && (He.eqO (findIn K (.ref C) "__init__") (some (some (.ref fI))) && (decide (typeIn K (.ref fI) = some (.type "function")) &&
  (keepIn K (.ref C) && (decide (subIn K (.ref C) (.type "BaseException") = some true) && (decide (typeIn K (.ref C) = some (.type "type")) && (hasDictIn K C && (decide (subIn K (.ref C) (.type "ValueError") = some true) &&
  (He.eqO (ks_superIn K C D "__init__") (some (some (.builtin "ValueError.__init__"))) && (decide (mroIn K C (.ref D) = some true) && ((clsIn K D).isSome && (He.eqO (nsIn K mainGlobals "super") (some none) && (He.eqO (nsIn K cStatics "thirdparty.any") (some none) && initB K file D fI))))))))))))))))
theorem cellX_ok {P : Program} {K : Frag} {x : Str} (h : cellX P.main.file x K = true) : PySem.FwX.CellTxt P K (He.ga K x) (He.ga K "CellError") (He.ma K (He.ga K x) "__init__") := by
  unfold cellX at h
  dsimp only at h
  obtain ⟨h1, h⟩ := He.ba h
  obtain ⟨h2, h⟩ := He.ba h
  obtain ⟨h3, h⟩ := He.ba h
  obtain ⟨h4, h⟩ := He.ba h
  obtain ⟨h5, h⟩ := He.ba h
  obtain ⟨h6, h⟩ := He.ba h
  obtain ⟨h7, h⟩ := He.ba h
  obtain ⟨h8, h⟩ := He.ba h
  obtain ⟨h9, h⟩ := He.ba h
  obtain ⟨h10, h⟩ := He.ba h
  obtain ⟨h11, h⟩ := He.ba h
  obtain ⟨h12, h⟩ := He.ba h
  obtain ⟨h13, h⟩ := He.ba h
  obtain ⟨h14, h⟩ := He.ba h
  obtain ⟨h15, h⟩ := He.ba h
  obtain ⟨h16, h⟩ := He.ba h
  obtain ⟨h17, h18⟩ := He.ba h
  exact ⟨clsB_ok h1, He.eqO_ok h2, He.eqO_ok h3, He.eqO_ok h4, He.eqO_ok h5, He.eqO_ok h6, of_decide_eq_true h7, h8, of_decide_eq_true h9, of_decide_eq_true h10, h11, of_decide_eq_true h12, He.eqO_ok h13, of_decide_eq_true h14, Option.isSome_iff_exists.mp h15, He.eqO_ok h16, He.eqO_ok h17, initB_ok h18⟩
def CXall (P : Program) : L2.CXT := fun outer H s E u s' => ∃ w, L2.CX P w outer H s E u s'
theorem fn_all {P : Program} {w : World} {K : Frag} {mg : Str → Option Value} {base : Heap} {k : Nat} {a : Addr} {fd : FuncData} {ps : List Str} {sp : L2.Sp} (G : L2.FnOk P w K mg base (L2.CX P w) k a fd ps sp) : L2.FnOk P w K mg base (CXall P) k a fd ps sp :=
  ⟨G.len, fun A outer s H args us vs Q E h1 h2 h3 h4 h5 => codeAny_mono (G.run A outer s H args us vs Q E h1 h2 h3 h4 h5) fun r s' q => by
    cases r with
    | error e => exact ⟨w, q⟩
    | ok f => cases f <;> exact q⟩
theorem all_never {P : Program} : ∀ (H : L2.Hp) (s : Shared) (e : Value) (s' : Shared), CXall P [] H s (fun _ _ _ => False) e s' → False := fun H s e s' ⟨w, a, B, H', cls, d, h⟩ => h.2.2.2.2.2.2.2
def asC (g : Addr → Option Obj) (n : Nat) : List Addr := He.asD g n ++ [PySem.cStatics]
abbrev AlY : Type := He.AlT × Bool
def obsY (n : Nat) (fa : List He.Fa) (fn : List He.DefD) (ts : List He.Tab) (ex : Frag → Bool) (g : Addr → Option Obj) : AlY := (He.obsT fa fn ts (He.frT g (asC g n)), ex (He.frT g (asC g n)))
def hookY (n : Nat) (fa : List He.Fa) (fn : List He.DefD) (ts : List He.Tab) (ex : Frag → Bool) : PySem.W.Hook where
  α := AlY
  obs := fun s => obsY n fa fn ts ex s.heap.get?
  val := fun w => (He.valT fn ts w, true)
  says := fun w h => ∃ K : PySem.W.Frag, K.In h ∧ He.SaysT fa fn ts w K ∧ ex K = true
  of := fun _ _ e => ⟨_, He.frT_in, congrArg (fun z : AlY => z.1) e, congrArg (fun z : AlY => z.2) e⟩
  keeps := fun _ _ _ ⟨K, hK, c⟩ k => ⟨K, PySem.W.Frag.In.keeps hK k, c⟩
theorem obsY_eq {n : Nat} {fa : List He.Fa} {fn : List He.DefD} {ts : List He.Tab} {ex : Frag → Bool} {g : Addr → Option Obj} {s : Shared} (h : ∀ a, g a = s.heap.get? a) : obsY n fa fn ts ex g = (hookY n fa fn ts ex).obs s := by
  have e : g = s.heap.get? := funext h
  rw [e] <;> rfl
end LP

set_option maxRecDepth 100000
set_option maxHeartbeats 4000000
namespace LP
open PySem PySem.Spec
open PyProof.Rows hiding St
open L2
set_option autoImplicit false
def mDraw : Sv := (seqS (ifS (andF (tF (bB gEq (ixO (ovr 0) (cF (.int 2))) (vO (cF (.int 0))))) (tF (bB gLt (ixO (ovr 0) (cF (.int 1))) (vO (cbB gLen (consO (ixO (ovr 0) (cF (.int 0))) nilO)))))) (seqS (stS 2 (fzF (ixO (ixO (ovr 0) (cF (.int 0))) (fzF (ixO (ovr 0) (cF (.int 1))))))) (seqS (tgX (vO (bB gAdd (ixO (ovr 0) (cF (.int 1))) (vO (cF (.int 1))))) (isG (ovr 0) (cF (.int 1)))) (seqS (ifS (tF (bF gGe (vF 2) (bF gPow (cF (.int 10)) (cF (.int 18))))) (tgX (vO (vF 2)) (isG (ovr 0) (cF (.int 2)))) nxS) (tgX (vO (bF gMod (cbF gInt (consF (bF gAdd (bF gAdd (bB gMul (ixO (ovr 0) (cF (.int 3))) (vO (cF (.int 48271)))) (vF 2)) (cF (.int 13))) nilF)) (cF (.int 2147483647)))) (isG (ovr 0) (cF (.int 3))))))) nxS) (seqS (ifS (tF (bB gGt (ixO (ovr 0) (cF (.int 2))) (vO (cF (.int 0))))) (seqS (stS 3 (bF gMod (cbB gInt (consO (ixO (ovr 0) (cF (.int 2))) nilO)) (vF 1))) (seqS (tgX (vO (bB gFdiv (ixO (ovr 0) (cF (.int 2))) (vO (vF 1)))) (isG (ovr 0) (cF (.int 2)))) (rtS (vF 3)))) nxS) (seqS (tgX (vO (bF gMod (cbF gInt (consF (bF gAdd (bB gMul (ixO (ovr 0) (cF (.int 3))) (vO (cF (.int 69621)))) (cF (.int 7))) nilF)) (cF (.int 2147483629)))) (isG (ovr 0) (cF (.int 3)))) (rtS (bF gMod (cbF gInt (consF (bB gFdiv (ixO (ovr 0) (cF (.int 3))) (vO (cF (.int 11)))) nilF)) (vF 1))))))
def OB (ns : List Int) (p b s : Int) (rest : List (Option Node)) : List (Option Node) :=
  some (.lst (ns.map fun i => .d (.int i))) :: some (.lst [.o 0, .d (.int p), .d (.int b), .d (.int s)]) :: rest
theorem seq_nx {f g : Sv} {ρ ρ1 : Ro} (h : f ρ = some (.nx ρ1)) : seqS f g ρ = g ρ1 := by unfold seqS; rw [h]
theorem seq_rt {f g : Sv} {ρ ρ1 : Ro} {x : OV} (h : f ρ = some (.rt x ρ1)) : seqS f g ρ = some (.rt x ρ1) := by unfold seqS; rw [h]
theorem st_ok {α : Type} {m : M α} {k : α → Sv} {ρ ρ1 : Ro} {a : α} (h : m ρ = some (Res.ok a, ρ1)) : stM m k ρ = k a ρ1 := by unfold stM; rw [h]
theorem bnd_ok {α β : Type} {m : M α} {k : α → M β} {ρ ρ1 : Ro} {a : α} (h : m ρ = some (Res.ok a, ρ1)) : bnd m k ρ = k a ρ1 := by unfold bnd; rw [h]
theorem if_t {t : EvT} {f g : Sv} {ρ ρ1 : Ro} {b : Bool} (h : t ρ = some (Res.ok b, ρ1)) : ifS t f g ρ = (if b then f else g) ρ1 := st_ok h
section
variable {ns : List Int} {p b s : Int} {rest : List (Option Node)} {L : Int} {x2 x3 : Sl}
def stA : Sv := (ifS (andF (tF (bB gEq (ixO (ovr 0) (cF (.int 2))) (vO (cF (.int 0))))) (tF (bB gLt (ixO (ovr 0) (cF (.int 1))) (vO (cbB gLen (consO (ixO (ovr 0) (cF (.int 0))) nilO)))))) (seqS (stS 2 (fzF (ixO (ixO (ovr 0) (cF (.int 0))) (fzF (ixO (ovr 0) (cF (.int 1))))))) (seqS (tgX (vO (bB gAdd (ixO (ovr 0) (cF (.int 1))) (vO (cF (.int 1))))) (isG (ovr 0) (cF (.int 1)))) (seqS (ifS (tF (bF gGe (vF 2) (bF gPow (cF (.int 10)) (cF (.int 18))))) (tgX (vO (vF 2)) (isG (ovr 0) (cF (.int 2)))) nxS) (tgX (vO (bF gMod (cbF gInt (consF (bF gAdd (bF gAdd (bB gMul (ixO (ovr 0) (cF (.int 3))) (vO (cF (.int 48271)))) (vF 2)) (cF (.int 13))) nilF)) (cF (.int 2147483647)))) (isG (ovr 0) (cF (.int 3))))))) nxS)
def ρD (ns : List Int) (p b s : Int) (rest : List (Option Node)) (L : Int) (x2 x3 : Sl) : Ro := ⟨[.o 1, .v (.int L), x2, x3], OB ns p b s rest⟩
theorem t1 : tF (bB gEq (ixO (ovr 0) (cF (.int 2))) (vO (cF (.int 0)))) (ρD ns p b s rest L x2 x3) = some (Res.ok (b == 0), ρD ns p b s rest L x2 x3) := rfl
theorem deepInts : ∀ (n : Nat) (ob : List (Option Node)) (l : List Int), deepL (deepO ob n) (l.map fun i => .d (.int i)) = some (l.map .int, [])
  | n, ob, [] => rfl
  | n, ob, i :: l => by
    show (match deepO ob n (.d (.int i)) with
      | some (d, is) => (match deepL (deepO ob n) (l.map fun i => .d (.int i)) with
        | some (ds, js) => some (d :: ds, is ++ js)
        | none => none)
      | none => none) = _
    rw [deepO_d, deepInts n ob l]
    rfl
theorem len0 : cbB gLen (consO (ixO (ovr 0) (cF (.int 0))) nilO) (ρD ns p b s rest L x2 x3) = some (Res.ok (.int ns.length), ρD ns p b s rest L x2 x3) := by
  have e : dpL (ρD ns p b s rest L x2 x3) [.o 0] = some [.lst (ns.map .int)] := by
    show (match deepL (deepO (OB ns p b s rest) (rest.length + 1 + 1 + 1)) [.o 0] with | some (ds, _) => some ds | none => none) = _
    have e1 : deepO (OB ns p b s rest) (rest.length + 1 + 1 + 1) (.o 0) = some (.lst (ns.map .int), [0]) := by
      show (match deepL (deepO (OB ns p b s rest) (rest.length + 1 + 1)) (ns.map fun i => .d (.int i)) with
        | some (ds, is) => some (D.lst ds, 0 :: is)
        | none => none) = _
      rw [deepInts]
    show (match (match deepO (OB ns p b s rest) (rest.length + 1 + 1 + 1) (.o 0) with
      | some (d, is) => some ([d], is ++ [])
      | none => none) with | some (ds, _) => some ds | none => none) = _
    rw [e1]
  have e2 : cbB gLen (consO (ixO (ovr 0) (cF (.int 0))) nilO) (ρD ns p b s rest L x2 x3) = (match dpL (ρD ns p b s rest L x2 x3) [.o 0] with
    | some ds => (match (gLen ds).bind okFlat with
      | some c => some (Res.ok c, ρD ns p b s rest L x2 x3)
      | none => none)
    | _ => none) := rfl
  rw [e2, e]
  show (match ((lenD (.lst (ns.map .int))).map fun n => D.int (n : Nat)).bind okFlat with
      | some c => some (Res.ok c, ρD ns p b s rest L x2 x3)
      | none => none) = _
  show (match some (D.int ((ns.map D.int).length : Nat)) with
      | some c => some (Res.ok c, ρD ns p b s rest L x2 x3)
      | none => none) = _
  rw [List.length_map]
theorem t2 : tF (bB gLt (ixO (ovr 0) (cF (.int 1))) (vO (cbB gLen (consO (ixO (ovr 0) (cF (.int 0))) nilO)))) (ρD ns p b s rest L x2 x3) = some (Res.ok (decide (p < ns.length)), ρD ns p b s rest L x2 x3) := by
  have e : vO (cbB gLen (consO (ixO (ovr 0) (cF (.int 0))) nilO)) (ρD ns p b s rest L x2 x3) = some (Res.ok (.d (.int ns.length)), ρD ns p b s rest L x2 x3) := bnd_ok len0
  have e1 : bB gLt (ixO (ovr 0) (cF (.int 1))) (vO (cbB gLen (consO (ixO (ovr 0) (cF (.int 0))) nilO))) (ρD ns p b s rest L x2 x3) = some (Res.ok (.bl (decide (p < ns.length))), ρD ns p b s rest L x2 x3) := by
    refine (bnd_ok (m := ixO (ovr 0) (cF (.int 1))) (a := .d (.int p)) (ρ1 := ρD ns p b s rest L x2 x3) rfl).trans ?_
    refine (bnd_ok e).trans ?_
    rfl
  exact (bnd_ok e1).trans rfl
theorem cell_at (hp : 0 ≤ p) (hl : p < ns.length) : ∃ c : Int, fzF (ixO (ixO (ovr 0) (cF (.int 0))) (fzF (ixO (ovr 0) (cF (.int 1))))) (ρD ns p b s rest L x2 x3) = some (Res.ok (.int c), ρD ns p b s rest L x2 x3) := by
  obtain ⟨n, rfl⟩ := Int.eq_ofNat_of_zero_le hp
  have hn : n < ns.length := by omega
  have ea : atI (ns.map fun i => OV.d (.int i)) ((n : Nat) : Int) = some (.d (.int ns[n])) := by
    unfold atI ixN
    rw [if_pos hp, if_pos (by rw [List.length_map]; exact hl)]
    show (ns.map fun i => OV.d (.int i))[(n : Int).toNat]? = _
    rw [Int.toNat_natCast, List.getElem?_map, List.getElem?_eq_getElem hn]
    rfl
  refine ⟨ns[n], ?_⟩
  have e : ixO (ixO (ovr 0) (cF (.int 0))) (fzF (ixO (ovr 0) (cF (.int 1)))) (ρD ns n b s rest L x2 x3) = some (Res.ok (.d (.int ns[n])), ρD ns n b s rest L x2 x3) := by
    have e2 : ixO (ixO (ovr 0) (cF (.int 0))) (fzF (ixO (ovr 0) (cF (.int 1)))) (ρD ns n b s rest L x2 x3) = (match atI (ns.map fun i => OV.d (.int i)) ((n : Nat) : Int) with
      | some y => some (Res.ok y, ρD ns n b s rest L x2 x3)
      | none => none) := rfl
    rw [e2, ea]
  exact (bnd_ok e).trans rfl
theorem stepA (hp : 0 ≤ p) (hb : 0 ≤ b) : ∃ p' b' s' x2', 0 ≤ p' ∧ 0 ≤ b' ∧ stA (ρD ns p b s rest L x2 x3) = some (.nx (ρD ns p' b' s' rest L x2' x3)) := by
  by_cases h1 : b = 0
  · subst h1
    by_cases h2 : p < ns.length
    · obtain ⟨c, hc⟩ := cell_at (ns := ns) (p := p) (b := 0) (s := s) (rest := rest) (L := L) (x2 := x2) (x3 := x3) hp h2
      have et : andF (tF (bB gEq (ixO (ovr 0) (cF (.int 2))) (vO (cF (.int 0))))) (tF (bB gLt (ixO (ovr 0) (cF (.int 1))) (vO (cbB gLen (consO (ixO (ovr 0) (cF (.int 0))) nilO))))) (ρD ns p 0 s rest L x2 x3) = some (Res.ok true, ρD ns p 0 s rest L x2 x3) :=
        (bnd_ok t1).trans (t2.trans (by rw [decide_eq_true h2]))
      have s1 : stS 2 (fzF (ixO (ixO (ovr 0) (cF (.int 0))) (fzF (ixO (ovr 0) (cF (.int 1)))))) (ρD ns p 0 s rest L x2 x3) = some (.nx (ρD ns p 0 s rest L (.v (.int c)) x3)) := (st_ok hc).trans rfl
      have fin : ∀ b', 0 ≤ b' → (tgX (vO (bF gMod (cbF gInt (consF (bF gAdd (bF gAdd (bB gMul (ixO (ovr 0) (cF (.int 3))) (vO (cF (.int 48271)))) (vF 2)) (cF (.int 13))) nilF)) (cF (.int 2147483647)))) (isG (ovr 0) (cF (.int 3)))) (ρD ns (p + 1) b' s rest L (.v (.int c)) x3) = some (.nx (ρD ns (p + 1) b' ((s * 48271 + c + 13) % 2147483647) rest L (.v (.int c)) x3)) := fun b' _ => rfl
      by_cases h3 : (10 : Int) ^ 18 ≤ c
      · refine ⟨p + 1, c, (s * 48271 + c + 13) % 2147483647, .v (.int c), by omega, Int.le_trans (by decide) h3, ?_⟩
        unfold stA
        rw [if_t et]
        show seqS _ _ _ = _
        rw [seq_nx s1]
        rw [seq_nx (ρ1 := ρD ns (p + 1) 0 s rest L (.v (.int c)) x3) rfl]
        have e3 : ifS (tF (bF gGe (vF 2) (bF gPow (cF (.int 10)) (cF (.int 18))))) (tgX (vO (vF 2)) (isG (ovr 0) (cF (.int 2)))) nxS (ρD ns (p + 1) 0 s rest L (.v (.int c)) x3) = some (.nx (ρD ns (p + 1) c s rest L (.v (.int c)) x3)) := by
          rw [if_t (b := decide ((10 : Int) ^ 18 ≤ c)) (ρ1 := ρD ns (p + 1) 0 s rest L (.v (.int c)) x3) rfl, decide_eq_true h3]
          rfl
        rw [seq_nx e3]
        exact fin c (Int.le_trans (by decide) h3)
      · refine ⟨p + 1, 0, (s * 48271 + c + 13) % 2147483647, .v (.int c), by omega, Int.le_refl _, ?_⟩
        unfold stA
        rw [if_t et]
        show seqS _ _ _ = _
        rw [seq_nx s1]
        rw [seq_nx (ρ1 := ρD ns (p + 1) 0 s rest L (.v (.int c)) x3) rfl]
        have e3 : ifS (tF (bF gGe (vF 2) (bF gPow (cF (.int 10)) (cF (.int 18))))) (tgX (vO (vF 2)) (isG (ovr 0) (cF (.int 2)))) nxS (ρD ns (p + 1) 0 s rest L (.v (.int c)) x3) = some (.nx (ρD ns (p + 1) 0 s rest L (.v (.int c)) x3)) := by
          rw [if_t (b := decide ((10 : Int) ^ 18 ≤ c)) (ρ1 := ρD ns (p + 1) 0 s rest L (.v (.int c)) x3) rfl, decide_eq_false h3]
          rfl
        rw [seq_nx e3]
        exact fin 0 (Int.le_refl _)
    · refine ⟨p, 0, s, x2, hp, Int.le_refl _, ?_⟩
      have et : andF (tF (bB gEq (ixO (ovr 0) (cF (.int 2))) (vO (cF (.int 0))))) (tF (bB gLt (ixO (ovr 0) (cF (.int 1))) (vO (cbB gLen (consO (ixO (ovr 0) (cF (.int 0))) nilO))))) (ρD ns p 0 s rest L x2 x3) = some (Res.ok false, ρD ns p 0 s rest L x2 x3) :=
        (bnd_ok t1).trans (t2.trans (by rw [decide_eq_false h2]))
      unfold stA
      rw [if_t et]
      rfl
  · refine ⟨p, b, s, x2, hp, hb, ?_⟩
    have e0 : (b == 0) = false := beq_eq_false_iff_ne.mpr h1
    have et : andF (tF (bB gEq (ixO (ovr 0) (cF (.int 2))) (vO (cF (.int 0))))) (tF (bB gLt (ixO (ovr 0) (cF (.int 1))) (vO (cbB gLen (consO (ixO (ovr 0) (cF (.int 0))) nilO))))) (ρD ns p b s rest L x2 x3) = some (Res.ok false, ρD ns p b s rest L x2 x3) := by
      refine (bnd_ok t1).trans ?_
      rw [e0]
      rfl
    unfold stA
    rw [if_t et]
    rfl
theorem draw_ok {x2' x3' : Sl} (hp : 0 ≤ p) (hb : 0 ≤ b) (h1 : 1 ≤ L) (h2 : L < 1073741824) : ∃ v p' b' s', 0 ≤ v ∧ v < L ∧ 0 ≤ p' ∧ 0 ≤ b' ∧ bodyS 4 mDraw [.o 1, .d (.int L)] (OB ns p b s rest) = some (Res.ok (.d (.int v)), OB ns p' b' s' rest) := by
  obtain ⟨p', b', s', y, k1, k2, e⟩ := stepA (ns := ns) (p := p) (b := b) (s := s) (rest := rest) (L := L) (x2 := .no) (x3 := .no) hp hb
  have e0 : ∀ r, mDraw (ρD ns p b s rest L .no .no) = r → bodyS 4 mDraw [.o 1, .d (.int L)] (OB ns p b s rest) = (match r with
    | some (.rt x ρ) => some (Res.ok x, ρ.ob)
    | some (.nx ρ) => some (Res.ok (.d .non), ρ.ob)
    | some (.rs c d ρ) => some (Res.er c d, ρ.ob)
    | _ => none) := fun r h => by subst h; rfl
  have hL : ¬ L = 0 := by omega
  by_cases h3 : 0 < b'
  · refine ⟨b' % L, p', b' / L, s', Int.emod_nonneg _ hL, Int.emod_lt_of_pos _ (by omega), k1, Int.ediv_nonneg k2 (by omega), ?_⟩
    have e1 : mDraw (ρD ns p b s rest L .no .no) = some (.rt (.d (.int (b' % L))) (ρD ns p' (b' / L) s' rest L y (.v (.int (b' % L))))) := by
      show seqS stA _ _ = _
      rw [seq_nx e]
      refine seq_rt ?_
      rw [if_t (b := decide (0 < b')) (ρ1 := ρD ns p' b' s' rest L y .no) rfl, decide_eq_true h3]
      show seqS _ _ _ = _
      have s1 : stS 3 (bF gMod (cbB gInt (consO (ixO (ovr 0) (cF (.int 2))) nilO)) (vF 1)) (ρD ns p' b' s' rest L y .no) = some (.nx (ρD ns p' b' s' rest L y (.v (.int (b' % L))))) := by
        refine (st_ok (a := .int (b' % L)) (ρ1 := ρD ns p' b' s' rest L y .no) ?_).trans rfl
        show optM (if 0 < L then some (D.int (b' % L)) else none) (ρD ns p' b' s' rest L y .no) = _
        rw [if_pos (by omega)]
        rfl
      rw [seq_nx s1]
      have s2 : tgX (vO (bB gFdiv (ixO (ovr 0) (cF (.int 2))) (vO (vF 1)))) (isG (ovr 0) (cF (.int 2))) (ρD ns p' b' s' rest L y (.v (.int (b' % L)))) = some (.nx (ρD ns p' (b' / L) s' rest L y (.v (.int (b' % L))))) := by
        have q : bB gFdiv (ixO (ovr 0) (cF (.int 2))) (vO (vF 1)) (ρD ns p' b' s' rest L y (.v (.int (b' % L)))) = some (Res.ok (.int (b' / L)), ρD ns p' b' s' rest L y (.v (.int (b' % L)))) := by
          show (match (if 0 < L ∧ L < 1073741824 then some (D.int (b' / L)) else none).bind okFlat with
            | some c => some (Res.ok c, ρD ns p' b' s' rest L y (.v (.int (b' % L))))
            | none => none) = _
          rw [if_pos ⟨by omega, h2⟩]
          rfl
        exact (st_ok (bnd_ok q)).trans rfl
      rw [seq_nx s2]
      rfl
    rw [e0 _ e1]
    rfl
  · refine ⟨(s' * 69621 + 7) % 2147483629 / 11 % L, p', b', (s' * 69621 + 7) % 2147483629, Int.emod_nonneg _ hL, Int.emod_lt_of_pos _ (by omega), k1, k2, ?_⟩
    have e1 : mDraw (ρD ns p b s rest L .no .no) = some (.rt (.d (.int ((s' * 69621 + 7) % 2147483629 / 11 % L))) (ρD ns p' b' ((s' * 69621 + 7) % 2147483629) rest L y .no)) := by
      show seqS stA _ _ = _
      rw [seq_nx e]
      have s0 : ifS (tF (bB gGt (ixO (ovr 0) (cF (.int 2))) (vO (cF (.int 0))))) (seqS (stS 3 (bF gMod (cbB gInt (consO (ixO (ovr 0) (cF (.int 2))) nilO)) (vF 1))) (seqS (tgX (vO (bB gFdiv (ixO (ovr 0) (cF (.int 2))) (vO (vF 1)))) (isG (ovr 0) (cF (.int 2)))) (rtS (vF 3)))) nxS (ρD ns p' b' s' rest L y .no) = some (.nx (ρD ns p' b' s' rest L y .no)) := by
        rw [if_t (b := decide (0 < b')) (ρ1 := ρD ns p' b' s' rest L y .no) rfl, decide_eq_false h3]
        rfl
      rw [seq_nx s0]
      rw [seq_nx (ρ1 := ρD ns p' b' ((s' * 69621 + 7) % 2147483629) rest L y .no) rfl]
      refine (st_ok (a := .int ((s' * 69621 + 7) % 2147483629 / 11 % L)) (ρ1 := ρD ns p' b' ((s' * 69621 + 7) % 2147483629) rest L y .no) ?_).trans rfl
      show optM (if 0 < L then some (D.int ((s' * 69621 + 7) % 2147483629 / 11 % L)) else none) (ρD ns p' b' ((s' * 69621 + 7) % 2147483629) rest L y .no) = _
      rw [if_pos (by omega)]
      rfl
    rw [e0 _ e1]
    rfl
end
end LP

set_option maxRecDepth 100000
set_option maxHeartbeats 8000000
namespace K01
open PySem PySem.Spec
open PyProof.Rows hiding St
open L2 LP
set_option autoImplicit false
abbrev PP : Program := PySem.Challenge.pw_fenceweaver_k01_first_wrong_words
def top (i : Nat) : Stmt := PySem.Challenge.pw_fenceweaver_k01_first_wrong_words.main.body.getD i (.Pass ⟨0, 0, 0, 0⟩)
def tab_FORMS : List (List Nat × List (List Nat)) := [([115, 101, 116], [[99, 101, 108, 108], [111, 112, 101, 114, 97, 110, 100]]), ([103, 101, 116], [[110, 97, 109, 101], [99, 101, 108, 108]]), ([115, 119, 97, 112], [[110, 97, 109, 101], [99, 101, 108, 108], [111, 112, 101, 114, 97, 110, 100]]), ([97, 100, 100], [[110, 97, 109, 101], [99, 101, 108, 108], [111, 112, 101, 114, 97, 110, 100]]), ([108, 101, 116], [[110, 97, 109, 101], [111, 112, 101, 114, 97, 110, 100], [115, 105, 103, 110], [111, 112, 101, 114, 97, 110, 100]]), ([102, 101, 110, 99, 101], []), ([97, 119, 97, 105, 116], [[99, 101, 108, 108], [118, 97, 108, 117, 101]]), ([105, 102], [[111, 112, 101, 114, 97, 110, 100], [101, 113, 117, 97, 108], [111, 112, 101, 114, 97, 110, 100]])]
def ks_FORMS : List (List Nat) := [[115, 101, 116], [103, 101, 116], [115, 119, 97, 112], [97, 100, 100], [108, 101, 116], [102, 101, 110, 99, 101], [97, 119, 97, 105, 116], [105, 102]]
def mt_TextWrong (c : Str) : Option Bool := if c == ("TextWrong" : Str) then some true else if c == ("Wrong" : Str) then some false else none
theorem mt_t {c : Str} (h : mt_TextWrong c = some true) : c = "TextWrong" := by
  unfold mt_TextWrong at h
  split at h
  · rename_i q; exact beq_iff_eq.mp q
  · split at h <;> cases h

abbrev s_is_name : Stmt := (top 20)
def dd_is_name : He.DefD := ⟨(("is_name" : Str), none), ("is_name" : Str), ("is_name" : Str), defArgs s_is_name, defBody s_is_name, defScope s_is_name, [], []⟩
abbrev ns_is_name : List Str := ["thing", "sign"]
theorem sc_is_name : FnScope ns_is_name ["thing"] (defScope s_is_name) := ⟨rfl, rfl, rfl, by decide +kernel, rfl, by decide +kernel, by decide +kernel⟩
def m_is_name : Sv := (seqS (ifS (orF (notF (tF (cbF gIsi (consF (vF 0) (consF (cF (.ty 0)) nilF))))) (orF (notF (tF (chF gLe gLe (cF (.int 1)) (cbF gLen (consF (vF 0) nilF)) (cF (.int 8))))) (orF (tF (bF gNotIn (bF gIx (vF 0) (cF (.int 0))) (cF (.str [97, 98, 99, 100, 101, 102, 103, 104, 105, 106, 107, 108, 109, 110, 111, 112, 113, 114, 115, 116, 117, 118, 119, 120, 121, 122])))) (tF (bF gIn (vF 0) (cF (.tup (List.map D.str [[112, 108, 97, 105, 110], [115, 121, 110, 99], [116, 104, 114, 101, 97, 100], [115, 101, 116], [103, 101, 116], [115, 119, 97, 112], [97, 100, 100], [108, 101, 116], [102, 101, 110, 99, 101], [97, 119, 97, 105, 116], [105, 102], [101, 110, 100], [98, 97, 100], [97, 110, 100]])))))))) (rtS (cF (.bl false))) nxS) (rtS (cbF gAll (consF (cpF (sqF (vF 0)) (nmG 1) (retM true) (bF gIn (vF 1) (bF gAdd (cF (.str [97, 98, 99, 100, 101, 102, 103, 104, 105, 106, 107, 108, 109, 110, 111, 112, 113, 114, 115, 116, 117, 118, 119, 120, 121, 122])) (cF (.str [48, 49, 50, 51, 52, 53, 54, 55, 56, 57])))) [1]) nilF))))
def gm_is_name : Fm := bodyF 2 m_is_name
def hm_is_name : Gm := bodyS 2 m_is_name
abbrev s_is_value : Stmt := (top 21)
def dd_is_value : He.DefD := ⟨(("is_value" : Str), none), ("is_value" : Str), ("is_value" : Str), defArgs s_is_value, defBody s_is_value, defScope s_is_value, [], []⟩
abbrev ns_is_value : List Str := ["thing"]
theorem sc_is_value : FnScope ns_is_value ["thing"] (defScope s_is_value) := ⟨rfl, rfl, rfl, by decide +kernel, rfl, by decide +kernel, by decide +kernel⟩
def m_is_value : Sv := (rtS (andV (cbF gIsi (consF (vF 0) (consF (cF (.ty 1)) nilF))) (andV (notV (cbF gIsi (consF (vF 0) (consF (cF (.ty 2)) nilF)))) (chF gLe gLe (cF (.int 0)) (vF 0) (cF (.int 7))))))
def gm_is_value : Fm := bodyF 1 m_is_value
def hm_is_value : Gm := bodyS 1 m_is_value
abbrev s_is_operand : Stmt := (top 22)
def dd_is_operand : He.DefD := ⟨(("is_operand" : Str), none), ("is_operand" : Str), ("is_operand" : Str), defArgs s_is_operand, defBody s_is_operand, defScope s_is_operand, [], []⟩
abbrev ns_is_operand : List Str := ["thing"]
theorem sc_is_operand : FnScope ns_is_operand ["thing"] (defScope s_is_operand) := ⟨rfl, rfl, rfl, by decide +kernel, rfl, by decide +kernel, by decide +kernel⟩
def m_is_operand : Sv := (rtS (orV (clF 1 gm_is_value (consF (vF 0) nilF)) (clF 1 gm_is_name (consF (vF 0) nilF))))
def gm_is_operand : Fm := bodyF 1 m_is_operand
def hm_is_operand : Gm := bodyS 1 m_is_operand
abbrev s_is_cell : Stmt := (top 24)
def dd_is_cell : He.DefD := ⟨(("is_cell" : Str), none), ("is_cell" : Str), ("is_cell" : Str), defArgs s_is_cell, defBody s_is_cell, defScope s_is_cell, [], []⟩
abbrev ns_is_cell : List Str := ["thing", "cells"]
theorem sc_is_cell : FnScope ns_is_cell ["thing", "cells"] (defScope s_is_cell) := ⟨rfl, rfl, rfl, by decide +kernel, rfl, by decide +kernel, by decide +kernel⟩
def m_is_cell : Sv := (rtS (andV (cbF gIsi (consF (vF 0) (consF (cF (.ty 0)) nilF))) (dinB false (vO (vF 0)) (vO (vF 1)))))
def gm_is_cell : Fm := bodyF 2 m_is_cell
def hm_is_cell : Gm := bodyS 2 m_is_cell
abbrev s_is_instruction : Stmt := (top 23)
def dd_is_instruction : He.DefD := ⟨(("is_instruction" : Str), none), ("is_instruction" : Str), ("is_instruction" : Str), defArgs s_is_instruction, defBody s_is_instruction, defScope s_is_instruction, [], []⟩
abbrev ns_is_instruction : List Str := ["thing", "cells", "deep", "word", "rest", "right", "one"]
theorem sc_is_instruction : FnScope ns_is_instruction ["thing", "cells", "deep"] (defScope s_is_instruction) := ⟨rfl, rfl, rfl, by decide +kernel, rfl, by decide +kernel, by decide +kernel⟩
def m_is_instruction (rec : Fm) : Sv := (seqS (ifS (orF (notF (tF (cbF gIsi (consF (vF 0) (consF (cF (.ty 3)) nilF))))) (orF (tF (bF gEq (cbF gLen (consF (vF 0) nilF)) (cF (.int 0)))) (notF (tF (cbF gIsi (consF (bF gIx (vF 0) (cF (.int 0))) (consF (cF (.ty 0)) nilF))))))) (rtS (cF (.bl false))) nxS) (seqS (parS 3 4 (consF (bF gIx (vF 0) (cF (.int 0))) (consF (slF (vF 0) (soP (cF (.int 1))) noP) nilF))) (seqS (ifS (tF (bF gEq (vF 3) (cF (.str [102, 101, 110, 99, 101])))) (rtS (bF gEq (cbF gLen (consF (vF 4) nilF)) (cF (.int 0)))) nxS) (seqS (ifS (tF (bF gIn (vF 3) (tupF (consF (cF (.str [115, 101, 116])) (consF (cF (.str [97, 119, 97, 105, 116])) nilF))))) (seqS (stS 5 (ifF (tF (bF gEq (vF 3) (cF (.str [115, 101, 116])))) (cF (.fn ("is_operand" : Str))) (cF (.fn ("is_value" : Str))))) (rtS (andV (bF gEq (cbF gLen (consF (vF 4) nilF)) (cF (.int 2))) (andV (clF 2 gm_is_cell (consF (bF gIx (vF 4) (cF (.int 0))) (consF (vF 1) nilF))) (cl2F 5 ("is_operand" : Str) gm_is_operand ("is_value" : Str) gm_is_value 1 (consF (bF gIx (vF 4) (cF (.int 1))) nilF)))))) nxS) (seqS (ifS (tF (bF gEq (vF 3) (cF (.str [103, 101, 116])))) (rtS (andV (bF gEq (cbF gLen (consF (vF 4) nilF)) (cF (.int 2))) (andV (clF 1 gm_is_name (consF (bF gIx (vF 4) (cF (.int 0))) nilF)) (clF 2 gm_is_cell (consF (bF gIx (vF 4) (cF (.int 1))) (consF (vF 1) nilF)))))) nxS) (seqS (ifS (tF (bF gIn (vF 3) (tupF (consF (cF (.str [115, 119, 97, 112])) (consF (cF (.str [97, 100, 100])) nilF))))) (rtS (andV (bF gEq (cbF gLen (consF (vF 4) nilF)) (cF (.int 3))) (andV (clF 1 gm_is_name (consF (bF gIx (vF 4) (cF (.int 0))) nilF)) (andV (clF 2 gm_is_cell (consF (bF gIx (vF 4) (cF (.int 1))) (consF (vF 1) nilF))) (clF 1 gm_is_operand (consF (bF gIx (vF 4) (cF (.int 2))) nilF)))))) nxS) (seqS (ifS (tF (bF gEq (vF 3) (cF (.str [108, 101, 116])))) (rtS (andV (bF gEq (cbF gLen (consF (vF 4) nilF)) (cF (.int 4))) (andV (clF 1 gm_is_name (consF (bF gIx (vF 4) (cF (.int 0))) nilF)) (andV (clF 1 gm_is_operand (consF (bF gIx (vF 4) (cF (.int 1))) nilF)) (andV (bF gIn (bF gIx (vF 4) (cF (.int 2))) (cF (.tup (List.map D.str [[43], [45], [42]])))) (clF 1 gm_is_operand (consF (bF gIx (vF 4) (cF (.int 3))) nilF))))))) nxS) (seqS (ifS (orF (tF (bF gNe (vF 3) (cF (.str [105, 102])))) (orF (tF (bF gNe (cbF gLen (consF (vF 4) nilF)) (cF (.int 4)))) (orF (tF (bF gEq (vF 2) (cF (.int 3)))) (notF (tF (cbF gIsi (consF (bF gIx (vF 4) (cF (.int 3))) (consF (cF (.ty 3)) nilF)))))))) (rtS (cF (.bl false))) nxS) (seqS (ifS (orF (notF (tF (clF 1 gm_is_operand (consF (bF gIx (vF 4) (cF (.int 0))) nilF)))) (orF (tF (bF gNotIn (bF gIx (vF 4) (cF (.int 1))) (tupF (consF (cF (.str [61])) (consF (cF (.str [33, 61])) nilF))))) (notF (tF (clF 1 gm_is_operand (consF (bF gIx (vF 4) (cF (.int 2))) nilF)))))) (rtS (cF (.bl false))) nxS) (rtS (cbF gAll (consF (cpF (sqF (bF gIx (vF 4) (cF (.int 3)))) (nmG 6) (retM true) (clF 3 rec (consF (vF 6) (consF (vF 1) (consF (bF gAdd (vF 2) (cF (.int 1))) nilF)))) [6]) nilF))))))))))))
def gm_is_instruction : Nat → Fm
  | 0 => fun _ => none
  | n + 1 => bodyF 7 (m_is_instruction (gm_is_instruction n))
abbrev s_how_many : Stmt := (top 25)
def dd_how_many : He.DefD := ⟨(("how_many" : Str), none), ("how_many" : Str), ("how_many" : Str), defArgs s_how_many, defBody s_how_many, defScope s_how_many, [], []⟩
abbrev ns_how_many : List Str := ["instructions", "are_fences", "found", "one"]
theorem sc_how_many : FnScope ns_how_many ["instructions", "are_fences"] (defScope s_how_many) := ⟨rfl, rfl, rfl, by decide +kernel, rfl, by decide +kernel, by decide +kernel⟩
def m_how_many (rec : Fm) : Sv := (seqS (stS 2 (cF (.int 0))) (seqS (forS (sqF (vF 0)) (nmG 3) (seqS (agS 2 gAddI (ifF (tF (bF gEq (bF gEq (bF gIx (vF 3) (cF (.int 0))) (cF (.str [102, 101, 110, 99, 101]))) (vF 1))) (cF (.int 1)) (cF (.int 0)))) (agS 2 gAddI (ifF (tF (bF gEq (bF gIx (vF 3) (cF (.int 0))) (cF (.str [105, 102])))) (clF 2 rec (consF (bF gIx (vF 3) (cF (.int 4))) (consF (vF 1) nilF))) (cF (.int 0)))))) (rtS (vF 2))))
def gm_how_many : Nat → Fm
  | 0 => fun _ => none
  | n + 1 => bodyF 4 (m_how_many (gm_how_many n))
abbrev s_is_bad : Stmt := (top 26)
def dd_is_bad : He.DefD := ⟨(("is_bad" : Str), none), ("is_bad" : Str), ("is_bad" : Str), defArgs s_is_bad, defBody s_is_bad, defScope s_is_bad, [], []⟩
abbrev ns_is_bad : List Str := ["thing", "cells", "threads", "row", "rows"]
theorem sc_is_bad : FnScope ns_is_bad ["thing", "cells", "threads"] (defScope s_is_bad) := ⟨rfl, rfl, rfl, by decide +kernel, rfl, by decide +kernel, by decide +kernel⟩
def m_is_bad : Sv := (seqS (ifS (orF (notF (tF (cbF gIsi (consF (vF 0) (consF (cF (.ty 3)) nilF))))) (orF (tF (bF gNe (cbF gLen (consF (vF 0) nilF)) (cF (.int 2)))) (notF (tF (cbF gAll (consF (cpF (sqF (vF 0)) (nmG 4) (retM true) (cbF gIsi (consF (vF 4) (consF (cF (.ty 3)) nilF))) [4]) nilF)))))) (rtS (cF (.bl false))) nxS) (seqS (ifS (tF (bF gEq (bF gAdd (cbF gLen (consF (bF gIx (vF 0) (cF (.int 0))) nilF)) (cbF gLen (consF (bF gIx (vF 0) (cF (.int 1))) nilF))) (cF (.int 0)))) (rtS (cF (.bl false))) nxS) (seqS (forS (sqF (bF gIx (vF 0) (cF (.int 0)))) (nmG 3) (seqS (ifS (orF (notF (tF (cbF gIsi (consF (vF 3) (consF (cF (.ty 3)) nilF))))) (orF (tF (bF gNe (cbF gLen (consF (vF 3) nilF)) (cF (.int 3)))) (orF (notF (tF (clF 2 gm_is_cell (consF (bF gIx (vF 3) (cF (.int 0))) (consF (vF 2) nilF))))) (notF (tF (clF 1 gm_is_name (consF (bF gIx (vF 3) (cF (.int 1))) nilF))))))) (rtS (cF (.bl false))) nxS) (ifS (notF (tF (clF 1 gm_is_value (consF (bF gIx (vF 3) (cF (.int 2))) nilF)))) (rtS (cF (.bl false))) nxS))) (seqS (forS (sqF (bF gIx (vF 0) (cF (.int 1)))) (nmG 3) (ifS (orF (notF (tF (cbF gIsi (consF (vF 3) (consF (cF (.ty 3)) nilF))))) (orF (tF (bF gNe (cbF gLen (consF (vF 3) nilF)) (cF (.int 2)))) (orF (notF (tF (clF 2 gm_is_cell (consF (bF gIx (vF 3) (cF (.int 0))) (consF (vF 1) nilF))))) (notF (tF (clF 1 gm_is_value (consF (bF gIx (vF 3) (cF (.int 1))) nilF))))))) (rtS (cF (.bl false))) nxS)) (rtS (cF (.bl true)))))))
def gm_is_bad : Fm := bodyF 5 m_is_bad
def hm_is_bad : Gm := bodyS 5 m_is_bad
abbrev s_check_cells : Stmt := (top 28)
def dd_check_cells : He.DefD := ⟨(("check_cells" : Str), none), ("check_cells" : Str), ("check_cells" : Str), defArgs s_check_cells, defBody s_check_cells, defScope s_check_cells, [], []⟩
abbrev ns_check_cells : List Str := ["cells", "name", "row", "right"]
theorem sc_check_cells : FnScope ns_check_cells ["cells"] (defScope s_check_cells) := ⟨rfl, rfl, rfl, by decide +kernel, rfl, by decide +kernel, by decide +kernel⟩
def m_check_cells : Sv := (seqS (kysF 0 (nmG 1) (seqS (stS 2 (dgF (vF 0) (vF 1))) (seqS (stS 3 (andV (clF 1 gm_is_name (consF (vF 1) nilF)) (andV (cbF gIsi (consF (vF 2) (consF (cF (.ty 3)) nilF))) (bF gEq (cbF gLen (consF (vF 2) nilF)) (cF (.int 2)))))) (ifS (orF (notF (tF (vF 3))) (orF (tF (bF gNotIn (bF gIx (vF 2) (cF (.int 0))) (cF (.tup (List.map D.str [[112, 108, 97, 105, 110], [115, 121, 110, 99]]))))) (notF (tF (clF 1 gm_is_value (consF (bF gIx (vF 2) (cF (.int 1))) nilF)))))) (rsS ("Wrong" : Str) (vF 1)) nxS)))) (ifS (tF (bF gGt (cbF gLen (consF (vF 0) nilF)) (cF (.int 8)))) (rsS ("Wrong" : Str) (cF (.str [99, 101, 108, 108, 115]))) nxS))
def gm_check_cells : Fm := bodyF 4 m_check_cells
def hm_check_cells : Gm := bodyS 4 m_check_cells
abbrev s_check_threads : Stmt := (top 29)
def dd_check_threads : He.DefD := ⟨(("check_threads" : Str), none), ("check_threads" : Str), ("check_threads" : Str), defArgs s_check_threads, defBody s_check_threads, defScope s_check_threads, [], []⟩
abbrev ns_check_threads : List Str := ["cells", "threads", "many", "name", "row", "one"]
theorem sc_check_threads : FnScope ns_check_threads ["cells", "threads"] (defScope s_check_threads) := ⟨rfl, rfl, rfl, by decide +kernel, rfl, by decide +kernel, by decide +kernel⟩
def m_check_threads : Sv := (seqS (stS 2 (cF (.int 0))) (seqS (kysF 1 (nmG 3) (seqS (stS 4 (dgF (vF 1) (vF 3))) (seqS (ifS (orF (notF (tF (clF 1 gm_is_name (consF (vF 3) nilF)))) (orF (notF (tF (cbF gIsi (consF (vF 4) (consF (cF (.ty 3)) nilF))))) (notF (tF (cbF gAll (consF (cpF (sqF (vF 4)) (nmG 5) (retM true) (clF 3 (gm_is_instruction 6) (consF (vF 5) (consF (vF 0) (consF (cF (.int 0)) nilF)))) [5]) nilF)))))) (rsS ("Wrong" : Str) (vF 3)) nxS) (seqS (ifS (orF (tF (bF gGt (clF 2 (gm_how_many 7) (consF (vF 4) (consF (cF (.bl false)) nilF))) (cF (.int 8)))) (tF (bF gGt (clF 2 (gm_how_many 7) (consF (vF 4) (consF (cF (.bl true)) nilF))) (cF (.int 16))))) (rsS ("Wrong" : Str) (vF 3)) nxS) (agS 2 gAddI (clF 2 (gm_how_many 7) (consF (vF 4) (consF (cF (.bl false)) nilF)))))))) (seqS (ifS (notF (tF (chF gLe gLe (cF (.int 1)) (cbF gLen (consF (vF 1) nilF)) (cF (.int 4))))) (rsS ("Wrong" : Str) (cF (.str [116, 104, 114, 101, 97, 100, 115]))) nxS) (ifS (tF (bF gGt (vF 2) (cF (.int 24)))) (rsS ("Wrong" : Str) (cF (.str [109, 97, 110, 121]))) nxS))))
def gm_check_threads : Fm := bodyF 6 m_check_threads
def hm_check_threads : Gm := bodyS 6 m_check_threads
abbrev s_Program___init__ : Stmt := (inClass (top 27) 0)
def dd_Program___init__ : He.DefD := ⟨(("Program" : Str), some ("__init__" : Str)), ("__init__" : Str), ("Program.__init__" : Str), defArgs s_Program___init__, defBody s_Program___init__, defScope s_Program___init__, [], []⟩
abbrev ns_Program___init__ : List Str := ["self", "cells", "threads", "bad", "k"]
theorem sc_Program___init__ : FnScope ns_Program___init__ ["self", "cells", "threads", "bad"] (defScope s_Program___init__) := ⟨rfl, rfl, rfl, by decide +kernel, rfl, by decide +kernel, by decide +kernel⟩
def m_Program___init__ : Sv := (seqS (exS (clF 1 gm_check_cells (consF (vF 1) nilF))) (seqS (exS (clF 2 gm_check_threads (consF (vF 1) (consF (vF 2) nilF)))) (seqS (ifS (tF (bF gGt (cbF gLen (consF (vF 3) nilF)) (cF (.int 20)))) (rsS ("Wrong" : Str) (cF (.str [98, 97, 100]))) nxS) (seqS (forS (rgF rg1 (consF (cbF gLen (consF (vF 3) nilF)) nilF)) (nmG 4) (ifS (notF (tF (clF 3 gm_is_bad (consF (bF gIx (vF 3) (vF 4)) (consF (vF 1) (consF (vF 2) nilF)))))) (rsS ("Wrong" : Str) (vF 4)) nxS)) (seqS (sfS ("Program" : Str) ("cells" : Str) (vO (cbF gDict (consF (vF 1) nilF))) (ovr 0)) (seqS (sfS ("Program" : Str) ("threads" : Str) (vO (cbF gDict (consF (vF 2) nilF))) (ovr 0)) (sfS ("Program" : Str) ("bad" : Str) (vO (cbF gTuple (consF (vF 3) nilF))) (ovr 0))))))))
def gm_Program___init__ : Fm := bodyF 5 m_Program___init__
def hm_Program___init__ : Gm := bodyS 5 m_Program___init__
abbrev s_value_in : Stmt := (top 30)
def dd_value_in : He.DefD := ⟨(("value_in" : Str), none), ("value_in" : Str), ("value_in" : Str), defArgs s_value_in, defBody s_value_in, defScope s_value_in, [], []⟩
abbrev ns_value_in : List Str := ["word"]
theorem sc_value_in : FnScope ns_value_in ["word"] (defScope s_value_in) := ⟨rfl, rfl, rfl, by decide +kernel, rfl, by decide +kernel, by decide +kernel⟩
def m_value_in : Sv := (rtS (ifF (andF (tF (bF gEq (cbF gLen (consF (vF 0) nilF)) (cF (.int 1)))) (tF (bF gIn (vF 0) (slF (cF (.str [48, 49, 50, 51, 52, 53, 54, 55, 56, 57])) noP (soP (bF gAdd (cF (.int 7)) (cF (.int 1)))))))) (bmF isStr gFig (cF (.str [48, 49, 50, 51, 52, 53, 54, 55, 56, 57])) (consF (vF 0) nilF)) (cF .non)))
def gm_value_in : Fm := bodyF 1 m_value_in
def hm_value_in : Gm := bodyS 1 m_value_in
abbrev s_operand_in : Stmt := (top 31)
def dd_operand_in : He.DefD := ⟨(("operand_in" : Str), none), ("operand_in" : Str), ("operand_in" : Str), defArgs s_operand_in, defBody s_operand_in, defScope s_operand_in, [], []⟩
abbrev ns_operand_in : List Str := ["word", "found"]
theorem sc_operand_in : FnScope ns_operand_in ["word"] (defScope s_operand_in) := ⟨rfl, rfl, rfl, by decide +kernel, rfl, by decide +kernel, by decide +kernel⟩
def m_operand_in : Sv := (seqS (stS 1 (clF 1 gm_value_in (consF (vF 0) nilF))) (rtS (ifF (andF (tF (bF gIs (vF 1) (cF .non))) (tF (clF 1 gm_is_name (consF (vF 0) nilF)))) (vF 0) (vF 1))))
def gm_operand_in : Fm := bodyF 2 m_operand_in
def hm_operand_in : Gm := bodyS 2 m_operand_in
abbrev s_field_in : Stmt := (top 35)
def dd_field_in : He.DefD := ⟨(("field_in" : Str), none), ("field_in" : Str), ("field_in" : Str), defArgs s_field_in, defBody s_field_in, defScope s_field_in, [], []⟩
abbrev ns_field_in : List Str := ["word", "form", "cells", "some"]
theorem sc_field_in : FnScope ns_field_in ["word", "form", "cells"] (defScope s_field_in) := ⟨rfl, rfl, rfl, by decide +kernel, rfl, by decide +kernel, by decide +kernel⟩
def m_field_in : Sv := (seqS (ifS (tF (bF gEq (vF 1) (cF (.str [99, 101, 108, 108])))) (rtS (ifF (tF (dinB false (vO (vF 0)) (vO (vF 2)))) (vF 0) (cF .non))) nxS) (seqS (ifS (tF (bF gEq (vF 1) (cF (.str [110, 97, 109, 101])))) (rtS (ifF (tF (clF 1 gm_is_name (consF (vF 0) nilF))) (vF 0) (cF .non))) nxS) (seqS (ifS (tF (bF gEq (vF 1) (cF (.str [111, 112, 101, 114, 97, 110, 100])))) (rtS (clF 1 gm_operand_in (consF (vF 0) nilF))) nxS) (seqS (ifS (tF (bF gEq (vF 1) (cF (.str [118, 97, 108, 117, 101])))) (rtS (clF 1 gm_value_in (consF (vF 0) nilF))) nxS) (seqS (stS 3 (ifF (tF (bF gEq (vF 1) (cF (.str [115, 105, 103, 110])))) (cF (.tup (List.map D.str [[43], [45], [42]]))) (tupF (consF (cF (.str [61])) (consF (cF (.str [33, 61])) nilF))))) (rtS (ifF (tF (bF gIn (vF 0) (vF 3))) (vF 0) (cF .non))))))))
def gm_field_in : Fm := bodyF 4 m_field_in
def hm_field_in : Gm := bodyS 4 m_field_in
abbrev s_instruction_in : Stmt := (top 36)
def dd_instruction_in : He.DefD := ⟨(("instruction_in" : Str), none), ("instruction_in" : Str), ("instruction_in" : Str), defArgs s_instruction_in, defBody s_instruction_in, defScope s_instruction_in, [], []⟩
abbrev ns_instruction_in : List Str := ["words", "cells", "forms", "found", "k", "field"]
theorem sc_instruction_in : FnScope ns_instruction_in ["words", "cells"] (defScope s_instruction_in) := ⟨rfl, rfl, rfl, by decide +kernel, rfl, by decide +kernel, by decide +kernel⟩
def m_instruction_in : Sv := (seqS (ifS (tF (tinF true ks_FORMS (bF gIx (vF 0) (cF (.int 0))))) (rtS (tupF (consF (cF (.int 0)) (consF (cF .non) nilF)))) nxS) (seqS (stS 2 (tabF tab_FORMS (bF gIx (vF 0) (cF (.int 0))))) (seqS (stS 3 (tupF (consF (bF gIx (vF 0) (cF (.int 0))) nilF))) (seqS (forS (rgF rg1 (consF (cbF gLen (consF (vF 2) nilF)) nilF)) (nmG 4) (seqS (stS 5 (ifF (tF (bF gLt (bF gAdd (vF 4) (cF (.int 1))) (cbF gLen (consF (vF 0) nilF)))) (clF 3 gm_field_in (consF (bF gIx (vF 0) (bF gAdd (vF 4) (cF (.int 1)))) (consF (bF gIx (vF 2) (vF 4)) (consF (vF 1) nilF)))) (cF .non))) (seqS (ifS (tF (bF gIs (vF 5) (cF .non))) (rtS (tupF (consF (bF gAdd (vF 4) (cF (.int 1))) (consF (cF .non) nilF)))) nxS) (stS 3 (bF gAdd (vF 3) (tupF (consF (vF 5) nilF))))))) (rtS (ifF (tF (bF gGt (cbF gLen (consF (vF 0) nilF)) (bF gAdd (cbF gLen (consF (vF 2) nilF)) (cF (.int 1))))) (tupF (consF (bF gAdd (cbF gLen (consF (vF 2) nilF)) (cF (.int 1))) (consF (cF .non) nilF))) (tupF (consF (cF .non) (consF (vF 3) nilF)))))))))
def gm_instruction_in : Fm := bodyF 6 m_instruction_in
def hm_instruction_in : Gm := bodyS 6 m_instruction_in
abbrev s_part_in : Stmt := (top 33)
def dd_part_in : He.DefD := ⟨(("part_in" : Str), none), ("part_in" : Str), ("part_in" : Str), defArgs s_part_in, defBody s_part_in, defScope s_part_in, [], []⟩
abbrev ns_part_in : List Str := ["words", "at", "reading", "left", "halves", "right", "value"]
theorem sc_part_in : FnScope ns_part_in ["words", "at", "reading"] (defScope s_part_in) := ⟨rfl, rfl, rfl, by decide +kernel, rfl, by decide +kernel, by decide +kernel⟩
def m_part_in : Sv := (seqS (stS 3 (ifF (tF (bF gLt (vF 1) (cbF gLen (consF (vF 0) nilF)))) (bF gIx (vF 0) (vF 1)) (cF (.str [])))) (seqS (stS 4 (bmF isStr gSplit (vF 3) (consF (cF (.str [46])) nilF))) (seqS (ifS (tF (bF gEq (cbF gLen (consF (vF 4) nilF)) (cF (.int 2)))) (stS 5 (andV (dinB false (vO (bF gIx (vF 4) (cF (.int 0)))) (flO ("Reading" : Str) ("threads" : Str) (vO (vF 2)))) (clF 1 gm_is_name (consF (bF gIx (vF 4) (cF (.int 1))) nilF)))) (stS 5 (dinB false (vO (vF 3)) (flO ("Reading" : Str) ("cells" : Str) (vO (vF 2)))))) (seqS (ifS (notF (tF (vF 5))) (rtS (tupF (consF (vF 1) (consF (cF .non) nilF)))) nxS) (seqS (ifS (orF (tF (bF gGe (bF gAdd (vF 1) (cF (.int 1))) (cbF gLen (consF (vF 0) nilF)))) (tF (bF gNe (bF gIx (vF 0) (bF gAdd (vF 1) (cF (.int 1)))) (cF (.str [61]))))) (rtS (tupF (consF (bF gAdd (vF 1) (cF (.int 1))) (consF (cF .non) nilF)))) nxS) (seqS (stS 6 (ifF (tF (bF gLt (bF gAdd (vF 1) (cF (.int 2))) (cbF gLen (consF (vF 0) nilF)))) (clF 1 gm_value_in (consF (bF gIx (vF 0) (bF gAdd (vF 1) (cF (.int 2)))) nilF)) (cF .non))) (seqS (ifS (tF (bF gIs (vF 6) (cF .non))) (rtS (tupF (consF (bF gAdd (vF 1) (cF (.int 2))) (consF (cF .non) nilF)))) nxS) (rtS (tupF (consF (cF .non) (consF (ifF (tF (bF gEq (cbF gLen (consF (vF 4) nilF)) (cF (.int 2)))) (tupF (consF (bF gIx (vF 4) (cF (.int 0))) (consF (bF gIx (vF 4) (cF (.int 1))) (consF (vF 6) nilF)))) (tupF (consF (vF 3) (consF (vF 6) nilF)))) nilF)))))))))))
def gm_part_in : Fm := bodyF 7 m_part_in
def hm_part_in : Gm := bodyS 7 m_part_in
abbrev s_Reading_is_full : Stmt := (inClass (top 32) 6)
def dd_Reading_is_full : He.DefD := ⟨(("Reading" : Str), some ("is_full" : Str)), ("is_full" : Str), ("Reading.is_full" : Str), defArgs s_Reading_is_full, defBody s_Reading_is_full, defScope s_Reading_is_full, [], []⟩
abbrev ns_Reading_is_full : List Str := ["self", "is_fence"]
theorem sc_Reading_is_full : FnScope ns_Reading_is_full ["self", "is_fence"] (defScope s_Reading_is_full) := ⟨rfl, rfl, rfl, by decide +kernel, rfl, by decide +kernel, by decide +kernel⟩
def m_Reading_is_full : Sv := (seqS (ifS (tF (vF 1)) (rtS (bB gEq (flO ("Reading" : Str) ("fences" : Str) (vO (vF 0))) (vO (cF (.int 16))))) nxS) (rtS (orV (bB gEq (flO ("Reading" : Str) ("here" : Str) (vO (vF 0))) (vO (cF (.int 8)))) (bB gEq (flO ("Reading" : Str) ("many" : Str) (vO (vF 0))) (vO (cF (.int 24)))))))
def gm_Reading_is_full : Fm := bodyF 2 m_Reading_is_full
def hm_Reading_is_full : Gm := bodyS 2 m_Reading_is_full
abbrev s_Reading___init__ : Stmt := (inClass (top 32) 0)
def dd_Reading___init__ : He.DefD := ⟨(("Reading" : Str), some ("__init__" : Str)), ("__init__" : Str), ("Reading.__init__" : Str), defArgs s_Reading___init__, defBody s_Reading___init__, defScope s_Reading___init__, [], []⟩
abbrev ns_Reading___init__ : List Str := ["self"]
theorem sc_Reading___init__ : FnScope ns_Reading___init__ ["self"] (defScope s_Reading___init__) := ⟨rfl, rfl, rfl, by decide +kernel, rfl, by decide +kernel, by decide +kernel⟩
def m_Reading___init__ : Sv := (seqS (rowS (rwF (consO ndO (consO ndO (consO (nlO nilO) nilO)))) 3 (csG (fdG ("Reading" : Str) ("cells" : Str) (ovr 0)) (csG (fdG ("Reading" : Str) ("threads" : Str) (ovr 0)) (csG (fdG ("Reading" : Str) ("bad" : Str) (ovr 0)) nlG)))) (seqS (sfS ("Reading" : Str) ("name" : Str) (vO (cF .non)) (ovr 0)) (seqS (sfS ("Reading" : Str) ("open_ones" : Str) (nlO nilO) (ovr 0)) (rowS (rwF (consO (vO (cF (.int 0))) (consO (vO (cF (.int 0))) (consO (vO (cF (.int 0))) nilO)))) 3 (csG (fdG ("Reading" : Str) ("many" : Str) (ovr 0)) (csG (fdG ("Reading" : Str) ("here" : Str) (ovr 0)) (csG (fdG ("Reading" : Str) ("fences" : Str) (ovr 0)) nlG)))))))
def gm_Reading___init__ : Fm := bodyF 1 m_Reading___init__
def hm_Reading___init__ : Gm := bodyS 1 m_Reading___init__
abbrev s_Reading_take_cells : Stmt := (inClass (top 32) 2)
def dd_Reading_take_cells : He.DefD := ⟨(("Reading" : Str), some ("take_cells" : Str)), ("take_cells" : Str), ("Reading.take_cells" : Str), defArgs s_Reading_take_cells, defBody s_Reading_take_cells, defScope s_Reading_take_cells, [], []⟩
abbrev ns_Reading_take_cells : List Str := ["self", "words", "k", "halves", "first"]
theorem sc_Reading_take_cells : FnScope ns_Reading_take_cells ["self", "words"] (defScope s_Reading_take_cells) := ⟨rfl, rfl, rfl, by decide +kernel, rfl, by decide +kernel, by decide +kernel⟩
def m_Reading_take_cells : Sv := (seqS (ifS (tF (bB gIsNot (flO ("Reading" : Str) ("name" : Str) (ovr 0)) (vO (cF .non)))) (rtS (cF (.int 0))) nxS) (seqS (ifS (tF (bF gEq (cbF gLen (consF (vF 1) nilF)) (cF (.int 1)))) (rtS (cF (.int 1))) nxS) (seqS (forS (rgF rg2 (consF (cF (.int 1)) (consF (cbF gLen (consF (vF 1) nilF)) nilF))) (nmG 2) (seqS (stS 3 (bmF isStr gSplit (bF gIx (vF 1) (vF 2)) (consF (cF (.str [61])) nilF))) (seqS (stS 4 (ifF (tF (bF gEq (cbF gLen (consF (vF 3) nilF)) (cF (.int 1)))) (cF (.int 0)) (ifF (tF (bF gEq (cbF gLen (consF (vF 3) nilF)) (cF (.int 2)))) (clF 1 gm_value_in (consF (bF gIx (vF 3) (cF (.int 1))) nilF)) (cF .non)))) (seqS (ifS (orF (tF (bF gIs (vF 4) (cF .non))) (orF (notF (tF (clF 1 gm_is_name (consF (bF gIx (vF 3) (cF (.int 0))) nilF)))) (orF (tF (dinB false (vO (bF gIx (vF 3) (cF (.int 0)))) (flO ("Reading" : Str) ("cells" : Str) (ovr 0)))) (tF (bF gEq (cbB gLen (consO (flO ("Reading" : Str) ("cells" : Str) (ovr 0)) nilO)) (cF (.int 8))))))) (rtS (vF 2)) nxS) (dpS (vO (tupF (consF (bF gIx (vF 1) (cF (.int 0))) (consF (vF 4) nilF)))) (flO ("Reading" : Str) ("cells" : Str) (ovr 0)) (bF gIx (vF 3) (cF (.int 0)))))))) (rtS (cF .non)))))
def gm_Reading_take_cells : Fm := bodyF 5 m_Reading_take_cells
def hm_Reading_take_cells : Gm := bodyS 5 m_Reading_take_cells
abbrev s_Reading_close : Stmt := (inClass (top 32) 4)
def dd_Reading_close : He.DefD := ⟨(("Reading" : Str), some ("close" : Str)), ("close" : Str), ("Reading.close" : Str), defArgs s_Reading_close, defBody s_Reading_close, defScope s_Reading_close, [], []⟩
abbrev ns_Reading_close : List Str := ["self"]
theorem sc_Reading_close : FnScope ns_Reading_close ["self"] (defScope s_Reading_close) := ⟨rfl, rfl, rfl, by decide +kernel, rfl, by decide +kernel, by decide +kernel⟩
def m_Reading_close : Sv := (ifS (tF (bB gIsNot (flO ("Reading" : Str) ("name" : Str) (ovr 0)) (vO (cF .non)))) (dpS (vO (cbB gTuple (consO (ixO (flO ("Reading" : Str) ("open_ones" : Str) (ovr 0)) (cF (.int 0))) nilO))) (flO ("Reading" : Str) ("threads" : Str) (ovr 0)) (fzF (flO ("Reading" : Str) ("name" : Str) (ovr 0)))) nxS)
def gm_Reading_close : Fm := bodyF 1 m_Reading_close
def hm_Reading_close : Gm := bodyS 1 m_Reading_close
abbrev s_Reading_take_thread : Stmt := (inClass (top 32) 3)
def dd_Reading_take_thread : He.DefD := ⟨(("Reading" : Str), some ("take_thread" : Str)), ("take_thread" : Str), ("Reading.take_thread" : Str), defArgs s_Reading_take_thread, defBody s_Reading_take_thread, defScope s_Reading_take_thread, [], []⟩
abbrev ns_Reading_take_thread : List Str := ["self", "words"]
theorem sc_Reading_take_thread : FnScope ns_Reading_take_thread ["self", "words"] (defScope s_Reading_take_thread) := ⟨rfl, rfl, rfl, by decide +kernel, rfl, by decide +kernel, by decide +kernel⟩
def m_Reading_take_thread : Sv := (seqS (ifS (orF (tF (bF gGt (cbB gLen (consO (flO ("Reading" : Str) ("open_ones" : Str) (ovr 0)) nilO)) (cF (.int 1)))) (orF (tF (bF gGt (cbB gLen (consO (flO ("Reading" : Str) ("bad" : Str) (ovr 0)) nilO)) (cF (.int 0)))) (tF (bF gEq (cbB gLen (consO (flO ("Reading" : Str) ("threads" : Str) (ovr 0)) nilO)) (cF (.int 4)))))) (rtS (cF (.int 0))) nxS) (seqS (ifS (orF (tF (bF gEq (cbF gLen (consF (vF 1) nilF)) (cF (.int 1)))) (orF (notF (tF (clF 1 gm_is_name (consF (bF gIx (vF 1) (cF (.int 1))) nilF)))) (tF (dinB false (vO (bF gIx (vF 1) (cF (.int 1)))) (flO ("Reading" : Str) ("threads" : Str) (ovr 0)))))) (rtS (cF (.int 1))) nxS) (seqS (ifS (tF (bF gGt (cbF gLen (consF (vF 1) nilF)) (cF (.int 2)))) (rtS (cF (.int 2))) nxS) (seqS (exX (mtS ("Reading" : Str) ("close" : Str) 1 hm_Reading_close (ovr 0) nilO)) (seqS (sfS ("Reading" : Str) ("name" : Str) (vO (bF gIx (vF 1) (cF (.int 1)))) (ovr 0)) (seqS (dpS (vO (tupF nilF)) (flO ("Reading" : Str) ("threads" : Str) (ovr 0)) (fzF (flO ("Reading" : Str) ("name" : Str) (ovr 0)))) (seqS (sfS ("Reading" : Str) ("open_ones" : Str) (nlO (consO (nlO nilO) nilO)) (ovr 0)) (seqS (rowS (rwF (consO (vO (cF (.int 0))) (consO (vO (cF (.int 0))) nilO))) 2 (csG (fdG ("Reading" : Str) ("here" : Str) (ovr 0)) (csG (fdG ("Reading" : Str) ("fences" : Str) (ovr 0)) nlG))) (rtS (cF .non))))))))))
def gm_Reading_take_thread : Fm := bodyF 2 m_Reading_take_thread
def hm_Reading_take_thread : Gm := bodyS 2 m_Reading_take_thread
abbrev s_Reading_take_instruction : Stmt := (inClass (top 32) 5)
def dd_Reading_take_instruction : He.DefD := ⟨(("Reading" : Str), some ("take_instruction" : Str)), ("take_instruction" : Str), ("Reading.take_instruction" : Str), defArgs s_Reading_take_instruction, defBody s_Reading_take_instruction, defScope s_Reading_take_instruction, [], []⟩
abbrev ns_Reading_take_instruction : List Str := ["self", "words", "inner", "wrong", "found"]
theorem sc_Reading_take_instruction : FnScope ns_Reading_take_instruction ["self", "words"] (defScope s_Reading_take_instruction) := ⟨rfl, rfl, rfl, by decide +kernel, rfl, by decide +kernel, by decide +kernel⟩
def m_Reading_take_instruction : Sv := (seqS (ifS (orF (tF (bB gIs (flO ("Reading" : Str) ("name" : Str) (ovr 0)) (vO (cF .non)))) (tF (bF gGt (cbB gLen (consO (flO ("Reading" : Str) ("bad" : Str) (ovr 0)) nilO)) (cF (.int 0))))) (rtS (cF (.int 0))) nxS) (seqS (ifS (tF (bF gEq (bF gIx (vF 1) (cF (.int 0))) (cF (.str [101, 110, 100])))) (seqS (ifS (orF (tF (bF gLt (cbB gLen (consO (flO ("Reading" : Str) ("open_ones" : Str) (ovr 0)) nilO)) (cF (.int 2)))) (tF (bF gGt (cbF gLen (consF (vF 1) nilF)) (cF (.int 1))))) (rtS (ifF (tF (bF gLt (cbB gLen (consO (flO ("Reading" : Str) ("open_ones" : Str) (ovr 0)) nilO)) (cF (.int 2)))) (cF (.int 0)) (cF (.int 1)))) nxS) (seqS (stX 2 (ppF (flO ("Reading" : Str) ("open_ones" : Str) (ovr 0)))) (seqS (tgX (vO (bB gAdd (ixO (ixO (flO ("Reading" : Str) ("open_ones" : Str) (ovr 0)) (negF (cF (.int 1)))) (negF (cF (.int 1)))) (vO (tupF (consF (cbB gTuple (consO (ovr 2) nilO)) nilF))))) (isG (ixO (flO ("Reading" : Str) ("open_ones" : Str) (ovr 0)) (negF (cF (.int 1)))) (negF (cF (.int 1))))) (rtS (cF .non))))) nxS) (seqS (ifS (orF (tF (mtB ("Reading" : Str) ("is_full" : Str) 2 gm_Reading_is_full (ovr 0) (consO (vO (bF gEq (bF gIx (vF 1) (cF (.int 0))) (cF (.str [102, 101, 110, 99, 101])))) nilO))) (andF (tF (bF gEq (bF gIx (vF 1) (cF (.int 0))) (cF (.str [105, 102])))) (tF (bF gGt (cbB gLen (consO (flO ("Reading" : Str) ("open_ones" : Str) (ovr 0)) nilO)) (cF (.int 3)))))) (rtS (cF (.int 0))) nxS) (seqS (tgS (clB 2 gm_instruction_in (consO (vO (vF 1)) (consO (flO ("Reading" : Str) ("cells" : Str) (ovr 0)) nilO))) (tpG 2 (csG (nmG 3) (csG (nmG 4) nlG)))) (seqS (ifS (tF (bF gIsNot (vF 3) (cF .non))) (rtS (vF 3)) nxS) (seqS (exX (apF (ixO (flO ("Reading" : Str) ("open_ones" : Str) (ovr 0)) (negF (cF (.int 1)))) (vO (vF 4)))) (seqS (ifS (tF (bF gEq (bF gIx (vF 4) (cF (.int 0))) (cF (.str [102, 101, 110, 99, 101])))) (sgS ("Reading" : Str) ("fences" : Str) gAddI (ovr 0) (cF (.int 1))) (seqS (sgS ("Reading" : Str) ("here" : Str) gAddI (ovr 0) (cF (.int 1))) (sgS ("Reading" : Str) ("many" : Str) gAddI (ovr 0) (cF (.int 1))))) (seqS (ifS (tF (bF gEq (bF gIx (vF 4) (cF (.int 0))) (cF (.str [105, 102])))) (exX (apF (flO ("Reading" : Str) ("open_ones" : Str) (ovr 0)) (nlO nilO))) nxS) (rtS (cF .non))))))))))
def gm_Reading_take_instruction : Fm := bodyF 5 m_Reading_take_instruction
def hm_Reading_take_instruction : Gm := bodyS 5 m_Reading_take_instruction
abbrev s_Reading_take_bad : Stmt := (inClass (top 32) 7)
def dd_Reading_take_bad : He.DefD := ⟨(("Reading" : Str), some ("take_bad" : Str)), ("take_bad" : Str), ("Reading.take_bad" : Str), defArgs s_Reading_take_bad, defBody s_Reading_take_bad, defScope s_Reading_take_bad, [], []⟩
abbrev ns_Reading_take_bad : List Str := ["self", "words", "parts", "at", "wrong", "part", "registers"]
theorem sc_Reading_take_bad : FnScope ns_Reading_take_bad ["self", "words"] (defScope s_Reading_take_bad) := ⟨rfl, rfl, rfl, by decide +kernel, rfl, by decide +kernel, by decide +kernel⟩
def m_Reading_take_bad : Sv := (seqS (ifS (orF (tF (bB gIs (flO ("Reading" : Str) ("name" : Str) (ovr 0)) (vO (cF .non)))) (orF (tF (bF gGt (cbB gLen (consO (flO ("Reading" : Str) ("open_ones" : Str) (ovr 0)) nilO)) (cF (.int 1)))) (tF (bF gEq (cbB gLen (consO (flO ("Reading" : Str) ("bad" : Str) (ovr 0)) nilO)) (cF (.int 20)))))) (rtS (cF (.int 0))) nxS) (seqS (stX 2 (nlO nilO)) (seqS (forS (rgF rg3 (consF (cF (.int 1)) (consF (bF gAdd (cbF gLen (consF (vF 1) nilF)) (cF (.int 1))) (consF (cF (.int 4)) nilF)))) (nmG 3) (seqS (tgS (clB 3 gm_part_in (consO (vO (vF 1)) (consO (vO (vF 3)) (consO (ovr 0) nilO)))) (tpG 2 (csG (nmG 4) (csG (nmG 5) nlG)))) (seqS (ifS (tF (bF gIsNot (vF 4) (cF .non))) (rtS (vF 4)) nxS) (seqS (exX (apF (ovr 2) (vO (vF 5)))) (seqS (ifS (andF (tF (bF gLt (bF gAdd (vF 3) (cF (.int 3))) (cbF gLen (consF (vF 1) nilF)))) (tF (bF gNe (bF gIx (vF 1) (bF gAdd (vF 3) (cF (.int 3)))) (cF (.str [97, 110, 100]))))) (rtS (bF gAdd (vF 3) (cF (.int 3)))) nxS) (ifS (tF (bF gEq (bF gAdd (vF 3) (cF (.int 3))) (cbF gLen (consF (vF 1) nilF)))) (fun ρ => some (.bk ρ)) nxS)))))) (seqS (stS 6 (cbF gTuple (consF (cpF (sqF (fzV 2)) (nmG 5) (tF (bF gEq (cbF gLen (consF (vF 5) nilF)) (cF (.int 3)))) (vF 5) [5]) nilF))) (seqS (exX (apF (flO ("Reading" : Str) ("bad" : Str) (ovr 0)) (vO (tupF (consF (vF 6) (consF (cbF gTuple (consF (cpF (sqF (fzV 2)) (nmG 5) (tF (bF gEq (cbF gLen (consF (vF 5) nilF)) (cF (.int 2)))) (vF 5) [5]) nilF)) nilF)))))) (rtS (cF .non)))))))
def gm_Reading_take_bad : Fm := bodyF 7 m_Reading_take_bad
def hm_Reading_take_bad : Gm := bodyS 7 m_Reading_take_bad
abbrev s_Reading_line : Stmt := (inClass (top 32) 1)
def dd_Reading_line : He.DefD := ⟨(("Reading" : Str), some ("line" : Str)), ("line" : Str), ("Reading.line" : Str), defArgs s_Reading_line, defBody s_Reading_line, defScope s_Reading_line, [], []⟩
abbrev ns_Reading_line : List Str := ["self", "at", "words", "word", "wrong"]
theorem sc_Reading_line : FnScope ns_Reading_line ["self", "at", "words"] (defScope s_Reading_line) := ⟨rfl, rfl, rfl, by decide +kernel, rfl, by decide +kernel, by decide +kernel⟩
def m_Reading_line : Sv := (seqS (stS 3 (bF gIx (vF 2) (cF (.int 0)))) (seqS (ifS (tF (bF gIn (vF 3) (cF (.tup (List.map D.str [[112, 108, 97, 105, 110], [115, 121, 110, 99]]))))) (stS 4 (fzF (mtS ("Reading" : Str) ("take_cells" : Str) 2 hm_Reading_take_cells (ovr 0) (consO (vO (vF 2)) nilO)))) (ifS (tF (bF gEq (vF 3) (cF (.str [116, 104, 114, 101, 97, 100])))) (stS 4 (fzF (mtS ("Reading" : Str) ("take_thread" : Str) 2 hm_Reading_take_thread (ovr 0) (consO (vO (vF 2)) nilO)))) (ifS (tF (bF gEq (vF 3) (cF (.str [98, 97, 100])))) (stS 4 (fzF (mtS ("Reading" : Str) ("take_bad" : Str) 2 hm_Reading_take_bad (ovr 0) (consO (vO (vF 2)) nilO)))) (stS 4 (fzF (mtS ("Reading" : Str) ("take_instruction" : Str) 2 hm_Reading_take_instruction (ovr 0) (consO (vO (vF 2)) nilO))))))) (ifS (tF (bF gIsNot (vF 4) (cF .non))) (rsS ("TextWrong" : Str) (tupF (consF (vF 1) (consF (vF 4) nilF)))) nxS)))
def gm_Reading_line : Fm := bodyF 5 m_Reading_line
def hm_Reading_line : Gm := bodyS 5 m_Reading_line
abbrev s_read_text : Stmt := (top 37)
def dd_read_text : He.DefD := ⟨(("read_text" : Str), none), ("read_text" : Str), ("read_text" : Str), defArgs s_read_text, defBody s_read_text, defScope s_read_text, [], []⟩
abbrev ns_read_text : List Str := ["text", "reading", "lines", "at", "words", "word"]
theorem sc_read_text : FnScope ns_read_text ["text"] (defScope s_read_text) := ⟨rfl, rfl, rfl, by decide +kernel, rfl, by decide +kernel, by decide +kernel⟩
def m_read_text : Sv := (seqS (stX 1 (mkS ("Reading" : Str) 1 hm_Reading___init__ nilO)) (seqS (stS 2 (bmF isStr gSplit (vF 0) (consF (cF (.str [10])) nilF))) (seqS (forS (rgF rg1 (consF (cbF gLen (consF (vF 2) nilF)) nilF)) (nmG 3) (seqS (stS 4 (cpF (sqF (bmF isStr gSplit (bF gIx (bmF isStr gSplit (bF gIx (vF 2) (vF 3)) (consF (cF (.str [35])) nilF)) (cF (.int 0))) (consF (cF (.str [32])) nilF))) (nmG 5) (tF (bF gNe (vF 5) (cF (.str [])))) (vF 5) [5])) (ifS (tF (bF gGt (cbF gLen (consF (vF 4) nilF)) (cF (.int 0)))) (exX (mtS ("Reading" : Str) ("line" : Str) 3 hm_Reading_line (ovr 1) (consO (vO (vF 3)) (consO (vO (vF 4)) nilO)))) nxS))) (seqS (ifS (tF (bF gNe (cbB gLen (consO (flO ("Reading" : Str) ("open_ones" : Str) (ovr 1)) nilO)) (cF (.int 1)))) (rsS ("TextWrong" : Str) (tupF (consF (cbF gLen (consF (vF 2) nilF)) (consF (cF (.int 0)) nilF)))) nxS) (seqS (exX (mtS ("Reading" : Str) ("close" : Str) 1 hm_Reading_close (ovr 1) nilO)) (rtS (fzF (mkS ("Program" : Str) 4 hm_Program___init__ (consO (vO (fzF (flO ("Reading" : Str) ("cells" : Str) (ovr 1)))) (consO (vO (fzF (flO ("Reading" : Str) ("threads" : Str) (ovr 1)))) (consO (vO (fzF (flO ("Reading" : Str) ("bad" : Str) (ovr 1)))) nilO)))))))))))
def gm_read_text : Fm := bodyF 6 m_read_text
def hm_read_text : Gm := bodyS 6 m_read_text
abbrev s__law_draws : Stmt := (top 39)
def dd__law_draws : He.DefD := ⟨(("_law_draws" : Str), none), ("_law_draws" : Str), ("_law_draws" : Str), defArgs s__law_draws, defBody s__law_draws, defScope s__law_draws, [], []⟩
abbrev ns__law_draws : List Str := ["script"]
theorem sc__law_draws : FnScope ns__law_draws ["script"] (defScope s__law_draws) := ⟨rfl, rfl, rfl, by decide +kernel, rfl, by decide +kernel, by decide +kernel⟩
def m__law_draws : Sv := (rtX (nlO (consO (lsO (vF 0)) (consO (vO (cF (.int 0))) (consO (vO (cF (.int 0))) (consO (vO (cF (.int 1))) nilO))))))
def gm__law_draws : Fm := bodyF 1 m__law_draws
def hm__law_draws : Gm := bodyS 1 m__law_draws
abbrev s__law_draw : Stmt := (top 40)
def dd__law_draw : He.DefD := ⟨(("_law_draw" : Str), none), ("_law_draw" : Str), ("_law_draw" : Str), defArgs s__law_draw, defBody s__law_draw, defScope s__law_draw, [], []⟩
abbrev ns__law_draw : List Str := ["draws", "limit", "cell", "value"]
theorem sc__law_draw : FnScope ns__law_draw ["draws", "limit"] (defScope s__law_draw) := ⟨rfl, rfl, rfl, by decide +kernel, rfl, by decide +kernel, by decide +kernel⟩
def m__law_draw : Sv := (seqS (ifS (andF (tF (bB gEq (ixO (ovr 0) (cF (.int 2))) (vO (cF (.int 0))))) (tF (bB gLt (ixO (ovr 0) (cF (.int 1))) (vO (cbB gLen (consO (ixO (ovr 0) (cF (.int 0))) nilO)))))) (seqS (stS 2 (fzF (ixO (ixO (ovr 0) (cF (.int 0))) (fzF (ixO (ovr 0) (cF (.int 1))))))) (seqS (tgX (vO (bB gAdd (ixO (ovr 0) (cF (.int 1))) (vO (cF (.int 1))))) (isG (ovr 0) (cF (.int 1)))) (seqS (ifS (tF (bF gGe (vF 2) (bF gPow (cF (.int 10)) (cF (.int 18))))) (tgX (vO (vF 2)) (isG (ovr 0) (cF (.int 2)))) nxS) (tgX (vO (bF gMod (cbF gInt (consF (bF gAdd (bF gAdd (bB gMul (ixO (ovr 0) (cF (.int 3))) (vO (cF (.int 48271)))) (vF 2)) (cF (.int 13))) nilF)) (cF (.int 2147483647)))) (isG (ovr 0) (cF (.int 3))))))) nxS) (seqS (ifS (tF (bB gGt (ixO (ovr 0) (cF (.int 2))) (vO (cF (.int 0))))) (seqS (stS 3 (bF gMod (cbB gInt (consO (ixO (ovr 0) (cF (.int 2))) nilO)) (vF 1))) (seqS (tgX (vO (bB gFdiv (ixO (ovr 0) (cF (.int 2))) (vO (vF 1)))) (isG (ovr 0) (cF (.int 2)))) (rtS (vF 3)))) nxS) (seqS (tgX (vO (bF gMod (cbF gInt (consF (bF gAdd (bB gMul (ixO (ovr 0) (cF (.int 3))) (vO (cF (.int 69621)))) (cF (.int 7))) nilF)) (cF (.int 2147483629)))) (isG (ovr 0) (cF (.int 3)))) (rtS (bF gMod (cbF gInt (consF (bB gFdiv (ixO (ovr 0) (cF (.int 3))) (vO (cF (.int 11)))) nilF)) (vF 1))))))
def gm__law_draw : Fm := bodyF 4 m__law_draw
def hm__law_draw : Gm := bodyS 4 m__law_draw
abbrev s__law_same : Stmt := (top 41)
def dd__law_same : He.DefD := ⟨(("_law_same" : Str), none), ("_law_same" : Str), ("_law_same" : Str), defArgs s__law_same, defBody s__law_same, defScope s__law_same, [], []⟩
abbrev ns__law_same : List Str := ["x", "due", "right", "key", "at"]
theorem sc__law_same : FnScope ns__law_same ["x", "due"] (defScope s__law_same) := ⟨rfl, rfl, rfl, by decide +kernel, rfl, by decide +kernel, by decide +kernel⟩
def m__law_same (rec : Fm) : Sv := (seqS (ifS (tF (bF gIs (vF 1) (cF .non))) (rtS (bF gIs (vF 0) (cF .non))) nxS) (seqS (ifS (tF (cbF gIsi (consF (vF 1) (consF (cF (.ty 2)) nilF)))) (rtS (andV (cbF gIsi (consF (vF 0) (consF (cF (.ty 2)) nilF))) (bF gEq (vF 0) (vF 1)))) nxS) (seqS (ifS (tF (cbF gIsi (consF (vF 1) (consF (cF (.ty 1)) nilF)))) (rtS (andV (cbF gIsi (consF (vF 0) (consF (cF (.ty 1)) nilF))) (andV (notV (cbF gIsi (consF (vF 0) (consF (cF (.ty 2)) nilF)))) (bF gEq (vF 0) (vF 1))))) nxS) (seqS (ifS (tF (cbF gIsi (consF (vF 1) (consF (cF (.ty 0)) nilF)))) (rtS (andV (cbF gIsi (consF (vF 0) (consF (cF (.ty 0)) nilF))) (bF gEq (vF 0) (vF 1)))) nxS) (seqS (ifS (tF (cbF gIsi (consF (vF 1) (consF (cF (.ty 5)) nilF)))) (seqS (fun _ => none) (fun _ => none)) nxS) (seqS (ifS (tF (cbF gIsi (consF (vF 1) (consF (cF (.ty 4)) nilF)))) (stS 2 (cbF gIsi (consF (vF 0) (consF (cF (.ty 4)) nilF)))) (stS 2 (cbF gIsi (consF (vF 0) (consF (cF (.ty 3)) nilF))))) (rtS (andV (vF 2) (andV (bF gEq (cbF gLen (consF (vF 0) nilF)) (cbF gLen (consF (vF 1) nilF))) (cbF gAll (consF (cpF (rgF rg1 (consF (cbF gLen (consF (vF 1) nilF)) nilF)) (nmG 4) (retM true) (clF 2 rec (consF (bF gIx (vF 0) (vF 4)) (consF (bF gIx (vF 1) (vF 4)) nilF))) [4]) nilF)))))))))))
def gm__law_same : Nat → Fm
  | 0 => fun _ => none
  | n + 1 => bodyF 5 (m__law_same (gm__law_same n))
abbrev s__law_read : Stmt := (top 42)
def dd__law_read : He.DefD := ⟨(("_law_read" : Str), none), ("_law_read" : Str), ("_law_read" : Str), defArgs s__law_read, defBody s__law_read, defScope s__law_read, [], []⟩
abbrev ns__law_read : List Str := ["lines", "e"]
theorem sc__law_read : FnScope ns__law_read ["lines"] (defScope s__law_read) := ⟨rfl, rfl, rfl, by decide +kernel, rfl, by decide +kernel, by decide +kernel⟩
def m__law_read : Sv := (tyS (seqS (exS (clF 1 gm_read_text (consF (bmF isStr gJoin (cF (.str [10])) (consF (vF 0) nilF)) nilF))) (rtS (cF .non))) 1 mt_TextWrong (rtS (atF 1)))
def gm__law_read : Fm := bodyF 2 m__law_read
def hm__law_read : Gm := bodyS 2 m__law_read
abbrev s__law_bounds : Stmt := (top 43)
def dd__law_bounds : He.DefD := ⟨(("_law_bounds" : Str), none), ("_law_bounds" : Str), ("_law_bounds" : Str), defArgs s__law_bounds, defBody s__law_bounds, defScope s__law_bounds, [], []⟩
abbrev ns__law_bounds : List Str := ["draws", "many", "fine", "rows", "three", "name", "k"]
theorem sc__law_bounds : FnScope ns__law_bounds ["draws"] (defScope s__law_bounds) := ⟨rfl, rfl, rfl, by decide +kernel, rfl, by decide +kernel, by decide +kernel⟩
def m__law_bounds_s0' (dr : Gm) : Sv := (stS 1 (bB gAdd (vO (cF (.int 8))) (clS 2 dr (consO (ovr 0) (consO (vO (cF (.int 2))) nilO)))))
abbrev m__law_bounds_s0 : Sv := m__law_bounds_s0' hm__law_draw
def m__law_bounds_s1' (dr : Gm) : Sv := (stS 2 (bF gEq (vF 1) (cF (.int 8))))
abbrev m__law_bounds_s1 : Sv := m__law_bounds_s1' hm__law_draw
def m__law_bounds_s2' (dr : Gm) : Sv := (stS 3 (lstF (consF (tupF (consF (lstF (consF (bF gAdd (cF (.str [112, 108, 97, 105, 110, 32])) (bmF isStr gJoin (cF (.str [32])) (consF (cpF (rgF rg1 (consF (vF 1) nilF)) (nmG 6) (retM true) (bF gAdd (cF (.str [99])) (cbF gStr (consF (vF 6) nilF))) [6]) nilF))) (consF (cF (.str [116, 104, 114, 101, 97, 100, 32, 97])) nilF))) (consF (ifF (tF (vF 2)) (cF .non) (tupF (consF (cF (.int 0)) (consF (cF (.int 9)) nilF)))) nilF))) (consF (tupF (consF (bF gAdd (lstF (consF (cF (.str [112, 108, 97, 105, 110, 32, 120])) (consF (cF (.str [116, 104, 114, 101, 97, 100, 32, 97])) nilF))) (bF gMul (lstF (consF (cF (.str [115, 101, 116, 32, 120, 32, 49])) nilF)) (vF 1))) (consF (ifF (tF (vF 2)) (cF .non) (tupF (consF (cF (.int 10)) (consF (cF (.int 0)) nilF)))) nilF))) nilF))))
abbrev m__law_bounds_s2 : Sv := m__law_bounds_s2' hm__law_draw
def m__law_bounds_s3' (dr : Gm) : Sv := (stS 3 (bF gAdd (vF 3) (lstF (consF (tupF (consF (bF gAdd (bF gAdd (bF gAdd (bF gAdd (bF gAdd (lstF (consF (cF (.str [112, 108, 97, 105, 110, 32, 120])) (consF (cF (.str [116, 104, 114, 101, 97, 100, 32, 97])) nilF))) (bF gMul (lstF (consF (cF (.str [115, 101, 116, 32, 120, 32, 49])) nilF)) (cF (.int 7)))) (lstF (consF (cF (.str [105, 102, 32, 49, 32, 61, 32, 49])) nilF))) (bF gMul (lstF (consF (cF (.str [101, 110, 100])) nilF)) (cbF gInt (consF (vF 2) nilF)))) (bF gMul (lstF (consF (cF (.str [103, 101, 116, 32, 114, 32, 120])) nilF)) (cbF gInt (consF (notV (vF 2)) nilF)))) (bF gMul (lstF (consF (cF (.str [101, 110, 100])) nilF)) (cbF gInt (consF (notV (vF 2)) nilF)))) (consF (ifF (tF (vF 2)) (cF .non) (tupF (consF (cF (.int 10)) (consF (cF (.int 0)) nilF)))) nilF))) nilF))))
abbrev m__law_bounds_s3 : Sv := m__law_bounds_s3' hm__law_draw
def m__law_bounds_s4' (dr : Gm) : Sv := (stS 3 (bF gAdd (vF 3) (lstF (consF (tupF (consF (cpF (rgF rg1 (consF (bF LP.gSub (vF 1) (cF (.int 4))) nilF)) (nmG 6) (retM true) (bF gAdd (cF (.str [116, 104, 114, 101, 97, 100, 32, 116])) (cbF gStr (consF (vF 6) nilF))) [6]) (consF (ifF (tF (vF 2)) (cF .non) (tupF (consF (cF (.int 4)) (consF (cF (.int 0)) nilF)))) nilF))) (consF (tupF (consF (bF gAdd (lstF (consF (cF (.str [116, 104, 114, 101, 97, 100, 32, 97])) nilF)) (bF gMul (lstF (consF (cF (.str [102, 101, 110, 99, 101])) nilF)) (bF gAdd (vF 1) (cF (.int 8))))) (consF (ifF (tF (vF 2)) (cF .non) (tupF (consF (cF (.int 17)) (consF (cF (.int 0)) nilF)))) nilF))) nilF)))))
abbrev m__law_bounds_s4 : Sv := m__law_bounds_s4' hm__law_draw
def m__law_bounds_s5' (dr : Gm) : Sv := (stS 3 (bF gAdd (vF 3) (lstF (consF (tupF (consF (bF gAdd (bF gAdd (lstF (consF (cF (.str [116, 104, 114, 101, 97, 100, 32, 97])) nilF)) (bF gMul (lstF (consF (cF (.str [105, 102, 32, 49, 32, 61, 32, 50])) nilF)) (bF LP.gSub (vF 1) (cF (.int 5))))) (bF gMul (lstF (consF (cF (.str [101, 110, 100])) nilF)) (bF LP.gSub (vF 1) (cF (.int 5))))) (consF (ifF (tF (vF 2)) (cF .non) (tupF (consF (cF (.int 4)) (consF (cF (.int 0)) nilF)))) nilF))) (consF (tupF (consF (bF gAdd (lstF (consF (cF (.str [116, 104, 114, 101, 97, 100, 32, 97])) nilF)) (bF gMul (lstF (consF (cF (.str [98, 97, 100, 32, 97, 46, 114, 32, 61, 32, 49])) nilF)) (bF gAdd (vF 1) (cF (.int 12))))) (consF (ifF (tF (vF 2)) (cF .non) (tupF (consF (cF (.int 21)) (consF (cF (.int 0)) nilF)))) nilF))) nilF)))))
abbrev m__law_bounds_s5 : Sv := m__law_bounds_s5' hm__law_draw
def m__law_bounds_s6' (dr : Gm) : Sv := (stS 3 (bF gAdd (vF 3) (lstF (consF (tupF (consF (bF gAdd (bF gAdd (lstF (consF (cF (.str [112, 108, 97, 105, 110, 32, 120])) (consF (cF (.str [116, 104, 114, 101, 97, 100, 32, 97])) nilF))) (bF gMul (lstF (consF (cF (.str [115, 101, 116, 32, 120, 32, 49])) nilF)) (cF (.int 8)))) (lstF (consF (cF (.str [115, 101, 116, 32, 120])) nilF))) (consF (tupF (consF (cF (.int 10)) (consF (cF (.int 0)) nilF))) nilF))) (consF (tupF (consF (bF gAdd (bF gAdd (lstF (consF (cF (.str [116, 104, 114, 101, 97, 100, 32, 97])) nilF)) (bF gMul (lstF (consF (cF (.str [105, 102, 32, 49, 32, 61, 32, 50])) nilF)) (cF (.int 3)))) (lstF (consF (cF (.str [105, 102, 32, 49, 32, 60])) nilF))) (consF (tupF (consF (cF (.int 4)) (consF (cF (.int 0)) nilF))) nilF))) (consF (tupF (consF (bF gAdd (bF gAdd (lstF (consF (cF (.str [116, 104, 114, 101, 97, 100, 32, 97])) nilF)) (bF gMul (lstF (consF (cF (.str [102, 101, 110, 99, 101])) nilF)) (cF (.int 16)))) (lstF (consF (cF (.str [102, 101, 110, 99, 101, 32, 120])) nilF))) (consF (tupF (consF (cF (.int 17)) (consF (cF (.int 0)) nilF))) nilF))) nilF))))))
abbrev m__law_bounds_s6 : Sv := m__law_bounds_s6' hm__law_draw
def m__law_bounds_s7' (dr : Gm) : Sv := (stS 4 (lstF nilF))
abbrev m__law_bounds_s7 : Sv := m__law_bounds_s7' hm__law_draw
def m__law_bounds_s8' (dr : Gm) : Sv := (forS (sqF (lstF (consF (cF (.str [97])) (consF (cF (.str [98])) (consF (cF (.str [99])) nilF))))) (nmG 5) (stS 4 (bF gAdd (bF gAdd (vF 4) (lstF (consF (bF gAdd (cF (.str [116, 104, 114, 101, 97, 100, 32])) (vF 5)) nilF))) (bF gMul (lstF (consF (cF (.str [108, 101, 116, 32, 114, 32, 49, 32, 43, 32, 49])) nilF)) (cF (.int 8))))))
abbrev m__law_bounds_s8 : Sv := m__law_bounds_s8' hm__law_draw
def m__law_bounds_s9' (dr : Gm) : Sv := (stS 3 (bF gAdd (vF 3) (lstF (consF (tupF (consF (bF gAdd (bF gAdd (vF 4) (lstF (consF (cF (.str [116, 104, 114, 101, 97, 100, 32, 100])) nilF))) (slF (lstF (consF (cF (.str [102, 101, 110, 99, 101])) (consF (cF (.str [108, 101, 116, 32, 114, 32, 49, 32, 43, 32, 49])) nilF))) noP (soP (bF LP.gSub (vF 1) (cF (.int 7)))))) (consF (ifF (tF (vF 2)) (cF .non) (tupF (consF (cF (.int 29)) (consF (cF (.int 0)) nilF)))) nilF))) (consF (tupF (consF (lstF (consF (cF (.str [116, 104, 114, 101, 97, 100, 32, 97])) (consF (cF (.str [105, 102, 32, 49, 32, 61, 32, 49])) nilF))) (consF (tupF (consF (cF (.int 2)) (consF (cF (.int 0)) nilF))) nilF))) nilF)))))
abbrev m__law_bounds_s9 : Sv := m__law_bounds_s9' hm__law_draw
def m__law_bounds_s10' (dr : Gm) : Sv := (stS 3 (bF gAdd (vF 3) (lstF (consF (tupF (consF (lstF (consF (cF (.str [112, 108, 97, 105, 110, 32, 120])) nilF)) (consF (tupF (consF (cF (.int 1)) (consF (cF (.int 0)) nilF))) nilF))) (consF (tupF (consF (lstF (consF (cF (.str [])) nilF)) (consF (tupF (consF (cF (.int 1)) (consF (cF (.int 0)) nilF))) nilF))) (consF (tupF (consF (lstF (consF (cF (.str [116, 104, 114, 101, 97, 100, 32, 97])) (consF (cF (.str [98, 97, 100, 32, 97, 46, 114, 32, 61, 32, 49])) (consF (cF (.str [98, 97, 100, 32, 97, 46, 114, 32, 61, 32, 49])) (consF (cF (.str [])) nilF))))) (consF (cF .non) nilF))) nilF))))))
abbrev m__law_bounds_s10 : Sv := m__law_bounds_s10' hm__law_draw
def m__law_bounds_s11' (dr : Gm) : Sv := (rtS (bF gIx (vF 3) (fzF (clS 2 dr (consO (ovr 0) (consO (vO (cbF gLen (consF (vF 3) nilF))) nilO))))))
abbrev m__law_bounds_s11 : Sv := m__law_bounds_s11' hm__law_draw
def m__law_bounds : Sv := (seqS m__law_bounds_s0 (seqS m__law_bounds_s1 (seqS m__law_bounds_s2 (seqS m__law_bounds_s3 (seqS m__law_bounds_s4 (seqS m__law_bounds_s5 (seqS m__law_bounds_s6 (seqS m__law_bounds_s7 (seqS m__law_bounds_s8 (seqS m__law_bounds_s9 (seqS m__law_bounds_s10 m__law_bounds_s11)))))))))))
def gm__law_bounds : Fm := bodyF 7 m__law_bounds
def hm__law_bounds : Gm := bodyS 7 m__law_bounds
abbrev s_law : Stmt := (top 44)
def dd_law : He.DefD := ⟨(("law" : Str), none), ("law" : Str), ("law" : Str), defArgs s_law, defBody s_law, defScope s_law, [], []⟩
abbrev ns_law : List Str := ["script", "draws", "lines", "due", "top", "body", "back", "first", "inner", "last", "kind", "rows", "line", "word", "at", "whole", "odd", "told"]
theorem sc_law : FnScope ns_law ["script"] (defScope s_law) := ⟨rfl, rfl, rfl, by decide +kernel, rfl, by decide +kernel, by decide +kernel⟩
def m_law_s0' (dr : Gm) : Sv := (stX 1 (clS 1 hm__law_draws (consO (vO (vF 0)) nilO)))
abbrev m_law_s0 : Sv := m_law_s0' hm__law_draw
def m_law_s1' (dr : Gm) : Sv := (tgS (fzF (clS 1 hm__law_bounds (consO (ovr 1) nilO))) (tpG 2 (csG (nmG 2) (csG (nmG 3) nlG))))
abbrev m_law_s1 : Sv := m_law_s1' hm__law_draw
def m_law_s2' (dr : Gm) : Sv := (ifS (notF (tF (clF 2 (gm__law_same 7) (consF (clF 1 gm__law_read (consF (vF 2) nilF)) (consF (vF 3) nilF))))) (rtS (cF (.bl false))) nxS)
abbrev m_law_s2 : Sv := m_law_s2' hm__law_draw
def m_law_s3' (dr : Gm) : Sv := (stS 4 (lstF (consF (cF (.str [112, 108, 97, 105, 110, 32, 120, 32, 121, 61, 51])) (consF (cF (.str [115, 121, 110, 99, 32, 102])) nilF))))
abbrev m_law_s3 : Sv := m_law_s3' hm__law_draw
def m_law_s4' (dr : Gm) : Sv := (stS 5 (lstF (consF (cF (.str [116, 104, 114, 101, 97, 100, 32, 97])) (consF (cF (.str [115, 101, 116, 32, 120, 32, 114])) (consF (cF (.str [105, 102, 32, 114, 32, 33, 61, 32, 50])) (consF (cF (.str [97, 100, 100, 32, 115, 32, 102, 32, 49])) (consF (cF (.str [101, 110, 100])) (consF (cF (.str [116, 104, 114, 101, 97, 100, 32, 98, 50])) (consF (cF (.str [97, 119, 97, 105, 116, 32, 121, 32, 55])) nilF)))))))))
abbrev m_law_s4 : Sv := m_law_s4' hm__law_draw
def m_law_s5' (dr : Gm) : Sv := (stS 6 (lstF (consF (cF (.str [98, 97, 100, 32, 97, 46, 114, 32, 61, 32, 49, 32, 97, 110, 100, 32, 98, 50, 46, 115, 32, 61, 32, 48, 32, 97, 110, 100, 32, 120, 32, 61, 32, 50])) (consF (cF (.str [98, 97, 100, 32, 121, 32, 61, 32, 48])) nilF))))
abbrev m_law_s5 : Sv := m_law_s5' hm__law_draw
def m_law_s6' (dr : Gm) : Sv := (stS 7 (lstF (consF (tupF (consF (cF (.str [112, 108, 97, 105, 110])) (consF (cF (.int 1)) nilF))) (consF (tupF (consF (cF (.str [115, 121, 110, 99])) (consF (cF (.int 1)) nilF))) (consF (tupF (consF (cF (.str [112, 108, 97, 105, 110, 32, 120])) (consF (cF (.int 1)) nilF))) (consF (tupF (consF (cF (.str [112, 108, 97, 105, 110, 32, 49])) (consF (cF (.int 1)) nilF))) (consF (tupF (consF (cF (.str [115, 121, 110, 99, 32, 103, 61, 56])) (consF (cF (.int 1)) nilF))) (consF (tupF (consF (cF (.str [115, 121, 110, 99, 32, 103, 32, 104, 61, 49, 61, 50])) (consF (cF (.int 2)) nilF))) (consF (tupF (consF (cF (.str [112, 108, 97, 105, 110, 32, 103, 32, 103])) (consF (cF (.int 2)) nilF))) (consF (tupF (consF (cF (.str [115, 121, 110, 99, 32, 102, 101, 110, 99, 101])) (consF (cF (.int 1)) nilF))) nilF))))))))))
abbrev m_law_s6 : Sv := m_law_s6' hm__law_draw
def m_law_s7' (dr : Gm) : Sv := (stS 7 (bF gAdd (vF 7) (lstF (consF (tupF (consF (cF (.str [112, 108, 97, 105, 110, 32, 97, 98, 99, 100, 101, 102, 103, 104, 105])) (consF (cF (.int 1)) nilF))) (consF (tupF (consF (cF (.str [112, 108, 97, 105, 110, 32, 65])) (consF (cF (.int 1)) nilF))) (consF (tupF (consF (cF (.str [115, 101, 116, 32, 120, 32, 49])) (consF (cF (.int 0)) nilF))) (consF (tupF (consF (cF (.str [101, 110, 100])) (consF (cF (.int 0)) nilF))) (consF (tupF (consF (cF (.str [98, 97, 100, 32, 120, 32, 61, 32, 49])) (consF (cF (.int 0)) nilF))) (consF (tupF (consF (cF (.str [99, 101, 108, 108, 32, 122])) (consF (cF (.int 0)) nilF))) (consF (tupF (consF (cF (.str [102, 101, 110, 99, 101])) (consF (cF (.int 0)) nilF))) nilF))))))))))
abbrev m_law_s7 : Sv := m_law_s7' hm__law_draw
def m_law_s8' (dr : Gm) : Sv := (stS 8 (lstF (consF (tupF (consF (cF (.str [115, 101, 116, 32, 122, 32, 49])) (consF (cF (.int 1)) nilF))) (consF (tupF (consF (cF (.str [115, 101, 116, 32, 120])) (consF (cF (.int 2)) nilF))) (consF (tupF (consF (cF (.str [115, 101, 116, 32, 120, 32, 56])) (consF (cF (.int 2)) nilF))) (consF (tupF (consF (cF (.str [115, 101, 116, 32, 120, 32, 49, 32, 50])) (consF (cF (.int 3)) nilF))) (consF (tupF (consF (cF (.str [103, 101, 116, 32, 49, 32, 120])) (consF (cF (.int 1)) nilF))) (consF (tupF (consF (cF (.str [103, 101, 116, 32, 114])) (consF (cF (.int 2)) nilF))) (consF (tupF (consF (cF (.str [103, 101, 116, 32, 114, 32, 113])) (consF (cF (.int 2)) nilF))) (consF (tupF (consF (cF (.str [115, 119, 97, 112, 32, 114, 32, 120])) (consF (cF (.int 3)) nilF))) (consF (tupF (consF (cF (.str [97, 100, 100, 32, 114, 32, 120, 32, 45, 49])) (consF (cF (.int 3)) nilF))) nilF)))))))))))
abbrev m_law_s8 : Sv := m_law_s8' hm__law_draw
def m_law_s9' (dr : Gm) : Sv := (stS 8 (bF gAdd (vF 8) (lstF (consF (tupF (consF (cF (.str [97, 100, 100, 32, 114, 32, 49, 32, 49])) (consF (cF (.int 2)) nilF))) (consF (tupF (consF (cF (.str [108, 101, 116, 32, 114, 32, 49])) (consF (cF (.int 3)) nilF))) (consF (tupF (consF (cF (.str [108, 101, 116, 32, 114, 32, 49, 32, 47, 32, 49])) (consF (cF (.int 3)) nilF))) (consF (tupF (consF (cF (.str [108, 101, 116, 32, 114, 32, 49, 32, 43, 32])) (consF (cF (.int 4)) nilF))) (consF (tupF (consF (cF (.str [108, 101, 116, 32, 115, 101, 116, 32, 49, 32, 43, 32, 49])) (consF (cF (.int 1)) nilF))) nilF))))))))
abbrev m_law_s9 : Sv := m_law_s9' hm__law_draw
def m_law_s10' (dr : Gm) : Sv := (stS 8 (bF gAdd (vF 8) (lstF (consF (tupF (consF (cF (.str [102, 101, 110, 99, 101, 32, 120])) (consF (cF (.int 1)) nilF))) (consF (tupF (consF (cF (.str [97, 119, 97, 105, 116, 32, 120])) (consF (cF (.int 2)) nilF))) (consF (tupF (consF (cF (.str [97, 119, 97, 105, 116, 32, 120, 32, 114])) (consF (cF (.int 2)) nilF))) (consF (tupF (consF (cF (.str [97, 119, 97, 105, 116, 32, 49, 32, 49])) (consF (cF (.int 1)) nilF))) (consF (tupF (consF (cF (.str [105, 102, 32, 114])) (consF (cF (.int 2)) nilF))) (consF (tupF (consF (cF (.str [105, 102, 32, 114, 32, 60, 32, 49])) (consF (cF (.int 2)) nilF))) (consF (tupF (consF (cF (.str [105, 102, 32, 114, 32, 61])) (consF (cF (.int 3)) nilF))) (consF (tupF (consF (cF (.str [105, 102, 32, 114, 32, 61, 32, 49, 32, 120])) (consF (cF (.int 4)) nilF))) nilF)))))))))))
abbrev m_law_s10 : Sv := m_law_s10' hm__law_draw
def m_law_s11' (dr : Gm) : Sv := (stS 8 (bF gAdd (vF 8) (lstF (consF (tupF (consF (cF (.str [101, 110, 100, 32, 120])) (consF (cF (.int 0)) nilF))) (consF (tupF (consF (cF (.str [112, 108, 97, 105, 110, 32, 122])) (consF (cF (.int 0)) nilF))) (consF (tupF (consF (cF (.str [116, 104, 114, 101, 97, 100, 32, 98, 50])) (consF (cF (.int 1)) nilF))) (consF (tupF (consF (cF (.str [116, 104, 114, 101, 97, 100])) (consF (cF (.int 1)) nilF))) (consF (tupF (consF (cF (.str [116, 104, 114, 101, 97, 100, 32, 99, 32, 100])) (consF (cF (.int 2)) nilF))) (consF (tupF (consF (cF (.str [116, 104, 114, 101, 97, 100, 32, 105, 102])) (consF (cF (.int 1)) nilF))) (consF (tupF (consF (cF (.str [115, 105, 110, 103])) (consF (cF (.int 0)) nilF))) (consF (tupF (consF (cF (.str [120])) (consF (cF (.int 0)) nilF))) nilF)))))))))))
abbrev m_law_s11 : Sv := m_law_s11' hm__law_draw
def m_law_s12' (dr : Gm) : Sv := (stS 9 (lstF (consF (tupF (consF (cF (.str [115, 101, 116, 32, 120, 32, 49])) (consF (cF (.int 0)) nilF))) (consF (tupF (consF (cF (.str [116, 104, 114, 101, 97, 100, 32, 99])) (consF (cF (.int 0)) nilF))) (consF (tupF (consF (cF (.str [101, 110, 100])) (consF (cF (.int 0)) nilF))) (consF (tupF (consF (cF (.str [112, 108, 97, 105, 110, 32, 122])) (consF (cF (.int 0)) nilF))) (consF (tupF (consF (cF (.str [98, 97, 100])) (consF (cF (.int 1)) nilF))) (consF (tupF (consF (cF (.str [98, 97, 100, 32, 120])) (consF (cF (.int 2)) nilF))) (consF (tupF (consF (cF (.str [98, 97, 100, 32, 120, 32, 61])) (consF (cF (.int 3)) nilF))) (consF (tupF (consF (cF (.str [98, 97, 100, 32, 120, 32, 61, 32, 56])) (consF (cF (.int 3)) nilF))) (consF (tupF (consF (cF (.str [98, 97, 100, 32, 120, 32, 61, 32, 114])) (consF (cF (.int 3)) nilF))) nilF)))))))))))
abbrev m_law_s12 : Sv := m_law_s12' hm__law_draw
def m_law_s13' (dr : Gm) : Sv := (stS 9 (bF gAdd (vF 9) (lstF (consF (tupF (consF (cF (.str [98, 97, 100, 32, 122, 32, 61, 32, 49])) (consF (cF (.int 1)) nilF))) (consF (tupF (consF (cF (.str [98, 97, 100, 32, 99, 46, 114, 32, 61, 32, 49])) (consF (cF (.int 1)) nilF))) (consF (tupF (consF (cF (.str [98, 97, 100, 32, 97, 46, 49, 32, 61, 32, 49])) (consF (cF (.int 1)) nilF))) (consF (tupF (consF (cF (.str [98, 97, 100, 32, 97, 46, 114, 46, 115, 32, 61, 32, 49])) (consF (cF (.int 1)) nilF))) (consF (tupF (consF (cF (.str [98, 97, 100, 32, 120, 32, 61, 32, 49, 32, 97, 110, 100])) (consF (cF (.int 5)) nilF))) (consF (tupF (consF (cF (.str [98, 97, 100, 32, 120, 32, 61, 32, 49, 32, 111, 114, 32, 121, 32, 61, 32, 49])) (consF (cF (.int 4)) nilF))) nilF)))))))))
abbrev m_law_s13 : Sv := m_law_s13' hm__law_draw
def m_law_s14' (dr : Gm) : Sv := (stS 9 (bF gAdd (vF 9) (lstF (consF (tupF (consF (cF (.str [98, 97, 100, 32, 120, 32, 61, 32, 49, 32, 121, 32, 61, 32, 49])) (consF (cF (.int 4)) nilF))) (consF (tupF (consF (cF (.str [98, 97, 100, 32, 120, 32, 61, 32, 49, 32, 97, 110, 100, 32, 121])) (consF (cF (.int 6)) nilF))) (consF (tupF (consF (cF (.str [98, 97, 100, 32, 97, 46, 114, 32, 61, 32, 49, 32, 97, 110, 100, 32, 120, 32, 61, 32, 49, 32, 97, 110, 100])) (consF (cF (.int 9)) nilF))) (consF (tupF (consF (cF (.str [98, 97, 100, 32, 97, 46, 32, 61, 32, 49])) (consF (cF (.int 1)) nilF))) (consF (tupF (consF (cF (.str [98, 97, 100, 32, 46, 114, 32, 61, 32, 49])) (consF (cF (.int 1)) nilF))) nilF))))))))
abbrev m_law_s14 : Sv := m_law_s14' hm__law_draw
def m_law_s15' (dr : Gm) : Sv := (stS 10 (fzF (clS 2 dr (consO (ovr 1) (consO (vO (cF (.int 3))) nilO)))))
abbrev m_law_s15 : Sv := m_law_s15' hm__law_draw
def m_law_s16' (dr : Gm) : Sv := (stS 11 (bF gIx (lstF (consF (vF 7) (consF (vF 8) (consF (vF 9) nilF)))) (vF 10)))
abbrev m_law_s16 : Sv := m_law_s16' hm__law_draw
def m_law_s17' (dr : Gm) : Sv := (tgS (bF gIx (vF 11) (fzF (clS 2 dr (consO (ovr 1) (consO (vO (cbF gLen (consF (vF 11) nilF))) nilO))))) (tpG 2 (csG (nmG 12) (csG (nmG 13) nlG))))
abbrev m_law_s17 : Sv := m_law_s17' hm__law_draw
def m_law_s18' (dr : Gm) : Sv := (ifS (tF (bF gEq (vF 10) (cF (.int 0)))) (stS 14 (ifF (tF (bF gIn (vF 12) (tupF (consF (cF (.str [112, 108, 97, 105, 110, 32, 120])) (consF (cF (.str [115, 101, 116, 32, 120, 32, 49])) (consF (cF (.str [98, 97, 100, 32, 120, 32, 61, 32, 49])) nilF)))))) (bB gAdd (vO (cF (.int 1))) (clS 2 dr (consO (ovr 1) (consO (vO (cF (.int 2))) nilO)))) (fzF (clS 2 dr (consO (ovr 1) (consO (vO (cF (.int 3))) nilO)))))) (stS 14 (ifF (tF (bF gEq (vF 10) (cF (.int 1)))) (bF gAdd (cbF gLen (consF (vF 4) nilF)) (cbF gLen (consF (vF 5) nilF))) (bB gAdd (vO (bF gAdd (bF gAdd (cbF gLen (consF (vF 4) nilF)) (cbF gLen (consF (vF 5) nilF))) (cF (.int 1)))) (clS 2 dr (consO (ovr 1) (consO (vO (cF (.int 2))) nilO)))))))
abbrev m_law_s18 : Sv := m_law_s18' hm__law_draw
def m_law_s19' (dr : Gm) : Sv := (stS 15 (bF gAdd (bF gAdd (vF 4) (vF 5)) (vF 6)))
abbrev m_law_s19 : Sv := m_law_s19' hm__law_draw
def m_law_s20' (dr : Gm) : Sv := (ifS (andF (tF (bF gEq (vF 10) (cF (.int 1)))) (tF (bF gNotIn (vF 12) (tupF (consF (cF (.str [116, 104, 114, 101, 97, 100, 32, 98, 50])) (consF (cF (.str [112, 108, 97, 105, 110, 32, 122])) (consF (cF (.str [101, 110, 100, 32, 120])) (consF (cF (.str [116, 104, 114, 101, 97, 100])) (consF (cF (.str [116, 104, 114, 101, 97, 100, 32, 99, 32, 100])) (consF (cF (.str [116, 104, 114, 101, 97, 100, 32, 105, 102])) nilF)))))))))) (stS 14 (bB gAdd (vO (cF (.int 3))) (clS 2 dr (consO (ovr 1) (consO (vO (cF (.int 7))) nilO))))) nxS)
abbrev m_law_s20 : Sv := m_law_s20' hm__law_draw
def m_law_s21' (dr : Gm) : Sv := (ifS (notF (tF (clF 2 (gm__law_same 7) (consF (lstF (consF (clF 1 gm__law_read (consF (bF gAdd (bF gAdd (slF (vF 15) noP (soP (vF 14))) (lstF (consF (vF 12) nilF))) (slF (vF 15) (soP (vF 14)) noP)) nilF)) (consF (clF 1 gm__law_read (consF (vF 15) nilF)) nilF))) (consF (lstF (consF (tupF (consF (vF 14) (consF (vF 13) nilF))) (consF (cF .non) nilF))) nilF))))) (rtS (cF (.bl false))) nxS)
abbrev m_law_s21 : Sv := m_law_s21' hm__law_draw
def m_law_s22' (dr : Gm) : Sv := (stS 16 (lstF (consF (tupF (consF (lstF (consF (cF (.str [116, 104, 114, 101, 97, 100, 32, 97])) (consF (cF (.str [105, 102, 32, 49, 32, 61, 32, 49])) (consF (cF (.str [116, 104, 114, 101, 97, 100, 32, 98])) (consF (cF (.str [101, 110, 100])) nilF))))) (consF (tupF (consF (cF (.int 2)) (consF (cF (.int 0)) nilF))) nilF))) (consF (tupF (consF (lstF (consF (cF (.str [116, 104, 114, 101, 97, 100, 32, 97])) (consF (cF (.str [105, 102, 32, 49, 32, 61, 32, 49])) (consF (cF (.str [98, 97, 100, 32, 97, 46, 114, 32, 61, 32, 49])) (consF (cF (.str [101, 110, 100])) nilF))))) (consF (tupF (consF (cF (.int 2)) (consF (cF (.int 0)) nilF))) nilF))) nilF))))
abbrev m_law_s22 : Sv := m_law_s22' hm__law_draw
def m_law_s23' (dr : Gm) : Sv := (stS 16 (bF gAdd (vF 16) (lstF (consF (tupF (consF (lstF (consF (cF (.str [116, 104, 114, 101, 97, 100, 32, 97])) (consF (cF (.str [105, 102, 32, 49, 32, 61, 32, 49])) (consF (cF (.str [101, 110, 100, 32, 120])) nilF)))) (consF (tupF (consF (cF (.int 2)) (consF (cF (.int 1)) nilF))) nilF))) (consF (tupF (consF (lstF (consF (cF (.str [116, 104, 114, 101, 97, 100, 32, 97])) (consF (cF (.str [105, 102, 32, 49, 32, 61, 32, 49])) (consF (cF (.str [112, 108, 97, 105, 110, 32, 120])) (consF (cF (.str [101, 110, 100])) nilF))))) (consF (tupF (consF (cF (.int 2)) (consF (cF (.int 0)) nilF))) nilF))) nilF)))))
abbrev m_law_s23 : Sv := m_law_s23' hm__law_draw
def m_law_s24' (dr : Gm) : Sv := (rtS (clF 2 (gm__law_same 7) (consF (cpF (sqF (vF 16)) (tpG 2 (csG (nmG 2) (csG (nmG 17) nlG))) (retM true) (clF 1 gm__law_read (consF (vF 2) nilF)) [2, 17]) (consF (cpF (sqF (vF 16)) (tpG 2 (csG (nmG 2) (csG (nmG 17) nlG))) (retM true) (vF 17) [2, 17]) nilF))))
abbrev m_law_s24 : Sv := m_law_s24' hm__law_draw
def m_law : Sv := (seqS m_law_s0 (seqS m_law_s1 (seqS m_law_s2 (seqS m_law_s3 (seqS m_law_s4 (seqS m_law_s5 (seqS m_law_s6 (seqS m_law_s7 (seqS m_law_s8 (seqS m_law_s9 (seqS m_law_s10 (seqS m_law_s11 (seqS m_law_s12 (seqS m_law_s13 (seqS m_law_s14 (seqS m_law_s15 (seqS m_law_s16 (seqS m_law_s17 (seqS m_law_s18 (seqS m_law_s19 (seqS m_law_s20 (seqS m_law_s21 (seqS m_law_s22 (seqS m_law_s23 m_law_s24))))))))))))))))))))))))
def gm_law : Fm := bodyF 18 m_law
def hm_law : Gm := bodyS 18 m_law
theorem b_all : bootBuiltins "all" = some (.builtin "all") := by decide +kernel
theorem b_isinstance : bootBuiltins "isinstance" = some (.builtin "isinstance") := by decide +kernel
theorem b_len : bootBuiltins "len" = some (.builtin "len") := by decide +kernel
theorem b_bool : bootBuiltins "bool" = some (.type "bool") := by decide +kernel
theorem b_dict : bootBuiltins "dict" = some (.type "dict") := by decide +kernel
theorem b_int : bootBuiltins "int" = some (.type "int") := by decide +kernel
theorem b_list : bootBuiltins "list" = some (.type "list") := by decide +kernel
theorem b_str : bootBuiltins "str" = some (.type "str") := by decide +kernel
theorem b_tuple : bootBuiltins "tuple" = some (.type "tuple") := by decide +kernel
def fn : List He.DefD := [dd_is_name, dd_is_value, dd_is_operand, dd_is_cell, dd_is_instruction, dd_how_many, dd_is_bad, dd_check_cells, dd_check_threads, dd_Program___init__, dd_value_in, dd_operand_in, dd_field_in, dd_instruction_in, dd_part_in, dd_Reading_is_full, dd_Reading___init__, dd_Reading_take_cells, dd_Reading_close, dd_Reading_take_thread, dd_Reading_take_instruction, dd_Reading_take_bad, dd_Reading_line, dd_read_text, dd__law_draws, dd__law_draw, dd__law_same, dd__law_read, dd__law_bounds, dd_law]
def fa : List He.Fa := [.str ("LETTERS" : Str) ⟨⟨[97, 98, 99, 100, 101, 102, 103, 104, 105, 106, 107, 108, 109, 110, 111, 112, 113, 114, 115, 116, 117, 118, 119, 120, 121, 122]⟩⟩,
  .str ("FIGURES" : Str) ⟨⟨[48, 49, 50, 51, 52, 53, 54, 55, 56, 57]⟩⟩,
  .free ("all" : Str),
  .free ("str" : Str),
  .free ("isinstance" : Str),
  .free ("len" : Str),
  .int ("LONGEST" : Str) 8,
  .glo ("KEPT" : Str),
  .free ("int" : Str),
  .free ("bool" : Str),
  .int ("MOST_VALUE" : Str) 7,
  .glo ("is_value" : Str),
  .glo ("is_name" : Str),
  .glo ("is_instruction" : Str),
  .glo ("is_operand" : Str),
  .int ("DEEPEST" : Str) 3,
  .free ("tuple" : Str),
  .glo ("SIGNS" : Str),
  .glo ("is_cell" : Str),
  .glo ("how_many" : Str),
  .int ("MOST_CELLS" : Str) 8,
  .glo ("Wrong" : Str),
  .glo ("KINDS" : Str),
  .int ("MOST_IN_ALL" : Str) 24,
  .int ("MOST_THREADS" : Str) 4,
  .int ("MOST_OF_THREAD" : Str) 8,
  .int ("MOST_FENCES" : Str) 16,
  .cls ("Program" : Str),
  .noat ("Program" : Str) ("bad" : Str),
  .free ("dict" : Str),
  .noat ("Program" : Str) ("threads" : Str),
  .noat ("Program" : Str) ("cells" : Str),
  .free ("range" : Str),
  .glo ("is_bad" : Str),
  .int ("MOST_BAD" : Str) 20,
  .glo ("check_threads" : Str),
  .glo ("check_cells" : Str),
  .glo ("value_in" : Str),
  .glo ("operand_in" : Str),
  .glo ("field_in" : Str),
  .glo ("FORMS" : Str),
  .cls ("Reading" : Str),
  .noat ("Reading" : Str) ("threads" : Str),
  .noat ("Reading" : Str) ("cells" : Str),
  .noat ("Reading" : Str) ("here" : Str),
  .noat ("Reading" : Str) ("many" : Str),
  .noat ("Reading" : Str) ("fences" : Str),
  .noat ("Reading" : Str) ("open_ones" : Str),
  .noat ("Reading" : Str) ("name" : Str),
  .noat ("Reading" : Str) ("bad" : Str),
  .meth ("Reading" : Str) ("close" : Str),
  .glo ("instruction_in" : Str),
  .meth ("Reading" : Str) ("is_full" : Str),
  .glo ("part_in" : Str),
  .glo ("TextWrong" : Str),
  .meth ("Reading" : Str) ("take_cells" : Str),
  .meth ("Reading" : Str) ("take_thread" : Str),
  .meth ("Reading" : Str) ("take_bad" : Str),
  .meth ("Reading" : Str) ("take_instruction" : Str),
  .mkr ("Program" : Str),
  .glo ("Program" : Str),
  .meth ("Reading" : Str) ("line" : Str),
  .mkr ("Reading" : Str),
  .glo ("Reading" : Str),
  .free ("list" : Str),
  .glo ("_law_same" : Str),
  .glo ("read_text" : Str),
  .glo ("_law_draw" : Str),
  .glo ("_law_draws" : Str),
  .glo ("_law_bounds" : Str),
  .glo ("_law_read" : Str),
  .glo ("law" : Str),
  .glo ("CellError" : Str),
  .exm ("TextWrong" : Str) ("TextWrong" : Str) true,
  .exm ("Wrong" : Str) ("TextWrong" : Str) false]
def ts : List He.Tab := [(fun K => He.ga K "FORMS", ks_FORMS.map fun s => ⟨⟨s⟩⟩)]
def exs : List (PySem.W.Frag → Bool) := [exTup ("KEPT" : Str) [[112, 108, 97, 105, 110], [115, 121, 110, 99], [116, 104, 114, 101, 97, 100], [115, 101, 116], [103, 101, 116], [115, 119, 97, 112], [97, 100, 100], [108, 101, 116], [102, 101, 110, 99, 101], [97, 119, 97, 105, 116], [105, 102], [101, 110, 100], [98, 97, 100], [97, 110, 100]],
  exTup ("SIGNS" : Str) [[43], [45], [42]],
  exTup ("KINDS" : Str) [[112, 108, 97, 105, 110], [115, 121, 110, 99]],
  exTab ("FORMS" : Str) tab_FORMS,
  cellX PP.main.file ("Wrong" : Str),
  cellX PP.main.file ("TextWrong" : Str)]
section
variable {w : World} {K : PySem.W.Frag} {mg : Str → Option Value}
theorem KD_FORMS (T : Tx fa fn ts exs w K mg) : He.dicW K (He.ga K "FORMS") = some (He.keysIn w.params (ks_FORMS.map fun s => ⟨⟨s⟩⟩)) := by
  have e := congrArg (fun z : He.AlT => z.2) (show He.obsT fa fn ts K = He.valT fn ts w from T.t)
  have e : [He.dicW K (He.ga K "FORMS")] = [some (He.keysIn w.params (ks_FORMS.map fun s => ⟨⟨s⟩⟩))] := e
  injection e
theorem KE_FORMS (T : Tx fa fn ts exs w K mg) : ∃ es n, KDict K w (He.ga K "FORMS") es n := He.dicW_ok (KD_FORMS T)
theorem htop : (PP.main.scope.names.lookup ("super" : Str)).isSome = false := by decide +kernel
theorem XT_Wrong (T : Tx fa fn ts exs w K mg) : PySem.FwX.CellTxt PP K (He.ga K "Wrong") (He.ga K "CellError") (He.ma K (He.ga K "Wrong") "__init__") := cellX_ok (T.ex 4)
theorem XT_TextWrong (T : Tx fa fn ts exs w K mg) : PySem.FwX.CellTxt PP K (He.ga K "TextWrong") (He.ga K "CellError") (He.ma K (He.ga K "TextWrong") "__init__") := cellX_ok (T.ex 5)
theorem MT_TextWrong {F : Fx} (hK : F.K = K) (T : Tx fa fn ts exs w K mg) : ∀ c' k, mt_TextWrong c' = some k → PySem.W.exmOne K (.ref (He.ga F.K c')) (.ref (He.ga F.K "TextWrong")) = some k := fun c' k h => by
  rw [hK]
  unfold mt_TextWrong at h
  split at h
  · rename_i q
    cases h
    rw [beq_iff_eq.mp q]
    exact T.exm 73
  · split at h
    · rename_i q
      cases h
      rw [beq_iff_eq.mp q]
      exact T.exm 74
    · cases h
end

def iLaw : Nat := 71
theorem ok_is_name {w : World} {K : PySem.W.Frag} {mg : Str → Option Value} {base : Heap} (T : Tx fa fn ts exs w K mg) : OkF PP w K mg base 1 (He.fAd K dd_is_name.at_) ["thing"] (spF K 1 gm_is_name) ∧ OkF PP w K mg base 1 (He.fAd K dd_is_name.at_) ["thing"] (spS K 1 hm_is_name) :=
  mk_ok (w := w) (mg := mg) (base := base) (k := 0) (T.t.d.def_ 0) sc_is_name (fun fd F => (F.bindsN (fun _ _ _ _ _ _ us hl => match us, hl with | [_], _ => rfl) : Binds K fd ["thing"] [])) (fun cdv A outer s H E F hK hr => by
    have tk := L2.takes_of (X := cxOf (L2.CX PP w) PP w K mg base ns_is_name dd_is_name.qual dd_is_name.scope (He.fAd K dd_is_name.at_) cdv A outer s H E) (E := E) rfl rfl rfl rfl
    have hp := passes_of (X := cxOf (L2.CX PP w) PP w K mg base ns_is_name dd_is_name.qual dd_is_name.scope (He.fAd K dd_is_name.at_) cdv A outer s H E) rfl
    exact (ds_cons (ds_if (PW.pt (dw_or (dt_not (dt_val (de_callB (o_isiH hK) ho_isi (T.free 4) b_isinstance (da_cons (de_var (pv 0)) (da_cons (de_ty 0 (T.free 3) b_str) da_nil))))) (dw_or (dt_not (dt_chain op_le op_le o_le o_le de_int (de_callB (o_lenH hK) ho_len (T.free 5) b_len (da_cons (de_var (pv 0)) da_nil)) (de_gint (T.int 6)))) (dw_or (dt_cmp (ho_notIn (hu65 hr)) (o_notInH hK) (de_ix ix_seq (o_ixH hK) (de_var (pv 0)) de_int (fun _ _ => rfl)) (de_gstr (T.str 0)) rfl) (dw_or1 (dt_cmp (ho_in (hu65 hr)) (o_inH hK) (de_var (pv 0)) (de_gtup hK (T.glo 7) (T.ex 0)) rfl)))))) (ds_one (ds_ret de_bl)) ds_nil)
      (ds_one (ds_ret (de_callB (o_allH hK) (cr_all rfl) (T.free 2) b_all (da_cons (de_lc rfl sc_is_name.nd (di_seq hK (de_var (pv 0))) (blkOk_by (own := [(("sign" : Str), 1)]) (by kernel_rfl)) (fun _ _ _ _ _ => (pg_name (i := 1) sc_is_name.nd rfl (by first | exact Or.inl rfl | exact Or.inr rfl))) (og_name 1) (by decide) (fun _ _ _ _ _ => dts_nil) (fun _ _ _ _ _ => (de_cmp (ho_in (hu65 hr)) (o_inH hK) (de_var (pv 1)) (de_op ho_add (o_addH hK) (de_gstr (T.str 0)) (de_gstr (T.str 1))) rfl))) da_nil))))))
theorem ok_is_value {w : World} {K : PySem.W.Frag} {mg : Str → Option Value} {base : Heap} (T : Tx fa fn ts exs w K mg) : OkF PP w K mg base 1 (He.fAd K dd_is_value.at_) ["thing"] (spF K 1 gm_is_value) ∧ OkF PP w K mg base 1 (He.fAd K dd_is_value.at_) ["thing"] (spS K 1 hm_is_value) :=
  mk_ok (w := w) (mg := mg) (base := base) (k := 0) (T.t.d.def_ 1) sc_is_value (fun fd F => (F.bindsN (fun _ _ _ _ _ _ us hl => match us, hl with | [_], _ => rfl) : Binds K fd ["thing"] [])) (fun cdv A outer s H E F hK hr => by
    have tk := L2.takes_of (X := cxOf (L2.CX PP w) PP w K mg base ns_is_value dd_is_value.qual dd_is_value.scope (He.fAd K dd_is_value.at_) cdv A outer s H E) (E := E) rfl rfl rfl rfl
    have hp := passes_of (X := cxOf (L2.CX PP w) PP w K mg base ns_is_value dd_is_value.qual dd_is_value.scope (He.fAd K dd_is_value.at_) cdv A outer s H E) rfl
    exact (ds_one (ds_ret (de_and (de_callB (o_isiH hK) ho_isi (T.free 4) b_isinstance (da_cons (de_var (pv 0)) (da_cons (de_ty 1 (T.free 8) b_int) da_nil))) (de_and (de_not (de_callB (o_isiH hK) ho_isi (T.free 4) b_isinstance (da_cons (de_var (pv 0)) (da_cons (de_ty 2 (T.free 9) b_bool) da_nil)))) (de_one (de_chain op_le op_le o_le o_le de_int (de_var (pv 0)) (de_gint (T.int 10)))))))))
theorem ok_is_operand {w : World} {K : PySem.W.Frag} {mg : Str → Option Value} {base : Heap} (T : Tx fa fn ts exs w K mg) : OkF PP w K mg base 2 (He.fAd K dd_is_operand.at_) ["thing"] (spF K 1 gm_is_operand) ∧ OkF PP w K mg base 2 (He.fAd K dd_is_operand.at_) ["thing"] (spS K 1 hm_is_operand) :=
  mk_ok (w := w) (mg := mg) (base := base) (k := 1) (T.t.d.def_ 2) sc_is_operand (fun fd F => (F.bindsN (fun _ _ _ _ _ _ us hl => match us, hl with | [_], _ => rfl) : Binds K fd ["thing"] [])) (fun cdv A outer s H E F hK hr => by
    have tk := L2.takes_of (X := cxOf (L2.CX PP w) PP w K mg base ns_is_operand dd_is_operand.qual dd_is_operand.scope (He.fAd K dd_is_operand.at_) cdv A outer s H E) (E := E) rfl rfl rfl rfl
    have hp := passes_of (X := cxOf (L2.CX PP w) PP w K mg base ns_is_operand dd_is_operand.qual dd_is_operand.scope (He.fAd K dd_is_operand.at_) cdv A outer s H E) rfl
    exact (ds_one (ds_ret (de_or (dk_call hK (ok_is_value T).1 tk hr (by decide) (T.glo 11) (da_cons (de_var (pv 0)) da_nil)) (de_one (dk_call hK (ok_is_name T).1 tk hr (by decide) (T.glo 12) (da_cons (de_var (pv 0)) da_nil)))))))
theorem ok_is_cell {w : World} {K : PySem.W.Frag} {mg : Str → Option Value} {base : Heap} (T : Tx fa fn ts exs w K mg) : OkF PP w K mg base 1 (He.fAd K dd_is_cell.at_) ["thing", "cells"] (spF K 2 gm_is_cell) ∧ OkF PP w K mg base 1 (He.fAd K dd_is_cell.at_) ["thing", "cells"] (spS K 2 hm_is_cell) :=
  mk_ok (w := w) (mg := mg) (base := base) (k := 0) (T.t.d.def_ 3) sc_is_cell (fun fd F => (F.bindsN (fun _ _ _ _ _ _ us hl => match us, hl with | [_, _], _ => rfl) : Binds K fd ["thing", "cells"] [])) (fun cdv A outer s H E F hK hr => by
    have tk := L2.takes_of (X := cxOf (L2.CX PP w) PP w K mg base ns_is_cell dd_is_cell.qual dd_is_cell.scope (He.fAd K dd_is_cell.at_) cdv A outer s H E) (E := E) rfl rfl rfl rfl
    have hp := passes_of (X := cxOf (L2.CX PP w) PP w K mg base ns_is_cell dd_is_cell.qual dd_is_cell.scope (He.fAd K dd_is_cell.at_) cdv A outer s H E) rfl
    exact (ds_one (ds_ret (de_and (de_callB (o_isiH hK) ho_isi (T.free 4) b_isinstance (da_cons (de_var (pv 0)) (da_cons (de_ty 0 (T.free 3) b_str) da_nil))) (de_one (ob_din (hu1 hr) (oe_d (de_var (pv 0))) (oe_d (de_var (pv 1))) rfl))))))
theorem ok_is_instruction {w : World} {K : PySem.W.Frag} {mg : Str → Option Value} {base : Heap} (T : Tx fa fn ts exs w K mg) : ∀ n, OkF PP w K mg base (2 + n) (He.fAd K dd_is_instruction.at_) ["thing", "cells", "deep"] (spF K 3 (gm_is_instruction n))
  | 0 => ok_none (T.t.d.def_ 4) (fun fd F => (F.bindsN (fun _ _ _ _ _ _ us hl => match us, hl with | [_, _, _], _ => rfl) : Binds K fd ["thing", "cells", "deep"] []))
  | n + 1 => by
    have G := ok_is_instruction (base := base) T n
    exact (mk_ok (w := w) (mg := mg) (base := base) (k := 2 + n) (T.t.d.def_ 4) sc_is_instruction (fun fd F => (F.bindsN (fun _ _ _ _ _ _ us hl => match us, hl with | [_, _, _], _ => rfl) : Binds K fd ["thing", "cells", "deep"] [])) (fun cdv A outer s H E F hK hr => by
        have tk := L2.takes_of (X := cxOf (L2.CX PP w) PP w K mg base ns_is_instruction dd_is_instruction.qual dd_is_instruction.scope (He.fAd K dd_is_instruction.at_) cdv A outer s H E) (E := E) rfl rfl rfl rfl
        have hp := passes_of (X := cxOf (L2.CX PP w) PP w K mg base ns_is_instruction dd_is_instruction.qual dd_is_instruction.scope (He.fAd K dd_is_instruction.at_) cdv A outer s H E) rfl
        exact (ds_cons (ds_if (PW.pt (dw_or (dt_not (dt_val (de_callB (o_isiH hK) ho_isi (T.free 4) b_isinstance (da_cons (de_var (pv 0)) (da_cons (de_ty 3 (T.free 16) b_tuple) da_nil))))) (dw_or (dt_cmp (ho_eq hr.units) (o_eqH hK) (de_callB (o_lenH hK) ho_len (T.free 5) b_len (da_cons (de_var (pv 0)) da_nil)) de_int (nomark _)) (dw_or1 (dt_not (dt_val (de_callB (o_isiH hK) ho_isi (T.free 4) b_isinstance (da_cons (de_ix ix_seq (o_ixH hK) (de_var (pv 0)) de_int (fun _ _ => rfl)) (da_cons (de_ty 0 (T.free 3) b_str) da_nil))))))))) (ds_one (ds_ret de_bl)) ds_nil)
          (ds_cons (ds_par (i := 3) (j := 4) rfl sc_is_instruction.nd rfl rfl (by decide) (by rfl) (by rfl) (da_cons (de_ix ix_seq (o_ixH hK) (de_var (pv 0)) de_int (fun _ _ => rfl)) (da_cons (de_slice hK (de_var (pv 0)) (dp_so de_int) dp_no) da_nil)) (by rfl))
          (ds_cons (ds_if (dt_cmp (ho_eq hr.units) (o_eqH hK) (de_var (pv 3)) (de_str (s := [102, 101, 110, 99, 101]) (by kernel_rfl)) (nomark _)) (ds_one (ds_ret (de_cmp (ho_eq hr.units) (o_eqH hK) (de_callB (o_lenH hK) ho_len (T.free 5) b_len (da_cons (de_var (pv 4)) da_nil)) de_int (nomark _)))) ds_nil)
          (ds_cons (ds_if (dt_cmp (ho_in (hu65 hr)) (o_inH hK) (de_var (pv 3)) (de_tup (da_cons (de_str (s := [115, 101, 116]) (by kernel_rfl)) (da_cons (de_str (s := [97, 119, 97, 105, 116]) (by kernel_rfl)) da_nil))) rfl) (ds_cons (ds_set (i := 5) sc_is_instruction.nd rfl (by first | exact Or.inl rfl | exact Or.inr rfl) (de_if (dt_cmp (ho_eq hr.units) (o_eqH hK) (de_var (pv 3)) (de_str (s := [115, 101, 116]) (by kernel_rfl)) (nomark _)) (de_gfn hK (T.glo 14)) (de_gfn hK (T.glo 11))))
          (ds_one (ds_ret (de_and (de_cmp (ho_eq hr.units) (o_eqH hK) (de_callB (o_lenH hK) ho_len (T.free 5) b_len (da_cons (de_var (pv 4)) da_nil)) de_int (nomark _)) (de_and (dk_call hK (ok_is_cell T).1 tk hr (by omega) (T.glo 18) (da_cons (de_ix ix_seq (o_ixH hK) (de_var (pv 4)) de_int (fun _ _ => rfl)) (da_cons (de_var (pv 1)) da_nil))) (de_one (dk_call2 (i := 5) hK (ok_is_operand T).1 (ok_is_value T).1 tk hr (by omega) (by omega) (da_cons (de_ix ix_seq (o_ixH hK) (de_var (pv 4)) de_int (fun _ _ => rfl)) da_nil)))))))) ds_nil)
          (ds_cons (ds_if (dt_cmp (ho_eq hr.units) (o_eqH hK) (de_var (pv 3)) (de_str (s := [103, 101, 116]) (by kernel_rfl)) (nomark _)) (ds_one (ds_ret (de_and (de_cmp (ho_eq hr.units) (o_eqH hK) (de_callB (o_lenH hK) ho_len (T.free 5) b_len (da_cons (de_var (pv 4)) da_nil)) de_int (nomark _)) (de_and (dk_call hK (ok_is_name T).1 tk hr (by omega) (T.glo 12) (da_cons (de_ix ix_seq (o_ixH hK) (de_var (pv 4)) de_int (fun _ _ => rfl)) da_nil)) (de_one (dk_call hK (ok_is_cell T).1 tk hr (by omega) (T.glo 18) (da_cons (de_ix ix_seq (o_ixH hK) (de_var (pv 4)) de_int (fun _ _ => rfl)) (da_cons (de_var (pv 1)) da_nil)))))))) ds_nil)
          (ds_cons (ds_if (dt_cmp (ho_in (hu65 hr)) (o_inH hK) (de_var (pv 3)) (de_tup (da_cons (de_str (s := [115, 119, 97, 112]) (by kernel_rfl)) (da_cons (de_str (s := [97, 100, 100]) (by kernel_rfl)) da_nil))) rfl) (ds_one (ds_ret (de_and (de_cmp (ho_eq hr.units) (o_eqH hK) (de_callB (o_lenH hK) ho_len (T.free 5) b_len (da_cons (de_var (pv 4)) da_nil)) de_int (nomark _)) (de_and (dk_call hK (ok_is_name T).1 tk hr (by omega) (T.glo 12) (da_cons (de_ix ix_seq (o_ixH hK) (de_var (pv 4)) de_int (fun _ _ => rfl)) da_nil)) (de_and (dk_call hK (ok_is_cell T).1 tk hr (by omega) (T.glo 18) (da_cons (de_ix ix_seq (o_ixH hK) (de_var (pv 4)) de_int (fun _ _ => rfl)) (da_cons (de_var (pv 1)) da_nil))) (de_one (dk_call hK (ok_is_operand T).1 tk hr (by omega) (T.glo 14) (da_cons (de_ix ix_seq (o_ixH hK) (de_var (pv 4)) de_int (fun _ _ => rfl)) da_nil)))))))) ds_nil)
          (ds_cons (ds_if (dt_cmp (ho_eq hr.units) (o_eqH hK) (de_var (pv 3)) (de_str (s := [108, 101, 116]) (by kernel_rfl)) (nomark _)) (ds_one (ds_ret (de_and (de_cmp (ho_eq hr.units) (o_eqH hK) (de_callB (o_lenH hK) ho_len (T.free 5) b_len (da_cons (de_var (pv 4)) da_nil)) de_int (nomark _)) (de_and (dk_call hK (ok_is_name T).1 tk hr (by omega) (T.glo 12) (da_cons (de_ix ix_seq (o_ixH hK) (de_var (pv 4)) de_int (fun _ _ => rfl)) da_nil)) (de_and (dk_call hK (ok_is_operand T).1 tk hr (by omega) (T.glo 14) (da_cons (de_ix ix_seq (o_ixH hK) (de_var (pv 4)) de_int (fun _ _ => rfl)) da_nil)) (de_and (de_cmp (ho_in (hu65 hr)) (o_inH hK) (de_ix ix_seq (o_ixH hK) (de_var (pv 4)) de_int (fun _ _ => rfl)) (de_gtup hK (T.glo 17) (T.ex 1)) rfl) (de_one (dk_call hK (ok_is_operand T).1 tk hr (by omega) (T.glo 14) (da_cons (de_ix ix_seq (o_ixH hK) (de_var (pv 4)) de_int (fun _ _ => rfl)) da_nil))))))))) ds_nil)
          (ds_cons (ds_if (PW.pt (dw_or (dt_cmp (ho_ne hr.units) (o_neH hK) (de_var (pv 3)) (de_str (s := [105, 102]) (by kernel_rfl)) (nomark _)) (dw_or (dt_cmp (ho_ne hr.units) (o_neH hK) (de_callB (o_lenH hK) ho_len (T.free 5) b_len (da_cons (de_var (pv 4)) da_nil)) de_int (nomark _)) (dw_or (dt_cmp (ho_eq hr.units) (o_eqH hK) (de_var (pv 2)) (de_gint (T.int 15)) (nomark _)) (dw_or1 (dt_not (dt_val (de_callB (o_isiH hK) ho_isi (T.free 4) b_isinstance (da_cons (de_ix ix_seq (o_ixH hK) (de_var (pv 4)) de_int (fun _ _ => rfl)) (da_cons (de_ty 3 (T.free 16) b_tuple) da_nil)))))))))) (ds_one (ds_ret de_bl)) ds_nil)
          (ds_cons (ds_if (PW.pt (dw_or (dt_not (dt_val (dk_call hK (ok_is_operand T).1 tk hr (by omega) (T.glo 14) (da_cons (de_ix ix_seq (o_ixH hK) (de_var (pv 4)) de_int (fun _ _ => rfl)) da_nil)))) (dw_or (dt_cmp (ho_notIn (hu65 hr)) (o_notInH hK) (de_ix ix_seq (o_ixH hK) (de_var (pv 4)) de_int (fun _ _ => rfl)) (de_tup (da_cons (de_str (s := [61]) (by kernel_rfl)) (da_cons (de_str (s := [33, 61]) (by kernel_rfl)) da_nil))) rfl) (dw_or1 (dt_not (dt_val (dk_call hK (ok_is_operand T).1 tk hr (by omega) (T.glo 14) (da_cons (de_ix ix_seq (o_ixH hK) (de_var (pv 4)) de_int (fun _ _ => rfl)) da_nil)))))))) (ds_one (ds_ret de_bl)) ds_nil)
          (ds_one (ds_ret (de_callB (o_allH hK) (cr_all rfl) (T.free 2) b_all (da_cons (de_lc rfl sc_is_instruction.nd (di_seq hK (de_ix ix_seq (o_ixH hK) (de_var (pv 4)) de_int (fun _ _ => rfl))) (blkOk_by (own := [(("one" : Str), 6)]) (by kernel_rfl)) (fun _ _ _ _ _ => (pg_name (i := 6) sc_is_instruction.nd rfl (by first | exact Or.inl rfl | exact Or.inr rfl))) (og_name 6) (by decide) (fun _ _ _ _ _ => dts_nil) (fun _ _ _ _ _ => (dk_call hK (G) tk0 hr (Nat.le_refl _) (T.glo 13) (da_cons (de_var (pv 6)) (da_cons (de_var (pv 1)) (da_cons (de_op ho_add (o_addH hK) (de_var (pv 2)) de_int) da_nil)))))) da_nil))))))))))))))).1
theorem ok_how_many {w : World} {K : PySem.W.Frag} {mg : Str → Option Value} {base : Heap} (T : Tx fa fn ts exs w K mg) : ∀ n, OkF PP w K mg base (0 + n) (He.fAd K dd_how_many.at_) ["instructions", "are_fences"] (spF K 2 (gm_how_many n))
  | 0 => ok_none (T.t.d.def_ 5) (fun fd F => (F.bindsN (fun _ _ _ _ _ _ us hl => match us, hl with | [_, _], _ => rfl) : Binds K fd ["instructions", "are_fences"] []))
  | n + 1 => by
    have G := ok_how_many (base := base) T n
    exact (mk_ok (w := w) (mg := mg) (base := base) (k := 0 + n) (T.t.d.def_ 5) sc_how_many (fun fd F => (F.bindsN (fun _ _ _ _ _ _ us hl => match us, hl with | [_, _], _ => rfl) : Binds K fd ["instructions", "are_fences"] [])) (fun cdv A outer s H E F hK hr => by
        have tk := L2.takes_of (X := cxOf (L2.CX PP w) PP w K mg base ns_how_many dd_how_many.qual dd_how_many.scope (He.fAd K dd_how_many.at_) cdv A outer s H E) (E := E) rfl rfl rfl rfl
        have hp := passes_of (X := cxOf (L2.CX PP w) PP w K mg base ns_how_many dd_how_many.qual dd_how_many.scope (He.fAd K dd_how_many.at_) cdv A outer s H E) rfl
        exact (ds_cons (ds_set (i := 2) sc_how_many.nd rfl (by first | exact Or.inl rfl | exact Or.inr rfl) de_int)
          (ds_cons (ds_for hp rfl (di_seq hK (de_var (pv 0))) (pg_name (i := 3) sc_how_many.nd rfl (by first | exact Or.inl rfl | exact Or.inr rfl)) (og_name 3) (ds_cons (ds_aug (i := 2) sc_how_many.nd rfl (by first | exact Or.inl rfl | exact Or.inr rfl) (de_if (dt_cmp (ho_eq hr.units) (o_eqH hK) (de_cmp (ho_eq hr.units) (o_eqH hK) (de_ix ix_seq (o_ixH hK) (de_var (pv 3)) de_int (fun _ _ => rfl)) (de_str (s := [102, 101, 110, 99, 101]) (by kernel_rfl)) (nomark _)) (de_var (pv 1)) (nomark _)) de_int de_int) ip_add o_ipadd)
          (ds_one (ds_aug (i := 2) sc_how_many.nd rfl (by first | exact Or.inl rfl | exact Or.inr rfl) (de_if (dt_cmp (ho_eq hr.units) (o_eqH hK) (de_ix ix_seq (o_ixH hK) (de_var (pv 3)) de_int (fun _ _ => rfl)) (de_str (s := [105, 102]) (by kernel_rfl)) (nomark _)) (dk_call hK (G) tk hr (Nat.le_refl _) (T.glo 19) (da_cons (de_ix ix_seq (o_ixH hK) (de_var (pv 3)) de_int (fun _ _ => rfl)) (da_cons (de_var (pv 1)) da_nil))) de_int) ip_add o_ipadd))))
          (ds_one (ds_ret (de_var (pv 2)))))))).1
theorem ok_is_bad {w : World} {K : PySem.W.Frag} {mg : Str → Option Value} {base : Heap} (T : Tx fa fn ts exs w K mg) : OkF PP w K mg base 2 (He.fAd K dd_is_bad.at_) ["thing", "cells", "threads"] (spF K 3 gm_is_bad) ∧ OkF PP w K mg base 2 (He.fAd K dd_is_bad.at_) ["thing", "cells", "threads"] (spS K 3 hm_is_bad) :=
  mk_ok (w := w) (mg := mg) (base := base) (k := 1) (T.t.d.def_ 6) sc_is_bad (fun fd F => (F.bindsN (fun _ _ _ _ _ _ us hl => match us, hl with | [_, _, _], _ => rfl) : Binds K fd ["thing", "cells", "threads"] [])) (fun cdv A outer s H E F hK hr => by
    have tk := L2.takes_of (X := cxOf (L2.CX PP w) PP w K mg base ns_is_bad dd_is_bad.qual dd_is_bad.scope (He.fAd K dd_is_bad.at_) cdv A outer s H E) (E := E) rfl rfl rfl rfl
    have hp := passes_of (X := cxOf (L2.CX PP w) PP w K mg base ns_is_bad dd_is_bad.qual dd_is_bad.scope (He.fAd K dd_is_bad.at_) cdv A outer s H E) rfl
    exact (ds_cons (ds_if (PW.pt (dw_or (dt_not (dt_val (de_callB (o_isiH hK) ho_isi (T.free 4) b_isinstance (da_cons (de_var (pv 0)) (da_cons (de_ty 3 (T.free 16) b_tuple) da_nil))))) (dw_or (dt_cmp (ho_ne hr.units) (o_neH hK) (de_callB (o_lenH hK) ho_len (T.free 5) b_len (da_cons (de_var (pv 0)) da_nil)) de_int (nomark _)) (dw_or1 (dt_not (dt_val (de_callB (o_allH hK) (cr_all rfl) (T.free 2) b_all (da_cons (de_lc rfl sc_is_bad.nd (di_seq hK (de_var (pv 0))) (blkOk_by (own := [(("rows" : Str), 4)]) (by kernel_rfl)) (fun _ _ _ _ _ => (pg_name (i := 4) sc_is_bad.nd rfl (by first | exact Or.inl rfl | exact Or.inr rfl))) (og_name 4) (by decide) (fun _ _ _ _ _ => dts_nil) (fun _ _ _ _ _ => (de_callB (o_isiH hK) ho_isi (T.free 4) b_isinstance (da_cons (de_var (pv 4)) (da_cons (de_ty 3 (T.free 16) b_tuple) da_nil))))) da_nil)))))))) (ds_one (ds_ret de_bl)) ds_nil)
      (ds_cons (ds_if (dt_cmp (ho_eq hr.units) (o_eqH hK) (de_op ho_add (o_addH hK) (de_callB (o_lenH hK) ho_len (T.free 5) b_len (da_cons (de_ix ix_seq (o_ixH hK) (de_var (pv 0)) de_int (fun _ _ => rfl)) da_nil)) (de_callB (o_lenH hK) ho_len (T.free 5) b_len (da_cons (de_ix ix_seq (o_ixH hK) (de_var (pv 0)) de_int (fun _ _ => rfl)) da_nil))) de_int (nomark _)) (ds_one (ds_ret de_bl)) ds_nil)
      (ds_cons (ds_for hp rfl (di_seq hK (de_ix ix_seq (o_ixH hK) (de_var (pv 0)) de_int (fun _ _ => rfl))) (pg_name (i := 3) sc_is_bad.nd rfl (by first | exact Or.inl rfl | exact Or.inr rfl)) (og_name 3) (ds_cons (ds_if (PW.pt (dw_or (dt_not (dt_val (de_callB (o_isiH hK) ho_isi (T.free 4) b_isinstance (da_cons (de_var (pv 3)) (da_cons (de_ty 3 (T.free 16) b_tuple) da_nil))))) (dw_or (dt_cmp (ho_ne hr.units) (o_neH hK) (de_callB (o_lenH hK) ho_len (T.free 5) b_len (da_cons (de_var (pv 3)) da_nil)) de_int (nomark _)) (dw_or (dt_not (dt_val (dk_call hK (ok_is_cell T).1 tk hr (by decide) (T.glo 18) (da_cons (de_ix ix_seq (o_ixH hK) (de_var (pv 3)) de_int (fun _ _ => rfl)) (da_cons (de_var (pv 2)) da_nil))))) (dw_or1 (dt_not (dt_val (dk_call hK (ok_is_name T).1 tk hr (by decide) (T.glo 12) (da_cons (de_ix ix_seq (o_ixH hK) (de_var (pv 3)) de_int (fun _ _ => rfl)) da_nil))))))))) (ds_one (ds_ret de_bl)) ds_nil)
      (ds_one (ds_if (dt_not (dt_val (dk_call hK (ok_is_value T).1 tk hr (by decide) (T.glo 11) (da_cons (de_ix ix_seq (o_ixH hK) (de_var (pv 3)) de_int (fun _ _ => rfl)) da_nil)))) (ds_one (ds_ret de_bl)) ds_nil))))
      (ds_cons (ds_for hp rfl (di_seq hK (de_ix ix_seq (o_ixH hK) (de_var (pv 0)) de_int (fun _ _ => rfl))) (pg_name (i := 3) sc_is_bad.nd rfl (by first | exact Or.inl rfl | exact Or.inr rfl)) (og_name 3) (ds_one (ds_if (PW.pt (dw_or (dt_not (dt_val (de_callB (o_isiH hK) ho_isi (T.free 4) b_isinstance (da_cons (de_var (pv 3)) (da_cons (de_ty 3 (T.free 16) b_tuple) da_nil))))) (dw_or (dt_cmp (ho_ne hr.units) (o_neH hK) (de_callB (o_lenH hK) ho_len (T.free 5) b_len (da_cons (de_var (pv 3)) da_nil)) de_int (nomark _)) (dw_or (dt_not (dt_val (dk_call hK (ok_is_cell T).1 tk hr (by decide) (T.glo 18) (da_cons (de_ix ix_seq (o_ixH hK) (de_var (pv 3)) de_int (fun _ _ => rfl)) (da_cons (de_var (pv 1)) da_nil))))) (dw_or1 (dt_not (dt_val (dk_call hK (ok_is_value T).1 tk hr (by decide) (T.glo 11) (da_cons (de_ix ix_seq (o_ixH hK) (de_var (pv 3)) de_int (fun _ _ => rfl)) da_nil))))))))) (ds_one (ds_ret de_bl)) ds_nil)))
      (ds_one (ds_ret de_bl)))))))
theorem ok_check_cells {w : World} {K : PySem.W.Frag} {mg : Str → Option Value} {base : Heap} (T : Tx fa fn ts exs w K mg) : OkF PP w K mg base 4 (He.fAd K dd_check_cells.at_) ["cells"] (spF K 1 gm_check_cells) ∧ OkF PP w K mg base 4 (He.fAd K dd_check_cells.at_) ["cells"] (spS K 1 hm_check_cells) :=
  mk_ok (w := w) (mg := mg) (base := base) (k := 3) (T.t.d.def_ 7) sc_check_cells (fun fd F => (F.bindsN (fun _ _ _ _ _ _ us hl => match us, hl with | [_], _ => rfl) : Binds K fd ["cells"] [])) (fun cdv A outer s H E F hK hr => by
    have tk := L2.takes_of (X := cxOf (L2.CX PP w) PP w K mg base ns_check_cells dd_check_cells.qual dd_check_cells.scope (He.fAd K dd_check_cells.at_) cdv A outer s H E) (E := E) rfl rfl rfl rfl
    have hp := passes_of (X := cxOf (L2.CX PP w) PP w K mg base ns_check_cells dd_check_cells.qual dd_check_cells.scope (He.fAd K dd_check_cells.at_) cdv A outer s H E) rfl
    exact (ds_cons (ds_forK (i := 0) hp rfl tk (pv 0) (pg_name (i := 1) sc_check_cells.nd rfl (by first | exact Or.inl rfl | exact Or.inr rfl)) (fun _ => (og_name 1)) (fun _ _ tk => (ds_cons (ds_set (i := 2) sc_check_cells.nd rfl (by first | exact Or.inl rfl | exact Or.inr rfl) (de_dget (hu1 hr) (de_var (pv 0)) (de_var (pv 1)) (fun _ _ => rfl)))
      (ds_cons (ds_set (i := 3) sc_check_cells.nd rfl (by first | exact Or.inl rfl | exact Or.inr rfl) (de_and (dk_call hK (ok_is_name T).1 tk hr (by decide) (T.glo 12) (da_cons (de_var (pv 1)) da_nil)) (de_and (de_callB (o_isiH hK) ho_isi (T.free 4) b_isinstance (da_cons (de_var (pv 2)) (da_cons (de_ty 3 (T.free 16) b_tuple) da_nil))) (de_one (de_cmp (ho_eq hr.units) (o_eqH hK) (de_callB (o_lenH hK) ho_len (T.free 5) b_len (da_cons (de_var (pv 2)) da_nil)) de_int (nomark _))))))
      (ds_one (ds_if (PW.pt (dw_or (dt_not (dt_val (de_var (pv 3)))) (dw_or (dt_cmp (ho_notIn (hu65 hr)) (o_notInH hK) (de_ix ix_seq (o_ixH hK) (de_var (pv 2)) de_int (fun _ _ => rfl)) (de_gtup hK (T.glo 22) (T.ex 2)) rfl) (dw_or1 (dt_not (dt_val (dk_call hK (ok_is_value T).1 tk hr (by decide) (T.glo 11) (da_cons (de_ix ix_seq (o_ixH hK) (de_var (pv 2)) de_int (fun _ _ => rfl)) da_nil)))))))) (ds_one (ds_raise hK rfl (XT_Wrong T) (T.glo 21) htop hr tk (de_var (pv 1)))) ds_nil))))))
      (ds_one (ds_if (dt_cmp op_gt o_gt (de_callB (o_lenH hK) ho_len (T.free 5) b_len (da_cons (de_var (pv 0)) da_nil)) (de_gint (T.int 20)) (nomark _)) (ds_one (ds_raise hK rfl (XT_Wrong T) (T.glo 21) htop hr tk (de_str (s := [99, 101, 108, 108, 115]) (by kernel_rfl)))) ds_nil))))
theorem ok_check_threads {w : World} {K : PySem.W.Frag} {mg : Str → Option Value} {base : Heap} (T : Tx fa fn ts exs w K mg) : OkF PP w K mg base 9 (He.fAd K dd_check_threads.at_) ["cells", "threads"] (spF K 2 gm_check_threads) ∧ OkF PP w K mg base 9 (He.fAd K dd_check_threads.at_) ["cells", "threads"] (spS K 2 hm_check_threads) :=
  mk_ok (w := w) (mg := mg) (base := base) (k := 8) (T.t.d.def_ 8) sc_check_threads (fun fd F => (F.bindsN (fun _ _ _ _ _ _ us hl => match us, hl with | [_, _], _ => rfl) : Binds K fd ["cells", "threads"] [])) (fun cdv A outer s H E F hK hr => by
    have tk := L2.takes_of (X := cxOf (L2.CX PP w) PP w K mg base ns_check_threads dd_check_threads.qual dd_check_threads.scope (He.fAd K dd_check_threads.at_) cdv A outer s H E) (E := E) rfl rfl rfl rfl
    have hp := passes_of (X := cxOf (L2.CX PP w) PP w K mg base ns_check_threads dd_check_threads.qual dd_check_threads.scope (He.fAd K dd_check_threads.at_) cdv A outer s H E) rfl
    exact (ds_cons (ds_set (i := 2) sc_check_threads.nd rfl (by first | exact Or.inl rfl | exact Or.inr rfl) de_int)
      (ds_cons (ds_forK (i := 1) hp rfl tk (pv 1) (pg_name (i := 3) sc_check_threads.nd rfl (by first | exact Or.inl rfl | exact Or.inr rfl)) (fun _ => (og_name 3)) (fun _ _ tk => (ds_cons (ds_set (i := 4) sc_check_threads.nd rfl (by first | exact Or.inl rfl | exact Or.inr rfl) (de_dget (hu1 hr) (de_var (pv 1)) (de_var (pv 3)) (fun _ _ => rfl)))
      (ds_cons (ds_if (PW.pt (dw_or (dt_not (dt_val (dk_call hK (ok_is_name T).1 tk hr (by decide) (T.glo 12) (da_cons (de_var (pv 3)) da_nil)))) (dw_or (dt_not (dt_val (de_callB (o_isiH hK) ho_isi (T.free 4) b_isinstance (da_cons (de_var (pv 4)) (da_cons (de_ty 3 (T.free 16) b_tuple) da_nil))))) (dw_or1 (dt_not (dt_val (de_callB (o_allH hK) (cr_all rfl) (T.free 2) b_all (da_cons (de_lc rfl sc_check_threads.nd (di_seq hK (de_var (pv 4))) (blkOk_by (own := [(("one" : Str), 5)]) (by kernel_rfl)) (fun _ _ _ _ _ => (pg_name (i := 5) sc_check_threads.nd rfl (by first | exact Or.inl rfl | exact Or.inr rfl))) (og_name 5) (by decide) (fun _ _ _ _ _ => dts_nil) (fun _ _ _ _ _ => (dk_call hK (ok_is_instruction T 6) tk0 hr (by decide) (T.glo 13) (da_cons (de_var (pv 5)) (da_cons (de_var (pv 0)) (da_cons de_int da_nil)))))) da_nil)))))))) (ds_one (ds_raise hK rfl (XT_Wrong T) (T.glo 21) htop hr tk (de_var (pv 3)))) ds_nil)
      (ds_cons (ds_if (PW.pt (dw_or (dt_cmp op_gt o_gt (dk_call hK (ok_how_many T 7) tk hr (by decide) (T.glo 19) (da_cons (de_var (pv 4)) (da_cons de_bl da_nil))) (de_gint (T.int 25)) (nomark _)) (dw_or1 (dt_cmp op_gt o_gt (dk_call hK (ok_how_many T 7) tk hr (by decide) (T.glo 19) (da_cons (de_var (pv 4)) (da_cons de_bl da_nil))) (de_gint (T.int 26)) (nomark _))))) (ds_one (ds_raise hK rfl (XT_Wrong T) (T.glo 21) htop hr tk (de_var (pv 3)))) ds_nil)
      (ds_one (ds_aug (i := 2) sc_check_threads.nd rfl (by first | exact Or.inl rfl | exact Or.inr rfl) (dk_call hK (ok_how_many T 7) tk hr (by decide) (T.glo 19) (da_cons (de_var (pv 4)) (da_cons de_bl da_nil))) ip_add o_ipadd)))))))
      (ds_cons (ds_if (dt_not (dt_chain op_le op_le o_le o_le de_int (de_callB (o_lenH hK) ho_len (T.free 5) b_len (da_cons (de_var (pv 1)) da_nil)) (de_gint (T.int 24)))) (ds_one (ds_raise hK rfl (XT_Wrong T) (T.glo 21) htop hr tk (de_str (s := [116, 104, 114, 101, 97, 100, 115]) (by kernel_rfl)))) ds_nil)
      (ds_one (ds_if (dt_cmp op_gt o_gt (de_var (pv 2)) (de_gint (T.int 23)) (nomark _)) (ds_one (ds_raise hK rfl (XT_Wrong T) (T.glo 21) htop hr tk (de_str (s := [109, 97, 110, 121]) (by kernel_rfl)))) ds_nil))))))
theorem ok_Program___init__ {w : World} {K : PySem.W.Frag} {mg : Str → Option Value} {base : Heap} (T : Tx fa fn ts exs w K mg) : OkF PP w K mg base 10 (He.fAd K dd_Program___init__.at_) ["self", "cells", "threads", "bad"] (spF K 4 gm_Program___init__) ∧ OkF PP w K mg base 10 (He.fAd K dd_Program___init__.at_) ["self", "cells", "threads", "bad"] (spS K 4 hm_Program___init__) :=
  mk_ok (w := w) (mg := mg) (base := base) (k := 9) (T.t.d.def_ 9) sc_Program___init__ (fun fd F => (F.bindsN (fun _ _ _ _ _ _ us hl => match us, hl with | [_, _, _, _], _ => rfl) : Binds K fd ["self", "cells", "threads", "bad"] [])) (fun cdv A outer s H E F hK hr => by
    have tk := L2.takes_of (X := cxOf (L2.CX PP w) PP w K mg base ns_Program___init__ dd_Program___init__.qual dd_Program___init__.scope (He.fAd K dd_Program___init__.at_) cdv A outer s H E) (E := E) rfl rfl rfl rfl
    have hp := passes_of (X := cxOf (L2.CX PP w) PP w K mg base ns_Program___init__ dd_Program___init__.qual dd_Program___init__.scope (He.fAd K dd_Program___init__.at_) cdv A outer s H E) rfl
    exact (ds_cons (ds_expr (dk_call hK (ok_check_cells T).1 tk hr (by decide) (T.glo 36) (da_cons (de_var (pv 1)) da_nil)))
      (ds_cons (ds_expr (dk_call hK (ok_check_threads T).1 tk hr (by decide) (T.glo 35) (da_cons (de_var (pv 1)) (da_cons (de_var (pv 2)) da_nil))))
      (ds_cons (ds_if (dt_cmp op_gt o_gt (de_callB (o_lenH hK) ho_len (T.free 5) b_len (da_cons (de_var (pv 3)) da_nil)) (de_gint (T.int 34)) (nomark _)) (ds_one (ds_raise hK rfl (XT_Wrong T) (T.glo 21) htop hr tk (de_str (s := [98, 97, 100]) (by kernel_rfl)))) ds_nil)
      (ds_cons (ds_for hp rfl (di_rng1 (T.free 32) (da_cons (de_callB (o_lenH hK) ho_len (T.free 5) b_len (da_cons (de_var (pv 3)) da_nil)) da_nil)) (pg_name (i := 4) sc_Program___init__.nd rfl (by first | exact Or.inl rfl | exact Or.inr rfl)) (og_name 4) (ds_one (ds_if (dt_not (dt_val (dk_call hK (ok_is_bad T).1 tk hr (by decide) (T.glo 33) (da_cons (de_ix ix_seq (o_ixH hK) (de_var (pv 3)) (de_var (pv 4)) (fun _ _ => rfl)) (da_cons (de_var (pv 1)) (da_cons (de_var (pv 2)) da_nil)))))) (ds_one (ds_raise hK rfl (XT_Wrong T) (T.glo 21) htop hr tk (de_var (pv 4)))) ds_nil)))
      (ds_cons (os_fld hK (oe_var (pv 0)) (oe_d (de_callTy o_dict call_dictD (T.free 29) b_dict (da_cons (de_var (pv 1)) da_nil))) (T.cls 27) (T.noat 31))
      (ds_cons (os_fld hK (oe_var (pv 0)) (oe_d (de_callTy o_dict call_dictD (T.free 29) b_dict (da_cons (de_var (pv 2)) da_nil))) (T.cls 27) (T.noat 30))
      (ds_one (os_fld hK (oe_var (pv 0)) (oe_d (de_callTy (o_tupleH hK) call_tuple_of (T.free 16) b_tuple (da_cons (de_var (pv 3)) da_nil))) (T.cls 27) (T.noat 28))))))))))
theorem ok_value_in {w : World} {K : PySem.W.Frag} {mg : Str → Option Value} {base : Heap} (T : Tx fa fn ts exs w K mg) : OkF PP w K mg base 1 (He.fAd K dd_value_in.at_) ["word"] (spF K 1 gm_value_in) ∧ OkF PP w K mg base 1 (He.fAd K dd_value_in.at_) ["word"] (spS K 1 hm_value_in) :=
  mk_ok (w := w) (mg := mg) (base := base) (k := 0) (T.t.d.def_ 10) sc_value_in (fun fd F => (F.bindsN (fun _ _ _ _ _ _ us hl => match us, hl with | [_], _ => rfl) : Binds K fd ["word"] [])) (fun cdv A outer s H E F hK hr => by
    have tk := L2.takes_of (X := cxOf (L2.CX PP w) PP w K mg base ns_value_in dd_value_in.qual dd_value_in.scope (He.fAd K dd_value_in.at_) cdv A outer s H E) (E := E) rfl rfl rfl rfl
    have hp := passes_of (X := cxOf (L2.CX PP w) PP w K mg base ns_value_in dd_value_in.qual dd_value_in.scope (He.fAd K dd_value_in.at_) cdv A outer s H E) rfl
    exact (ds_one (ds_ret (de_if (PW.pt (dw_and (dt_cmp (ho_eq hr.units) (o_eqH hK) (de_callB (o_lenH hK) ho_len (T.free 5) b_len (da_cons (de_var (pv 0)) da_nil)) de_int (nomark _)) (dw_and1 (dt_cmp (ho_in (hu65 hr)) (o_inH hK) (de_var (pv 0)) (de_slice hK (de_gstr (T.str 1)) dp_no (dp_so (de_op ho_add (o_addH hK) (de_gint (T.int 10)) de_int))) rfl)))) (de_bm m_fig hK PySem.F.plainAttrs_str PySem.F.slot_str_index PySem.F.type_str_index mt_sindex (de_gstr (T.str 1)) (da_cons (de_var (pv 0)) da_nil)) de_non))))
theorem ok_operand_in {w : World} {K : PySem.W.Frag} {mg : Str → Option Value} {base : Heap} (T : Tx fa fn ts exs w K mg) : OkF PP w K mg base 2 (He.fAd K dd_operand_in.at_) ["word"] (spF K 1 gm_operand_in) ∧ OkF PP w K mg base 2 (He.fAd K dd_operand_in.at_) ["word"] (spS K 1 hm_operand_in) :=
  mk_ok (w := w) (mg := mg) (base := base) (k := 1) (T.t.d.def_ 11) sc_operand_in (fun fd F => (F.bindsN (fun _ _ _ _ _ _ us hl => match us, hl with | [_], _ => rfl) : Binds K fd ["word"] [])) (fun cdv A outer s H E F hK hr => by
    have tk := L2.takes_of (X := cxOf (L2.CX PP w) PP w K mg base ns_operand_in dd_operand_in.qual dd_operand_in.scope (He.fAd K dd_operand_in.at_) cdv A outer s H E) (E := E) rfl rfl rfl rfl
    have hp := passes_of (X := cxOf (L2.CX PP w) PP w K mg base ns_operand_in dd_operand_in.qual dd_operand_in.scope (He.fAd K dd_operand_in.at_) cdv A outer s H E) rfl
    exact (ds_cons (ds_set (i := 1) sc_operand_in.nd rfl (by first | exact Or.inl rfl | exact Or.inr rfl) (dk_call hK (ok_value_in T).1 tk hr (by decide) (T.glo 37) (da_cons (de_var (pv 0)) da_nil)))
      (ds_one (ds_ret (de_if (PW.pt (dw_and (dt_cmp op_isN o_is (de_var (pv 1)) de_non (nomark _)) (dw_and1 (dt_val (dk_call hK (ok_is_name T).1 tk hr (by decide) (T.glo 12) (da_cons (de_var (pv 0)) da_nil)))))) (de_var (pv 0)) (de_var (pv 1)))))))
theorem ok_field_in {w : World} {K : PySem.W.Frag} {mg : Str → Option Value} {base : Heap} (T : Tx fa fn ts exs w K mg) : OkF PP w K mg base 3 (He.fAd K dd_field_in.at_) ["word", "form", "cells"] (spF K 3 gm_field_in) ∧ OkF PP w K mg base 3 (He.fAd K dd_field_in.at_) ["word", "form", "cells"] (spS K 3 hm_field_in) :=
  mk_ok (w := w) (mg := mg) (base := base) (k := 2) (T.t.d.def_ 12) sc_field_in (fun fd F => (F.bindsN (fun _ _ _ _ _ _ us hl => match us, hl with | [_, _, _], _ => rfl) : Binds K fd ["word", "form", "cells"] [])) (fun cdv A outer s H E F hK hr => by
    have tk := L2.takes_of (X := cxOf (L2.CX PP w) PP w K mg base ns_field_in dd_field_in.qual dd_field_in.scope (He.fAd K dd_field_in.at_) cdv A outer s H E) (E := E) rfl rfl rfl rfl
    have hp := passes_of (X := cxOf (L2.CX PP w) PP w K mg base ns_field_in dd_field_in.qual dd_field_in.scope (He.fAd K dd_field_in.at_) cdv A outer s H E) rfl
    exact (ds_cons (ds_if (dt_cmp (ho_eq hr.units) (o_eqH hK) (de_var (pv 1)) (de_str (s := [99, 101, 108, 108]) (by kernel_rfl)) (nomark _)) (ds_one (ds_ret (de_if (ot_din (hu1 hr) (oe_d (de_var (pv 0))) (oe_d (de_var (pv 2))) rfl) (de_var (pv 0)) de_non))) ds_nil)
      (ds_cons (ds_if (dt_cmp (ho_eq hr.units) (o_eqH hK) (de_var (pv 1)) (de_str (s := [110, 97, 109, 101]) (by kernel_rfl)) (nomark _)) (ds_one (ds_ret (de_if (dt_val (dk_call hK (ok_is_name T).1 tk hr (by decide) (T.glo 12) (da_cons (de_var (pv 0)) da_nil))) (de_var (pv 0)) de_non))) ds_nil)
      (ds_cons (ds_if (dt_cmp (ho_eq hr.units) (o_eqH hK) (de_var (pv 1)) (de_str (s := [111, 112, 101, 114, 97, 110, 100]) (by kernel_rfl)) (nomark _)) (ds_one (ds_ret (dk_call hK (ok_operand_in T).1 tk hr (by decide) (T.glo 38) (da_cons (de_var (pv 0)) da_nil)))) ds_nil)
      (ds_cons (ds_if (dt_cmp (ho_eq hr.units) (o_eqH hK) (de_var (pv 1)) (de_str (s := [118, 97, 108, 117, 101]) (by kernel_rfl)) (nomark _)) (ds_one (ds_ret (dk_call hK (ok_value_in T).1 tk hr (by decide) (T.glo 37) (da_cons (de_var (pv 0)) da_nil)))) ds_nil)
      (ds_cons (ds_set (i := 3) sc_field_in.nd rfl (by first | exact Or.inl rfl | exact Or.inr rfl) (de_if (dt_cmp (ho_eq hr.units) (o_eqH hK) (de_var (pv 1)) (de_str (s := [115, 105, 103, 110]) (by kernel_rfl)) (nomark _)) (de_gtup hK (T.glo 17) (T.ex 1)) (de_tup (da_cons (de_str (s := [61]) (by kernel_rfl)) (da_cons (de_str (s := [33, 61]) (by kernel_rfl)) da_nil)))))
      (ds_one (ds_ret (de_if (dt_cmp (ho_in (hu65 hr)) (o_inH hK) (de_var (pv 0)) (de_var (pv 3)) rfl) (de_var (pv 0)) de_non)))))))))
theorem ok_instruction_in {w : World} {K : PySem.W.Frag} {mg : Str → Option Value} {base : Heap} (T : Tx fa fn ts exs w K mg) : OkF PP w K mg base 4 (He.fAd K dd_instruction_in.at_) ["words", "cells"] (spF K 2 gm_instruction_in) ∧ OkF PP w K mg base 4 (He.fAd K dd_instruction_in.at_) ["words", "cells"] (spS K 2 hm_instruction_in) :=
  mk_ok (w := w) (mg := mg) (base := base) (k := 3) (T.t.d.def_ 13) sc_instruction_in (fun fd F => (F.bindsN (fun _ _ _ _ _ _ us hl => match us, hl with | [_, _], _ => rfl) : Binds K fd ["words", "cells"] [])) (fun cdv A outer s H E F hK hr => by
    have tk := L2.takes_of (X := cxOf (L2.CX PP w) PP w K mg base ns_instruction_in dd_instruction_in.qual dd_instruction_in.scope (He.fAd K dd_instruction_in.at_) cdv A outer s H E) (E := E) rfl rfl rfl rfl
    have hp := passes_of (X := cxOf (L2.CX PP w) PP w K mg base ns_instruction_in dd_instruction_in.qual dd_instruction_in.scope (He.fAd K dd_instruction_in.at_) cdv A outer s H E) rfl
    exact (ds_cons (ds_if (dt_tnotin (T.glo 40) (KD_FORMS T) (de_ix ix_seq (o_ixH hK) (de_var (pv 0)) de_int (fun _ _ => rfl))) (ds_one (ds_ret (de_tup (da_cons de_int (da_cons de_non da_nil))))) ds_nil)
      (ds_cons (ds_set (i := 2) sc_instruction_in.nd rfl (by first | exact Or.inl rfl | exact Or.inr rfl) (de_tabix hK (T.glo 40) (KE_FORMS T) (T.ex 3) (de_ix ix_seq (o_ixH hK) (de_var (pv 0)) de_int (fun _ _ => rfl)) (fun _ _ => rfl)))
      (ds_cons (ds_set (i := 3) sc_instruction_in.nd rfl (by first | exact Or.inl rfl | exact Or.inr rfl) (de_tup (da_cons (de_ix ix_seq (o_ixH hK) (de_var (pv 0)) de_int (fun _ _ => rfl)) da_nil)))
      (ds_cons (ds_for hp rfl (di_rng1 (T.free 32) (da_cons (de_callB (o_lenH hK) ho_len (T.free 5) b_len (da_cons (de_var (pv 2)) da_nil)) da_nil)) (pg_name (i := 4) sc_instruction_in.nd rfl (by first | exact Or.inl rfl | exact Or.inr rfl)) (og_name 4) (ds_cons (ds_set (i := 5) sc_instruction_in.nd rfl (by first | exact Or.inl rfl | exact Or.inr rfl) (de_if (dt_cmp op_lt o_lt (de_op ho_add (o_addH hK) (de_var (pv 4)) de_int) (de_callB (o_lenH hK) ho_len (T.free 5) b_len (da_cons (de_var (pv 0)) da_nil)) (nomark _)) (dk_call hK (ok_field_in T).1 tk hr (by decide) (T.glo 39) (da_cons (de_ix ix_seq (o_ixH hK) (de_var (pv 0)) (de_op ho_add (o_addH hK) (de_var (pv 4)) de_int) (fun _ _ => rfl)) (da_cons (de_ix ix_seq (o_ixH hK) (de_var (pv 2)) (de_var (pv 4)) (fun _ _ => rfl)) (da_cons (de_var (pv 1)) da_nil)))) de_non))
      (ds_cons (ds_if (dt_cmp op_isN o_is (de_var (pv 5)) de_non (nomark _)) (ds_one (ds_ret (de_tup (da_cons (de_op ho_add (o_addH hK) (de_var (pv 4)) de_int) (da_cons de_non da_nil))))) ds_nil)
      (ds_one (ds_set (i := 3) sc_instruction_in.nd rfl (by first | exact Or.inl rfl | exact Or.inr rfl) (de_op ho_add (o_addH hK) (de_var (pv 3)) (de_tup (da_cons (de_var (pv 5)) da_nil))))))))
      (ds_one (ds_ret (de_if (dt_cmp op_gt o_gt (de_callB (o_lenH hK) ho_len (T.free 5) b_len (da_cons (de_var (pv 0)) da_nil)) (de_op ho_add (o_addH hK) (de_callB (o_lenH hK) ho_len (T.free 5) b_len (da_cons (de_var (pv 2)) da_nil)) de_int) (nomark _)) (de_tup (da_cons (de_op ho_add (o_addH hK) (de_callB (o_lenH hK) ho_len (T.free 5) b_len (da_cons (de_var (pv 2)) da_nil)) de_int) (da_cons de_non da_nil))) (de_tup (da_cons de_non (da_cons (de_var (pv 3)) da_nil)))))))))))
theorem ok_part_in {w : World} {K : PySem.W.Frag} {mg : Str → Option Value} {base : Heap} (T : Tx fa fn ts exs w K mg) : OkF PP w K mg base 2 (He.fAd K dd_part_in.at_) ["words", "at", "reading"] (spF K 3 gm_part_in) ∧ OkF PP w K mg base 2 (He.fAd K dd_part_in.at_) ["words", "at", "reading"] (spS K 3 hm_part_in) :=
  mk_ok (w := w) (mg := mg) (base := base) (k := 1) (T.t.d.def_ 14) sc_part_in (fun fd F => (F.bindsN (fun _ _ _ _ _ _ us hl => match us, hl with | [_, _, _], _ => rfl) : Binds K fd ["words", "at", "reading"] [])) (fun cdv A outer s H E F hK hr => by
    have tk := L2.takes_of (X := cxOf (L2.CX PP w) PP w K mg base ns_part_in dd_part_in.qual dd_part_in.scope (He.fAd K dd_part_in.at_) cdv A outer s H E) (E := E) rfl rfl rfl rfl
    have hp := passes_of (X := cxOf (L2.CX PP w) PP w K mg base ns_part_in dd_part_in.qual dd_part_in.scope (He.fAd K dd_part_in.at_) cdv A outer s H E) rfl
    exact (ds_cons (ds_set (i := 3) sc_part_in.nd rfl (by first | exact Or.inl rfl | exact Or.inr rfl) (de_if (dt_cmp op_lt o_lt (de_var (pv 1)) (de_callB (o_lenH hK) ho_len (T.free 5) b_len (da_cons (de_var (pv 0)) da_nil)) (nomark _)) (de_ix ix_seq (o_ixH hK) (de_var (pv 0)) (de_var (pv 1)) (fun _ _ => rfl)) (de_str (s := []) (by kernel_rfl))))
      (ds_cons (ds_set (i := 4) sc_part_in.nd rfl (by first | exact Or.inl rfl | exact Or.inr rfl) (de_bm m_split hK PySem.F.plainAttrs_str PySem.F.slot_str_split PySem.F.type_str_split mt_split (de_var (pv 3)) (da_cons (de_str (s := [46]) (by kernel_rfl)) da_nil)))
      (ds_cons (ds_if (dt_cmp (ho_eq hr.units) (o_eqH hK) (de_callB (o_lenH hK) ho_len (T.free 5) b_len (da_cons (de_var (pv 4)) da_nil)) de_int (nomark _)) (ds_one (ds_set (i := 5) sc_part_in.nd rfl (by first | exact Or.inl rfl | exact Or.inr rfl) (de_and (ob_din (hu1 hr) (oe_d (de_ix ix_seq (o_ixH hK) (de_var (pv 4)) de_int (fun _ _ => rfl))) (oe_fld hK (oe_d (de_var (pv 2))) (T.cls 41) (T.noat 42)) rfl) (de_one (dk_call hK (ok_is_name T).1 tk hr (by decide) (T.glo 12) (da_cons (de_ix ix_seq (o_ixH hK) (de_var (pv 4)) de_int (fun _ _ => rfl)) da_nil)))))) (ds_one (ds_set (i := 5) sc_part_in.nd rfl (by first | exact Or.inl rfl | exact Or.inr rfl) (ob_din (hu1 hr) (oe_d (de_var (pv 3))) (oe_fld hK (oe_d (de_var (pv 2))) (T.cls 41) (T.noat 43)) rfl))))
      (ds_cons (ds_if (dt_not (dt_val (de_var (pv 5)))) (ds_one (ds_ret (de_tup (da_cons (de_var (pv 1)) (da_cons de_non da_nil))))) ds_nil)
      (ds_cons (ds_if (PW.pt (dw_or (dt_cmp op_ge o_ge (de_op ho_add (o_addH hK) (de_var (pv 1)) de_int) (de_callB (o_lenH hK) ho_len (T.free 5) b_len (da_cons (de_var (pv 0)) da_nil)) (nomark _)) (dw_or1 (dt_cmp (ho_ne hr.units) (o_neH hK) (de_ix ix_seq (o_ixH hK) (de_var (pv 0)) (de_op ho_add (o_addH hK) (de_var (pv 1)) de_int) (fun _ _ => rfl)) (de_str (s := [61]) (by kernel_rfl)) (nomark _))))) (ds_one (ds_ret (de_tup (da_cons (de_op ho_add (o_addH hK) (de_var (pv 1)) de_int) (da_cons de_non da_nil))))) ds_nil)
      (ds_cons (ds_set (i := 6) sc_part_in.nd rfl (by first | exact Or.inl rfl | exact Or.inr rfl) (de_if (dt_cmp op_lt o_lt (de_op ho_add (o_addH hK) (de_var (pv 1)) de_int) (de_callB (o_lenH hK) ho_len (T.free 5) b_len (da_cons (de_var (pv 0)) da_nil)) (nomark _)) (dk_call hK (ok_value_in T).1 tk hr (by decide) (T.glo 37) (da_cons (de_ix ix_seq (o_ixH hK) (de_var (pv 0)) (de_op ho_add (o_addH hK) (de_var (pv 1)) de_int) (fun _ _ => rfl)) da_nil)) de_non))
      (ds_cons (ds_if (dt_cmp op_isN o_is (de_var (pv 6)) de_non (nomark _)) (ds_one (ds_ret (de_tup (da_cons (de_op ho_add (o_addH hK) (de_var (pv 1)) de_int) (da_cons de_non da_nil))))) ds_nil)
      (ds_one (ds_ret (de_tup (da_cons de_non (da_cons (de_if (dt_cmp (ho_eq hr.units) (o_eqH hK) (de_callB (o_lenH hK) ho_len (T.free 5) b_len (da_cons (de_var (pv 4)) da_nil)) de_int (nomark _)) (de_tup (da_cons (de_ix ix_seq (o_ixH hK) (de_var (pv 4)) de_int (fun _ _ => rfl)) (da_cons (de_ix ix_seq (o_ixH hK) (de_var (pv 4)) de_int (fun _ _ => rfl)) (da_cons (de_var (pv 6)) da_nil)))) (de_tup (da_cons (de_var (pv 3)) (da_cons (de_var (pv 6)) da_nil)))) da_nil)))))))))))))
theorem ok_Reading_is_full {w : World} {K : PySem.W.Frag} {mg : Str → Option Value} {base : Heap} (T : Tx fa fn ts exs w K mg) : OkF PP w K mg base 1 (He.fAd K dd_Reading_is_full.at_) ["self", "is_fence"] (spF K 2 gm_Reading_is_full) ∧ OkF PP w K mg base 1 (He.fAd K dd_Reading_is_full.at_) ["self", "is_fence"] (spS K 2 hm_Reading_is_full) :=
  mk_ok (w := w) (mg := mg) (base := base) (k := 0) (T.t.d.def_ 15) sc_Reading_is_full (fun fd F => (F.bindsN (fun _ _ _ _ _ _ us hl => match us, hl with | [_, _], _ => rfl) : Binds K fd ["self", "is_fence"] [])) (fun cdv A outer s H E F hK hr => by
    have tk := L2.takes_of (X := cxOf (L2.CX PP w) PP w K mg base ns_Reading_is_full dd_Reading_is_full.qual dd_Reading_is_full.scope (He.fAd K dd_Reading_is_full.at_) cdv A outer s H E) (E := E) rfl rfl rfl rfl
    have hp := passes_of (X := cxOf (L2.CX PP w) PP w K mg base ns_Reading_is_full dd_Reading_is_full.qual dd_Reading_is_full.scope (He.fAd K dd_Reading_is_full.at_) cdv A outer s H E) rfl
    exact (ds_cons (ds_if (dt_val (de_var (pv 1))) (ds_one (ds_ret (ob_cmp (ho_eq hr.units) (o_eqH hK) (oe_fld hK (oe_d (de_var (pv 0))) (T.cls 41) (T.noat 46)) (oe_d (de_gint (T.int 26))) (nomark _)))) ds_nil)
      (ds_one (ds_ret (de_or (ob_cmp (ho_eq hr.units) (o_eqH hK) (oe_fld hK (oe_d (de_var (pv 0))) (T.cls 41) (T.noat 44)) (oe_d (de_gint (T.int 25))) (nomark _)) (de_one (ob_cmp (ho_eq hr.units) (o_eqH hK) (oe_fld hK (oe_d (de_var (pv 0))) (T.cls 41) (T.noat 45)) (oe_d (de_gint (T.int 23))) (nomark _))))))))
theorem ok_Reading___init__ {w : World} {K : PySem.W.Frag} {mg : Str → Option Value} {base : Heap} (T : Tx fa fn ts exs w K mg) : OkF PP w K mg base 1 (He.fAd K dd_Reading___init__.at_) ["self"] (spF K 1 gm_Reading___init__) ∧ OkF PP w K mg base 1 (He.fAd K dd_Reading___init__.at_) ["self"] (spS K 1 hm_Reading___init__) :=
  mk_ok (w := w) (mg := mg) (base := base) (k := 0) (T.t.d.def_ 16) sc_Reading___init__ (fun fd F => (F.bindsN (fun _ _ _ _ _ _ us hl => match us, hl with | [_], _ => rfl) : Binds K fd ["self"] [])) (fun cdv A outer s H E F hK hr => by
    have tk := L2.takes_of (X := cxOf (L2.CX PP w) PP w K mg base ns_Reading___init__ dd_Reading___init__.qual dd_Reading___init__.scope (He.fAd K dd_Reading___init__.at_) cdv A outer s H E) (E := E) rfl rfl rfl rfl
    have hp := passes_of (X := cxOf (L2.CX PP w) PP w K mg base ns_Reading___init__ dd_Reading___init__.qual dd_Reading___init__.scope (He.fAd K dd_Reading___init__.at_) cdv A outer s H E) rfl
    exact (ds_cons (os_row (oe_row (oa_cons oe_dct (oa_cons oe_dct (oa_cons (oe_lst oa_nil) oa_nil)))) hK (pg_tup (n := 3) rfl (pgs_cons (pg_fld (oe_var (pv 0))) (pgs_cons (pg_fld (oe_var (pv 0))) (pgs_cons (pg_fld (oe_var (pv 0))) pgs_nil)))) (ogs_cons (og_fld (W := W0) hK (T.cls 41) (T.noat 43)) (ogs_cons (og_fld (W := W0) hK (T.cls 41) (T.noat 42)) (ogs_cons (og_fld (W := W0) hK (T.cls 41) (T.noat 49)) ogs_nil))))
      (ds_cons (os_fld hK (oe_var (pv 0)) (oe_d de_non) (T.cls 41) (T.noat 48))
      (ds_cons (os_fld hK (oe_var (pv 0)) (oe_lst oa_nil) (T.cls 41) (T.noat 47))
      (ds_one (os_row (oe_row (oa_cons (oe_d de_int) (oa_cons (oe_d de_int) (oa_cons (oe_d de_int) oa_nil)))) hK (pg_tup (n := 3) rfl (pgs_cons (pg_fld (oe_var (pv 0))) (pgs_cons (pg_fld (oe_var (pv 0))) (pgs_cons (pg_fld (oe_var (pv 0))) pgs_nil)))) (ogs_cons (og_fld (W := W0) hK (T.cls 41) (T.noat 45)) (ogs_cons (og_fld (W := W0) hK (T.cls 41) (T.noat 44)) (ogs_cons (og_fld (W := W0) hK (T.cls 41) (T.noat 46)) ogs_nil)))))))))
theorem ok_Reading_take_cells {w : World} {K : PySem.W.Frag} {mg : Str → Option Value} {base : Heap} (T : Tx fa fn ts exs w K mg) : OkF PP w K mg base 2 (He.fAd K dd_Reading_take_cells.at_) ["self", "words"] (spF K 2 gm_Reading_take_cells) ∧ OkF PP w K mg base 2 (He.fAd K dd_Reading_take_cells.at_) ["self", "words"] (spS K 2 hm_Reading_take_cells) :=
  mk_ok (w := w) (mg := mg) (base := base) (k := 1) (T.t.d.def_ 17) sc_Reading_take_cells (fun fd F => (F.bindsN (fun _ _ _ _ _ _ us hl => match us, hl with | [_, _], _ => rfl) : Binds K fd ["self", "words"] [])) (fun cdv A outer s H E F hK hr => by
    have tk := L2.takes_of (X := cxOf (L2.CX PP w) PP w K mg base ns_Reading_take_cells dd_Reading_take_cells.qual dd_Reading_take_cells.scope (He.fAd K dd_Reading_take_cells.at_) cdv A outer s H E) (E := E) rfl rfl rfl rfl
    have hp := passes_of (X := cxOf (L2.CX PP w) PP w K mg base ns_Reading_take_cells dd_Reading_take_cells.qual dd_Reading_take_cells.scope (He.fAd K dd_Reading_take_cells.at_) cdv A outer s H E) rfl
    exact (ds_cons (ds_if (ot_cmp op_notN o_isNot (oe_fld hK (oe_var (pv 0)) (T.cls 41) (T.noat 48)) (oe_d de_non) (nomark _)) (ds_one (ds_ret de_int)) ds_nil)
      (ds_cons (ds_if (dt_cmp (ho_eq hr.units) (o_eqH hK) (de_callB (o_lenH hK) ho_len (T.free 5) b_len (da_cons (de_var (pv 1)) da_nil)) de_int (nomark _)) (ds_one (ds_ret de_int)) ds_nil)
      (ds_cons (ds_for hp rfl (di_rng2 (T.free 32) (da_cons de_int (da_cons (de_callB (o_lenH hK) ho_len (T.free 5) b_len (da_cons (de_var (pv 1)) da_nil)) da_nil))) (pg_name (i := 2) sc_Reading_take_cells.nd rfl (by first | exact Or.inl rfl | exact Or.inr rfl)) (og_name 2) (ds_cons (ds_set (i := 3) sc_Reading_take_cells.nd rfl (by first | exact Or.inl rfl | exact Or.inr rfl) (de_bm m_split hK PySem.F.plainAttrs_str PySem.F.slot_str_split PySem.F.type_str_split mt_split (de_ix ix_seq (o_ixH hK) (de_var (pv 1)) (de_var (pv 2)) (fun _ _ => rfl)) (da_cons (de_str (s := [61]) (by kernel_rfl)) da_nil)))
      (ds_cons (ds_set (i := 4) sc_Reading_take_cells.nd rfl (by first | exact Or.inl rfl | exact Or.inr rfl) (de_if (dt_cmp (ho_eq hr.units) (o_eqH hK) (de_callB (o_lenH hK) ho_len (T.free 5) b_len (da_cons (de_var (pv 3)) da_nil)) de_int (nomark _)) de_int (de_if (dt_cmp (ho_eq hr.units) (o_eqH hK) (de_callB (o_lenH hK) ho_len (T.free 5) b_len (da_cons (de_var (pv 3)) da_nil)) de_int (nomark _)) (dk_call hK (ok_value_in T).1 tk hr (by decide) (T.glo 37) (da_cons (de_ix ix_seq (o_ixH hK) (de_var (pv 3)) de_int (fun _ _ => rfl)) da_nil)) de_non)))
      (ds_cons (ds_if (PW.pt (dw_or (dt_cmp op_isN o_is (de_var (pv 4)) de_non (nomark _)) (dw_or (dt_not (dt_val (dk_call hK (ok_is_name T).1 tk hr (by decide) (T.glo 12) (da_cons (de_ix ix_seq (o_ixH hK) (de_var (pv 3)) de_int (fun _ _ => rfl)) da_nil)))) (dw_or (ot_din (hu1 hr) (oe_d (de_ix ix_seq (o_ixH hK) (de_var (pv 3)) de_int (fun _ _ => rfl))) (oe_fld hK (oe_var (pv 0)) (T.cls 41) (T.noat 43)) rfl) (dw_or1 (dt_cmp (ho_eq hr.units) (o_eqH hK) (ob_callB (o_lenH hK) ho_len (T.free 5) b_len (oa_cons (oe_fld hK (oe_var (pv 0)) (T.cls 41) (T.noat 43)) oa_nil)) (de_gint (T.int 20)) (nomark _))))))) (ds_one (ds_ret (de_var (pv 2)))) ds_nil)
      (ds_one (os_dput (hu1 hr) (oe_fld hK (oe_var (pv 0)) (T.cls 41) (T.noat 43)) (de_ix ix_seq (o_ixH hK) (de_var (pv 3)) de_int (fun _ _ => rfl)) (oe_d (de_tup (da_cons (de_ix ix_seq (o_ixH hK) (de_var (pv 1)) de_int (fun _ _ => rfl)) (da_cons (de_var (pv 4)) da_nil))))))))))
      (ds_one (ds_ret de_non))))))
theorem ok_Reading_close {w : World} {K : PySem.W.Frag} {mg : Str → Option Value} {base : Heap} (T : Tx fa fn ts exs w K mg) : OkF PP w K mg base 1 (He.fAd K dd_Reading_close.at_) ["self"] (spF K 1 gm_Reading_close) ∧ OkF PP w K mg base 1 (He.fAd K dd_Reading_close.at_) ["self"] (spS K 1 hm_Reading_close) :=
  mk_ok (w := w) (mg := mg) (base := base) (k := 0) (T.t.d.def_ 18) sc_Reading_close (fun fd F => (F.bindsN (fun _ _ _ _ _ _ us hl => match us, hl with | [_], _ => rfl) : Binds K fd ["self"] [])) (fun cdv A outer s H E F hK hr => by
    have tk := L2.takes_of (X := cxOf (L2.CX PP w) PP w K mg base ns_Reading_close dd_Reading_close.qual dd_Reading_close.scope (He.fAd K dd_Reading_close.at_) cdv A outer s H E) (E := E) rfl rfl rfl rfl
    have hp := passes_of (X := cxOf (L2.CX PP w) PP w K mg base ns_Reading_close dd_Reading_close.qual dd_Reading_close.scope (He.fAd K dd_Reading_close.at_) cdv A outer s H E) rfl
    exact (ds_one (ds_if (ot_cmp op_notN o_isNot (oe_fld hK (oe_var (pv 0)) (T.cls 41) (T.noat 48)) (oe_d de_non) (nomark _)) (ds_one (os_dput (hu1 hr) (oe_fld hK (oe_var (pv 0)) (T.cls 41) (T.noat 42)) (de_fz (oe_fld hK (oe_var (pv 0)) (T.cls 41) (T.noat 48))) (oe_d (ob_callTy (o_tupleH hK) call_tuple_of (T.free 16) b_tuple (oa_cons (oe_ix hK (oe_fld hK (oe_var (pv 0)) (T.cls 41) (T.noat 47)) de_int (fun _ _ => rfl)) oa_nil))))) ds_nil)))
theorem ok_Reading_take_thread {w : World} {K : PySem.W.Frag} {mg : Str → Option Value} {base : Heap} (T : Tx fa fn ts exs w K mg) : OkF PP w K mg base 2 (He.fAd K dd_Reading_take_thread.at_) ["self", "words"] (spF K 2 gm_Reading_take_thread) ∧ OkF PP w K mg base 2 (He.fAd K dd_Reading_take_thread.at_) ["self", "words"] (spS K 2 hm_Reading_take_thread) :=
  mk_ok (w := w) (mg := mg) (base := base) (k := 1) (T.t.d.def_ 19) sc_Reading_take_thread (fun fd F => (F.bindsN (fun _ _ _ _ _ _ us hl => match us, hl with | [_, _], _ => rfl) : Binds K fd ["self", "words"] [])) (fun cdv A outer s H E F hK hr => by
    have tk := L2.takes_of (X := cxOf (L2.CX PP w) PP w K mg base ns_Reading_take_thread dd_Reading_take_thread.qual dd_Reading_take_thread.scope (He.fAd K dd_Reading_take_thread.at_) cdv A outer s H E) (E := E) rfl rfl rfl rfl
    have hp := passes_of (X := cxOf (L2.CX PP w) PP w K mg base ns_Reading_take_thread dd_Reading_take_thread.qual dd_Reading_take_thread.scope (He.fAd K dd_Reading_take_thread.at_) cdv A outer s H E) rfl
    exact (ds_cons (ds_if (PW.pt (dw_or (dt_cmp op_gt o_gt (ob_callB (o_lenH hK) ho_len (T.free 5) b_len (oa_cons (oe_fld hK (oe_var (pv 0)) (T.cls 41) (T.noat 47)) oa_nil)) de_int (nomark _)) (dw_or (dt_cmp op_gt o_gt (ob_callB (o_lenH hK) ho_len (T.free 5) b_len (oa_cons (oe_fld hK (oe_var (pv 0)) (T.cls 41) (T.noat 49)) oa_nil)) de_int (nomark _)) (dw_or1 (dt_cmp (ho_eq hr.units) (o_eqH hK) (ob_callB (o_lenH hK) ho_len (T.free 5) b_len (oa_cons (oe_fld hK (oe_var (pv 0)) (T.cls 41) (T.noat 42)) oa_nil)) (de_gint (T.int 24)) (nomark _)))))) (ds_one (ds_ret de_int)) ds_nil)
      (ds_cons (ds_if (PW.pt (dw_or (dt_cmp (ho_eq hr.units) (o_eqH hK) (de_callB (o_lenH hK) ho_len (T.free 5) b_len (da_cons (de_var (pv 1)) da_nil)) de_int (nomark _)) (dw_or (dt_not (dt_val (dk_call hK (ok_is_name T).1 tk hr (by decide) (T.glo 12) (da_cons (de_ix ix_seq (o_ixH hK) (de_var (pv 1)) de_int (fun _ _ => rfl)) da_nil)))) (dw_or1 (ot_din (hu1 hr) (oe_d (de_ix ix_seq (o_ixH hK) (de_var (pv 1)) de_int (fun _ _ => rfl))) (oe_fld hK (oe_var (pv 0)) (T.cls 41) (T.noat 42)) rfl))))) (ds_one (ds_ret de_int)) ds_nil)
      (ds_cons (ds_if (dt_cmp op_gt o_gt (de_callB (o_lenH hK) ho_len (T.free 5) b_len (da_cons (de_var (pv 1)) da_nil)) de_int (nomark _)) (ds_one (ds_ret de_int)) ds_nil)
      (ds_cons (os_expr (ok_meth0 hK (oe_var (pv 0)) (T.cls 41) (T.meth 50) (ok_Reading_close T).2 tk hr (by decide)))
      (ds_cons (os_fld hK (oe_var (pv 0)) (oe_d (de_ix ix_seq (o_ixH hK) (de_var (pv 1)) de_int (fun _ _ => rfl))) (T.cls 41) (T.noat 48))
      (ds_cons (os_dput (hu1 hr) (oe_fld hK (oe_var (pv 0)) (T.cls 41) (T.noat 42)) (de_fz (oe_fld hK (oe_var (pv 0)) (T.cls 41) (T.noat 48))) (oe_d (de_tup da_nil)))
      (ds_cons (os_fld hK (oe_var (pv 0)) (oe_lst (oa_cons (oe_lst oa_nil) oa_nil)) (T.cls 41) (T.noat 47))
      (ds_cons (os_row (oe_row (oa_cons (oe_d de_int) (oa_cons (oe_d de_int) oa_nil))) hK (pg_tup (n := 2) rfl (pgs_cons (pg_fld (oe_var (pv 0))) (pgs_cons (pg_fld (oe_var (pv 0))) pgs_nil))) (ogs_cons (og_fld (W := W0) hK (T.cls 41) (T.noat 44)) (ogs_cons (og_fld (W := W0) hK (T.cls 41) (T.noat 46)) ogs_nil)))
      (ds_one (ds_ret de_non)))))))))))
theorem ok_Reading_take_instruction {w : World} {K : PySem.W.Frag} {mg : Str → Option Value} {base : Heap} (T : Tx fa fn ts exs w K mg) : OkF PP w K mg base 5 (He.fAd K dd_Reading_take_instruction.at_) ["self", "words"] (spF K 2 gm_Reading_take_instruction) ∧ OkF PP w K mg base 5 (He.fAd K dd_Reading_take_instruction.at_) ["self", "words"] (spS K 2 hm_Reading_take_instruction) :=
  mk_ok (w := w) (mg := mg) (base := base) (k := 4) (T.t.d.def_ 20) sc_Reading_take_instruction (fun fd F => (F.bindsN (fun _ _ _ _ _ _ us hl => match us, hl with | [_, _], _ => rfl) : Binds K fd ["self", "words"] [])) (fun cdv A outer s H E F hK hr => by
    have tk := L2.takes_of (X := cxOf (L2.CX PP w) PP w K mg base ns_Reading_take_instruction dd_Reading_take_instruction.qual dd_Reading_take_instruction.scope (He.fAd K dd_Reading_take_instruction.at_) cdv A outer s H E) (E := E) rfl rfl rfl rfl
    have hp := passes_of (X := cxOf (L2.CX PP w) PP w K mg base ns_Reading_take_instruction dd_Reading_take_instruction.qual dd_Reading_take_instruction.scope (He.fAd K dd_Reading_take_instruction.at_) cdv A outer s H E) rfl
    exact (ds_cons (ds_if (PW.pt (dw_or (ot_cmp op_isN o_is (oe_fld hK (oe_var (pv 0)) (T.cls 41) (T.noat 48)) (oe_d de_non) (nomark _)) (dw_or1 (dt_cmp op_gt o_gt (ob_callB (o_lenH hK) ho_len (T.free 5) b_len (oa_cons (oe_fld hK (oe_var (pv 0)) (T.cls 41) (T.noat 49)) oa_nil)) de_int (nomark _))))) (ds_one (ds_ret de_int)) ds_nil)
      (ds_cons (ds_if (dt_cmp (ho_eq hr.units) (o_eqH hK) (de_ix ix_seq (o_ixH hK) (de_var (pv 1)) de_int (fun _ _ => rfl)) (de_str (s := [101, 110, 100]) (by kernel_rfl)) (nomark _)) (ds_cons (ds_if (PW.pt (dw_or (dt_cmp op_lt o_lt (ob_callB (o_lenH hK) ho_len (T.free 5) b_len (oa_cons (oe_fld hK (oe_var (pv 0)) (T.cls 41) (T.noat 47)) oa_nil)) de_int (nomark _)) (dw_or1 (dt_cmp op_gt o_gt (de_callB (o_lenH hK) ho_len (T.free 5) b_len (da_cons (de_var (pv 1)) da_nil)) de_int (nomark _))))) (ds_one (ds_ret (de_if (dt_cmp op_lt o_lt (ob_callB (o_lenH hK) ho_len (T.free 5) b_len (oa_cons (oe_fld hK (oe_var (pv 0)) (T.cls 41) (T.noat 47)) oa_nil)) de_int (nomark _)) de_int de_int))) ds_nil)
      (ds_cons (os_set (i := 2) sc_Reading_take_instruction.nd rfl (by first | exact Or.inl rfl | exact Or.inr rfl) (oe_pop hK (oe_fld hK (oe_var (pv 0)) (T.cls 41) (T.noat 47))))
      (ds_cons (os_asg (oe_d (ob_op ho_add (o_addH hK) (oe_ix hK (oe_ix hK (oe_fld hK (oe_var (pv 0)) (T.cls 41) (T.noat 47)) (de_neg de_int) (fun _ _ => rfl)) (de_neg de_int) (fun _ _ => rfl)) (oe_d (de_tup (da_cons (ob_callTy (o_tupleH hK) call_tuple_of (T.free 16) b_tuple (oa_cons (oe_var (pv 2)) oa_nil)) da_nil))))) (pg_sub (oe_ix hK (oe_fld hK (oe_var (pv 0)) (T.cls 41) (T.noat 47)) (de_neg de_int) (fun _ _ => rfl)) (de_neg de_int) set_list) (og_ix (W := W0)))
      (ds_one (ds_ret de_non))))) ds_nil)
      (ds_cons (ds_if (PW.pt (dw_or (dt_val (bk_meth hK (oe_var (pv 0)) (T.cls 41) (T.meth 52) (ok_Reading_is_full T).1 tk hr (by decide) (oa_cons (oe_d (de_cmp (ho_eq hr.units) (o_eqH hK) (de_ix ix_seq (o_ixH hK) (de_var (pv 1)) de_int (fun _ _ => rfl)) (de_str (s := [102, 101, 110, 99, 101]) (by kernel_rfl)) (nomark _))) oa_nil))) (dw_or1 (PW.pt (dw_and (dt_cmp (ho_eq hr.units) (o_eqH hK) (de_ix ix_seq (o_ixH hK) (de_var (pv 1)) de_int (fun _ _ => rfl)) (de_str (s := [105, 102]) (by kernel_rfl)) (nomark _)) (dw_and1 (dt_cmp op_gt o_gt (ob_callB (o_lenH hK) ho_len (T.free 5) b_len (oa_cons (oe_fld hK (oe_var (pv 0)) (T.cls 41) (T.noat 47)) oa_nil)) (de_gint (T.int 15)) (nomark _)))))))) (ds_one (ds_ret de_int)) ds_nil)
      (ds_cons (ds_asg (bk_call hK (ok_instruction_in T).1 tk hr (by decide) (T.glo 51) (oa_cons (oe_d (de_var (pv 1))) (oa_cons (oe_fld hK (oe_var (pv 0)) (T.cls 41) (T.noat 43)) oa_nil))) (pg_tup (n := 2) rfl (pgs_cons (pg_name (i := 3) sc_Reading_take_instruction.nd rfl (by first | exact Or.inl rfl | exact Or.inr rfl)) (pgs_cons (pg_name (i := 4) sc_Reading_take_instruction.nd rfl (by first | exact Or.inl rfl | exact Or.inr rfl)) pgs_nil))) (og_tupH hK (ogs_cons (og_name 3) (ogs_cons (og_name 4) ogs_nil))))
      (ds_cons (ds_if (dt_cmp op_notN o_isNot (de_var (pv 3)) de_non (nomark _)) (ds_one (ds_ret (de_var (pv 3)))) ds_nil)
      (ds_cons (os_expr (oe_append hK (oe_ix hK (oe_fld hK (oe_var (pv 0)) (T.cls 41) (T.noat 47)) (de_neg de_int) (fun _ _ => rfl)) (oe_d (de_var (pv 4)))))
      (ds_cons (ds_if (dt_cmp (ho_eq hr.units) (o_eqH hK) (de_ix ix_seq (o_ixH hK) (de_var (pv 4)) de_int (fun _ _ => rfl)) (de_str (s := [102, 101, 110, 99, 101]) (by kernel_rfl)) (nomark _)) (ds_one (os_fldaug hK (oe_var (pv 0)) de_int in_add o_radd (T.cls 41) (T.noat 46))) (ds_cons (os_fldaug hK (oe_var (pv 0)) de_int in_add o_radd (T.cls 41) (T.noat 44))
      (ds_one (os_fldaug hK (oe_var (pv 0)) de_int in_add o_radd (T.cls 41) (T.noat 45)))))
      (ds_cons (ds_if (dt_cmp (ho_eq hr.units) (o_eqH hK) (de_ix ix_seq (o_ixH hK) (de_var (pv 4)) de_int (fun _ _ => rfl)) (de_str (s := [105, 102]) (by kernel_rfl)) (nomark _)) (ds_one (os_expr (oe_append hK (oe_fld hK (oe_var (pv 0)) (T.cls 41) (T.noat 47)) (oe_lst oa_nil)))) ds_nil)
      (ds_one (ds_ret de_non)))))))))))
theorem ok_Reading_take_bad {w : World} {K : PySem.W.Frag} {mg : Str → Option Value} {base : Heap} (T : Tx fa fn ts exs w K mg) : OkF PP w K mg base 3 (He.fAd K dd_Reading_take_bad.at_) ["self", "words"] (spF K 2 gm_Reading_take_bad) ∧ OkF PP w K mg base 3 (He.fAd K dd_Reading_take_bad.at_) ["self", "words"] (spS K 2 hm_Reading_take_bad) :=
  mk_ok (w := w) (mg := mg) (base := base) (k := 2) (T.t.d.def_ 21) sc_Reading_take_bad (fun fd F => (F.bindsN (fun _ _ _ _ _ _ us hl => match us, hl with | [_, _], _ => rfl) : Binds K fd ["self", "words"] [])) (fun cdv A outer s H E F hK hr => by
    have tk := L2.takes_of (X := cxOf (L2.CX PP w) PP w K mg base ns_Reading_take_bad dd_Reading_take_bad.qual dd_Reading_take_bad.scope (He.fAd K dd_Reading_take_bad.at_) cdv A outer s H E) (E := E) rfl rfl rfl rfl
    have hp := passes_of (X := cxOf (L2.CX PP w) PP w K mg base ns_Reading_take_bad dd_Reading_take_bad.qual dd_Reading_take_bad.scope (He.fAd K dd_Reading_take_bad.at_) cdv A outer s H E) rfl
    exact (ds_cons (ds_if (PW.pt (dw_or (ot_cmp op_isN o_is (oe_fld hK (oe_var (pv 0)) (T.cls 41) (T.noat 48)) (oe_d de_non) (nomark _)) (dw_or (dt_cmp op_gt o_gt (ob_callB (o_lenH hK) ho_len (T.free 5) b_len (oa_cons (oe_fld hK (oe_var (pv 0)) (T.cls 41) (T.noat 47)) oa_nil)) de_int (nomark _)) (dw_or1 (dt_cmp (ho_eq hr.units) (o_eqH hK) (ob_callB (o_lenH hK) ho_len (T.free 5) b_len (oa_cons (oe_fld hK (oe_var (pv 0)) (T.cls 41) (T.noat 49)) oa_nil)) (de_gint (T.int 34)) (nomark _)))))) (ds_one (ds_ret de_int)) ds_nil)
      (ds_cons (os_set (i := 2) sc_Reading_take_bad.nd rfl (by first | exact Or.inl rfl | exact Or.inr rfl) (oe_lst oa_nil))
      (ds_cons (ds_for hp rfl (di_rng3 (T.free 32) (da_cons de_int (da_cons (de_op ho_add (o_addH hK) (de_callB (o_lenH hK) ho_len (T.free 5) b_len (da_cons (de_var (pv 1)) da_nil)) de_int) (da_cons de_int da_nil)))) (pg_name (i := 3) sc_Reading_take_bad.nd rfl (by first | exact Or.inl rfl | exact Or.inr rfl)) (og_name 3) (ds_cons (ds_asg (bk_call hK (ok_part_in T).1 tk hr (by decide) (T.glo 53) (oa_cons (oe_d (de_var (pv 1))) (oa_cons (oe_d (de_var (pv 3))) (oa_cons (oe_var (pv 0)) oa_nil)))) (pg_tup (n := 2) rfl (pgs_cons (pg_name (i := 4) sc_Reading_take_bad.nd rfl (by first | exact Or.inl rfl | exact Or.inr rfl)) (pgs_cons (pg_name (i := 5) sc_Reading_take_bad.nd rfl (by first | exact Or.inl rfl | exact Or.inr rfl)) pgs_nil))) (og_tupH hK (ogs_cons (og_name 4) (ogs_cons (og_name 5) ogs_nil))))
      (ds_cons (ds_if (dt_cmp op_notN o_isNot (de_var (pv 4)) de_non (nomark _)) (ds_one (ds_ret (de_var (pv 4)))) ds_nil)
      (ds_cons (os_expr (oe_append hK (oe_var (pv 2)) (oe_d (de_var (pv 5)))))
      (ds_cons (ds_if (PW.pt (dw_and (dt_cmp op_lt o_lt (de_op ho_add (o_addH hK) (de_var (pv 3)) de_int) (de_callB (o_lenH hK) ho_len (T.free 5) b_len (da_cons (de_var (pv 1)) da_nil)) (nomark _)) (dw_and1 (dt_cmp (ho_ne hr.units) (o_neH hK) (de_ix ix_seq (o_ixH hK) (de_var (pv 1)) (de_op ho_add (o_addH hK) (de_var (pv 3)) de_int) (fun _ _ => rfl)) (de_str (s := [97, 110, 100]) (by kernel_rfl)) (nomark _))))) (ds_one (ds_ret (de_op ho_add (o_addH hK) (de_var (pv 3)) de_int))) ds_nil)
      (ds_one (ds_if (dt_cmp (ho_eq hr.units) (o_eqH hK) (de_op ho_add (o_addH hK) (de_var (pv 3)) de_int) (de_callB (o_lenH hK) ho_len (T.free 5) b_len (da_cons (de_var (pv 1)) da_nil)) (nomark _)) (ds_one ds_break) ds_nil)))))))
      (ds_cons (ds_set (i := 6) sc_Reading_take_bad.nd rfl (by first | exact Or.inl rfl | exact Or.inr rfl) (de_callTy (o_tupleH hK) call_tuple_of (T.free 16) b_tuple (da_cons (de_lc rfl sc_Reading_take_bad.nd (di_seq hK (de_fzV (pv 2))) (blkOk_by (own := [(("part" : Str), 5)]) (by kernel_rfl)) (fun _ _ _ _ _ => (pg_name (i := 5) sc_Reading_take_bad.nd rfl (by first | exact Or.inl rfl | exact Or.inr rfl))) (og_name 5) (by decide) (fun _ _ _ _ _ => (dts_one (dt_cmp (ho_eq hr.units) (o_eqH hK) (de_callB (o_lenH hK) ho_len (T.free 5) b_len (da_cons (de_var (pv 5)) da_nil)) de_int (nomark _)))) (fun _ _ _ _ _ => (de_var (pv 5)))) da_nil)))
      (ds_cons (os_expr (oe_append hK (oe_fld hK (oe_var (pv 0)) (T.cls 41) (T.noat 49)) (oe_d (de_tup (da_cons (de_var (pv 6)) (da_cons (de_callTy (o_tupleH hK) call_tuple_of (T.free 16) b_tuple (da_cons (de_lc rfl sc_Reading_take_bad.nd (di_seq hK (de_fzV (pv 2))) (blkOk_by (own := [(("part" : Str), 5)]) (by kernel_rfl)) (fun _ _ _ _ _ => (pg_name (i := 5) sc_Reading_take_bad.nd rfl (by first | exact Or.inl rfl | exact Or.inr rfl))) (og_name 5) (by decide) (fun _ _ _ _ _ => (dts_one (dt_cmp (ho_eq hr.units) (o_eqH hK) (de_callB (o_lenH hK) ho_len (T.free 5) b_len (da_cons (de_var (pv 5)) da_nil)) de_int (nomark _)))) (fun _ _ _ _ _ => (de_var (pv 5)))) da_nil)) da_nil))))))
      (ds_one (ds_ret de_non))))))))
theorem ok_Reading_line {w : World} {K : PySem.W.Frag} {mg : Str → Option Value} {base : Heap} (T : Tx fa fn ts exs w K mg) : OkF PP w K mg base 6 (He.fAd K dd_Reading_line.at_) ["self", "at", "words"] (spF K 3 gm_Reading_line) ∧ OkF PP w K mg base 6 (He.fAd K dd_Reading_line.at_) ["self", "at", "words"] (spS K 3 hm_Reading_line) :=
  mk_ok (w := w) (mg := mg) (base := base) (k := 5) (T.t.d.def_ 22) sc_Reading_line (fun fd F => (F.bindsN (fun _ _ _ _ _ _ us hl => match us, hl with | [_, _, _], _ => rfl) : Binds K fd ["self", "at", "words"] [])) (fun cdv A outer s H E F hK hr => by
    have tk := L2.takes_of (X := cxOf (L2.CX PP w) PP w K mg base ns_Reading_line dd_Reading_line.qual dd_Reading_line.scope (He.fAd K dd_Reading_line.at_) cdv A outer s H E) (E := E) rfl rfl rfl rfl
    have hp := passes_of (X := cxOf (L2.CX PP w) PP w K mg base ns_Reading_line dd_Reading_line.qual dd_Reading_line.scope (He.fAd K dd_Reading_line.at_) cdv A outer s H E) rfl
    exact (ds_cons (ds_set (i := 3) sc_Reading_line.nd rfl (by first | exact Or.inl rfl | exact Or.inr rfl) (de_ix ix_seq (o_ixH hK) (de_var (pv 2)) de_int (fun _ _ => rfl)))
      (ds_cons (ds_if (dt_cmp (ho_in (hu65 hr)) (o_inH hK) (de_var (pv 3)) (de_gtup hK (T.glo 22) (T.ex 2)) rfl) (ds_one (ds_set (i := 4) sc_Reading_line.nd rfl (by first | exact Or.inl rfl | exact Or.inr rfl) (de_fz (ok_meth hK (oe_var (pv 0)) (T.cls 41) (T.meth 55) (ok_Reading_take_cells T).2 tk hr (by decide) (oa_cons (oe_d (de_var (pv 2))) oa_nil))))) (ds_one (ds_if (dt_cmp (ho_eq hr.units) (o_eqH hK) (de_var (pv 3)) (de_str (s := [116, 104, 114, 101, 97, 100]) (by kernel_rfl)) (nomark _)) (ds_one (ds_set (i := 4) sc_Reading_line.nd rfl (by first | exact Or.inl rfl | exact Or.inr rfl) (de_fz (ok_meth hK (oe_var (pv 0)) (T.cls 41) (T.meth 56) (ok_Reading_take_thread T).2 tk hr (by decide) (oa_cons (oe_d (de_var (pv 2))) oa_nil))))) (ds_one (ds_if (dt_cmp (ho_eq hr.units) (o_eqH hK) (de_var (pv 3)) (de_str (s := [98, 97, 100]) (by kernel_rfl)) (nomark _)) (ds_one (ds_set (i := 4) sc_Reading_line.nd rfl (by first | exact Or.inl rfl | exact Or.inr rfl) (de_fz (ok_meth hK (oe_var (pv 0)) (T.cls 41) (T.meth 57) (ok_Reading_take_bad T).2 tk hr (by decide) (oa_cons (oe_d (de_var (pv 2))) oa_nil))))) (ds_one (ds_set (i := 4) sc_Reading_line.nd rfl (by first | exact Or.inl rfl | exact Or.inr rfl) (de_fz (ok_meth hK (oe_var (pv 0)) (T.cls 41) (T.meth 58) (ok_Reading_take_instruction T).2 tk hr (by decide) (oa_cons (oe_d (de_var (pv 2))) oa_nil))))))))))
      (ds_one (ds_if (dt_cmp op_notN o_isNot (de_var (pv 4)) de_non (nomark _)) (ds_one (ds_raise hK rfl (XT_TextWrong T) (T.glo 54) htop hr tk (de_tup (da_cons (de_var (pv 1)) (da_cons (de_var (pv 4)) da_nil))))) ds_nil)))))
theorem ok_read_text {w : World} {K : PySem.W.Frag} {mg : Str → Option Value} {base : Heap} (T : Tx fa fn ts exs w K mg) : OkF PP w K mg base 12 (He.fAd K dd_read_text.at_) ["text"] (spF K 1 gm_read_text) ∧ OkF PP w K mg base 12 (He.fAd K dd_read_text.at_) ["text"] (spS K 1 hm_read_text) :=
  mk_ok (w := w) (mg := mg) (base := base) (k := 11) (T.t.d.def_ 23) sc_read_text (fun fd F => (F.bindsN (fun _ _ _ _ _ _ us hl => match us, hl with | [_], _ => rfl) : Binds K fd ["text"] [])) (fun cdv A outer s H E F hK hr => by
    have tk := L2.takes_of (X := cxOf (L2.CX PP w) PP w K mg base ns_read_text dd_read_text.qual dd_read_text.scope (He.fAd K dd_read_text.at_) cdv A outer s H E) (E := E) rfl rfl rfl rfl
    have hp := passes_of (X := cxOf (L2.CX PP w) PP w K mg base ns_read_text dd_read_text.qual dd_read_text.scope (He.fAd K dd_read_text.at_) cdv A outer s H E) rfl
    exact (ds_cons (os_set (i := 1) sc_read_text.nd rfl (by first | exact Or.inl rfl | exact Or.inr rfl) (ok_make0 hK (T.mkr 62) (ok_Reading___init__ T).2 tk hr (by decide) (T.glo 63)))
      (ds_cons (ds_set (i := 2) sc_read_text.nd rfl (by first | exact Or.inl rfl | exact Or.inr rfl) (de_bm m_split hK PySem.F.plainAttrs_str PySem.F.slot_str_split PySem.F.type_str_split mt_split (de_var (pv 0)) (da_cons (de_str (s := [10]) (by kernel_rfl)) da_nil)))
      (ds_cons (ds_for hp rfl (di_rng1 (T.free 32) (da_cons (de_callB (o_lenH hK) ho_len (T.free 5) b_len (da_cons (de_var (pv 2)) da_nil)) da_nil)) (pg_name (i := 3) sc_read_text.nd rfl (by first | exact Or.inl rfl | exact Or.inr rfl)) (og_name 3) (ds_cons (ds_setLc (i := 4) rfl sc_read_text.nd rfl (by rfl) (by rfl) (di_seq hK (de_bm m_split hK PySem.F.plainAttrs_str PySem.F.slot_str_split PySem.F.type_str_split mt_split (de_ix ix_seq (o_ixH hK) (de_bm m_split hK PySem.F.plainAttrs_str PySem.F.slot_str_split PySem.F.type_str_split mt_split (de_ix ix_seq (o_ixH hK) (de_var (pv 2)) (de_var (pv 3)) (fun _ _ => rfl)) (da_cons (de_str (s := [35]) (by kernel_rfl)) da_nil)) de_int (fun _ _ => rfl)) (da_cons (de_str (s := [32]) (by kernel_rfl)) da_nil))) (blkOk_by (own := [(("word" : Str), 5)]) (by kernel_rfl)) (fun _ _ _ _ _ => (pg_name (i := 5) sc_read_text.nd rfl (by first | exact Or.inl rfl | exact Or.inr rfl))) (og_name 5) (by decide) (fun _ _ _ _ _ => (dts_one (dt_cmp (ho_ne hr.units) (o_neH hK) (de_var (pv 5)) (de_str (s := []) (by kernel_rfl)) (nomark _)))) (fun _ _ _ _ _ => (de_var (pv 5))))
      (ds_one (ds_if (dt_cmp op_gt o_gt (de_callB (o_lenH hK) ho_len (T.free 5) b_len (da_cons (de_var (pv 4)) da_nil)) de_int (nomark _)) (ds_one (os_expr (ok_meth hK (oe_var (pv 1)) (T.cls 41) (T.meth 61) (ok_Reading_line T).2 tk hr (by decide) (oa_cons (oe_d (de_var (pv 3))) (oa_cons (oe_d (de_var (pv 4))) oa_nil))))) ds_nil))))
      (ds_cons (ds_if (dt_cmp (ho_ne hr.units) (o_neH hK) (ob_callB (o_lenH hK) ho_len (T.free 5) b_len (oa_cons (oe_fld hK (oe_var (pv 1)) (T.cls 41) (T.noat 47)) oa_nil)) de_int (nomark _)) (ds_one (ds_raise hK rfl (XT_TextWrong T) (T.glo 54) htop hr tk (de_tup (da_cons (de_callB (o_lenH hK) ho_len (T.free 5) b_len (da_cons (de_var (pv 2)) da_nil)) (da_cons de_int da_nil))))) ds_nil)
      (ds_cons (os_expr (ok_meth0 hK (oe_var (pv 1)) (T.cls 41) (T.meth 50) (ok_Reading_close T).2 tk hr (by decide)))
      (ds_one (ds_ret (de_fz (ok_make hK (T.mkr 59) (ok_Program___init__ T).2 tk hr (by decide) (T.glo 60) (oa_cons (oe_d (de_fz (oe_fld hK (oe_var (pv 1)) (T.cls 41) (T.noat 43)))) (oa_cons (oe_d (de_fz (oe_fld hK (oe_var (pv 1)) (T.cls 41) (T.noat 42)))) (oa_cons (oe_d (de_fz (oe_fld hK (oe_var (pv 1)) (T.cls 41) (T.noat 49)))) oa_nil)))))))))))))
theorem ok__law_draws {w : World} {K : PySem.W.Frag} {mg : Str → Option Value} {base : Heap} (T : Tx fa fn ts exs w K mg) : OkF PP w K mg base 1 (He.fAd K dd__law_draws.at_) ["script"] (spF K 1 gm__law_draws) ∧ OkF PP w K mg base 1 (He.fAd K dd__law_draws.at_) ["script"] (spS K 1 hm__law_draws) :=
  mk_ok (w := w) (mg := mg) (base := base) (k := 0) (T.t.d.def_ 24) sc__law_draws (fun fd F => (F.bindsN (fun _ _ _ _ _ _ us hl => match us, hl with | [_], _ => rfl) : Binds K fd ["script"] [])) (fun cdv A outer s H E F hK hr => by
    have tk := L2.takes_of (X := cxOf (L2.CX PP w) PP w K mg base ns__law_draws dd__law_draws.qual dd__law_draws.scope (He.fAd K dd__law_draws.at_) cdv A outer s H E) (E := E) rfl rfl rfl rfl
    have hp := passes_of (X := cxOf (L2.CX PP w) PP w K mg base ns__law_draws dd__law_draws.qual dd__law_draws.scope (He.fAd K dd__law_draws.at_) cdv A outer s H E) rfl
    exact (ds_one (os_ret (oe_lst (oa_cons (oe_list hK (de_var (pv 0)) (T.free 64)) (oa_cons (oe_d de_int) (oa_cons (oe_d de_int) (oa_cons (oe_d de_int) oa_nil))))))))
theorem ok__law_draw {w : World} {K : PySem.W.Frag} {mg : Str → Option Value} {base : Heap} (T : Tx fa fn ts exs w K mg) : OkF PP w K mg base 1 (He.fAd K dd__law_draw.at_) ["draws", "limit"] (spF K 2 gm__law_draw) ∧ OkF PP w K mg base 1 (He.fAd K dd__law_draw.at_) ["draws", "limit"] (spS K 2 hm__law_draw) :=
  mk_ok (w := w) (mg := mg) (base := base) (k := 0) (T.t.d.def_ 25) sc__law_draw (fun fd F => (F.bindsN (fun _ _ _ _ _ _ us hl => match us, hl with | [_, _], _ => rfl) : Binds K fd ["draws", "limit"] [])) (fun cdv A outer s H E F hK hr => by
    have tk := L2.takes_of (X := cxOf (L2.CX PP w) PP w K mg base ns__law_draw dd__law_draw.qual dd__law_draw.scope (He.fAd K dd__law_draw.at_) cdv A outer s H E) (E := E) rfl rfl rfl rfl
    have hp := passes_of (X := cxOf (L2.CX PP w) PP w K mg base ns__law_draw dd__law_draw.qual dd__law_draw.scope (He.fAd K dd__law_draw.at_) cdv A outer s H E) rfl
    exact (ds_cons (ds_if (PW.pt (dw_and (ot_cmp (ho_eq hr.units) (o_eqH hK) (oe_ix hK (oe_var (pv 0)) de_int (fun _ _ => rfl)) (oe_d de_int) (nomark _)) (dw_and1 (ot_cmp op_lt o_lt (oe_ix hK (oe_var (pv 0)) de_int (fun _ _ => rfl)) (oe_d (ob_callB (o_lenH hK) ho_len (T.free 5) b_len (oa_cons (oe_ix hK (oe_var (pv 0)) de_int (fun _ _ => rfl)) oa_nil))) (nomark _))))) (ds_cons (ds_set (i := 2) sc__law_draw.nd rfl (by first | exact Or.inl rfl | exact Or.inr rfl) (de_fz (oe_ix hK (oe_ix hK (oe_var (pv 0)) de_int (fun _ _ => rfl)) (de_fz (oe_ix hK (oe_var (pv 0)) de_int (fun _ _ => rfl))) (fun _ _ => rfl))))
      (ds_cons (os_asg (oe_d (ob_op ho_add (o_addH hK) (oe_ix hK (oe_var (pv 0)) de_int (fun _ _ => rfl)) (oe_d de_int))) (pg_sub (oe_var (pv 0)) de_int set_list) (og_ix (W := W0)))
      (ds_cons (ds_if (dt_cmp op_ge o_ge (de_var (pv 2)) (de_op op_pow o_pow de_int de_int) (nomark _)) (ds_one (os_asg (oe_d (de_var (pv 2))) (pg_sub (oe_var (pv 0)) de_int set_list) (og_ix (W := W0)))) ds_nil)
      (ds_one (os_asg (oe_d (de_op op_mod o_mod (de_callTy o_int call_int1 (T.free 8) b_int (da_cons (de_op ho_add (o_addH hK) (de_op ho_add (o_addH hK) (ob_op ho_mul o_mul (oe_ix hK (oe_var (pv 0)) de_int (fun _ _ => rfl)) (oe_d de_int)) (de_var (pv 2))) de_int) da_nil)) de_int)) (pg_sub (oe_var (pv 0)) de_int set_list) (og_ix (W := W0))))))) ds_nil)
      (ds_cons (ds_if (ot_cmp op_gt o_gt (oe_ix hK (oe_var (pv 0)) de_int (fun _ _ => rfl)) (oe_d de_int) (nomark _)) (ds_cons (ds_set (i := 3) sc__law_draw.nd rfl (by first | exact Or.inl rfl | exact Or.inr rfl) (de_op op_mod o_mod (ob_callTy o_int call_int1 (T.free 8) b_int (oa_cons (oe_ix hK (oe_var (pv 0)) de_int (fun _ _ => rfl)) oa_nil)) (de_var (pv 1))))
      (ds_cons (os_asg (oe_d (ob_op op_fdiv o_fdiv (oe_ix hK (oe_var (pv 0)) de_int (fun _ _ => rfl)) (oe_d (de_var (pv 1))))) (pg_sub (oe_var (pv 0)) de_int set_list) (og_ix (W := W0)))
      (ds_one (ds_ret (de_var (pv 3)))))) ds_nil)
      (ds_cons (os_asg (oe_d (de_op op_mod o_mod (de_callTy o_int call_int1 (T.free 8) b_int (da_cons (de_op ho_add (o_addH hK) (ob_op ho_mul o_mul (oe_ix hK (oe_var (pv 0)) de_int (fun _ _ => rfl)) (oe_d de_int)) de_int) da_nil)) de_int)) (pg_sub (oe_var (pv 0)) de_int set_list) (og_ix (W := W0)))
      (ds_one (ds_ret (de_op op_mod o_mod (de_callTy o_int call_int1 (T.free 8) b_int (da_cons (ob_op op_fdiv o_fdiv (oe_ix hK (oe_var (pv 0)) de_int (fun _ _ => rfl)) (oe_d de_int)) da_nil)) (de_var (pv 1)))))))))
theorem ok__law_same {w : World} {K : PySem.W.Frag} {mg : Str → Option Value} {base : Heap} (T : Tx fa fn ts exs w K mg) : ∀ n, OkF PP w K mg base (0 + n) (He.fAd K dd__law_same.at_) ["x", "due"] (spF K 2 (gm__law_same n))
  | 0 => ok_none (T.t.d.def_ 26) (fun fd F => (F.bindsN (fun _ _ _ _ _ _ us hl => match us, hl with | [_, _], _ => rfl) : Binds K fd ["x", "due"] []))
  | n + 1 => by
    have G := ok__law_same (base := base) T n
    exact (mk_ok (w := w) (mg := mg) (base := base) (k := 0 + n) (T.t.d.def_ 26) sc__law_same (fun fd F => (F.bindsN (fun _ _ _ _ _ _ us hl => match us, hl with | [_, _], _ => rfl) : Binds K fd ["x", "due"] [])) (fun cdv A outer s H E F hK hr => by
        have tk := L2.takes_of (X := cxOf (L2.CX PP w) PP w K mg base ns__law_same dd__law_same.qual dd__law_same.scope (He.fAd K dd__law_same.at_) cdv A outer s H E) (E := E) rfl rfl rfl rfl
        have hp := passes_of (X := cxOf (L2.CX PP w) PP w K mg base ns__law_same dd__law_same.qual dd__law_same.scope (He.fAd K dd__law_same.at_) cdv A outer s H E) rfl
        exact (ds_cons (ds_if (dt_cmp op_isN o_is (de_var (pv 1)) de_non (nomark _)) (ds_one (ds_ret (de_cmp op_isN o_is (de_var (pv 0)) de_non (nomark _)))) ds_nil)
          (ds_cons (ds_if (dt_val (de_callB (o_isiH hK) ho_isi (T.free 4) b_isinstance (da_cons (de_var (pv 1)) (da_cons (de_ty 2 (T.free 9) b_bool) da_nil)))) (ds_one (ds_ret (de_and (de_callB (o_isiH hK) ho_isi (T.free 4) b_isinstance (da_cons (de_var (pv 0)) (da_cons (de_ty 2 (T.free 9) b_bool) da_nil))) (de_one (de_cmp (ho_eq hr.units) (o_eqH hK) (de_var (pv 0)) (de_var (pv 1)) (nomark _)))))) ds_nil)
          (ds_cons (ds_if (dt_val (de_callB (o_isiH hK) ho_isi (T.free 4) b_isinstance (da_cons (de_var (pv 1)) (da_cons (de_ty 1 (T.free 8) b_int) da_nil)))) (ds_one (ds_ret (de_and (de_callB (o_isiH hK) ho_isi (T.free 4) b_isinstance (da_cons (de_var (pv 0)) (da_cons (de_ty 1 (T.free 8) b_int) da_nil))) (de_and (de_not (de_callB (o_isiH hK) ho_isi (T.free 4) b_isinstance (da_cons (de_var (pv 0)) (da_cons (de_ty 2 (T.free 9) b_bool) da_nil)))) (de_one (de_cmp (ho_eq hr.units) (o_eqH hK) (de_var (pv 0)) (de_var (pv 1)) (nomark _))))))) ds_nil)
          (ds_cons (ds_if (dt_val (de_callB (o_isiH hK) ho_isi (T.free 4) b_isinstance (da_cons (de_var (pv 1)) (da_cons (de_ty 0 (T.free 3) b_str) da_nil)))) (ds_one (ds_ret (de_and (de_callB (o_isiH hK) ho_isi (T.free 4) b_isinstance (da_cons (de_var (pv 0)) (da_cons (de_ty 0 (T.free 3) b_str) da_nil))) (de_one (de_cmp (ho_eq hr.units) (o_eqH hK) (de_var (pv 0)) (de_var (pv 1)) (nomark _)))))) ds_nil)
          (ds_cons (ds_if (dt_val (de_callB (o_isiH hK) ho_isi (T.free 4) b_isinstance (da_cons (de_var (pv 1)) (da_cons (de_ty 5 (T.free 29) b_dict) da_nil)))) (ds_cons ds_never
          (ds_one ds_never)) ds_nil)
          (ds_cons (ds_if (dt_val (de_callB (o_isiH hK) ho_isi (T.free 4) b_isinstance (da_cons (de_var (pv 1)) (da_cons (de_ty 4 (T.free 64) b_list) da_nil)))) (ds_one (ds_set (i := 2) sc__law_same.nd rfl (by first | exact Or.inl rfl | exact Or.inr rfl) (de_callB (o_isiH hK) ho_isi (T.free 4) b_isinstance (da_cons (de_var (pv 0)) (da_cons (de_ty 4 (T.free 64) b_list) da_nil))))) (ds_one (ds_set (i := 2) sc__law_same.nd rfl (by first | exact Or.inl rfl | exact Or.inr rfl) (de_callB (o_isiH hK) ho_isi (T.free 4) b_isinstance (da_cons (de_var (pv 0)) (da_cons (de_ty 3 (T.free 16) b_tuple) da_nil))))))
          (ds_one (ds_ret (de_and (de_var (pv 2)) (de_and (de_cmp (ho_eq hr.units) (o_eqH hK) (de_callB (o_lenH hK) ho_len (T.free 5) b_len (da_cons (de_var (pv 0)) da_nil)) (de_callB (o_lenH hK) ho_len (T.free 5) b_len (da_cons (de_var (pv 1)) da_nil)) (nomark _)) (de_one (de_callB (o_allH hK) (cr_all rfl) (T.free 2) b_all (da_cons (de_lc rfl sc__law_same.nd (di_rng1 (T.free 32) (da_cons (de_callB (o_lenH hK) ho_len (T.free 5) b_len (da_cons (de_var (pv 1)) da_nil)) da_nil)) (blkOk_by (own := [(("at" : Str), 4)]) (by kernel_rfl)) (fun _ _ _ _ _ => (pg_name (i := 4) sc__law_same.nd rfl (by first | exact Or.inl rfl | exact Or.inr rfl))) (og_name 4) (by decide) (fun _ _ _ _ _ => dts_nil) (fun _ _ _ _ _ => (dk_call hK (G) tk0 hr (Nat.le_refl _) (T.glo 65) (da_cons (de_ix ix_seq (o_ixH hK) (de_var (pv 0)) (de_var (pv 4)) (fun _ _ => rfl)) (da_cons (de_ix ix_seq (o_ixH hK) (de_var (pv 1)) (de_var (pv 4)) (fun _ _ => rfl)) da_nil))))) da_nil))))))))))))))).1
theorem ok__law_read {w : World} {K : PySem.W.Frag} {mg : Str → Option Value} {base : Heap} (T : Tx fa fn ts exs w K mg) : OkF PP w K mg base 13 (He.fAd K dd__law_read.at_) ["lines"] (spF K 1 gm__law_read) ∧ OkF PP w K mg base 13 (He.fAd K dd__law_read.at_) ["lines"] (spS K 1 hm__law_read) :=
  mk_ok (w := w) (mg := mg) (base := base) (k := 12) (T.t.d.def_ 27) sc__law_read (fun fd F => (F.bindsN (fun _ _ _ _ _ _ us hl => match us, hl with | [_], _ => rfl) : Binds K fd ["lines"] [])) (fun cdv A outer s H E F hK hr => by
    have tk := L2.takes_of (X := cxOf (L2.CX PP w) PP w K mg base ns__law_read dd__law_read.qual dd__law_read.scope (He.fAd K dd__law_read.at_) cdv A outer s H E) (E := E) rfl rfl rfl rfl
    have hp := passes_of (X := cxOf (L2.CX PP w) PP w K mg base ns__law_read dd__law_read.qual dd__law_read.scope (He.fAd K dd__law_read.at_) cdv A outer s H E) rfl
    exact (ds_one (ds_try_as (i := 1) rfl rfl sc__law_read.nd rfl (by rfl) ⟨rfl, by decide, .inl (by rw [hK]; exact (T.glo 54))⟩ tk (MT_TextWrong hK T) (fun W' pn xe tk hp => (ds_cons (ds_expr (dk_call hK (ok_read_text T).1 tk hr (by decide) (T.glo 66) (da_cons (de_bm (m_joinH hK) hK PySem.F.plainAttrs_str PySem.F.slot_str_join PySem.F.type_str_join mt_join (de_str (s := [10]) (by kernel_rfl)) (da_cons (de_var (pv 0)) da_nil)) da_nil)))
      (ds_one (ds_ret de_non)))) (fun c' a dd oe pn hc hz hf => by
      obtain rfl := mt_t hc
      rw [hK] at hz
      exact (ds_one (ds_ret (de_at (XT_TextWrong T) hz hf (pv 1))))))))
theorem ok__law_bounds {w : World} {K : PySem.W.Frag} {mg : Str → Option Value} {base : Heap} (T : Tx fa fn ts exs w K mg) : OkF PP w K mg base 2 (He.fAd K dd__law_bounds.at_) ["draws"] (spF K 1 gm__law_bounds) ∧ OkF PP w K mg base 2 (He.fAd K dd__law_bounds.at_) ["draws"] (spS K 1 hm__law_bounds) :=
  mk_ok (w := w) (mg := mg) (base := base) (k := 1) (T.t.d.def_ 28) sc__law_bounds (fun fd F => (F.bindsN (fun _ _ _ _ _ _ us hl => match us, hl with | [_], _ => rfl) : Binds K fd ["draws"] [])) (fun cdv A outer s H E F hK hr => by
    have tk := L2.takes_of (X := cxOf (L2.CX PP w) PP w K mg base ns__law_bounds dd__law_bounds.qual dd__law_bounds.scope (He.fAd K dd__law_bounds.at_) cdv A outer s H E) (E := E) rfl rfl rfl rfl
    have hp := passes_of (X := cxOf (L2.CX PP w) PP w K mg base ns__law_bounds dd__law_bounds.qual dd__law_bounds.scope (He.fAd K dd__law_bounds.at_) cdv A outer s H E) rfl
    exact (ds_cons (ds_set (i := 1) sc__law_bounds.nd rfl (by first | exact Or.inl rfl | exact Or.inr rfl) (ob_op ho_add (o_addH hK) (oe_d de_int) (ok_call hK (ok__law_draw T).2 tk hr (by decide) (T.glo 67) (oa_cons (oe_var (pv 0)) (oa_cons (oe_d de_int) oa_nil)))))
      (ds_cons (ds_set (i := 2) sc__law_bounds.nd rfl (by first | exact Or.inl rfl | exact Or.inr rfl) (de_cmp (ho_eq hr.units) (o_eqH hK) (de_var (pv 1)) de_int (nomark _)))
      (ds_cons (ds_set (i := 3) sc__law_bounds.nd rfl (by first | exact Or.inl rfl | exact Or.inr rfl) (de_lst (da_cons (de_tup (da_cons (de_lst (da_cons (de_op ho_add (o_addH hK) (de_str (s := [112, 108, 97, 105, 110, 32]) (by kernel_rfl)) (de_bm (m_joinH hK) hK PySem.F.plainAttrs_str PySem.F.slot_str_join PySem.F.type_str_join mt_join (de_str (s := [32]) (by kernel_rfl)) (da_cons (de_lc rfl sc__law_bounds.nd (di_rng1 (T.free 32) (da_cons (de_var (pv 1)) da_nil)) (blkOk_by (own := [(("k" : Str), 6)]) (by kernel_rfl)) (fun _ _ _ _ _ => (pg_name (i := 6) sc__law_bounds.nd rfl (by first | exact Or.inl rfl | exact Or.inr rfl))) (og_name 6) (by decide) (fun _ _ _ _ _ => dts_nil) (fun _ _ _ _ _ => (de_op ho_add (o_addH hK) (de_str (s := [99]) (by kernel_rfl)) (de_callTy o_str call_str_int (T.free 3) b_str (da_cons (de_var (pv 6)) da_nil))))) da_nil))) (da_cons (de_str (s := [116, 104, 114, 101, 97, 100, 32, 97]) (by kernel_rfl)) da_nil))) (da_cons (de_if (dt_val (de_var (pv 2))) de_non (de_tup (da_cons de_int (da_cons de_int da_nil)))) da_nil))) (da_cons (de_tup (da_cons (de_op ho_add (o_addH hK) (de_lst (da_cons (de_str (s := [112, 108, 97, 105, 110, 32, 120]) (by kernel_rfl)) (da_cons (de_str (s := [116, 104, 114, 101, 97, 100, 32, 97]) (by kernel_rfl)) da_nil))) (de_op ho_mul o_mul (de_lst (da_cons (de_str (s := [115, 101, 116, 32, 120, 32, 49]) (by kernel_rfl)) da_nil)) (de_var (pv 1)))) (da_cons (de_if (dt_val (de_var (pv 2))) de_non (de_tup (da_cons de_int (da_cons de_int da_nil)))) da_nil))) da_nil))))
      (ds_cons (ds_set (i := 3) sc__law_bounds.nd rfl (by first | exact Or.inl rfl | exact Or.inr rfl) (de_op ho_add (o_addH hK) (de_var (pv 3)) (de_lst (da_cons (de_tup (da_cons (de_op ho_add (o_addH hK) (de_op ho_add (o_addH hK) (de_op ho_add (o_addH hK) (de_op ho_add (o_addH hK) (de_op ho_add (o_addH hK) (de_lst (da_cons (de_str (s := [112, 108, 97, 105, 110, 32, 120]) (by kernel_rfl)) (da_cons (de_str (s := [116, 104, 114, 101, 97, 100, 32, 97]) (by kernel_rfl)) da_nil))) (de_op ho_mul o_mul (de_lst (da_cons (de_str (s := [115, 101, 116, 32, 120, 32, 49]) (by kernel_rfl)) da_nil)) de_int)) (de_lst (da_cons (de_str (s := [105, 102, 32, 49, 32, 61, 32, 49]) (by kernel_rfl)) da_nil))) (de_op ho_mul o_mul (de_lst (da_cons (de_str (s := [101, 110, 100]) (by kernel_rfl)) da_nil)) (de_callTy o_int call_int1 (T.free 8) b_int (da_cons (de_var (pv 2)) da_nil)))) (de_op ho_mul o_mul (de_lst (da_cons (de_str (s := [103, 101, 116, 32, 114, 32, 120]) (by kernel_rfl)) da_nil)) (de_callTy o_int call_int1 (T.free 8) b_int (da_cons (de_not (de_var (pv 2))) da_nil)))) (de_op ho_mul o_mul (de_lst (da_cons (de_str (s := [101, 110, 100]) (by kernel_rfl)) da_nil)) (de_callTy o_int call_int1 (T.free 8) b_int (da_cons (de_not (de_var (pv 2))) da_nil)))) (da_cons (de_if (dt_val (de_var (pv 2))) de_non (de_tup (da_cons de_int (da_cons de_int da_nil)))) da_nil))) da_nil))))
      (ds_cons (ds_set (i := 3) sc__law_bounds.nd rfl (by first | exact Or.inl rfl | exact Or.inr rfl) (de_op ho_add (o_addH hK) (de_var (pv 3)) (de_lst (da_cons (de_tup (da_cons (de_lc rfl sc__law_bounds.nd (di_rng1 (T.free 32) (da_cons (de_op op_sub o_sub (de_var (pv 1)) de_int) da_nil)) (blkOk_by (own := [(("k" : Str), 6)]) (by kernel_rfl)) (fun _ _ _ _ _ => (pg_name (i := 6) sc__law_bounds.nd rfl (by first | exact Or.inl rfl | exact Or.inr rfl))) (og_name 6) (by decide) (fun _ _ _ _ _ => dts_nil) (fun _ _ _ _ _ => (de_op ho_add (o_addH hK) (de_str (s := [116, 104, 114, 101, 97, 100, 32, 116]) (by kernel_rfl)) (de_callTy o_str call_str_int (T.free 3) b_str (da_cons (de_var (pv 6)) da_nil))))) (da_cons (de_if (dt_val (de_var (pv 2))) de_non (de_tup (da_cons de_int (da_cons de_int da_nil)))) da_nil))) (da_cons (de_tup (da_cons (de_op ho_add (o_addH hK) (de_lst (da_cons (de_str (s := [116, 104, 114, 101, 97, 100, 32, 97]) (by kernel_rfl)) da_nil)) (de_op ho_mul o_mul (de_lst (da_cons (de_str (s := [102, 101, 110, 99, 101]) (by kernel_rfl)) da_nil)) (de_op ho_add (o_addH hK) (de_var (pv 1)) de_int))) (da_cons (de_if (dt_val (de_var (pv 2))) de_non (de_tup (da_cons de_int (da_cons de_int da_nil)))) da_nil))) da_nil)))))
      (ds_cons (ds_set (i := 3) sc__law_bounds.nd rfl (by first | exact Or.inl rfl | exact Or.inr rfl) (de_op ho_add (o_addH hK) (de_var (pv 3)) (de_lst (da_cons (de_tup (da_cons (de_op ho_add (o_addH hK) (de_op ho_add (o_addH hK) (de_lst (da_cons (de_str (s := [116, 104, 114, 101, 97, 100, 32, 97]) (by kernel_rfl)) da_nil)) (de_op ho_mul o_mul (de_lst (da_cons (de_str (s := [105, 102, 32, 49, 32, 61, 32, 50]) (by kernel_rfl)) da_nil)) (de_op op_sub o_sub (de_var (pv 1)) de_int))) (de_op ho_mul o_mul (de_lst (da_cons (de_str (s := [101, 110, 100]) (by kernel_rfl)) da_nil)) (de_op op_sub o_sub (de_var (pv 1)) de_int))) (da_cons (de_if (dt_val (de_var (pv 2))) de_non (de_tup (da_cons de_int (da_cons de_int da_nil)))) da_nil))) (da_cons (de_tup (da_cons (de_op ho_add (o_addH hK) (de_lst (da_cons (de_str (s := [116, 104, 114, 101, 97, 100, 32, 97]) (by kernel_rfl)) da_nil)) (de_op ho_mul o_mul (de_lst (da_cons (de_str (s := [98, 97, 100, 32, 97, 46, 114, 32, 61, 32, 49]) (by kernel_rfl)) da_nil)) (de_op ho_add (o_addH hK) (de_var (pv 1)) de_int))) (da_cons (de_if (dt_val (de_var (pv 2))) de_non (de_tup (da_cons de_int (da_cons de_int da_nil)))) da_nil))) da_nil)))))
      (ds_cons (ds_set (i := 3) sc__law_bounds.nd rfl (by first | exact Or.inl rfl | exact Or.inr rfl) (de_op ho_add (o_addH hK) (de_var (pv 3)) (de_lst (da_cons (de_tup (da_cons (de_op ho_add (o_addH hK) (de_op ho_add (o_addH hK) (de_lst (da_cons (de_str (s := [112, 108, 97, 105, 110, 32, 120]) (by kernel_rfl)) (da_cons (de_str (s := [116, 104, 114, 101, 97, 100, 32, 97]) (by kernel_rfl)) da_nil))) (de_op ho_mul o_mul (de_lst (da_cons (de_str (s := [115, 101, 116, 32, 120, 32, 49]) (by kernel_rfl)) da_nil)) de_int)) (de_lst (da_cons (de_str (s := [115, 101, 116, 32, 120]) (by kernel_rfl)) da_nil))) (da_cons (de_tup (da_cons de_int (da_cons de_int da_nil))) da_nil))) (da_cons (de_tup (da_cons (de_op ho_add (o_addH hK) (de_op ho_add (o_addH hK) (de_lst (da_cons (de_str (s := [116, 104, 114, 101, 97, 100, 32, 97]) (by kernel_rfl)) da_nil)) (de_op ho_mul o_mul (de_lst (da_cons (de_str (s := [105, 102, 32, 49, 32, 61, 32, 50]) (by kernel_rfl)) da_nil)) de_int)) (de_lst (da_cons (de_str (s := [105, 102, 32, 49, 32, 60]) (by kernel_rfl)) da_nil))) (da_cons (de_tup (da_cons de_int (da_cons de_int da_nil))) da_nil))) (da_cons (de_tup (da_cons (de_op ho_add (o_addH hK) (de_op ho_add (o_addH hK) (de_lst (da_cons (de_str (s := [116, 104, 114, 101, 97, 100, 32, 97]) (by kernel_rfl)) da_nil)) (de_op ho_mul o_mul (de_lst (da_cons (de_str (s := [102, 101, 110, 99, 101]) (by kernel_rfl)) da_nil)) de_int)) (de_lst (da_cons (de_str (s := [102, 101, 110, 99, 101, 32, 120]) (by kernel_rfl)) da_nil))) (da_cons (de_tup (da_cons de_int (da_cons de_int da_nil))) da_nil))) da_nil))))))
      (ds_cons (ds_set (i := 4) sc__law_bounds.nd rfl (by first | exact Or.inl rfl | exact Or.inr rfl) (de_lst da_nil))
      (ds_cons (ds_for hp rfl (di_seq hK (de_lst (da_cons (de_str (s := [97]) (by kernel_rfl)) (da_cons (de_str (s := [98]) (by kernel_rfl)) (da_cons (de_str (s := [99]) (by kernel_rfl)) da_nil))))) (pg_name (i := 5) sc__law_bounds.nd rfl (by first | exact Or.inl rfl | exact Or.inr rfl)) (og_name 5) (ds_one (ds_set (i := 4) sc__law_bounds.nd rfl (by first | exact Or.inl rfl | exact Or.inr rfl) (de_op ho_add (o_addH hK) (de_op ho_add (o_addH hK) (de_var (pv 4)) (de_lst (da_cons (de_op ho_add (o_addH hK) (de_str (s := [116, 104, 114, 101, 97, 100, 32]) (by kernel_rfl)) (de_var (pv 5))) da_nil))) (de_op ho_mul o_mul (de_lst (da_cons (de_str (s := [108, 101, 116, 32, 114, 32, 49, 32, 43, 32, 49]) (by kernel_rfl)) da_nil)) de_int)))))
      (ds_cons (ds_set (i := 3) sc__law_bounds.nd rfl (by first | exact Or.inl rfl | exact Or.inr rfl) (de_op ho_add (o_addH hK) (de_var (pv 3)) (de_lst (da_cons (de_tup (da_cons (de_op ho_add (o_addH hK) (de_op ho_add (o_addH hK) (de_var (pv 4)) (de_lst (da_cons (de_str (s := [116, 104, 114, 101, 97, 100, 32, 100]) (by kernel_rfl)) da_nil))) (de_slice hK (de_lst (da_cons (de_str (s := [102, 101, 110, 99, 101]) (by kernel_rfl)) (da_cons (de_str (s := [108, 101, 116, 32, 114, 32, 49, 32, 43, 32, 49]) (by kernel_rfl)) da_nil))) dp_no (dp_so (de_op op_sub o_sub (de_var (pv 1)) de_int)))) (da_cons (de_if (dt_val (de_var (pv 2))) de_non (de_tup (da_cons de_int (da_cons de_int da_nil)))) da_nil))) (da_cons (de_tup (da_cons (de_lst (da_cons (de_str (s := [116, 104, 114, 101, 97, 100, 32, 97]) (by kernel_rfl)) (da_cons (de_str (s := [105, 102, 32, 49, 32, 61, 32, 49]) (by kernel_rfl)) da_nil))) (da_cons (de_tup (da_cons de_int (da_cons de_int da_nil))) da_nil))) da_nil)))))
      (ds_cons (ds_set (i := 3) sc__law_bounds.nd rfl (by first | exact Or.inl rfl | exact Or.inr rfl) (de_op ho_add (o_addH hK) (de_var (pv 3)) (de_lst (da_cons (de_tup (da_cons (de_lst (da_cons (de_str (s := [112, 108, 97, 105, 110, 32, 120]) (by kernel_rfl)) da_nil)) (da_cons (de_tup (da_cons de_int (da_cons de_int da_nil))) da_nil))) (da_cons (de_tup (da_cons (de_lst (da_cons (de_str (s := []) (by kernel_rfl)) da_nil)) (da_cons (de_tup (da_cons de_int (da_cons de_int da_nil))) da_nil))) (da_cons (de_tup (da_cons (de_lst (da_cons (de_str (s := [116, 104, 114, 101, 97, 100, 32, 97]) (by kernel_rfl)) (da_cons (de_str (s := [98, 97, 100, 32, 97, 46, 114, 32, 61, 32, 49]) (by kernel_rfl)) (da_cons (de_str (s := [98, 97, 100, 32, 97, 46, 114, 32, 61, 32, 49]) (by kernel_rfl)) (da_cons (de_str (s := []) (by kernel_rfl)) da_nil))))) (da_cons de_non da_nil))) da_nil))))))
      (ds_one (ds_ret (de_ix ix_seq (o_ixH hK) (de_var (pv 3)) (de_fz (ok_call hK (ok__law_draw T).2 tk hr (by decide) (T.glo 67) (oa_cons (oe_var (pv 0)) (oa_cons (oe_d (de_callB (o_lenH hK) ho_len (T.free 5) b_len (da_cons (de_var (pv 3)) da_nil))) oa_nil)))) (fun _ _ => rfl))))))))))))))))
theorem ok_lawF {w : World} {K : PySem.W.Frag} {mg : Str → Option Value} {base : Heap} (T : Tx fa fn ts exs w K mg) {fd : FuncData} (G : FunD K dd_law.name dd_law.qual dd_law.params dd_law.body dd_law.scope [] [] (He.fAd K dd_law.at_) fd) : FnOk PP w K mg base (L2.CX PP w) 14 (He.fAd K dd_law.at_) fd ["script"] (spF K 1 gm_law) :=
  fun_ok (P := PP) (w := w) (mg := mg) (base := base) (k := 13) (f := m_law) G sc_law (fun cdv A outer s H E F hK hr => by
    have tk := L2.takes_of (X := cxOf (L2.CX PP w) PP w K mg base ns_law dd_law.qual dd_law.scope (He.fAd K dd_law.at_) cdv A outer s H E) (E := E) rfl rfl rfl rfl
    have hp := passes_of (X := cxOf (L2.CX PP w) PP w K mg base ns_law dd_law.qual dd_law.scope (He.fAd K dd_law.at_) cdv A outer s H E) rfl
    exact (ds_cons (os_set (i := 1) sc_law.nd rfl (by first | exact Or.inl rfl | exact Or.inr rfl) (ok_call hK (ok__law_draws T).2 tk hr (by decide) (T.glo 68) (oa_cons (oe_d (de_var (pv 0))) oa_nil)))
      (ds_cons (ds_asg (de_fz (ok_call hK (ok__law_bounds T).2 tk hr (by decide) (T.glo 69) (oa_cons (oe_var (pv 1)) oa_nil))) (pg_tup (n := 2) rfl (pgs_cons (pg_name (i := 2) sc_law.nd rfl (by first | exact Or.inl rfl | exact Or.inr rfl)) (pgs_cons (pg_name (i := 3) sc_law.nd rfl (by first | exact Or.inl rfl | exact Or.inr rfl)) pgs_nil))) (og_tupH hK (ogs_cons (og_name 2) (ogs_cons (og_name 3) ogs_nil))))
      (ds_cons (ds_if (dt_not (dt_val (dk_call hK (ok__law_same T 7) tk hr (by decide) (T.glo 65) (da_cons (dk_call hK (ok__law_read T).1 tk hr (by decide) (T.glo 70) (da_cons (de_var (pv 2)) da_nil)) (da_cons (de_var (pv 3)) da_nil))))) (ds_one (ds_ret de_bl)) ds_nil)
      (ds_cons (ds_set (i := 4) sc_law.nd rfl (by first | exact Or.inl rfl | exact Or.inr rfl) (de_lst (da_cons (de_str (s := [112, 108, 97, 105, 110, 32, 120, 32, 121, 61, 51]) (by kernel_rfl)) (da_cons (de_str (s := [115, 121, 110, 99, 32, 102]) (by kernel_rfl)) da_nil))))
      (ds_cons (ds_set (i := 5) sc_law.nd rfl (by first | exact Or.inl rfl | exact Or.inr rfl) (de_lst (da_cons (de_str (s := [116, 104, 114, 101, 97, 100, 32, 97]) (by kernel_rfl)) (da_cons (de_str (s := [115, 101, 116, 32, 120, 32, 114]) (by kernel_rfl)) (da_cons (de_str (s := [105, 102, 32, 114, 32, 33, 61, 32, 50]) (by kernel_rfl)) (da_cons (de_str (s := [97, 100, 100, 32, 115, 32, 102, 32, 49]) (by kernel_rfl)) (da_cons (de_str (s := [101, 110, 100]) (by kernel_rfl)) (da_cons (de_str (s := [116, 104, 114, 101, 97, 100, 32, 98, 50]) (by kernel_rfl)) (da_cons (de_str (s := [97, 119, 97, 105, 116, 32, 121, 32, 55]) (by kernel_rfl)) da_nil)))))))))
      (ds_cons (ds_set (i := 6) sc_law.nd rfl (by first | exact Or.inl rfl | exact Or.inr rfl) (de_lst (da_cons (de_str (s := [98, 97, 100, 32, 97, 46, 114, 32, 61, 32, 49, 32, 97, 110, 100, 32, 98, 50, 46, 115, 32, 61, 32, 48, 32, 97, 110, 100, 32, 120, 32, 61, 32, 50]) (by kernel_rfl)) (da_cons (de_str (s := [98, 97, 100, 32, 121, 32, 61, 32, 48]) (by kernel_rfl)) da_nil))))
      (ds_cons (ds_set (i := 7) sc_law.nd rfl (by first | exact Or.inl rfl | exact Or.inr rfl) (de_lst (da_cons (de_tup (da_cons (de_str (s := [112, 108, 97, 105, 110]) (by kernel_rfl)) (da_cons de_int da_nil))) (da_cons (de_tup (da_cons (de_str (s := [115, 121, 110, 99]) (by kernel_rfl)) (da_cons de_int da_nil))) (da_cons (de_tup (da_cons (de_str (s := [112, 108, 97, 105, 110, 32, 120]) (by kernel_rfl)) (da_cons de_int da_nil))) (da_cons (de_tup (da_cons (de_str (s := [112, 108, 97, 105, 110, 32, 49]) (by kernel_rfl)) (da_cons de_int da_nil))) (da_cons (de_tup (da_cons (de_str (s := [115, 121, 110, 99, 32, 103, 61, 56]) (by kernel_rfl)) (da_cons de_int da_nil))) (da_cons (de_tup (da_cons (de_str (s := [115, 121, 110, 99, 32, 103, 32, 104, 61, 49, 61, 50]) (by kernel_rfl)) (da_cons de_int da_nil))) (da_cons (de_tup (da_cons (de_str (s := [112, 108, 97, 105, 110, 32, 103, 32, 103]) (by kernel_rfl)) (da_cons de_int da_nil))) (da_cons (de_tup (da_cons (de_str (s := [115, 121, 110, 99, 32, 102, 101, 110, 99, 101]) (by kernel_rfl)) (da_cons de_int da_nil))) da_nil))))))))))
      (ds_cons (ds_set (i := 7) sc_law.nd rfl (by first | exact Or.inl rfl | exact Or.inr rfl) (de_op ho_add (o_addH hK) (de_var (pv 7)) (de_lst (da_cons (de_tup (da_cons (de_str (s := [112, 108, 97, 105, 110, 32, 97, 98, 99, 100, 101, 102, 103, 104, 105]) (by kernel_rfl)) (da_cons de_int da_nil))) (da_cons (de_tup (da_cons (de_str (s := [112, 108, 97, 105, 110, 32, 65]) (by kernel_rfl)) (da_cons de_int da_nil))) (da_cons (de_tup (da_cons (de_str (s := [115, 101, 116, 32, 120, 32, 49]) (by kernel_rfl)) (da_cons de_int da_nil))) (da_cons (de_tup (da_cons (de_str (s := [101, 110, 100]) (by kernel_rfl)) (da_cons de_int da_nil))) (da_cons (de_tup (da_cons (de_str (s := [98, 97, 100, 32, 120, 32, 61, 32, 49]) (by kernel_rfl)) (da_cons de_int da_nil))) (da_cons (de_tup (da_cons (de_str (s := [99, 101, 108, 108, 32, 122]) (by kernel_rfl)) (da_cons de_int da_nil))) (da_cons (de_tup (da_cons (de_str (s := [102, 101, 110, 99, 101]) (by kernel_rfl)) (da_cons de_int da_nil))) da_nil))))))))))
      (ds_cons (ds_set (i := 8) sc_law.nd rfl (by first | exact Or.inl rfl | exact Or.inr rfl) (de_lst (da_cons (de_tup (da_cons (de_str (s := [115, 101, 116, 32, 122, 32, 49]) (by kernel_rfl)) (da_cons de_int da_nil))) (da_cons (de_tup (da_cons (de_str (s := [115, 101, 116, 32, 120]) (by kernel_rfl)) (da_cons de_int da_nil))) (da_cons (de_tup (da_cons (de_str (s := [115, 101, 116, 32, 120, 32, 56]) (by kernel_rfl)) (da_cons de_int da_nil))) (da_cons (de_tup (da_cons (de_str (s := [115, 101, 116, 32, 120, 32, 49, 32, 50]) (by kernel_rfl)) (da_cons de_int da_nil))) (da_cons (de_tup (da_cons (de_str (s := [103, 101, 116, 32, 49, 32, 120]) (by kernel_rfl)) (da_cons de_int da_nil))) (da_cons (de_tup (da_cons (de_str (s := [103, 101, 116, 32, 114]) (by kernel_rfl)) (da_cons de_int da_nil))) (da_cons (de_tup (da_cons (de_str (s := [103, 101, 116, 32, 114, 32, 113]) (by kernel_rfl)) (da_cons de_int da_nil))) (da_cons (de_tup (da_cons (de_str (s := [115, 119, 97, 112, 32, 114, 32, 120]) (by kernel_rfl)) (da_cons de_int da_nil))) (da_cons (de_tup (da_cons (de_str (s := [97, 100, 100, 32, 114, 32, 120, 32, 45, 49]) (by kernel_rfl)) (da_cons de_int da_nil))) da_nil)))))))))))
      (ds_cons (ds_set (i := 8) sc_law.nd rfl (by first | exact Or.inl rfl | exact Or.inr rfl) (de_op ho_add (o_addH hK) (de_var (pv 8)) (de_lst (da_cons (de_tup (da_cons (de_str (s := [97, 100, 100, 32, 114, 32, 49, 32, 49]) (by kernel_rfl)) (da_cons de_int da_nil))) (da_cons (de_tup (da_cons (de_str (s := [108, 101, 116, 32, 114, 32, 49]) (by kernel_rfl)) (da_cons de_int da_nil))) (da_cons (de_tup (da_cons (de_str (s := [108, 101, 116, 32, 114, 32, 49, 32, 47, 32, 49]) (by kernel_rfl)) (da_cons de_int da_nil))) (da_cons (de_tup (da_cons (de_str (s := [108, 101, 116, 32, 114, 32, 49, 32, 43, 32]) (by kernel_rfl)) (da_cons de_int da_nil))) (da_cons (de_tup (da_cons (de_str (s := [108, 101, 116, 32, 115, 101, 116, 32, 49, 32, 43, 32, 49]) (by kernel_rfl)) (da_cons de_int da_nil))) da_nil))))))))
      (ds_cons (ds_set (i := 8) sc_law.nd rfl (by first | exact Or.inl rfl | exact Or.inr rfl) (de_op ho_add (o_addH hK) (de_var (pv 8)) (de_lst (da_cons (de_tup (da_cons (de_str (s := [102, 101, 110, 99, 101, 32, 120]) (by kernel_rfl)) (da_cons de_int da_nil))) (da_cons (de_tup (da_cons (de_str (s := [97, 119, 97, 105, 116, 32, 120]) (by kernel_rfl)) (da_cons de_int da_nil))) (da_cons (de_tup (da_cons (de_str (s := [97, 119, 97, 105, 116, 32, 120, 32, 114]) (by kernel_rfl)) (da_cons de_int da_nil))) (da_cons (de_tup (da_cons (de_str (s := [97, 119, 97, 105, 116, 32, 49, 32, 49]) (by kernel_rfl)) (da_cons de_int da_nil))) (da_cons (de_tup (da_cons (de_str (s := [105, 102, 32, 114]) (by kernel_rfl)) (da_cons de_int da_nil))) (da_cons (de_tup (da_cons (de_str (s := [105, 102, 32, 114, 32, 60, 32, 49]) (by kernel_rfl)) (da_cons de_int da_nil))) (da_cons (de_tup (da_cons (de_str (s := [105, 102, 32, 114, 32, 61]) (by kernel_rfl)) (da_cons de_int da_nil))) (da_cons (de_tup (da_cons (de_str (s := [105, 102, 32, 114, 32, 61, 32, 49, 32, 120]) (by kernel_rfl)) (da_cons de_int da_nil))) da_nil)))))))))))
      (ds_cons (ds_set (i := 8) sc_law.nd rfl (by first | exact Or.inl rfl | exact Or.inr rfl) (de_op ho_add (o_addH hK) (de_var (pv 8)) (de_lst (da_cons (de_tup (da_cons (de_str (s := [101, 110, 100, 32, 120]) (by kernel_rfl)) (da_cons de_int da_nil))) (da_cons (de_tup (da_cons (de_str (s := [112, 108, 97, 105, 110, 32, 122]) (by kernel_rfl)) (da_cons de_int da_nil))) (da_cons (de_tup (da_cons (de_str (s := [116, 104, 114, 101, 97, 100, 32, 98, 50]) (by kernel_rfl)) (da_cons de_int da_nil))) (da_cons (de_tup (da_cons (de_str (s := [116, 104, 114, 101, 97, 100]) (by kernel_rfl)) (da_cons de_int da_nil))) (da_cons (de_tup (da_cons (de_str (s := [116, 104, 114, 101, 97, 100, 32, 99, 32, 100]) (by kernel_rfl)) (da_cons de_int da_nil))) (da_cons (de_tup (da_cons (de_str (s := [116, 104, 114, 101, 97, 100, 32, 105, 102]) (by kernel_rfl)) (da_cons de_int da_nil))) (da_cons (de_tup (da_cons (de_str (s := [115, 105, 110, 103]) (by kernel_rfl)) (da_cons de_int da_nil))) (da_cons (de_tup (da_cons (de_str (s := [120]) (by kernel_rfl)) (da_cons de_int da_nil))) da_nil)))))))))))
      (ds_cons (ds_set (i := 9) sc_law.nd rfl (by first | exact Or.inl rfl | exact Or.inr rfl) (de_lst (da_cons (de_tup (da_cons (de_str (s := [115, 101, 116, 32, 120, 32, 49]) (by kernel_rfl)) (da_cons de_int da_nil))) (da_cons (de_tup (da_cons (de_str (s := [116, 104, 114, 101, 97, 100, 32, 99]) (by kernel_rfl)) (da_cons de_int da_nil))) (da_cons (de_tup (da_cons (de_str (s := [101, 110, 100]) (by kernel_rfl)) (da_cons de_int da_nil))) (da_cons (de_tup (da_cons (de_str (s := [112, 108, 97, 105, 110, 32, 122]) (by kernel_rfl)) (da_cons de_int da_nil))) (da_cons (de_tup (da_cons (de_str (s := [98, 97, 100]) (by kernel_rfl)) (da_cons de_int da_nil))) (da_cons (de_tup (da_cons (de_str (s := [98, 97, 100, 32, 120]) (by kernel_rfl)) (da_cons de_int da_nil))) (da_cons (de_tup (da_cons (de_str (s := [98, 97, 100, 32, 120, 32, 61]) (by kernel_rfl)) (da_cons de_int da_nil))) (da_cons (de_tup (da_cons (de_str (s := [98, 97, 100, 32, 120, 32, 61, 32, 56]) (by kernel_rfl)) (da_cons de_int da_nil))) (da_cons (de_tup (da_cons (de_str (s := [98, 97, 100, 32, 120, 32, 61, 32, 114]) (by kernel_rfl)) (da_cons de_int da_nil))) da_nil)))))))))))
      (ds_cons (ds_set (i := 9) sc_law.nd rfl (by first | exact Or.inl rfl | exact Or.inr rfl) (de_op ho_add (o_addH hK) (de_var (pv 9)) (de_lst (da_cons (de_tup (da_cons (de_str (s := [98, 97, 100, 32, 122, 32, 61, 32, 49]) (by kernel_rfl)) (da_cons de_int da_nil))) (da_cons (de_tup (da_cons (de_str (s := [98, 97, 100, 32, 99, 46, 114, 32, 61, 32, 49]) (by kernel_rfl)) (da_cons de_int da_nil))) (da_cons (de_tup (da_cons (de_str (s := [98, 97, 100, 32, 97, 46, 49, 32, 61, 32, 49]) (by kernel_rfl)) (da_cons de_int da_nil))) (da_cons (de_tup (da_cons (de_str (s := [98, 97, 100, 32, 97, 46, 114, 46, 115, 32, 61, 32, 49]) (by kernel_rfl)) (da_cons de_int da_nil))) (da_cons (de_tup (da_cons (de_str (s := [98, 97, 100, 32, 120, 32, 61, 32, 49, 32, 97, 110, 100]) (by kernel_rfl)) (da_cons de_int da_nil))) (da_cons (de_tup (da_cons (de_str (s := [98, 97, 100, 32, 120, 32, 61, 32, 49, 32, 111, 114, 32, 121, 32, 61, 32, 49]) (by kernel_rfl)) (da_cons de_int da_nil))) da_nil)))))))))
      (ds_cons (ds_set (i := 9) sc_law.nd rfl (by first | exact Or.inl rfl | exact Or.inr rfl) (de_op ho_add (o_addH hK) (de_var (pv 9)) (de_lst (da_cons (de_tup (da_cons (de_str (s := [98, 97, 100, 32, 120, 32, 61, 32, 49, 32, 121, 32, 61, 32, 49]) (by kernel_rfl)) (da_cons de_int da_nil))) (da_cons (de_tup (da_cons (de_str (s := [98, 97, 100, 32, 120, 32, 61, 32, 49, 32, 97, 110, 100, 32, 121]) (by kernel_rfl)) (da_cons de_int da_nil))) (da_cons (de_tup (da_cons (de_str (s := [98, 97, 100, 32, 97, 46, 114, 32, 61, 32, 49, 32, 97, 110, 100, 32, 120, 32, 61, 32, 49, 32, 97, 110, 100]) (by kernel_rfl)) (da_cons de_int da_nil))) (da_cons (de_tup (da_cons (de_str (s := [98, 97, 100, 32, 97, 46, 32, 61, 32, 49]) (by kernel_rfl)) (da_cons de_int da_nil))) (da_cons (de_tup (da_cons (de_str (s := [98, 97, 100, 32, 46, 114, 32, 61, 32, 49]) (by kernel_rfl)) (da_cons de_int da_nil))) da_nil))))))))
      (ds_cons (ds_set (i := 10) sc_law.nd rfl (by first | exact Or.inl rfl | exact Or.inr rfl) (de_fz (ok_call hK (ok__law_draw T).2 tk hr (by decide) (T.glo 67) (oa_cons (oe_var (pv 1)) (oa_cons (oe_d de_int) oa_nil)))))
      (ds_cons (ds_set (i := 11) sc_law.nd rfl (by first | exact Or.inl rfl | exact Or.inr rfl) (de_ix ix_seq (o_ixH hK) (de_lst (da_cons (de_var (pv 7)) (da_cons (de_var (pv 8)) (da_cons (de_var (pv 9)) da_nil)))) (de_var (pv 10)) (fun _ _ => rfl)))
      (ds_cons (ds_asg (de_ix ix_seq (o_ixH hK) (de_var (pv 11)) (de_fz (ok_call hK (ok__law_draw T).2 tk hr (by decide) (T.glo 67) (oa_cons (oe_var (pv 1)) (oa_cons (oe_d (de_callB (o_lenH hK) ho_len (T.free 5) b_len (da_cons (de_var (pv 11)) da_nil))) oa_nil)))) (fun _ _ => rfl)) (pg_tup (n := 2) rfl (pgs_cons (pg_name (i := 12) sc_law.nd rfl (by first | exact Or.inl rfl | exact Or.inr rfl)) (pgs_cons (pg_name (i := 13) sc_law.nd rfl (by first | exact Or.inl rfl | exact Or.inr rfl)) pgs_nil))) (og_tupH hK (ogs_cons (og_name 12) (ogs_cons (og_name 13) ogs_nil))))
      (ds_cons (ds_if (dt_cmp (ho_eq hr.units) (o_eqH hK) (de_var (pv 10)) de_int (nomark _)) (ds_one (ds_set (i := 14) sc_law.nd rfl (by first | exact Or.inl rfl | exact Or.inr rfl) (de_if (dt_cmp (ho_in (hu65 hr)) (o_inH hK) (de_var (pv 12)) (de_tup (da_cons (de_str (s := [112, 108, 97, 105, 110, 32, 120]) (by kernel_rfl)) (da_cons (de_str (s := [115, 101, 116, 32, 120, 32, 49]) (by kernel_rfl)) (da_cons (de_str (s := [98, 97, 100, 32, 120, 32, 61, 32, 49]) (by kernel_rfl)) da_nil)))) rfl) (ob_op ho_add (o_addH hK) (oe_d de_int) (ok_call hK (ok__law_draw T).2 tk hr (by decide) (T.glo 67) (oa_cons (oe_var (pv 1)) (oa_cons (oe_d de_int) oa_nil)))) (de_fz (ok_call hK (ok__law_draw T).2 tk hr (by decide) (T.glo 67) (oa_cons (oe_var (pv 1)) (oa_cons (oe_d de_int) oa_nil))))))) (ds_one (ds_set (i := 14) sc_law.nd rfl (by first | exact Or.inl rfl | exact Or.inr rfl) (de_if (dt_cmp (ho_eq hr.units) (o_eqH hK) (de_var (pv 10)) de_int (nomark _)) (de_op ho_add (o_addH hK) (de_callB (o_lenH hK) ho_len (T.free 5) b_len (da_cons (de_var (pv 4)) da_nil)) (de_callB (o_lenH hK) ho_len (T.free 5) b_len (da_cons (de_var (pv 5)) da_nil))) (ob_op ho_add (o_addH hK) (oe_d (de_op ho_add (o_addH hK) (de_op ho_add (o_addH hK) (de_callB (o_lenH hK) ho_len (T.free 5) b_len (da_cons (de_var (pv 4)) da_nil)) (de_callB (o_lenH hK) ho_len (T.free 5) b_len (da_cons (de_var (pv 5)) da_nil))) de_int)) (ok_call hK (ok__law_draw T).2 tk hr (by decide) (T.glo 67) (oa_cons (oe_var (pv 1)) (oa_cons (oe_d de_int) oa_nil))))))))
      (ds_cons (ds_set (i := 15) sc_law.nd rfl (by first | exact Or.inl rfl | exact Or.inr rfl) (de_op ho_add (o_addH hK) (de_op ho_add (o_addH hK) (de_var (pv 4)) (de_var (pv 5))) (de_var (pv 6))))
      (ds_cons (ds_if (PW.pt (dw_and (dt_cmp (ho_eq hr.units) (o_eqH hK) (de_var (pv 10)) de_int (nomark _)) (dw_and1 (dt_cmp (ho_notIn (hu65 hr)) (o_notInH hK) (de_var (pv 12)) (de_tup (da_cons (de_str (s := [116, 104, 114, 101, 97, 100, 32, 98, 50]) (by kernel_rfl)) (da_cons (de_str (s := [112, 108, 97, 105, 110, 32, 122]) (by kernel_rfl)) (da_cons (de_str (s := [101, 110, 100, 32, 120]) (by kernel_rfl)) (da_cons (de_str (s := [116, 104, 114, 101, 97, 100]) (by kernel_rfl)) (da_cons (de_str (s := [116, 104, 114, 101, 97, 100, 32, 99, 32, 100]) (by kernel_rfl)) (da_cons (de_str (s := [116, 104, 114, 101, 97, 100, 32, 105, 102]) (by kernel_rfl)) da_nil))))))) rfl)))) (ds_one (ds_set (i := 14) sc_law.nd rfl (by first | exact Or.inl rfl | exact Or.inr rfl) (ob_op ho_add (o_addH hK) (oe_d de_int) (ok_call hK (ok__law_draw T).2 tk hr (by decide) (T.glo 67) (oa_cons (oe_var (pv 1)) (oa_cons (oe_d de_int) oa_nil)))))) ds_nil)
      (ds_cons (ds_if (dt_not (dt_val (dk_call hK (ok__law_same T 7) tk hr (by decide) (T.glo 65) (da_cons (de_lst (da_cons (dk_call hK (ok__law_read T).1 tk hr (by decide) (T.glo 70) (da_cons (de_op ho_add (o_addH hK) (de_op ho_add (o_addH hK) (de_slice hK (de_var (pv 15)) dp_no (dp_so (de_var (pv 14)))) (de_lst (da_cons (de_var (pv 12)) da_nil))) (de_slice hK (de_var (pv 15)) (dp_so (de_var (pv 14))) dp_no)) da_nil)) (da_cons (dk_call hK (ok__law_read T).1 tk hr (by decide) (T.glo 70) (da_cons (de_var (pv 15)) da_nil)) da_nil))) (da_cons (de_lst (da_cons (de_tup (da_cons (de_var (pv 14)) (da_cons (de_var (pv 13)) da_nil))) (da_cons de_non da_nil))) da_nil))))) (ds_one (ds_ret de_bl)) ds_nil)
      (ds_cons (ds_set (i := 16) sc_law.nd rfl (by first | exact Or.inl rfl | exact Or.inr rfl) (de_lst (da_cons (de_tup (da_cons (de_lst (da_cons (de_str (s := [116, 104, 114, 101, 97, 100, 32, 97]) (by kernel_rfl)) (da_cons (de_str (s := [105, 102, 32, 49, 32, 61, 32, 49]) (by kernel_rfl)) (da_cons (de_str (s := [116, 104, 114, 101, 97, 100, 32, 98]) (by kernel_rfl)) (da_cons (de_str (s := [101, 110, 100]) (by kernel_rfl)) da_nil))))) (da_cons (de_tup (da_cons de_int (da_cons de_int da_nil))) da_nil))) (da_cons (de_tup (da_cons (de_lst (da_cons (de_str (s := [116, 104, 114, 101, 97, 100, 32, 97]) (by kernel_rfl)) (da_cons (de_str (s := [105, 102, 32, 49, 32, 61, 32, 49]) (by kernel_rfl)) (da_cons (de_str (s := [98, 97, 100, 32, 97, 46, 114, 32, 61, 32, 49]) (by kernel_rfl)) (da_cons (de_str (s := [101, 110, 100]) (by kernel_rfl)) da_nil))))) (da_cons (de_tup (da_cons de_int (da_cons de_int da_nil))) da_nil))) da_nil))))
      (ds_cons (ds_set (i := 16) sc_law.nd rfl (by first | exact Or.inl rfl | exact Or.inr rfl) (de_op ho_add (o_addH hK) (de_var (pv 16)) (de_lst (da_cons (de_tup (da_cons (de_lst (da_cons (de_str (s := [116, 104, 114, 101, 97, 100, 32, 97]) (by kernel_rfl)) (da_cons (de_str (s := [105, 102, 32, 49, 32, 61, 32, 49]) (by kernel_rfl)) (da_cons (de_str (s := [101, 110, 100, 32, 120]) (by kernel_rfl)) da_nil)))) (da_cons (de_tup (da_cons de_int (da_cons de_int da_nil))) da_nil))) (da_cons (de_tup (da_cons (de_lst (da_cons (de_str (s := [116, 104, 114, 101, 97, 100, 32, 97]) (by kernel_rfl)) (da_cons (de_str (s := [105, 102, 32, 49, 32, 61, 32, 49]) (by kernel_rfl)) (da_cons (de_str (s := [112, 108, 97, 105, 110, 32, 120]) (by kernel_rfl)) (da_cons (de_str (s := [101, 110, 100]) (by kernel_rfl)) da_nil))))) (da_cons (de_tup (da_cons de_int (da_cons de_int da_nil))) da_nil))) da_nil)))))
      (ds_one (ds_ret (dk_call hK (ok__law_same T 7) tk hr (by decide) (T.glo 65) (da_cons (de_lc rfl sc_law.nd (di_seq hK (de_var (pv 16))) (blkOk_by (own := [(("lines" : Str), 2), (("told" : Str), 17)]) (by kernel_rfl)) (fun _ _ _ _ _ => (pg_tup (n := 2) rfl (pgs_cons (pg_name (i := 2) sc_law.nd rfl (by first | exact Or.inl rfl | exact Or.inr rfl)) (pgs_cons (pg_name (i := 17) sc_law.nd rfl (by first | exact Or.inl rfl | exact Or.inr rfl)) pgs_nil)))) (og_tupH hK (ogs_cons (og_name 2) (ogs_cons (og_name 17) ogs_nil))) (by decide) (fun _ _ _ _ _ => dts_nil) (fun _ _ _ _ _ => (dk_call hK (ok__law_read T).1 tk0 hr (by decide) (T.glo 70) (da_cons (de_var (pv 2)) da_nil)))) (da_cons (de_lc rfl sc_law.nd (di_seq hK (de_var (pv 16))) (blkOk_by (own := [(("lines" : Str), 2), (("told" : Str), 17)]) (by kernel_rfl)) (fun _ _ _ _ _ => (pg_tup (n := 2) rfl (pgs_cons (pg_name (i := 2) sc_law.nd rfl (by first | exact Or.inl rfl | exact Or.inr rfl)) (pgs_cons (pg_name (i := 17) sc_law.nd rfl (by first | exact Or.inl rfl | exact Or.inr rfl)) pgs_nil)))) (og_tupH hK (ogs_cons (og_name 2) (ogs_cons (og_name 17) ogs_nil))) (by decide) (fun _ _ _ _ _ => dts_nil) (fun _ _ _ _ _ => (de_var (pv 17)))) da_nil))))))))))))))))))))))))))))))
end K01

set_option maxRecDepth 100000
set_option maxHeartbeats 0
namespace K01
open PySem PySem.Spec
open PyProof.Rows hiding St
open L2 LP
set_option autoImplicit false
theorem draw_at {ns : List Int} {p b s L : Int} {rest : List (Option Node)} (hp : 0 ≤ p) (hb : 0 ≤ b) (h1 : 1 ≤ L) (h2 : L < 1073741824) : ∃ v p' b' s', 0 ≤ v ∧ v < L ∧ 0 ≤ p' ∧ 0 ≤ b' ∧ hm__law_draw [.o 1, .d (.int L)] (OB ns p b s rest) = some (.ok (.d (.int v)), OB ns p' b' s' rest) := draw_ok (x2' := .no) (x3' := .no) hp hb h1 h2
def sB0 (v : Int) : List Sl := [.o 1, .v (.int (8 + v)), .no, .no, .no, .no, .no]
def preB : Sv := seqS m__law_bounds_s1 (seqS m__law_bounds_s2 (seqS m__law_bounds_s3 (seqS m__law_bounds_s4 (seqS m__law_bounds_s5 (seqS m__law_bounds_s6 (seqS m__law_bounds_s7 (seqS m__law_bounds_s8 (seqS m__law_bounds_s9 m__law_bounds_s10))))))))
def slOf : Option Out → List Sl
  | some (.nx ρ) => ρ.sl
  | _ => []
def rowsOf (i : Nat) (sl : List Sl) : List D := match sl[i]? with
  | some (.v (.lst ds)) => ds
  | _ => []
def sB (v : Int) : List Sl := slOf (preB ⟨sB0 v, []⟩)
theorem preB_0 (ob : List (Option Node)) : preB ⟨sB0 0, ob⟩ = some (.nx ⟨sB 0, ob⟩) := by kernel_rfl
theorem preB_1 (ob : List (Option Node)) : preB ⟨sB0 1, ob⟩ = some (.nx ⟨sB 1, ob⟩) := by kernel_rfl
def goodRow : D → Bool
  | .tup [ls, due] => (match gm__law_read [ls] with
    | some (.ok r) => (match gm__law_same 7 [r, due] with
      | some (.ok (.bl true)) => true
      | _ => false)
    | _ => false)
  | _ => false

theorem good_0 : (rowsOf 3 (sB 0)).all goodRow = true := by kernel_rfl
theorem good_1 : (rowsOf 3 (sB 1)).all goodRow = true := by kernel_rfl

def pre14 : Sv := seqS m_law_s3 (seqS m_law_s4 (seqS m_law_s5 (seqS m_law_s6 (seqS m_law_s7 (seqS m_law_s8 (seqS m_law_s9 (seqS m_law_s10 (seqS m_law_s11 (seqS m_law_s12 (seqS m_law_s13 m_law_s14))))))))))
def sl3 (z0 z2 z3 : Sl) : List Sl := [z0, .o 1, z2, z3, .no, .no, .no, .no, .no, .no, .no, .no, .no, .no, .no, .no, .no, .no]
def sl14 (z0 z2 z3 : Sl) : List Sl := slOf (pre14 ⟨sl3 z0 z2 z3, []⟩)
theorem pre14_ok (z0 z2 z3 : Sl) (ob : List (Option Node)) : pre14 ⟨sl3 z0 z2 z3, ob⟩ = some (.nx ⟨sl14 z0 z2 z3, ob⟩) := by kernel_rfl
def sl16 (k : Int) (z0 z2 z3 : Sl) : List Sl := slOf (m_law_s16 ⟨(sl14 z0 z2 z3).set 10 (.v (.int k)), []⟩)
def seg (d18 d20 : Gm) : Sv := seqS (m_law_s18' d18) (seqS m_law_s19 (seqS (m_law_s20' d20) (seqS m_law_s21 (seqS m_law_s22 (seqS m_law_s23 m_law_s24)))))
def isT : Option Out → Bool
  | some (.rt (.d (.bl true)) _) => true
  | _ => false
def sl17 (k : Int) (r : Nat) (z0 z2 z3 : Sl) : List Sl := match (rowsOf 11 (sl16 k z0 z2 z3))[r]? with
  | some (.tup [l, w]) => ((sl16 k z0 z2 z3).set 12 (.v l)).set 13 (.v w)
  | _ => []
def okD (v : Int) (ob' : List (Option Node)) : Gm := fun _ _ => some (.ok (.d (.int v)), ob')

theorem s16_0 (z0 z2 z3 : Sl) (ob : List (Option Node)) : m_law_s16 ⟨(sl14 z0 z2 z3).set 10 (.v (.int 0)), ob⟩ = some (.nx ⟨sl16 0 z0 z2 z3, ob⟩) := by kernel_rfl
theorem s16_1 (z0 z2 z3 : Sl) (ob : List (Option Node)) : m_law_s16 ⟨(sl14 z0 z2 z3).set 10 (.v (.int 1)), ob⟩ = some (.nx ⟨sl16 1 z0 z2 z3, ob⟩) := by kernel_rfl
theorem s16_2 (z0 z2 z3 : Sl) (ob : List (Option Node)) : m_law_s16 ⟨(sl14 z0 z2 z3).set 10 (.v (.int 2)), ob⟩ = some (.nx ⟨sl16 2 z0 z2 z3, ob⟩) := by kernel_rfl
theorem A_0_0 (z0 z2 z3 : Sl) (ob : List (Option Node)) (dr dr0 : Gm) : seg dr dr0 ⟨sl17 0 0 z0 z2 z3, ob⟩ = seg (fun _ _ => dr [.o 1, .d (.int 3)] ob) dr0 ⟨sl17 0 0 z0 z2 z3, ob⟩ := by kernel_rfl
theorem B_0_0_0 (z0 z2 z3 : Sl) (ob ob' : List (Option Node)) (dr0 : Gm) : isT (seg (okD 0 ob') dr0 ⟨sl17 0 0 z0 z2 z3, ob⟩) = true := by kernel_rfl
theorem B_0_0_1 (z0 z2 z3 : Sl) (ob ob' : List (Option Node)) (dr0 : Gm) : isT (seg (okD 1 ob') dr0 ⟨sl17 0 0 z0 z2 z3, ob⟩) = true := by kernel_rfl
theorem B_0_0_2 (z0 z2 z3 : Sl) (ob ob' : List (Option Node)) (dr0 : Gm) : isT (seg (okD 2 ob') dr0 ⟨sl17 0 0 z0 z2 z3, ob⟩) = true := by kernel_rfl
theorem C_0_0 (z0 z2 z3 : Sl) (ob ob' : List (Option Node)) (dr dr0 : Gm) (v : Int) (h0 : 0 ≤ v) (h1 : v < 3) (h : dr [.o 1, .d (.int 3)] ob = some (.ok (.d (.int v)), ob')) : isT (seg dr dr0 ⟨sl17 0 0 z0 z2 z3, ob⟩) = true := by
  rw [A_0_0, h]
  have : v = 0 ∨ v = 1 ∨ v = 2 := by omega
  rcases this with rfl | rfl | rfl
  · exact B_0_0_0 z0 z2 z3 ob ob' dr0
  · exact B_0_0_1 z0 z2 z3 ob ob' dr0
  · exact B_0_0_2 z0 z2 z3 ob ob' dr0
theorem A_0_1 (z0 z2 z3 : Sl) (ob : List (Option Node)) (dr dr0 : Gm) : seg dr dr0 ⟨sl17 0 1 z0 z2 z3, ob⟩ = seg (fun _ _ => dr [.o 1, .d (.int 3)] ob) dr0 ⟨sl17 0 1 z0 z2 z3, ob⟩ := by kernel_rfl
theorem B_0_1_0 (z0 z2 z3 : Sl) (ob ob' : List (Option Node)) (dr0 : Gm) : isT (seg (okD 0 ob') dr0 ⟨sl17 0 1 z0 z2 z3, ob⟩) = true := by kernel_rfl
theorem B_0_1_1 (z0 z2 z3 : Sl) (ob ob' : List (Option Node)) (dr0 : Gm) : isT (seg (okD 1 ob') dr0 ⟨sl17 0 1 z0 z2 z3, ob⟩) = true := by kernel_rfl
theorem B_0_1_2 (z0 z2 z3 : Sl) (ob ob' : List (Option Node)) (dr0 : Gm) : isT (seg (okD 2 ob') dr0 ⟨sl17 0 1 z0 z2 z3, ob⟩) = true := by kernel_rfl
theorem C_0_1 (z0 z2 z3 : Sl) (ob ob' : List (Option Node)) (dr dr0 : Gm) (v : Int) (h0 : 0 ≤ v) (h1 : v < 3) (h : dr [.o 1, .d (.int 3)] ob = some (.ok (.d (.int v)), ob')) : isT (seg dr dr0 ⟨sl17 0 1 z0 z2 z3, ob⟩) = true := by
  rw [A_0_1, h]
  have : v = 0 ∨ v = 1 ∨ v = 2 := by omega
  rcases this with rfl | rfl | rfl
  · exact B_0_1_0 z0 z2 z3 ob ob' dr0
  · exact B_0_1_1 z0 z2 z3 ob ob' dr0
  · exact B_0_1_2 z0 z2 z3 ob ob' dr0
theorem A_0_2 (z0 z2 z3 : Sl) (ob : List (Option Node)) (dr dr0 : Gm) : seg dr dr0 ⟨sl17 0 2 z0 z2 z3, ob⟩ = seg (fun _ _ => dr [.o 1, .d (.int 2)] ob) dr0 ⟨sl17 0 2 z0 z2 z3, ob⟩ := by kernel_rfl
theorem B_0_2_0 (z0 z2 z3 : Sl) (ob ob' : List (Option Node)) (dr0 : Gm) : isT (seg (okD 0 ob') dr0 ⟨sl17 0 2 z0 z2 z3, ob⟩) = true := by kernel_rfl
theorem B_0_2_1 (z0 z2 z3 : Sl) (ob ob' : List (Option Node)) (dr0 : Gm) : isT (seg (okD 1 ob') dr0 ⟨sl17 0 2 z0 z2 z3, ob⟩) = true := by kernel_rfl
theorem C_0_2 (z0 z2 z3 : Sl) (ob ob' : List (Option Node)) (dr dr0 : Gm) (v : Int) (h0 : 0 ≤ v) (h1 : v < 2) (h : dr [.o 1, .d (.int 2)] ob = some (.ok (.d (.int v)), ob')) : isT (seg dr dr0 ⟨sl17 0 2 z0 z2 z3, ob⟩) = true := by
  rw [A_0_2, h]
  have : v = 0 ∨ v = 1 := by omega
  rcases this with rfl | rfl
  · exact B_0_2_0 z0 z2 z3 ob ob' dr0
  · exact B_0_2_1 z0 z2 z3 ob ob' dr0
theorem A_0_3 (z0 z2 z3 : Sl) (ob : List (Option Node)) (dr dr0 : Gm) : seg dr dr0 ⟨sl17 0 3 z0 z2 z3, ob⟩ = seg (fun _ _ => dr [.o 1, .d (.int 3)] ob) dr0 ⟨sl17 0 3 z0 z2 z3, ob⟩ := by kernel_rfl
theorem B_0_3_0 (z0 z2 z3 : Sl) (ob ob' : List (Option Node)) (dr0 : Gm) : isT (seg (okD 0 ob') dr0 ⟨sl17 0 3 z0 z2 z3, ob⟩) = true := by kernel_rfl
theorem B_0_3_1 (z0 z2 z3 : Sl) (ob ob' : List (Option Node)) (dr0 : Gm) : isT (seg (okD 1 ob') dr0 ⟨sl17 0 3 z0 z2 z3, ob⟩) = true := by kernel_rfl
theorem B_0_3_2 (z0 z2 z3 : Sl) (ob ob' : List (Option Node)) (dr0 : Gm) : isT (seg (okD 2 ob') dr0 ⟨sl17 0 3 z0 z2 z3, ob⟩) = true := by kernel_rfl
theorem C_0_3 (z0 z2 z3 : Sl) (ob ob' : List (Option Node)) (dr dr0 : Gm) (v : Int) (h0 : 0 ≤ v) (h1 : v < 3) (h : dr [.o 1, .d (.int 3)] ob = some (.ok (.d (.int v)), ob')) : isT (seg dr dr0 ⟨sl17 0 3 z0 z2 z3, ob⟩) = true := by
  rw [A_0_3, h]
  have : v = 0 ∨ v = 1 ∨ v = 2 := by omega
  rcases this with rfl | rfl | rfl
  · exact B_0_3_0 z0 z2 z3 ob ob' dr0
  · exact B_0_3_1 z0 z2 z3 ob ob' dr0
  · exact B_0_3_2 z0 z2 z3 ob ob' dr0
theorem A_0_4 (z0 z2 z3 : Sl) (ob : List (Option Node)) (dr dr0 : Gm) : seg dr dr0 ⟨sl17 0 4 z0 z2 z3, ob⟩ = seg (fun _ _ => dr [.o 1, .d (.int 3)] ob) dr0 ⟨sl17 0 4 z0 z2 z3, ob⟩ := by kernel_rfl
theorem B_0_4_0 (z0 z2 z3 : Sl) (ob ob' : List (Option Node)) (dr0 : Gm) : isT (seg (okD 0 ob') dr0 ⟨sl17 0 4 z0 z2 z3, ob⟩) = true := by kernel_rfl
theorem B_0_4_1 (z0 z2 z3 : Sl) (ob ob' : List (Option Node)) (dr0 : Gm) : isT (seg (okD 1 ob') dr0 ⟨sl17 0 4 z0 z2 z3, ob⟩) = true := by kernel_rfl
theorem B_0_4_2 (z0 z2 z3 : Sl) (ob ob' : List (Option Node)) (dr0 : Gm) : isT (seg (okD 2 ob') dr0 ⟨sl17 0 4 z0 z2 z3, ob⟩) = true := by kernel_rfl
theorem C_0_4 (z0 z2 z3 : Sl) (ob ob' : List (Option Node)) (dr dr0 : Gm) (v : Int) (h0 : 0 ≤ v) (h1 : v < 3) (h : dr [.o 1, .d (.int 3)] ob = some (.ok (.d (.int v)), ob')) : isT (seg dr dr0 ⟨sl17 0 4 z0 z2 z3, ob⟩) = true := by
  rw [A_0_4, h]
  have : v = 0 ∨ v = 1 ∨ v = 2 := by omega
  rcases this with rfl | rfl | rfl
  · exact B_0_4_0 z0 z2 z3 ob ob' dr0
  · exact B_0_4_1 z0 z2 z3 ob ob' dr0
  · exact B_0_4_2 z0 z2 z3 ob ob' dr0
theorem A_0_5 (z0 z2 z3 : Sl) (ob : List (Option Node)) (dr dr0 : Gm) : seg dr dr0 ⟨sl17 0 5 z0 z2 z3, ob⟩ = seg (fun _ _ => dr [.o 1, .d (.int 3)] ob) dr0 ⟨sl17 0 5 z0 z2 z3, ob⟩ := by kernel_rfl
theorem B_0_5_0 (z0 z2 z3 : Sl) (ob ob' : List (Option Node)) (dr0 : Gm) : isT (seg (okD 0 ob') dr0 ⟨sl17 0 5 z0 z2 z3, ob⟩) = true := by kernel_rfl
theorem B_0_5_1 (z0 z2 z3 : Sl) (ob ob' : List (Option Node)) (dr0 : Gm) : isT (seg (okD 1 ob') dr0 ⟨sl17 0 5 z0 z2 z3, ob⟩) = true := by kernel_rfl
theorem B_0_5_2 (z0 z2 z3 : Sl) (ob ob' : List (Option Node)) (dr0 : Gm) : isT (seg (okD 2 ob') dr0 ⟨sl17 0 5 z0 z2 z3, ob⟩) = true := by kernel_rfl
theorem C_0_5 (z0 z2 z3 : Sl) (ob ob' : List (Option Node)) (dr dr0 : Gm) (v : Int) (h0 : 0 ≤ v) (h1 : v < 3) (h : dr [.o 1, .d (.int 3)] ob = some (.ok (.d (.int v)), ob')) : isT (seg dr dr0 ⟨sl17 0 5 z0 z2 z3, ob⟩) = true := by
  rw [A_0_5, h]
  have : v = 0 ∨ v = 1 ∨ v = 2 := by omega
  rcases this with rfl | rfl | rfl
  · exact B_0_5_0 z0 z2 z3 ob ob' dr0
  · exact B_0_5_1 z0 z2 z3 ob ob' dr0
  · exact B_0_5_2 z0 z2 z3 ob ob' dr0
theorem A_0_6 (z0 z2 z3 : Sl) (ob : List (Option Node)) (dr dr0 : Gm) : seg dr dr0 ⟨sl17 0 6 z0 z2 z3, ob⟩ = seg (fun _ _ => dr [.o 1, .d (.int 3)] ob) dr0 ⟨sl17 0 6 z0 z2 z3, ob⟩ := by kernel_rfl
theorem B_0_6_0 (z0 z2 z3 : Sl) (ob ob' : List (Option Node)) (dr0 : Gm) : isT (seg (okD 0 ob') dr0 ⟨sl17 0 6 z0 z2 z3, ob⟩) = true := by kernel_rfl
theorem B_0_6_1 (z0 z2 z3 : Sl) (ob ob' : List (Option Node)) (dr0 : Gm) : isT (seg (okD 1 ob') dr0 ⟨sl17 0 6 z0 z2 z3, ob⟩) = true := by kernel_rfl
theorem B_0_6_2 (z0 z2 z3 : Sl) (ob ob' : List (Option Node)) (dr0 : Gm) : isT (seg (okD 2 ob') dr0 ⟨sl17 0 6 z0 z2 z3, ob⟩) = true := by kernel_rfl
theorem C_0_6 (z0 z2 z3 : Sl) (ob ob' : List (Option Node)) (dr dr0 : Gm) (v : Int) (h0 : 0 ≤ v) (h1 : v < 3) (h : dr [.o 1, .d (.int 3)] ob = some (.ok (.d (.int v)), ob')) : isT (seg dr dr0 ⟨sl17 0 6 z0 z2 z3, ob⟩) = true := by
  rw [A_0_6, h]
  have : v = 0 ∨ v = 1 ∨ v = 2 := by omega
  rcases this with rfl | rfl | rfl
  · exact B_0_6_0 z0 z2 z3 ob ob' dr0
  · exact B_0_6_1 z0 z2 z3 ob ob' dr0
  · exact B_0_6_2 z0 z2 z3 ob ob' dr0
theorem A_0_7 (z0 z2 z3 : Sl) (ob : List (Option Node)) (dr dr0 : Gm) : seg dr dr0 ⟨sl17 0 7 z0 z2 z3, ob⟩ = seg (fun _ _ => dr [.o 1, .d (.int 3)] ob) dr0 ⟨sl17 0 7 z0 z2 z3, ob⟩ := by kernel_rfl
theorem B_0_7_0 (z0 z2 z3 : Sl) (ob ob' : List (Option Node)) (dr0 : Gm) : isT (seg (okD 0 ob') dr0 ⟨sl17 0 7 z0 z2 z3, ob⟩) = true := by kernel_rfl
theorem B_0_7_1 (z0 z2 z3 : Sl) (ob ob' : List (Option Node)) (dr0 : Gm) : isT (seg (okD 1 ob') dr0 ⟨sl17 0 7 z0 z2 z3, ob⟩) = true := by kernel_rfl
theorem B_0_7_2 (z0 z2 z3 : Sl) (ob ob' : List (Option Node)) (dr0 : Gm) : isT (seg (okD 2 ob') dr0 ⟨sl17 0 7 z0 z2 z3, ob⟩) = true := by kernel_rfl
theorem C_0_7 (z0 z2 z3 : Sl) (ob ob' : List (Option Node)) (dr dr0 : Gm) (v : Int) (h0 : 0 ≤ v) (h1 : v < 3) (h : dr [.o 1, .d (.int 3)] ob = some (.ok (.d (.int v)), ob')) : isT (seg dr dr0 ⟨sl17 0 7 z0 z2 z3, ob⟩) = true := by
  rw [A_0_7, h]
  have : v = 0 ∨ v = 1 ∨ v = 2 := by omega
  rcases this with rfl | rfl | rfl
  · exact B_0_7_0 z0 z2 z3 ob ob' dr0
  · exact B_0_7_1 z0 z2 z3 ob ob' dr0
  · exact B_0_7_2 z0 z2 z3 ob ob' dr0
theorem A_0_8 (z0 z2 z3 : Sl) (ob : List (Option Node)) (dr dr0 : Gm) : seg dr dr0 ⟨sl17 0 8 z0 z2 z3, ob⟩ = seg (fun _ _ => dr [.o 1, .d (.int 3)] ob) dr0 ⟨sl17 0 8 z0 z2 z3, ob⟩ := by kernel_rfl
theorem B_0_8_0 (z0 z2 z3 : Sl) (ob ob' : List (Option Node)) (dr0 : Gm) : isT (seg (okD 0 ob') dr0 ⟨sl17 0 8 z0 z2 z3, ob⟩) = true := by kernel_rfl
theorem B_0_8_1 (z0 z2 z3 : Sl) (ob ob' : List (Option Node)) (dr0 : Gm) : isT (seg (okD 1 ob') dr0 ⟨sl17 0 8 z0 z2 z3, ob⟩) = true := by kernel_rfl
theorem B_0_8_2 (z0 z2 z3 : Sl) (ob ob' : List (Option Node)) (dr0 : Gm) : isT (seg (okD 2 ob') dr0 ⟨sl17 0 8 z0 z2 z3, ob⟩) = true := by kernel_rfl
theorem C_0_8 (z0 z2 z3 : Sl) (ob ob' : List (Option Node)) (dr dr0 : Gm) (v : Int) (h0 : 0 ≤ v) (h1 : v < 3) (h : dr [.o 1, .d (.int 3)] ob = some (.ok (.d (.int v)), ob')) : isT (seg dr dr0 ⟨sl17 0 8 z0 z2 z3, ob⟩) = true := by
  rw [A_0_8, h]
  have : v = 0 ∨ v = 1 ∨ v = 2 := by omega
  rcases this with rfl | rfl | rfl
  · exact B_0_8_0 z0 z2 z3 ob ob' dr0
  · exact B_0_8_1 z0 z2 z3 ob ob' dr0
  · exact B_0_8_2 z0 z2 z3 ob ob' dr0
theorem A_0_9 (z0 z2 z3 : Sl) (ob : List (Option Node)) (dr dr0 : Gm) : seg dr dr0 ⟨sl17 0 9 z0 z2 z3, ob⟩ = seg (fun _ _ => dr [.o 1, .d (.int 3)] ob) dr0 ⟨sl17 0 9 z0 z2 z3, ob⟩ := by kernel_rfl
theorem B_0_9_0 (z0 z2 z3 : Sl) (ob ob' : List (Option Node)) (dr0 : Gm) : isT (seg (okD 0 ob') dr0 ⟨sl17 0 9 z0 z2 z3, ob⟩) = true := by kernel_rfl
theorem B_0_9_1 (z0 z2 z3 : Sl) (ob ob' : List (Option Node)) (dr0 : Gm) : isT (seg (okD 1 ob') dr0 ⟨sl17 0 9 z0 z2 z3, ob⟩) = true := by kernel_rfl
theorem B_0_9_2 (z0 z2 z3 : Sl) (ob ob' : List (Option Node)) (dr0 : Gm) : isT (seg (okD 2 ob') dr0 ⟨sl17 0 9 z0 z2 z3, ob⟩) = true := by kernel_rfl
theorem C_0_9 (z0 z2 z3 : Sl) (ob ob' : List (Option Node)) (dr dr0 : Gm) (v : Int) (h0 : 0 ≤ v) (h1 : v < 3) (h : dr [.o 1, .d (.int 3)] ob = some (.ok (.d (.int v)), ob')) : isT (seg dr dr0 ⟨sl17 0 9 z0 z2 z3, ob⟩) = true := by
  rw [A_0_9, h]
  have : v = 0 ∨ v = 1 ∨ v = 2 := by omega
  rcases this with rfl | rfl | rfl
  · exact B_0_9_0 z0 z2 z3 ob ob' dr0
  · exact B_0_9_1 z0 z2 z3 ob ob' dr0
  · exact B_0_9_2 z0 z2 z3 ob ob' dr0
theorem A_0_10 (z0 z2 z3 : Sl) (ob : List (Option Node)) (dr dr0 : Gm) : seg dr dr0 ⟨sl17 0 10 z0 z2 z3, ob⟩ = seg (fun _ _ => dr [.o 1, .d (.int 2)] ob) dr0 ⟨sl17 0 10 z0 z2 z3, ob⟩ := by kernel_rfl
theorem B_0_10_0 (z0 z2 z3 : Sl) (ob ob' : List (Option Node)) (dr0 : Gm) : isT (seg (okD 0 ob') dr0 ⟨sl17 0 10 z0 z2 z3, ob⟩) = true := by kernel_rfl
theorem B_0_10_1 (z0 z2 z3 : Sl) (ob ob' : List (Option Node)) (dr0 : Gm) : isT (seg (okD 1 ob') dr0 ⟨sl17 0 10 z0 z2 z3, ob⟩) = true := by kernel_rfl
theorem C_0_10 (z0 z2 z3 : Sl) (ob ob' : List (Option Node)) (dr dr0 : Gm) (v : Int) (h0 : 0 ≤ v) (h1 : v < 2) (h : dr [.o 1, .d (.int 2)] ob = some (.ok (.d (.int v)), ob')) : isT (seg dr dr0 ⟨sl17 0 10 z0 z2 z3, ob⟩) = true := by
  rw [A_0_10, h]
  have : v = 0 ∨ v = 1 := by omega
  rcases this with rfl | rfl
  · exact B_0_10_0 z0 z2 z3 ob ob' dr0
  · exact B_0_10_1 z0 z2 z3 ob ob' dr0
theorem A_0_11 (z0 z2 z3 : Sl) (ob : List (Option Node)) (dr dr0 : Gm) : seg dr dr0 ⟨sl17 0 11 z0 z2 z3, ob⟩ = seg (fun _ _ => dr [.o 1, .d (.int 3)] ob) dr0 ⟨sl17 0 11 z0 z2 z3, ob⟩ := by kernel_rfl
theorem B_0_11_0 (z0 z2 z3 : Sl) (ob ob' : List (Option Node)) (dr0 : Gm) : isT (seg (okD 0 ob') dr0 ⟨sl17 0 11 z0 z2 z3, ob⟩) = true := by kernel_rfl
theorem B_0_11_1 (z0 z2 z3 : Sl) (ob ob' : List (Option Node)) (dr0 : Gm) : isT (seg (okD 1 ob') dr0 ⟨sl17 0 11 z0 z2 z3, ob⟩) = true := by kernel_rfl
theorem B_0_11_2 (z0 z2 z3 : Sl) (ob ob' : List (Option Node)) (dr0 : Gm) : isT (seg (okD 2 ob') dr0 ⟨sl17 0 11 z0 z2 z3, ob⟩) = true := by kernel_rfl
theorem C_0_11 (z0 z2 z3 : Sl) (ob ob' : List (Option Node)) (dr dr0 : Gm) (v : Int) (h0 : 0 ≤ v) (h1 : v < 3) (h : dr [.o 1, .d (.int 3)] ob = some (.ok (.d (.int v)), ob')) : isT (seg dr dr0 ⟨sl17 0 11 z0 z2 z3, ob⟩) = true := by
  rw [A_0_11, h]
  have : v = 0 ∨ v = 1 ∨ v = 2 := by omega
  rcases this with rfl | rfl | rfl
  · exact B_0_11_0 z0 z2 z3 ob ob' dr0
  · exact B_0_11_1 z0 z2 z3 ob ob' dr0
  · exact B_0_11_2 z0 z2 z3 ob ob' dr0
theorem A_0_12 (z0 z2 z3 : Sl) (ob : List (Option Node)) (dr dr0 : Gm) : seg dr dr0 ⟨sl17 0 12 z0 z2 z3, ob⟩ = seg (fun _ _ => dr [.o 1, .d (.int 2)] ob) dr0 ⟨sl17 0 12 z0 z2 z3, ob⟩ := by kernel_rfl
theorem B_0_12_0 (z0 z2 z3 : Sl) (ob ob' : List (Option Node)) (dr0 : Gm) : isT (seg (okD 0 ob') dr0 ⟨sl17 0 12 z0 z2 z3, ob⟩) = true := by kernel_rfl
theorem B_0_12_1 (z0 z2 z3 : Sl) (ob ob' : List (Option Node)) (dr0 : Gm) : isT (seg (okD 1 ob') dr0 ⟨sl17 0 12 z0 z2 z3, ob⟩) = true := by kernel_rfl
theorem C_0_12 (z0 z2 z3 : Sl) (ob ob' : List (Option Node)) (dr dr0 : Gm) (v : Int) (h0 : 0 ≤ v) (h1 : v < 2) (h : dr [.o 1, .d (.int 2)] ob = some (.ok (.d (.int v)), ob')) : isT (seg dr dr0 ⟨sl17 0 12 z0 z2 z3, ob⟩) = true := by
  rw [A_0_12, h]
  have : v = 0 ∨ v = 1 := by omega
  rcases this with rfl | rfl
  · exact B_0_12_0 z0 z2 z3 ob ob' dr0
  · exact B_0_12_1 z0 z2 z3 ob ob' dr0
theorem A_0_13 (z0 z2 z3 : Sl) (ob : List (Option Node)) (dr dr0 : Gm) : seg dr dr0 ⟨sl17 0 13 z0 z2 z3, ob⟩ = seg (fun _ _ => dr [.o 1, .d (.int 3)] ob) dr0 ⟨sl17 0 13 z0 z2 z3, ob⟩ := by kernel_rfl
theorem B_0_13_0 (z0 z2 z3 : Sl) (ob ob' : List (Option Node)) (dr0 : Gm) : isT (seg (okD 0 ob') dr0 ⟨sl17 0 13 z0 z2 z3, ob⟩) = true := by kernel_rfl
theorem B_0_13_1 (z0 z2 z3 : Sl) (ob ob' : List (Option Node)) (dr0 : Gm) : isT (seg (okD 1 ob') dr0 ⟨sl17 0 13 z0 z2 z3, ob⟩) = true := by kernel_rfl
theorem B_0_13_2 (z0 z2 z3 : Sl) (ob ob' : List (Option Node)) (dr0 : Gm) : isT (seg (okD 2 ob') dr0 ⟨sl17 0 13 z0 z2 z3, ob⟩) = true := by kernel_rfl
theorem C_0_13 (z0 z2 z3 : Sl) (ob ob' : List (Option Node)) (dr dr0 : Gm) (v : Int) (h0 : 0 ≤ v) (h1 : v < 3) (h : dr [.o 1, .d (.int 3)] ob = some (.ok (.d (.int v)), ob')) : isT (seg dr dr0 ⟨sl17 0 13 z0 z2 z3, ob⟩) = true := by
  rw [A_0_13, h]
  have : v = 0 ∨ v = 1 ∨ v = 2 := by omega
  rcases this with rfl | rfl | rfl
  · exact B_0_13_0 z0 z2 z3 ob ob' dr0
  · exact B_0_13_1 z0 z2 z3 ob ob' dr0
  · exact B_0_13_2 z0 z2 z3 ob ob' dr0
theorem A_0_14 (z0 z2 z3 : Sl) (ob : List (Option Node)) (dr dr0 : Gm) : seg dr dr0 ⟨sl17 0 14 z0 z2 z3, ob⟩ = seg (fun _ _ => dr [.o 1, .d (.int 3)] ob) dr0 ⟨sl17 0 14 z0 z2 z3, ob⟩ := by kernel_rfl
theorem B_0_14_0 (z0 z2 z3 : Sl) (ob ob' : List (Option Node)) (dr0 : Gm) : isT (seg (okD 0 ob') dr0 ⟨sl17 0 14 z0 z2 z3, ob⟩) = true := by kernel_rfl
theorem B_0_14_1 (z0 z2 z3 : Sl) (ob ob' : List (Option Node)) (dr0 : Gm) : isT (seg (okD 1 ob') dr0 ⟨sl17 0 14 z0 z2 z3, ob⟩) = true := by kernel_rfl
theorem B_0_14_2 (z0 z2 z3 : Sl) (ob ob' : List (Option Node)) (dr0 : Gm) : isT (seg (okD 2 ob') dr0 ⟨sl17 0 14 z0 z2 z3, ob⟩) = true := by kernel_rfl
theorem C_0_14 (z0 z2 z3 : Sl) (ob ob' : List (Option Node)) (dr dr0 : Gm) (v : Int) (h0 : 0 ≤ v) (h1 : v < 3) (h : dr [.o 1, .d (.int 3)] ob = some (.ok (.d (.int v)), ob')) : isT (seg dr dr0 ⟨sl17 0 14 z0 z2 z3, ob⟩) = true := by
  rw [A_0_14, h]
  have : v = 0 ∨ v = 1 ∨ v = 2 := by omega
  rcases this with rfl | rfl | rfl
  · exact B_0_14_0 z0 z2 z3 ob ob' dr0
  · exact B_0_14_1 z0 z2 z3 ob ob' dr0
  · exact B_0_14_2 z0 z2 z3 ob ob' dr0
theorem A_1_0 (z0 z2 z3 : Sl) (ob : List (Option Node)) (dr dr0 : Gm) : seg dr0 dr ⟨sl17 1 0 z0 z2 z3, ob⟩ = seg dr0 (fun _ _ => dr [.o 1, .d (.int 7)] ob) ⟨sl17 1 0 z0 z2 z3, ob⟩ := by kernel_rfl
theorem B_1_0_0 (z0 z2 z3 : Sl) (ob ob' : List (Option Node)) (dr0 : Gm) : isT (seg dr0 (okD 0 ob') ⟨sl17 1 0 z0 z2 z3, ob⟩) = true := by kernel_rfl
theorem B_1_0_1 (z0 z2 z3 : Sl) (ob ob' : List (Option Node)) (dr0 : Gm) : isT (seg dr0 (okD 1 ob') ⟨sl17 1 0 z0 z2 z3, ob⟩) = true := by kernel_rfl
theorem B_1_0_2 (z0 z2 z3 : Sl) (ob ob' : List (Option Node)) (dr0 : Gm) : isT (seg dr0 (okD 2 ob') ⟨sl17 1 0 z0 z2 z3, ob⟩) = true := by kernel_rfl
theorem B_1_0_3 (z0 z2 z3 : Sl) (ob ob' : List (Option Node)) (dr0 : Gm) : isT (seg dr0 (okD 3 ob') ⟨sl17 1 0 z0 z2 z3, ob⟩) = true := by kernel_rfl
theorem B_1_0_4 (z0 z2 z3 : Sl) (ob ob' : List (Option Node)) (dr0 : Gm) : isT (seg dr0 (okD 4 ob') ⟨sl17 1 0 z0 z2 z3, ob⟩) = true := by kernel_rfl
theorem B_1_0_5 (z0 z2 z3 : Sl) (ob ob' : List (Option Node)) (dr0 : Gm) : isT (seg dr0 (okD 5 ob') ⟨sl17 1 0 z0 z2 z3, ob⟩) = true := by kernel_rfl
theorem B_1_0_6 (z0 z2 z3 : Sl) (ob ob' : List (Option Node)) (dr0 : Gm) : isT (seg dr0 (okD 6 ob') ⟨sl17 1 0 z0 z2 z3, ob⟩) = true := by kernel_rfl
theorem C_1_0 (z0 z2 z3 : Sl) (ob ob' : List (Option Node)) (dr dr0 : Gm) (v : Int) (h0 : 0 ≤ v) (h1 : v < 7) (h : dr [.o 1, .d (.int 7)] ob = some (.ok (.d (.int v)), ob')) : isT (seg dr0 dr ⟨sl17 1 0 z0 z2 z3, ob⟩) = true := by
  rw [A_1_0, h]
  have : v = 0 ∨ v = 1 ∨ v = 2 ∨ v = 3 ∨ v = 4 ∨ v = 5 ∨ v = 6 := by omega
  rcases this with rfl | rfl | rfl | rfl | rfl | rfl | rfl
  · exact B_1_0_0 z0 z2 z3 ob ob' dr0
  · exact B_1_0_1 z0 z2 z3 ob ob' dr0
  · exact B_1_0_2 z0 z2 z3 ob ob' dr0
  · exact B_1_0_3 z0 z2 z3 ob ob' dr0
  · exact B_1_0_4 z0 z2 z3 ob ob' dr0
  · exact B_1_0_5 z0 z2 z3 ob ob' dr0
  · exact B_1_0_6 z0 z2 z3 ob ob' dr0
theorem A_1_1 (z0 z2 z3 : Sl) (ob : List (Option Node)) (dr dr0 : Gm) : seg dr0 dr ⟨sl17 1 1 z0 z2 z3, ob⟩ = seg dr0 (fun _ _ => dr [.o 1, .d (.int 7)] ob) ⟨sl17 1 1 z0 z2 z3, ob⟩ := by kernel_rfl
theorem B_1_1_0 (z0 z2 z3 : Sl) (ob ob' : List (Option Node)) (dr0 : Gm) : isT (seg dr0 (okD 0 ob') ⟨sl17 1 1 z0 z2 z3, ob⟩) = true := by kernel_rfl
theorem B_1_1_1 (z0 z2 z3 : Sl) (ob ob' : List (Option Node)) (dr0 : Gm) : isT (seg dr0 (okD 1 ob') ⟨sl17 1 1 z0 z2 z3, ob⟩) = true := by kernel_rfl
theorem B_1_1_2 (z0 z2 z3 : Sl) (ob ob' : List (Option Node)) (dr0 : Gm) : isT (seg dr0 (okD 2 ob') ⟨sl17 1 1 z0 z2 z3, ob⟩) = true := by kernel_rfl
theorem B_1_1_3 (z0 z2 z3 : Sl) (ob ob' : List (Option Node)) (dr0 : Gm) : isT (seg dr0 (okD 3 ob') ⟨sl17 1 1 z0 z2 z3, ob⟩) = true := by kernel_rfl
theorem B_1_1_4 (z0 z2 z3 : Sl) (ob ob' : List (Option Node)) (dr0 : Gm) : isT (seg dr0 (okD 4 ob') ⟨sl17 1 1 z0 z2 z3, ob⟩) = true := by kernel_rfl
theorem B_1_1_5 (z0 z2 z3 : Sl) (ob ob' : List (Option Node)) (dr0 : Gm) : isT (seg dr0 (okD 5 ob') ⟨sl17 1 1 z0 z2 z3, ob⟩) = true := by kernel_rfl
theorem B_1_1_6 (z0 z2 z3 : Sl) (ob ob' : List (Option Node)) (dr0 : Gm) : isT (seg dr0 (okD 6 ob') ⟨sl17 1 1 z0 z2 z3, ob⟩) = true := by kernel_rfl
theorem C_1_1 (z0 z2 z3 : Sl) (ob ob' : List (Option Node)) (dr dr0 : Gm) (v : Int) (h0 : 0 ≤ v) (h1 : v < 7) (h : dr [.o 1, .d (.int 7)] ob = some (.ok (.d (.int v)), ob')) : isT (seg dr0 dr ⟨sl17 1 1 z0 z2 z3, ob⟩) = true := by
  rw [A_1_1, h]
  have : v = 0 ∨ v = 1 ∨ v = 2 ∨ v = 3 ∨ v = 4 ∨ v = 5 ∨ v = 6 := by omega
  rcases this with rfl | rfl | rfl | rfl | rfl | rfl | rfl
  · exact B_1_1_0 z0 z2 z3 ob ob' dr0
  · exact B_1_1_1 z0 z2 z3 ob ob' dr0
  · exact B_1_1_2 z0 z2 z3 ob ob' dr0
  · exact B_1_1_3 z0 z2 z3 ob ob' dr0
  · exact B_1_1_4 z0 z2 z3 ob ob' dr0
  · exact B_1_1_5 z0 z2 z3 ob ob' dr0
  · exact B_1_1_6 z0 z2 z3 ob ob' dr0
theorem A_1_2 (z0 z2 z3 : Sl) (ob : List (Option Node)) (dr dr0 : Gm) : seg dr0 dr ⟨sl17 1 2 z0 z2 z3, ob⟩ = seg dr0 (fun _ _ => dr [.o 1, .d (.int 7)] ob) ⟨sl17 1 2 z0 z2 z3, ob⟩ := by kernel_rfl
theorem B_1_2_0 (z0 z2 z3 : Sl) (ob ob' : List (Option Node)) (dr0 : Gm) : isT (seg dr0 (okD 0 ob') ⟨sl17 1 2 z0 z2 z3, ob⟩) = true := by kernel_rfl
theorem B_1_2_1 (z0 z2 z3 : Sl) (ob ob' : List (Option Node)) (dr0 : Gm) : isT (seg dr0 (okD 1 ob') ⟨sl17 1 2 z0 z2 z3, ob⟩) = true := by kernel_rfl
theorem B_1_2_2 (z0 z2 z3 : Sl) (ob ob' : List (Option Node)) (dr0 : Gm) : isT (seg dr0 (okD 2 ob') ⟨sl17 1 2 z0 z2 z3, ob⟩) = true := by kernel_rfl
theorem B_1_2_3 (z0 z2 z3 : Sl) (ob ob' : List (Option Node)) (dr0 : Gm) : isT (seg dr0 (okD 3 ob') ⟨sl17 1 2 z0 z2 z3, ob⟩) = true := by kernel_rfl
theorem B_1_2_4 (z0 z2 z3 : Sl) (ob ob' : List (Option Node)) (dr0 : Gm) : isT (seg dr0 (okD 4 ob') ⟨sl17 1 2 z0 z2 z3, ob⟩) = true := by kernel_rfl
theorem B_1_2_5 (z0 z2 z3 : Sl) (ob ob' : List (Option Node)) (dr0 : Gm) : isT (seg dr0 (okD 5 ob') ⟨sl17 1 2 z0 z2 z3, ob⟩) = true := by kernel_rfl
theorem B_1_2_6 (z0 z2 z3 : Sl) (ob ob' : List (Option Node)) (dr0 : Gm) : isT (seg dr0 (okD 6 ob') ⟨sl17 1 2 z0 z2 z3, ob⟩) = true := by kernel_rfl
theorem C_1_2 (z0 z2 z3 : Sl) (ob ob' : List (Option Node)) (dr dr0 : Gm) (v : Int) (h0 : 0 ≤ v) (h1 : v < 7) (h : dr [.o 1, .d (.int 7)] ob = some (.ok (.d (.int v)), ob')) : isT (seg dr0 dr ⟨sl17 1 2 z0 z2 z3, ob⟩) = true := by
  rw [A_1_2, h]
  have : v = 0 ∨ v = 1 ∨ v = 2 ∨ v = 3 ∨ v = 4 ∨ v = 5 ∨ v = 6 := by omega
  rcases this with rfl | rfl | rfl | rfl | rfl | rfl | rfl
  · exact B_1_2_0 z0 z2 z3 ob ob' dr0
  · exact B_1_2_1 z0 z2 z3 ob ob' dr0
  · exact B_1_2_2 z0 z2 z3 ob ob' dr0
  · exact B_1_2_3 z0 z2 z3 ob ob' dr0
  · exact B_1_2_4 z0 z2 z3 ob ob' dr0
  · exact B_1_2_5 z0 z2 z3 ob ob' dr0
  · exact B_1_2_6 z0 z2 z3 ob ob' dr0
theorem A_1_3 (z0 z2 z3 : Sl) (ob : List (Option Node)) (dr dr0 : Gm) : seg dr0 dr ⟨sl17 1 3 z0 z2 z3, ob⟩ = seg dr0 (fun _ _ => dr [.o 1, .d (.int 7)] ob) ⟨sl17 1 3 z0 z2 z3, ob⟩ := by kernel_rfl
theorem B_1_3_0 (z0 z2 z3 : Sl) (ob ob' : List (Option Node)) (dr0 : Gm) : isT (seg dr0 (okD 0 ob') ⟨sl17 1 3 z0 z2 z3, ob⟩) = true := by kernel_rfl
theorem B_1_3_1 (z0 z2 z3 : Sl) (ob ob' : List (Option Node)) (dr0 : Gm) : isT (seg dr0 (okD 1 ob') ⟨sl17 1 3 z0 z2 z3, ob⟩) = true := by kernel_rfl
theorem B_1_3_2 (z0 z2 z3 : Sl) (ob ob' : List (Option Node)) (dr0 : Gm) : isT (seg dr0 (okD 2 ob') ⟨sl17 1 3 z0 z2 z3, ob⟩) = true := by kernel_rfl
theorem B_1_3_3 (z0 z2 z3 : Sl) (ob ob' : List (Option Node)) (dr0 : Gm) : isT (seg dr0 (okD 3 ob') ⟨sl17 1 3 z0 z2 z3, ob⟩) = true := by kernel_rfl
theorem B_1_3_4 (z0 z2 z3 : Sl) (ob ob' : List (Option Node)) (dr0 : Gm) : isT (seg dr0 (okD 4 ob') ⟨sl17 1 3 z0 z2 z3, ob⟩) = true := by kernel_rfl
theorem B_1_3_5 (z0 z2 z3 : Sl) (ob ob' : List (Option Node)) (dr0 : Gm) : isT (seg dr0 (okD 5 ob') ⟨sl17 1 3 z0 z2 z3, ob⟩) = true := by kernel_rfl
theorem B_1_3_6 (z0 z2 z3 : Sl) (ob ob' : List (Option Node)) (dr0 : Gm) : isT (seg dr0 (okD 6 ob') ⟨sl17 1 3 z0 z2 z3, ob⟩) = true := by kernel_rfl
theorem C_1_3 (z0 z2 z3 : Sl) (ob ob' : List (Option Node)) (dr dr0 : Gm) (v : Int) (h0 : 0 ≤ v) (h1 : v < 7) (h : dr [.o 1, .d (.int 7)] ob = some (.ok (.d (.int v)), ob')) : isT (seg dr0 dr ⟨sl17 1 3 z0 z2 z3, ob⟩) = true := by
  rw [A_1_3, h]
  have : v = 0 ∨ v = 1 ∨ v = 2 ∨ v = 3 ∨ v = 4 ∨ v = 5 ∨ v = 6 := by omega
  rcases this with rfl | rfl | rfl | rfl | rfl | rfl | rfl
  · exact B_1_3_0 z0 z2 z3 ob ob' dr0
  · exact B_1_3_1 z0 z2 z3 ob ob' dr0
  · exact B_1_3_2 z0 z2 z3 ob ob' dr0
  · exact B_1_3_3 z0 z2 z3 ob ob' dr0
  · exact B_1_3_4 z0 z2 z3 ob ob' dr0
  · exact B_1_3_5 z0 z2 z3 ob ob' dr0
  · exact B_1_3_6 z0 z2 z3 ob ob' dr0
theorem A_1_4 (z0 z2 z3 : Sl) (ob : List (Option Node)) (dr dr0 : Gm) : seg dr0 dr ⟨sl17 1 4 z0 z2 z3, ob⟩ = seg dr0 (fun _ _ => dr [.o 1, .d (.int 7)] ob) ⟨sl17 1 4 z0 z2 z3, ob⟩ := by kernel_rfl
theorem B_1_4_0 (z0 z2 z3 : Sl) (ob ob' : List (Option Node)) (dr0 : Gm) : isT (seg dr0 (okD 0 ob') ⟨sl17 1 4 z0 z2 z3, ob⟩) = true := by kernel_rfl
theorem B_1_4_1 (z0 z2 z3 : Sl) (ob ob' : List (Option Node)) (dr0 : Gm) : isT (seg dr0 (okD 1 ob') ⟨sl17 1 4 z0 z2 z3, ob⟩) = true := by kernel_rfl
theorem B_1_4_2 (z0 z2 z3 : Sl) (ob ob' : List (Option Node)) (dr0 : Gm) : isT (seg dr0 (okD 2 ob') ⟨sl17 1 4 z0 z2 z3, ob⟩) = true := by kernel_rfl
theorem B_1_4_3 (z0 z2 z3 : Sl) (ob ob' : List (Option Node)) (dr0 : Gm) : isT (seg dr0 (okD 3 ob') ⟨sl17 1 4 z0 z2 z3, ob⟩) = true := by kernel_rfl
theorem B_1_4_4 (z0 z2 z3 : Sl) (ob ob' : List (Option Node)) (dr0 : Gm) : isT (seg dr0 (okD 4 ob') ⟨sl17 1 4 z0 z2 z3, ob⟩) = true := by kernel_rfl
theorem B_1_4_5 (z0 z2 z3 : Sl) (ob ob' : List (Option Node)) (dr0 : Gm) : isT (seg dr0 (okD 5 ob') ⟨sl17 1 4 z0 z2 z3, ob⟩) = true := by kernel_rfl
theorem B_1_4_6 (z0 z2 z3 : Sl) (ob ob' : List (Option Node)) (dr0 : Gm) : isT (seg dr0 (okD 6 ob') ⟨sl17 1 4 z0 z2 z3, ob⟩) = true := by kernel_rfl
theorem C_1_4 (z0 z2 z3 : Sl) (ob ob' : List (Option Node)) (dr dr0 : Gm) (v : Int) (h0 : 0 ≤ v) (h1 : v < 7) (h : dr [.o 1, .d (.int 7)] ob = some (.ok (.d (.int v)), ob')) : isT (seg dr0 dr ⟨sl17 1 4 z0 z2 z3, ob⟩) = true := by
  rw [A_1_4, h]
  have : v = 0 ∨ v = 1 ∨ v = 2 ∨ v = 3 ∨ v = 4 ∨ v = 5 ∨ v = 6 := by omega
  rcases this with rfl | rfl | rfl | rfl | rfl | rfl | rfl
  · exact B_1_4_0 z0 z2 z3 ob ob' dr0
  · exact B_1_4_1 z0 z2 z3 ob ob' dr0
  · exact B_1_4_2 z0 z2 z3 ob ob' dr0
  · exact B_1_4_3 z0 z2 z3 ob ob' dr0
  · exact B_1_4_4 z0 z2 z3 ob ob' dr0
  · exact B_1_4_5 z0 z2 z3 ob ob' dr0
  · exact B_1_4_6 z0 z2 z3 ob ob' dr0
theorem A_1_5 (z0 z2 z3 : Sl) (ob : List (Option Node)) (dr dr0 : Gm) : seg dr0 dr ⟨sl17 1 5 z0 z2 z3, ob⟩ = seg dr0 (fun _ _ => dr [.o 1, .d (.int 7)] ob) ⟨sl17 1 5 z0 z2 z3, ob⟩ := by kernel_rfl
theorem B_1_5_0 (z0 z2 z3 : Sl) (ob ob' : List (Option Node)) (dr0 : Gm) : isT (seg dr0 (okD 0 ob') ⟨sl17 1 5 z0 z2 z3, ob⟩) = true := by kernel_rfl
theorem B_1_5_1 (z0 z2 z3 : Sl) (ob ob' : List (Option Node)) (dr0 : Gm) : isT (seg dr0 (okD 1 ob') ⟨sl17 1 5 z0 z2 z3, ob⟩) = true := by kernel_rfl
theorem B_1_5_2 (z0 z2 z3 : Sl) (ob ob' : List (Option Node)) (dr0 : Gm) : isT (seg dr0 (okD 2 ob') ⟨sl17 1 5 z0 z2 z3, ob⟩) = true := by kernel_rfl
theorem B_1_5_3 (z0 z2 z3 : Sl) (ob ob' : List (Option Node)) (dr0 : Gm) : isT (seg dr0 (okD 3 ob') ⟨sl17 1 5 z0 z2 z3, ob⟩) = true := by kernel_rfl
theorem B_1_5_4 (z0 z2 z3 : Sl) (ob ob' : List (Option Node)) (dr0 : Gm) : isT (seg dr0 (okD 4 ob') ⟨sl17 1 5 z0 z2 z3, ob⟩) = true := by kernel_rfl
theorem B_1_5_5 (z0 z2 z3 : Sl) (ob ob' : List (Option Node)) (dr0 : Gm) : isT (seg dr0 (okD 5 ob') ⟨sl17 1 5 z0 z2 z3, ob⟩) = true := by kernel_rfl
theorem B_1_5_6 (z0 z2 z3 : Sl) (ob ob' : List (Option Node)) (dr0 : Gm) : isT (seg dr0 (okD 6 ob') ⟨sl17 1 5 z0 z2 z3, ob⟩) = true := by kernel_rfl
theorem C_1_5 (z0 z2 z3 : Sl) (ob ob' : List (Option Node)) (dr dr0 : Gm) (v : Int) (h0 : 0 ≤ v) (h1 : v < 7) (h : dr [.o 1, .d (.int 7)] ob = some (.ok (.d (.int v)), ob')) : isT (seg dr0 dr ⟨sl17 1 5 z0 z2 z3, ob⟩) = true := by
  rw [A_1_5, h]
  have : v = 0 ∨ v = 1 ∨ v = 2 ∨ v = 3 ∨ v = 4 ∨ v = 5 ∨ v = 6 := by omega
  rcases this with rfl | rfl | rfl | rfl | rfl | rfl | rfl
  · exact B_1_5_0 z0 z2 z3 ob ob' dr0
  · exact B_1_5_1 z0 z2 z3 ob ob' dr0
  · exact B_1_5_2 z0 z2 z3 ob ob' dr0
  · exact B_1_5_3 z0 z2 z3 ob ob' dr0
  · exact B_1_5_4 z0 z2 z3 ob ob' dr0
  · exact B_1_5_5 z0 z2 z3 ob ob' dr0
  · exact B_1_5_6 z0 z2 z3 ob ob' dr0
theorem A_1_6 (z0 z2 z3 : Sl) (ob : List (Option Node)) (dr dr0 : Gm) : seg dr0 dr ⟨sl17 1 6 z0 z2 z3, ob⟩ = seg dr0 (fun _ _ => dr [.o 1, .d (.int 7)] ob) ⟨sl17 1 6 z0 z2 z3, ob⟩ := by kernel_rfl
theorem B_1_6_0 (z0 z2 z3 : Sl) (ob ob' : List (Option Node)) (dr0 : Gm) : isT (seg dr0 (okD 0 ob') ⟨sl17 1 6 z0 z2 z3, ob⟩) = true := by kernel_rfl
theorem B_1_6_1 (z0 z2 z3 : Sl) (ob ob' : List (Option Node)) (dr0 : Gm) : isT (seg dr0 (okD 1 ob') ⟨sl17 1 6 z0 z2 z3, ob⟩) = true := by kernel_rfl
theorem B_1_6_2 (z0 z2 z3 : Sl) (ob ob' : List (Option Node)) (dr0 : Gm) : isT (seg dr0 (okD 2 ob') ⟨sl17 1 6 z0 z2 z3, ob⟩) = true := by kernel_rfl
theorem B_1_6_3 (z0 z2 z3 : Sl) (ob ob' : List (Option Node)) (dr0 : Gm) : isT (seg dr0 (okD 3 ob') ⟨sl17 1 6 z0 z2 z3, ob⟩) = true := by kernel_rfl
theorem B_1_6_4 (z0 z2 z3 : Sl) (ob ob' : List (Option Node)) (dr0 : Gm) : isT (seg dr0 (okD 4 ob') ⟨sl17 1 6 z0 z2 z3, ob⟩) = true := by kernel_rfl
theorem B_1_6_5 (z0 z2 z3 : Sl) (ob ob' : List (Option Node)) (dr0 : Gm) : isT (seg dr0 (okD 5 ob') ⟨sl17 1 6 z0 z2 z3, ob⟩) = true := by kernel_rfl
theorem B_1_6_6 (z0 z2 z3 : Sl) (ob ob' : List (Option Node)) (dr0 : Gm) : isT (seg dr0 (okD 6 ob') ⟨sl17 1 6 z0 z2 z3, ob⟩) = true := by kernel_rfl
theorem C_1_6 (z0 z2 z3 : Sl) (ob ob' : List (Option Node)) (dr dr0 : Gm) (v : Int) (h0 : 0 ≤ v) (h1 : v < 7) (h : dr [.o 1, .d (.int 7)] ob = some (.ok (.d (.int v)), ob')) : isT (seg dr0 dr ⟨sl17 1 6 z0 z2 z3, ob⟩) = true := by
  rw [A_1_6, h]
  have : v = 0 ∨ v = 1 ∨ v = 2 ∨ v = 3 ∨ v = 4 ∨ v = 5 ∨ v = 6 := by omega
  rcases this with rfl | rfl | rfl | rfl | rfl | rfl | rfl
  · exact B_1_6_0 z0 z2 z3 ob ob' dr0
  · exact B_1_6_1 z0 z2 z3 ob ob' dr0
  · exact B_1_6_2 z0 z2 z3 ob ob' dr0
  · exact B_1_6_3 z0 z2 z3 ob ob' dr0
  · exact B_1_6_4 z0 z2 z3 ob ob' dr0
  · exact B_1_6_5 z0 z2 z3 ob ob' dr0
  · exact B_1_6_6 z0 z2 z3 ob ob' dr0
theorem A_1_7 (z0 z2 z3 : Sl) (ob : List (Option Node)) (dr dr0 : Gm) : seg dr0 dr ⟨sl17 1 7 z0 z2 z3, ob⟩ = seg dr0 (fun _ _ => dr [.o 1, .d (.int 7)] ob) ⟨sl17 1 7 z0 z2 z3, ob⟩ := by kernel_rfl
theorem B_1_7_0 (z0 z2 z3 : Sl) (ob ob' : List (Option Node)) (dr0 : Gm) : isT (seg dr0 (okD 0 ob') ⟨sl17 1 7 z0 z2 z3, ob⟩) = true := by kernel_rfl
theorem B_1_7_1 (z0 z2 z3 : Sl) (ob ob' : List (Option Node)) (dr0 : Gm) : isT (seg dr0 (okD 1 ob') ⟨sl17 1 7 z0 z2 z3, ob⟩) = true := by kernel_rfl
theorem B_1_7_2 (z0 z2 z3 : Sl) (ob ob' : List (Option Node)) (dr0 : Gm) : isT (seg dr0 (okD 2 ob') ⟨sl17 1 7 z0 z2 z3, ob⟩) = true := by kernel_rfl
theorem B_1_7_3 (z0 z2 z3 : Sl) (ob ob' : List (Option Node)) (dr0 : Gm) : isT (seg dr0 (okD 3 ob') ⟨sl17 1 7 z0 z2 z3, ob⟩) = true := by kernel_rfl
theorem B_1_7_4 (z0 z2 z3 : Sl) (ob ob' : List (Option Node)) (dr0 : Gm) : isT (seg dr0 (okD 4 ob') ⟨sl17 1 7 z0 z2 z3, ob⟩) = true := by kernel_rfl
theorem B_1_7_5 (z0 z2 z3 : Sl) (ob ob' : List (Option Node)) (dr0 : Gm) : isT (seg dr0 (okD 5 ob') ⟨sl17 1 7 z0 z2 z3, ob⟩) = true := by kernel_rfl
theorem B_1_7_6 (z0 z2 z3 : Sl) (ob ob' : List (Option Node)) (dr0 : Gm) : isT (seg dr0 (okD 6 ob') ⟨sl17 1 7 z0 z2 z3, ob⟩) = true := by kernel_rfl
theorem C_1_7 (z0 z2 z3 : Sl) (ob ob' : List (Option Node)) (dr dr0 : Gm) (v : Int) (h0 : 0 ≤ v) (h1 : v < 7) (h : dr [.o 1, .d (.int 7)] ob = some (.ok (.d (.int v)), ob')) : isT (seg dr0 dr ⟨sl17 1 7 z0 z2 z3, ob⟩) = true := by
  rw [A_1_7, h]
  have : v = 0 ∨ v = 1 ∨ v = 2 ∨ v = 3 ∨ v = 4 ∨ v = 5 ∨ v = 6 := by omega
  rcases this with rfl | rfl | rfl | rfl | rfl | rfl | rfl
  · exact B_1_7_0 z0 z2 z3 ob ob' dr0
  · exact B_1_7_1 z0 z2 z3 ob ob' dr0
  · exact B_1_7_2 z0 z2 z3 ob ob' dr0
  · exact B_1_7_3 z0 z2 z3 ob ob' dr0
  · exact B_1_7_4 z0 z2 z3 ob ob' dr0
  · exact B_1_7_5 z0 z2 z3 ob ob' dr0
  · exact B_1_7_6 z0 z2 z3 ob ob' dr0
theorem A_1_8 (z0 z2 z3 : Sl) (ob : List (Option Node)) (dr dr0 : Gm) : seg dr0 dr ⟨sl17 1 8 z0 z2 z3, ob⟩ = seg dr0 (fun _ _ => dr [.o 1, .d (.int 7)] ob) ⟨sl17 1 8 z0 z2 z3, ob⟩ := by kernel_rfl
theorem B_1_8_0 (z0 z2 z3 : Sl) (ob ob' : List (Option Node)) (dr0 : Gm) : isT (seg dr0 (okD 0 ob') ⟨sl17 1 8 z0 z2 z3, ob⟩) = true := by kernel_rfl
theorem B_1_8_1 (z0 z2 z3 : Sl) (ob ob' : List (Option Node)) (dr0 : Gm) : isT (seg dr0 (okD 1 ob') ⟨sl17 1 8 z0 z2 z3, ob⟩) = true := by kernel_rfl
theorem B_1_8_2 (z0 z2 z3 : Sl) (ob ob' : List (Option Node)) (dr0 : Gm) : isT (seg dr0 (okD 2 ob') ⟨sl17 1 8 z0 z2 z3, ob⟩) = true := by kernel_rfl
theorem B_1_8_3 (z0 z2 z3 : Sl) (ob ob' : List (Option Node)) (dr0 : Gm) : isT (seg dr0 (okD 3 ob') ⟨sl17 1 8 z0 z2 z3, ob⟩) = true := by kernel_rfl
theorem B_1_8_4 (z0 z2 z3 : Sl) (ob ob' : List (Option Node)) (dr0 : Gm) : isT (seg dr0 (okD 4 ob') ⟨sl17 1 8 z0 z2 z3, ob⟩) = true := by kernel_rfl
theorem B_1_8_5 (z0 z2 z3 : Sl) (ob ob' : List (Option Node)) (dr0 : Gm) : isT (seg dr0 (okD 5 ob') ⟨sl17 1 8 z0 z2 z3, ob⟩) = true := by kernel_rfl
theorem B_1_8_6 (z0 z2 z3 : Sl) (ob ob' : List (Option Node)) (dr0 : Gm) : isT (seg dr0 (okD 6 ob') ⟨sl17 1 8 z0 z2 z3, ob⟩) = true := by kernel_rfl
theorem C_1_8 (z0 z2 z3 : Sl) (ob ob' : List (Option Node)) (dr dr0 : Gm) (v : Int) (h0 : 0 ≤ v) (h1 : v < 7) (h : dr [.o 1, .d (.int 7)] ob = some (.ok (.d (.int v)), ob')) : isT (seg dr0 dr ⟨sl17 1 8 z0 z2 z3, ob⟩) = true := by
  rw [A_1_8, h]
  have : v = 0 ∨ v = 1 ∨ v = 2 ∨ v = 3 ∨ v = 4 ∨ v = 5 ∨ v = 6 := by omega
  rcases this with rfl | rfl | rfl | rfl | rfl | rfl | rfl
  · exact B_1_8_0 z0 z2 z3 ob ob' dr0
  · exact B_1_8_1 z0 z2 z3 ob ob' dr0
  · exact B_1_8_2 z0 z2 z3 ob ob' dr0
  · exact B_1_8_3 z0 z2 z3 ob ob' dr0
  · exact B_1_8_4 z0 z2 z3 ob ob' dr0
  · exact B_1_8_5 z0 z2 z3 ob ob' dr0
  · exact B_1_8_6 z0 z2 z3 ob ob' dr0
theorem A_1_9 (z0 z2 z3 : Sl) (ob : List (Option Node)) (dr dr0 : Gm) : seg dr0 dr ⟨sl17 1 9 z0 z2 z3, ob⟩ = seg dr0 (fun _ _ => dr [.o 1, .d (.int 7)] ob) ⟨sl17 1 9 z0 z2 z3, ob⟩ := by kernel_rfl
theorem B_1_9_0 (z0 z2 z3 : Sl) (ob ob' : List (Option Node)) (dr0 : Gm) : isT (seg dr0 (okD 0 ob') ⟨sl17 1 9 z0 z2 z3, ob⟩) = true := by kernel_rfl
theorem B_1_9_1 (z0 z2 z3 : Sl) (ob ob' : List (Option Node)) (dr0 : Gm) : isT (seg dr0 (okD 1 ob') ⟨sl17 1 9 z0 z2 z3, ob⟩) = true := by kernel_rfl
theorem B_1_9_2 (z0 z2 z3 : Sl) (ob ob' : List (Option Node)) (dr0 : Gm) : isT (seg dr0 (okD 2 ob') ⟨sl17 1 9 z0 z2 z3, ob⟩) = true := by kernel_rfl
theorem B_1_9_3 (z0 z2 z3 : Sl) (ob ob' : List (Option Node)) (dr0 : Gm) : isT (seg dr0 (okD 3 ob') ⟨sl17 1 9 z0 z2 z3, ob⟩) = true := by kernel_rfl
theorem B_1_9_4 (z0 z2 z3 : Sl) (ob ob' : List (Option Node)) (dr0 : Gm) : isT (seg dr0 (okD 4 ob') ⟨sl17 1 9 z0 z2 z3, ob⟩) = true := by kernel_rfl
theorem B_1_9_5 (z0 z2 z3 : Sl) (ob ob' : List (Option Node)) (dr0 : Gm) : isT (seg dr0 (okD 5 ob') ⟨sl17 1 9 z0 z2 z3, ob⟩) = true := by kernel_rfl
theorem B_1_9_6 (z0 z2 z3 : Sl) (ob ob' : List (Option Node)) (dr0 : Gm) : isT (seg dr0 (okD 6 ob') ⟨sl17 1 9 z0 z2 z3, ob⟩) = true := by kernel_rfl
theorem C_1_9 (z0 z2 z3 : Sl) (ob ob' : List (Option Node)) (dr dr0 : Gm) (v : Int) (h0 : 0 ≤ v) (h1 : v < 7) (h : dr [.o 1, .d (.int 7)] ob = some (.ok (.d (.int v)), ob')) : isT (seg dr0 dr ⟨sl17 1 9 z0 z2 z3, ob⟩) = true := by
  rw [A_1_9, h]
  have : v = 0 ∨ v = 1 ∨ v = 2 ∨ v = 3 ∨ v = 4 ∨ v = 5 ∨ v = 6 := by omega
  rcases this with rfl | rfl | rfl | rfl | rfl | rfl | rfl
  · exact B_1_9_0 z0 z2 z3 ob ob' dr0
  · exact B_1_9_1 z0 z2 z3 ob ob' dr0
  · exact B_1_9_2 z0 z2 z3 ob ob' dr0
  · exact B_1_9_3 z0 z2 z3 ob ob' dr0
  · exact B_1_9_4 z0 z2 z3 ob ob' dr0
  · exact B_1_9_5 z0 z2 z3 ob ob' dr0
  · exact B_1_9_6 z0 z2 z3 ob ob' dr0
theorem A_1_10 (z0 z2 z3 : Sl) (ob : List (Option Node)) (dr dr0 : Gm) : seg dr0 dr ⟨sl17 1 10 z0 z2 z3, ob⟩ = seg dr0 (fun _ _ => dr [.o 1, .d (.int 7)] ob) ⟨sl17 1 10 z0 z2 z3, ob⟩ := by kernel_rfl
theorem B_1_10_0 (z0 z2 z3 : Sl) (ob ob' : List (Option Node)) (dr0 : Gm) : isT (seg dr0 (okD 0 ob') ⟨sl17 1 10 z0 z2 z3, ob⟩) = true := by kernel_rfl
theorem B_1_10_1 (z0 z2 z3 : Sl) (ob ob' : List (Option Node)) (dr0 : Gm) : isT (seg dr0 (okD 1 ob') ⟨sl17 1 10 z0 z2 z3, ob⟩) = true := by kernel_rfl
theorem B_1_10_2 (z0 z2 z3 : Sl) (ob ob' : List (Option Node)) (dr0 : Gm) : isT (seg dr0 (okD 2 ob') ⟨sl17 1 10 z0 z2 z3, ob⟩) = true := by kernel_rfl
theorem B_1_10_3 (z0 z2 z3 : Sl) (ob ob' : List (Option Node)) (dr0 : Gm) : isT (seg dr0 (okD 3 ob') ⟨sl17 1 10 z0 z2 z3, ob⟩) = true := by kernel_rfl
theorem B_1_10_4 (z0 z2 z3 : Sl) (ob ob' : List (Option Node)) (dr0 : Gm) : isT (seg dr0 (okD 4 ob') ⟨sl17 1 10 z0 z2 z3, ob⟩) = true := by kernel_rfl
theorem B_1_10_5 (z0 z2 z3 : Sl) (ob ob' : List (Option Node)) (dr0 : Gm) : isT (seg dr0 (okD 5 ob') ⟨sl17 1 10 z0 z2 z3, ob⟩) = true := by kernel_rfl
theorem B_1_10_6 (z0 z2 z3 : Sl) (ob ob' : List (Option Node)) (dr0 : Gm) : isT (seg dr0 (okD 6 ob') ⟨sl17 1 10 z0 z2 z3, ob⟩) = true := by kernel_rfl
theorem C_1_10 (z0 z2 z3 : Sl) (ob ob' : List (Option Node)) (dr dr0 : Gm) (v : Int) (h0 : 0 ≤ v) (h1 : v < 7) (h : dr [.o 1, .d (.int 7)] ob = some (.ok (.d (.int v)), ob')) : isT (seg dr0 dr ⟨sl17 1 10 z0 z2 z3, ob⟩) = true := by
  rw [A_1_10, h]
  have : v = 0 ∨ v = 1 ∨ v = 2 ∨ v = 3 ∨ v = 4 ∨ v = 5 ∨ v = 6 := by omega
  rcases this with rfl | rfl | rfl | rfl | rfl | rfl | rfl
  · exact B_1_10_0 z0 z2 z3 ob ob' dr0
  · exact B_1_10_1 z0 z2 z3 ob ob' dr0
  · exact B_1_10_2 z0 z2 z3 ob ob' dr0
  · exact B_1_10_3 z0 z2 z3 ob ob' dr0
  · exact B_1_10_4 z0 z2 z3 ob ob' dr0
  · exact B_1_10_5 z0 z2 z3 ob ob' dr0
  · exact B_1_10_6 z0 z2 z3 ob ob' dr0
theorem A_1_11 (z0 z2 z3 : Sl) (ob : List (Option Node)) (dr dr0 : Gm) : seg dr0 dr ⟨sl17 1 11 z0 z2 z3, ob⟩ = seg dr0 (fun _ _ => dr [.o 1, .d (.int 7)] ob) ⟨sl17 1 11 z0 z2 z3, ob⟩ := by kernel_rfl
theorem B_1_11_0 (z0 z2 z3 : Sl) (ob ob' : List (Option Node)) (dr0 : Gm) : isT (seg dr0 (okD 0 ob') ⟨sl17 1 11 z0 z2 z3, ob⟩) = true := by kernel_rfl
theorem B_1_11_1 (z0 z2 z3 : Sl) (ob ob' : List (Option Node)) (dr0 : Gm) : isT (seg dr0 (okD 1 ob') ⟨sl17 1 11 z0 z2 z3, ob⟩) = true := by kernel_rfl
theorem B_1_11_2 (z0 z2 z3 : Sl) (ob ob' : List (Option Node)) (dr0 : Gm) : isT (seg dr0 (okD 2 ob') ⟨sl17 1 11 z0 z2 z3, ob⟩) = true := by kernel_rfl
theorem B_1_11_3 (z0 z2 z3 : Sl) (ob ob' : List (Option Node)) (dr0 : Gm) : isT (seg dr0 (okD 3 ob') ⟨sl17 1 11 z0 z2 z3, ob⟩) = true := by kernel_rfl
theorem B_1_11_4 (z0 z2 z3 : Sl) (ob ob' : List (Option Node)) (dr0 : Gm) : isT (seg dr0 (okD 4 ob') ⟨sl17 1 11 z0 z2 z3, ob⟩) = true := by kernel_rfl
theorem B_1_11_5 (z0 z2 z3 : Sl) (ob ob' : List (Option Node)) (dr0 : Gm) : isT (seg dr0 (okD 5 ob') ⟨sl17 1 11 z0 z2 z3, ob⟩) = true := by kernel_rfl
theorem B_1_11_6 (z0 z2 z3 : Sl) (ob ob' : List (Option Node)) (dr0 : Gm) : isT (seg dr0 (okD 6 ob') ⟨sl17 1 11 z0 z2 z3, ob⟩) = true := by kernel_rfl
theorem C_1_11 (z0 z2 z3 : Sl) (ob ob' : List (Option Node)) (dr dr0 : Gm) (v : Int) (h0 : 0 ≤ v) (h1 : v < 7) (h : dr [.o 1, .d (.int 7)] ob = some (.ok (.d (.int v)), ob')) : isT (seg dr0 dr ⟨sl17 1 11 z0 z2 z3, ob⟩) = true := by
  rw [A_1_11, h]
  have : v = 0 ∨ v = 1 ∨ v = 2 ∨ v = 3 ∨ v = 4 ∨ v = 5 ∨ v = 6 := by omega
  rcases this with rfl | rfl | rfl | rfl | rfl | rfl | rfl
  · exact B_1_11_0 z0 z2 z3 ob ob' dr0
  · exact B_1_11_1 z0 z2 z3 ob ob' dr0
  · exact B_1_11_2 z0 z2 z3 ob ob' dr0
  · exact B_1_11_3 z0 z2 z3 ob ob' dr0
  · exact B_1_11_4 z0 z2 z3 ob ob' dr0
  · exact B_1_11_5 z0 z2 z3 ob ob' dr0
  · exact B_1_11_6 z0 z2 z3 ob ob' dr0
theorem A_1_12 (z0 z2 z3 : Sl) (ob : List (Option Node)) (dr dr0 : Gm) : seg dr0 dr ⟨sl17 1 12 z0 z2 z3, ob⟩ = seg dr0 (fun _ _ => dr [.o 1, .d (.int 7)] ob) ⟨sl17 1 12 z0 z2 z3, ob⟩ := by kernel_rfl
theorem B_1_12_0 (z0 z2 z3 : Sl) (ob ob' : List (Option Node)) (dr0 : Gm) : isT (seg dr0 (okD 0 ob') ⟨sl17 1 12 z0 z2 z3, ob⟩) = true := by kernel_rfl
theorem B_1_12_1 (z0 z2 z3 : Sl) (ob ob' : List (Option Node)) (dr0 : Gm) : isT (seg dr0 (okD 1 ob') ⟨sl17 1 12 z0 z2 z3, ob⟩) = true := by kernel_rfl
theorem B_1_12_2 (z0 z2 z3 : Sl) (ob ob' : List (Option Node)) (dr0 : Gm) : isT (seg dr0 (okD 2 ob') ⟨sl17 1 12 z0 z2 z3, ob⟩) = true := by kernel_rfl
theorem B_1_12_3 (z0 z2 z3 : Sl) (ob ob' : List (Option Node)) (dr0 : Gm) : isT (seg dr0 (okD 3 ob') ⟨sl17 1 12 z0 z2 z3, ob⟩) = true := by kernel_rfl
theorem B_1_12_4 (z0 z2 z3 : Sl) (ob ob' : List (Option Node)) (dr0 : Gm) : isT (seg dr0 (okD 4 ob') ⟨sl17 1 12 z0 z2 z3, ob⟩) = true := by kernel_rfl
theorem B_1_12_5 (z0 z2 z3 : Sl) (ob ob' : List (Option Node)) (dr0 : Gm) : isT (seg dr0 (okD 5 ob') ⟨sl17 1 12 z0 z2 z3, ob⟩) = true := by kernel_rfl
theorem B_1_12_6 (z0 z2 z3 : Sl) (ob ob' : List (Option Node)) (dr0 : Gm) : isT (seg dr0 (okD 6 ob') ⟨sl17 1 12 z0 z2 z3, ob⟩) = true := by kernel_rfl
theorem C_1_12 (z0 z2 z3 : Sl) (ob ob' : List (Option Node)) (dr dr0 : Gm) (v : Int) (h0 : 0 ≤ v) (h1 : v < 7) (h : dr [.o 1, .d (.int 7)] ob = some (.ok (.d (.int v)), ob')) : isT (seg dr0 dr ⟨sl17 1 12 z0 z2 z3, ob⟩) = true := by
  rw [A_1_12, h]
  have : v = 0 ∨ v = 1 ∨ v = 2 ∨ v = 3 ∨ v = 4 ∨ v = 5 ∨ v = 6 := by omega
  rcases this with rfl | rfl | rfl | rfl | rfl | rfl | rfl
  · exact B_1_12_0 z0 z2 z3 ob ob' dr0
  · exact B_1_12_1 z0 z2 z3 ob ob' dr0
  · exact B_1_12_2 z0 z2 z3 ob ob' dr0
  · exact B_1_12_3 z0 z2 z3 ob ob' dr0
  · exact B_1_12_4 z0 z2 z3 ob ob' dr0
  · exact B_1_12_5 z0 z2 z3 ob ob' dr0
  · exact B_1_12_6 z0 z2 z3 ob ob' dr0
theorem A_1_13 (z0 z2 z3 : Sl) (ob : List (Option Node)) (dr dr0 : Gm) : seg dr0 dr ⟨sl17 1 13 z0 z2 z3, ob⟩ = seg dr0 (fun _ _ => dr [.o 1, .d (.int 7)] ob) ⟨sl17 1 13 z0 z2 z3, ob⟩ := by kernel_rfl
theorem B_1_13_0 (z0 z2 z3 : Sl) (ob ob' : List (Option Node)) (dr0 : Gm) : isT (seg dr0 (okD 0 ob') ⟨sl17 1 13 z0 z2 z3, ob⟩) = true := by kernel_rfl
theorem B_1_13_1 (z0 z2 z3 : Sl) (ob ob' : List (Option Node)) (dr0 : Gm) : isT (seg dr0 (okD 1 ob') ⟨sl17 1 13 z0 z2 z3, ob⟩) = true := by kernel_rfl
theorem B_1_13_2 (z0 z2 z3 : Sl) (ob ob' : List (Option Node)) (dr0 : Gm) : isT (seg dr0 (okD 2 ob') ⟨sl17 1 13 z0 z2 z3, ob⟩) = true := by kernel_rfl
theorem B_1_13_3 (z0 z2 z3 : Sl) (ob ob' : List (Option Node)) (dr0 : Gm) : isT (seg dr0 (okD 3 ob') ⟨sl17 1 13 z0 z2 z3, ob⟩) = true := by kernel_rfl
theorem B_1_13_4 (z0 z2 z3 : Sl) (ob ob' : List (Option Node)) (dr0 : Gm) : isT (seg dr0 (okD 4 ob') ⟨sl17 1 13 z0 z2 z3, ob⟩) = true := by kernel_rfl
theorem B_1_13_5 (z0 z2 z3 : Sl) (ob ob' : List (Option Node)) (dr0 : Gm) : isT (seg dr0 (okD 5 ob') ⟨sl17 1 13 z0 z2 z3, ob⟩) = true := by kernel_rfl
theorem B_1_13_6 (z0 z2 z3 : Sl) (ob ob' : List (Option Node)) (dr0 : Gm) : isT (seg dr0 (okD 6 ob') ⟨sl17 1 13 z0 z2 z3, ob⟩) = true := by kernel_rfl
theorem C_1_13 (z0 z2 z3 : Sl) (ob ob' : List (Option Node)) (dr dr0 : Gm) (v : Int) (h0 : 0 ≤ v) (h1 : v < 7) (h : dr [.o 1, .d (.int 7)] ob = some (.ok (.d (.int v)), ob')) : isT (seg dr0 dr ⟨sl17 1 13 z0 z2 z3, ob⟩) = true := by
  rw [A_1_13, h]
  have : v = 0 ∨ v = 1 ∨ v = 2 ∨ v = 3 ∨ v = 4 ∨ v = 5 ∨ v = 6 := by omega
  rcases this with rfl | rfl | rfl | rfl | rfl | rfl | rfl
  · exact B_1_13_0 z0 z2 z3 ob ob' dr0
  · exact B_1_13_1 z0 z2 z3 ob ob' dr0
  · exact B_1_13_2 z0 z2 z3 ob ob' dr0
  · exact B_1_13_3 z0 z2 z3 ob ob' dr0
  · exact B_1_13_4 z0 z2 z3 ob ob' dr0
  · exact B_1_13_5 z0 z2 z3 ob ob' dr0
  · exact B_1_13_6 z0 z2 z3 ob ob' dr0
theorem A_1_14 (z0 z2 z3 : Sl) (ob : List (Option Node)) (dr dr0 : Gm) : seg dr0 dr ⟨sl17 1 14 z0 z2 z3, ob⟩ = seg dr0 (fun _ _ => dr [.o 1, .d (.int 7)] ob) ⟨sl17 1 14 z0 z2 z3, ob⟩ := by kernel_rfl
theorem B_1_14_0 (z0 z2 z3 : Sl) (ob ob' : List (Option Node)) (dr0 : Gm) : isT (seg dr0 (okD 0 ob') ⟨sl17 1 14 z0 z2 z3, ob⟩) = true := by kernel_rfl
theorem B_1_14_1 (z0 z2 z3 : Sl) (ob ob' : List (Option Node)) (dr0 : Gm) : isT (seg dr0 (okD 1 ob') ⟨sl17 1 14 z0 z2 z3, ob⟩) = true := by kernel_rfl
theorem B_1_14_2 (z0 z2 z3 : Sl) (ob ob' : List (Option Node)) (dr0 : Gm) : isT (seg dr0 (okD 2 ob') ⟨sl17 1 14 z0 z2 z3, ob⟩) = true := by kernel_rfl
theorem B_1_14_3 (z0 z2 z3 : Sl) (ob ob' : List (Option Node)) (dr0 : Gm) : isT (seg dr0 (okD 3 ob') ⟨sl17 1 14 z0 z2 z3, ob⟩) = true := by kernel_rfl
theorem B_1_14_4 (z0 z2 z3 : Sl) (ob ob' : List (Option Node)) (dr0 : Gm) : isT (seg dr0 (okD 4 ob') ⟨sl17 1 14 z0 z2 z3, ob⟩) = true := by kernel_rfl
theorem B_1_14_5 (z0 z2 z3 : Sl) (ob ob' : List (Option Node)) (dr0 : Gm) : isT (seg dr0 (okD 5 ob') ⟨sl17 1 14 z0 z2 z3, ob⟩) = true := by kernel_rfl
theorem B_1_14_6 (z0 z2 z3 : Sl) (ob ob' : List (Option Node)) (dr0 : Gm) : isT (seg dr0 (okD 6 ob') ⟨sl17 1 14 z0 z2 z3, ob⟩) = true := by kernel_rfl
theorem C_1_14 (z0 z2 z3 : Sl) (ob ob' : List (Option Node)) (dr dr0 : Gm) (v : Int) (h0 : 0 ≤ v) (h1 : v < 7) (h : dr [.o 1, .d (.int 7)] ob = some (.ok (.d (.int v)), ob')) : isT (seg dr0 dr ⟨sl17 1 14 z0 z2 z3, ob⟩) = true := by
  rw [A_1_14, h]
  have : v = 0 ∨ v = 1 ∨ v = 2 ∨ v = 3 ∨ v = 4 ∨ v = 5 ∨ v = 6 := by omega
  rcases this with rfl | rfl | rfl | rfl | rfl | rfl | rfl
  · exact B_1_14_0 z0 z2 z3 ob ob' dr0
  · exact B_1_14_1 z0 z2 z3 ob ob' dr0
  · exact B_1_14_2 z0 z2 z3 ob ob' dr0
  · exact B_1_14_3 z0 z2 z3 ob ob' dr0
  · exact B_1_14_4 z0 z2 z3 ob ob' dr0
  · exact B_1_14_5 z0 z2 z3 ob ob' dr0
  · exact B_1_14_6 z0 z2 z3 ob ob' dr0
theorem A_1_15 (z0 z2 z3 : Sl) (ob : List (Option Node)) (dr dr0 : Gm) : seg dr0 dr ⟨sl17 1 15 z0 z2 z3, ob⟩ = seg dr0 (fun _ _ => dr [.o 1, .d (.int 7)] ob) ⟨sl17 1 15 z0 z2 z3, ob⟩ := by kernel_rfl
theorem B_1_15_0 (z0 z2 z3 : Sl) (ob ob' : List (Option Node)) (dr0 : Gm) : isT (seg dr0 (okD 0 ob') ⟨sl17 1 15 z0 z2 z3, ob⟩) = true := by kernel_rfl
theorem B_1_15_1 (z0 z2 z3 : Sl) (ob ob' : List (Option Node)) (dr0 : Gm) : isT (seg dr0 (okD 1 ob') ⟨sl17 1 15 z0 z2 z3, ob⟩) = true := by kernel_rfl
theorem B_1_15_2 (z0 z2 z3 : Sl) (ob ob' : List (Option Node)) (dr0 : Gm) : isT (seg dr0 (okD 2 ob') ⟨sl17 1 15 z0 z2 z3, ob⟩) = true := by kernel_rfl
theorem B_1_15_3 (z0 z2 z3 : Sl) (ob ob' : List (Option Node)) (dr0 : Gm) : isT (seg dr0 (okD 3 ob') ⟨sl17 1 15 z0 z2 z3, ob⟩) = true := by kernel_rfl
theorem B_1_15_4 (z0 z2 z3 : Sl) (ob ob' : List (Option Node)) (dr0 : Gm) : isT (seg dr0 (okD 4 ob') ⟨sl17 1 15 z0 z2 z3, ob⟩) = true := by kernel_rfl
theorem B_1_15_5 (z0 z2 z3 : Sl) (ob ob' : List (Option Node)) (dr0 : Gm) : isT (seg dr0 (okD 5 ob') ⟨sl17 1 15 z0 z2 z3, ob⟩) = true := by kernel_rfl
theorem B_1_15_6 (z0 z2 z3 : Sl) (ob ob' : List (Option Node)) (dr0 : Gm) : isT (seg dr0 (okD 6 ob') ⟨sl17 1 15 z0 z2 z3, ob⟩) = true := by kernel_rfl
theorem C_1_15 (z0 z2 z3 : Sl) (ob ob' : List (Option Node)) (dr dr0 : Gm) (v : Int) (h0 : 0 ≤ v) (h1 : v < 7) (h : dr [.o 1, .d (.int 7)] ob = some (.ok (.d (.int v)), ob')) : isT (seg dr0 dr ⟨sl17 1 15 z0 z2 z3, ob⟩) = true := by
  rw [A_1_15, h]
  have : v = 0 ∨ v = 1 ∨ v = 2 ∨ v = 3 ∨ v = 4 ∨ v = 5 ∨ v = 6 := by omega
  rcases this with rfl | rfl | rfl | rfl | rfl | rfl | rfl
  · exact B_1_15_0 z0 z2 z3 ob ob' dr0
  · exact B_1_15_1 z0 z2 z3 ob ob' dr0
  · exact B_1_15_2 z0 z2 z3 ob ob' dr0
  · exact B_1_15_3 z0 z2 z3 ob ob' dr0
  · exact B_1_15_4 z0 z2 z3 ob ob' dr0
  · exact B_1_15_5 z0 z2 z3 ob ob' dr0
  · exact B_1_15_6 z0 z2 z3 ob ob' dr0
theorem A_1_16 (z0 z2 z3 : Sl) (ob : List (Option Node)) (dr dr0 : Gm) : seg dr0 dr ⟨sl17 1 16 z0 z2 z3, ob⟩ = seg dr0 (fun _ _ => dr [.o 1, .d (.int 7)] ob) ⟨sl17 1 16 z0 z2 z3, ob⟩ := by kernel_rfl
theorem B_1_16_0 (z0 z2 z3 : Sl) (ob ob' : List (Option Node)) (dr0 : Gm) : isT (seg dr0 (okD 0 ob') ⟨sl17 1 16 z0 z2 z3, ob⟩) = true := by kernel_rfl
theorem B_1_16_1 (z0 z2 z3 : Sl) (ob ob' : List (Option Node)) (dr0 : Gm) : isT (seg dr0 (okD 1 ob') ⟨sl17 1 16 z0 z2 z3, ob⟩) = true := by kernel_rfl
theorem B_1_16_2 (z0 z2 z3 : Sl) (ob ob' : List (Option Node)) (dr0 : Gm) : isT (seg dr0 (okD 2 ob') ⟨sl17 1 16 z0 z2 z3, ob⟩) = true := by kernel_rfl
theorem B_1_16_3 (z0 z2 z3 : Sl) (ob ob' : List (Option Node)) (dr0 : Gm) : isT (seg dr0 (okD 3 ob') ⟨sl17 1 16 z0 z2 z3, ob⟩) = true := by kernel_rfl
theorem B_1_16_4 (z0 z2 z3 : Sl) (ob ob' : List (Option Node)) (dr0 : Gm) : isT (seg dr0 (okD 4 ob') ⟨sl17 1 16 z0 z2 z3, ob⟩) = true := by kernel_rfl
theorem B_1_16_5 (z0 z2 z3 : Sl) (ob ob' : List (Option Node)) (dr0 : Gm) : isT (seg dr0 (okD 5 ob') ⟨sl17 1 16 z0 z2 z3, ob⟩) = true := by kernel_rfl
theorem B_1_16_6 (z0 z2 z3 : Sl) (ob ob' : List (Option Node)) (dr0 : Gm) : isT (seg dr0 (okD 6 ob') ⟨sl17 1 16 z0 z2 z3, ob⟩) = true := by kernel_rfl
theorem C_1_16 (z0 z2 z3 : Sl) (ob ob' : List (Option Node)) (dr dr0 : Gm) (v : Int) (h0 : 0 ≤ v) (h1 : v < 7) (h : dr [.o 1, .d (.int 7)] ob = some (.ok (.d (.int v)), ob')) : isT (seg dr0 dr ⟨sl17 1 16 z0 z2 z3, ob⟩) = true := by
  rw [A_1_16, h]
  have : v = 0 ∨ v = 1 ∨ v = 2 ∨ v = 3 ∨ v = 4 ∨ v = 5 ∨ v = 6 := by omega
  rcases this with rfl | rfl | rfl | rfl | rfl | rfl | rfl
  · exact B_1_16_0 z0 z2 z3 ob ob' dr0
  · exact B_1_16_1 z0 z2 z3 ob ob' dr0
  · exact B_1_16_2 z0 z2 z3 ob ob' dr0
  · exact B_1_16_3 z0 z2 z3 ob ob' dr0
  · exact B_1_16_4 z0 z2 z3 ob ob' dr0
  · exact B_1_16_5 z0 z2 z3 ob ob' dr0
  · exact B_1_16_6 z0 z2 z3 ob ob' dr0
theorem A_1_17 (z0 z2 z3 : Sl) (ob : List (Option Node)) (dr dr0 : Gm) : seg dr0 dr ⟨sl17 1 17 z0 z2 z3, ob⟩ = seg dr0 (fun _ _ => dr [.o 1, .d (.int 7)] ob) ⟨sl17 1 17 z0 z2 z3, ob⟩ := by kernel_rfl
theorem B_1_17_0 (z0 z2 z3 : Sl) (ob ob' : List (Option Node)) (dr0 : Gm) : isT (seg dr0 (okD 0 ob') ⟨sl17 1 17 z0 z2 z3, ob⟩) = true := by kernel_rfl
theorem B_1_17_1 (z0 z2 z3 : Sl) (ob ob' : List (Option Node)) (dr0 : Gm) : isT (seg dr0 (okD 1 ob') ⟨sl17 1 17 z0 z2 z3, ob⟩) = true := by kernel_rfl
theorem B_1_17_2 (z0 z2 z3 : Sl) (ob ob' : List (Option Node)) (dr0 : Gm) : isT (seg dr0 (okD 2 ob') ⟨sl17 1 17 z0 z2 z3, ob⟩) = true := by kernel_rfl
theorem B_1_17_3 (z0 z2 z3 : Sl) (ob ob' : List (Option Node)) (dr0 : Gm) : isT (seg dr0 (okD 3 ob') ⟨sl17 1 17 z0 z2 z3, ob⟩) = true := by kernel_rfl
theorem B_1_17_4 (z0 z2 z3 : Sl) (ob ob' : List (Option Node)) (dr0 : Gm) : isT (seg dr0 (okD 4 ob') ⟨sl17 1 17 z0 z2 z3, ob⟩) = true := by kernel_rfl
theorem B_1_17_5 (z0 z2 z3 : Sl) (ob ob' : List (Option Node)) (dr0 : Gm) : isT (seg dr0 (okD 5 ob') ⟨sl17 1 17 z0 z2 z3, ob⟩) = true := by kernel_rfl
theorem B_1_17_6 (z0 z2 z3 : Sl) (ob ob' : List (Option Node)) (dr0 : Gm) : isT (seg dr0 (okD 6 ob') ⟨sl17 1 17 z0 z2 z3, ob⟩) = true := by kernel_rfl
theorem C_1_17 (z0 z2 z3 : Sl) (ob ob' : List (Option Node)) (dr dr0 : Gm) (v : Int) (h0 : 0 ≤ v) (h1 : v < 7) (h : dr [.o 1, .d (.int 7)] ob = some (.ok (.d (.int v)), ob')) : isT (seg dr0 dr ⟨sl17 1 17 z0 z2 z3, ob⟩) = true := by
  rw [A_1_17, h]
  have : v = 0 ∨ v = 1 ∨ v = 2 ∨ v = 3 ∨ v = 4 ∨ v = 5 ∨ v = 6 := by omega
  rcases this with rfl | rfl | rfl | rfl | rfl | rfl | rfl
  · exact B_1_17_0 z0 z2 z3 ob ob' dr0
  · exact B_1_17_1 z0 z2 z3 ob ob' dr0
  · exact B_1_17_2 z0 z2 z3 ob ob' dr0
  · exact B_1_17_3 z0 z2 z3 ob ob' dr0
  · exact B_1_17_4 z0 z2 z3 ob ob' dr0
  · exact B_1_17_5 z0 z2 z3 ob ob' dr0
  · exact B_1_17_6 z0 z2 z3 ob ob' dr0
theorem A_1_18 (z0 z2 z3 : Sl) (ob : List (Option Node)) (dr dr0 : Gm) : seg dr0 dr ⟨sl17 1 18 z0 z2 z3, ob⟩ = seg dr0 (fun _ _ => dr [.o 1, .d (.int 7)] ob) ⟨sl17 1 18 z0 z2 z3, ob⟩ := by kernel_rfl
theorem B_1_18_0 (z0 z2 z3 : Sl) (ob ob' : List (Option Node)) (dr0 : Gm) : isT (seg dr0 (okD 0 ob') ⟨sl17 1 18 z0 z2 z3, ob⟩) = true := by kernel_rfl
theorem B_1_18_1 (z0 z2 z3 : Sl) (ob ob' : List (Option Node)) (dr0 : Gm) : isT (seg dr0 (okD 1 ob') ⟨sl17 1 18 z0 z2 z3, ob⟩) = true := by kernel_rfl
theorem B_1_18_2 (z0 z2 z3 : Sl) (ob ob' : List (Option Node)) (dr0 : Gm) : isT (seg dr0 (okD 2 ob') ⟨sl17 1 18 z0 z2 z3, ob⟩) = true := by kernel_rfl
theorem B_1_18_3 (z0 z2 z3 : Sl) (ob ob' : List (Option Node)) (dr0 : Gm) : isT (seg dr0 (okD 3 ob') ⟨sl17 1 18 z0 z2 z3, ob⟩) = true := by kernel_rfl
theorem B_1_18_4 (z0 z2 z3 : Sl) (ob ob' : List (Option Node)) (dr0 : Gm) : isT (seg dr0 (okD 4 ob') ⟨sl17 1 18 z0 z2 z3, ob⟩) = true := by kernel_rfl
theorem B_1_18_5 (z0 z2 z3 : Sl) (ob ob' : List (Option Node)) (dr0 : Gm) : isT (seg dr0 (okD 5 ob') ⟨sl17 1 18 z0 z2 z3, ob⟩) = true := by kernel_rfl
theorem B_1_18_6 (z0 z2 z3 : Sl) (ob ob' : List (Option Node)) (dr0 : Gm) : isT (seg dr0 (okD 6 ob') ⟨sl17 1 18 z0 z2 z3, ob⟩) = true := by kernel_rfl
theorem C_1_18 (z0 z2 z3 : Sl) (ob ob' : List (Option Node)) (dr dr0 : Gm) (v : Int) (h0 : 0 ≤ v) (h1 : v < 7) (h : dr [.o 1, .d (.int 7)] ob = some (.ok (.d (.int v)), ob')) : isT (seg dr0 dr ⟨sl17 1 18 z0 z2 z3, ob⟩) = true := by
  rw [A_1_18, h]
  have : v = 0 ∨ v = 1 ∨ v = 2 ∨ v = 3 ∨ v = 4 ∨ v = 5 ∨ v = 6 := by omega
  rcases this with rfl | rfl | rfl | rfl | rfl | rfl | rfl
  · exact B_1_18_0 z0 z2 z3 ob ob' dr0
  · exact B_1_18_1 z0 z2 z3 ob ob' dr0
  · exact B_1_18_2 z0 z2 z3 ob ob' dr0
  · exact B_1_18_3 z0 z2 z3 ob ob' dr0
  · exact B_1_18_4 z0 z2 z3 ob ob' dr0
  · exact B_1_18_5 z0 z2 z3 ob ob' dr0
  · exact B_1_18_6 z0 z2 z3 ob ob' dr0
theorem A_1_19 (z0 z2 z3 : Sl) (ob : List (Option Node)) (dr dr0 : Gm) : seg dr0 dr ⟨sl17 1 19 z0 z2 z3, ob⟩ = seg dr0 (fun _ _ => dr [.o 1, .d (.int 7)] ob) ⟨sl17 1 19 z0 z2 z3, ob⟩ := by kernel_rfl
theorem B_1_19_0 (z0 z2 z3 : Sl) (ob ob' : List (Option Node)) (dr0 : Gm) : isT (seg dr0 (okD 0 ob') ⟨sl17 1 19 z0 z2 z3, ob⟩) = true := by kernel_rfl
theorem B_1_19_1 (z0 z2 z3 : Sl) (ob ob' : List (Option Node)) (dr0 : Gm) : isT (seg dr0 (okD 1 ob') ⟨sl17 1 19 z0 z2 z3, ob⟩) = true := by kernel_rfl
theorem B_1_19_2 (z0 z2 z3 : Sl) (ob ob' : List (Option Node)) (dr0 : Gm) : isT (seg dr0 (okD 2 ob') ⟨sl17 1 19 z0 z2 z3, ob⟩) = true := by kernel_rfl
theorem B_1_19_3 (z0 z2 z3 : Sl) (ob ob' : List (Option Node)) (dr0 : Gm) : isT (seg dr0 (okD 3 ob') ⟨sl17 1 19 z0 z2 z3, ob⟩) = true := by kernel_rfl
theorem B_1_19_4 (z0 z2 z3 : Sl) (ob ob' : List (Option Node)) (dr0 : Gm) : isT (seg dr0 (okD 4 ob') ⟨sl17 1 19 z0 z2 z3, ob⟩) = true := by kernel_rfl
theorem B_1_19_5 (z0 z2 z3 : Sl) (ob ob' : List (Option Node)) (dr0 : Gm) : isT (seg dr0 (okD 5 ob') ⟨sl17 1 19 z0 z2 z3, ob⟩) = true := by kernel_rfl
theorem B_1_19_6 (z0 z2 z3 : Sl) (ob ob' : List (Option Node)) (dr0 : Gm) : isT (seg dr0 (okD 6 ob') ⟨sl17 1 19 z0 z2 z3, ob⟩) = true := by kernel_rfl
theorem C_1_19 (z0 z2 z3 : Sl) (ob ob' : List (Option Node)) (dr dr0 : Gm) (v : Int) (h0 : 0 ≤ v) (h1 : v < 7) (h : dr [.o 1, .d (.int 7)] ob = some (.ok (.d (.int v)), ob')) : isT (seg dr0 dr ⟨sl17 1 19 z0 z2 z3, ob⟩) = true := by
  rw [A_1_19, h]
  have : v = 0 ∨ v = 1 ∨ v = 2 ∨ v = 3 ∨ v = 4 ∨ v = 5 ∨ v = 6 := by omega
  rcases this with rfl | rfl | rfl | rfl | rfl | rfl | rfl
  · exact B_1_19_0 z0 z2 z3 ob ob' dr0
  · exact B_1_19_1 z0 z2 z3 ob ob' dr0
  · exact B_1_19_2 z0 z2 z3 ob ob' dr0
  · exact B_1_19_3 z0 z2 z3 ob ob' dr0
  · exact B_1_19_4 z0 z2 z3 ob ob' dr0
  · exact B_1_19_5 z0 z2 z3 ob ob' dr0
  · exact B_1_19_6 z0 z2 z3 ob ob' dr0
theorem A_1_20 (z0 z2 z3 : Sl) (ob : List (Option Node)) (dr dr0 : Gm) : seg dr0 dr ⟨sl17 1 20 z0 z2 z3, ob⟩ = seg dr0 (fun _ _ => dr [.o 1, .d (.int 7)] ob) ⟨sl17 1 20 z0 z2 z3, ob⟩ := by kernel_rfl
theorem B_1_20_0 (z0 z2 z3 : Sl) (ob ob' : List (Option Node)) (dr0 : Gm) : isT (seg dr0 (okD 0 ob') ⟨sl17 1 20 z0 z2 z3, ob⟩) = true := by kernel_rfl
theorem B_1_20_1 (z0 z2 z3 : Sl) (ob ob' : List (Option Node)) (dr0 : Gm) : isT (seg dr0 (okD 1 ob') ⟨sl17 1 20 z0 z2 z3, ob⟩) = true := by kernel_rfl
theorem B_1_20_2 (z0 z2 z3 : Sl) (ob ob' : List (Option Node)) (dr0 : Gm) : isT (seg dr0 (okD 2 ob') ⟨sl17 1 20 z0 z2 z3, ob⟩) = true := by kernel_rfl
theorem B_1_20_3 (z0 z2 z3 : Sl) (ob ob' : List (Option Node)) (dr0 : Gm) : isT (seg dr0 (okD 3 ob') ⟨sl17 1 20 z0 z2 z3, ob⟩) = true := by kernel_rfl
theorem B_1_20_4 (z0 z2 z3 : Sl) (ob ob' : List (Option Node)) (dr0 : Gm) : isT (seg dr0 (okD 4 ob') ⟨sl17 1 20 z0 z2 z3, ob⟩) = true := by kernel_rfl
theorem B_1_20_5 (z0 z2 z3 : Sl) (ob ob' : List (Option Node)) (dr0 : Gm) : isT (seg dr0 (okD 5 ob') ⟨sl17 1 20 z0 z2 z3, ob⟩) = true := by kernel_rfl
theorem B_1_20_6 (z0 z2 z3 : Sl) (ob ob' : List (Option Node)) (dr0 : Gm) : isT (seg dr0 (okD 6 ob') ⟨sl17 1 20 z0 z2 z3, ob⟩) = true := by kernel_rfl
theorem C_1_20 (z0 z2 z3 : Sl) (ob ob' : List (Option Node)) (dr dr0 : Gm) (v : Int) (h0 : 0 ≤ v) (h1 : v < 7) (h : dr [.o 1, .d (.int 7)] ob = some (.ok (.d (.int v)), ob')) : isT (seg dr0 dr ⟨sl17 1 20 z0 z2 z3, ob⟩) = true := by
  rw [A_1_20, h]
  have : v = 0 ∨ v = 1 ∨ v = 2 ∨ v = 3 ∨ v = 4 ∨ v = 5 ∨ v = 6 := by omega
  rcases this with rfl | rfl | rfl | rfl | rfl | rfl | rfl
  · exact B_1_20_0 z0 z2 z3 ob ob' dr0
  · exact B_1_20_1 z0 z2 z3 ob ob' dr0
  · exact B_1_20_2 z0 z2 z3 ob ob' dr0
  · exact B_1_20_3 z0 z2 z3 ob ob' dr0
  · exact B_1_20_4 z0 z2 z3 ob ob' dr0
  · exact B_1_20_5 z0 z2 z3 ob ob' dr0
  · exact B_1_20_6 z0 z2 z3 ob ob' dr0
theorem A_1_21 (z0 z2 z3 : Sl) (ob : List (Option Node)) (dr dr0 : Gm) : seg dr0 dr ⟨sl17 1 21 z0 z2 z3, ob⟩ = seg dr0 (fun _ _ => dr [.o 1, .d (.int 7)] ob) ⟨sl17 1 21 z0 z2 z3, ob⟩ := by kernel_rfl
theorem B_1_21_0 (z0 z2 z3 : Sl) (ob ob' : List (Option Node)) (dr0 : Gm) : isT (seg dr0 (okD 0 ob') ⟨sl17 1 21 z0 z2 z3, ob⟩) = true := by kernel_rfl
theorem B_1_21_1 (z0 z2 z3 : Sl) (ob ob' : List (Option Node)) (dr0 : Gm) : isT (seg dr0 (okD 1 ob') ⟨sl17 1 21 z0 z2 z3, ob⟩) = true := by kernel_rfl
theorem B_1_21_2 (z0 z2 z3 : Sl) (ob ob' : List (Option Node)) (dr0 : Gm) : isT (seg dr0 (okD 2 ob') ⟨sl17 1 21 z0 z2 z3, ob⟩) = true := by kernel_rfl
theorem B_1_21_3 (z0 z2 z3 : Sl) (ob ob' : List (Option Node)) (dr0 : Gm) : isT (seg dr0 (okD 3 ob') ⟨sl17 1 21 z0 z2 z3, ob⟩) = true := by kernel_rfl
theorem B_1_21_4 (z0 z2 z3 : Sl) (ob ob' : List (Option Node)) (dr0 : Gm) : isT (seg dr0 (okD 4 ob') ⟨sl17 1 21 z0 z2 z3, ob⟩) = true := by kernel_rfl
theorem B_1_21_5 (z0 z2 z3 : Sl) (ob ob' : List (Option Node)) (dr0 : Gm) : isT (seg dr0 (okD 5 ob') ⟨sl17 1 21 z0 z2 z3, ob⟩) = true := by kernel_rfl
theorem B_1_21_6 (z0 z2 z3 : Sl) (ob ob' : List (Option Node)) (dr0 : Gm) : isT (seg dr0 (okD 6 ob') ⟨sl17 1 21 z0 z2 z3, ob⟩) = true := by kernel_rfl
theorem C_1_21 (z0 z2 z3 : Sl) (ob ob' : List (Option Node)) (dr dr0 : Gm) (v : Int) (h0 : 0 ≤ v) (h1 : v < 7) (h : dr [.o 1, .d (.int 7)] ob = some (.ok (.d (.int v)), ob')) : isT (seg dr0 dr ⟨sl17 1 21 z0 z2 z3, ob⟩) = true := by
  rw [A_1_21, h]
  have : v = 0 ∨ v = 1 ∨ v = 2 ∨ v = 3 ∨ v = 4 ∨ v = 5 ∨ v = 6 := by omega
  rcases this with rfl | rfl | rfl | rfl | rfl | rfl | rfl
  · exact B_1_21_0 z0 z2 z3 ob ob' dr0
  · exact B_1_21_1 z0 z2 z3 ob ob' dr0
  · exact B_1_21_2 z0 z2 z3 ob ob' dr0
  · exact B_1_21_3 z0 z2 z3 ob ob' dr0
  · exact B_1_21_4 z0 z2 z3 ob ob' dr0
  · exact B_1_21_5 z0 z2 z3 ob ob' dr0
  · exact B_1_21_6 z0 z2 z3 ob ob' dr0
theorem C_1_22 (z0 z2 z3 : Sl) (ob : List (Option Node)) (dr0 dr : Gm) : isT (seg dr0 dr ⟨sl17 1 22 z0 z2 z3, ob⟩) = true := by kernel_rfl
theorem C_1_23 (z0 z2 z3 : Sl) (ob : List (Option Node)) (dr0 dr : Gm) : isT (seg dr0 dr ⟨sl17 1 23 z0 z2 z3, ob⟩) = true := by kernel_rfl
theorem C_1_24 (z0 z2 z3 : Sl) (ob : List (Option Node)) (dr0 dr : Gm) : isT (seg dr0 dr ⟨sl17 1 24 z0 z2 z3, ob⟩) = true := by kernel_rfl
theorem C_1_25 (z0 z2 z3 : Sl) (ob : List (Option Node)) (dr0 dr : Gm) : isT (seg dr0 dr ⟨sl17 1 25 z0 z2 z3, ob⟩) = true := by kernel_rfl
theorem C_1_26 (z0 z2 z3 : Sl) (ob : List (Option Node)) (dr0 dr : Gm) : isT (seg dr0 dr ⟨sl17 1 26 z0 z2 z3, ob⟩) = true := by kernel_rfl
theorem C_1_27 (z0 z2 z3 : Sl) (ob : List (Option Node)) (dr0 dr : Gm) : isT (seg dr0 dr ⟨sl17 1 27 z0 z2 z3, ob⟩) = true := by kernel_rfl
theorem A_1_28 (z0 z2 z3 : Sl) (ob : List (Option Node)) (dr dr0 : Gm) : seg dr0 dr ⟨sl17 1 28 z0 z2 z3, ob⟩ = seg dr0 (fun _ _ => dr [.o 1, .d (.int 7)] ob) ⟨sl17 1 28 z0 z2 z3, ob⟩ := by kernel_rfl
theorem B_1_28_0 (z0 z2 z3 : Sl) (ob ob' : List (Option Node)) (dr0 : Gm) : isT (seg dr0 (okD 0 ob') ⟨sl17 1 28 z0 z2 z3, ob⟩) = true := by kernel_rfl
theorem B_1_28_1 (z0 z2 z3 : Sl) (ob ob' : List (Option Node)) (dr0 : Gm) : isT (seg dr0 (okD 1 ob') ⟨sl17 1 28 z0 z2 z3, ob⟩) = true := by kernel_rfl
theorem B_1_28_2 (z0 z2 z3 : Sl) (ob ob' : List (Option Node)) (dr0 : Gm) : isT (seg dr0 (okD 2 ob') ⟨sl17 1 28 z0 z2 z3, ob⟩) = true := by kernel_rfl
theorem B_1_28_3 (z0 z2 z3 : Sl) (ob ob' : List (Option Node)) (dr0 : Gm) : isT (seg dr0 (okD 3 ob') ⟨sl17 1 28 z0 z2 z3, ob⟩) = true := by kernel_rfl
theorem B_1_28_4 (z0 z2 z3 : Sl) (ob ob' : List (Option Node)) (dr0 : Gm) : isT (seg dr0 (okD 4 ob') ⟨sl17 1 28 z0 z2 z3, ob⟩) = true := by kernel_rfl
theorem B_1_28_5 (z0 z2 z3 : Sl) (ob ob' : List (Option Node)) (dr0 : Gm) : isT (seg dr0 (okD 5 ob') ⟨sl17 1 28 z0 z2 z3, ob⟩) = true := by kernel_rfl
theorem B_1_28_6 (z0 z2 z3 : Sl) (ob ob' : List (Option Node)) (dr0 : Gm) : isT (seg dr0 (okD 6 ob') ⟨sl17 1 28 z0 z2 z3, ob⟩) = true := by kernel_rfl
theorem C_1_28 (z0 z2 z3 : Sl) (ob ob' : List (Option Node)) (dr dr0 : Gm) (v : Int) (h0 : 0 ≤ v) (h1 : v < 7) (h : dr [.o 1, .d (.int 7)] ob = some (.ok (.d (.int v)), ob')) : isT (seg dr0 dr ⟨sl17 1 28 z0 z2 z3, ob⟩) = true := by
  rw [A_1_28, h]
  have : v = 0 ∨ v = 1 ∨ v = 2 ∨ v = 3 ∨ v = 4 ∨ v = 5 ∨ v = 6 := by omega
  rcases this with rfl | rfl | rfl | rfl | rfl | rfl | rfl
  · exact B_1_28_0 z0 z2 z3 ob ob' dr0
  · exact B_1_28_1 z0 z2 z3 ob ob' dr0
  · exact B_1_28_2 z0 z2 z3 ob ob' dr0
  · exact B_1_28_3 z0 z2 z3 ob ob' dr0
  · exact B_1_28_4 z0 z2 z3 ob ob' dr0
  · exact B_1_28_5 z0 z2 z3 ob ob' dr0
  · exact B_1_28_6 z0 z2 z3 ob ob' dr0
theorem A_1_29 (z0 z2 z3 : Sl) (ob : List (Option Node)) (dr dr0 : Gm) : seg dr0 dr ⟨sl17 1 29 z0 z2 z3, ob⟩ = seg dr0 (fun _ _ => dr [.o 1, .d (.int 7)] ob) ⟨sl17 1 29 z0 z2 z3, ob⟩ := by kernel_rfl
theorem B_1_29_0 (z0 z2 z3 : Sl) (ob ob' : List (Option Node)) (dr0 : Gm) : isT (seg dr0 (okD 0 ob') ⟨sl17 1 29 z0 z2 z3, ob⟩) = true := by kernel_rfl
theorem B_1_29_1 (z0 z2 z3 : Sl) (ob ob' : List (Option Node)) (dr0 : Gm) : isT (seg dr0 (okD 1 ob') ⟨sl17 1 29 z0 z2 z3, ob⟩) = true := by kernel_rfl
theorem B_1_29_2 (z0 z2 z3 : Sl) (ob ob' : List (Option Node)) (dr0 : Gm) : isT (seg dr0 (okD 2 ob') ⟨sl17 1 29 z0 z2 z3, ob⟩) = true := by kernel_rfl
theorem B_1_29_3 (z0 z2 z3 : Sl) (ob ob' : List (Option Node)) (dr0 : Gm) : isT (seg dr0 (okD 3 ob') ⟨sl17 1 29 z0 z2 z3, ob⟩) = true := by kernel_rfl
theorem B_1_29_4 (z0 z2 z3 : Sl) (ob ob' : List (Option Node)) (dr0 : Gm) : isT (seg dr0 (okD 4 ob') ⟨sl17 1 29 z0 z2 z3, ob⟩) = true := by kernel_rfl
theorem B_1_29_5 (z0 z2 z3 : Sl) (ob ob' : List (Option Node)) (dr0 : Gm) : isT (seg dr0 (okD 5 ob') ⟨sl17 1 29 z0 z2 z3, ob⟩) = true := by kernel_rfl
theorem B_1_29_6 (z0 z2 z3 : Sl) (ob ob' : List (Option Node)) (dr0 : Gm) : isT (seg dr0 (okD 6 ob') ⟨sl17 1 29 z0 z2 z3, ob⟩) = true := by kernel_rfl
theorem C_1_29 (z0 z2 z3 : Sl) (ob ob' : List (Option Node)) (dr dr0 : Gm) (v : Int) (h0 : 0 ≤ v) (h1 : v < 7) (h : dr [.o 1, .d (.int 7)] ob = some (.ok (.d (.int v)), ob')) : isT (seg dr0 dr ⟨sl17 1 29 z0 z2 z3, ob⟩) = true := by
  rw [A_1_29, h]
  have : v = 0 ∨ v = 1 ∨ v = 2 ∨ v = 3 ∨ v = 4 ∨ v = 5 ∨ v = 6 := by omega
  rcases this with rfl | rfl | rfl | rfl | rfl | rfl | rfl
  · exact B_1_29_0 z0 z2 z3 ob ob' dr0
  · exact B_1_29_1 z0 z2 z3 ob ob' dr0
  · exact B_1_29_2 z0 z2 z3 ob ob' dr0
  · exact B_1_29_3 z0 z2 z3 ob ob' dr0
  · exact B_1_29_4 z0 z2 z3 ob ob' dr0
  · exact B_1_29_5 z0 z2 z3 ob ob' dr0
  · exact B_1_29_6 z0 z2 z3 ob ob' dr0
theorem A_2_0 (z0 z2 z3 : Sl) (ob : List (Option Node)) (dr dr0 : Gm) : seg dr dr0 ⟨sl17 2 0 z0 z2 z3, ob⟩ = seg (fun _ _ => dr [.o 1, .d (.int 2)] ob) dr0 ⟨sl17 2 0 z0 z2 z3, ob⟩ := by kernel_rfl
theorem B_2_0_0 (z0 z2 z3 : Sl) (ob ob' : List (Option Node)) (dr0 : Gm) : isT (seg (okD 0 ob') dr0 ⟨sl17 2 0 z0 z2 z3, ob⟩) = true := by kernel_rfl
theorem B_2_0_1 (z0 z2 z3 : Sl) (ob ob' : List (Option Node)) (dr0 : Gm) : isT (seg (okD 1 ob') dr0 ⟨sl17 2 0 z0 z2 z3, ob⟩) = true := by kernel_rfl
theorem C_2_0 (z0 z2 z3 : Sl) (ob ob' : List (Option Node)) (dr dr0 : Gm) (v : Int) (h0 : 0 ≤ v) (h1 : v < 2) (h : dr [.o 1, .d (.int 2)] ob = some (.ok (.d (.int v)), ob')) : isT (seg dr dr0 ⟨sl17 2 0 z0 z2 z3, ob⟩) = true := by
  rw [A_2_0, h]
  have : v = 0 ∨ v = 1 := by omega
  rcases this with rfl | rfl
  · exact B_2_0_0 z0 z2 z3 ob ob' dr0
  · exact B_2_0_1 z0 z2 z3 ob ob' dr0
theorem A_2_1 (z0 z2 z3 : Sl) (ob : List (Option Node)) (dr dr0 : Gm) : seg dr dr0 ⟨sl17 2 1 z0 z2 z3, ob⟩ = seg (fun _ _ => dr [.o 1, .d (.int 2)] ob) dr0 ⟨sl17 2 1 z0 z2 z3, ob⟩ := by kernel_rfl
theorem B_2_1_0 (z0 z2 z3 : Sl) (ob ob' : List (Option Node)) (dr0 : Gm) : isT (seg (okD 0 ob') dr0 ⟨sl17 2 1 z0 z2 z3, ob⟩) = true := by kernel_rfl
theorem B_2_1_1 (z0 z2 z3 : Sl) (ob ob' : List (Option Node)) (dr0 : Gm) : isT (seg (okD 1 ob') dr0 ⟨sl17 2 1 z0 z2 z3, ob⟩) = true := by kernel_rfl
theorem C_2_1 (z0 z2 z3 : Sl) (ob ob' : List (Option Node)) (dr dr0 : Gm) (v : Int) (h0 : 0 ≤ v) (h1 : v < 2) (h : dr [.o 1, .d (.int 2)] ob = some (.ok (.d (.int v)), ob')) : isT (seg dr dr0 ⟨sl17 2 1 z0 z2 z3, ob⟩) = true := by
  rw [A_2_1, h]
  have : v = 0 ∨ v = 1 := by omega
  rcases this with rfl | rfl
  · exact B_2_1_0 z0 z2 z3 ob ob' dr0
  · exact B_2_1_1 z0 z2 z3 ob ob' dr0
theorem A_2_2 (z0 z2 z3 : Sl) (ob : List (Option Node)) (dr dr0 : Gm) : seg dr dr0 ⟨sl17 2 2 z0 z2 z3, ob⟩ = seg (fun _ _ => dr [.o 1, .d (.int 2)] ob) dr0 ⟨sl17 2 2 z0 z2 z3, ob⟩ := by kernel_rfl
theorem B_2_2_0 (z0 z2 z3 : Sl) (ob ob' : List (Option Node)) (dr0 : Gm) : isT (seg (okD 0 ob') dr0 ⟨sl17 2 2 z0 z2 z3, ob⟩) = true := by kernel_rfl
theorem B_2_2_1 (z0 z2 z3 : Sl) (ob ob' : List (Option Node)) (dr0 : Gm) : isT (seg (okD 1 ob') dr0 ⟨sl17 2 2 z0 z2 z3, ob⟩) = true := by kernel_rfl
theorem C_2_2 (z0 z2 z3 : Sl) (ob ob' : List (Option Node)) (dr dr0 : Gm) (v : Int) (h0 : 0 ≤ v) (h1 : v < 2) (h : dr [.o 1, .d (.int 2)] ob = some (.ok (.d (.int v)), ob')) : isT (seg dr dr0 ⟨sl17 2 2 z0 z2 z3, ob⟩) = true := by
  rw [A_2_2, h]
  have : v = 0 ∨ v = 1 := by omega
  rcases this with rfl | rfl
  · exact B_2_2_0 z0 z2 z3 ob ob' dr0
  · exact B_2_2_1 z0 z2 z3 ob ob' dr0
theorem A_2_3 (z0 z2 z3 : Sl) (ob : List (Option Node)) (dr dr0 : Gm) : seg dr dr0 ⟨sl17 2 3 z0 z2 z3, ob⟩ = seg (fun _ _ => dr [.o 1, .d (.int 2)] ob) dr0 ⟨sl17 2 3 z0 z2 z3, ob⟩ := by kernel_rfl
theorem B_2_3_0 (z0 z2 z3 : Sl) (ob ob' : List (Option Node)) (dr0 : Gm) : isT (seg (okD 0 ob') dr0 ⟨sl17 2 3 z0 z2 z3, ob⟩) = true := by kernel_rfl
theorem B_2_3_1 (z0 z2 z3 : Sl) (ob ob' : List (Option Node)) (dr0 : Gm) : isT (seg (okD 1 ob') dr0 ⟨sl17 2 3 z0 z2 z3, ob⟩) = true := by kernel_rfl
theorem C_2_3 (z0 z2 z3 : Sl) (ob ob' : List (Option Node)) (dr dr0 : Gm) (v : Int) (h0 : 0 ≤ v) (h1 : v < 2) (h : dr [.o 1, .d (.int 2)] ob = some (.ok (.d (.int v)), ob')) : isT (seg dr dr0 ⟨sl17 2 3 z0 z2 z3, ob⟩) = true := by
  rw [A_2_3, h]
  have : v = 0 ∨ v = 1 := by omega
  rcases this with rfl | rfl
  · exact B_2_3_0 z0 z2 z3 ob ob' dr0
  · exact B_2_3_1 z0 z2 z3 ob ob' dr0
theorem A_2_4 (z0 z2 z3 : Sl) (ob : List (Option Node)) (dr dr0 : Gm) : seg dr dr0 ⟨sl17 2 4 z0 z2 z3, ob⟩ = seg (fun _ _ => dr [.o 1, .d (.int 2)] ob) dr0 ⟨sl17 2 4 z0 z2 z3, ob⟩ := by kernel_rfl
theorem B_2_4_0 (z0 z2 z3 : Sl) (ob ob' : List (Option Node)) (dr0 : Gm) : isT (seg (okD 0 ob') dr0 ⟨sl17 2 4 z0 z2 z3, ob⟩) = true := by kernel_rfl
theorem B_2_4_1 (z0 z2 z3 : Sl) (ob ob' : List (Option Node)) (dr0 : Gm) : isT (seg (okD 1 ob') dr0 ⟨sl17 2 4 z0 z2 z3, ob⟩) = true := by kernel_rfl
theorem C_2_4 (z0 z2 z3 : Sl) (ob ob' : List (Option Node)) (dr dr0 : Gm) (v : Int) (h0 : 0 ≤ v) (h1 : v < 2) (h : dr [.o 1, .d (.int 2)] ob = some (.ok (.d (.int v)), ob')) : isT (seg dr dr0 ⟨sl17 2 4 z0 z2 z3, ob⟩) = true := by
  rw [A_2_4, h]
  have : v = 0 ∨ v = 1 := by omega
  rcases this with rfl | rfl
  · exact B_2_4_0 z0 z2 z3 ob ob' dr0
  · exact B_2_4_1 z0 z2 z3 ob ob' dr0
theorem A_2_5 (z0 z2 z3 : Sl) (ob : List (Option Node)) (dr dr0 : Gm) : seg dr dr0 ⟨sl17 2 5 z0 z2 z3, ob⟩ = seg (fun _ _ => dr [.o 1, .d (.int 2)] ob) dr0 ⟨sl17 2 5 z0 z2 z3, ob⟩ := by kernel_rfl
theorem B_2_5_0 (z0 z2 z3 : Sl) (ob ob' : List (Option Node)) (dr0 : Gm) : isT (seg (okD 0 ob') dr0 ⟨sl17 2 5 z0 z2 z3, ob⟩) = true := by kernel_rfl
theorem B_2_5_1 (z0 z2 z3 : Sl) (ob ob' : List (Option Node)) (dr0 : Gm) : isT (seg (okD 1 ob') dr0 ⟨sl17 2 5 z0 z2 z3, ob⟩) = true := by kernel_rfl
theorem C_2_5 (z0 z2 z3 : Sl) (ob ob' : List (Option Node)) (dr dr0 : Gm) (v : Int) (h0 : 0 ≤ v) (h1 : v < 2) (h : dr [.o 1, .d (.int 2)] ob = some (.ok (.d (.int v)), ob')) : isT (seg dr dr0 ⟨sl17 2 5 z0 z2 z3, ob⟩) = true := by
  rw [A_2_5, h]
  have : v = 0 ∨ v = 1 := by omega
  rcases this with rfl | rfl
  · exact B_2_5_0 z0 z2 z3 ob ob' dr0
  · exact B_2_5_1 z0 z2 z3 ob ob' dr0
theorem A_2_6 (z0 z2 z3 : Sl) (ob : List (Option Node)) (dr dr0 : Gm) : seg dr dr0 ⟨sl17 2 6 z0 z2 z3, ob⟩ = seg (fun _ _ => dr [.o 1, .d (.int 2)] ob) dr0 ⟨sl17 2 6 z0 z2 z3, ob⟩ := by kernel_rfl
theorem B_2_6_0 (z0 z2 z3 : Sl) (ob ob' : List (Option Node)) (dr0 : Gm) : isT (seg (okD 0 ob') dr0 ⟨sl17 2 6 z0 z2 z3, ob⟩) = true := by kernel_rfl
theorem B_2_6_1 (z0 z2 z3 : Sl) (ob ob' : List (Option Node)) (dr0 : Gm) : isT (seg (okD 1 ob') dr0 ⟨sl17 2 6 z0 z2 z3, ob⟩) = true := by kernel_rfl
theorem C_2_6 (z0 z2 z3 : Sl) (ob ob' : List (Option Node)) (dr dr0 : Gm) (v : Int) (h0 : 0 ≤ v) (h1 : v < 2) (h : dr [.o 1, .d (.int 2)] ob = some (.ok (.d (.int v)), ob')) : isT (seg dr dr0 ⟨sl17 2 6 z0 z2 z3, ob⟩) = true := by
  rw [A_2_6, h]
  have : v = 0 ∨ v = 1 := by omega
  rcases this with rfl | rfl
  · exact B_2_6_0 z0 z2 z3 ob ob' dr0
  · exact B_2_6_1 z0 z2 z3 ob ob' dr0
theorem A_2_7 (z0 z2 z3 : Sl) (ob : List (Option Node)) (dr dr0 : Gm) : seg dr dr0 ⟨sl17 2 7 z0 z2 z3, ob⟩ = seg (fun _ _ => dr [.o 1, .d (.int 2)] ob) dr0 ⟨sl17 2 7 z0 z2 z3, ob⟩ := by kernel_rfl
theorem B_2_7_0 (z0 z2 z3 : Sl) (ob ob' : List (Option Node)) (dr0 : Gm) : isT (seg (okD 0 ob') dr0 ⟨sl17 2 7 z0 z2 z3, ob⟩) = true := by kernel_rfl
theorem B_2_7_1 (z0 z2 z3 : Sl) (ob ob' : List (Option Node)) (dr0 : Gm) : isT (seg (okD 1 ob') dr0 ⟨sl17 2 7 z0 z2 z3, ob⟩) = true := by kernel_rfl
theorem C_2_7 (z0 z2 z3 : Sl) (ob ob' : List (Option Node)) (dr dr0 : Gm) (v : Int) (h0 : 0 ≤ v) (h1 : v < 2) (h : dr [.o 1, .d (.int 2)] ob = some (.ok (.d (.int v)), ob')) : isT (seg dr dr0 ⟨sl17 2 7 z0 z2 z3, ob⟩) = true := by
  rw [A_2_7, h]
  have : v = 0 ∨ v = 1 := by omega
  rcases this with rfl | rfl
  · exact B_2_7_0 z0 z2 z3 ob ob' dr0
  · exact B_2_7_1 z0 z2 z3 ob ob' dr0
theorem A_2_8 (z0 z2 z3 : Sl) (ob : List (Option Node)) (dr dr0 : Gm) : seg dr dr0 ⟨sl17 2 8 z0 z2 z3, ob⟩ = seg (fun _ _ => dr [.o 1, .d (.int 2)] ob) dr0 ⟨sl17 2 8 z0 z2 z3, ob⟩ := by kernel_rfl
theorem B_2_8_0 (z0 z2 z3 : Sl) (ob ob' : List (Option Node)) (dr0 : Gm) : isT (seg (okD 0 ob') dr0 ⟨sl17 2 8 z0 z2 z3, ob⟩) = true := by kernel_rfl
theorem B_2_8_1 (z0 z2 z3 : Sl) (ob ob' : List (Option Node)) (dr0 : Gm) : isT (seg (okD 1 ob') dr0 ⟨sl17 2 8 z0 z2 z3, ob⟩) = true := by kernel_rfl
theorem C_2_8 (z0 z2 z3 : Sl) (ob ob' : List (Option Node)) (dr dr0 : Gm) (v : Int) (h0 : 0 ≤ v) (h1 : v < 2) (h : dr [.o 1, .d (.int 2)] ob = some (.ok (.d (.int v)), ob')) : isT (seg dr dr0 ⟨sl17 2 8 z0 z2 z3, ob⟩) = true := by
  rw [A_2_8, h]
  have : v = 0 ∨ v = 1 := by omega
  rcases this with rfl | rfl
  · exact B_2_8_0 z0 z2 z3 ob ob' dr0
  · exact B_2_8_1 z0 z2 z3 ob ob' dr0
theorem A_2_9 (z0 z2 z3 : Sl) (ob : List (Option Node)) (dr dr0 : Gm) : seg dr dr0 ⟨sl17 2 9 z0 z2 z3, ob⟩ = seg (fun _ _ => dr [.o 1, .d (.int 2)] ob) dr0 ⟨sl17 2 9 z0 z2 z3, ob⟩ := by kernel_rfl
theorem B_2_9_0 (z0 z2 z3 : Sl) (ob ob' : List (Option Node)) (dr0 : Gm) : isT (seg (okD 0 ob') dr0 ⟨sl17 2 9 z0 z2 z3, ob⟩) = true := by kernel_rfl
theorem B_2_9_1 (z0 z2 z3 : Sl) (ob ob' : List (Option Node)) (dr0 : Gm) : isT (seg (okD 1 ob') dr0 ⟨sl17 2 9 z0 z2 z3, ob⟩) = true := by kernel_rfl
theorem C_2_9 (z0 z2 z3 : Sl) (ob ob' : List (Option Node)) (dr dr0 : Gm) (v : Int) (h0 : 0 ≤ v) (h1 : v < 2) (h : dr [.o 1, .d (.int 2)] ob = some (.ok (.d (.int v)), ob')) : isT (seg dr dr0 ⟨sl17 2 9 z0 z2 z3, ob⟩) = true := by
  rw [A_2_9, h]
  have : v = 0 ∨ v = 1 := by omega
  rcases this with rfl | rfl
  · exact B_2_9_0 z0 z2 z3 ob ob' dr0
  · exact B_2_9_1 z0 z2 z3 ob ob' dr0
theorem A_2_10 (z0 z2 z3 : Sl) (ob : List (Option Node)) (dr dr0 : Gm) : seg dr dr0 ⟨sl17 2 10 z0 z2 z3, ob⟩ = seg (fun _ _ => dr [.o 1, .d (.int 2)] ob) dr0 ⟨sl17 2 10 z0 z2 z3, ob⟩ := by kernel_rfl
theorem B_2_10_0 (z0 z2 z3 : Sl) (ob ob' : List (Option Node)) (dr0 : Gm) : isT (seg (okD 0 ob') dr0 ⟨sl17 2 10 z0 z2 z3, ob⟩) = true := by kernel_rfl
theorem B_2_10_1 (z0 z2 z3 : Sl) (ob ob' : List (Option Node)) (dr0 : Gm) : isT (seg (okD 1 ob') dr0 ⟨sl17 2 10 z0 z2 z3, ob⟩) = true := by kernel_rfl
theorem C_2_10 (z0 z2 z3 : Sl) (ob ob' : List (Option Node)) (dr dr0 : Gm) (v : Int) (h0 : 0 ≤ v) (h1 : v < 2) (h : dr [.o 1, .d (.int 2)] ob = some (.ok (.d (.int v)), ob')) : isT (seg dr dr0 ⟨sl17 2 10 z0 z2 z3, ob⟩) = true := by
  rw [A_2_10, h]
  have : v = 0 ∨ v = 1 := by omega
  rcases this with rfl | rfl
  · exact B_2_10_0 z0 z2 z3 ob ob' dr0
  · exact B_2_10_1 z0 z2 z3 ob ob' dr0
theorem A_2_11 (z0 z2 z3 : Sl) (ob : List (Option Node)) (dr dr0 : Gm) : seg dr dr0 ⟨sl17 2 11 z0 z2 z3, ob⟩ = seg (fun _ _ => dr [.o 1, .d (.int 2)] ob) dr0 ⟨sl17 2 11 z0 z2 z3, ob⟩ := by kernel_rfl
theorem B_2_11_0 (z0 z2 z3 : Sl) (ob ob' : List (Option Node)) (dr0 : Gm) : isT (seg (okD 0 ob') dr0 ⟨sl17 2 11 z0 z2 z3, ob⟩) = true := by kernel_rfl
theorem B_2_11_1 (z0 z2 z3 : Sl) (ob ob' : List (Option Node)) (dr0 : Gm) : isT (seg (okD 1 ob') dr0 ⟨sl17 2 11 z0 z2 z3, ob⟩) = true := by kernel_rfl
theorem C_2_11 (z0 z2 z3 : Sl) (ob ob' : List (Option Node)) (dr dr0 : Gm) (v : Int) (h0 : 0 ≤ v) (h1 : v < 2) (h : dr [.o 1, .d (.int 2)] ob = some (.ok (.d (.int v)), ob')) : isT (seg dr dr0 ⟨sl17 2 11 z0 z2 z3, ob⟩) = true := by
  rw [A_2_11, h]
  have : v = 0 ∨ v = 1 := by omega
  rcases this with rfl | rfl
  · exact B_2_11_0 z0 z2 z3 ob ob' dr0
  · exact B_2_11_1 z0 z2 z3 ob ob' dr0
theorem A_2_12 (z0 z2 z3 : Sl) (ob : List (Option Node)) (dr dr0 : Gm) : seg dr dr0 ⟨sl17 2 12 z0 z2 z3, ob⟩ = seg (fun _ _ => dr [.o 1, .d (.int 2)] ob) dr0 ⟨sl17 2 12 z0 z2 z3, ob⟩ := by kernel_rfl
theorem B_2_12_0 (z0 z2 z3 : Sl) (ob ob' : List (Option Node)) (dr0 : Gm) : isT (seg (okD 0 ob') dr0 ⟨sl17 2 12 z0 z2 z3, ob⟩) = true := by kernel_rfl
theorem B_2_12_1 (z0 z2 z3 : Sl) (ob ob' : List (Option Node)) (dr0 : Gm) : isT (seg (okD 1 ob') dr0 ⟨sl17 2 12 z0 z2 z3, ob⟩) = true := by kernel_rfl
theorem C_2_12 (z0 z2 z3 : Sl) (ob ob' : List (Option Node)) (dr dr0 : Gm) (v : Int) (h0 : 0 ≤ v) (h1 : v < 2) (h : dr [.o 1, .d (.int 2)] ob = some (.ok (.d (.int v)), ob')) : isT (seg dr dr0 ⟨sl17 2 12 z0 z2 z3, ob⟩) = true := by
  rw [A_2_12, h]
  have : v = 0 ∨ v = 1 := by omega
  rcases this with rfl | rfl
  · exact B_2_12_0 z0 z2 z3 ob ob' dr0
  · exact B_2_12_1 z0 z2 z3 ob ob' dr0
theorem A_2_13 (z0 z2 z3 : Sl) (ob : List (Option Node)) (dr dr0 : Gm) : seg dr dr0 ⟨sl17 2 13 z0 z2 z3, ob⟩ = seg (fun _ _ => dr [.o 1, .d (.int 2)] ob) dr0 ⟨sl17 2 13 z0 z2 z3, ob⟩ := by kernel_rfl
theorem B_2_13_0 (z0 z2 z3 : Sl) (ob ob' : List (Option Node)) (dr0 : Gm) : isT (seg (okD 0 ob') dr0 ⟨sl17 2 13 z0 z2 z3, ob⟩) = true := by kernel_rfl
theorem B_2_13_1 (z0 z2 z3 : Sl) (ob ob' : List (Option Node)) (dr0 : Gm) : isT (seg (okD 1 ob') dr0 ⟨sl17 2 13 z0 z2 z3, ob⟩) = true := by kernel_rfl
theorem C_2_13 (z0 z2 z3 : Sl) (ob ob' : List (Option Node)) (dr dr0 : Gm) (v : Int) (h0 : 0 ≤ v) (h1 : v < 2) (h : dr [.o 1, .d (.int 2)] ob = some (.ok (.d (.int v)), ob')) : isT (seg dr dr0 ⟨sl17 2 13 z0 z2 z3, ob⟩) = true := by
  rw [A_2_13, h]
  have : v = 0 ∨ v = 1 := by omega
  rcases this with rfl | rfl
  · exact B_2_13_0 z0 z2 z3 ob ob' dr0
  · exact B_2_13_1 z0 z2 z3 ob ob' dr0
theorem A_2_14 (z0 z2 z3 : Sl) (ob : List (Option Node)) (dr dr0 : Gm) : seg dr dr0 ⟨sl17 2 14 z0 z2 z3, ob⟩ = seg (fun _ _ => dr [.o 1, .d (.int 2)] ob) dr0 ⟨sl17 2 14 z0 z2 z3, ob⟩ := by kernel_rfl
theorem B_2_14_0 (z0 z2 z3 : Sl) (ob ob' : List (Option Node)) (dr0 : Gm) : isT (seg (okD 0 ob') dr0 ⟨sl17 2 14 z0 z2 z3, ob⟩) = true := by kernel_rfl
theorem B_2_14_1 (z0 z2 z3 : Sl) (ob ob' : List (Option Node)) (dr0 : Gm) : isT (seg (okD 1 ob') dr0 ⟨sl17 2 14 z0 z2 z3, ob⟩) = true := by kernel_rfl
theorem C_2_14 (z0 z2 z3 : Sl) (ob ob' : List (Option Node)) (dr dr0 : Gm) (v : Int) (h0 : 0 ≤ v) (h1 : v < 2) (h : dr [.o 1, .d (.int 2)] ob = some (.ok (.d (.int v)), ob')) : isT (seg dr dr0 ⟨sl17 2 14 z0 z2 z3, ob⟩) = true := by
  rw [A_2_14, h]
  have : v = 0 ∨ v = 1 := by omega
  rcases this with rfl | rfl
  · exact B_2_14_0 z0 z2 z3 ob ob' dr0
  · exact B_2_14_1 z0 z2 z3 ob ob' dr0
theorem A_2_15 (z0 z2 z3 : Sl) (ob : List (Option Node)) (dr dr0 : Gm) : seg dr dr0 ⟨sl17 2 15 z0 z2 z3, ob⟩ = seg (fun _ _ => dr [.o 1, .d (.int 2)] ob) dr0 ⟨sl17 2 15 z0 z2 z3, ob⟩ := by kernel_rfl
theorem B_2_15_0 (z0 z2 z3 : Sl) (ob ob' : List (Option Node)) (dr0 : Gm) : isT (seg (okD 0 ob') dr0 ⟨sl17 2 15 z0 z2 z3, ob⟩) = true := by kernel_rfl
theorem B_2_15_1 (z0 z2 z3 : Sl) (ob ob' : List (Option Node)) (dr0 : Gm) : isT (seg (okD 1 ob') dr0 ⟨sl17 2 15 z0 z2 z3, ob⟩) = true := by kernel_rfl
theorem C_2_15 (z0 z2 z3 : Sl) (ob ob' : List (Option Node)) (dr dr0 : Gm) (v : Int) (h0 : 0 ≤ v) (h1 : v < 2) (h : dr [.o 1, .d (.int 2)] ob = some (.ok (.d (.int v)), ob')) : isT (seg dr dr0 ⟨sl17 2 15 z0 z2 z3, ob⟩) = true := by
  rw [A_2_15, h]
  have : v = 0 ∨ v = 1 := by omega
  rcases this with rfl | rfl
  · exact B_2_15_0 z0 z2 z3 ob ob' dr0
  · exact B_2_15_1 z0 z2 z3 ob ob' dr0
theorem A_2_16 (z0 z2 z3 : Sl) (ob : List (Option Node)) (dr dr0 : Gm) : seg dr dr0 ⟨sl17 2 16 z0 z2 z3, ob⟩ = seg (fun _ _ => dr [.o 1, .d (.int 2)] ob) dr0 ⟨sl17 2 16 z0 z2 z3, ob⟩ := by kernel_rfl
theorem B_2_16_0 (z0 z2 z3 : Sl) (ob ob' : List (Option Node)) (dr0 : Gm) : isT (seg (okD 0 ob') dr0 ⟨sl17 2 16 z0 z2 z3, ob⟩) = true := by kernel_rfl
theorem B_2_16_1 (z0 z2 z3 : Sl) (ob ob' : List (Option Node)) (dr0 : Gm) : isT (seg (okD 1 ob') dr0 ⟨sl17 2 16 z0 z2 z3, ob⟩) = true := by kernel_rfl
theorem C_2_16 (z0 z2 z3 : Sl) (ob ob' : List (Option Node)) (dr dr0 : Gm) (v : Int) (h0 : 0 ≤ v) (h1 : v < 2) (h : dr [.o 1, .d (.int 2)] ob = some (.ok (.d (.int v)), ob')) : isT (seg dr dr0 ⟨sl17 2 16 z0 z2 z3, ob⟩) = true := by
  rw [A_2_16, h]
  have : v = 0 ∨ v = 1 := by omega
  rcases this with rfl | rfl
  · exact B_2_16_0 z0 z2 z3 ob ob' dr0
  · exact B_2_16_1 z0 z2 z3 ob ob' dr0
theorem A_2_17 (z0 z2 z3 : Sl) (ob : List (Option Node)) (dr dr0 : Gm) : seg dr dr0 ⟨sl17 2 17 z0 z2 z3, ob⟩ = seg (fun _ _ => dr [.o 1, .d (.int 2)] ob) dr0 ⟨sl17 2 17 z0 z2 z3, ob⟩ := by kernel_rfl
theorem B_2_17_0 (z0 z2 z3 : Sl) (ob ob' : List (Option Node)) (dr0 : Gm) : isT (seg (okD 0 ob') dr0 ⟨sl17 2 17 z0 z2 z3, ob⟩) = true := by kernel_rfl
theorem B_2_17_1 (z0 z2 z3 : Sl) (ob ob' : List (Option Node)) (dr0 : Gm) : isT (seg (okD 1 ob') dr0 ⟨sl17 2 17 z0 z2 z3, ob⟩) = true := by kernel_rfl
theorem C_2_17 (z0 z2 z3 : Sl) (ob ob' : List (Option Node)) (dr dr0 : Gm) (v : Int) (h0 : 0 ≤ v) (h1 : v < 2) (h : dr [.o 1, .d (.int 2)] ob = some (.ok (.d (.int v)), ob')) : isT (seg dr dr0 ⟨sl17 2 17 z0 z2 z3, ob⟩) = true := by
  rw [A_2_17, h]
  have : v = 0 ∨ v = 1 := by omega
  rcases this with rfl | rfl
  · exact B_2_17_0 z0 z2 z3 ob ob' dr0
  · exact B_2_17_1 z0 z2 z3 ob ob' dr0
theorem A_2_18 (z0 z2 z3 : Sl) (ob : List (Option Node)) (dr dr0 : Gm) : seg dr dr0 ⟨sl17 2 18 z0 z2 z3, ob⟩ = seg (fun _ _ => dr [.o 1, .d (.int 2)] ob) dr0 ⟨sl17 2 18 z0 z2 z3, ob⟩ := by kernel_rfl
theorem B_2_18_0 (z0 z2 z3 : Sl) (ob ob' : List (Option Node)) (dr0 : Gm) : isT (seg (okD 0 ob') dr0 ⟨sl17 2 18 z0 z2 z3, ob⟩) = true := by kernel_rfl
theorem B_2_18_1 (z0 z2 z3 : Sl) (ob ob' : List (Option Node)) (dr0 : Gm) : isT (seg (okD 1 ob') dr0 ⟨sl17 2 18 z0 z2 z3, ob⟩) = true := by kernel_rfl
theorem C_2_18 (z0 z2 z3 : Sl) (ob ob' : List (Option Node)) (dr dr0 : Gm) (v : Int) (h0 : 0 ≤ v) (h1 : v < 2) (h : dr [.o 1, .d (.int 2)] ob = some (.ok (.d (.int v)), ob')) : isT (seg dr dr0 ⟨sl17 2 18 z0 z2 z3, ob⟩) = true := by
  rw [A_2_18, h]
  have : v = 0 ∨ v = 1 := by omega
  rcases this with rfl | rfl
  · exact B_2_18_0 z0 z2 z3 ob ob' dr0
  · exact B_2_18_1 z0 z2 z3 ob ob' dr0
theorem A_2_19 (z0 z2 z3 : Sl) (ob : List (Option Node)) (dr dr0 : Gm) : seg dr dr0 ⟨sl17 2 19 z0 z2 z3, ob⟩ = seg (fun _ _ => dr [.o 1, .d (.int 2)] ob) dr0 ⟨sl17 2 19 z0 z2 z3, ob⟩ := by kernel_rfl
theorem B_2_19_0 (z0 z2 z3 : Sl) (ob ob' : List (Option Node)) (dr0 : Gm) : isT (seg (okD 0 ob') dr0 ⟨sl17 2 19 z0 z2 z3, ob⟩) = true := by kernel_rfl
theorem B_2_19_1 (z0 z2 z3 : Sl) (ob ob' : List (Option Node)) (dr0 : Gm) : isT (seg (okD 1 ob') dr0 ⟨sl17 2 19 z0 z2 z3, ob⟩) = true := by kernel_rfl
theorem C_2_19 (z0 z2 z3 : Sl) (ob ob' : List (Option Node)) (dr dr0 : Gm) (v : Int) (h0 : 0 ≤ v) (h1 : v < 2) (h : dr [.o 1, .d (.int 2)] ob = some (.ok (.d (.int v)), ob')) : isT (seg dr dr0 ⟨sl17 2 19 z0 z2 z3, ob⟩) = true := by
  rw [A_2_19, h]
  have : v = 0 ∨ v = 1 := by omega
  rcases this with rfl | rfl
  · exact B_2_19_0 z0 z2 z3 ob ob' dr0
  · exact B_2_19_1 z0 z2 z3 ob ob' dr0
theorem L17_0 (z0 z2 z3 : Sl) (ob : List (Option Node)) (dr : Gm) : m_law_s17' dr ⟨sl16 0 z0 z2 z3, ob⟩ = m_law_s17' (fun _ _ => dr [.o 1, .d (.int 15)] ob) ⟨sl16 0 z0 z2 z3, ob⟩ := by kernel_rfl
theorem S_0_0 (z0 z2 z3 : Sl) (ob ob' : List (Option Node)) : m_law_s17' (okD 0 ob') ⟨sl16 0 z0 z2 z3, ob⟩ = some (.nx ⟨sl17 0 0 z0 z2 z3, ob'⟩) := by kernel_rfl
theorem S_0_1 (z0 z2 z3 : Sl) (ob ob' : List (Option Node)) : m_law_s17' (okD 1 ob') ⟨sl16 0 z0 z2 z3, ob⟩ = some (.nx ⟨sl17 0 1 z0 z2 z3, ob'⟩) := by kernel_rfl
theorem S_0_2 (z0 z2 z3 : Sl) (ob ob' : List (Option Node)) : m_law_s17' (okD 2 ob') ⟨sl16 0 z0 z2 z3, ob⟩ = some (.nx ⟨sl17 0 2 z0 z2 z3, ob'⟩) := by kernel_rfl
theorem S_0_3 (z0 z2 z3 : Sl) (ob ob' : List (Option Node)) : m_law_s17' (okD 3 ob') ⟨sl16 0 z0 z2 z3, ob⟩ = some (.nx ⟨sl17 0 3 z0 z2 z3, ob'⟩) := by kernel_rfl
theorem S_0_4 (z0 z2 z3 : Sl) (ob ob' : List (Option Node)) : m_law_s17' (okD 4 ob') ⟨sl16 0 z0 z2 z3, ob⟩ = some (.nx ⟨sl17 0 4 z0 z2 z3, ob'⟩) := by kernel_rfl
theorem S_0_5 (z0 z2 z3 : Sl) (ob ob' : List (Option Node)) : m_law_s17' (okD 5 ob') ⟨sl16 0 z0 z2 z3, ob⟩ = some (.nx ⟨sl17 0 5 z0 z2 z3, ob'⟩) := by kernel_rfl
theorem S_0_6 (z0 z2 z3 : Sl) (ob ob' : List (Option Node)) : m_law_s17' (okD 6 ob') ⟨sl16 0 z0 z2 z3, ob⟩ = some (.nx ⟨sl17 0 6 z0 z2 z3, ob'⟩) := by kernel_rfl
theorem S_0_7 (z0 z2 z3 : Sl) (ob ob' : List (Option Node)) : m_law_s17' (okD 7 ob') ⟨sl16 0 z0 z2 z3, ob⟩ = some (.nx ⟨sl17 0 7 z0 z2 z3, ob'⟩) := by kernel_rfl
theorem S_0_8 (z0 z2 z3 : Sl) (ob ob' : List (Option Node)) : m_law_s17' (okD 8 ob') ⟨sl16 0 z0 z2 z3, ob⟩ = some (.nx ⟨sl17 0 8 z0 z2 z3, ob'⟩) := by kernel_rfl
theorem S_0_9 (z0 z2 z3 : Sl) (ob ob' : List (Option Node)) : m_law_s17' (okD 9 ob') ⟨sl16 0 z0 z2 z3, ob⟩ = some (.nx ⟨sl17 0 9 z0 z2 z3, ob'⟩) := by kernel_rfl
theorem S_0_10 (z0 z2 z3 : Sl) (ob ob' : List (Option Node)) : m_law_s17' (okD 10 ob') ⟨sl16 0 z0 z2 z3, ob⟩ = some (.nx ⟨sl17 0 10 z0 z2 z3, ob'⟩) := by kernel_rfl
theorem S_0_11 (z0 z2 z3 : Sl) (ob ob' : List (Option Node)) : m_law_s17' (okD 11 ob') ⟨sl16 0 z0 z2 z3, ob⟩ = some (.nx ⟨sl17 0 11 z0 z2 z3, ob'⟩) := by kernel_rfl
theorem S_0_12 (z0 z2 z3 : Sl) (ob ob' : List (Option Node)) : m_law_s17' (okD 12 ob') ⟨sl16 0 z0 z2 z3, ob⟩ = some (.nx ⟨sl17 0 12 z0 z2 z3, ob'⟩) := by kernel_rfl
theorem S_0_13 (z0 z2 z3 : Sl) (ob ob' : List (Option Node)) : m_law_s17' (okD 13 ob') ⟨sl16 0 z0 z2 z3, ob⟩ = some (.nx ⟨sl17 0 13 z0 z2 z3, ob'⟩) := by kernel_rfl
theorem S_0_14 (z0 z2 z3 : Sl) (ob ob' : List (Option Node)) : m_law_s17' (okD 14 ob') ⟨sl16 0 z0 z2 z3, ob⟩ = some (.nx ⟨sl17 0 14 z0 z2 z3, ob'⟩) := by kernel_rfl
theorem L17_1 (z0 z2 z3 : Sl) (ob : List (Option Node)) (dr : Gm) : m_law_s17' dr ⟨sl16 1 z0 z2 z3, ob⟩ = m_law_s17' (fun _ _ => dr [.o 1, .d (.int 30)] ob) ⟨sl16 1 z0 z2 z3, ob⟩ := by kernel_rfl
theorem S_1_0 (z0 z2 z3 : Sl) (ob ob' : List (Option Node)) : m_law_s17' (okD 0 ob') ⟨sl16 1 z0 z2 z3, ob⟩ = some (.nx ⟨sl17 1 0 z0 z2 z3, ob'⟩) := by kernel_rfl
theorem S_1_1 (z0 z2 z3 : Sl) (ob ob' : List (Option Node)) : m_law_s17' (okD 1 ob') ⟨sl16 1 z0 z2 z3, ob⟩ = some (.nx ⟨sl17 1 1 z0 z2 z3, ob'⟩) := by kernel_rfl
theorem S_1_2 (z0 z2 z3 : Sl) (ob ob' : List (Option Node)) : m_law_s17' (okD 2 ob') ⟨sl16 1 z0 z2 z3, ob⟩ = some (.nx ⟨sl17 1 2 z0 z2 z3, ob'⟩) := by kernel_rfl
theorem S_1_3 (z0 z2 z3 : Sl) (ob ob' : List (Option Node)) : m_law_s17' (okD 3 ob') ⟨sl16 1 z0 z2 z3, ob⟩ = some (.nx ⟨sl17 1 3 z0 z2 z3, ob'⟩) := by kernel_rfl
theorem S_1_4 (z0 z2 z3 : Sl) (ob ob' : List (Option Node)) : m_law_s17' (okD 4 ob') ⟨sl16 1 z0 z2 z3, ob⟩ = some (.nx ⟨sl17 1 4 z0 z2 z3, ob'⟩) := by kernel_rfl
theorem S_1_5 (z0 z2 z3 : Sl) (ob ob' : List (Option Node)) : m_law_s17' (okD 5 ob') ⟨sl16 1 z0 z2 z3, ob⟩ = some (.nx ⟨sl17 1 5 z0 z2 z3, ob'⟩) := by kernel_rfl
theorem S_1_6 (z0 z2 z3 : Sl) (ob ob' : List (Option Node)) : m_law_s17' (okD 6 ob') ⟨sl16 1 z0 z2 z3, ob⟩ = some (.nx ⟨sl17 1 6 z0 z2 z3, ob'⟩) := by kernel_rfl
theorem S_1_7 (z0 z2 z3 : Sl) (ob ob' : List (Option Node)) : m_law_s17' (okD 7 ob') ⟨sl16 1 z0 z2 z3, ob⟩ = some (.nx ⟨sl17 1 7 z0 z2 z3, ob'⟩) := by kernel_rfl
theorem S_1_8 (z0 z2 z3 : Sl) (ob ob' : List (Option Node)) : m_law_s17' (okD 8 ob') ⟨sl16 1 z0 z2 z3, ob⟩ = some (.nx ⟨sl17 1 8 z0 z2 z3, ob'⟩) := by kernel_rfl
theorem S_1_9 (z0 z2 z3 : Sl) (ob ob' : List (Option Node)) : m_law_s17' (okD 9 ob') ⟨sl16 1 z0 z2 z3, ob⟩ = some (.nx ⟨sl17 1 9 z0 z2 z3, ob'⟩) := by kernel_rfl
theorem S_1_10 (z0 z2 z3 : Sl) (ob ob' : List (Option Node)) : m_law_s17' (okD 10 ob') ⟨sl16 1 z0 z2 z3, ob⟩ = some (.nx ⟨sl17 1 10 z0 z2 z3, ob'⟩) := by kernel_rfl
theorem S_1_11 (z0 z2 z3 : Sl) (ob ob' : List (Option Node)) : m_law_s17' (okD 11 ob') ⟨sl16 1 z0 z2 z3, ob⟩ = some (.nx ⟨sl17 1 11 z0 z2 z3, ob'⟩) := by kernel_rfl
theorem S_1_12 (z0 z2 z3 : Sl) (ob ob' : List (Option Node)) : m_law_s17' (okD 12 ob') ⟨sl16 1 z0 z2 z3, ob⟩ = some (.nx ⟨sl17 1 12 z0 z2 z3, ob'⟩) := by kernel_rfl
theorem S_1_13 (z0 z2 z3 : Sl) (ob ob' : List (Option Node)) : m_law_s17' (okD 13 ob') ⟨sl16 1 z0 z2 z3, ob⟩ = some (.nx ⟨sl17 1 13 z0 z2 z3, ob'⟩) := by kernel_rfl
theorem S_1_14 (z0 z2 z3 : Sl) (ob ob' : List (Option Node)) : m_law_s17' (okD 14 ob') ⟨sl16 1 z0 z2 z3, ob⟩ = some (.nx ⟨sl17 1 14 z0 z2 z3, ob'⟩) := by kernel_rfl
theorem S_1_15 (z0 z2 z3 : Sl) (ob ob' : List (Option Node)) : m_law_s17' (okD 15 ob') ⟨sl16 1 z0 z2 z3, ob⟩ = some (.nx ⟨sl17 1 15 z0 z2 z3, ob'⟩) := by kernel_rfl
theorem S_1_16 (z0 z2 z3 : Sl) (ob ob' : List (Option Node)) : m_law_s17' (okD 16 ob') ⟨sl16 1 z0 z2 z3, ob⟩ = some (.nx ⟨sl17 1 16 z0 z2 z3, ob'⟩) := by kernel_rfl
theorem S_1_17 (z0 z2 z3 : Sl) (ob ob' : List (Option Node)) : m_law_s17' (okD 17 ob') ⟨sl16 1 z0 z2 z3, ob⟩ = some (.nx ⟨sl17 1 17 z0 z2 z3, ob'⟩) := by kernel_rfl
theorem S_1_18 (z0 z2 z3 : Sl) (ob ob' : List (Option Node)) : m_law_s17' (okD 18 ob') ⟨sl16 1 z0 z2 z3, ob⟩ = some (.nx ⟨sl17 1 18 z0 z2 z3, ob'⟩) := by kernel_rfl
theorem S_1_19 (z0 z2 z3 : Sl) (ob ob' : List (Option Node)) : m_law_s17' (okD 19 ob') ⟨sl16 1 z0 z2 z3, ob⟩ = some (.nx ⟨sl17 1 19 z0 z2 z3, ob'⟩) := by kernel_rfl
theorem S_1_20 (z0 z2 z3 : Sl) (ob ob' : List (Option Node)) : m_law_s17' (okD 20 ob') ⟨sl16 1 z0 z2 z3, ob⟩ = some (.nx ⟨sl17 1 20 z0 z2 z3, ob'⟩) := by kernel_rfl
theorem S_1_21 (z0 z2 z3 : Sl) (ob ob' : List (Option Node)) : m_law_s17' (okD 21 ob') ⟨sl16 1 z0 z2 z3, ob⟩ = some (.nx ⟨sl17 1 21 z0 z2 z3, ob'⟩) := by kernel_rfl
theorem S_1_22 (z0 z2 z3 : Sl) (ob ob' : List (Option Node)) : m_law_s17' (okD 22 ob') ⟨sl16 1 z0 z2 z3, ob⟩ = some (.nx ⟨sl17 1 22 z0 z2 z3, ob'⟩) := by kernel_rfl
theorem S_1_23 (z0 z2 z3 : Sl) (ob ob' : List (Option Node)) : m_law_s17' (okD 23 ob') ⟨sl16 1 z0 z2 z3, ob⟩ = some (.nx ⟨sl17 1 23 z0 z2 z3, ob'⟩) := by kernel_rfl
theorem S_1_24 (z0 z2 z3 : Sl) (ob ob' : List (Option Node)) : m_law_s17' (okD 24 ob') ⟨sl16 1 z0 z2 z3, ob⟩ = some (.nx ⟨sl17 1 24 z0 z2 z3, ob'⟩) := by kernel_rfl
theorem S_1_25 (z0 z2 z3 : Sl) (ob ob' : List (Option Node)) : m_law_s17' (okD 25 ob') ⟨sl16 1 z0 z2 z3, ob⟩ = some (.nx ⟨sl17 1 25 z0 z2 z3, ob'⟩) := by kernel_rfl
theorem S_1_26 (z0 z2 z3 : Sl) (ob ob' : List (Option Node)) : m_law_s17' (okD 26 ob') ⟨sl16 1 z0 z2 z3, ob⟩ = some (.nx ⟨sl17 1 26 z0 z2 z3, ob'⟩) := by kernel_rfl
theorem S_1_27 (z0 z2 z3 : Sl) (ob ob' : List (Option Node)) : m_law_s17' (okD 27 ob') ⟨sl16 1 z0 z2 z3, ob⟩ = some (.nx ⟨sl17 1 27 z0 z2 z3, ob'⟩) := by kernel_rfl
theorem S_1_28 (z0 z2 z3 : Sl) (ob ob' : List (Option Node)) : m_law_s17' (okD 28 ob') ⟨sl16 1 z0 z2 z3, ob⟩ = some (.nx ⟨sl17 1 28 z0 z2 z3, ob'⟩) := by kernel_rfl
theorem S_1_29 (z0 z2 z3 : Sl) (ob ob' : List (Option Node)) : m_law_s17' (okD 29 ob') ⟨sl16 1 z0 z2 z3, ob⟩ = some (.nx ⟨sl17 1 29 z0 z2 z3, ob'⟩) := by kernel_rfl
theorem L17_2 (z0 z2 z3 : Sl) (ob : List (Option Node)) (dr : Gm) : m_law_s17' dr ⟨sl16 2 z0 z2 z3, ob⟩ = m_law_s17' (fun _ _ => dr [.o 1, .d (.int 20)] ob) ⟨sl16 2 z0 z2 z3, ob⟩ := by kernel_rfl
theorem S_2_0 (z0 z2 z3 : Sl) (ob ob' : List (Option Node)) : m_law_s17' (okD 0 ob') ⟨sl16 2 z0 z2 z3, ob⟩ = some (.nx ⟨sl17 2 0 z0 z2 z3, ob'⟩) := by kernel_rfl
theorem S_2_1 (z0 z2 z3 : Sl) (ob ob' : List (Option Node)) : m_law_s17' (okD 1 ob') ⟨sl16 2 z0 z2 z3, ob⟩ = some (.nx ⟨sl17 2 1 z0 z2 z3, ob'⟩) := by kernel_rfl
theorem S_2_2 (z0 z2 z3 : Sl) (ob ob' : List (Option Node)) : m_law_s17' (okD 2 ob') ⟨sl16 2 z0 z2 z3, ob⟩ = some (.nx ⟨sl17 2 2 z0 z2 z3, ob'⟩) := by kernel_rfl
theorem S_2_3 (z0 z2 z3 : Sl) (ob ob' : List (Option Node)) : m_law_s17' (okD 3 ob') ⟨sl16 2 z0 z2 z3, ob⟩ = some (.nx ⟨sl17 2 3 z0 z2 z3, ob'⟩) := by kernel_rfl
theorem S_2_4 (z0 z2 z3 : Sl) (ob ob' : List (Option Node)) : m_law_s17' (okD 4 ob') ⟨sl16 2 z0 z2 z3, ob⟩ = some (.nx ⟨sl17 2 4 z0 z2 z3, ob'⟩) := by kernel_rfl
theorem S_2_5 (z0 z2 z3 : Sl) (ob ob' : List (Option Node)) : m_law_s17' (okD 5 ob') ⟨sl16 2 z0 z2 z3, ob⟩ = some (.nx ⟨sl17 2 5 z0 z2 z3, ob'⟩) := by kernel_rfl
theorem S_2_6 (z0 z2 z3 : Sl) (ob ob' : List (Option Node)) : m_law_s17' (okD 6 ob') ⟨sl16 2 z0 z2 z3, ob⟩ = some (.nx ⟨sl17 2 6 z0 z2 z3, ob'⟩) := by kernel_rfl
theorem S_2_7 (z0 z2 z3 : Sl) (ob ob' : List (Option Node)) : m_law_s17' (okD 7 ob') ⟨sl16 2 z0 z2 z3, ob⟩ = some (.nx ⟨sl17 2 7 z0 z2 z3, ob'⟩) := by kernel_rfl
theorem S_2_8 (z0 z2 z3 : Sl) (ob ob' : List (Option Node)) : m_law_s17' (okD 8 ob') ⟨sl16 2 z0 z2 z3, ob⟩ = some (.nx ⟨sl17 2 8 z0 z2 z3, ob'⟩) := by kernel_rfl
theorem S_2_9 (z0 z2 z3 : Sl) (ob ob' : List (Option Node)) : m_law_s17' (okD 9 ob') ⟨sl16 2 z0 z2 z3, ob⟩ = some (.nx ⟨sl17 2 9 z0 z2 z3, ob'⟩) := by kernel_rfl
theorem S_2_10 (z0 z2 z3 : Sl) (ob ob' : List (Option Node)) : m_law_s17' (okD 10 ob') ⟨sl16 2 z0 z2 z3, ob⟩ = some (.nx ⟨sl17 2 10 z0 z2 z3, ob'⟩) := by kernel_rfl
theorem S_2_11 (z0 z2 z3 : Sl) (ob ob' : List (Option Node)) : m_law_s17' (okD 11 ob') ⟨sl16 2 z0 z2 z3, ob⟩ = some (.nx ⟨sl17 2 11 z0 z2 z3, ob'⟩) := by kernel_rfl
theorem S_2_12 (z0 z2 z3 : Sl) (ob ob' : List (Option Node)) : m_law_s17' (okD 12 ob') ⟨sl16 2 z0 z2 z3, ob⟩ = some (.nx ⟨sl17 2 12 z0 z2 z3, ob'⟩) := by kernel_rfl
theorem S_2_13 (z0 z2 z3 : Sl) (ob ob' : List (Option Node)) : m_law_s17' (okD 13 ob') ⟨sl16 2 z0 z2 z3, ob⟩ = some (.nx ⟨sl17 2 13 z0 z2 z3, ob'⟩) := by kernel_rfl
theorem S_2_14 (z0 z2 z3 : Sl) (ob ob' : List (Option Node)) : m_law_s17' (okD 14 ob') ⟨sl16 2 z0 z2 z3, ob⟩ = some (.nx ⟨sl17 2 14 z0 z2 z3, ob'⟩) := by kernel_rfl
theorem S_2_15 (z0 z2 z3 : Sl) (ob ob' : List (Option Node)) : m_law_s17' (okD 15 ob') ⟨sl16 2 z0 z2 z3, ob⟩ = some (.nx ⟨sl17 2 15 z0 z2 z3, ob'⟩) := by kernel_rfl
theorem S_2_16 (z0 z2 z3 : Sl) (ob ob' : List (Option Node)) : m_law_s17' (okD 16 ob') ⟨sl16 2 z0 z2 z3, ob⟩ = some (.nx ⟨sl17 2 16 z0 z2 z3, ob'⟩) := by kernel_rfl
theorem S_2_17 (z0 z2 z3 : Sl) (ob ob' : List (Option Node)) : m_law_s17' (okD 17 ob') ⟨sl16 2 z0 z2 z3, ob⟩ = some (.nx ⟨sl17 2 17 z0 z2 z3, ob'⟩) := by kernel_rfl
theorem S_2_18 (z0 z2 z3 : Sl) (ob ob' : List (Option Node)) : m_law_s17' (okD 18 ob') ⟨sl16 2 z0 z2 z3, ob⟩ = some (.nx ⟨sl17 2 18 z0 z2 z3, ob'⟩) := by kernel_rfl
theorem S_2_19 (z0 z2 z3 : Sl) (ob ob' : List (Option Node)) : m_law_s17' (okD 19 ob') ⟨sl16 2 z0 z2 z3, ob⟩ = some (.nx ⟨sl17 2 19 z0 z2 z3, ob'⟩) := by kernel_rfl
theorem seq_assoc (a b c : Sv) : seqS (seqS a b) c = seqS a (seqS b c) := by
  funext ρ
  unfold seqS
  cases h : a ρ with
  | none => rfl
  | some o => cases o <;> rfl
theorem isT_ok {o : Option Out} (h : isT o = true) : ∃ ρ', o = some (.rt (.d (.bl true)) ρ') := by
  unfold isT at h
  split at h
  · exact ⟨_, rfl⟩
  · cases h
theorem at_in {ds : List D} {v : Int} (h0 : 0 ≤ v) (h1 : v < ds.length) : ∃ d, atI ds v = some d ∧ d ∈ ds := by
  obtain ⟨n, rfl⟩ := Int.eq_ofNat_of_zero_le h0
  have hn : n < ds.length := by omega
  refine ⟨ds[n], ?_, List.getElem_mem hn⟩
  unfold atI ixN
  rw [if_pos h0, if_pos h1]
  show ds[(n : Int).toNat]? = _
  rw [Int.toNat_natCast]
  exact List.getElem?_eq_getElem hn
section
variable {ns : List Int} {p b s : Int}
theorem B11 (sl : List Sl) (ob ob' : List (Option Node)) (v : Int) (k : Int) (h : sl = sB k) (hk : k = 0 ∨ k = 1) (dr : Gm) (e : dr [.o 1, .d (.int 15)] ob = some (.ok (.d (.int v)), ob')) (h0 : 0 ≤ v) (h1 : v < 15) : ∃ d ρ', goodRow d = true ∧ ρ'.ob = ob' ∧ m__law_bounds_s11' dr ⟨sl, ob⟩ = some (.rt (.d d) ρ') := by
  subst h
  rcases hk with rfl | rfl
  · have a : m__law_bounds_s11' dr ⟨sB 0, ob⟩ = m__law_bounds_s11' (fun _ _ => dr [.o 1, .d (.int 15)] ob) ⟨sB 0, ob⟩ := by kernel_rfl
    have l : (rowsOf 3 (sB 0)).length = 15 := by kernel_rfl
    obtain ⟨d, q1, q2⟩ := at_in (ds := rowsOf 3 (sB 0)) h0 (by rw [l]; exact h1)
    refine ⟨d, ⟨sB 0, ob'⟩, List.all_eq_true.mp good_0 d q2, rfl, ?_⟩
    rw [a, e]
    have c : bF gIx (vF 3) (fzF (clS 2 (okD v ob') (consO (ovr 0) (consO (vO (cbF gLen (consF (vF 3) nilF))) nilO)))) ⟨sB 0, ob⟩ = optM (atI (rowsOf 3 (sB 0)) v) ⟨sB 0, ob'⟩ := by kernel_rfl
    exact (st_ok (c.trans (by rw [q1]; rfl))).trans rfl
  · have a : m__law_bounds_s11' dr ⟨sB 1, ob⟩ = m__law_bounds_s11' (fun _ _ => dr [.o 1, .d (.int 15)] ob) ⟨sB 1, ob⟩ := by kernel_rfl
    have l : (rowsOf 3 (sB 1)).length = 15 := by kernel_rfl
    obtain ⟨d, q1, q2⟩ := at_in (ds := rowsOf 3 (sB 1)) h0 (by rw [l]; exact h1)
    refine ⟨d, ⟨sB 1, ob'⟩, List.all_eq_true.mp good_1 d q2, rfl, ?_⟩
    rw [a, e]
    have c : bF gIx (vF 3) (fzF (clS 2 (okD v ob') (consO (ovr 0) (consO (vO (cbF gLen (consF (vF 3) nilF))) nilO)))) ⟨sB 1, ob⟩ = optM (atI (rowsOf 3 (sB 1)) v) ⟨sB 1, ob'⟩ := by kernel_rfl
    exact (st_ok (c.trans (by rw [q1]; rfl))).trans rfl
theorem bounds_ok (hp : 0 ≤ p) (hb : 0 ≤ b) : ∃ d p' b' s', goodRow d = true ∧ 0 ≤ p' ∧ 0 ≤ b' ∧ hm__law_bounds [.o 1] (OB ns p b s []) = some (.ok (.d d), OB ns p' b' s' []) := by
  obtain ⟨v, p1, b1, s1, v0, v1, k1, k2, e⟩ := draw_at (ns := ns) (s := s) (rest := []) (L := 2) hp hb (by decide) (by decide)
  obtain ⟨u, p2, b2, s2, u0, u1, j1, j2, e2⟩ := draw_at (ns := ns) (s := s1) (rest := []) (L := 15) k1 k2 (by decide) (by decide)
  have hv : v = 0 ∨ v = 1 := by omega
  have a0 : m__law_bounds_s0 ⟨[.o 1, .no, .no, .no, .no, .no, .no], OB ns p b s []⟩ = some (.nx ⟨sB0 v, OB ns p1 b1 s1 []⟩) := by
    have a : m__law_bounds_s0' hm__law_draw ⟨[.o 1, .no, .no, .no, .no, .no, .no], OB ns p b s []⟩ = m__law_bounds_s0' (fun _ _ => hm__law_draw [.o 1, .d (.int 2)] (OB ns p b s [])) ⟨[.o 1, .no, .no, .no, .no, .no, .no], OB ns p b s []⟩ := rfl
    show m__law_bounds_s0' hm__law_draw _ = _
    rw [a, e]
    rfl
  have pre : preB ⟨sB0 v, OB ns p1 b1 s1 []⟩ = some (.nx ⟨sB v, OB ns p1 b1 s1 []⟩) := by
    rcases hv with rfl | rfl
    · exact preB_0 _
    · exact preB_1 _
  obtain ⟨d, ρ', g, eo, er⟩ := B11 (sB v) (OB ns p1 b1 s1 []) (OB ns p2 b2 s2 []) u v rfl hv hm__law_draw e2 u0 u1
  refine ⟨d, p2, b2, s2, g, j1, j2, ?_⟩
  have em : m__law_bounds = seqS m__law_bounds_s0 (seqS preB m__law_bounds_s11) := by
    unfold m__law_bounds preB
    simp only [seq_assoc]
  have er2 : m__law_bounds ⟨[.o 1, .no, .no, .no, .no, .no, .no], OB ns p b s []⟩ = some (.rt (.d d) ρ') := by
    rw [em, seq_nx a0, seq_nx pre]
    exact er
  show (match m__law_bounds ⟨[.o 1, .no, .no, .no, .no, .no, .no], OB ns p b s []⟩ with
    | some (.rt x ρ) => some (Res.ok x, ρ.ob)
    | some (.nx ρ) => some (Res.ok (.d .non), ρ.ob)
    | some (.rs c d ρ) => some (Res.er c d, ρ.ob)
    | _ => none) = _
  rw [er2]
  show some (Res.ok (OV.d d), ρ'.ob) = _
  rw [eo]

theorem goodRow_ok {d : D} (h : goodRow d = true) : ∃ ls due r, d = .tup [ls, due] ∧ gm__law_read [ls] = some (.ok r) ∧ gm__law_same 7 [r, due] = some (.ok (.bl true)) := by
  unfold goodRow at h
  split at h
  · rename_i ls due
    split at h
    · rename_i r hr
      split at h
      · rename_i hs
        exact ⟨ls, due, r, rfl, hr, hs⟩
      · cases h
    · cases h
  · cases h
theorem all18 (k : Int) (hk : k = 0 ∨ k = 1 ∨ k = 2) (z0 z2 z3 : Sl) (hp : 0 ≤ p) (hb : 0 ≤ b) : ∃ ρ', seqS m_law_s16 (seqS m_law_s17 (seg hm__law_draw hm__law_draw)) ⟨(sl14 z0 z2 z3).set 10 (.v (.int k)), OB ns p b s []⟩ = some (.rt (.d (.bl true)) ρ') := by
  rcases hk with rfl | rfl | rfl
  · rw [seq_nx (s16_0 z0 z2 z3 _)]
    obtain ⟨r, p1, b1, s1, r0, r1, k1, k2, e⟩ := draw_at (ns := ns) (p := p) (b := b) (s := s) (rest := []) (L := 15) hp hb (by decide) (by decide)
    have a : m_law_s17 ⟨sl16 0 z0 z2 z3, OB ns p b s []⟩ = m_law_s17' (okD r (OB ns p1 b1 s1 [])) ⟨sl16 0 z0 z2 z3, OB ns p b s []⟩ := (L17_0 z0 z2 z3 _ hm__law_draw).trans (by rw [e]; rfl)
    have hr : r = 0 ∨ r = 1 ∨ r = 2 ∨ r = 3 ∨ r = 4 ∨ r = 5 ∨ r = 6 ∨ r = 7 ∨ r = 8 ∨ r = 9 ∨ r = 10 ∨ r = 11 ∨ r = 12 ∨ r = 13 ∨ r = 14 := by omega
    rcases hr with rfl | rfl | rfl | rfl | rfl | rfl | rfl | rfl | rfl | rfl | rfl | rfl | rfl | rfl | rfl
    · rw [seq_nx (a.trans (S_0_0 z0 z2 z3 _ _))]
      obtain ⟨v, p2, b2, s2, v0, v1, _, _, e2⟩ := draw_at (ns := ns) (s := s1) (rest := []) (L := 3) k1 k2 (by decide) (by decide)
      exact isT_ok (C_0_0 z0 z2 z3 _ _ hm__law_draw hm__law_draw v v0 v1 e2)
    · rw [seq_nx (a.trans (S_0_1 z0 z2 z3 _ _))]
      obtain ⟨v, p2, b2, s2, v0, v1, _, _, e2⟩ := draw_at (ns := ns) (s := s1) (rest := []) (L := 3) k1 k2 (by decide) (by decide)
      exact isT_ok (C_0_1 z0 z2 z3 _ _ hm__law_draw hm__law_draw v v0 v1 e2)
    · rw [seq_nx (a.trans (S_0_2 z0 z2 z3 _ _))]
      obtain ⟨v, p2, b2, s2, v0, v1, _, _, e2⟩ := draw_at (ns := ns) (s := s1) (rest := []) (L := 2) k1 k2 (by decide) (by decide)
      exact isT_ok (C_0_2 z0 z2 z3 _ _ hm__law_draw hm__law_draw v v0 v1 e2)
    · rw [seq_nx (a.trans (S_0_3 z0 z2 z3 _ _))]
      obtain ⟨v, p2, b2, s2, v0, v1, _, _, e2⟩ := draw_at (ns := ns) (s := s1) (rest := []) (L := 3) k1 k2 (by decide) (by decide)
      exact isT_ok (C_0_3 z0 z2 z3 _ _ hm__law_draw hm__law_draw v v0 v1 e2)
    · rw [seq_nx (a.trans (S_0_4 z0 z2 z3 _ _))]
      obtain ⟨v, p2, b2, s2, v0, v1, _, _, e2⟩ := draw_at (ns := ns) (s := s1) (rest := []) (L := 3) k1 k2 (by decide) (by decide)
      exact isT_ok (C_0_4 z0 z2 z3 _ _ hm__law_draw hm__law_draw v v0 v1 e2)
    · rw [seq_nx (a.trans (S_0_5 z0 z2 z3 _ _))]
      obtain ⟨v, p2, b2, s2, v0, v1, _, _, e2⟩ := draw_at (ns := ns) (s := s1) (rest := []) (L := 3) k1 k2 (by decide) (by decide)
      exact isT_ok (C_0_5 z0 z2 z3 _ _ hm__law_draw hm__law_draw v v0 v1 e2)
    · rw [seq_nx (a.trans (S_0_6 z0 z2 z3 _ _))]
      obtain ⟨v, p2, b2, s2, v0, v1, _, _, e2⟩ := draw_at (ns := ns) (s := s1) (rest := []) (L := 3) k1 k2 (by decide) (by decide)
      exact isT_ok (C_0_6 z0 z2 z3 _ _ hm__law_draw hm__law_draw v v0 v1 e2)
    · rw [seq_nx (a.trans (S_0_7 z0 z2 z3 _ _))]
      obtain ⟨v, p2, b2, s2, v0, v1, _, _, e2⟩ := draw_at (ns := ns) (s := s1) (rest := []) (L := 3) k1 k2 (by decide) (by decide)
      exact isT_ok (C_0_7 z0 z2 z3 _ _ hm__law_draw hm__law_draw v v0 v1 e2)
    · rw [seq_nx (a.trans (S_0_8 z0 z2 z3 _ _))]
      obtain ⟨v, p2, b2, s2, v0, v1, _, _, e2⟩ := draw_at (ns := ns) (s := s1) (rest := []) (L := 3) k1 k2 (by decide) (by decide)
      exact isT_ok (C_0_8 z0 z2 z3 _ _ hm__law_draw hm__law_draw v v0 v1 e2)
    · rw [seq_nx (a.trans (S_0_9 z0 z2 z3 _ _))]
      obtain ⟨v, p2, b2, s2, v0, v1, _, _, e2⟩ := draw_at (ns := ns) (s := s1) (rest := []) (L := 3) k1 k2 (by decide) (by decide)
      exact isT_ok (C_0_9 z0 z2 z3 _ _ hm__law_draw hm__law_draw v v0 v1 e2)
    · rw [seq_nx (a.trans (S_0_10 z0 z2 z3 _ _))]
      obtain ⟨v, p2, b2, s2, v0, v1, _, _, e2⟩ := draw_at (ns := ns) (s := s1) (rest := []) (L := 2) k1 k2 (by decide) (by decide)
      exact isT_ok (C_0_10 z0 z2 z3 _ _ hm__law_draw hm__law_draw v v0 v1 e2)
    · rw [seq_nx (a.trans (S_0_11 z0 z2 z3 _ _))]
      obtain ⟨v, p2, b2, s2, v0, v1, _, _, e2⟩ := draw_at (ns := ns) (s := s1) (rest := []) (L := 3) k1 k2 (by decide) (by decide)
      exact isT_ok (C_0_11 z0 z2 z3 _ _ hm__law_draw hm__law_draw v v0 v1 e2)
    · rw [seq_nx (a.trans (S_0_12 z0 z2 z3 _ _))]
      obtain ⟨v, p2, b2, s2, v0, v1, _, _, e2⟩ := draw_at (ns := ns) (s := s1) (rest := []) (L := 2) k1 k2 (by decide) (by decide)
      exact isT_ok (C_0_12 z0 z2 z3 _ _ hm__law_draw hm__law_draw v v0 v1 e2)
    · rw [seq_nx (a.trans (S_0_13 z0 z2 z3 _ _))]
      obtain ⟨v, p2, b2, s2, v0, v1, _, _, e2⟩ := draw_at (ns := ns) (s := s1) (rest := []) (L := 3) k1 k2 (by decide) (by decide)
      exact isT_ok (C_0_13 z0 z2 z3 _ _ hm__law_draw hm__law_draw v v0 v1 e2)
    · rw [seq_nx (a.trans (S_0_14 z0 z2 z3 _ _))]
      obtain ⟨v, p2, b2, s2, v0, v1, _, _, e2⟩ := draw_at (ns := ns) (s := s1) (rest := []) (L := 3) k1 k2 (by decide) (by decide)
      exact isT_ok (C_0_14 z0 z2 z3 _ _ hm__law_draw hm__law_draw v v0 v1 e2)
  · rw [seq_nx (s16_1 z0 z2 z3 _)]
    obtain ⟨r, p1, b1, s1, r0, r1, k1, k2, e⟩ := draw_at (ns := ns) (p := p) (b := b) (s := s) (rest := []) (L := 30) hp hb (by decide) (by decide)
    have a : m_law_s17 ⟨sl16 1 z0 z2 z3, OB ns p b s []⟩ = m_law_s17' (okD r (OB ns p1 b1 s1 [])) ⟨sl16 1 z0 z2 z3, OB ns p b s []⟩ := (L17_1 z0 z2 z3 _ hm__law_draw).trans (by rw [e]; rfl)
    have hr : r = 0 ∨ r = 1 ∨ r = 2 ∨ r = 3 ∨ r = 4 ∨ r = 5 ∨ r = 6 ∨ r = 7 ∨ r = 8 ∨ r = 9 ∨ r = 10 ∨ r = 11 ∨ r = 12 ∨ r = 13 ∨ r = 14 ∨ r = 15 ∨ r = 16 ∨ r = 17 ∨ r = 18 ∨ r = 19 ∨ r = 20 ∨ r = 21 ∨ r = 22 ∨ r = 23 ∨ r = 24 ∨ r = 25 ∨ r = 26 ∨ r = 27 ∨ r = 28 ∨ r = 29 := by omega
    rcases hr with rfl | rfl | rfl | rfl | rfl | rfl | rfl | rfl | rfl | rfl | rfl | rfl | rfl | rfl | rfl | rfl | rfl | rfl | rfl | rfl | rfl | rfl | rfl | rfl | rfl | rfl | rfl | rfl | rfl | rfl
    · rw [seq_nx (a.trans (S_1_0 z0 z2 z3 _ _))]
      obtain ⟨v, p2, b2, s2, v0, v1, _, _, e2⟩ := draw_at (ns := ns) (s := s1) (rest := []) (L := 7) k1 k2 (by decide) (by decide)
      exact isT_ok (C_1_0 z0 z2 z3 _ _ hm__law_draw hm__law_draw v v0 v1 e2)
    · rw [seq_nx (a.trans (S_1_1 z0 z2 z3 _ _))]
      obtain ⟨v, p2, b2, s2, v0, v1, _, _, e2⟩ := draw_at (ns := ns) (s := s1) (rest := []) (L := 7) k1 k2 (by decide) (by decide)
      exact isT_ok (C_1_1 z0 z2 z3 _ _ hm__law_draw hm__law_draw v v0 v1 e2)
    · rw [seq_nx (a.trans (S_1_2 z0 z2 z3 _ _))]
      obtain ⟨v, p2, b2, s2, v0, v1, _, _, e2⟩ := draw_at (ns := ns) (s := s1) (rest := []) (L := 7) k1 k2 (by decide) (by decide)
      exact isT_ok (C_1_2 z0 z2 z3 _ _ hm__law_draw hm__law_draw v v0 v1 e2)
    · rw [seq_nx (a.trans (S_1_3 z0 z2 z3 _ _))]
      obtain ⟨v, p2, b2, s2, v0, v1, _, _, e2⟩ := draw_at (ns := ns) (s := s1) (rest := []) (L := 7) k1 k2 (by decide) (by decide)
      exact isT_ok (C_1_3 z0 z2 z3 _ _ hm__law_draw hm__law_draw v v0 v1 e2)
    · rw [seq_nx (a.trans (S_1_4 z0 z2 z3 _ _))]
      obtain ⟨v, p2, b2, s2, v0, v1, _, _, e2⟩ := draw_at (ns := ns) (s := s1) (rest := []) (L := 7) k1 k2 (by decide) (by decide)
      exact isT_ok (C_1_4 z0 z2 z3 _ _ hm__law_draw hm__law_draw v v0 v1 e2)
    · rw [seq_nx (a.trans (S_1_5 z0 z2 z3 _ _))]
      obtain ⟨v, p2, b2, s2, v0, v1, _, _, e2⟩ := draw_at (ns := ns) (s := s1) (rest := []) (L := 7) k1 k2 (by decide) (by decide)
      exact isT_ok (C_1_5 z0 z2 z3 _ _ hm__law_draw hm__law_draw v v0 v1 e2)
    · rw [seq_nx (a.trans (S_1_6 z0 z2 z3 _ _))]
      obtain ⟨v, p2, b2, s2, v0, v1, _, _, e2⟩ := draw_at (ns := ns) (s := s1) (rest := []) (L := 7) k1 k2 (by decide) (by decide)
      exact isT_ok (C_1_6 z0 z2 z3 _ _ hm__law_draw hm__law_draw v v0 v1 e2)
    · rw [seq_nx (a.trans (S_1_7 z0 z2 z3 _ _))]
      obtain ⟨v, p2, b2, s2, v0, v1, _, _, e2⟩ := draw_at (ns := ns) (s := s1) (rest := []) (L := 7) k1 k2 (by decide) (by decide)
      exact isT_ok (C_1_7 z0 z2 z3 _ _ hm__law_draw hm__law_draw v v0 v1 e2)
    · rw [seq_nx (a.trans (S_1_8 z0 z2 z3 _ _))]
      obtain ⟨v, p2, b2, s2, v0, v1, _, _, e2⟩ := draw_at (ns := ns) (s := s1) (rest := []) (L := 7) k1 k2 (by decide) (by decide)
      exact isT_ok (C_1_8 z0 z2 z3 _ _ hm__law_draw hm__law_draw v v0 v1 e2)
    · rw [seq_nx (a.trans (S_1_9 z0 z2 z3 _ _))]
      obtain ⟨v, p2, b2, s2, v0, v1, _, _, e2⟩ := draw_at (ns := ns) (s := s1) (rest := []) (L := 7) k1 k2 (by decide) (by decide)
      exact isT_ok (C_1_9 z0 z2 z3 _ _ hm__law_draw hm__law_draw v v0 v1 e2)
    · rw [seq_nx (a.trans (S_1_10 z0 z2 z3 _ _))]
      obtain ⟨v, p2, b2, s2, v0, v1, _, _, e2⟩ := draw_at (ns := ns) (s := s1) (rest := []) (L := 7) k1 k2 (by decide) (by decide)
      exact isT_ok (C_1_10 z0 z2 z3 _ _ hm__law_draw hm__law_draw v v0 v1 e2)
    · rw [seq_nx (a.trans (S_1_11 z0 z2 z3 _ _))]
      obtain ⟨v, p2, b2, s2, v0, v1, _, _, e2⟩ := draw_at (ns := ns) (s := s1) (rest := []) (L := 7) k1 k2 (by decide) (by decide)
      exact isT_ok (C_1_11 z0 z2 z3 _ _ hm__law_draw hm__law_draw v v0 v1 e2)
    · rw [seq_nx (a.trans (S_1_12 z0 z2 z3 _ _))]
      obtain ⟨v, p2, b2, s2, v0, v1, _, _, e2⟩ := draw_at (ns := ns) (s := s1) (rest := []) (L := 7) k1 k2 (by decide) (by decide)
      exact isT_ok (C_1_12 z0 z2 z3 _ _ hm__law_draw hm__law_draw v v0 v1 e2)
    · rw [seq_nx (a.trans (S_1_13 z0 z2 z3 _ _))]
      obtain ⟨v, p2, b2, s2, v0, v1, _, _, e2⟩ := draw_at (ns := ns) (s := s1) (rest := []) (L := 7) k1 k2 (by decide) (by decide)
      exact isT_ok (C_1_13 z0 z2 z3 _ _ hm__law_draw hm__law_draw v v0 v1 e2)
    · rw [seq_nx (a.trans (S_1_14 z0 z2 z3 _ _))]
      obtain ⟨v, p2, b2, s2, v0, v1, _, _, e2⟩ := draw_at (ns := ns) (s := s1) (rest := []) (L := 7) k1 k2 (by decide) (by decide)
      exact isT_ok (C_1_14 z0 z2 z3 _ _ hm__law_draw hm__law_draw v v0 v1 e2)
    · rw [seq_nx (a.trans (S_1_15 z0 z2 z3 _ _))]
      obtain ⟨v, p2, b2, s2, v0, v1, _, _, e2⟩ := draw_at (ns := ns) (s := s1) (rest := []) (L := 7) k1 k2 (by decide) (by decide)
      exact isT_ok (C_1_15 z0 z2 z3 _ _ hm__law_draw hm__law_draw v v0 v1 e2)
    · rw [seq_nx (a.trans (S_1_16 z0 z2 z3 _ _))]
      obtain ⟨v, p2, b2, s2, v0, v1, _, _, e2⟩ := draw_at (ns := ns) (s := s1) (rest := []) (L := 7) k1 k2 (by decide) (by decide)
      exact isT_ok (C_1_16 z0 z2 z3 _ _ hm__law_draw hm__law_draw v v0 v1 e2)
    · rw [seq_nx (a.trans (S_1_17 z0 z2 z3 _ _))]
      obtain ⟨v, p2, b2, s2, v0, v1, _, _, e2⟩ := draw_at (ns := ns) (s := s1) (rest := []) (L := 7) k1 k2 (by decide) (by decide)
      exact isT_ok (C_1_17 z0 z2 z3 _ _ hm__law_draw hm__law_draw v v0 v1 e2)
    · rw [seq_nx (a.trans (S_1_18 z0 z2 z3 _ _))]
      obtain ⟨v, p2, b2, s2, v0, v1, _, _, e2⟩ := draw_at (ns := ns) (s := s1) (rest := []) (L := 7) k1 k2 (by decide) (by decide)
      exact isT_ok (C_1_18 z0 z2 z3 _ _ hm__law_draw hm__law_draw v v0 v1 e2)
    · rw [seq_nx (a.trans (S_1_19 z0 z2 z3 _ _))]
      obtain ⟨v, p2, b2, s2, v0, v1, _, _, e2⟩ := draw_at (ns := ns) (s := s1) (rest := []) (L := 7) k1 k2 (by decide) (by decide)
      exact isT_ok (C_1_19 z0 z2 z3 _ _ hm__law_draw hm__law_draw v v0 v1 e2)
    · rw [seq_nx (a.trans (S_1_20 z0 z2 z3 _ _))]
      obtain ⟨v, p2, b2, s2, v0, v1, _, _, e2⟩ := draw_at (ns := ns) (s := s1) (rest := []) (L := 7) k1 k2 (by decide) (by decide)
      exact isT_ok (C_1_20 z0 z2 z3 _ _ hm__law_draw hm__law_draw v v0 v1 e2)
    · rw [seq_nx (a.trans (S_1_21 z0 z2 z3 _ _))]
      obtain ⟨v, p2, b2, s2, v0, v1, _, _, e2⟩ := draw_at (ns := ns) (s := s1) (rest := []) (L := 7) k1 k2 (by decide) (by decide)
      exact isT_ok (C_1_21 z0 z2 z3 _ _ hm__law_draw hm__law_draw v v0 v1 e2)
    · rw [seq_nx (a.trans (S_1_22 z0 z2 z3 _ _))]
      exact isT_ok (C_1_22 z0 z2 z3 _ hm__law_draw hm__law_draw)
    · rw [seq_nx (a.trans (S_1_23 z0 z2 z3 _ _))]
      exact isT_ok (C_1_23 z0 z2 z3 _ hm__law_draw hm__law_draw)
    · rw [seq_nx (a.trans (S_1_24 z0 z2 z3 _ _))]
      exact isT_ok (C_1_24 z0 z2 z3 _ hm__law_draw hm__law_draw)
    · rw [seq_nx (a.trans (S_1_25 z0 z2 z3 _ _))]
      exact isT_ok (C_1_25 z0 z2 z3 _ hm__law_draw hm__law_draw)
    · rw [seq_nx (a.trans (S_1_26 z0 z2 z3 _ _))]
      exact isT_ok (C_1_26 z0 z2 z3 _ hm__law_draw hm__law_draw)
    · rw [seq_nx (a.trans (S_1_27 z0 z2 z3 _ _))]
      exact isT_ok (C_1_27 z0 z2 z3 _ hm__law_draw hm__law_draw)
    · rw [seq_nx (a.trans (S_1_28 z0 z2 z3 _ _))]
      obtain ⟨v, p2, b2, s2, v0, v1, _, _, e2⟩ := draw_at (ns := ns) (s := s1) (rest := []) (L := 7) k1 k2 (by decide) (by decide)
      exact isT_ok (C_1_28 z0 z2 z3 _ _ hm__law_draw hm__law_draw v v0 v1 e2)
    · rw [seq_nx (a.trans (S_1_29 z0 z2 z3 _ _))]
      obtain ⟨v, p2, b2, s2, v0, v1, _, _, e2⟩ := draw_at (ns := ns) (s := s1) (rest := []) (L := 7) k1 k2 (by decide) (by decide)
      exact isT_ok (C_1_29 z0 z2 z3 _ _ hm__law_draw hm__law_draw v v0 v1 e2)
  · rw [seq_nx (s16_2 z0 z2 z3 _)]
    obtain ⟨r, p1, b1, s1, r0, r1, k1, k2, e⟩ := draw_at (ns := ns) (p := p) (b := b) (s := s) (rest := []) (L := 20) hp hb (by decide) (by decide)
    have a : m_law_s17 ⟨sl16 2 z0 z2 z3, OB ns p b s []⟩ = m_law_s17' (okD r (OB ns p1 b1 s1 [])) ⟨sl16 2 z0 z2 z3, OB ns p b s []⟩ := (L17_2 z0 z2 z3 _ hm__law_draw).trans (by rw [e]; rfl)
    have hr : r = 0 ∨ r = 1 ∨ r = 2 ∨ r = 3 ∨ r = 4 ∨ r = 5 ∨ r = 6 ∨ r = 7 ∨ r = 8 ∨ r = 9 ∨ r = 10 ∨ r = 11 ∨ r = 12 ∨ r = 13 ∨ r = 14 ∨ r = 15 ∨ r = 16 ∨ r = 17 ∨ r = 18 ∨ r = 19 := by omega
    rcases hr with rfl | rfl | rfl | rfl | rfl | rfl | rfl | rfl | rfl | rfl | rfl | rfl | rfl | rfl | rfl | rfl | rfl | rfl | rfl | rfl
    · rw [seq_nx (a.trans (S_2_0 z0 z2 z3 _ _))]
      obtain ⟨v, p2, b2, s2, v0, v1, _, _, e2⟩ := draw_at (ns := ns) (s := s1) (rest := []) (L := 2) k1 k2 (by decide) (by decide)
      exact isT_ok (C_2_0 z0 z2 z3 _ _ hm__law_draw hm__law_draw v v0 v1 e2)
    · rw [seq_nx (a.trans (S_2_1 z0 z2 z3 _ _))]
      obtain ⟨v, p2, b2, s2, v0, v1, _, _, e2⟩ := draw_at (ns := ns) (s := s1) (rest := []) (L := 2) k1 k2 (by decide) (by decide)
      exact isT_ok (C_2_1 z0 z2 z3 _ _ hm__law_draw hm__law_draw v v0 v1 e2)
    · rw [seq_nx (a.trans (S_2_2 z0 z2 z3 _ _))]
      obtain ⟨v, p2, b2, s2, v0, v1, _, _, e2⟩ := draw_at (ns := ns) (s := s1) (rest := []) (L := 2) k1 k2 (by decide) (by decide)
      exact isT_ok (C_2_2 z0 z2 z3 _ _ hm__law_draw hm__law_draw v v0 v1 e2)
    · rw [seq_nx (a.trans (S_2_3 z0 z2 z3 _ _))]
      obtain ⟨v, p2, b2, s2, v0, v1, _, _, e2⟩ := draw_at (ns := ns) (s := s1) (rest := []) (L := 2) k1 k2 (by decide) (by decide)
      exact isT_ok (C_2_3 z0 z2 z3 _ _ hm__law_draw hm__law_draw v v0 v1 e2)
    · rw [seq_nx (a.trans (S_2_4 z0 z2 z3 _ _))]
      obtain ⟨v, p2, b2, s2, v0, v1, _, _, e2⟩ := draw_at (ns := ns) (s := s1) (rest := []) (L := 2) k1 k2 (by decide) (by decide)
      exact isT_ok (C_2_4 z0 z2 z3 _ _ hm__law_draw hm__law_draw v v0 v1 e2)
    · rw [seq_nx (a.trans (S_2_5 z0 z2 z3 _ _))]
      obtain ⟨v, p2, b2, s2, v0, v1, _, _, e2⟩ := draw_at (ns := ns) (s := s1) (rest := []) (L := 2) k1 k2 (by decide) (by decide)
      exact isT_ok (C_2_5 z0 z2 z3 _ _ hm__law_draw hm__law_draw v v0 v1 e2)
    · rw [seq_nx (a.trans (S_2_6 z0 z2 z3 _ _))]
      obtain ⟨v, p2, b2, s2, v0, v1, _, _, e2⟩ := draw_at (ns := ns) (s := s1) (rest := []) (L := 2) k1 k2 (by decide) (by decide)
      exact isT_ok (C_2_6 z0 z2 z3 _ _ hm__law_draw hm__law_draw v v0 v1 e2)
    · rw [seq_nx (a.trans (S_2_7 z0 z2 z3 _ _))]
      obtain ⟨v, p2, b2, s2, v0, v1, _, _, e2⟩ := draw_at (ns := ns) (s := s1) (rest := []) (L := 2) k1 k2 (by decide) (by decide)
      exact isT_ok (C_2_7 z0 z2 z3 _ _ hm__law_draw hm__law_draw v v0 v1 e2)
    · rw [seq_nx (a.trans (S_2_8 z0 z2 z3 _ _))]
      obtain ⟨v, p2, b2, s2, v0, v1, _, _, e2⟩ := draw_at (ns := ns) (s := s1) (rest := []) (L := 2) k1 k2 (by decide) (by decide)
      exact isT_ok (C_2_8 z0 z2 z3 _ _ hm__law_draw hm__law_draw v v0 v1 e2)
    · rw [seq_nx (a.trans (S_2_9 z0 z2 z3 _ _))]
      obtain ⟨v, p2, b2, s2, v0, v1, _, _, e2⟩ := draw_at (ns := ns) (s := s1) (rest := []) (L := 2) k1 k2 (by decide) (by decide)
      exact isT_ok (C_2_9 z0 z2 z3 _ _ hm__law_draw hm__law_draw v v0 v1 e2)
    · rw [seq_nx (a.trans (S_2_10 z0 z2 z3 _ _))]
      obtain ⟨v, p2, b2, s2, v0, v1, _, _, e2⟩ := draw_at (ns := ns) (s := s1) (rest := []) (L := 2) k1 k2 (by decide) (by decide)
      exact isT_ok (C_2_10 z0 z2 z3 _ _ hm__law_draw hm__law_draw v v0 v1 e2)
    · rw [seq_nx (a.trans (S_2_11 z0 z2 z3 _ _))]
      obtain ⟨v, p2, b2, s2, v0, v1, _, _, e2⟩ := draw_at (ns := ns) (s := s1) (rest := []) (L := 2) k1 k2 (by decide) (by decide)
      exact isT_ok (C_2_11 z0 z2 z3 _ _ hm__law_draw hm__law_draw v v0 v1 e2)
    · rw [seq_nx (a.trans (S_2_12 z0 z2 z3 _ _))]
      obtain ⟨v, p2, b2, s2, v0, v1, _, _, e2⟩ := draw_at (ns := ns) (s := s1) (rest := []) (L := 2) k1 k2 (by decide) (by decide)
      exact isT_ok (C_2_12 z0 z2 z3 _ _ hm__law_draw hm__law_draw v v0 v1 e2)
    · rw [seq_nx (a.trans (S_2_13 z0 z2 z3 _ _))]
      obtain ⟨v, p2, b2, s2, v0, v1, _, _, e2⟩ := draw_at (ns := ns) (s := s1) (rest := []) (L := 2) k1 k2 (by decide) (by decide)
      exact isT_ok (C_2_13 z0 z2 z3 _ _ hm__law_draw hm__law_draw v v0 v1 e2)
    · rw [seq_nx (a.trans (S_2_14 z0 z2 z3 _ _))]
      obtain ⟨v, p2, b2, s2, v0, v1, _, _, e2⟩ := draw_at (ns := ns) (s := s1) (rest := []) (L := 2) k1 k2 (by decide) (by decide)
      exact isT_ok (C_2_14 z0 z2 z3 _ _ hm__law_draw hm__law_draw v v0 v1 e2)
    · rw [seq_nx (a.trans (S_2_15 z0 z2 z3 _ _))]
      obtain ⟨v, p2, b2, s2, v0, v1, _, _, e2⟩ := draw_at (ns := ns) (s := s1) (rest := []) (L := 2) k1 k2 (by decide) (by decide)
      exact isT_ok (C_2_15 z0 z2 z3 _ _ hm__law_draw hm__law_draw v v0 v1 e2)
    · rw [seq_nx (a.trans (S_2_16 z0 z2 z3 _ _))]
      obtain ⟨v, p2, b2, s2, v0, v1, _, _, e2⟩ := draw_at (ns := ns) (s := s1) (rest := []) (L := 2) k1 k2 (by decide) (by decide)
      exact isT_ok (C_2_16 z0 z2 z3 _ _ hm__law_draw hm__law_draw v v0 v1 e2)
    · rw [seq_nx (a.trans (S_2_17 z0 z2 z3 _ _))]
      obtain ⟨v, p2, b2, s2, v0, v1, _, _, e2⟩ := draw_at (ns := ns) (s := s1) (rest := []) (L := 2) k1 k2 (by decide) (by decide)
      exact isT_ok (C_2_17 z0 z2 z3 _ _ hm__law_draw hm__law_draw v v0 v1 e2)
    · rw [seq_nx (a.trans (S_2_18 z0 z2 z3 _ _))]
      obtain ⟨v, p2, b2, s2, v0, v1, _, _, e2⟩ := draw_at (ns := ns) (s := s1) (rest := []) (L := 2) k1 k2 (by decide) (by decide)
      exact isT_ok (C_2_18 z0 z2 z3 _ _ hm__law_draw hm__law_draw v v0 v1 e2)
    · rw [seq_nx (a.trans (S_2_19 z0 z2 z3 _ _))]
      obtain ⟨v, p2, b2, s2, v0, v1, _, _, e2⟩ := draw_at (ns := ns) (s := s1) (rest := []) (L := 2) k1 k2 (by decide) (by decide)
      exact isT_ok (C_2_19 z0 z2 z3 _ _ hm__law_draw hm__law_draw v v0 v1 e2)
theorem L15 (z0 z2 z3 : Sl) (ob : List (Option Node)) (dr : Gm) : m_law_s15' dr ⟨sl14 z0 z2 z3, ob⟩ = m_law_s15' (fun _ _ => dr [.o 1, .d (.int 3)] ob) ⟨sl14 z0 z2 z3, ob⟩ := by kernel_rfl
theorem L15v (z0 z2 z3 : Sl) (ob ob' : List (Option Node)) (v : Int) : m_law_s15' (okD v ob') ⟨sl14 z0 z2 z3, ob⟩ = some (.nx ⟨(sl14 z0 z2 z3).set 10 (.v (.int v)), ob'⟩) := by kernel_rfl
theorem law_ok (ns : List Int) : gm_law [.scr (ns.map .int)] = some (.ok (.bl true)) := by
  have em : m_law = seqS m_law_s0 (seqS m_law_s1 (seqS m_law_s2 (seqS pre14 (seqS m_law_s15 (seqS m_law_s16 (seqS m_law_s17 (seg hm__law_draw hm__law_draw))))))) := by
    unfold m_law pre14 seg
    simp only [seq_assoc]
  have e0 : m_law_s0 ⟨[.v (.scr (ns.map .int)), .no, .no, .no, .no, .no, .no, .no, .no, .no, .no, .no, .no, .no, .no, .no, .no, .no], []⟩ = some (.nx ⟨sl3 (.v (.scr (ns.map .int))) .no .no, OB ns 0 0 1 []⟩) := by
    have h : OB ns 0 0 1 [] = some (.lst ((ns.map D.int).map OV.d)) :: some (.lst [.o 0, .d (.int 0), .d (.int 0), .d (.int 1)]) :: [] := by
      unfold OB
      rw [List.map_map]
      rfl
    rw [h]
    rfl
  obtain ⟨d, p1, b1, s1, g, k1, k2, eb⟩ := bounds_ok (ns := ns) (p := 0) (b := 0) (s := 1) (Int.le_refl _) (Int.le_refl _)
  obtain ⟨ls, due, r, rfl, h1, h2⟩ := goodRow_ok g
  have e1 : m_law_s1 ⟨sl3 (.v (.scr (ns.map .int))) .no .no, OB ns 0 0 1 []⟩ = some (.nx ⟨sl3 (.v (.scr (ns.map .int))) (.v ls) (.v due), OB ns p1 b1 s1 []⟩) := by
    have q : clS 1 hm__law_bounds (consO (ovr 1) nilO) ⟨sl3 (.v (.scr (ns.map .int))) .no .no, OB ns 0 0 1 []⟩ = some (.ok (.d (.tup [ls, due])), ⟨sl3 (.v (.scr (ns.map .int))) .no .no, OB ns p1 b1 s1 []⟩) := by
      have q1 : clS 1 hm__law_bounds (consO (ovr 1) nilO) ⟨sl3 (.v (.scr (ns.map .int))) .no .no, OB ns 0 0 1 []⟩ = (fun q : Option (Res OV × List (Option Node)) => match q with
        | some (r, ob') => some (r, (⟨sl3 (.v (.scr (ns.map .int))) .no .no, ob'⟩ : Ro))
        | none => none) (hm__law_bounds [.o 1] (OB ns 0 0 1 [])) := rfl
      rw [q1, eb]
    exact (st_ok (bnd_ok q)).trans rfl
  have e2 : m_law_s2 ⟨sl3 (.v (.scr (ns.map .int))) (.v ls) (.v due), OB ns p1 b1 s1 []⟩ = some (.nx ⟨sl3 (.v (.scr (ns.map .int))) (.v ls) (.v due), OB ns p1 b1 s1 []⟩) := by
    generalize hρ : (⟨sl3 (.v (.scr (ns.map .int))) (.v ls) (.v due), OB ns p1 b1 s1 []⟩ : Ro) = ρ
    have v2 : vF 2 ρ = some (.ok ls, ρ) := by subst hρ; rfl
    have v3 : vF 3 ρ = some (.ok due, ρ) := by subst hρ; rfl
    have q1 : clF 1 gm__law_read (consF (vF 2) nilF) ρ = some (.ok r, ρ) := by
      refine (bnd_ok (m := consF (vF 2) nilF) (a := [ls]) (ρ1 := ρ) ((bnd_ok v2).trans rfl)).trans ?_
      show (match gm__law_read [ls] with | some r => some (r, ρ) | none => none) = _
      rw [h1]
    have q2 : consF (clF 1 gm__law_read (consF (vF 2) nilF)) (consF (vF 3) nilF) ρ = some (.ok [r, due], ρ) := by
      refine (bnd_ok q1).trans ?_
      refine (bnd_ok (m := consF (vF 3) nilF) (a := [due]) (ρ1 := ρ) ((bnd_ok v3).trans rfl)).trans rfl
    have q3 : clF 2 (gm__law_same 7) (consF (clF 1 gm__law_read (consF (vF 2) nilF)) (consF (vF 3) nilF)) ρ = some (.ok (.bl true), ρ) := by
      refine (bnd_ok q2).trans ?_
      show (match gm__law_same 7 [r, due] with | some r => some (r, ρ) | none => none) = _
      rw [h2]
    exact (if_t (b := false) (ρ1 := ρ) ((bnd_ok ((bnd_ok q3).trans rfl)).trans rfl)).trans rfl
  obtain ⟨v, p2, b2, s2, v0, v1, j1, j2, e15⟩ := draw_at (ns := ns) (s := s1) (rest := []) (L := 3) k1 k2 (by decide) (by decide)
  have e15' : m_law_s15 ⟨sl14 (.v (.scr (ns.map .int))) (.v ls) (.v due), OB ns p1 b1 s1 []⟩ = some (.nx ⟨(sl14 (.v (.scr (ns.map .int))) (.v ls) (.v due)).set 10 (.v (.int v)), OB ns p2 b2 s2 []⟩) :=
    (L15 _ _ _ _ hm__law_draw).trans ((by rw [e15]; rfl : m_law_s15' (fun _ _ => hm__law_draw [.o 1, .d (.int 3)] (OB ns p1 b1 s1 [])) _ = m_law_s15' (okD v (OB ns p2 b2 s2 [])) _).trans (L15v _ _ _ _ _ v))
  obtain ⟨ρ', ef⟩ := all18 (ns := ns) (p := p2) (b := b2) (s := s2) v (by omega) (.v (.scr (ns.map .int))) (.v ls) (.v due) j1 j2
  have e : m_law ⟨[.v (.scr (ns.map .int)), .no, .no, .no, .no, .no, .no, .no, .no, .no, .no, .no, .no, .no, .no, .no, .no, .no], []⟩ = some (.rt (.d (.bl true)) ρ') := by
    rw [em, seq_nx e0, seq_nx e1, seq_nx e2, seq_nx (pre14_ok _ _ _ _), seq_nx e15']
    exact ef
  show (match m_law ⟨[.v (.scr (ns.map .int)), .no, .no, .no, .no, .no, .no, .no, .no, .no, .no, .no, .no, .no, .no, .no, .no, .no], []⟩ with
    | some (.rt x ρ) => (match dpO ρ x with
      | some (d, _) => some (Res.ok d)
      | none => none)
    | some (.nx _) => some (Res.ok .non)
    | some (.rs c d _) => some (Res.er c d)
    | _ => none) = _
  rw [e]
  show (match deepO ρ'.ob (ρ'.ob.length + 1) (.d (.bl true)) with
      | some (d, _) => some (Res.ok d)
      | none => none) = _
  rw [deepO_d]
end
end K01

set_option maxRecDepth 100000
set_option maxHeartbeats 0
namespace K01
open PySem PySem.Spec PyProof.Rows L2
abbrev R : PySem.W.OpenRow := PySem.W.OpenLaw.row PySem.Challenge.rw_fenceweaver_k01_first_wrong_words
def ex (K : PySem.W.Frag) : Bool := exs.all fun p => p K
abbrev hk : PySem.W.Hook := LP.hookY 6 fa fn ts ex
def ob (s : PySem.W.SharedT) : LP.AlY := LP.obsY 6 fa fn ts ex (HandSHeadRun.getT s)
theorem ob_eq (s : PySem.W.SharedT) : ob s = hk.obs s.abs := LP.obsY_eq (HandSHeadRun.getT_eq s)
def names0 : List Str := ["_wall", "CellError", "Wrong", "TextWrong", "LETTERS", "FIGURES", "KEPT", "KINDS", "SIGNS", "LONGEST", "MOST_VALUE", "MOST_CELLS", "MOST_THREADS", "MOST_OF_THREAD", "MOST_IN_ALL", "MOST_FENCES"]
def names1 : List Str := ["DEEPEST", "MOST_BAD", "is_name", "is_value", "is_operand", "is_instruction", "is_cell", "how_many", "is_bad", "Program", "check_cells", "check_threads", "value_in", "operand_in", "Reading", "part_in"]
def names2 : List Str := ["FORMS", "field_in", "instruction_in", "read_text", "_law_draws", "_law_draw", "_law_same", "_law_read", "_law_bounds"]
def names : List Str := names0 ++ names1 ++ names2
theorem run (w : World) : HandSHeadRun.RunEq R (PySem.W.view R.prog [44]) hk ob 8000 names w :=
  PySem.W.byRow2 "special-get-raises" (P := fun w => HandSHeadRun.RunEq R (PySem.W.view R.prog [44]) hk ob 8000 names w) (fun w os => by kernel_rfl) (fun w os => by kernel_rfl) w
end K01

set_option maxHeartbeats 0
namespace K01
open PySem PySem.Spec PyProof.Rows L2 LP
theorem facts {w : World} {K : PySem.W.Frag} {h : Heap} {mg : Str → Option Value} {f : Addr} (X : K.In h) (G : h.Ns mainGlobals mg) (hfa : mg ("law" : Str) = some (.ref f)) (c : He.SaysT fa fn ts w K) (cx : ex K = true) :
    ∃ (fd : FuncData), (∀ (s : Shared) (v : Value), BindsTo s fd ⟨[v], []⟩ [("script", v)]) ∧ ∀ base : Heap, K.In base → base.Ns mainGlobals mg → FnOk PP w K mg base (CXall PP) 14 f fd ["script"] (spF K 1 gm_law) := by
  have T : Tx fa fn ts exs w K mg := ⟨⟨h, X, G⟩, c, cx⟩
  have e := hfa.symm.trans (T.glo iLaw rfl)
  cases e
  obtain ⟨fd, F⟩ := c.d.def_ 29 (d := dd_law) rfl
  have b := FunD.bindsA (ps := ["script"]) F fun _ _ _ _ _ _ us hl => match us, hl with | [_], _ => rfl
  exact ⟨fd, fun s v => b s [v] rfl, fun base _ _ => fn_all (ok_lawF (base := base) T F)⟩
theorem law_sp {K : PySem.W.Frag} {H : Hp} {a : Addr} {ns : List Int} (hO : Only H) (hS : SqL K H a (ns.map V.int)) : spF K 1 gm_law [.ref a] H (fun v _ => v = .bl true) fun _ _ _ => False := by
  have ri : ∀ {N : Nd} (l : List Int), RepL K N H (l.map V.int) (l.map D.int) := fun {N} l => by
    induction l with
    | nil => exact .nil
    | cons i l ih => exact .cons (.int i) ih
  refine ⟨⟨fun _ => False, fun _ => False, fun _ h => h, fun _ => 0, 0⟩, [.scr (ns.map .int)], _, fun a h => h.elim, .cons (.scr (hS.imp (fun h => ⟨h, fun z => z⟩) fun h => h) trivial (ri ns)) .nil, rfl, law_ok ns, ?_⟩
  intro v H' s r
  cases r
  rfl
end K01
open PySem PySem.W PySem.Calls PyProof.Rows
theorem PySem.Challenge.cw_fenceweaver_k01_first_wrong_words_holds : PySem.Challenge.rw_fenceweaver_k01_first_wrong_words.Holds := by
  w_on; o_law
  refine HandSHeadRun.head_any (r := OpenLaw.row PySem.Challenge.rw_fenceweaver_k01_first_wrong_words) (q := view (OpenLaw.row PySem.Challenge.rw_fenceweaver_k01_first_wrong_words).prog [44]) (H := K01.hk) (ob := K01.ob) (M := 8000) (loose := K01.names) (d := HandSHeadRun.topDef (OpenLaw.row PySem.Challenge.rw_fenceweaver_k01_first_wrong_words).prog 44) (kwd := []) K01.ob_eq
    (by kernel_rfl) (fun s => by kernel_rfl) K01.run (by kernel_rfl) (by kernel_rfl) (by kernel_rfl) (by rfl) (by first | assumption | decide +kernel) (by decide +kernel) ⟨rfl, rfl, rfl, rfl, rfl, by decide +kernel⟩ ?hw ?hc
  case hw => w_witness2
  case hc =>
    refine L2.walk_ofE (l := PySem.Challenge.rw_fenceweaver_k01_first_wrong_words) (n := 63) (k := 14) (x := "script") (CX := LP.CXall K01.PP) rfl (by decide) (by kernel_rfl) ⟨rfl, by decide, by decide⟩ ?F LP.all_never
    intro w mg fa h Y G hmg0
    obtain ⟨K, KX, c, cx⟩ := Y
    have hmg : mg ("law" : PySem.Str) = some (.ref fa) := by
      have e : (HandSHeadRun.topDef (OpenLaw.row PySem.Challenge.rw_fenceweaver_k01_first_wrong_words).prog 44).name = ("law" : PySem.Str) := by kernel_rfl
      rw [← e]
      exact hmg0
    obtain ⟨fd, hb, hF⟩ := K01.facts (w := w) KX G hmg c cx
    exact ⟨K, fd, LP.spF K 1 K01.gm_law, KX, hb, fun H a ns hl hO hS => K01.law_sp hO hS, hF⟩

