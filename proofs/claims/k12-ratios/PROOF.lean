import PyProof.Rows.All
import Wide.All
import OpenK.AllK
import Wide.FinOn
import HandS.ForMost
import HandS.ForExc
import HandS.ExcSuper
import HandS.IsInst
import KE.KExcSuper
import HandS.Property
import HandS.FStr
import HandS.Gcd
import HandS.Wide
import HandS.Defaults
import OpenK.KOps
import KE.KOpsOwn
import HandS.Words
import HandS.WordsExc
import HandS.Lambda
import KE.KIntText
import PyProof.Rows.StrOr
import PyProof.StrBlock2
import HandS.ExcIs
import HandS.ExcField
import HandS.HotCalls
import HandS.NoneIn
import HandS.EndTab
import KE.RegKIsAll
import KE.RegKSuper
import PySem.Challenge.RW_glintkinds_k12_ratios_by_every_road
/-! GkExc -/
set_option Elab.async false
set_option Elab.async false
set_option linter.all false
set_option maxRecDepth 100000
set_option maxHeartbeats 2000000
/-! An own error over an own base over ValueError, whose __init__ says super().__init__(text) and stores one attribute. -/
namespace PySem
namespace GX
open PySem.W PySem.Calls PyProof.Rows PySem.HandSPX
def oA (n : Str) (p1 p2 : Pos) : Arguments := { posonlyargs := [], args := [{ arg := "self", annotation := none, pos := p1 }, { arg := n, annotation := none, pos := p2 }], vararg := none, kwonlyargs := [], kw_defaults := [], kwarg := none, defaults := [] }
def oB (n msg : Str) (p0 p1 p2 p3 p4 p5 p6 p7 p8 p9 : Pos) : List Stmt :=
  [.Expr (.Call (.Attribute (.Call (.Name "super" p0) [] [] p1) "__init__" p2) [.Constant (.str msg) 0 p3] [] p4) p5, .Assign [.Attribute (.Name "self" p6) n p7] (.Name n p8) p9]
def oS (n : Str) : Scope := { kind := .function, names := [(PySem.Str.ofString "self", .local), (n, .local), (PySem.Str.ofString "__class__", .free), (PySem.Str.ofString "super", .globalImplicit)], isGenerator := false, isCoroutine := false, more := [] }
/-- a method's call as the model reads it -/
def CallForm (env : Env) (o : Expr) (name : Str) (apos pos : Pos) (args : List Expr) : Prop := ∃ pl : Sem Bool, eval (.Call (.Attribute o name apos) args [] pos) env = (do
  let ov ← attributeBase o name env (eval o env)
  standAt apos.atName
  let (f, first) ← holding [ov] (getMethod ov name pl)
  callWith pos f first (backTo pos (starEach args env)) [])
/-- what the written part says of the class x at C, of its __init__ at fI -/
structure OutTxt (prog : Program) (K : Frag) (mg : Str → Option Value) (x msg : Str) (C fI : Addr) : Prop where
  gC : mg x = some (.ref C)
  cls : ∃ nm q N bs bm sn sub ab col dd k0 k1 k2 k3 k5, K.lookup C = some (excClassObj nm q C N bs bm true sn sub ab col dd k0 k1 k2 k3 k5 "ValueError.__new__") ∧ refsVE bm = true
  sa : findIn K (.ref C) "__setattr__" = some (some (.builtin "object.__setattr__"))
  noN : findIn K (.ref C) "what" = some none
  iC : findIn K (.ref C) "__init__" = some (some (.ref fI))
  tC : typeIn K (.ref fI) = some (.type "function")
  kC : keepIn K (.ref C) = true
  exC : subIn K (.ref C) (.type "BaseException") = some true
  tyC : typeIn K (.ref C) = some (.type "type")
  hdC : hasDictIn K C = true
  sub : mroIn K C (.ref C) = some true
  up : ks_superIn K C C "__init__" = some (some (.builtin "ValueError.__init__"))
  veC : subIn K (.ref C) (.type "ValueError") = some true
  opq : nsIn K cStatics "thirdparty.any" = some none
  gs : mg "super" = none
  top : (prog.main.scope.names.lookup ("super" : Str)).isSome = false
  fn : ∃ (oc ccl cl : Value) (od cdd cld : Option Addr) (cda cc : Addr) (q : Str) (vs : Array Value) (file : Str) (tf : Tok) (ccs csl : Array (Option Value)) (doc pm : Value) (an : Option Addr) (ct : Value) (osl : Array (Option Value)) (p1 p2 q0 q1 q2 q3 q4 q5 q6 q7 q8 q9 : Pos),
    K.lookup fI = some ⟨oc, od, .func (ksFn "__init__" q (oA "what" p1 p2) (oB "what" msg q0 q1 q2 q3 q4 q5 q6 q7 q8 q9) (oS "what") .none .none doc pm an (.ref cda) ct cc), osl⟩ ∧ codeIn K (.ref cda) q = true ∧
    K.lookup cda = some ⟨ccl, cdd, .fields vs, ccs⟩ ∧ vs[2]? = some (.str file tf) ∧ ((prog.main.file : Str) == file) = true ∧ K.lookup cc = some ⟨cl, cld, .cell (some (.ref C)), csl⟩ ∧
    ∀ L : Addr, CallForm (ksEnv q (oS "what") L fI (.ref cda) cc) (.Call (.Name "super" q0) [] [] q1) "__init__" q2 q4 [.Constant (.str msg) 0 q3]
theorem one_size (v : Value) : [v].length ≤ sizeLine := by
  rw [sizeLine_eq]
  exact (by decide : 1 ≤ 16777216)
/-- what __init__ leaves of a fresh exception at x -/
structure InitEnd (h h' : Heap) (n : Str) (x C dx : Addr) (v : Value) : Prop where
  keep : ∀ b o, b ≠ x → h.get? b = some o → h'.get? b = some o
  obj : ∃ t1, h'.get? x = some { cls := .ref C, dict := some dx, data := .fields #[.ref t1, .none, .none, .none, .bool false, .none] }
  dbig : h.objs.size ≤ dx
  dne : dx ≠ x
  ns : h'.Ns1 dx (fun y => if y = n then some v else none)
/-- a made one -/
structure OwnMade (h h' : Heap) (n : Str) (e C d : Addr) (v : Value) : Prop where
  keep : ∀ b o, h.get? b = some o → h'.get? b = some o
  new : h.objs.size ≤ e
  obj : ∃ oe vs, h'.get? e = some oe ∧ oe.cls = .ref C ∧ oe.dict = some d ∧ oe.data = .fields vs ∧ vs[1]? = some .none
  dbig : h.objs.size ≤ d
  dne : d ≠ e
  ns : h'.Ns1 d (fun y => if y = n then some v else none)
section
variable {prog : Program} {w : World} {A : Around} {E : Value → Shared → Prop} {h : Heap} {g : Array GenState} {d : Drawn} {t : Nat} {os : OsState}
variable {nm q : Str} {C N : Addr} {bs bm bmB : List Value} {hdct : Bool} {sn : List Str} {sub : List Value} {ab : Bool} {col : Option Bool} {dd : Option Addr} {k0 k1 k2 k3 k5 : Option Value} {B newId initId : String}
/-- the bound __init__ of the base called: the args are laid anew -/
theorem call_mw (FB : ExcBaseFacts B newId initId bmB) {u e t0 : Addr} {rest : List Value} {Q : Value → Shared → Prop}
    (hC : h.get? C = some (excClassObj nm q C N bs bm hdct sn sub ab col dd k0 k1 k2 k3 k5 newId)) (he : h.get? e = some (excO C t0)) (hu : h.get? u = some (kxs_mw initId e)) (hrest : rest.length ≤ sizeLine)
    (hq : ∀ h' t1, (∀ b o, b ≠ e → h.get? b = some o → h'.get? b = some o) → h'.get? e = some (excO C t1) → Q .none ⟨h', g, d, t, os⟩) :
    wpAny (model prog w) A (call (.ref u) rest) Q E ⟨h, g, d, t, os⟩ := by
  refine wpAny_call (codeAny_of_tree ?_)
  show wpAny _ A.in1 (callAny (.ref u) ⟨rest, []⟩) _ _ _
  simp only [callAny]
  refine wpAny_bind (wpAny_load hu ?_)
  simp only [kxs_mw, show (Value.type "method-wrapper" == Value.type "method" || Value.type "method-wrapper" == Value.type "builtin_function_or_method" || Value.type "method-wrapper" == Value.type "method-wrapper") = true by decide, if_true]
  refine W.KFB.if_so (by decide) ?_
  refine wpAny_bind (ESX.check_bound FB hC he rfl ?_)
  refine wpAny_bind (wpAny_pure (wpAny_pure ?_))
  refine ⟨plainId_quiet FB.init.plain _, codeAny_builtin FB.initEntry ?_⟩
  rw [Around.under_plainId FB.init.plain _]
  wp_walk
  refine hq _ h.objs.size (fun b o hb ho => ?_) ?_
  · rw [Heap.get?_update_other _ _ (Ne.symm hb)]
    exact Heap.get?_push_of_some _ ho
  · rw [Heap.get?_update_self _ (Heap.get?_push_of_some _ he) rfl]
    rfl
end
section
variable {prog : Program} {w : World} {A : Around} {R : Result → Shared → Prop} {s : Shared} {K : Frag} {mg mb : Str → Option Value} {x msg : Str} {C fI : Addr}
theorem out_init (T : OutTxt prog K mg x msg C fI) {e t0 : Addr} {v : Value} (X : K.In s.heap) (hG : s.heap.Ns mainGlobals mg) (hB : s.heap.Ns builtinsNs mb) (hb : mb "super" = some (.type "super")) (hlim : s.heap.NoLimit)
    (hx : s.heap.get? e = some (excO C t0)) (hnx : K.lookup e = none) (hroom : A.depth < recursionLimit)
    (hq : ∀ h' tk dx, InitEnd s.heap h' "what" e C dx v → R (.ok (.ret .none)) { s with heap := h', toks := tk }) :
    codeAny (model prog w) A (.call (.ref fI) ⟨[.ref e, v], []⟩) R s := by
  obtain ⟨oc, ccl, cl, od, cdd, cld, cda, cc, q, vs, file, tf, ccs, csl, doc, pm, an, ct, osl, p1, p2, q0, q1, q2, q3, q4, q5, q6, q7, q8, q9, ho, hcd, hcode, hvs, hfile, hcell, hform⟩ := T.fn
  obtain ⟨pl, hform⟩ := hform s.heap.objs.size
  obtain ⟨nm, qn, N, bs, bm, sn, sub, ab, col, dd, k0, k1, k2, k3, k5, hC, hbm⟩ := T.cls
  have hcl : clsIn K C = some { name := nm, bases := bs, mro := .ref C :: bm, ns := N, qualname := qn, hasDict := true, slotNames := sn, subclasses := sub, abstract := ab, collection := col, hasDel := false } := by unfold clsIn; rw [hC] <;> rfl
  have hCd : ∃ oD, s.heap.get? C = some oD ∧ oD.data = .cls { name := nm, bases := bs, mro := .ref C :: bm, ns := N, qualname := qn, hasDict := true, slotNames := sn, subclasses := sub, abstract := ab, collection := col, hasDel := false } := ⟨_, X _ _ hC, rfl⟩
  obtain ⟨oD, hD1, hD2⟩ := hCd
  refine ks_codeAny_call_defAt (fd := ksFn "__init__" q (oA "what" p1 p2) (oB "what" msg q0 q1 q2 q3 q4 q5 q6 q7 q8 q9) (oS "what") .none .none doc pm an (.ref cda) ct cc) (body := oB "what" msg q0 q1 q2 q3 q4 q5 q6 q7 q8 q9)
    (binds := [("self", .ref e), ("what", v)]) hroom (X _ _ ho) rfl hlim (codeRec_of X hcd) rfl (BindsTo.of_eq (by first | rfl | with_unfolding_all rfl)) (show ∀ x ∈ (oS "what").names, x.2 ≠ .cell by decide) (by first | exact locs rfl | decide) (fun h₁ hns k₁ => ?_) rfl rfl rfl
  have hxL : s.heap.objs.size ≠ e := Nat.ne_of_gt (Heap.lt_size hx)
  have X₁ : K.In h₁ := X.keeps k₁
  have hx₁ := k₁ _ _ hx
  have I₁ : InstAt h₁ e (excO C t0) C none := ⟨hx₁, rfl, rfl, trivial⟩
  show wpAt _ (A.deeper (ksEnv q (oS "what") s.heap.objs.size fI (.ref cda) cc)) (.func _ (ksEnv q (oS "what") s.heap.objs.size fI (.ref cda) cc)) (execs (_ :: _) (ksEnv q (oS "what") s.heap.objs.size fI (.ref cda) cc)) _ _ _
  refine ks_wpAt_execs_cons ?_
  refine ks_wpAt_Expr_any ?_
  refine ks_wpAt_MethodCall (pl := pl) ?_ hform
  refine ks_wpAt_super_base (f := fI) (fd := ksFn "__init__" q (oA "what" p1 p2) (oB "what" msg q0 q1 q2 q3 q4 q5 q6 q7 q8 q9) (oS "what") .none .none doc pm an (.ref cda) ct cc) rfl rfl (by decide) rfl (X₁ _ _ ho) rfl rfl rfl (X₁ _ _ hcode) rfl hvs hfile T.top ?_
  refine ks_loadName_global rfl rfl (loadGlobal_builtin (hG.keeps k₁) T.gs (hB.keeps k₁) hb ⟨rfl, ?_⟩)
  refine wpAny_loadName_free rfl rfl rfl ⟨_, X₁ _ _ hcell, rfl⟩ ?_
  refine wpAny_loadName_local rfl rfl hns (by rfl) ?_
  refine ks_wpAny_isType_cls (k₁ _ _ hD1) hD2 ⟨rfl, ?_⟩
  refine ks_wpAny_call_super (k₁ _ _ hD1) hD2 hx₁ rfl (fun c z => by cases z) (looks_mroIn X₁ T.sub) (fun h₂ hso k₂ => ?_)
  have X₂ : K.In h₂ := X₁.keeps k₂
  have hx₂ := k₂ _ _ hx₁
  have I₂ : InstAt h₂ e (excO C t0) C none := ⟨hx₂, rfl, rfl, trivial⟩
  have hI : Looks (model prog w) h₂ (isInstance (.ref e) (.type "ValueError")) true := I₂.type.andThen (looks_subIn X₂ T.veC)
  have hup := T.up
  unfold ks_superIn at hup
  rw [hcl] at hup
  refine kxs_getMethod kxs_ValueError hso (looks_opaque X₂ T.opq) (l₀ := .ref C :: bm) ?_ rfl X₂ hup hI (ks_ne X₂ I₂ hcl) (by decide) ?_
  · exact fun A Q E s k q => wpAny_bind ((looks_clsIn X₂ hcl) A _ E s k (wpAny_pure q))
  show wpAny _ _ (callWith q4 (.ref h₂.objs.size) [] (backTo q4 (starEach [.Constant (.str msg) 0 q3] (ksEnv q (oS "what") s.heap.objs.size fI (.ref cda) cc))) []) _ _ _
  have k₃ : ∀ b o, h₂.get? b = some o → (h₂.push (kxs_mw "ValueError.__init__" e)).get? b = some o := fun b o z => Heap.get?_push_of_some _ z
  have hu : (h₂.push (kxs_mw "ValueError.__init__" e)).get? h₂.objs.size = some (kxs_mw "ValueError.__init__" e) := Heap.get?_push_at rfl rfl
  rw [show starEach [.Constant (.str msg) 0 q3] (ksEnv q (oS "what") s.heap.objs.size fI (.ref cda) cc) = (false, eval (.Constant (.str msg) 0 q3) (ksEnv q (oS "what") s.heap.objs.size fI (.ref cda) cc)) :: starEach [] (ksEnv q (oS "what") s.heap.objs.size fI (.ref cda) cc) from rfl]
  refine kxs_callWith (i := "ValueError.__init__") (x := e) rfl (evalArgs_plain ?_)
  refine Calls.spliced_cons (Calls.Constant_str (k := 0) (pos := q3) (Calls.spliced_nil ⟨hu, ?_⟩))
  refine call_mw PySem.F.excBase_ValueError (X₂.keeps k₃ _ _ hC) (k₃ _ _ hx₂) hu (one_size _) (fun h₄ t1 k₄ he₄ => ?_)
  have hxL : e ≠ s.heap.objs.size := Ne.symm hxL
  have kk : ∀ b o, b ≠ e → h₁.get? b = some o → h₄.get? b = some o := fun b o hb z => k₄ b o hb (k₃ _ _ (k₂ _ _ z))
  have hns4 : h₄.Ns s.heap.objs.size (fun y => ([("self", .ref e), ("what", v)] : List (Str × Value)).reverse.lookup y) := by
    obtain ⟨oL, es, ep, hL, r⟩ := hns
    exact ⟨oL, es, ep, kk _ _ (Ne.symm hxL) hL, r⟩
  have X₄ : K.In h₄ := fun a o z => kk a o (fun y => by rw [y, hnx] at z; cases z) (X₁ a o z)
  show wpAt _ _ _ (execs (_ :: _) (ksEnv q (oS "what") s.heap.objs.size fI (.ref cda) cc)) _ _ _
  refine wpAt_of_wpAny ?_
  refine wpAny_execs_cons (plainObj_wpAny_Assign_Attribute ?_)
  refine ESX.ldL (env := ksEnv q (oS "what") s.heap.objs.size fI (.ref cda) cc) (v := v) hns4 (by first | rfl | with_unfolding_all rfl | kernel_rfl) (ESX.ldL (env := ksEnv q (oS "what") s.heap.objs.size fI (.ref cda) cc) (v := .ref e) hns4 (by first | rfl | with_unfolding_all rfl | kernel_rfl) ?_)
  refine set_plain X₄ (ox := excO C t1) (od := none) ⟨he₄, rfl, rfl, trivial⟩ T.sa ?_
  refine exc_osa X₄ he₄ hcl (show refsVE (.ref C :: bm) = true from hbm) rfl T.noN (fun h₅ tk₅ dx k₅ dn dne hx₅ hn₅ => ?_)
  show wpAny _ _ (execs _ _) _ _ _
  refine wpAny_execs_nil (hq h₅ tk₅ dx ⟨fun b o hb z => k₅ b o hb (kk b o hb (k₁ b o z)), ⟨t1, hx₅⟩, ?_, dne, hn₅⟩)
  exact Nat.le_trans (Nat.le_of_lt hns4.lt) dn
theorem out_made (T : OutTxt prog K mg x msg C fI) {v : Value} (X : K.In s.heap) (hG : s.heap.Ns mainGlobals mg) (hB : s.heap.Ns builtinsNs mb) (hb : mb "super" = some (.type "super")) (hlim : s.heap.NoLimit) (hroom : A.depth + 1 < recursionLimit)
    (hq : ∀ h' tk e d, OwnMade s.heap h' "what" e C d v → R (.ok (.ret (.ref e))) { s with heap := h', toks := tk }) :
    codeAny (model prog w) A (.call (.ref C) ⟨[v], []⟩) R s := by
  obtain ⟨nm, q, N, bs, bm, sn, sub, ab, col, dd, k0, k1, k2, k3, k5, hC, hbm⟩ := T.cls
  obtain ⟨hp, g, dr, tk, os⟩ := s
  have k : ∀ b o, hp.get? b = some o → ((hp.push (kdv_tup [v])).push (excO C hp.objs.size)).get? b = some o := fun b o e => Heap.get?_push_of_some _ (Heap.get?_push_of_some _ e)
  have hget : ((hp.push (kdv_tup [v])).push (excO C hp.objs.size)).get? (hp.objs.size + 1) = some (excO C hp.objs.size) := by heap_get
  have hnx : K.lookup (hp.objs.size + 1) = none := by
    cases e : K.lookup (hp.objs.size + 1) with
    | none => rfl
    | some o =>
      have z : hp.get? (hp.objs.size + 1) = some o := X _ _ e
      exact absurd (Nat.lt_of_succ_lt (Heap.lt_size z)) (Nat.lt_irrefl _)
  refine call_own F.excBase_ValueError (fun X => refsVE_contains X bm hbm) (X _ _ hC) (looks_findIn X T.iC) (fun self => bind_fn X self T.tC) (one_size v) ?_
  refine out_init (s := ⟨(hp.push (kdv_tup [v])).push (excO C hp.objs.size), g, dr, tk, os⟩) T (X.keeps k) (hG.keeps k) (hB.keeps k) hb (hlim.keeps k) hget hnx ?_ fun h' tk' dx ⟨k', ⟨t1, hx⟩, dn, dne, hns⟩ => ?_
  · show A.depth + 1 < recursionLimit
    exact hroom
  · have old : ∀ b o, hp.get? b = some o → h'.get? b = some o := fun b o e => k' b o (Nat.ne_of_lt (Nat.lt_succ_of_lt (Heap.lt_size e))) (k b o e)
    have z : hp.objs.size + 1 + 1 ≤ dx := by
      first
        | (simpa only [Heap.size_push] using dn)
        | exact dn
        | (have q := dn; rw [Heap.size_push, Heap.size_push] at q; exact q)
    exact ⟨rfl, hq h' tk' (hp.objs.size + 1) dx ⟨old, Nat.le_succ _, ⟨_, _, hx, rfl, rfl, rfl, rfl⟩, Nat.le_trans (Nat.le_trans (Nat.le_succ _) (Nat.le_succ _)) z, dne, hns⟩⟩
end
end GX
end PySem
namespace L2
open PySem PySem.Spec PyProof.Rows
theorem relO_what {v : V} {v' : Value} (r : RelV v v') (n f : Str) : RelO (List.lookup f [((n : Str), v)]) (if f = n then some v' else none) := by
  by_cases hw : f = n
  · subst hw
    rw [if_pos rfl]
    have q : List.lookup f [((f : Str), v)] = some v := by simp [List.lookup]
    rw [q]
    exact r
  · rw [if_neg hw]
    have qw : (f == n) = false := by simpa using hw
    have q2 : List.lookup f [((n : Str), v)] = none := by simp [List.lookup, qw]
    rw [q2]
    trivial
section
variable {X : Cx} {C fI : Addr} {x msg : Str}
/-- x(e), an own error with one attribute -/
def tMkOut (C : Addr) (ta : TA) : St → Hp → XK → Prop := fun σ H Q => ta σ H fun vs H1 => ∃ v, vs = [v] ∧ ∀ d, H1 d = none → Q (.ref C) (some d) (upd H1 d (.xd [(("what" : Str), v)]))
theorem pmk_out {a : Expr} {ta : TA} {p pos : Pos} {k : Nat} (T : PySem.GX.OutTxt X.prog X.K X.mg x msg C fI) (hr : Room k X.A) (ha : PA X [a] ta) (hg : Gl X x := by rfl) (hd : (x == ("__debug__" : Str)) = false := by decide)
    (he : starEach (a :: []) X.env = (false, eval a X.env) :: starEach [] X.env := by rfl) (hpl : (backTo pos (starEach [] X.env)).any (·.1) = false := by rfl) :
    PMk X (.Call (.Name x p) [a] [] pos) (tMkOut C ta) := by
  intro pins s σ H Q I h
  refine wpAny_Call_Name_kw (ld_glob I hg T.gC ?_ hd)
  refine PySem.W.callWith_K (h₀ := X.base) I.ok.mod.kin T.kC (thn (ha.run pos pins s σ H _ I h) fun us s1 hh => ?_) he hpl
  obtain ⟨vs, H1, I1, r1, v, ev, q1⟩ := hh
  subst ev
  refine ⟨I1.kIn, ?_⟩
  cases r1 with
  | cons rv rn =>
    rename_i v' us'
    cases rn
    show wpAny _ _ (call (.ref C) [v']) _ _ _
    have hlim := I1.nolimit
    obtain ⟨mb, hmb, hmb2⟩ := I1.ok.mod.blt
    have hG := I1.ok.mod.glob.keeps I1.bk
    have hB := hmb.keeps I1.bk
    have hsup : mb "super" = some (.type "super") := (hmb2 _ (by decide)).trans (by decide +kernel)
    have X1 := I1.kIn
    obtain ⟨hp, g, dr, tk, os⟩ := s1
    refine wpAny_call (PySem.GX.out_made T X1 hG hB hsup hlim (by have := hr.dp; omega) fun h' tk' e d M => ?_)
    show MkP X pins σ Q (.ref e) ⟨h', g, dr, tk', os⟩
    obtain ⟨oe, fv, hoe, hc, hd, hdat, h1⟩ := M.obj
    have hns := M.ns
    obtain ⟨G', g1, g2⟩ := restrict h' fun b => decide (b ≠ e)
    have gk : ∀ b, b ≠ e → G'.get? b = h'.get? b := fun b hb => g1 b (decide_eq_true hb)
    have ge : G'.get? e = none := g2 e (by simp)
    have old : ∀ b o, hp.get? b = some o → G'.get? b = some o := fun b o q => (gk b (Nat.ne_of_lt (Nat.lt_of_lt_of_le (Heap.lt_size q) M.new))).trans (M.keep b o q)
    have ob : ObjOk X.prog X.w (upd H1 d (.xd [(("what" : Str), v)])) G' d (.xd [(("what" : Str), v)]) :=
      ⟨_, hns.at (fun o q => (gk d M.dne).trans q), fun f => relO_what rv _ f⟩
    have J : Inv X pins σ (upd H1 d (.xd [(("what" : Str), v)])) ⟨G', g, dr, tk', os⟩ := I1.laid (t' := tk') old M.dbig ob
    refine ⟨e, oe, fv, ⟨G', g, dr, tk', os⟩, _, .ref C, some d, rfl, J, fun b o q => ?_, ge, hoe, ⟨hc, hd⟩, hdat, h1, ?_, rfl, I1.bare, raises_own T.exC T.tyC, q1 d (I1.hok.fresh M.dbig)⟩
    · by_cases hb : b = e
      · have q' : G'.get? b = some o := q
        rw [hb, ge] at q'; cases q'
      · exact (gk b hb).symm.trans q
    · rw [upd_ne (Ne.symm M.dne)]
      exact I1.hok.fresh M.new
/-- raise x(e) -/
def tRaiseOut (C : Addr) (W : WX) (ta : TA) : TS := fun _ σ H => tMkOut C ta σ H fun cls d H' => W cls d σ H'
theorem ps_raiseOut {a : Expr} {ta : TA} {W : WX} {p pos pos2 : Pos} {k : Nat} (hc : X.calm = true) (T : PySem.GX.OutTxt X.prog X.K X.mg x msg C fI) (hr : Room k X.A) (tk : Takes X W) (ha : PA X [a] ta) (hg : Gl X x := by rfl) (hd : (x == ("__debug__" : Str)) = false := by decide)
    (he : starEach (a :: []) X.env = (false, eval a X.env) :: starEach [] X.env := by rfl) (hpl : (backTo pos (starEach [] X.env)).any (·.1) = false := by rfl) :
    PS X (.Raise (some (.Call (.Name x p) [a] [] pos)) none pos2) (tRaiseOut C W ta) := ps_raise hc tk (pmk_out T hr ha hg hd he hpl)
end
end L2

/-! GkRules -/
set_option Elab.async false
set_option Elab.async false
set_option linter.all false
set_option maxRecDepth 100000
set_option maxHeartbeats 2000000
/-! Operators that an own class defines, over HandS. -/
namespace L2
open PySem PySem.Spec PyProof.Rows
/-- the class at C has the name by the def at f -/
structure Own (K : PySem.W.Frag) (C f : Addr) (name : Str) : Prop where
  at_ : PySem.W.findIn K (.ref C) name = some (some (.ref f))
  fn : PySem.W.isFn K (.ref f) = true
theorem cmpBack_of {X : Cx} {pins : List (Addr × Obj)} {σ : St} {Q : VK} {v : Value} {s' : Shared} (h : EP X pins σ Q v s') : PySem.W.CmpBack (EP X pins σ Q) v s' := by
  cases v <;> first | exact h | skip
  obtain ⟨z, H, I, r, q⟩ := h
  cases z <;> first | (cases r; done) | (obtain ⟨t, e⟩ := r; cases e)
section
variable {X : Cx} {CX : CXT} {k : Nat} {C f : Addr} {fd : FuncData} {ps : List Str} {sp : Sp} {E : XK}
/-- x op y, both of the class at C -/
def rOwn2 (C : Addr) (sp : Sp) (E : XK) : R2 := fun x y H Q => ∃ a dx fs b dy gs, x = .ref a ∧ H a = some (.ins C dx fs) ∧ y = .ref b ∧ H b = some (.ins C dy gs) ∧ sp [x, y] H Q E
theorem op_own2 {op : Operator} (c : Own X.K C f (PySem.dunder op.info.2)) (cf : PySem.W.selfFirst X.K C = true) (F : FnOk X.prog X.w X.K X.mg X.base CX k f fd ps sp) (hr : Room k X.A) (hb : Binds X.K fd ps []) (hx : Passes CX X E) :
    OpR X (binaryOp op) (rOwn2 C sp E) := by
  intro pins s σ H x y v u Q I rx ry h
  obtain ⟨a, dx, fs, b, dy, gs, rfl, ha, rfl, hb2, q⟩ := h
  cases rx
  cases ry
  obtain ⟨m, hF⟩ := I.fr
  obtain ⟨mA, O, _⟩ := ins_get I.hok ha
  obtain ⟨od, J, _⟩ := O.look
  obtain ⟨mB, O2, _⟩ := ins_get I.hok hb2
  obtain ⟨od2, J2, _⟩ := O2.look
  exact PySem.W.binop_K hF I.ok.mod.kin J J2.type cf c.at_ c.fn (wpAny_mono (run_fn (us := [.ref a, .ref b]) (vs := [.ref a, .ref b]) F hr hb .nil hx I (.cons rfl (.cons rfl .nil)) q) (fun v s' h => cmpBack_of h) fun _ _ z => z)
/-- x op n, n an int -/
def rOwnI (C : Addr) (sp : Sp) (E : XK) : R2 := fun x y H Q => ∃ a dx fs i, x = .ref a ∧ H a = some (.ins C dx fs) ∧ y = .int i ∧ sp [x, y] H Q E
structure OwnI (K : PySem.W.Frag) (C : Addr) (op : Operator) : Prop where
  r : PySem.W.findIn K (.ref C) (dunderR op.info.2) = some none
  t1 : ∃ fo, PySem.W.findIn K (.type "int") (PySem.dunder op.info.2) = some fo
  t2 : ∃ ro, PySem.W.findIn K (.type "int") (dunderR op.info.2) = some ro
  sub : PySem.W.subIn K (.type "int") (.ref C) = some false
theorem op_ownI {op : Operator} (c : Own X.K C f (PySem.dunder op.info.2)) (ci : OwnI X.K C op) (cf : PySem.W.selfFirst X.K C = true) (F : FnOk X.prog X.w X.K X.mg X.base CX k f fd ps sp) (hr : Room k X.A) (hb : Binds X.K fd ps []) (hx : Passes CX X E) :
    OpR X (binaryOp op) (rOwnI C sp E) := by
  intro pins s σ H x y v u Q I rx ry h
  obtain ⟨a, dx, fs, i, rfl, ha, rfl, q⟩ := h
  cases rx
  obtain ⟨t, rfl⟩ := ry
  obtain ⟨m, hF⟩ := I.fr
  obtain ⟨mA, O, _⟩ := ins_get I.hok ha
  obtain ⟨od, J, _⟩ := O.look
  obtain ⟨fo, t1⟩ := ci.t1
  obtain ⟨ro, t2⟩ := ci.t2
  exact PySem.W.ksp_binT hF I.ok.mod.kin J rfl cf c.at_ c.fn ci.r (.inl rfl) t1 t2 ci.sub (wpAny_mono (run_fn (us := [.ref a, .int i t]) (vs := [.ref a, .int i]) F hr hb .nil hx I (.cons rfl (.cons ⟨t, rfl⟩ .nil)) q) (fun v s' h => cmpBack_of h) fun _ _ z => z)
/-- x op y, y of the class or an int -/
def rOwnB (C : Addr) (sp : Sp) (E : XK) : R2 := fun x y H Q => rOwn2 C sp E x y H Q ∨ rOwnI C sp E x y H Q
theorem op_ownB {op : Operator} (c : Own X.K C f (PySem.dunder op.info.2)) (ci : OwnI X.K C op) (cf : PySem.W.selfFirst X.K C = true) (F : FnOk X.prog X.w X.K X.mg X.base CX k f fd ps sp) (hr : Room k X.A) (hb : Binds X.K fd ps []) (hx : Passes CX X E) :
    OpR X (binaryOp op) (rOwnB C sp E) := by
  intro pins s σ H x y v u Q I rx ry h
  rcases h with h | h
  · exact op_own2 c cf F hr hb hx pins s σ H x y v u Q I rx ry h
  · exact op_ownI c ci cf F hr hb hx pins s σ H x y v u Q I rx ry h
/-- -x -/
def rOwnU (C : Addr) (sp : Sp) (E : XK) : V → Hp → VK → Prop := fun x H Q => ∃ a dx fs, x = .ref a ∧ H a = some (.ins C dx fs) ∧ sp [x] H Q E
theorem un_ownNeg (c : Own X.K C f "__neg__") (F : FnOk X.prog X.w X.K X.mg X.base CX k f fd ps sp) (hr : Room k X.A) (hb : Binds X.K fd ps []) (hx : Passes CX X E) :
    UnR X (unaryOp .USub) (rOwnU C sp E) := by
  intro pins s σ H x v Q I rx h
  obtain ⟨a, dx, fs, rfl, ha, q⟩ := h
  cases rx
  obtain ⟨m, hF⟩ := I.fr
  obtain ⟨mA, O, _⟩ := ins_get I.hok ha
  obtain ⟨od, J, _⟩ := O.look
  exact PySem.W.ksp_neg hF I.ok.mod.kin J c.at_ c.fn (run_fn (us := [.ref a]) (vs := [.ref a]) F hr hb .nil hx I (.cons rfl .nil) q)
/-- x == y, x of the class, y any value whose type is known -/
def rOwnEq (K : PySem.W.Frag) (C : Addr) (sp : Sp) (E : XK) : R2 := fun x y H Q => ∃ a dx fs t, x = .ref a ∧ H a = some (.ins C dx fs) ∧ TyX K H y t ∧ PySem.W.notFirst K C t = true ∧ sp [x, y] H Q E
theorem op_ownEq (c : Own X.K C f "__eq__") (F : FnOk X.prog X.w X.K X.mg X.base CX k f fd ps sp) (hr : Room k X.A) (hb : Binds X.K fd ps []) (hx : Passes CX X E) :
    OpR X (compareOp .Eq) (rOwnEq X.K C sp E) := by
  intro pins s σ H x y v u Q I rx ry h
  obtain ⟨a, dx, fs, t, rfl, ha, ty, hn, q⟩ := h
  cases rx
  obtain ⟨m, hF⟩ := I.fr
  obtain ⟨mA, O, _⟩ := ins_get I.hok ha
  obtain ⟨od, J, _⟩ := O.look
  obtain ⟨P, Z, p, _⟩ := kit_of I ry ty
  refine PySem.W.cmp_ofEq (PySem.W.cmp_K (op := .Eq) hr.units0 hF I.ok.mod.kin J (Z.ty _ _ I.kIn p) hn c.at_ c.fn ?_)
  exact wpAny_mono (run_fn (us := [.ref a, u]) (vs := [.ref a, y]) F hr hb .nil hx I (.cons rfl (.cons ry .nil)) q) (fun v s' h => cmpBack_of h) fun _ _ z => z
/-- x as a test, bool(x), by its own __bool__ -/
theorem tru_own (c : Own X.K C f "__bool__") (F : FnOk X.prog X.w X.K X.mg X.base CX k f fd ps sp) (hr : Room k X.A) (hb : Binds X.K fd ps []) (hx : Passes CX X E) :
    TruR X (fun x H Q => ∃ a dx fs, x = .ref a ∧ H a = some (.ins C dx fs) ∧ sp [x] H (fun z H' => ∃ b, z = .bl b ∧ Q b H') E) := by
  intro pins s σ H x v Q I rx h
  obtain ⟨a, dx, fs, rfl, ha, q⟩ := h
  cases rx
  obtain ⟨m, hF⟩ := I.fr
  obtain ⟨mA, O, _⟩ := ins_get I.hok ha
  obtain ⟨od, J, _⟩ := O.look
  refine PySem.W.truthy_K hF I.ok.mod.kin J c.at_ c.fn (wpAny_mono (run_fn (us := [.ref a]) (vs := [.ref a]) F hr hb .nil hx I (.cons rfl .nil) q) (fun v s' h => ?_) fun _ _ z => z)
  obtain ⟨z, H', I', r, b, e, q'⟩ := h
  subst e
  cases r
  exact ⟨H', I', q'⟩
/-- the callee runs, further in -/
theorem run_at {A' : Around} {pins : List (Addr × Obj)} {σ : St} {H : Hp} {s : Shared} {Q : VK} {us : List Value} {vs : List V} (F : FnOk X.prog X.w X.K X.mg X.base CX k f fd ps sp) (hr : Room k A') (hb : Binds X.K fd ps []) (hx : Passes CX X E)
    (I : Inv X pins σ H s) (e0 : Env0 X.prog X.w X.K X.mg X.base A' X.stack s H) (r : Vals vs us) (h : sp vs H Q E) : wpAny (model X.prog X.w) A' (call (.ref f) us) (EP X pins σ Q) X.xe s := by
  have hl : us.length = ps.length := by rw [← r.length]; exact F.len _ _ _ _ h
  have hb' := hb s us I.kIn (by rw [List.append_nil]; exact hl)
  rw [List.append_nil] at hb'
  refine wpAny_call (codeAny_mono (F.run A' X.stack s H ⟨us, []⟩ us vs Q E hr e0 hb' r h) fun r s' hq => ?_)
  cases r with
  | error e => exact hx pins σ H s e s' I hq
  | ok fl =>
    cases fl with
    | ret u => exact I.after hq
    | next => exact False.elim hq
    | brk => exact False.elim hq
    | cont => exact False.elim hq
/-- repr(x) by its own __repr__ -/
theorem call_ownRepr (c : Own X.K C f "__repr__") (F : FnOk X.prog X.w X.K X.mg X.base CX k f fd ps sp) (hr : Room (k + 1) X.A) (hb : Binds X.K fd ps []) (hx : Passes CX X E) :
    CallR X (.builtin "repr") (fun xs H Q => ∃ a dx fs, xs = [.ref a] ∧ H a = some (.ins C dx fs) ∧ sp [.ref a] H (fun z H' => ∃ y, z = .str y ∧ Q z H') E) := by
  intro pins s σ H xs us Q I r h
  obtain ⟨a, dx, fs, rfl, ha, q⟩ := h
  obtain rfl := Vals.ref1 r
  obtain ⟨m, hF⟩ := I.fr
  obtain ⟨mA, O, _⟩ := ins_get I.hok ha
  obtain ⟨od, J, _⟩ := O.look
  refine PySem.W.repr_K (show X.A.units + 1 < cLine by have := hr.units; omega) hF I.ok.mod.kin J c.at_ c.fn (wpAny_mono (run_at (us := [.ref a]) (vs := [.ref a]) F hr.in1 hb hx I I.env0.in1 (.cons rfl .nil) q) (fun v s' h => ?_) fun _ _ z => z)
  obtain ⟨z, H', I', rz, y, e, q'⟩ := h
  subst e
  obtain ⟨t, rfl⟩ := rz
  exact ⟨.str y, H', I', ⟨t, rfl⟩, q'⟩
/-- len(x) by its own __len__ -/
theorem call_ownLen (c : Own X.K C f "__len__") (F : FnOk X.prog X.w X.K X.mg X.base CX k f fd ps sp) (hr : Room (k + 1) X.A) (hb : Binds X.K fd ps []) (hx : Passes CX X E) :
    CallR X (.builtin "len") (fun xs H Q => ∃ a dx fs, xs = [.ref a] ∧ H a = some (.ins C dx fs) ∧ sp [.ref a] H (fun z H' => ∃ n : Int, z = .int n ∧ 0 ≤ n ∧ n < 2 ^ 63 ∧ Q z H') E) := by
  intro pins s σ H xs us Q I r h
  obtain ⟨a, dx, fs, rfl, ha, q⟩ := h
  obtain rfl := Vals.ref1 r
  obtain ⟨m, hF⟩ := I.fr
  obtain ⟨mA, O, _⟩ := ins_get I.hok ha
  obtain ⟨od, J, _⟩ := O.look
  refine PySem.W.len_K hF I.ok.mod.kin J c.at_ c.fn (wpAny_mono (run_at (us := [.ref a]) (vs := [.ref a]) F hr.in1 hb hx I I.env0.in1 (.cons rfl .nil) q) (fun v s' h => ?_) fun _ _ z => z)
  obtain ⟨z, H', I', rz, n, e, h0, h1, q'⟩ := h
  subst e
  obtain ⟨t, rfl⟩ := rz
  exact ⟨⟨h0, h1⟩, .int n, H', I'.tok _, ⟨_, rfl⟩, q'⟩
theorem bool_in {prog : Program} {w : World} (a : Addr) : MeetsIn prog w (Builtin.«bool.__new__» ⟨[.type "bool", .ref a], []⟩)
    (fun A R s => wpAny (model prog w) A.in1 (truthy (.ref a)) (fun b s' => R (.ok (.ret (.bool b))) s') (fun e s' => R (.error e) s') s) := by
  intro A R s h
  have f1 := PySem.F.conv_sub_bool
  have h' : wpAny (model prog w) A.in1 (truthy (.ref a)) (fun b s' => R (.ok (.ret (.bool b))) s') (fun e s' => R (.error e) s') s := h
  obtain ⟨hp, g, d, tk, os⟩ := s
  repeat (any_goals (first | assumption | (with_reducible refine wpAny_mono h' (fun b s' q => ?_) (fun _ _ z => z)) | wp_step))
  all_goals first | exact q | skip
/-- bool(x) by its own __bool__ -/
theorem call_ownBool (c : Own X.K C f "__bool__") (F : FnOk X.prog X.w X.K X.mg X.base CX k f fd ps sp) (hr : Room (k + 2) X.A) (hb : Binds X.K fd ps []) (hx : Passes CX X E) :
    CallR X (.type "bool") (fun xs H Q => ∃ a dx fs, xs = [.ref a] ∧ H a = some (.ins C dx fs) ∧ sp [.ref a] H (fun z H' => ∃ b, z = .bl b ∧ Q z H') E) := by
  intro pins s σ H xs us Q I r h
  obtain ⟨a, dx, fs, rfl, ha, q⟩ := h
  obtain rfl := Vals.ref1 r
  obtain ⟨m, hF⟩ := I.fr
  obtain ⟨mA, O, _⟩ := ins_get I.hok ha
  obtain ⟨od, J, _⟩ := O.look
  refine callType_newIn PySem.F.called_bool PySem.F.newNe_bool (PySem.F.typeCall_bool_1 _) (PySem.F.newCall_bool_1 _) (fun obj => PySem.F.args_object_init_2 obj _) PySem.F.entry_bool_new (bool_in a) ?_
  refine PySem.W.truthy_K hF I.ok.mod.kin J c.at_ c.fn (wpAny_mono (run_at (us := [.ref a]) (vs := [.ref a]) F hr.in1.in1 hb hx I I.env0.in1.in1 (.cons rfl .nil) q) (fun v s' h => ?_) fun _ _ z => z)
  obtain ⟨z, H', I', rz, b, e, q'⟩ := h
  subst e
  cases rz
  exact ⟨rfl, .bl b, H', I', rfl, q'⟩
end
section
variable {X : Cx} {CX : CXT} {k : Nat} {C p g : Addr} {mc : Value} {fd : FuncData} {ps : List Str} {sp : Sp} {E : XK} {o e : Expr} {es : List Expr} {m : Str} {pos apos : Pos} {ta : TE} {t : TA} {pl : Sem Bool}
/-- a test by any rule of truth -/
theorem pt_truthR {a : Expr} {ta : TE} {r : V → Hp → (Bool → Hp → Prop) → Prop} (hr : TruR X r) (ha : PE X a ta) (he : ∀ whole, isTrue a X.env whole = (do let v ← whole; standAt a.pos; holding [v] (truthy v)) := by intro _; rfl) :
    PT X a (fun σ H Q => ta σ H fun x H' => r x H' Q) := by
  refine ⟨fun pins s σ H Q I h => ?_⟩
  exact isTrue_plain (thn (ha.run pins s σ H _ I h) fun v s1 ⟨x, H1, I1, r1, q1⟩ => hr pins s1 σ H1 x v Q I1 r1 q1) (he _)
/-- C.m is a staticmethod: its record at p, its def at g -/
structure SMet (K : PySem.W.Frag) (C : Addr) (mc : Value) (m : Str) (p g : Addr) : Prop where
  rd : PySem.W.readsIn K C mc = true
  ga : PySem.W.specialIn K (.ref C) "__getattribute__" = some (some (.builtin "type.__getattribute__"))
  at_ : PySem.W.findCls K (.ref C) mc m = some (.get (.builtin "staticmethod.__get__") (.ref p) .none (.ref C))
  rc : ∃ rest, PySem.W.recIn K p "staticmethod" = some (.ref g :: rest)
  kp : PySem.W.keepIn K (.ref g) = true
/-- C.m(e, ..), C a class by its name, m a staticmethod -/
def tSMeth (C : Addr) (sp : Sp) (E : XK) (ta : TE) (t : TA) : TE := fun σ H Q => ta σ H fun x H1 => x = .ref C ∧ t σ H1 fun vs H2 => sp vs H2 Q E
theorem pe_smeth (he : PE X o ta) (c : SMet X.K C mc m p g) (F : FnOk X.prog X.w X.K X.mg X.base CX k g fd ps sp) (hr : Room k X.A) (hb : Binds X.K fd ps []) (hx : Passes CX X E) (ha : PA X (e :: es) t)
    (hst : starEach (e :: es) X.env = (false, eval e X.env) :: starEach es X.env := by rfl) (hpl : (backTo pos (starEach es X.env)).any (·.1) = false := by rfl)
    (ht : eval (.Call (.Attribute o m apos) (e :: es) [] pos) X.env = (do
      let ov ← eval o X.env
      standAt apos.atName
      let (f, first) ← holding [ov] (getMethod ov m pl)
      callWith pos f first (backTo pos (starEach (e :: es) X.env)) (backToKw pos (keywordEach [] X.env))) := by rfl) :
    PE X (.Call (.Attribute o m apos) (e :: es) [] pos) (tSMeth C sp E ta t) := by
  refine ⟨fun pins s σ H Q I h => ?_⟩
  refine PySem.W.methodCall_KW (pl := pl) (thn (he.run pins s σ H _ I h) fun u s1 ⟨x, H1, I1, rx, ex, q⟩ => ?_) ht
  subst ex
  obtain rfl : u = Value.ref C := rx
  obtain ⟨rest, hp⟩ := c.rc
  refine PySem.W.method_cls I1.kIn c.ga (PySem.W.cls_bind I1.kIn c.rd c.at_ (wpAny_call (PySem.W.sm_get (s := { s1 with toks := s1.toks + 1 }) I1.kIn hp (PySem.W.handed_on rfl ?_))))
  have I2 := I1.tok (s1.toks + 1)
  refine PySem.W.callWith_K (first := []) (h₀ := X.base) I.ok.mod.kin c.kp (thn (ha.run pos pins _ σ H1 _ I2 q) fun us s2 ⟨vs, H2, I3, r, q2⟩ => ⟨I3.kIn, ?_⟩) hst hpl
  exact run_fn (us := us) (vs := vs) F hr hb .nil hx I3 r (by rw [List.append_nil]; exact q2)
end
end L2

/-! GkDf -/
set_option Elab.async false
set_option Elab.async false
set_option linter.all false
set_option maxRecDepth 100000
set_option maxHeartbeats 2000000
/-! Defs as they stand behind the top, bundled: their promise, their place, how their arguments bind. -/
namespace L2
open PySem PySem.Spec PyProof.Rows
section
variable (P : Program) (w : World) (K : PySem.W.Frag) (mg : Str → Option Value) (base : Heap) (CX : CXT) (k : Nat)
/-- the def that the module names x -/
structure Df (x : Str) (dvs : List V) (sp : Sp) : Prop where
  ex : ∃ (f : Addr) (fd : FuncData) (ps : List Str) (ds : List Value), FnOk P w K mg base CX k f fd ps sp ∧ mg x = some (.ref f) ∧ PySem.W.keepIn K (.ref f) = true ∧ Binds K fd ps ds ∧ Vals dvs ds
/-- the class x at C, made by its __init__ -/
structure DfC (x : Str) (C : Addr) (dvs : List V) (sp : Sp) : Prop where
  ex : ∃ (f : Addr) (fd : FuncData) (ps : List Str) (ds : List Value), Mk K C f ∧ FnOk P w K mg base CX k f fd ps sp ∧ mg x = some (.ref C) ∧ Binds K fd ps ds ∧ Vals dvs ds
/-- a method m of the class at C -/
structure DfM (C : Addr) (m : Str) (sp : Sp) : Prop where
  ex : ∃ (f : Addr) (fd : FuncData) (ps : List Str), Cls K C ∧ Meth K C m f ∧ FnOk P w K mg base CX k f fd ps sp ∧ Binds K fd ps []
/-- a special method -/
structure DfO (C : Addr) (m : Str) (sp : Sp) : Prop where
  ex : ∃ (f : Addr) (fd : FuncData) (ps : List Str), Own K C f m ∧ FnOk P w K mg base CX k f fd ps sp ∧ Binds K fd ps []
/-- a property -/
structure DfP (C : Addr) (m : Str) (sp : Sp) : Prop where
  ex : ∃ (p g : Addr) (fd : FuncData) (ps : List Str), Cls K C ∧ PropOf K C m p g ∧ FnOk P w K mg base CX k g fd ps sp ∧ Binds K fd ps []
/-- a staticmethod -/
structure DfS (C : Addr) (m : Str) (sp : Sp) : Prop where
  ex : ∃ (mc : Value) (p g : Addr) (fd : FuncData) (ps : List Str), SMet K C mc m p g ∧ FnOk P w K mg base CX k g fd ps sp ∧ Binds K fd ps []
end
section
variable {X : Cx} {CX : CXT} {j k : Nat} {C : Addr} {x m : Str} {dvs : List V} {sp : Sp} {E : XK} {o e : Expr} {es : List Expr} {p pos apos : Pos} {ta : TE} {t : TA} {pl : Sem Bool}
theorem pe_df (d : Df X.prog X.w X.K X.mg X.base CX k x dvs sp) (hr : Room j X.A) (hk : k ≤ j) (hx : Passes CX X E) (ha : PA X (e :: es) t) (hg : Gl X x := by rfl) (hdb : (x == ("__debug__" : Str)) = false := by decide)
    (he : starEach (e :: es) X.env = (false, eval e X.env) :: starEach es X.env := by rfl) (hpl : (backTo pos (starEach es X.env)).any (·.1) = false := by rfl) :
    PE X (.Call (.Name x p) (e :: es) [] pos) (tCall sp dvs E t) := by
  obtain ⟨f, fd, ps, ds, F, hm, kp, hb, hd⟩ := d.ex
  exact pe_call F (hr.mono hk) hg hm kp hb hd hx ha hdb he hpl
theorem pe_dfC (d : DfC X.prog X.w X.K X.mg X.base CX k x C dvs sp) (hr : Room j X.A) (hk : k + 1 ≤ j) (hx : Passes CX X E) (ha : PA X (e :: es) t) (hg : Gl X x := by rfl) (hdb : (x == ("__debug__" : Str)) = false := by decide)
    (he : starEach (e :: es) X.env = (false, eval e X.env) :: starEach es X.env := by rfl) (hpl : (backTo pos (starEach es X.env)).any (·.1) = false := by rfl) :
    PE X (.Call (.Name x p) (e :: es) [] pos) (tMake C sp dvs E t) := by
  obtain ⟨f, fd, ps, ds, M, F, hm, hb, hd⟩ := d.ex
  exact pe_make M F (hr.mono hk) hg hm hb hd hx ha hdb he hpl
theorem pe_dfM (d : DfM X.prog X.w X.K X.mg X.base CX k C m sp) (hr : Room j X.A) (hk : k ≤ j) (hx : Passes CX X E) (he : PE X o ta) (ha : PA X (e :: es) t)
    (hst : starEach (e :: es) X.env = (false, eval e X.env) :: starEach es X.env := by rfl) (hpl : (backTo pos (starEach es X.env)).any (·.1) = false := by rfl)
    (ht : eval (.Call (.Attribute o m apos) (e :: es) [] pos) X.env = (do
      let ov ← eval o X.env
      standAt apos.atName
      let (f, first) ← holding [ov] (getMethod ov m pl)
      callWith pos f first (backTo pos (starEach (e :: es) X.env)) (backToKw pos (keywordEach [] X.env))) := by rfl) :
    PE X (.Call (.Attribute o m apos) (e :: es) [] pos) (tMeth C m sp [] E ta t) := by
  obtain ⟨f, fd, ps, c, hm, F, hb⟩ := d.ex
  exact pe_meth he c hm F (hr.mono hk) hb .nil hx ha hst hpl ht
theorem pe_dfS (d : DfS X.prog X.w X.K X.mg X.base CX k C m sp) (hr : Room j X.A) (hk : k ≤ j) (hx : Passes CX X E) (he : PE X o ta) (ha : PA X (e :: es) t)
    (hst : starEach (e :: es) X.env = (false, eval e X.env) :: starEach es X.env := by rfl) (hpl : (backTo pos (starEach es X.env)).any (·.1) = false := by rfl)
    (ht : eval (.Call (.Attribute o m apos) (e :: es) [] pos) X.env = (do
      let ov ← eval o X.env
      standAt apos.atName
      let (f, first) ← holding [ov] (getMethod ov m pl)
      callWith pos f first (backTo pos (starEach (e :: es) X.env)) (backToKw pos (keywordEach [] X.env))) := by rfl) :
    PE X (.Call (.Attribute o m apos) (e :: es) [] pos) (tSMeth C sp E ta t) := by
  obtain ⟨mc, p, g, fd, ps, c, F, hb⟩ := d.ex
  exact pe_smeth he c F (hr.mono hk) hb hx ha hst hpl ht
theorem pe_dfP (d : DfP X.prog X.w X.K X.mg X.base CX k C m sp) (hr : Room j X.A) (hk : k + 1 ≤ j) (hx : Passes CX X.nox E) (he : PE X e ta) (hab : attributeBase e m X.env (eval e X.env) = eval e X.env := by rfl) :
    PE X (.Attribute e m pos) (tProp C sp [] E ta) := by
  obtain ⟨p, g, fd, ps, c, hp, F, hb⟩ := d.ex
  exact pe_prop he c hp F (hr.mono hk) hb .nil hx hab
theorem op_dfB {op : Operator} (d : DfO X.prog X.w X.K X.mg X.base CX k C (PySem.dunder op.info.2) sp) (ci : OwnI X.K C op) (cf : PySem.W.selfFirst X.K C = true) (hr : Room j X.A) (hk : k ≤ j) (hx : Passes CX X E) : OpR X (binaryOp op) (rOwnB C sp E) := by
  obtain ⟨f, fd, ps, c, F, hb⟩ := d.ex
  exact op_ownB c ci cf F (hr.mono hk) hb hx
theorem un_dfNeg (d : DfO X.prog X.w X.K X.mg X.base CX k C "__neg__" sp) (hr : Room j X.A) (hk : k ≤ j) (hx : Passes CX X E) : UnR X (unaryOp .USub) (rOwnU C sp E) := by
  obtain ⟨f, fd, ps, c, F, hb⟩ := d.ex
  exact un_ownNeg c F (hr.mono hk) hb hx
theorem op_dfEq (d : DfO X.prog X.w X.K X.mg X.base CX k C "__eq__" sp) (hr : Room j X.A) (hk : k ≤ j) (hx : Passes CX X E) : OpR X (compareOp .Eq) (rOwnEq X.K C sp E) := by
  obtain ⟨f, fd, ps, c, F, hb⟩ := d.ex
  exact op_ownEq c F (hr.mono hk) hb hx
theorem call_dfBool (d : DfO X.prog X.w X.K X.mg X.base CX k C "__bool__" sp) (hr : Room j X.A) (hk : k + 2 ≤ j) (hx : Passes CX X E) :
    CallR X (.type "bool") (fun xs H Q => ∃ a dx fs, xs = [.ref a] ∧ H a = some (.ins C dx fs) ∧ sp [.ref a] H (fun z H' => ∃ b, z = .bl b ∧ Q z H') E) := by
  obtain ⟨f, fd, ps, c, F, hb⟩ := d.ex
  exact call_ownBool c F (hr.mono hk) hb hx
theorem tru_df (d : DfO X.prog X.w X.K X.mg X.base CX k C "__bool__" sp) (hr : Room j X.A) (hk : k ≤ j) (hx : Passes CX X E) :
    TruR X (fun x H Q => ∃ a dx fs, x = .ref a ∧ H a = some (.ins C dx fs) ∧ sp [x] H (fun z H' => ∃ b, z = .bl b ∧ Q b H') E) := by
  obtain ⟨f, fd, ps, c, F, hb⟩ := d.ex
  exact tru_own c F (hr.mono hk) hb hx
theorem call_dfRepr (d : DfO X.prog X.w X.K X.mg X.base CX k C "__repr__" sp) (hr : Room j X.A) (hk : k + 1 ≤ j) (hx : Passes CX X E) :
    CallR X (.builtin "repr") (fun xs H Q => ∃ a dx fs, xs = [.ref a] ∧ H a = some (.ins C dx fs) ∧ sp [.ref a] H (fun z H' => ∃ y, z = .str y ∧ Q z H') E) := by
  obtain ⟨f, fd, ps, c, F, hb⟩ := d.ex
  exact call_ownRepr c F (hr.mono hk) hb hx
theorem call_dfLen (d : DfO X.prog X.w X.K X.mg X.base CX k C "__len__" sp) (hr : Room j X.A) (hk : k + 1 ≤ j) (hx : Passes CX X E) :
    CallR X (.builtin "len") (fun xs H Q => ∃ a dx fs, xs = [.ref a] ∧ H a = some (.ins C dx fs) ∧ sp [.ref a] H (fun z H' => ∃ n : Int, z = .int n ∧ 0 ≤ n ∧ n < 2 ^ 63 ∧ Q z H') E) := by
  obtain ⟨f, fd, ps, c, F, hb⟩ := d.ex
  exact call_ownLen c F (hr.mono hk) hb hx
/-- // by any divisor but 0 below 2 ^ 9000 -/
def CDivX (_ j : Int) : Prop := j ≠ 0 ∧ j.natAbs.log2 < 9000
theorem op_fdivX : OpR X (binaryOp .FloorDiv) (rI CDivX fun i j => .int (i.fdiv j)) := opI fun _ _ _ _ _ _ _ hc q => floordiv_int hc.1 q (.inl (PyProof.noPylong_of_log2 hc.2))
end
end L2

/-! GkMath -/
set_option Elab.async false
set_option Elab.async false
set_option linter.all false
set_option maxRecDepth 100000
set_option maxHeartbeats 2000000
/-! Fractions: plain law. -/
namespace GM
open PySem
/-- size: below 2 ^ n -/
def Sz (n : Nat) (i : Int) : Prop := i.natAbs < 2 ^ n
theorem Sz.log {n : Nat} {i : Int} (h : Sz n i) (h0 : 0 < n) : i.natAbs.log2 < n := PySem.Flt.log2_lt_of h0 h
theorem Sz.mono {n m : Nat} {i : Int} (h : Sz n i) (hm : n ≤ m) : Sz m i := Nat.lt_of_lt_of_le h (Nat.pow_le_pow_right (by decide) hm)
theorem Sz.mul {n m : Nat} {i j : Int} (h : Sz n i) (g : Sz m j) : Sz (n + m) (i * j) := by
  unfold Sz
  rw [Int.natAbs_mul, Nat.pow_add]
  exact Nat.mul_lt_mul'' h g
theorem Sz.add {n m k : Nat} {i j : Int} (h : Sz n i) (g : Sz m j) (h1 : n + 1 ≤ k) (h2 : m + 1 ≤ k) : Sz k (i + j) := by
  have a : 2 ^ (n + 1) ≤ 2 ^ k := Nat.pow_le_pow_right (by decide) h1
  have b : 2 ^ (m + 1) ≤ 2 ^ k := Nat.pow_le_pow_right (by decide) h2
  rw [Nat.pow_succ] at a b
  unfold Sz at *
  omega
theorem Sz.sub {n m k : Nat} {i j : Int} (h : Sz n i) (g : Sz m j) (h1 : n + 1 ≤ k) (h2 : m + 1 ≤ k) : Sz k (i - j) := by
  have a : 2 ^ (n + 1) ≤ 2 ^ k := Nat.pow_le_pow_right (by decide) h1
  have b : 2 ^ (m + 1) ≤ 2 ^ k := Nat.pow_le_pow_right (by decide) h2
  rw [Nat.pow_succ] at a b
  unfold Sz at *
  omega
theorem Sz.neg {n : Nat} {i : Int} (h : Sz n i) : Sz n (-i) := by unfold Sz at *; omega
theorem Sz.le {n : Nat} {i j : Int} (h : Sz n j) (g : i.natAbs ≤ j.natAbs) : Sz n i := Nat.lt_of_le_of_lt g h
/-- a fraction's size -/
def SzR (n : Nat) (q : Rat) : Prop := Sz n q.num ∧ Sz n (q.den : Int)
theorem SzR.mono {n m : Nat} {q : Rat} (h : SzR n q) (hm : n ≤ m) : SzR m q := ⟨h.1.mono hm, h.2.mono hm⟩
/-- the divisor that the constructor uses -/
def cm (t b : Int) : Int := if b < 0 then -((Nat.gcd t.natAbs b.natAbs : Nat) : Int) else ((Nat.gcd t.natAbs b.natAbs : Nat) : Int)
theorem gcd_pos {t b : Int} (hb : b ≠ 0) : 0 < Nat.gcd t.natAbs b.natAbs := Nat.gcd_pos_of_pos_right _ (by omega)
theorem cm_ne {t b : Int} (hb : b ≠ 0) : cm t b ≠ 0 := by
  have := gcd_pos (t := t) hb
  unfold cm
  split <;> omega
theorem cm_top {t b : Int} (hb : b ≠ 0) : t.fdiv (cm t b) = (Rat.divInt t b).num := by
  have hg := gcd_pos (t := t) hb
  have dt : ((Nat.gcd t.natAbs b.natAbs : Nat) : Int) ∣ t := Int.ofNat_dvd_left.mpr (Nat.gcd_dvd_left _ _)
  obtain ⟨c, hc⟩ := dt
  have hgz : ((Nat.gcd t.natAbs b.natAbs : Nat) : Int) ≠ 0 := by omega
  rw [Rat.num_divInt, Int.gcd_comm]
  show _ = b.sign * t / ((Nat.gcd t.natAbs b.natAbs : Nat) : Int)
  generalize hG : ((Nat.gcd t.natAbs b.natAbs : Nat) : Int) = G at *
  unfold cm
  rw [hG]
  by_cases h : b < 0
  · rw [if_pos h, Int.sign_eq_neg_one_of_neg h]
    have e1 : t = (-c) * (-G) := by rw [hc]; grind
    have e2 : -1 * t = G * (-c) := by rw [hc]; grind
    rw [e2, Int.mul_ediv_cancel_left _ hgz, e1, Int.mul_fdiv_cancel _ (by omega)]
  · rw [if_neg h, Int.sign_eq_one_of_pos (by omega), Int.one_mul]
    have e1 : t = c * G := by rw [hc]; grind
    rw [e1, Int.mul_fdiv_cancel _ hgz, Int.mul_ediv_cancel _ hgz]
theorem cm_bot {t b : Int} (hb : b ≠ 0) : b.fdiv (cm t b) = ((Rat.divInt t b).den : Int) := by
  have hg := gcd_pos (t := t) hb
  have db : ((Nat.gcd t.natAbs b.natAbs : Nat) : Int) ∣ b := Int.ofNat_dvd_left.mpr (Nat.gcd_dvd_right _ _)
  obtain ⟨c, hc⟩ := db
  have hgz : ((Nat.gcd t.natAbs b.natAbs : Nat) : Int) ≠ 0 := by omega
  rw [Rat.den_divInt, if_neg hb, Int.gcd_comm]
  show _ = ((b.natAbs / Nat.gcd t.natAbs b.natAbs : Nat) : Int)
  rw [Int.natCast_ediv]
  generalize hG : ((Nat.gcd t.natAbs b.natAbs : Nat) : Int) = G at *
  unfold cm
  rw [hG]
  by_cases h : b < 0
  · rw [if_pos h, Int.ofNat_natAbs_of_nonpos (by omega)]
    have e1 : b = (-c) * (-G) := by rw [hc]; grind
    have e2 : -b = (-c) * G := by rw [hc]; grind
    rw [e2, Int.mul_ediv_cancel _ hgz]
    conv => lhs; rw [e1]
    rw [Int.mul_fdiv_cancel _ (by omega)]
  · rw [if_neg h, Int.natAbs_of_nonneg (by omega)]
    have e1 : b = c * G := by rw [hc]; grind
    rw [e1, Int.mul_fdiv_cancel _ hgz, Int.mul_ediv_cancel _ hgz]
theorem fdiv_le {t g : Int} (hg : g ≠ 0) (h : g ∣ t) : (t.fdiv g).natAbs ≤ t.natAbs := by
  obtain ⟨c, hc⟩ := h
  rw [hc, Int.mul_comm, Int.mul_fdiv_cancel _ hg, Int.natAbs_mul]
  exact Nat.le_mul_of_pos_right _ (by omega)
theorem cm_dvd_top {t b : Int} : cm t b ∣ t := by
  have dt : ((Nat.gcd t.natAbs b.natAbs : Nat) : Int) ∣ t := Int.ofNat_dvd_left.mpr (Nat.gcd_dvd_left _ _)
  unfold cm
  split
  · exact Int.neg_dvd.mpr dt
  · exact dt
theorem cm_dvd_bot {t b : Int} : cm t b ∣ b := by
  have dt : ((Nat.gcd t.natAbs b.natAbs : Nat) : Int) ∣ b := Int.ofNat_dvd_left.mpr (Nat.gcd_dvd_right _ _)
  unfold cm
  split
  · exact Int.neg_dvd.mpr dt
  · exact dt
theorem cm_sz {n : Nat} {t b : Int} (hb : b ≠ 0) (h : Sz n b) : Sz n (cm t b) := by
  refine h.le ?_
  have : Nat.gcd t.natAbs b.natAbs ≤ b.natAbs := Nat.le_of_dvd (by omega) (Nat.gcd_dvd_right _ _)
  unfold cm
  split <;> omega
theorem SzR.of_div {n m k : Nat} {t b : Int} (hb : b ≠ 0) (ht : Sz n t) (h : Sz m b) (h1 : n ≤ k) (h2 : m ≤ k) : SzR k (Rat.divInt t b) := by
  refine ⟨?_, ?_⟩
  · rw [← cm_top hb]
    exact (ht.le (fdiv_le (cm_ne hb) cm_dvd_top)).mono h1
  · rw [← cm_bot hb]
    exact (h.le (fdiv_le (cm_ne hb) cm_dvd_bot)).mono h2
theorem den_ne (q : Rat) : (q.den : Int) ≠ 0 := by have := q.den_nz; omega
theorem den_pos (q : Rat) : (0 : Int) < q.den := by have := q.den_nz; omega
theorem add_eq (a b : Rat) : Rat.divInt (a.num * b.den + b.num * a.den) (a.den * b.den) = a + b := by
  rw [← Rat.divInt_add_divInt _ _ (den_ne a) (den_ne b), Rat.num_divInt_den, Rat.num_divInt_den]
theorem mul_eq (a b : Rat) : Rat.divInt (a.num * b.num) (a.den * b.den) = a * b := by
  rw [← Rat.divInt_mul_divInt, Rat.num_divInt_den, Rat.num_divInt_den]
theorem neg_eq (a : Rat) : Rat.divInt (-a.num) a.den = -a := by rw [← Rat.neg_divInt, Rat.num_divInt_den]
theorem sub_eq (a b : Rat) : Rat.divInt (a.num * b.den - b.num * a.den) (a.den * b.den) = a - b := by
  have h : a.num * b.den - b.num * a.den = a.num * b.den + (-b.num) * a.den := by grind
  rw [h, ← Rat.divInt_add_divInt _ _ (den_ne a) (den_ne b), neg_eq, Rat.num_divInt_den, Rat.sub_eq_add_neg]
theorem div_eq (a b : Rat) : Rat.divInt (a.num * b.den) (a.den * b.num) = a / b := by
  rw [← Rat.divInt_mul_divInt, Rat.num_divInt_den, Rat.div_def, Rat.inv_def]
end GM

/-! GkSh -/
set_option Elab.async false
set_option Elab.async false
set_option linter.all false
set_option maxRecDepth 100000
set_option maxHeartbeats 2000000
/-! Readings of HandS by shapes: the heap and the addresses are hidden. -/
namespace GS
open PySem PySem.Spec PyProof.Rows L2
/-- what a value is, up to addresses -/
inductive Sh where
  | v (x : V) | tup (l : List Sh) | lst (l : List Sh) | ins (C : Addr) (ns : List Str) (l : List Sh) | dct | bag | scr (xs : List Int)
abbrev Sh.int (n : Int) : Sh := .v (.int n)
abbrev Sh.str (n : Str) : Sh := .v (.str n)
abbrev Sh.bl (n : Bool) : Sh := .v (.bl n)
abbrev Sh.non : Sh := .v .non
/-- an object under way: a list, an instance -/
inductive Hk where
  | lst (l : List Sh) | ins (C dx : Addr) (ns : List Str) (l : List Sh) | xd (fs : List (Str × V))
/-- the law's bag of draws, its cells; the tables of the defs that make lambdas; lists under way -/
structure Mode where
  bag : Option (Addr × List Int)
  out : Bool
  tab : List (Addr × Str)
  held : List (Addr × Hk)
def Av (M : Mode) (a : Addr) : Prop := (∀ x, M.bag = some x → x.1 ≠ a) ∧ ∀ p ∈ M.held, p.1 ≠ a
def BagOk (M : Mode) (H : Hp) (x : Addr × List Int) : Prop := ∃ c, ∃ a b d e : Int, 0 ≤ a ∧ 0 ≤ d ∧ d < 2147483587 ∧ Av M c ∧ H c = some (.lst (x.2.map V.int)) ∧ H x.1 = some (.lst [.ref c, .int a, .int b, .int d, .int e])
def NoTbl (o : HO) : Prop := ∀ ps, o ≠ .tbl ps
mutual
inductive Is (M : Mode) (H : Hp) : Sh → V → Prop where
  | v (x : V) : Is M H (.v x) x
  | tup {l : List Sh} {a : Addr} {vs : List V} : Av M a → H a = some (.tup vs) → IsL M H l vs → Is M H (.tup l) (.ref a)
  | lst {l : List Sh} {a : Addr} {vs : List V} : Av M a → H a = some (.lst vs) → IsL M H l vs → Is M H (.lst l) (.ref a)
  | ins {C dx : Addr} {ns : List Str} {l : List Sh} {a : Addr} {vs : List V} : Av M a → H a = some (.ins C dx (ns.zip vs)) → IsL M H l vs → Is M H (.ins C ns l) (.ref a)
  | dct {a : Addr} {kvs : List (Key × V)} : Av M a → H a = some (.dK kvs) → Is M H .dct (.ref a)
  | bag {β : Addr} {xs : List Int} : M.bag = some (β, xs) → Is M H .bag (.ref β)
  | scr {a : Addr} {xs : List Int} {o : Obj} : Av M a → H a = some (.frz o (.lst (xs.map V.int))) → Is M H (.scr xs) (.ref a)
inductive IsL (M : Mode) (H : Hp) : List Sh → List V → Prop where
  | nil : IsL M H [] []
  | cons {s : Sh} {v : V} {l : List Sh} {vs : List V} : Is M H s v → IsL M H l vs → IsL M H (s :: l) (v :: vs)
end
section
variable {M M' : Mode} {H H' H1 H2 : Hp}
theorem noTbl_tup {xs : List V} : NoTbl (.tup xs) := fun _ z => by cases z
theorem noTbl_lst {xs : List V} : NoTbl (.lst xs) := fun _ z => by cases z
theorem noTbl_ins {C dx : Addr} {xs : List (Str × V)} : NoTbl (.ins C dx xs) := fun _ z => by cases z
theorem noTbl_dct {xs : List (Key × V)} : NoTbl (.dK xs) := fun _ z => by cases z
theorem noTbl_frz {o : Obj} {u : HO} : NoTbl (.frz o u) := fun _ z => by cases z
theorem Is.conv (f : ∀ a o, Av M a → NoTbl o → H a = some o → Av M' a ∧ H' a = some o) (g : M.bag = M'.bag) {s : Sh} {v : V} (h : Is M H s v) : Is M' H' s v :=
  Is.rec (motive_1 := fun s v _ => Is M' H' s v) (motive_2 := fun l vs _ => IsL M' H' l vs) (fun x => .v x)
    (fun a e _ i => .tup (f _ _ a noTbl_tup e).1 (f _ _ a noTbl_tup e).2 i) (fun a e _ i => .lst (f _ _ a noTbl_lst e).1 (f _ _ a noTbl_lst e).2 i)
    (fun a e _ i => .ins (f _ _ a noTbl_ins e).1 (f _ _ a noTbl_ins e).2 i) (fun a e => .dct (f _ _ a noTbl_dct e).1 (f _ _ a noTbl_dct e).2) (fun e => .bag (g ▸ e)) (fun a e => .scr (f _ _ a noTbl_frz e).1 (f _ _ a noTbl_frz e).2) .nil (fun _ _ a l => .cons a l) h
theorem IsL.conv (f : ∀ s v, Is M H s v → Is M' H' s v) : ∀ {l : List Sh} {vs : List V}, IsL M H l vs → IsL M' H' l vs
  | [], _, .nil => .nil
  | _ :: _, _, .cons a l => .cons (f _ _ a) (IsL.conv f l)
end
def HkOk (M : Mode) (H : Hp) (a : Addr) : Hk → Prop
  | .lst l => ∃ vs, H a = some (.lst vs) ∧ IsL M H l vs
  | .ins C dx ns l => ∃ vs, H a = some (.ins C dx (ns.zip vs)) ∧ IsL M H l vs ∧ ns.length = l.length
  | .xd fs => H a = some (.xd fs)
structure St (M : Mode) (H : Hp) : Prop where
  bag : ∀ x, M.bag = some x → M.out = false → BagOk M H x ∧ ∀ p ∈ M.held, p.1 ≠ x.1
  outh : ∀ x, M.bag = some x → M.out = true → x.1 ∈ M.held.map (·.1)
  tab : LamX.Tabs M.tab H
  held : ∀ p ∈ M.held, HkOk M H p.1 p.2
  nd : (M.held.map (·.1)).Nodup
structure Step (M : Mode) (H H' : Hp) : Prop where
  keep : ∀ a o, Av M a → NoTbl o → H a = some o → H' a = some o
  st : St M H'
section
variable {M M' : Mode} {H H' H1 H2 : Hp}
theorem Step.refl (h : St M H) : Step M H H := ⟨fun _ _ _ _ e => e, h⟩
theorem Step.trans (a : Step M H H1) (b : Step M H1 H2) : Step M H H2 := ⟨fun x o hx ho e => b.keep x o hx ho (a.keep x o hx ho e), b.st⟩
theorem Is.same {s : Sh} {v : V} (h : Is M H s v) (e : ∀ a o, H a = some o → H' a = some o) : Is M H' s v := h.conv (fun a o av _ x => ⟨av, e a o x⟩) rfl
theorem IsL.same {s : List Sh} {v : List V} (h : IsL M H s v) (e : ∀ a o, H a = some o → H' a = some o) : IsL M H' s v := h.conv fun _ _ a => a.same e
theorem BagOk.conv {x : Addr × List Int} (h : BagOk M H x) (f : ∀ a o, Av M a → H a = some o → Av M' a ∧ H' a = some o) (g : ∀ o, H x.1 = some o → H' x.1 = some o) : BagOk M' H' x := by
  obtain ⟨c, a, b, d, e, q1, q2, q3, av, h1, h2⟩ := h
  exact ⟨c, a, b, d, e, q1, q2, q3, (f _ _ av h1).1, (f _ _ av h1).2, g _ h2⟩
theorem HkOk.some {a : Addr} {k : Hk} (h : HkOk M H a k) : H a ≠ none := by
  intro z
  cases k with
  | lst l => obtain ⟨vs, e, _⟩ := h; rw [z] at e; cases e
  | ins C dx ns l => obtain ⟨vs, e, _⟩ := h; rw [z] at e; cases e
  | xd fs => have e : H a = Option.some (.xd fs) := h; rw [z] at e; cases e
theorem HkOk.conv {a : Addr} {k : Hk} (h : HkOk M H a k) (e : ∀ o, H a = Option.some o → H' a = Option.some o) (f : ∀ s v, Is M H s v → Is M' H' s v) : HkOk M' H' a k := by
  cases k with
  | lst l => obtain ⟨vs, z, i⟩ := h; exact ⟨vs, e _ z, i.conv f⟩
  | ins C dx ns l => obtain ⟨vs, z, i, n⟩ := h; exact ⟨vs, e _ z, i.conv f, n⟩
  | xd fs => exact e _ h
theorem St.ext (h : St M H) (e : ∀ a o, H a = some o → H' a = some o) : St M H' := ⟨fun x hx ho => ⟨(h.bag x hx ho).1.conv (fun a o av q => ⟨av, e _ _ q⟩) (e _), (h.bag x hx ho).2⟩, h.outh, h.tab.ext e, fun p hp => (h.held p hp).conv (e _) fun _ _ i => i.same e, h.nd⟩
theorem Step.of (h : St M H) (e : ∀ a o, H a = some o → H' a = some o) : Step M H H' := ⟨fun a o _ _ x => e a o x, h.ext e⟩
theorem Step.new {p : Addr} {o : HO} (h : St M H) (hp : H p = none) : Step M H (upd H p o) := Step.of h fun a u e => by
  rw [upd_ne (ne_of_none e hp)]
  exact e
/-- a fresh address is available -/
theorem St.av {p : Addr} (h : St M H) (hp : H p = none) : Av M p := by
  refine ⟨fun x hx e => ?_, fun q hq e => ?_⟩
  · cases ho : M.out with
    | false =>
      obtain ⟨_, _, _, _, _, _, _, _, _, _, z⟩ := (h.bag x hx ho).1
      rw [e, hp] at z
      cases z
    | true =>
      obtain ⟨q, hq, e2⟩ := List.mem_map.mp (h.outh x hx ho)
      exact (h.held q hq).some (by rw [show q.1 = x.1 from e2, e]; exact hp)
  · exact (h.held q hq).some (by rw [e]; exact hp)
theorem Is.step {s : Sh} {v : V} (h : Is M H s v) (k : Step M H H') : Is M H' s v := h.conv (fun a o av n e => ⟨av, k.keep a o av n e⟩) rfl
theorem IsL.step {l : List Sh} {vs : List V} (h : IsL M H l vs) (k : Step M H H') : IsL M H' l vs := h.conv fun _ _ a => a.step k
/-- .. from a mode that holds more -/
theorem Is.weak {s : Sh} {v : V} (hb : M'.bag = M.bag) (ha : ∀ a, Av M' a → Av M a) (h : Is M' H s v) : Is M H s v := h.conv (fun a o av n e => ⟨ha a av, e⟩) hb
theorem IsL.weak {l : List Sh} {vs : List V} (hb : M'.bag = M.bag) (ha : ∀ a, Av M' a → Av M a) (h : IsL M' H l vs) : IsL M H l vs := h.conv fun _ _ a => a.weak hb ha
theorem IsL.length {l : List Sh} {vs : List V} : IsL M H l vs → l.length = vs.length
  | .nil => rfl
  | .cons _ l => congrArg (· + 1) l.length
theorem IsL.get {l : List Sh} {vs : List V} : ∀ {i : Nat} {s : Sh}, IsL M H l vs → l[i]? = some s → ∃ v, vs[i]? = some v ∧ Is M H s v
  | 0, s, .cons a _, e => by simp at e; subst e; exact ⟨_, rfl, a⟩
  | i + 1, s, .cons _ l, e => by
    obtain ⟨v, h1, h2⟩ := IsL.get (i := i) l (by simpa using e)
    exact ⟨v, by simpa using h1, h2⟩
  | i, s, .nil, e => by simp at e
theorem IsL.append {l l2 : List Sh} {vs ws : List V} : IsL M H l vs → IsL M H l2 ws → IsL M H (l ++ l2) (vs ++ ws)
  | .nil, b => b
  | .cons a l, b => .cons a (l.append b)
theorem IsL.ints : ∀ {xs : List Int}, IsL M H (xs.map Sh.int) (xs.map V.int)
  | [] => .nil
  | _ :: _ => .cons (.v _) IsL.ints
theorem IsL.of_ints : ∀ {xs : List Int} {vs : List V}, IsL M H (xs.map Sh.int) vs → vs = xs.map V.int
  | [], _, .nil => rfl
  | _ :: _, _, .cons (.v _) l => by rw [IsL.of_ints l]; rfl
theorem IsL.take {l : List Sh} {vs : List V} : ∀ (n : Nat), IsL M H l vs → IsL M H (l.take n) (vs.take n)
  | 0, _ => .nil
  | _ + 1, .nil => .nil
  | n + 1, .cons a l => .cons a (l.take n)
theorem IsL.drop {l : List Sh} {vs : List V} : ∀ (n : Nat), IsL M H l vs → IsL M H (l.drop n) (vs.drop n)
  | 0, h => h
  | _ + 1, .nil => .nil
  | n + 1, .cons _ l => l.drop n
end
/-- the mode within a comprehension: the new list at D is held -/
def Mode.hold (M : Mode) (D : Addr) (o : Hk) : Mode := { M with held := (D, o) :: M.held }
theorem Av.hold {M : Mode} {D a : Addr} {o : Hk} (h : Av (M.hold D o) a) : Av M a ∧ a ≠ D := ⟨⟨h.1, fun p hp => h.2 p (List.mem_cons_of_mem _ hp)⟩, fun e => h.2 (D, o) List.mem_cons_self e.symm⟩
theorem Av.to_hold {M : Mode} {D a : Addr} {o : Hk} (h : Av M a) (hn : a ≠ D) : Av (M.hold D o) a := ⟨h.1, fun p hp => by
  rcases List.mem_cons.mp hp with e | e
  · rw [e]
    exact fun z => hn z.symm
  · exact h.2 p e⟩
theorem IsL.conv2 {M M' : Mode} {H H' : Hp} (k : ∀ a o, Av M a → NoTbl o → H a = some o → Av M' a ∧ H' a = some o) (hb : M.bag = M'.bag) {l : List Sh} {vs : List V} (h : IsL M H l vs) : IsL M' H' l vs := h.conv fun _ _ a => a.conv k hb
theorem Ext.new {H : Hp} {p : Addr} {o : HO} (h : H p = none) : ∀ a u, H a = some u → upd H p o a = some u := fun a u e => by
  rw [upd_ne (ne_of_none e h)]
  exact e
/-- one of the objects under way changes -/
def Mode.put (M : Mode) (i : Nat) (D : Addr) (k : Hk) : Mode := { M with held := M.held.set i (D, k) }
theorem put_addrs {M : Mode} {i : Nat} {D : Addr} {k k' : Hk} (hi : M.held[i]? = some (D, k)) : (M.put i D k').held.map (·.1) = M.held.map (·.1) := by
  show (M.held.set i (D, k')).map (·.1) = _
  rw [List.map_set]
  have z : (M.held.map (·.1))[i]? = some D := by rw [List.getElem?_map, hi]; rfl
  obtain ⟨hlt, e⟩ := List.getElem?_eq_some_iff.mp z
  exact (congrArg (fun q => (M.held.map (·.1)).set i q) e.symm).trans (List.set_getElem_self hlt)
theorem Av.iff {M : Mode} {a : Addr} : Av M a ↔ (∀ x, M.bag = some x → x.1 ≠ a) ∧ a ∉ M.held.map (·.1) := by
  constructor
  · rintro ⟨h1, h2⟩
    refine ⟨h1, fun z => ?_⟩
    obtain ⟨p, hp, e⟩ := List.mem_map.mp z
    exact h2 p hp e
  · rintro ⟨h1, h2⟩
    exact ⟨h1, fun p hp e => h2 (e ▸ List.mem_map_of_mem hp)⟩
theorem Av.put {M : Mode} {i : Nat} {D a : Addr} {k k' : Hk} (hi : M.held[i]? = some (D, k)) : Av (M.put i D k') a ↔ Av M a := by
  rw [Av.iff, Av.iff, put_addrs hi]
  rfl
theorem St.put {M : Mode} {i : Nat} {D : Addr} {k k' : Hk} {o : HO} {H : Hp} (st : St M H) (hi : M.held[i]? = some (D, k)) (new : HkOk (M.put i D k') (upd H D o) D k') : St (M.put i D k') (upd H D o) := by
  have hm : (D, k) ∈ M.held := List.mem_of_getElem? hi
  have hD := st.held _ hm
  have hnt : ∀ ps, H D ≠ some (.tbl ps) := fun ps z => by
    cases k with
    | lst l => obtain ⟨vs, e, _⟩ := hD; rw [z] at e; cases e
    | ins C dx ns l => obtain ⟨vs, e, _⟩ := hD; rw [z] at e; cases e
    | xd fs => have e : H D = some (.xd fs) := hD; rw [z] at e; cases e
  have hnc : ∀ c q, H D = some (LamX.CodeO c q) → False := fun c q z => by
    unfold LamX.CodeO at z
    cases k with
    | lst l => obtain ⟨vs, e, _⟩ := hD; rw [z] at e; cases e
    | ins C dx ns l => obtain ⟨vs, e, _⟩ := hD; rw [z] at e; cases e
    | xd fs => have e : H D = some (.xd fs) := hD; rw [z] at e; cases e
  have keep : ∀ a o', a ≠ D → H a = some o' → upd H D o a = some o' := fun a o' n e => by rw [upd_ne n]; exact e
  have avD : ∀ a, Av M a → a ≠ D := fun a av e => av.2 _ hm e.symm
  have cv : ∀ s v, Is M H s v → Is (M.put i D k') (upd H D o) s v := fun s v h => h.conv (fun a o' av _ e => ⟨(Av.put hi).mpr av, keep a o' (avD a av) e⟩) rfl
  refine ⟨fun x hx ho => ?_, fun x hx ho => by rw [put_addrs hi]; exact st.outh x hx ho, fun p hp => ?_, fun p hp => ?_, ?_⟩
  · obtain ⟨h1, hb⟩ := st.bag x hx ho
    refine ⟨h1.conv (fun a o' av q => ⟨(Av.put hi).mpr av, keep _ _ (avD _ av) q⟩) (fun o' q => keep _ _ (fun e => hb _ hm e.symm) q), fun p hp => ?_⟩
    have z : p.1 ∈ (M.put i D k').held.map (·.1) := List.mem_map_of_mem hp
    rw [put_addrs hi] at z
    obtain ⟨q, hq, e⟩ := List.mem_map.mp z
    rw [← e]
    exact hb q hq
  · obtain ⟨ps, h1, h2, h3⟩ := st.tab p hp
    refine ⟨ps, keep _ _ (fun e => hnt ps (e ▸ h1)) h1, h2, fun pos cv hcv => ?_⟩
    obtain ⟨c, e1, e2⟩ := h3 pos cv hcv
    exact ⟨c, e1, keep _ _ (fun e => hnc _ _ (e ▸ e2)) e2⟩
  · obtain ⟨m, hm2⟩ := List.mem_iff_getElem?.mp hp
    have hm2 : (M.held.set i (D, k'))[m]? = some p := hm2
    rw [List.getElem?_set] at hm2
    split at hm2
    · rename_i e
      split at hm2
      · cases hm2
        exact new
      · cases hm2
    · rename_i e
      have hpm : p ∈ M.held := List.mem_of_getElem? hm2
      have hne : p.1 ≠ D := fun z => by
        have nd := st.nd
        have h1 : (M.held.map (·.1))[m]? = some D := by rw [List.getElem?_map, hm2, ← z]; rfl
        have h2 : (M.held.map (·.1))[i]? = some D := by rw [List.getElem?_map, hi]; rfl
        obtain ⟨l2, _⟩ := List.getElem?_eq_some_iff.mp h2
        exact e ((List.getElem?_inj l2 nd).mp (h2.trans h1.symm))
      exact (st.held p hpm).conv (fun o' q => keep _ _ hne q) cv
  · rw [put_addrs hi]
    exact st.nd
/-- a fresh object comes under way -/
theorem St.hold {M : Mode} {D : Addr} {k : Hk} {o : HO} {H : Hp} (st : St M H) (hD : H D = none) (new : HkOk (M.hold D k) (upd H D o) D k) : St (M.hold D k) (upd H D o) := by
  have e := Ext.new (o := o) hD
  have av := st.av hD
  have ne : ∀ a o', H a = some o' → a ≠ D := fun a o' q z => by rw [z, hD] at q; cases q
  refine ⟨fun x hx ho => ?_, fun x hx ho => List.mem_cons_of_mem _ (st.outh x hx ho), st.tab.ext e, fun p hp => ?_, ?_⟩
  · obtain ⟨h1, h3⟩ := st.bag x hx ho
    refine ⟨h1.conv (fun a o' av q => ⟨av.to_hold (ne _ _ q), e _ _ q⟩) (fun o' q => e _ _ q), fun p hp => ?_⟩
    rcases List.mem_cons.mp hp with z | z
    · rw [z]
      exact fun q => av.1 x hx q.symm
    · exact h3 p z
  · rcases List.mem_cons.mp hp with z | z
    · rw [z]
      exact new
    · exact (st.held p z).conv (fun o' q => e _ _ q) fun s v i => i.conv (fun a o' av _ q => ⟨av.to_hold (ne _ _ q), e _ _ q⟩) rfl
  · show (D :: M.held.map (·.1)).Nodup
    refine List.nodup_cons.mpr ⟨fun z => ?_, st.nd⟩
    exact (Av.iff.mp av).2 z
/-- a known dict of an error is held .. -/
theorem St.holdX {M : Mode} {D : Addr} {fs : List (Str × V)} {H : Hp} (st : St M H) (av : Av M D) (hD : H D = some (.xd fs)) : St (M.hold D (.xd fs)) H := by
  have ne : ∀ a o', H a = some o' → (∀ fs, o' ≠ .xd fs) → a ≠ D := fun a o' q n z => by
    rw [z, hD] at q
    exact n fs (Option.some.inj q).symm
  have cv : ∀ s v, Is M H s v → Is (M.hold D (.xd fs)) H s v := fun s v h =>
    Is.rec (motive_1 := fun s v _ => Is (M.hold D (.xd fs)) H s v) (motive_2 := fun l vs _ => IsL (M.hold D (.xd fs)) H l vs) (fun x => .v x)
      (fun a e _ i => .tup (a.to_hold (ne _ _ e fun _ z => by cases z)) e i) (fun a e _ i => .lst (a.to_hold (ne _ _ e fun _ z => by cases z)) e i)
      (fun a e _ i => .ins (a.to_hold (ne _ _ e fun _ z => by cases z)) e i) (fun a e => .dct (a.to_hold (ne _ _ e fun _ z => by cases z)) e) (fun e => .bag e) (fun a e => .scr (a.to_hold (ne _ _ e fun _ z => by cases z)) e) .nil (fun _ _ a l => .cons a l) h
  refine ⟨fun x hx ho => ?_, fun x hx ho => List.mem_cons_of_mem _ (st.outh x hx ho), st.tab, fun p hp => ?_, List.nodup_cons.mpr ⟨(Av.iff.mp av).2, st.nd⟩⟩
  · obtain ⟨⟨c, a, b, d, e, q1, q2, q3, avc, h1, h2⟩, h3⟩ := st.bag x hx ho
    refine ⟨⟨c, a, b, d, e, q1, q2, q3, avc.to_hold (ne _ _ h1 fun _ z => by cases z), h1, h2⟩, fun p hp => ?_⟩
    rcases List.mem_cons.mp hp with z | z
    · rw [z]
      exact fun q => av.1 x hx q.symm
    · exact h3 p z
  · rcases List.mem_cons.mp hp with z | z
    · rw [z]
      exact hD
    · exact (st.held p z).conv (fun o' q => q) cv
theorem St.drop {M : Mode} {D : Addr} {o : Hk} {H : Hp} (st : St (M.hold D o) H) (av : Av M D) : St M H := by
  refine ⟨fun x hx ho => ⟨(st.bag x hx ho).1.conv (fun a o' av q => ⟨av.hold.1, q⟩) (fun _ q => q), fun p hp => (st.bag x hx ho).2 p (List.mem_cons_of_mem _ hp)⟩, fun x hx ho => ?_, st.tab, fun p hp => (st.held p (List.mem_cons_of_mem _ hp)).conv (fun _ q => q) fun s v i => i.conv (fun a o' av _ q => ⟨av.hold.1, q⟩) rfl, ?_⟩
  · rcases List.mem_cons.mp (st.outh x hx ho) with e | e
    · exact absurd e (av.1 x hx)
    · exact e
  · have z : (D :: M.held.map (·.1)).Nodup := st.nd
    exact (List.nodup_cons.mp z).2
/-- the names' shapes -/
abbrev SS := List (Option Sh)
inductive SE (M : Mode) (H : Hp) : SS → L2.St → Prop where
  | nil : SE M H [] []
  | no {x : Option V} {ss : SS} {σ : L2.St} : SE M H ss σ → SE M H (none :: ss) (x :: σ)
  | yes {s : Sh} {v : V} {ss : SS} {σ : L2.St} : Is M H s v → SE M H ss σ → SE M H (some s :: ss) (some v :: σ)
section
variable {M M' : Mode} {H H' : Hp}
theorem SE.step {ss : SS} {σ : L2.St} : SE M H ss σ → Step M H H' → SE M H' ss σ
  | .nil, _ => .nil
  | .no l, k => .no (l.step k)
  | .yes a l, k => .yes (a.step k) (l.step k)
theorem SE.weak {ss : SS} {σ : L2.St} (hb : M'.bag = M.bag) (ha : ∀ a, Av M' a → Av M a) : SE M' H ss σ → SE M H ss σ
  | .nil => .nil
  | .no l => .no (l.weak hb ha)
  | .yes a l => .yes (a.weak hb ha) (l.weak hb ha)
theorem SE.get : ∀ {ss : SS} {σ : L2.St} {i : Nat} {s : Sh}, SE M H ss σ → ss[i]? = some (some s) → ∃ v, σ[i]? = some (some v) ∧ Is M H s v
  | _, _, 0, s, .yes a _, e => by simp at e; subst e; exact ⟨_, rfl, a⟩
  | _, _, 0, s, .no _, e => by simp at e
  | _, _, i + 1, s, .yes _ l, e => by
    obtain ⟨v, h1, h2⟩ := SE.get (i := i) l (by simpa using e)
    exact ⟨v, by simpa using h1, h2⟩
  | _, _, i + 1, s, .no l, e => by
    obtain ⟨v, h1, h2⟩ := SE.get (i := i) l (by simpa using e)
    exact ⟨v, by simpa using h1, h2⟩
  | _, _, i, s, .nil, e => by simp at e
theorem SE.set {s : Sh} {v : V} (h : Is M H s v) : ∀ {ss : SS} {σ : L2.St} (i : Nat), SE M H ss σ → SE M H (ss.set i (some s)) (σ.set i (some v))
  | _, _, _, .nil => .nil
  | _, _, 0, .no l => .yes h l
  | _, _, 0, .yes _ l => .yes h l
  | _, _, i + 1, .no l => .no (SE.set h i l)
  | _, _, i + 1, .yes a l => .yes a (SE.set h i l)
theorem SE.length : ∀ {ss : SS} {σ : L2.St}, SE M H ss σ → ss.length = σ.length
  | _, _, .nil => rfl
  | _, _, .no l => congrArg (· + 1) l.length
  | _, _, .yes _ l => congrArg (· + 1) l.length
/-- the names at a def's start -/
def starts (N : List Str) (l : List Sh) : SS := l.map some ++ List.replicate (N.length - l.length) none
theorem SE.starts {N : List Str} {l : List Sh} {vs : List V} (h : IsL M H l vs) : SE M H (starts N l) (L2.start N vs) := by
  unfold GS.starts L2.start
  rw [h.length]
  generalize N.length - vs.length = n
  induction vs generalizing l with
  | nil =>
    cases h
    induction n with
    | zero => exact .nil
    | succ n ih => exact .no ih
  | cons v vs ih =>
    cases h with
    | cons a l => exact .yes a (ih l)
end
/-- what a call comes to -/
inductive Oc where
  | ret (r : Sh) | exc (C : Addr) (g : List (Str × V))
abbrev Fs := Mode → List Sh → (Oc → Prop) → Prop
def Ret (M : Mode) (H : Hp) (Q : VK) (r : Sh) : Prop := ∀ v H', Step M H H' → Is M H' r v → Q v H'
def Exc (M : Mode) (H : Hp) (E : XK) (C : Addr) (g : List (Str × V)) : Prop := ∀ d H', Step M H H' → H' d = some (.xd g) → Av M d → E (.ref C) (some d) H'
def Oc.go (M : Mode) (H : Hp) (Q : VK) (E : XK) : Oc → Prop
  | .ret r => Ret M H Q r
  | .exc C g => Exc M H E C g
/-- a def's promise by shapes -/
def SpS (fs : Fs) : Sp := fun vs H Q E => ∃ M shs S, fs M shs S ∧ St M H ∧ IsL M H shs vs ∧ ∀ oc, S oc → oc.go M H Q E
/-- where a body stands: the mode, what catches, which exceptions are in order -/
structure J where
  M : Mode
  X : XK
  ex : Addr → List (Str × V) → Prop
def J.XG (j : J) (H : Hp) : Prop := ∀ C g, j.ex C g → Exc j.M H j.X C g
theorem J.XG.step {j : J} {H H' : Hp} (h : j.XG H) (k : Step j.M H H') : j.XG H' := fun C g e d H2 s x a => h C g e d H2 (k.trans s) x a
def Ev (j : J) (te : TE) (ss : SS) (q : Sh → Prop) : Prop := ∀ σ H, St j.M H → j.XG H → SE j.M H ss σ → ∀ Q : VK, (∀ r, q r → Ret j.M H Q r) → te σ H Q
def Et (j : J) (tt : TT) (ss : SS) (q : Bool → Prop) : Prop := ∀ σ H, St j.M H → j.XG H → SE j.M H ss σ → ∀ Q : Bool → Hp → Prop, (∀ b, q b → ∀ H', Step j.M H H' → Q b H') → tt σ H Q
def Ea (j : J) (ta : TA) (ss : SS) (q : List Sh → Prop) : Prop := ∀ σ H, St j.M H → j.XG H → SE j.M H ss σ → ∀ Q : List V → Hp → Prop, (∀ l, q l → ∀ vs H', Step j.M H H' → IsL j.M H' l vs → Q vs H') → ta σ H Q
def Eo (j : J) (to : TO) (ss : SS) (q : Option Int → Prop) : Prop := ∀ σ H, St j.M H → j.XG H → SE j.M H ss σ → ∀ Q : Option Int → Hp → Prop, (∀ b, q b → ∀ H', Step j.M H H' → Q b H') → to σ H Q
def E2 (j : J) (r : R2) (x y : Sh) (q : Sh → Prop) : Prop := ∀ v u H, St j.M H → j.XG H → Is j.M H x v → Is j.M H y u → ∀ Q : VK, (∀ r, q r → Ret j.M H Q r) → r v u H Q
def E1 (j : J) (r : V → Hp → VK → Prop) (x : Sh) (q : Sh → Prop) : Prop := ∀ v H, St j.M H → j.XG H → Is j.M H x v → ∀ Q : VK, (∀ r, q r → Ret j.M H Q r) → r v H Q
def En (j : J) (r : List V → Hp → VK → Prop) (l : List Sh) (q : Sh → Prop) : Prop := ∀ vs H, St j.M H → j.XG H → IsL j.M H l vs → ∀ Q : VK, (∀ r, q r → Ret j.M H Q r) → r vs H Q
def Em (j : J) (r : V → List V → Hp → VK → Prop) (x : Sh) (l : List Sh) (q : Sh → Prop) : Prop := ∀ v vs H, St j.M H → j.XG H → Is j.M H x v → IsL j.M H l vs → ∀ Q : VK, (∀ r, q r → Ret j.M H Q r) → r v vs H Q
def E3 (j : J) (r : V → Option Int → Option Int → Hp → VK → Prop) (x : Sh) (a b : Option Int) (q : Sh → Prop) : Prop := ∀ v H, St j.M H → j.XG H → Is j.M H x v → ∀ Q : VK, (∀ r, q r → Ret j.M H Q r) → r v a b H Q
def Eg (j : J) (g : TG) (x : Sh) (ss : SS) (q : SS → Prop) : Prop := ∀ v σ H, St j.M H → j.XG H → Is j.M H x v → SE j.M H ss σ → ∀ Q : L2.St → Hp → Prop, (∀ ss', q ss' → ∀ σ' H', Step j.M H H' → SE j.M H' ss' σ' → Q σ' H') → g v σ H Q
def Egs (j : J) (g : TGs) (l : List Sh) (ss : SS) (q : SS → Prop) : Prop := ∀ vs σ H, St j.M H → j.XG H → IsL j.M H l vs → SE j.M H ss σ → ∀ Q : L2.St → Hp → Prop, (∀ ss', q ss' → ∀ σ' H', Step j.M H H' → SE j.M H' ss' σ' → Q σ' H') → g vs σ H Q
/-- what is in order behind a statement -/
structure Po where
  rt : Sh → Prop
  nx : SS → Prop
  bk : SS → Prop := fun _ => False
  ct : SS → Prop := fun _ => False
def Nx (j : J) (H : Hp) (k : L2.St → Hp → Prop) (q : SS → Prop) : Prop := ∀ ss', q ss' → ∀ σ' H', Step j.M H H' → SE j.M H' ss' σ' → k σ' H'
structure Good (j : J) (p : Po) (D : Ends) (H : Hp) : Prop where
  rt : ∀ r, p.rt r → Ret j.M H D.rt r
  nx : Nx j H D.nx p.nx
  bk : Nx j H D.bk p.bk
  ct : Nx j H D.ct p.ct
def Bd (j : J) (ts : TS) (ss : SS) (p : Po) : Prop := ∀ D σ H, St j.M H → j.XG H → SE j.M H ss σ → Good j p D H → ts D σ H
theorem Nx.step {j : J} {H H' : Hp} {k : L2.St → Hp → Prop} {q : SS → Prop} (h : Nx j H k q) (s : Step j.M H H') : Nx j H' k q := fun ss hs σ H2 s2 e => h ss hs σ H2 (s.trans s2) e
theorem Ret.step {M : Mode} {H H' : Hp} {Q : VK} {r : Sh} (h : Ret M H Q r) (s : Step M H H') : Ret M H' Q r := fun v H2 s2 e => h v H2 (s.trans s2) e
theorem Good.step {j : J} {p : Po} {D : Ends} {H H' : Hp} (g : Good j p D H) (s : Step j.M H H') : Good j p D H' := ⟨fun r h => (g.rt r h).step s, g.nx.step s, g.bk.step s, g.ct.step s⟩
section
variable {j : J} {ss : SS} {q : Sh → Prop} {ta tb te to : TE} {t u : TT} {tA tr : TA} {K : PySem.W.Frag}
/-! ### expressions -/
theorem ev_var {i : Nat} {s : Sh} (h : ss[i]? = some (some s)) (k : q s) : Ev j (tVar i) ss q := fun σ H st xg se Q hQ => by
  obtain ⟨v, h1, h2⟩ := se.get h
  exact ⟨v, h1, hQ _ k v H (.refl st) h2⟩
theorem ev_c {v : V} (k : q (.v v)) : Ev j (tC v) ss q := fun σ H st xg se Q hQ => hQ _ k v H (.refl st) (.v v)
theorem ev_op {r : R2} (h : Ev j ta ss fun x => Ev j tb ss fun y => E2 j r x y q) : Ev j (tOp r ta tb) ss q := fun σ H st xg se Q hQ =>
  h σ H st xg se _ fun x hx v H1 s1 h1 => hx σ H1 s1.st (xg.step s1) (se.step s1) _ fun y hy u H2 s2 h2 =>
    hy v u H2 s2.st (xg.step (s1.trans s2)) (h1.step s2) h2 Q fun z hz => (hQ z hz).step (s1.trans s2)
theorem ev_un {r : V → Hp → VK → Prop} (h : Ev j ta ss fun x => E1 j r x q) : Ev j (tUn r ta) ss q := fun σ H st xg se Q hQ =>
  h σ H st xg se _ fun x hx v H1 s1 h1 => hx v H1 s1.st (xg.step s1) h1 Q fun z hz => (hQ z hz).step s1
theorem ea_nil {q : List Sh → Prop} (k : q []) : Ea j tNil ss q := fun σ H st xg se Q hQ => hQ _ k _ H (.refl st) .nil
theorem ea_cons {q : List Sh → Prop} (h : Ev j ta ss fun x => Ea j tr ss fun l => q (x :: l)) : Ea j (tCons ta tr) ss q := fun σ H st xg se Q hQ =>
  h σ H st xg se _ fun x hx v H1 s1 h1 => hx σ H1 s1.st (xg.step s1) (se.step s1) _ fun l hl vs H2 s2 h2 => hQ _ hl _ H2 (s1.trans s2) (.cons (h1.step s2) h2)
theorem ev_cb {r : List V → Hp → VK → Prop} (h : Ea j tA ss fun l => En j r l q) : Ev j (tCB r tA) ss q := fun σ H st xg se Q hQ =>
  h σ H st xg se _ fun l hl vs H1 s1 h1 => hl vs H1 s1.st (xg.step s1) h1 Q fun z hz => (hQ z hz).step s1
theorem ev_tup (h : Ea j tA ss fun l => l.length ≤ sizeLine ∧ q (.tup l)) : Ev j (tTup tA) ss q := fun σ H st xg se Q hQ =>
  h σ H st xg se _ fun l hl vs H1 s1 h1 => ⟨by rw [← h1.length]; exact hl.1, fun p hp => hQ _ hl.2 _ _ (s1.trans (.new s1.st hp)) (.tup (s1.st.av hp) upd_same (h1.step (.new s1.st hp)))⟩
theorem ev_lst (h : Ea j tA ss fun l => l.length ≤ sizeLine ∧ q (.lst l)) : Ev j (tLst tA) ss q := fun σ H st xg se Q hQ =>
  h σ H st xg se _ fun l hl vs H1 s1 h1 => ⟨by rw [← h1.length]; exact hl.1, fun p hp => hQ _ hl.2 _ _ (s1.trans (.new s1.st hp)) (.lst (s1.st.av hp) upd_same (h1.step (.new s1.st hp)))⟩
theorem ev_if (h : Et j t ss fun b => (b = true → Ev j ta ss q) ∧ (b = false → Ev j tb ss q)) : Ev j (tIf t ta tb) ss q := fun σ H st xg se Q hQ =>
  h σ H st xg se _ fun b hb H1 s1 => by
    cases b with
    | true => exact hb.1 rfl σ H1 s1.st (xg.step s1) (se.step s1) Q fun z hz => (hQ z hz).step s1
    | false => exact hb.2 rfl σ H1 s1.st (xg.step s1) (se.step s1) Q fun z hz => (hQ z hz).step s1
theorem ev_andV (h : Ev j ta ss fun x => ∃ b, x = .bl b ∧ (b = true → Ev j tb ss q) ∧ (b = false → q (.bl false))) : Ev j (tAndV ta tb) ss q := fun σ H st xg se Q hQ =>
  h σ H st xg se _ fun x hx v H1 s1 h1 => by
    obtain ⟨b, rfl, hb⟩ := hx
    cases h1
    refine ⟨b, rfl, ?_⟩
    cases b with
    | true => exact hb.1 rfl σ H1 s1.st (xg.step s1) (se.step s1) Q fun z hz => (hQ z hz).step s1
    | false => exact hQ _ (hb.2 rfl) _ H1 s1 (.v _)
theorem ev_orV (h : Ev j ta ss fun x => ∃ b, x = .bl b ∧ (b = true → q (.bl true)) ∧ (b = false → Ev j tb ss q)) : Ev j (tOrV ta tb) ss q := fun σ H st xg se Q hQ =>
  h σ H st xg se _ fun x hx v H1 s1 h1 => by
    obtain ⟨b, rfl, hb⟩ := hx
    cases h1
    refine ⟨b, rfl, ?_⟩
    cases b with
    | true => exact hQ _ (hb.1 rfl) _ H1 s1 (.v _)
    | false => exact hb.2 rfl σ H1 s1.st (xg.step s1) (se.step s1) Q fun z hz => (hQ z hz).step s1
theorem ev_notV (h : Ev j ta ss fun x => ∃ b, x = .bl b ∧ q (.bl (!b))) : Ev j (tNotV ta) ss q := fun σ H st xg se Q hQ =>
  h σ H st xg se _ fun x hx v H1 s1 h1 => by
    obtain ⟨b, rfl, hb⟩ := hx
    cases h1
    exact ⟨b, rfl, hQ _ hb _ H1 s1 (.v _)⟩
/-- calls of one's own defs -/
def XOk (j : J) (E : XK) (x : Addr → List (Str × V) → Prop) : Prop := ∀ H C g, j.XG H → x C g → Exc j.M H E C g
theorem XOk.own : XOk j j.X j.ex := fun H C g h e => h C g e
theorem XOk.no {E : XK} : XOk j E fun _ _ => False := fun H C g h e => e.elim
def Oc.fin (q : Sh → Prop) (x : Addr → List (Str × V) → Prop) : Oc → Prop
  | .ret r => q r
  | .exc C g => x C g
def Callx (j : J) (fs : Fs) (l : List Sh) (q : Sh → Prop) (x : Addr → List (Str × V) → Prop) : Prop := ∃ S, fs j.M l S ∧ ∀ oc, S oc → oc.fin q x
theorem Callx.run {fs : Fs} {l : List Sh} {E : XK} {x : Addr → List (Str × V) → Prop} (h : Callx j fs l q x) (hx : XOk j E x) {vs : List V} {H : Hp} {Q : VK} (st : St j.M H) (xg : j.XG H) (hl : IsL j.M H l vs) (hQ : ∀ r, q r → Ret j.M H Q r) : SpS fs vs H Q E := by
  obtain ⟨S, h1, h2⟩ := h
  refine ⟨j.M, l, S, h1, st, hl, fun oc ho => ?_⟩
  have z := h2 oc ho
  cases oc with
  | ret r => exact hQ r z
  | exc C g => exact hx H C g xg z
theorem ev_call {fs : Fs} {E : XK} {x : Addr → List (Str × V) → Prop} {dv : List V} (hx : XOk j E x) (h : Ea j tA ss fun l => Callx j fs (l ++ dv.map Sh.v) q x) : Ev j (tCall (SpS fs) dv E tA) ss q := fun σ H st xg se Q hQ =>
  h σ H st xg se _ fun l hl vs H1 s1 h1 => hl.run hx s1.st (xg.step s1) (h1.append (by
    clear hl h hQ
    induction dv with
    | nil => exact .nil
    | cons a r ih => exact .cons (.v a) ih)) fun z hz => (hQ z hz).step s1
theorem ev_meth {C : Addr} {m : Str} {fs : Fs} {E : XK} {x : Addr → List (Str × V) → Prop} (hx : XOk j E x) (h : Ev j to ss fun o => ∃ ns l, o = .ins C ns l ∧ ns.contains m = false ∧ Ea j tA ss fun l => Callx j fs (o :: l) q x) : Ev j (tMeth C m (SpS fs) [] E to tA) ss q := fun σ H st xg se Q hQ =>
  h σ H st xg se _ fun o ho v H1 s1 h1 => by
    obtain ⟨ns, l, rfl, hn, hA⟩ := ho
    cases h1 with
    | ins av ha hl =>
      rename_i dx a us
      refine ⟨a, dx, _, rfl, ha, ?_, ?_⟩
      · clear ha hl hA h
        induction ns generalizing us with
        | nil => rfl
        | cons n ns ih =>
          cases us with
          | nil => rfl
          | cons u us =>
            rw [List.contains_cons, Bool.or_eq_false_iff] at hn
            show List.lookup m ((n, u) :: ns.zip us) = none
            rw [List.lookup, hn.1]
            exact ih hn.2
      · refine hA σ H1 s1.st (xg.step s1) (se.step s1) _ fun l2 hl2 vs H2 s2 h2 => ?_
        have z : Is j.M H2 (.ins C ns l) (.ref a) := (Is.ins av ha hl).step s2
        have w := hl2.run hx (Q := Q) s2.st (xg.step (s1.trans s2)) (.cons z h2) fun z hz => (hQ z hz).step (s1.trans s2)
        simpa using w
theorem ev_prop {C : Addr} {fs : Fs} {E : XK} {x : Addr → List (Str × V) → Prop} (hx : XOk j E x) (h : Ev j to ss fun o => ∃ ns l, o = .ins C ns l ∧ Callx j fs [o] q x) : Ev j (tProp C (SpS fs) [] E to) ss q := fun σ H st xg se Q hQ =>
  h σ H st xg se _ fun o ho v H1 s1 h1 => by
    obtain ⟨ns, l, rfl, hA⟩ := ho
    cases h1 with
    | ins av ha hl => exact ⟨_, _, _, rfl, ha, hA.run hx s1.st (xg.step s1) (.cons (.ins av ha hl) .nil) fun z hz => (hQ z hz).step s1⟩
theorem ev_smeth {C : Addr} {fs : Fs} {E : XK} {x : Addr → List (Str × V) → Prop} (hx : XOk j E x) (h : Ev j to ss fun o => o = .v (.ref C) ∧ Ea j tA ss fun l => Callx j fs l q x) : Ev j (tSMeth C (SpS fs) E to tA) ss q := fun σ H st xg se Q hQ =>
  h σ H st xg se _ fun o ho v H1 s1 h1 => by
    obtain ⟨rfl, hA⟩ := ho
    cases h1
    exact ⟨rfl, hA σ H1 s1.st (xg.step s1) (se.step s1) _ fun l hl vs H2 s2 h2 => hl.run hx s2.st (xg.step (s1.trans s2)) h2 fun z hz => (hQ z hz).step (s1.trans s2)⟩
theorem ev_fld {C : Addr} {f : Str} (h : Ev j to ss fun o => ∃ ns l s, o = .ins C ns l ∧ Cls K C ∧ NoAttr K C f ∧ (ns.zip l).lookup f = some s ∧ q s) : Ev j (tFld K to f) ss q := fun σ H st xg se Q hQ =>
  h σ H st xg se _ fun o ho v H1 s1 h1 => by
    obtain ⟨ns, l, s, rfl, c1, c2, c3, hq⟩ := ho
    cases h1 with
    | ins av ha hl =>
      rename_i dx a us
      have z : ∃ v, (ns.zip us).lookup f = some v ∧ Is j.M H1 s v := by
        clear ha
        induction ns generalizing l us with
        | nil => cases c3
        | cons n ns ih =>
          cases hl with
          | nil => cases c3
          | cons a1 l1 =>
            rename_i s0 v0 l0 vs0
            have c3 : List.lookup f ((n, s0) :: ns.zip l0) = some s := c3
            show ∃ v, List.lookup f ((n, v0) :: ns.zip vs0) = some v ∧ _
            rw [List.lookup] at c3 ⊢
            cases e : f == n with
            | true =>
              rw [e] at c3
              cases c3
              exact ⟨v0, rfl, a1⟩
            | false =>
              rw [e] at c3
              exact ih _ c3 l1
      obtain ⟨v, e, hv⟩ := z
      exact ⟨a, C, dx, _, v, rfl, ha, c1, c2, e, hQ _ hq v H1 s1 hv⟩
/-! ### tests -/
variable {qb : Bool → Prop}
theorem et_B (h : Ev j te ss fun x => ∃ b, x = .bl b ∧ qb b) : Et j (tB te) ss qb := fun σ H st xg se Q hQ =>
  h σ H st xg se _ fun x hx v H1 s1 h1 => by
    obtain ⟨b, rfl, hb⟩ := hx
    cases h1
    exact ⟨b, rfl, hQ b hb H1 s1⟩
theorem et_test (h : Ev j te ss fun x => ∃ b, x = .bl b ∧ qb b) : Et j (tTest te) ss qb := fun σ H st xg se Q hQ =>
  h σ H st xg se _ fun x hx v H1 s1 h1 => by
    obtain ⟨b, rfl, hb⟩ := hx
    cases h1
    exact ⟨b, rfl, hQ b hb H1 s1⟩
theorem et_not (h : Et j t ss fun b => qb (!b)) : Et j (tNot t) ss qb := fun σ H st xg se Q hQ => h σ H st xg se _ fun b hb H1 s1 => hQ _ hb H1 s1
theorem et_and (h : Et j t ss fun b => (b = true → Et j u ss qb) ∧ (b = false → qb false)) : Et j (tAnd t u) ss qb := fun σ H st xg se Q hQ =>
  h σ H st xg se _ fun b hb H1 s1 => by
    cases b with
    | true => exact hb.1 rfl σ H1 s1.st (xg.step s1) (se.step s1) Q fun c hc H2 s2 => hQ c hc H2 (s1.trans s2)
    | false => exact hQ _ (hb.2 rfl) H1 s1
theorem et_or (h : Et j t ss fun b => (b = true → qb true) ∧ (b = false → Et j u ss qb)) : Et j (tOr t u) ss qb := fun σ H st xg se Q hQ =>
  h σ H st xg se _ fun b hb H1 s1 => by
    cases b with
    | false => exact hb.2 rfl σ H1 s1.st (xg.step s1) (se.step s1) Q fun c hc H2 s2 => hQ c hc H2 (s1.trans s2)
    | true => exact hQ _ (hb.1 rfl) H1 s1
theorem et_yes (k : qb true) : Et j tYes ss qb := fun σ H st xg se Q hQ => hQ _ k H (.refl st)
/-! ### targets -/
variable {qs : SS → Prop} {x : Sh} {l : List Sh}
theorem eg_name {i : Nat} (k : qs (ss.set i (some x))) : Eg j (gName i) x ss qs := fun v σ H st xg hx se Q hQ => hQ _ k _ H (.refl st) (se.set hx i)
theorem egs_nil (k : qs ss) : Egs j gNil [] ss qs := fun vs σ H st xg hl se Q hQ => by
  cases hl
  exact ⟨rfl, hQ _ k _ H (.refl st) se⟩
theorem egs_cons {g : TG} {gs : TGs} (h : Eg j g x ss fun ss1 => Egs j gs l ss1 qs) : Egs j (gCons g gs) (x :: l) ss qs := fun vs σ H st xg hl se Q hQ => by
  cases hl with
  | cons a l =>
    exact ⟨_, _, rfl, h _ σ H st xg a se _ fun ss1 h1 σ1 H1 s1 se1 => h1 _ σ1 H1 s1.st (xg.step s1) (l.step s1) se1 Q fun ss2 h2 σ2 H2 s2 se2 => hQ ss2 h2 σ2 H2 (s1.trans s2) se2⟩
theorem eg_tup {n : Nat} {gs : TGs} (hn : l.length = n) (h : Egs j gs l ss qs) : Eg j (gTup K n gs) (.tup l) ss qs := fun v σ H st xg hx se Q hQ => by
  cases hx with
  | tup av ha hl => exact ⟨_, _, rfl, .inl (.inl ha), by rw [← hl.length, hn], h _ σ H st xg hl se Q hQ⟩
/-! ### statements -/
variable {p : Po} {ts us : TS}
theorem bd_next (k : p.nx ss) : Bd j tNext ss p := fun D σ H st xg se g => g.nx ss k σ H (.refl st) se
theorem bd_brk (k : p.bk ss) : Bd j tBreak ss p := fun D σ H st xg se g => g.bk ss k σ H (.refl st) se
theorem bd_cont (k : p.ct ss) : Bd j tCont ss p := fun D σ H st xg se g => g.ct ss k σ H (.refl st) se
theorem bd_seq (h : Bd j ts ss ⟨p.rt, fun ss1 => Bd j us ss1 p, p.bk, p.ct⟩) : Bd j (tSeq ts us) ss p := fun D σ H st xg se g =>
  h _ σ H st xg se ⟨g.rt, fun ss1 h1 σ1 H1 s1 se1 => h1 D σ1 H1 s1.st (xg.step s1) se1 (g.step s1), g.bk, g.ct⟩
theorem bd_ret (h : Ev j te ss p.rt) : Bd j (tRet te) ss p := fun D σ H st xg se g => h σ H st xg se _ fun r hr => g.rt r hr
theorem bd_retN (k : p.rt .non) : Bd j tRetN ss p := fun D σ H st xg se g => g.rt _ k _ H (.refl st) (.v _)
theorem bd_drop (h : Ev j te ss fun _ => p.nx ss) : Bd j (tDrop te) ss p := fun D σ H st xg se g => h σ H st xg se _ fun r hr v H1 s1 h1 => g.nx ss hr σ H1 s1 (se.step s1)
theorem bd_asg {tg : TG} (h : Ev j te ss fun x => Eg j tg x ss p.nx) : Bd j (tAsg te tg) ss p := fun D σ H st xg se g =>
  h σ H st xg se _ fun x hx v H1 s1 h1 => hx v σ H1 s1.st (xg.step s1) h1 (se.step s1) _ fun ss2 h2 σ2 H2 s2 se2 => g.nx ss2 h2 σ2 H2 (s1.trans s2) se2
theorem bd_par {a b : Nat} (h : Ea j tA ss fun l => ∃ x y, l = [x, y] ∧ p.nx ((ss.set a (some x)).set b (some y))) : Bd j (tPar a b tA) ss p := fun D σ H st xg se g =>
  h σ H st xg se _ fun l hl vs H1 s1 h1 => by
    obtain ⟨x, y, rfl, k⟩ := hl
    cases h1 with
    | cons a1 r1 =>
      cases r1 with
      | cons a2 r2 =>
        cases r2
        exact ⟨_, _, rfl, g.nx _ k _ H1 s1 (((se.step s1).set a1 a).set a2 b)⟩
theorem bd_if (h : Et j t ss fun b => (b = true → Bd j ts ss p) ∧ (b = false → Bd j us ss p)) : Bd j (tIfS t ts us) ss p := fun D σ H st xg se g =>
  h σ H st xg se _ fun b hb H1 s1 => by
    cases b with
    | true => exact hb.1 rfl D σ H1 s1.st (xg.step s1) (se.step s1) (g.step s1)
    | false => exact hb.2 rfl D σ H1 s1.st (xg.step s1) (se.step s1) (g.step s1)
theorem bd_while {c : TT} (I : Nat → SS → Prop) (m : Nat) (h0 : I m ss) (h : ∀ m ss, I m ss → Et j c ss fun b => (b = true → Bd j ts ss ⟨p.rt, fun ss1 => ∃ m', m' < m ∧ I m' ss1, p.nx, fun ss1 => ∃ m', m' < m ∧ I m' ss1⟩) ∧ (b = false → p.nx ss)) : Bd j (tWhile c ts) ss p := fun D σ H st xg se g => by
  refine ⟨fun m σ1 H1 => ∃ ss1, I m ss1 ∧ Step j.M H H1 ∧ SE j.M H1 ss1 σ1, ⟨m, ss, h0, .refl st, se⟩, fun m σ1 H1 ⟨ss1, i1, s1, se1⟩ => ?_⟩
  refine h m ss1 i1 σ1 H1 s1.st (xg.step s1) se1 _ fun b hb H2 s2 => ?_
  cases b with
  | false =>
    show D.nx σ1 H2
    exact g.nx ss1 (hb.2 rfl) σ1 H2 (s1.trans s2) (se1.step s2)
  | true =>
    refine ⟨fun σ3 H3 => ∃ m', m' < m ∧ ∃ ss3, I m' ss3 ∧ Step j.M H H3 ∧ SE j.M H3 ss3 σ3, fun σ3 H3 ⟨m', hm, ss3, i3, s3, se3⟩ => ⟨m', hm, ss3, i3, s3, se3⟩, ?_⟩
    have s12 := s1.trans s2
    refine hb.1 rfl _ σ1 H2 s2.st (xg.step s12) (se1.step s2) ⟨fun r hr => (g.rt r hr).step s12, fun ss4 ⟨m', hm, i4⟩ σ4 H4 s4 se4 => ⟨m', hm, ss4, i4, s12.trans s4, se4⟩, g.nx.step s12, fun ss4 ⟨m', hm, i4⟩ σ4 H4 s4 se4 => ⟨m', hm, ss4, i4, s12.trans s4, se4⟩⟩
end
end GS

/-! GkShOp -/
set_option Elab.async false
set_option Elab.async false
set_option linter.all false
set_option maxRecDepth 100000
set_option maxHeartbeats 2000000
/-! Operators, loops, comprehensions, defs by shapes. -/
namespace GS
open PySem PySem.Spec PyProof.Rows L2
section
variable {j : J} {ss : SS} {q : Sh → Prop} {ta tb te to : TE} {t u : TT} {tA tr : TA} {K : PySem.W.Frag} {a b n : Int} {l : List Sh} {s : Sh}
theorem Ret.of {M : Mode} {H : Hp} {Q : VK} {r : Sh} (h : Ret M H Q r) (st : St M H) {v : V} (i : Is M H r v) : Q v H := h v H (.refl st) i
theorem e2_I0 {g : Int → Int → V} (k : q (.v (g a b))) : E2 j (rI0 g) (.v (.int a)) (.v (.int b)) q := fun v u H st xg h1 h2 Q hQ => by
  cases h1
  cases h2
  exact ⟨a, b, rfl, rfl, (hQ _ k).of st (.v _)⟩
theorem e2_I {C : Int → Int → Prop} {g : Int → Int → V} (k : C a b ∧ q (.v (g a b))) : E2 j (rI C g) (.v (.int a)) (.v (.int b)) q := fun v u H st xg h1 h2 Q hQ => by
  cases h1
  cases h2
  exact ⟨a, b, rfl, rfl, k.1, (hQ _ k.2).of st (.v _)⟩
theorem e2_eq {x y : V} (h : scal x y = true) (k : q (.v (.bl (decide (x = y))))) : E2 j rEq (.v x) (.v y) q := fun v u H st xg h1 h2 Q hQ => by
  cases h1
  cases h2
  exact ⟨h, (hQ _ k).of st (.v _)⟩
theorem e2_ne {x y : V} (h : scal x y = true) (k : q (.v (.bl (!decide (x = y))))) : E2 j rNe (.v x) (.v y) q := fun v u H st xg h1 h2 Q hQ => by
  cases h1
  cases h2
  exact ⟨h, (hQ _ k).of st (.v _)⟩
/-- x is None: x a scalar, or an object -/
def Sh.isN : Sh → Bool
  | .v x => decide (x = .non)
  | _ => false
theorem Is.isN {M : Mode} {H : Hp} {s : Sh} {v : V} (h : Is M H s v) : decide (v = .non) = s.isN := by
  cases h <;> rfl
theorem ev_isN {f : TE} (h : Ev j ta ss fun x => q (.bl x.isN)) : Ev j (tOp (fun x y H Q => y = .non ∧ Q (.bl (decide (x = .non))) H) ta (tC .non)) ss q := fun σ H st xg se Q hQ =>
  h σ H st xg se _ fun x hx v H1 s1 h1 => ⟨rfl, by rw [h1.isN]; exact hQ _ hx _ H1 s1 (.v _)⟩
theorem e2_isN {x : Sh} (k : q (.bl x.isN)) : E2 j (fun x y H Q => y = .non ∧ Q (.bl (decide (x = .non))) H) x .non q := fun v u H st xg h1 h2 Q hQ => by
  cases h2
  exact ⟨rfl, by rw [h1.isN]; exact (hQ _ k).of st (.v _)⟩
theorem e2_notN {x : Sh} (k : q (.bl (!x.isN))) : E2 j (fun x y H Q => y = .non ∧ Q (.bl (!decide (x = .non))) H) x .non q := fun v u H st xg h1 h2 Q hQ => by
  cases h2
  exact ⟨rfl, by rw [h1.isN]; exact (hQ _ k).of st (.v _)⟩
theorem e1_U {g : Int → V} (k : q (.v (g a))) : E1 j (rU g) (.v (.int a)) q := fun v H st xg h1 Q hQ => by
  cases h1
  exact ⟨a, rfl, (hQ _ k).of st (.v _)⟩
/-! ### truth -/
def Sh.tru : Sh → Option Bool
  | .v .non => some false
  | .v (.bl b) => some b
  | .v (.int i) => some (i != 0)
  | .tup l => some (!l.isEmpty)
  | .lst l => some (!l.isEmpty)
  | _ => none
theorem IsL.isEmpty {M : Mode} {H : Hp} {l : List Sh} {vs : List V} : IsL M H l vs → vs.isEmpty = l.isEmpty
  | .nil => rfl
  | .cons _ _ => rfl
theorem Is.tru {M : Mode} {H : Hp} {s : Sh} {v : V} {b : Bool} (h : Is M H s v) (e : s.tru = some b) : TruV K v H b := by
  cases h with
  | v => cases v <;> cases e <;> rfl
  | tup av ha hl =>
    cases e
    exact .inr (.inl ⟨_, .inl (.inl ha), by rw [hl.isEmpty]⟩)
  | lst av ha hl =>
    cases e
    exact .inl ⟨_, .inl (.inl ha), by rw [hl.isEmpty]⟩
  | _ => cases e
/-- the shape's truth -/
def TruS (x : Sh) (b : Bool) : Prop := x.tru = some b ∨ ∃ y : Str, x = .str y ∧ y.length ≤ sizeLine ∧ b = ((y.length : Int) != 0)
theorem ex_tru {x : Sh} {b : Bool} {qb : Bool → Prop} (h : x.tru = some b) (k : qb b) : ∃ b, TruS x b ∧ qb b := ⟨b, .inl h, k⟩
theorem ex_truS {y : Str} {qb : Bool → Prop} (k : y.length ≤ sizeLine ∧ qb ((y.length : Int) != 0)) : ∃ b, TruS (.str y) b ∧ qb b := ⟨_, .inr ⟨y, rfl, k.1, rfl⟩, k.2⟩
theorem et_tru {qb : Bool → Prop} (h : Ev j ta ss fun x => ∃ b, TruS x b ∧ qb b) : Et j (fun σ H Q => ta σ H fun x H' => ∃ k, TruV K x H' k ∧ Q k H') ss qb := fun σ H st xg se Q hQ =>
  h σ H st xg se _ fun x hx v H1 s1 h1 => by
    obtain ⟨b, e, hb⟩ := hx
    rcases e with e | ⟨y, rfl, hl, rfl⟩
    · exact ⟨b, h1.tru e, hQ b hb H1 s1⟩
    · cases h1
      exact ⟨_, ⟨hl, rfl⟩, hQ _ hb H1 s1⟩
/-! ### items -/
theorem IsL.atI {M : Mode} {H : Hp} {vs : List V} {i : Int} (h : IsL M H l vs) (e : L2.atI l i = some s) : ∃ v, L2.atI vs i = some v ∧ Is M H s v := by
  unfold L2.atI at e ⊢
  rw [← h.length]
  cases k : ixN l.length i with
  | none => rw [k] at e; cases e
  | some m =>
    rw [k] at e
    exact h.get e
theorem e2_ixL {i : Int} (e : L2.atI l i = some s) (k : q s) : E2 j (rIxL K) (.lst l) (.v (.int i)) q := fun v u H st xg h1 h2 Q hQ => by
  cases h2
  cases h1 with
  | lst av ha hl =>
    obtain ⟨v, e', hv⟩ := hl.atI e
    exact ⟨_, _, i, v, rfl, rfl, .inl (.inl ha), e', (hQ _ k).of st hv⟩
theorem e2_ixT {i : Int} (e : L2.atI l i = some s) (k : q s) : E2 j (rIxT K) (.tup l) (.v (.int i)) q := fun v u H st xg h1 h2 Q hQ => by
  cases h2
  cases h1 with
  | tup av ha hl =>
    obtain ⟨v, e', hv⟩ := hl.atI e
    exact ⟨_, _, i, v, rfl, rfl, .inl (.inl ha), e', (hQ _ k).of st hv⟩
theorem e2_ix_l {i : Int} (e : L2.atI l i = some s) (k : q s) : E2 j (rIx K) (.lst l) (.v (.int i)) q := fun v u H st xg h1 h2 Q hQ => .inl (e2_ixL (K := K) e k v u H st xg h1 h2 Q hQ)
theorem e2_ix_t {i : Int} (e : L2.atI l i = some s) (k : q s) : E2 j (rIx K) (.tup l) (.v (.int i)) q := fun v u H st xg h1 h2 Q hQ => .inr (.inl (e2_ixT (K := K) e k v u H st xg h1 h2 Q hQ))
theorem e2_ixS {z : Str} {i : Int} {c : Nat} (hz : z.length ≤ sizeLine) (e : L2.atI z.cps.toList i = some c) (k : q (.str ⟨#[c]⟩)) : E2 j rIxS (.str z) (.v (.int i)) q := fun v u H st xg h1 h2 Q hQ => by
  cases h1
  cases h2
  exact ⟨z, i, c, rfl, rfl, hz, e, (hQ _ k).of st (.v _)⟩
/-! ### slices -/
def cutG {α : Type} (xs : List α) (lo hi : Option Int) : List α := (xs.drop (HT.sIx xs.length 0 lo)).take (HT.sIx xs.length xs.length hi - HT.sIx xs.length 0 lo)
theorem IsL.cut {M : Mode} {H : Hp} {vs : List V} {lo hi : Option Int} (h : IsL M H l vs) : IsL M H (cutG l lo hi) (cutV vs lo hi) := by
  unfold cutG cutV
  rw [h.length]
  exact (h.drop _).take _
variable {lo hi : Option Int}
theorem e3_list (k : q (.lst (cutG l lo hi))) : E3 j (rSlL K) (.lst l) lo hi q := fun v H st xg h1 Q hQ => by
  cases h1 with
  | lst av ha hl => exact ⟨_, _, rfl, .inl (.inl ha), fun p hp => hQ _ k _ _ (.new st hp) (.lst (st.av hp) upd_same (hl.cut.step (.new st hp)))⟩
theorem e3_scr {xs : List Int} (k : q (.lst ((cutG xs lo hi).map Sh.int))) : E3 j (rSlL K) (.scr xs) lo hi q := fun v H st xg h1 Q hQ => by
  cases h1 with
  | scr av ha =>
    refine ⟨_, _, rfl, .inl (.inr ⟨_, ha⟩), fun p hp => hQ _ k _ _ (.new st hp) (.lst (st.av hp) upd_same ?_)⟩
    have e : cutV (xs.map V.int) lo hi = (cutG xs lo hi).map V.int := by
      unfold cutV cutG
      rw [List.length_map, List.map_take, List.map_drop]
    rw [e]
    exact IsL.ints
theorem e3_str {z : Str} (k : z.length ≤ sizeLine ∧ q (.str (cutS z lo hi))) : E3 j rSlS (.str z) lo hi q := fun v H st xg h1 Q hQ => by
  cases h1
  exact ⟨z, rfl, k.1, (hQ _ k.2).of st (.v _)⟩
theorem ev_sl {r : V → Option Int → Option Int → Hp → VK → Prop} {tl th : TO} (h : Ev j te ss fun x => Eo j tl ss fun lo => Eo j th ss fun hi => E3 j r x lo hi q) : Ev j (tSl r te tl th) ss q := fun σ H st xg se Q hQ =>
  h σ H st xg se _ fun x hx v H1 s1 h1 => hx σ H1 s1.st (xg.step s1) (se.step s1) _ fun lo hlo H2 s2 => hlo σ H2 s2.st (xg.step (s1.trans s2)) (se.step (s1.trans s2)) _ fun hi hhi H3 s3 =>
    hhi v H3 s3.st (xg.step ((s1.trans s2).trans s3)) (h1.step (s2.trans s3)) Q fun z hz => (hQ z hz).step ((s1.trans s2).trans s3)
theorem eo_no {qo : Option Int → Prop} (k : qo none) : Eo j tNoPart ss qo := fun σ H st xg se Q hQ => hQ _ k H (.refl st)
theorem eo_yes {qo : Option Int → Prop} (h : Ev j te ss fun x => ∃ i, x = .int i ∧ qo (some i)) : Eo j (tPart te) ss qo := fun σ H st xg se Q hQ =>
  h σ H st xg se _ fun x hx v H1 s1 h1 => by
    obtain ⟨i, rfl, hi⟩ := hx
    cases h1
    exact ⟨i, rfl, hQ _ hi H1 s1⟩
/-! ### built-in functions -/
theorem en_len_l (k : q (.int l.length)) : En j (fun xs H Q => ∃ x n, xs = [x] ∧ LenV K x H n ∧ Q (.int n) H) [.lst l] q := fun vs H st xg hl Q hQ => by
  cases hl with
  | cons a r =>
    cases r
    cases a with
    | lst av ha hl => exact ⟨_, l.length, rfl, .inl ⟨_, .inl (.inl ha), hl.length⟩, (hQ _ k).of st (.v _)⟩
theorem en_len_t (k : q (.int l.length)) : En j (fun xs H Q => ∃ x n, xs = [x] ∧ LenV K x H n ∧ Q (.int n) H) [.tup l] q := fun vs H st xg hl Q hQ => by
  cases hl with
  | cons a r =>
    cases r
    cases a with
    | tup av ha hl => exact ⟨_, l.length, rfl, .inr ⟨_, .inl (.inl ha), hl.length⟩, (hQ _ k).of st (.v _)⟩
theorem en_len_str {z : Str} (k : z.length ≤ sizeLine ∧ q (.int z.length)) : En j (fun xs H Q => ∃ z, xs = [.str z] ∧ z.length ≤ sizeLine ∧ Q (.int z.length) H) [.str z] q := fun vs H st xg hl Q hQ => by
  cases hl with
  | cons a r =>
    cases r
    cases a
    exact ⟨_, rfl, k.1, (hQ _ k.2).of st (.v _)⟩
theorem en_abs (k : q (.int (if a < 0 then -a else a))) : En j (fun xs H Q => ∃ i, xs = [.int i] ∧ Q (.int (if i < 0 then -i else i)) H) [.int a] q := fun vs H st xg hl Q hQ => by
  cases hl with
  | cons a r =>
    cases r
    cases a
    exact ⟨_, rfl, (hQ _ k).of st (.v _)⟩
theorem en_int (k : q (.int a)) : En j (fun xs H Q => (∃ i, xs = [.int i] ∧ Q (.int i) H) ∨ ∃ k, xs = [.bl k] ∧ Q (.int (if k then 1 else 0)) H) [.int a] q := fun vs H st xg hl Q hQ => by
  cases hl with
  | cons a r =>
    cases r
    cases a
    exact .inl ⟨_, rfl, (hQ _ k).of st (.v _)⟩
theorem en_bool {c : Bool} (k : q (.bl c)) : En j (fun xs H Q => (∃ i, xs = [.int i] ∧ Q (.bl (i != 0)) H) ∨ ∃ k, xs = [.bl k] ∧ Q (.bl k) H) [.bl c] q := fun vs H st xg hl Q hQ => by
  cases hl with
  | cons a r =>
    cases r
    cases a
    exact .inr ⟨_, rfl, (hQ _ k).of st (.v _)⟩
theorem en_str (k : a.natAbs.log2 < 1920 ∧ q (.str (toString a))) : En j (fun xs H Q => ∃ i, xs = [.int i] ∧ i.natAbs.log2 < 1920 ∧ Q (.str (toString i)) H) [.int a] q := fun vs H st xg hl Q hQ => by
  cases hl with
  | cons a r =>
    cases r
    cases a
    exact ⟨_, rfl, k.1, (hQ _ k.2).of st (.v _)⟩
theorem en_gcd (k : q (.int ((Nat.gcd a.natAbs b.natAbs : Nat) : Int))) : En j rGcd [.int a, .int b] q := fun vs H st xg hl Q hQ => by
  cases hl with
  | cons a r =>
    cases r with
    | cons b r =>
      cases r
      cases a
      cases b
      exact ⟨_, _, rfl, (hQ _ k).of st (.v _)⟩
theorem en_list_l (k : q (.lst l)) : En j (fun xs H Q => ∃ p ys, xs = [.ref p] ∧ (SqL K H p ys ∨ SqT K H p ys) ∧ ∀ l, H l = none → Q (.ref l) (upd H l (.lst ys))) [.lst l] q := fun vs H st xg hl Q hQ => by
  cases hl with
  | cons a r =>
    cases r
    cases a with
    | lst av ha hl => exact ⟨_, _, rfl, .inl (.inl (.inl ha)), fun p hp => hQ _ k _ _ (.new st hp) (.lst (st.av hp) upd_same (hl.step (.new st hp)))⟩
theorem en_list_t (k : q (.lst l)) : En j (fun xs H Q => ∃ p ys, xs = [.ref p] ∧ (SqL K H p ys ∨ SqT K H p ys) ∧ ∀ l, H l = none → Q (.ref l) (upd H l (.lst ys))) [.tup l] q := fun vs H st xg hl Q hQ => by
  cases hl with
  | cons a r =>
    cases r
    cases a with
    | tup av ha hl => exact ⟨_, _, rfl, .inr (.inl (.inl ha)), fun p hp => hQ _ k _ _ (.new st hp) (.lst (st.av hp) upd_same (hl.step (.new st hp)))⟩
theorem en_tuple_l (k : q (.tup l)) : En j (fun xs H Q => ∃ p ys, xs = [.ref p] ∧ ((SqL K H p ys ∧ ∀ l, H l = none → Q (.ref l) (upd H l (.tup ys))) ∨ (SqT K H p ys ∧ Q (.ref p) H))) [.lst l] q := fun vs H st xg hl Q hQ => by
  cases hl with
  | cons a r =>
    cases r
    cases a with
    | lst av ha hl => exact ⟨_, _, rfl, .inl ⟨.inl (.inl ha), fun p hp => hQ _ k _ _ (.new st hp) (.tup (st.av hp) upd_same (hl.step (.new st hp)))⟩⟩
theorem IsL.of_bls {M : Mode} {H : Hp} : ∀ {xs : List Bool} {vs : List V}, IsL M H (xs.map Sh.bl) vs → vs = xs.map V.bl
  | [], _, .nil => rfl
  | _ :: _, _, .cons (.v _) l => by rw [IsL.of_bls l]; rfl
theorem en_all {bs : List Bool} (e : l = bs.map Sh.bl) (k : q (.bl (bs.all id))) : En j (rAll K) [.lst l] q := fun vs H st xg hl Q hQ => by
  subst e
  cases hl with
  | cons a r =>
    cases r
    cases a with
    | lst av ha hl =>
      cases hl.of_bls
      exact ⟨_, bs, rfl, .inl (.inl ha), (hQ _ k).of st (.v _)⟩
theorem e2_cat {l2 : List Sh} (k : l.length + l2.length ≤ sizeLine ∧ q (.lst (l ++ l2))) : E2 j rCat (.lst l) (.lst l2) q := fun v u H st xg h1 h2 Q hQ => by
  cases h1 with
  | lst av ha hl =>
    cases h2 with
    | lst av2 ha2 hl2 => exact ⟨_, _, _, _, rfl, rfl, ha, ha2, by rw [← hl.length, ← hl2.length]; exact k.1, fun p hp => hQ _ k.2 _ _ (.new st hp) (.lst (st.av hp) upd_same ((hl.append hl2).step (.new st hp)))⟩
/-! ### isinstance -/
/-- every value of the shape has the type -/
def TyS (K : PySem.W.Frag) (s : Sh) (t : Value) : Prop := ∀ M H v, Is M H s v → TyX K H v t
theorem tyS_int : TyS K (.v (.int a)) (.type "int") := fun M H v h => by cases h; exact .base (.int _)
theorem tyS_bl {c : Bool} : TyS K (.v (.bl c)) (.type "bool") := fun M H v h => by cases h; exact .base (.bl _)
theorem tyS_str {c : Str} : TyS K (.v (.str c)) (.type "str") := fun M H v h => by cases h; exact .base (.str _)
theorem tyS_non : TyS K (.v .non) (.type "NoneType") := fun M H v h => by cases h; exact .base .non
theorem tyS_lst : TyS K (.lst l) (.type "list") := fun M H v h => by cases h with | lst av ha hl => exact .base (.lst ha)
theorem tyS_tup : TyS K (.tup l) (.type "tuple") := fun M H v h => by cases h with | tup av ha hl => exact .base (.tup ha)
theorem tyS_dct : TyS K .dct (.type "dict") := fun M H v h => by cases h with | dct av ha => exact .base (.dK ha)
/-- what isinstance asks of an own class -/
structure ClsI (K : PySem.W.Frag) (C : Addr) : Prop where
  cl : Cls K C
  at1 : PySem.W.findIn K (.ref C) "__class__" = some (some (.builtin "object.__class__"))
  at2 : PySem.W.specialIn K (.builtin "object.__class__") "__get__" = some (some (.builtin "getset_descriptor.__get__"))
  at3 : PySem.W.takesIn K (.builtin "object.__class__") = some true
  at4 : PySem.W.mroIn K C (.type "object") = some true
theorem tyS_ins {C : Addr} {ns : List Str} (c : ClsI K C) : TyS K (.ins C ns l) (.ref C) := fun M H v h => by cases h with | ins av ha hl => exact .base (.ins ha c.cl c.at1 c.at2 c.at3 c.at4)
theorem en_isi {x : Sh} {c : V} {t u : Value} {r : Bool} (ht : TyS K x t) (hc : ClsV c u) (hk : PySem.W.kitOne K t u = some r) (k : q (.bl r)) : En j (rIsi K) [x, .v c] q := fun vs H st xg hl Q hQ => by
  cases hl with
  | cons a r =>
    cases r with
    | cons b r =>
      cases r
      cases b
      exact ⟨_, _, t, u, _, rfl, hc, ht _ _ _ a, hk, (hQ _ k).of st (.v _)⟩
/-! ### own operators -/
variable {fs : Fs} {E : XK} {x : Addr → List (Str × V) → Prop} {C : Addr} {ns : List Str} {l2 : List Sh}
theorem e2_own (hx : XOk j E x) (h : Callx j fs [.ins C ns l, .ins C ns l2] q x) : E2 j (rOwnB C (SpS fs) E) (.ins C ns l) (.ins C ns l2) q := fun v u H st xg h1 h2 Q hQ => by
  have w := h.run hx st xg (.cons h1 (.cons h2 .nil)) hQ
  cases h1 with
  | ins av ha hl =>
    cases h2 with
    | ins av2 ha2 hl2 => exact .inl ⟨_, _, _, _, _, _, rfl, ha, rfl, ha2, w⟩
theorem e2_ownI (hx : XOk j E x) (h : Callx j fs [.ins C ns l, .v (.int a)] q x) : E2 j (rOwnB C (SpS fs) E) (.ins C ns l) (.v (.int a)) q := fun v u H st xg h1 h2 Q hQ => by
  have w := h.run hx st xg (.cons h1 (.cons h2 .nil)) hQ
  cases h1 with
  | ins av ha hl =>
    cases h2
    exact .inr ⟨_, _, _, _, rfl, ha, rfl, w⟩
theorem e1_own (hx : XOk j E x) (h : Callx j fs [.ins C ns l] q x) : E1 j (rOwnU C (SpS fs) E) (.ins C ns l) q := fun v H st xg h1 Q hQ => by
  have w := h.run hx st xg (.cons h1 .nil) hQ
  cases h1 with
  | ins av ha hl => exact ⟨_, _, _, rfl, ha, w⟩
theorem e2_ownEq {y : Sh} {t : Value} (hx : XOk j E x) (ht : TyS K y t) (hn : PySem.W.notFirst K C t = true) (h : Callx j fs [.ins C ns l, y] q x) : E2 j (rOwnEq K C (SpS fs) E) (.ins C ns l) y q := fun v u H st xg h1 h2 Q hQ => by
  have w := h.run hx st xg (.cons h1 (.cons h2 .nil)) hQ
  cases h1 with
  | ins av ha hl => exact ⟨_, _, _, t, rfl, ha, ht _ _ _ h2, hn, w⟩
theorem Callx.bl {v : V} {H : Hp} {qb : Bool → Prop} {Q : Bool → Hp → Prop} (hx : XOk j E x) (h : Callx j fs [s] (fun y => ∃ c, y = .bl c ∧ qb c) x) (st : St j.M H) (xg : j.XG H) (i : Is j.M H s v) (hQ : ∀ c, qb c → ∀ H', Step j.M H H' → Q c H') :
    SpS fs [v] H (fun z H' => ∃ b, z = .bl b ∧ Q b H') E := by
  refine h.run hx st xg (.cons i .nil) fun r ⟨c, e, hc⟩ v H' s1 h1 => ?_
  subst e
  cases h1
  exact ⟨c, rfl, hQ c hc H' s1⟩
theorem et_own {qb : Bool → Prop} (hx : XOk j E x) (h : Ev j ta ss fun y => ∃ ns l, y = .ins C ns l ∧ Callx j fs [y] (fun y => ∃ c, y = .bl c ∧ qb c) x) :
    Et j (fun σ H Q => ta σ H fun x H' => (fun x H Q => ∃ a dx fs', x = V.ref a ∧ H a = some (.ins C dx fs') ∧ SpS fs [x] H (fun z H' => ∃ b, z = .bl b ∧ Q b H') E) x H' Q) ss qb := fun σ H st xg se Q hQ =>
  h σ H st xg se _ fun y hy v H1 s1 h1 => by
    obtain ⟨ns, l, rfl, hy⟩ := hy
    have w := hy.bl (Q := Q) hx s1.st (xg.step s1) h1 fun c hc H' s2 => hQ c hc H' (s1.trans s2)
    cases h1 with
    | ins av ha hl => exact ⟨_, _, _, rfl, ha, w⟩
theorem en_ownBool (hx : XOk j E x) (h : Callx j fs [.ins C ns l] (fun y => ∃ c, y = .bl c ∧ q y) x) :
    En j (fun xs H Q => ∃ a dx fs', xs = [.ref a] ∧ H a = some (.ins C dx fs') ∧ SpS fs [.ref a] H (fun z H' => ∃ b, z = .bl b ∧ Q z H') E) [.ins C ns l] q := fun vs H st xg hl Q hQ => by
  cases hl with
  | cons a r =>
    cases r
    have w : SpS fs [_] H (fun z H' => ∃ b, z = V.bl b ∧ Q z H') E := h.run hx st xg (.cons a .nil) fun r ⟨c, e, hc⟩ v H' s1 h1 => by
      subst e
      cases h1
      exact ⟨c, rfl, hQ _ hc _ H' s1 (.v _)⟩
    cases a with
    | ins av ha hl => exact ⟨_, _, _, rfl, ha, w⟩
theorem en_ownRepr (hx : XOk j E x) (h : Callx j fs [.ins C ns l] (fun y => ∃ c, y = .str c ∧ q y) x) :
    En j (fun xs H Q => ∃ a dx fs', xs = [.ref a] ∧ H a = some (.ins C dx fs') ∧ SpS fs [.ref a] H (fun z H' => ∃ y, z = .str y ∧ Q z H') E) [.ins C ns l] q := fun vs H st xg hl Q hQ => by
  cases hl with
  | cons a r =>
    cases r
    have w : SpS fs [_] H (fun z H' => ∃ b, z = V.str b ∧ Q z H') E := h.run hx st xg (.cons a .nil) fun r ⟨c, e, hc⟩ v H' s1 h1 => by
      subst e
      cases h1
      exact ⟨c, rfl, hQ _ hc _ H' s1 (.v _)⟩
    cases a with
    | ins av ha hl => exact ⟨_, _, _, rfl, ha, w⟩
/-! ### making an instance -/
/-- __init__ of the class at C, by shapes: what is made, or what is raised -/
def SpI (C : Addr) (fs : Fs) : Sp := fun vs H Q E => ∃ p dx us M shs S, vs = .ref p :: us ∧ H p = some (.ins C dx []) ∧ Av M p ∧ fs M shs S ∧ St (M.hold p (.ins C dx [] [])) H ∧ IsL (M.hold p (.ins C dx [] [])) H shs us ∧ ∀ oc, S oc → match oc with
  | .ret r => ∀ ns l ws H', r = .ins C ns l → (∀ a o, Av M a → NoTbl o → a ≠ p → H a = some o → H' a = some o) → St M H' → H' p = some (.ins C dx (ns.zip ws)) → IsL M H' l ws → Q .non H'
  | .exc D g => ∀ d H', (∀ a o, Av M a → NoTbl o → a ≠ p → H a = some o → H' a = some o) → St M H' → H' d = some (.xd g) → Av M d → E (.ref D) (some d) H'
theorem ev_make {dv : List V} (hx : XOk j E x) (h : Ea j tA ss fun l => fs j.M (l ++ dv.map Sh.v) fun oc => (∀ r, oc = .ret r → ∃ ns l, r = .ins C ns l) ∧ oc.fin q x) : Ev j (tMake C (SpI C fs) dv E tA) ss q := fun σ H st xg se Q hQ =>
  h σ H st xg se _ fun l hl vs H1 s1 h1 z dx hz hd hne => by
    have f := hl
    have s2 : Step j.M H1 (upd (upd H1 dx (.own z)) z (.ins C dx [])) := by
      refine (Step.new s1.st hd).trans (.new (Step.new s1.st hd).st ?_)
      rw [upd_ne (Ne.symm hne)]
      exact hz
    have kk : ∀ a o, a ≠ z → H1 a = some o → upd (upd H1 dx (.own z)) z (.ins C dx []) a = some o := fun a o ne e => by
      rw [upd_ne ne, upd_ne (fun ea => by rw [ea, hd] at e; cases e)]
      exact e
    have ne1 : ∀ a o, H1 a = some o → a ≠ z := fun a o e ea => by rw [ea, hz] at e; cases e
    have il := (h1.append (M := j.M) (l2 := dv.map Sh.v) (ws := dv) (by
      clear h hQ f hl
      induction dv with
      | nil => exact .nil
      | cons a r ih => exact .cons (.v a) ih))
    refine ⟨z, dx, _, j.M, _, _, rfl, upd_same, s1.st.av hz, f, (Step.new s1.st hd).st.hold (by rw [upd_ne (Ne.symm hne)]; exact hz) ⟨[], upd_same, .nil, rfl⟩, il.conv2 (M' := j.M.hold z (.ins C dx [] [])) (H' := upd (upd H1 dx (.own z)) z (.ins C dx [])) (fun a o av nt e => ⟨av.to_hold (ne1 a o e), kk a o (ne1 a o e) e⟩) rfl, fun oc ho => ?_⟩
    obtain ⟨k1, k2⟩ := ho
    cases oc with
    | exc D g => exact fun d H' k st' hd av => hx H1 D g (xg.step s1) k2 d H' ⟨fun a o av nt e => k a o av nt (ne1 a o e) (kk a o (ne1 a o e) e), st'⟩ hd av
    | ret r =>
      obtain ⟨ns, l3, e⟩ := k1 r rfl
      subst e
      intro ns' l' ws H3 e keep st3 hp hl3
      cases e
      exact ⟨rfl, hQ _ k2 _ H3 (s1.trans ⟨fun a o av nt e => keep a o av nt (ne1 a o e) (kk a o (ne1 a o e) e), st3⟩) (.ins (s1.st.av hz) hp hl3)⟩
/-! ### f-strings -/
theorem ev_fmtS (h : Ev j te ss fun x => (∃ y : Str, x = .str y ∧ y.length ≤ sizeLine ∧ q (.str y)) ∨ ∃ i : Int, x = .int i ∧ i.natAbs.log2 < 1920 ∧ q (.str (toString i))) : Ev j (tFmt te) ss q := fun σ H st xg se Q hQ =>
  h σ H st xg se _ fun x hx v H1 s1 h1 => by
    rcases hx with ⟨y, rfl, hy, k⟩ | ⟨i, rfl, hi, k⟩
    · cases h1
      exact .inl ⟨y, rfl, hy, hQ _ k _ H1 s1 (.v _)⟩
    · cases h1
      exact .inr ⟨i, rfl, hi, hQ _ k _ H1 s1 (.v _)⟩
/-- the parts of an f-string -/
def Ej (j : J) : List TE → Str → SS → (Str → Prop) → Prop
  | [], acc, _, q => q acc
  | t :: ts, acc, ss, q => Ev j t ss fun x => ∃ y : Str, x = .str y ∧ (acc ++ y).length ≤ sizeLine ∧ Ej j ts (acc ++ y) ss q
theorem ej_nil {acc : Str} {qs : Str → Prop} (k : qs acc) : Ej j [] acc ss qs := k
theorem ej_cons {t : TE} {ts : List TE} {acc : Str} {qs : Str → Prop} (h : Ev j t ss fun x => ∃ y : Str, x = .str y ∧ (acc ++ y).length ≤ sizeLine ∧ Ej j ts (acc ++ y) ss qs) : Ej j (t :: ts) acc ss qs := h
theorem ej_run : ∀ {ts : List TE} {acc : Str} {qs : Str → Prop}, Ej j ts acc ss qs → ∀ σ H, St j.M H → j.XG H → SE j.M H ss σ → ∀ Q : Str → Hp → Prop, (∀ b, qs b → ∀ H', Step j.M H H' → Q b H') → tJs ts acc σ H Q
  | [], acc, qs, h, σ, H, st, xg, se, Q, hQ => hQ acc h H (.refl st)
  | t :: ts, acc, qs, h, σ, H, st, xg, se, Q, hQ => h σ H st xg se _ fun x hx v H1 s1 h1 => by
    obtain ⟨y, rfl, hy, k⟩ := hx
    cases h1
    exact ⟨y, rfl, hy, ej_run k σ H1 s1.st (xg.step s1) (se.step s1) Q fun b hb H' s2 => hQ b hb H' (s1.trans s2)⟩
theorem ev_joined {ts : List TE} (h : Ej j ts Str.empty ss fun out => q (.str out)) : Ev j (fun σ H Q => tJs ts Str.empty σ H fun out H1 => Q (.str out) H1) ss q := fun σ H st xg se Q hQ =>
  ej_run h σ H st xg se _ fun b hb H' s1 => hQ _ hb _ H' s1 (.v _)
/-! ### exceptions -/
theorem bd_raise {C : Addr} {p : Po} {W : WX} (hW : ∀ σ, (fun cls d H => W cls d σ H) = j.X) (h : Ea j tA ss fun l => ∃ v, l = [.v v] ∧ j.ex C [("what", v)]) : Bd j (tRaiseOut C W tA) ss p := fun D σ H st xg se g =>
  h σ H st xg se _ fun l hl vs H1 s1 h1 => by
    obtain ⟨v, rfl, hx⟩ := hl
    cases h1 with
    | cons a r =>
      cases r
      cases a
      refine ⟨v, rfl, fun d hd => ?_⟩
      have z := xg.step s1 C _ hx d _ (.new s1.st hd) upd_same (s1.st.av hd)
      rw [← hW σ] at z
      exact z
/-! ### loops -/
/-- an iterator yields things of the shapes l -/
structure Itm (M : Mode) (H : Hp) (I : It) (l : List Sh) : Prop where
  run : ∀ M' H', M.bag = M'.bag → (∀ a o, Av M a → NoTbl o → H a = some o → Av M' a ∧ H' a = some o) → St M' H' →
    (∀ i s, l[i]? = some s → I.go i H' ∧ ∀ x H'', I.yld i H' x H'' → (∀ a o, H' a = some o → H'' a = some o) ∧ Is M' H'' s x) ∧ ∀ i, l.length ≤ i → I.stop i H'
def Ei (j : J) (wi : TI) (ss : SS) (q : List Sh → Prop) : Prop := ∀ σ H, St j.M H → j.XG H → SE j.M H ss σ → ∀ R : It → Hp → Prop, (∀ l, q l → ∀ I H', Step j.M H H' → Itm j.M H' I l → R I H') → wi σ H R
theorem SqL.inj {H : Hp} {a : Addr} {xs ys : List V} {M : Mode} (ha : H a = some (.lst xs)) : True := trivial
variable {qi : List Sh → Prop} {wi : TI} {g : TG} {tt : TT} {p : Po}
theorem ei_range1 (h : Ea j tA ss fun l => ∃ n : Int, l = [.int n] ∧ -(2 ^ 62) ≤ n ∧ n < 2 ^ 62 ∧ qi ((List.range n.toNat).map fun i => Sh.int (i : Nat))) : Ei j (iRng1 tA) ss qi := fun σ H st xg se R hR =>
  h σ H st xg se _ fun l hl vs H1 s1 h1 => by
    obtain ⟨n, rfl, h0, h1', k⟩ := hl
    cases h1 with
    | cons a r =>
      cases r
      cases a
      refine ⟨n, rfl, h0, h1', hR _ k _ H1 s1 ⟨fun M' H' _ _ _ => ⟨fun i s e => ?_, fun i hi => ?_⟩⟩⟩
      · rw [List.getElem?_map] at e
        have hi : i < n.toNat := by
          by_cases hi : i < n.toNat
          · exact hi
          · rw [List.getElem?_eq_none (by simpa using hi)] at e
            cases e
        rw [List.getElem?_range hi] at e
        cases e
        refine ⟨hi, fun x H'' y => ?_⟩
        obtain ⟨rfl, rfl⟩ := y
        refine ⟨fun _ _ e => e, ?_⟩
        rw [Int.zero_add]
        exact .v _
      · rw [List.length_map, List.length_range] at hi
        exact hi
theorem ei_range2 (h : Ea j tA ss fun l => ∃ a b : Int, l = [.int a, .int b] ∧ (-(2 ^ 62) ≤ a ∧ a < 2 ^ 62 ∧ -(2 ^ 62) ≤ b ∧ b < 2 ^ 62) ∧ qi ((List.range (b - a).toNat).map fun i => Sh.int (a + (i : Nat)))) : Ei j (iRng2 tA) ss qi := fun σ H st xg se R hR =>
  h σ H st xg se _ fun l hl vs H1 s1 h1 => by
    obtain ⟨a, b, rfl, h0, k⟩ := hl
    cases h1 with
    | cons x r =>
      cases r with
      | cons y r =>
        cases r
        cases x
        cases y
        refine ⟨a, b, rfl, h0, hR _ k _ H1 s1 ⟨fun M' H' _ _ _ => ⟨fun i s e => ?_, fun i hi => ?_⟩⟩⟩
        · rw [List.getElem?_map] at e
          have hi : i < (b - a).toNat := by
            by_cases hi : i < (b - a).toNat
            · exact hi
            · rw [List.getElem?_eq_none (by simpa using hi)] at e
              cases e
          rw [List.getElem?_range hi] at e
          cases e
          refine ⟨hi, fun x H'' y => ?_⟩
          obtain ⟨rfl, rfl⟩ := y
          exact ⟨fun _ _ e => e, .v _⟩
        · rw [List.length_map, List.length_range] at hi
          exact hi
end
end GS

/-! GkShLp -/
set_option Elab.async false
set_option Elab.async false
set_option linter.all false
set_option maxRecDepth 100000
set_option maxHeartbeats 2000000
/-! Loops, comprehensions, defs by shapes. -/
namespace GS
open PySem PySem.Spec PyProof.Rows L2
section
variable {j : J} {ss : SS} {q : Sh → Prop} {ta tb te to : TE} {t u : TT} {tA tr : TA} {K : PySem.W.Frag} {qi : List Sh → Prop} {wi : TI} {g : TG} {tt : TT} {p : Po} {ts : TS}
theorem SE.conv {M M' : Mode} {H H' : Hp} (k : ∀ a o, Av M a → NoTbl o → H a = some o → Av M' a ∧ H' a = some o) (hb : M.bag = M'.bag) : ∀ {ss : SS} {σ : L2.St}, SE M H ss σ → SE M' H' ss σ
  | _, _, .nil => .nil
  | _, _, .no l => .no (SE.conv k hb l)
  | _, _, .yes a l => .yes (a.conv k hb) (SE.conv k hb l)
theorem ei_list (h : Ev j te ss fun x => ∃ l, x = .lst l ∧ qi l) : Ei j (iList K te) ss qi := fun σ H st xg se R hR =>
  h σ H st xg se _ fun x hx v H1 s1 h1 => by
    obtain ⟨l, rfl, k⟩ := hx
    cases h1 with
    | lst av ha hl =>
      refine ⟨_, rfl, ⟨_, .inl (.inl ha)⟩, hR _ k _ H1 s1 ⟨fun M' H' hb hk st' => ⟨fun i s e => ?_, fun i hi => ?_⟩⟩⟩
      · have ha' := (hk _ _ av noTbl_lst ha).2
        obtain ⟨v, hv, iv⟩ := (hl.conv2 hk hb).get e
        refine ⟨⟨_, v, .inl (.inl ha'), hv⟩, fun x H'' y => ?_⟩
        obtain ⟨rfl, y⟩ := y
        have z := y _ (.inl (.inl ha'))
        rw [hv] at z
        cases z
        exact ⟨fun _ _ e => e, iv⟩
      · exact ⟨_, .inl (.inl (hk _ _ av noTbl_lst ha).2), by rw [← hl.length]; exact hi⟩
theorem ei_tup (h : Ev j te ss fun x => ∃ l, x = .tup l ∧ qi l) : Ei j (iTup K te) ss qi := fun σ H st xg se R hR =>
  h σ H st xg se _ fun x hx v H1 s1 h1 => by
    obtain ⟨l, rfl, k⟩ := hx
    cases h1 with
    | tup av ha hl =>
      refine ⟨_, rfl, ⟨_, .inl (.inl ha)⟩, hR _ k _ H1 s1 ⟨fun M' H' hb hk st' => ⟨fun i s e => ?_, fun i hi => ?_⟩⟩⟩
      · have ha' := (hk _ _ av noTbl_tup ha).2
        obtain ⟨v, hv, iv⟩ := (hl.conv2 hk hb).get e
        refine ⟨⟨_, v, .inl (.inl ha'), hv⟩, fun x H'' y => ?_⟩
        obtain ⟨rfl, y⟩ := y
        have z := y _ (.inl (.inl ha'))
        rw [hv] at z
        cases z
        exact ⟨fun _ _ e => e, iv⟩
      · exact ⟨_, .inl (.inl (hk _ _ av noTbl_tup ha).2), by rw [← hl.length]; exact hi⟩
/-- enumerate(list) -/
def enumS (l : List Sh) : List Sh := (List.range l.length).zipWith (fun (i : Nat) (s : Sh) => Sh.tup [.int (i : Int), s]) l
theorem ei_enum (h : Ea j tA ss fun x => ∃ l, x = [.lst l] ∧ qi (enumS l)) : Ei j (iEnum K tA) ss qi := fun σ H st xg se R hR =>
  h σ H st xg se _ fun x hx vs H1 s1 h1 => by
    obtain ⟨l, rfl, k⟩ := hx
    cases h1 with
    | cons x r =>
      cases r
      cases x with
      | lst av ha hl =>
        refine ⟨_, _, rfl, .inl (.inl ha), hR _ k _ H1 s1 ⟨fun M' H' hb hk st' => ⟨fun i s e => ?_, fun i hi => ?_⟩⟩⟩
        · have ha' := (hk _ _ av noTbl_lst ha).2
          unfold enumS at e
          rw [List.getElem?_zipWith] at e
          cases e1 : (List.range l.length)[i]? with
          | none => rw [e1] at e; cases e
          | some m =>
            cases e2 : l[i]? with
            | none => rw [e1, e2] at e; cases e
            | some s0 =>
              rw [e1, e2] at e
              cases e
              have hm : m = i := by
                have hi : i < l.length := by
                  by_cases hi : i < l.length
                  · exact hi
                  · rw [List.getElem?_eq_none (by omega)] at e2
                    cases e2
                rw [List.getElem?_range hi] at e1
                exact (Option.some.inj e1).symm
              subst hm
              obtain ⟨v, hv, iv⟩ := (hl.conv2 hk hb).get e2
              refine ⟨⟨_, v, .inl (.inl ha'), hv⟩, fun x H'' y => ?_⟩
              obtain ⟨T, x, rfl, hT, rfl, y⟩ := y
              have z := y _ (.inl (.inl ha'))
              rw [hv] at z
              cases z
              exact ⟨Ext.new hT, .tup (st'.av hT) upd_same (.cons (.v _) (.cons (iv.same (Ext.new hT)) .nil))⟩
        · refine ⟨_, .inl (.inl (hk _ _ av noTbl_lst ha).2), ?_⟩
          unfold enumS at hi
          rw [List.length_zipWith, List.length_range, Nat.min_self] at hi
          rw [← hl.length]
          exact hi
/-- zip(list, list) -/
def zipS (l l2 : List Sh) : List Sh := l.zipWith (fun (x y : Sh) => Sh.tup [x, y]) l2
theorem ei_zip (h : Ea j tA ss fun x => ∃ l l2, x = [.lst l, .lst l2] ∧ qi (zipS l l2)) : Ei j (iZip K tA) ss qi := fun σ H st xg se R hR =>
  h σ H st xg se _ fun x hx vs H1 s1 h1 => by
    obtain ⟨l, l2, rfl, k⟩ := hx
    cases h1 with
    | cons x r =>
      cases r with
      | cons x2 r =>
        cases r
        cases x with
        | lst av ha hl =>
          cases x2 with
          | lst av2 ha2 hl2 =>
            refine ⟨_, _, _, _, rfl, .inl (.inl ha), .inl (.inl ha2), hR _ k _ H1 s1 ⟨fun M' H' hb hk st' => ⟨fun i s e => ?_, fun i hi => ?_⟩⟩⟩
            · have ha' := (hk _ _ av noTbl_lst ha).2
              have ha2' := (hk _ _ av2 noTbl_lst ha2).2
              unfold zipS at e
              rw [List.getElem?_zipWith] at e
              cases e1 : l[i]? with
              | none => rw [e1] at e; cases e
              | some s1 =>
                cases e2 : l2[i]? with
                | none => rw [e1, e2] at e; cases e
                | some s2 =>
                  rw [e1, e2] at e
                  cases e
                  obtain ⟨v, hv, iv⟩ := (hl.conv2 hk hb).get e1
                  obtain ⟨v2, hv2, iv2⟩ := (hl2.conv2 hk hb).get e2
                  refine ⟨⟨_, _, v, v2, .inl (.inl ha'), .inl (.inl ha2'), hv, hv2⟩, fun x H'' y => ?_⟩
                  obtain ⟨T, x, y, rfl, hT, rfl, y1, y2⟩ := y
                  have z := y1 _ (.inl (.inl ha'))
                  rw [hv] at z
                  cases z
                  have z := y2 _ (.inl (.inl ha2'))
                  rw [hv2] at z
                  cases z
                  exact ⟨Ext.new hT, .tup (st'.av hT) upd_same (.cons (iv.same (Ext.new hT)) (.cons (iv2.same (Ext.new hT)) .nil))⟩
            · refine ⟨_, _, .inl (.inl (hk _ _ av noTbl_lst ha).2), .inl (.inl (hk _ _ av2 noTbl_lst ha2).2), ?_⟩
              unfold zipS at hi
              rw [List.length_zipWith] at hi
              rw [← hl.length, ← hl2.length]
              omega
theorem Ei.mono {q q' : List Sh → Prop} (h : Ei j wi ss q) (k : ∀ l, q l → q' l) : Ei j wi ss q' := fun σ H st xg se R hR => h σ H st xg se R fun l hl => hR l (k l hl)
theorem Ev.mono {q q' : Sh → Prop} (h : Ev j te ss q) (k : ∀ l, q l → q' l) : Ev j te ss q' := fun σ H st xg se R hR => h σ H st xg se R fun l hl => hR l (k l hl)
theorem Eg.mono {q q' : SS → Prop} {s : Sh} (h : Eg j g s ss q) (k : ∀ l, q l → q' l) : Eg j g s ss q' := fun v σ H st xg i se R hR => h v σ H st xg i se R fun l hl => hR l (k l hl)
/-- for: W the invariant by the turn -/
theorem bd_for (h : Ei j wi ss fun l => ∃ W : Nat → SS → Prop, W 0 ss ∧ (∀ i s ss1, l[i]? = some s → W i ss1 → Eg j g s ss1 fun ss2 => Bd j ts ss2 ⟨p.rt, W (i + 1), p.nx, W (i + 1)⟩) ∧ ∀ ss1, W l.length ss1 → p.nx ss1) :
    Bd j (tFor wi g ts) ss p := fun D σ H st xg se gd =>
  h σ H st xg se _ fun l ⟨W, w0, ww, we⟩ I H1 s1 im => by
    refine ⟨fun i m σ2 H2 => m + i = l.length ∧ ∃ ss2, W i ss2 ∧ Step j.M H1 H2 ∧ SE j.M H2 ss2 σ2, ⟨l.length, rfl, ss, w0, .refl s1.st, se.step s1⟩, ?_⟩
    rintro i m σ2 H2 ⟨hm, ss2, w2, s2, se2⟩
    have s12 := s1.trans s2
    obtain ⟨a1, a2⟩ := im.run j.M H2 rfl (fun a o av nt e => ⟨av, s2.keep a o av nt e⟩) s2.st
    by_cases hi : i < l.length
    · refine .inr ?_
      obtain ⟨b1, b2⟩ := a1 i l[i] (List.getElem?_eq_getElem hi)
      refine ⟨b1, fun σ3 H3 => ∃ m', m' < m ∧ m' + (i + 1) = l.length ∧ ∃ ss3, W (i + 1) ss3 ∧ Step j.M H1 H3 ∧ SE j.M H3 ss3 σ3, fun σ3 H3 z => z, fun x H3 y => ?_⟩
      obtain ⟨c1, c2⟩ := b2 x H3 y
      have s3 : Step j.M H2 H3 := .of s2.st c1
      have s123 := s12.trans s3
      refine ww i _ ss2 (List.getElem?_eq_getElem hi) w2 x σ2 H3 s3.st (xg.step s123) c2 (se2.step s3) _ fun ss4 h4 σ4 H4 s4 se4 => ?_
      have s1234 := s123.trans s4
      have fin : Nx j H4 (fun σ5 H5 => ∃ m', m' < m ∧ m' + (i + 1) = l.length ∧ ∃ ss3, W (i + 1) ss3 ∧ Step j.M H1 H5 ∧ SE j.M H5 ss3 σ5) (W (i + 1)) := fun ss5 w5 σ5 H5 s5 se5 => ⟨m - 1, by omega, by omega, ss5, w5, ((s2.trans s3).trans s4).trans s5, se5⟩
      exact h4 _ σ4 H4 s4.st (xg.step s1234) se4 ⟨fun r hr => (gd.rt r hr).step s1234, fin, gd.nx.step s1234, fin⟩
    · refine .inl ⟨a2 i (by omega), ?_⟩
      have e : i = l.length := by omega
      subst e
      exact gd.nx ss2 (we ss2 w2) σ2 H2 s12 se2
/-! ### comprehensions -/
def wipeS (ss : SS) : List Nat → SS
  | [] => ss
  | v :: vs => (wipeS ss vs).set v none
theorem SE.unset {M : Mode} {H : Hp} : ∀ {ss : SS} {σ : L2.St} (i : Nat), SE M H ss σ → SE M H (ss.set i none) (σ.set i none)
  | _, _, _, .nil => .nil
  | _, _, 0, .no l => .no l
  | _, _, 0, .yes _ l => .no l
  | _, _, i + 1, .no l => .no (SE.unset i l)
  | _, _, i + 1, .yes a l => .yes a (SE.unset i l)
theorem SE.wipe {M : Mode} {H : Hp} {ss : SS} {σ : L2.St} (h : SE M H ss σ) : ∀ vs : List Nat, SE M H (wipeS ss vs) (L2.wipe σ vs)
  | [] => h
  | v :: vs => (SE.wipe h vs).unset v
/-- a target that writes the slots vs alone -/
def Wr (g : TG) (vs : List Nat) : Prop := ∀ x σ H Q, g x σ H Q → g x σ H fun σ' H' => Q σ' H' ∧ L2.wipe σ' vs = L2.wipe σ vs
def Wrs (g : TGs) (vs : List Nat) : Prop := ∀ x σ H Q, g x σ H Q → g x σ H fun σ' H' => Q σ' H' ∧ L2.wipe σ' vs = L2.wipe σ vs
theorem wipe_set {i : Nat} {x : Option V} : ∀ {vs : List Nat} {σ : L2.St}, i ∈ vs → L2.wipe (σ.set i x) vs = L2.wipe σ vs
  | v :: vs, σ, h => by
    unfold L2.wipe
    by_cases hi : i ∈ vs
    · rw [wipe_set hi]
    · rcases List.mem_cons.mp h with e | e
      · subst e
        have z : ∀ {vs : List Nat}, i ∉ vs → L2.wipe (σ.set i x) vs = (L2.wipe σ vs).set i x := by
          intro vs
          induction vs with
          | nil => intro _; rfl
          | cons v vs ih =>
            intro hn
            unfold L2.wipe
            rw [ih (fun k => hn (List.mem_cons_of_mem _ k)), List.set_comm _ _ (by intro e; subst e; exact hn List.mem_cons_self)]
        rw [z hi, List.set_set]
      · exact absurd e hi
theorem wr_name {i : Nat} {vs : List Nat} (h : i ∈ vs) : Wr (gName i) vs := fun x σ H Q k => ⟨k, wipe_set h⟩
theorem wrs_nil {vs : List Nat} : Wrs gNil vs := fun x σ H Q k => ⟨k.1, k.2, rfl⟩
theorem Wr.mono' {g : TG} {x : V} {σ : L2.St} {H : Hp} {vs : List Nat} (h : Wr g vs) {Q Q' : L2.St → Hp → Prop} (mono : (∀ a b, Q a b → Q' a b) → g x σ H Q → g x σ H Q') : True := trivial
/-- targets are monotone -/
def MonG (g : TG) : Prop := ∀ x σ H (Q Q' : L2.St → Hp → Prop), (∀ a b, Q a b → Q' a b) → g x σ H Q → g x σ H Q'
def MonGs (g : TGs) : Prop := ∀ x σ H (Q Q' : L2.St → Hp → Prop), (∀ a b, Q a b → Q' a b) → g x σ H Q → g x σ H Q'
structure Tg (g : TG) (vs : List Nat) : Prop where
  wr : Wr g vs
  mo : MonG g
structure Tgs (g : TGs) (vs : List Nat) : Prop where
  wr : Wrs g vs
  mo : MonGs g
theorem tg_name {i : Nat} {vs : List Nat} (h : i ∈ vs) : Tg (gName i) vs := ⟨wr_name h, fun x σ H Q Q' f k => f _ _ k⟩
theorem tgs_nil {vs : List Nat} : Tgs gNil vs := ⟨wrs_nil, fun x σ H Q Q' f k => ⟨k.1, f _ _ k.2⟩⟩
theorem tgs_cons {g : TG} {gs : TGs} {vs : List Nat} (h : Tg g vs) (r : Tgs gs vs) : Tgs (gCons g gs) vs :=
  ⟨fun x σ H Q ⟨v, l, e, k⟩ => ⟨v, l, e, h.mo _ _ _ _ _ (fun σ1 H1 ⟨k1, e1⟩ => r.mo _ _ _ _ _ (fun σ2 H2 ⟨k2, e2⟩ => ⟨k2, e2.trans e1⟩) (r.wr _ _ _ _ k1)) (h.wr _ _ _ _ k)⟩,
    fun x σ H Q Q' f ⟨v, l, e, k⟩ => ⟨v, l, e, h.mo _ _ _ _ _ (fun σ1 H1 k1 => r.mo _ _ _ _ _ f k1) k⟩⟩
theorem tg_tup {gs : TGs} {n : Nat} {vs : List Nat} (r : Tgs gs vs) : Tg (gTup K n gs) vs :=
  ⟨fun x σ H Q ⟨a, xs, e, h1, h2, k⟩ => ⟨a, xs, e, h1, h2, r.wr _ _ _ _ k⟩, fun x σ H Q Q' f ⟨a, xs, e, h1, h2, k⟩ => ⟨a, xs, e, h1, h2, r.mo _ _ _ _ _ f k⟩⟩
/-- the judgement of an element: within, nothing may be raised -/
def J.hold (j : J) (D : Addr) (o : Hk) : J := ⟨j.M.hold D o, fun _ _ _ => False, fun _ _ => False⟩
theorem J.hold_xg {j : J} {D : Addr} {o : Hk} {H : Hp} : (j.hold D o).XG H := fun _ _ e => e.elim
/-- a new list of the shapes, under way -/
def Nw (j : J) (te : TE) (ss : SS) (q : List Sh → Prop) : Prop := ∀ σ H, St j.M H → j.XG H → SE j.M H ss σ → ∀ Q : VK,
  (∀ l, q l → ∀ a H2, (∀ b o, Av j.M b → NoTbl o → H b = some o → H2 b = some o ∧ b ≠ a) → Av j.M a → St (j.M.hold a (.lst l)) H2 → Q (.ref a) H2) → te σ H Q
theorem Nw.ev (h : Nw j te ss fun l => q (.lst l)) : Ev j te ss q := fun σ H st xg se Q hQ =>
  h σ H st xg se Q fun l hl a H2 keep av st2 => by
    obtain ⟨us, e, il⟩ : HkOk (j.M.hold a (.lst l)) H2 a (.lst l) := st2.held (a, _) List.mem_cons_self
    exact hQ _ hl _ H2 ⟨fun b o avb nt e => (keep b o avb nt e).1, st2.drop av⟩ (.lst av e (il.conv2 (M' := j.M) (H' := H2) (fun a o av nt e => ⟨av.hold.1, e⟩) rfl))
/-- [elt for target in iter if test]: W the list so far by the turn -/
theorem nw_lc {vs : List Nat} {ql : List Sh → Prop} (hg : Tg g vs)
    (h : Ei j wi ss fun l => l.length ≤ sizeLine ∧ ∃ W : Nat → List Sh → Prop, W 0 [] ∧ (∀ D i s acc, l[i]? = some s → W i acc → Eg (j.hold D (.lst acc)) g s (wipeS ss vs) fun ss2 => Et (j.hold D (.lst acc)) tt ss2 fun b => (b = true → Ev (j.hold D (.lst acc)) te ss2 fun y => W (i + 1) (acc ++ [y])) ∧ (b = false → W (i + 1) acc)) ∧
      ∀ acc, W l.length acc → ql acc) : Nw j (tLc wi g tt te vs) ss ql := fun σ H st xg se Q hQ =>
  h σ H st xg se _ fun l ⟨hz, W, w0, ww, we⟩ I H1 s1 im => by
    intro D hD
    have ne1 : ∀ a o, H1 a = some o → a ≠ D := fun a o q z => by rw [z, hD] at q; cases q
    refine ⟨fun i m H2 => m + i = l.length ∧ ∃ acc, W i acc ∧ acc.length ≤ i ∧ (∀ a o, Av j.M a → NoTbl o → H1 a = some o → H2 a = some o) ∧ St (j.M.hold D (.lst acc)) H2,
      ⟨l.length, rfl, [], w0, Nat.le_refl _, fun a o _ _ e => Ext.new hD a o e, s1.st.hold hD ⟨[], upd_same, .nil⟩⟩, ?_⟩
    rintro i m H2 ⟨hm, acc, w2, hlen, keep, st2⟩
    have conv : ∀ a o, Av j.M a → NoTbl o → H1 a = some o → Av (j.M.hold D (.lst acc)) a ∧ H2 a = some o := fun a o av nt e => ⟨av.to_hold (ne1 a o e), keep a o av nt e⟩
    obtain ⟨a1, a2⟩ := im.run (j.M.hold D (.lst acc)) H2 rfl conv st2
    by_cases hi : i < l.length
    · refine .inr ?_
      obtain ⟨b1, b2⟩ := a1 i l[i] (List.getElem?_eq_getElem hi)
      refine ⟨b1, fun H3 => ∃ m', m' < m ∧ m' + (i + 1) = l.length ∧ ∃ acc, W (i + 1) acc ∧ acc.length ≤ i + 1 ∧ (∀ a o, Av j.M a → NoTbl o → H1 a = some o → H3 a = some o) ∧ St (j.M.hold D (.lst acc)) H3, fun H3 z => z, fun x H3 y => ?_⟩
      obtain ⟨c1, c2⟩ := b2 x H3 y
      have s3 : Step (j.M.hold D (.lst acc)) H2 H3 := .of st2 c1
      have se3 : SE (j.M.hold D (.lst acc)) H3 (wipeS ss vs) (L2.wipe σ vs) := by
        have z : SE j.M H1 ss σ := se.step s1
        have z2 : SE (j.M.hold D (.lst acc)) H2 ss σ := z.conv (M' := j.M.hold D (.lst acc)) conv rfl
        exact (z2.step s3).wipe vs
      have eg := ww D i _ acc (List.getElem?_eq_getElem hi) w2
      refine hg.mo _ _ _ _ _ (fun σ4 H4 z => ?_) (hg.wr x (L2.wipe σ vs) H3 _ (eg x (L2.wipe σ vs) H3 s3.st J.hold_xg c2 se3 (fun σ4 H4 => ∃ ss4, SE (j.M.hold D (.lst acc)) H4 ss4 σ4 ∧ Step (j.M.hold D (.lst acc)) H3 H4 ∧ Et (j.hold D (.lst acc)) tt ss4 fun b => (b = true → Ev (j.hold D (.lst acc)) te ss4 fun y => W (i + 1) (acc ++ [y])) ∧ (b = false → W (i + 1) acc)) fun ss4 h4 σ4 H4 s4 se4 => ⟨ss4, se4, s4, h4⟩))
      obtain ⟨⟨ss4, se4, s4, h4⟩, ew⟩ := z
      refine ⟨?_, ?_⟩
      · have e2 : ∀ (vs : List Nat) (σ : L2.St), L2.wipe (L2.wipe σ vs) vs = L2.wipe σ vs := by
          intro vs
          induction vs with
          | nil => intro σ; rfl
          | cons v vs ih =>
            intro σ
            show (L2.wipe ((L2.wipe σ vs).set v none) vs).set v none = (L2.wipe σ vs).set v none
            by_cases hv : v ∈ vs
            · rw [wipe_set hv, ih]
            · have z : ∀ {vs : List Nat} {σ : L2.St}, v ∉ vs → L2.wipe (σ.set v none) vs = (L2.wipe σ vs).set v none := by
                intro vs
                induction vs with
                | nil => intro σ _; rfl
                | cons w vs ih2 =>
                  intro σ hn
                  unfold L2.wipe
                  rw [ih2 (fun k => hn (List.mem_cons_of_mem _ k)), List.set_comm _ _ (by intro e; subst e; exact hn List.mem_cons_self)]
              rw [z hv, ih, List.set_set]
        exact ew.trans (e2 vs σ)
      · refine h4 σ4 H4 s4.st J.hold_xg se4 _ fun b hb H5 s5 => ?_
        have s35 := (s3.trans s4).trans s5
        have keep5 : ∀ a o, Av j.M a → NoTbl o → H1 a = some o → H5 a = some o := fun a o av nt e => s35.keep a o (conv a o av nt e).1 nt (keep a o av nt e)
        cases b with
        | false =>
          show ∃ m', _
          exact ⟨m - 1, by omega, by omega, acc, hb.2 rfl, by omega, keep5, s35.st⟩
        | true =>
          rw [if_pos rfl]
          refine hb.1 rfl σ4 H5 s35.st J.hold_xg (se4.step s5) _ fun y wy v H6 s6 iy => ?_
          obtain ⟨us, hDus, il⟩ : HkOk (j.M.hold D (.lst acc)) H6 D (.lst acc) := s6.st.held (D, _) List.mem_cons_self
          have il : IsL (j.M.hold D (.lst acc)) H6 acc us := il
          refine ⟨us, hDus, by rw [← il.length]; omega, m - 1, by omega, by omega, acc ++ [y], wy, by rw [List.length_append, List.length_singleton]; omega, fun a o av nt e => ?_, ?_⟩
          · rw [upd_ne (ne1 a o e)]
            exact s6.keep a o (conv a o av nt e).1 nt (keep5 a o av nt e)
          · refine St.put (M := j.M.hold D (.lst acc)) (i := 0) (k := .lst acc) s6.st rfl ⟨us ++ [v], upd_same, ?_⟩
            have f : ∀ a o, Av (j.M.hold D (.lst acc)) a → NoTbl o → H6 a = some o → Av (j.M.hold D (.lst (acc ++ [y]))) a ∧ upd H6 D (.lst (us ++ [v])) a = some o := fun a o av nt e => ⟨av.hold.1.to_hold av.hold.2, by rw [upd_ne av.hold.2]; exact e⟩
            exact (il.conv2 (M' := j.M.hold D (.lst (acc ++ [y]))) (H' := upd H6 D (.lst (us ++ [v]))) f rfl).append (.cons (iy.conv (M' := j.M.hold D (.lst (acc ++ [y]))) f rfl) .nil)
    · refine .inl ⟨a2 i (by omega), ?_⟩
      have e : i = l.length := by omega
      subst e
      exact hQ acc (we acc w2) D H2 (fun b o av nt e => ⟨keep b o av nt (s1.keep b o av nt e), ne1 _ _ (s1.keep b o av nt e)⟩) (s1.st.av hD) st2
theorem ev_lc {vs : List Nat} (hg : Tg g vs)
    (h : Ei j wi ss fun l => l.length ≤ sizeLine ∧ ∃ W : Nat → List Sh → Prop, W 0 [] ∧ (∀ D i s acc, l[i]? = some s → W i acc → Eg (j.hold D (.lst acc)) g s (wipeS ss vs) fun ss2 => Et (j.hold D (.lst acc)) tt ss2 fun b => (b = true → Ev (j.hold D (.lst acc)) te ss2 fun y => W (i + 1) (acc ++ [y])) ∧ (b = false → W (i + 1) acc)) ∧
      ∀ acc, W l.length acc → q (.lst acc)) : Ev j (tLc wi g tt te vs) ss q := (nw_lc hg h).ev
end
/-! ### defs -/
section
variable {P : Program} {w : World} {K : PySem.W.Frag} {mg : Str → Option Value} {base : Heap} {k : Nat}
theorem SpS.len {fs : Fs} {n : Nat} (hl : ∀ M l S, fs M l S → l.length = n) : ∀ vs H Q E, SpS fs vs H Q E → vs.length = n := fun vs H Q E ⟨M, l, S, h, _, i, _⟩ => by rw [← i.length]; exact hl M l S h
/-- the judgement of a def's body -/
theorem SpS.body {fs : Fs} {N : List Str} {ts : TS} {vs : List V} {H : Hp} {Q : VK} {E : XK} (h : SpS fs vs H Q E)
    (hb : ∀ M l S, fs M l S → Bd ⟨M, E, fun C g => S (.exc C g)⟩ ts (starts N l) ⟨fun r => S (.ret r), fun _ => S (.ret .non), fun _ => False, fun _ => False⟩) :
    ts { nx := fun _ H' => Q .non H', rt := Q } (L2.start N vs) H := by
  obtain ⟨M, l, S, f, st, il, hS⟩ := h
  refine hb M l S f _ (L2.start N vs) H st (fun C g e => hS _ e) (SE.starts il) ⟨fun r hr => hS _ hr, fun ss' h' σ' H' s' _ => ?_, fun _ h' => h'.elim, fun _ h' => h'.elim⟩
  exact hS _ h' .non H' s' (.v _)
theorem fun_okS {x qual : Str} {st : Stmt} {f : Addr} {fd : FuncData} {N ps : List Str} {fs : Fs} (F : L2.Fun K x qual st f fd) (S : FnScope N ps (defScope st)) (hl : ∀ M l S, fs M l S → l.length = ps.length)
    (hbody : ∀ (cdv : Value) (A : Around) (outer : List Env) (s : Shared) (H : Hp) (E : XK), Room k (A.deeper (envOfC qual (defScope st) s.heap.objs.size f cdv)) →
      ∃ ts, PSs (cxOf CX0 P w K mg base N qual (defScope st) f cdv A outer s H E).nox (defBody st) ts ∧ ∀ M l S, fs M l S → Bd ⟨M, E, fun C g => S (.exc C g)⟩ ts (starts N l) ⟨fun r => S (.ret r), fun _ => S (.ret .non), fun _ => False, fun _ => False⟩) :
    FnOk P w K mg base CX0 (k + 1) f fd ps (SpS fs) :=
  L2.Fun.ok F S (SpS.len hl) fun cdv A outer s H vs Q E hr h => by
    obtain ⟨ts, h1, h2⟩ := hbody cdv A outer s H E hr
    exact ⟨ts, h1, h.body h2⟩
theorem fun_okSX {x qual : Str} {st : Stmt} {f : Addr} {fd : FuncData} {N ps : List Str} {fs : Fs} (F : L2.Fun K x qual st f fd) (S : FnScope N ps (defScope st)) (hl : ∀ M l S, fs M l S → l.length = ps.length)
    (hbody : ∀ (cdv : Value) (A : Around) (outer : List Env) (s : Shared) (H : Hp) (E : XK), Room k (A.deeper (envOfC qual (defScope st) s.heap.objs.size f cdv)) →
      ∃ ts, PSs (cxOf (L2.CX P w) P w K mg base N qual (defScope st) f cdv A outer s H E) (defBody st) ts ∧ ∀ M l S, fs M l S → Bd ⟨M, E, fun C g => S (.exc C g)⟩ ts (starts N l) ⟨fun r => S (.ret r), fun _ => S (.ret .non), fun _ => False, fun _ => False⟩) :
    FnOk P w K mg base (L2.CX P w) (k + 1) f fd ps (SpS fs) :=
  L2.Fun.okX F S (SpS.len hl) fun cdv A outer s H vs Q E hr h => by
    obtain ⟨ts, h1, h2⟩ := hbody cdv A outer s H E hr
    exact ⟨ts, h1, h.body h2⟩
end
end GS

/-! GkShB -/
set_option Elab.async false
set_option Elab.async false
set_option linter.all false
set_option maxRecDepth 100000
set_option maxHeartbeats 2000000
/-! Statements by shapes, the ends apart. -/
namespace GS
open PySem PySem.Spec PyProof.Rows L2
def B (j : J) (ts : TS) (ss : SS) (rt : Sh → Prop) (nx bk ct : SS → Prop) : Prop := Bd j ts ss ⟨rt, nx, bk, ct⟩
section
variable {j : J} {ss : SS} {ta tb te to : TE} {t u c : TT} {tA tr : TA} {K : PySem.W.Frag} {rt : Sh → Prop} {nx bk ct : SS → Prop} {ts us : TS} {g : TG} {wi : TI}
theorem b_next (k : nx ss) : B j tNext ss rt nx bk ct := bd_next k
theorem b_brk (k : bk ss) : B j tBreak ss rt nx bk ct := bd_brk k
theorem b_cont (k : ct ss) : B j tCont ss rt nx bk ct := bd_cont k
theorem b_seq (h : B j ts ss rt (fun ss1 => B j us ss1 rt nx bk ct) bk ct) : B j (tSeq ts us) ss rt nx bk ct := bd_seq h
theorem b_ret (h : Ev j te ss rt) : B j (tRet te) ss rt nx bk ct := bd_ret h
theorem b_retN (k : rt .non) : B j tRetN ss rt nx bk ct := bd_retN k
theorem b_drop (h : Ev j te ss fun _ => nx ss) : B j (tDrop te) ss rt nx bk ct := bd_drop h
theorem b_asg (h : Ev j te ss fun x => Eg j g x ss nx) : B j (tAsg te g) ss rt nx bk ct := bd_asg h
theorem b_par {a b : Nat} (h : Ea j tA ss fun l => ∃ x y, l = [x, y] ∧ nx ((ss.set a (some x)).set b (some y))) : B j (tPar a b tA) ss rt nx bk ct := bd_par h
theorem b_if (h : Et j t ss fun b => (b = true → B j ts ss rt nx bk ct) ∧ (b = false → B j us ss rt nx bk ct)) : B j (tIfS t ts us) ss rt nx bk ct := bd_if h
theorem b_raise {C : Addr} {W : WX} (hW : ∀ σ, (fun cls d H => W cls d σ H) = j.X) (h : Ea j tA ss fun l => ∃ v, l = [.v v] ∧ j.ex C [("what", v)]) : B j (tRaiseOut C W tA) ss rt nx bk ct := bd_raise hW h
theorem b_while (I : Nat → SS → Prop) (m : Nat) (h0 : I m ss) (h : ∀ m ss, I m ss → Et j c ss fun b => (b = true → B j ts ss rt (fun ss1 => ∃ m', m' < m ∧ I m' ss1) nx (fun ss1 => ∃ m', m' < m ∧ I m' ss1)) ∧ (b = false → nx ss)) : B j (tWhile c ts) ss rt nx bk ct := bd_while I m h0 h
theorem b_for (h : Ei j wi ss fun l => ∃ W : Nat → SS → Prop, W 0 ss ∧ (∀ i s ss1, l[i]? = some s → W i ss1 → Eg j g s ss1 fun ss2 => B j ts ss2 rt (W (i + 1)) nx (W (i + 1))) ∧ ∀ ss1, W l.length ss1 → nx ss1) :
    B j (tFor wi g ts) ss rt nx bk ct := bd_for h
theorem cxK {CX : CXT} {P : Program} {w : World} {K : PySem.W.Frag} {mg : Str → Option Value} {base : Heap} {N : List Str} {qual : Str} {scope : Scope} {f : Addr} {cd : Value} {A : Around} {outer : List Env} {s : Shared} {H : Hp} {E : XK} : (cxOf CX P w K mg base N qual scope f cd A outer s H E).K = K := rfl
theorem cxKn {CX : CXT} {P : Program} {w : World} {K : PySem.W.Frag} {mg : Str → Option Value} {base : Heap} {N : List Str} {qual : Str} {scope : Scope} {f : Addr} {cd : Value} {A : Around} {outer : List Env} {s : Shared} {H : Hp} {E : XK} : (cxOf CX P w K mg base N qual scope f cd A outer s H E).nox.K = K := rfl
/-! small steps -/
theorem ex_bl {b : Bool} {q : Bool → Prop} (k : q b) : ∃ c, Sh.bl b = Sh.bl c ∧ q c := ⟨b, rfl, k⟩
theorem ex_str {b : Str} {q : Str → Prop} (k : q b) : ∃ c, Sh.str b = Sh.str c ∧ q c := ⟨b, rfl, k⟩
theorem ex_int {b : Int} {q : Int → Prop} (k : q b) : ∃ c, Sh.int b = Sh.int c ∧ q c := ⟨b, rfl, k⟩
theorem ex_v {b : V} {q : V → Prop} (k : q b) : ∃ c, [Sh.v b] = [Sh.v c] ∧ q c := ⟨b, rfl, k⟩
theorem ex_lst {b : List Sh} {q : List Sh → Prop} (k : q b) : ∃ c, Sh.lst b = Sh.lst c ∧ q c := ⟨b, rfl, k⟩
theorem ex_tup {b : List Sh} {q : List Sh → Prop} (k : q b) : ∃ c, Sh.tup b = Sh.tup c ∧ q c := ⟨b, rfl, k⟩
theorem ex_lst1 {b : List Sh} {q : List Sh → Prop} (k : q b) : ∃ c, [Sh.lst b] = [Sh.lst c] ∧ q c := ⟨b, rfl, k⟩
theorem ex_two {x y : Sh} {q : Sh → Sh → Prop} (k : q x y) : ∃ a b, [x, y] = [a, b] ∧ q a b := ⟨x, y, rfl, k⟩
theorem cnd_t {b : Bool} {A B : Prop} (h : b = true) (k : A) : (b = true → A) ∧ (b = false → B) := ⟨fun _ => k, fun z => (by rw [h] at z; cases z)⟩
theorem cnd_f {b : Bool} {A B : Prop} (h : b = false) (k : B) : (b = true → A) ∧ (b = false → B) := ⟨fun z => (by rw [h] at z; cases z), fun _ => k⟩
/-- by what b says -/
theorem cnd {b : Bool} {c : Prop} {A B : Prop} (h : b = true ↔ c) (k1 : c → A) (k2 : ¬ c → B) : (b = true → A) ∧ (b = false → B) := ⟨fun z => k1 (h.mp z), fun z => k2 fun q => (by rw [h.mpr q] at z; cases z)⟩
theorem Oc.ret1 {q : Sh → Prop} {x : Addr → List (Str × V) → Prop} {r : Sh} (k : q r) : ∀ oc, oc = Oc.ret r → oc.fin q x := fun oc e => by subst e; exact k
theorem Oc.exc1 {q : Sh → Prop} {x : Addr → List (Str × V) → Prop} {C : Addr} {g : List (Str × V)} (k : x C g) : ∀ oc, oc = Oc.exc C g → oc.fin q x := fun oc e => by subst e; exact k
theorem sz_and {l : List Sh} {A : Prop} (h : Nat.ble l.length 1000 = true) (k : A) : l.length ≤ sizeLine ∧ A := ⟨Nat.le_trans (Nat.le_of_ble_eq_true h) (by decide), k⟩
theorem callx_of {fs : Fs} {l : List Sh} {q : Sh → Prop} {x : Addr → List (Str × V) → Prop} (h : fs j.M l (fun oc => oc.fin q x)) : Callx j fs l q x := ⟨_, h, fun _ z => z⟩
end
end GS

/-! GkShI -/
set_option Elab.async false
set_option Elab.async false
set_option linter.all false
set_option maxRecDepth 100000
set_option maxHeartbeats 2000000
/-! __init__ by shapes: tests, then self.x = .. -/
namespace GS
open PySem PySem.Spec PyProof.Rows L2
/-- where an __init__ stands: the mode about it, the new instance -/
structure JI where
  M : Mode
  X : XK
  ex : Addr → List (Str × V) → Prop
  C : Addr
  p : Addr
  dx : Addr
abbrev JI.at (i : JI) (ns : List Str) (l : List Sh) : J := ⟨i.M.hold i.p (.ins i.C i.dx ns l), i.X, i.ex⟩
structure Fin (i : JI) (H : Hp) (ns : List Str) (l : List Sh) (H' : Hp) : Prop where
  keep : ∀ a o, Av i.M a → NoTbl o → a ≠ i.p → H a = some o → H' a = some o
  st : St (i.at ns l).M H'
/-- exceptions are in order, whatever stands in the new instance -/
def JI.XB (i : JI) (H : Hp) : Prop := ∀ C g, i.ex C g → ∀ d H', (∀ a o, Av i.M a → NoTbl o → a ≠ i.p → H a = some o → H' a = some o) → St i.M H' → H' d = some (.xd g) → Av i.M d → i.X (.ref C) (some d) H'
theorem JI.XB.xg {i : JI} {H : Hp} {ns : List Str} {l : List Sh} (h : i.XB H) (avp : Av i.M i.p) : (i.at ns l).XG H := fun C g e d H' s hd av => h C g e d H' (fun a o av nt hp e => s.keep a o (av.to_hold hp) nt e) (s.st.drop avp) hd av.hold.1
theorem JI.XB.step {i : JI} {H H' : Hp} (h : i.XB H) (k : ∀ a o, Av i.M a → NoTbl o → a ≠ i.p → H a = some o → H' a = some o) : i.XB H' := fun C g e d H2 k2 st hd av => h C g e d H2 (fun a o av nt hp e => k2 a o av nt hp (k a o av nt hp e)) st hd av
def Bi (i : JI) (ns : List Str) (l : List Sh) (ts : TS) (ss : SS) (R : List Str → List Sh → Prop) : Prop := Av i.M i.p → ∀ D σ H,
  St (i.at ns l).M H → SE (i.at ns l).M H ss σ → i.XB H →
  (∀ ns' l' H', R ns' l' → Fin i H ns' l' H' → (∀ σ', D.nx σ' H') ∧ D.rt .non H') → ts D σ H
theorem putF_new {f : Str} {v : V} : ∀ {ns : List Str} {vs : List V}, ns.contains f = false → ns.length = vs.length → putF f v (ns.zip vs) = (ns ++ [f]).zip (vs ++ [v])
  | [], [], _, _ => rfl
  | n :: ns, u :: vs, h, e => by
    rw [List.contains_cons, Bool.or_eq_false_iff] at h
    have hn : f ≠ n := by
      intro z
      rw [z] at h
      simp at h
    rw [List.zip_cons_cons, putF, if_neg (Ne.symm hn), putF_new h.2 (by simpa using e)]
    rfl
section
variable {i : JI} {ns : List Str} {l : List Sh} {ss : SS} {R : List Str → List Sh → Prop} {K : PySem.W.Frag} {t : TT} {ts us : TS} {ta tv : TE} {f : Str} {tA : TA} {te : TE}
theorem Fin.step {H H' : Hp} {ns1 ns2 : List Str} {l1 l2 : List Sh} (s : Step (i.at ns1 l1).M H H') {H2 : Hp} (f : Fin i H' ns2 l2 H2) : Fin i H ns2 l2 H2 := ⟨fun a o av nt hp e => f.keep a o av nt hp (s.keep a o (av.to_hold hp) nt e), f.st⟩
theorem XB.of {H H' : Hp} {ns1 : List Str} {l1 : List Sh} (h : i.XB H) (s : Step (i.at ns1 l1).M H H') : i.XB H' := h.step fun a o av nt hp e => s.keep a o (av.to_hold hp) nt e
/-- a test with a raise ahead -/
theorem bi_raise {C : Addr} {W : WX} (hW : ∀ σ, (fun cls d H => W cls d σ H) = i.X) (h : Et (i.at ns l) t ss fun b => (b = true → ∃ v, i.ex C [("what", .str v)] ∧ tA = tCons (tC (.str v)) tNil) ∧ (b = false → Bi i ns l us ss R)) :
    Bi i ns l (tSeq (tIfS t (tRaiseOut C W tA) tNext) us) ss R := fun avp D σ H st se xg hD =>
  h σ H st (xg.xg avp) se _ fun b hb H1 s1 => by
    cases b with
    | false => exact hb.2 rfl avp D σ H1 s1.st (se.step s1) (XB.of xg s1) fun ns' l' H' r f => hD ns' l' H' r (Fin.step s1 f)
    | true =>
      obtain ⟨v, hx, rfl⟩ := hb.1 rfl
      refine ⟨_, rfl, fun d hd => ?_⟩
      have z := (xg.xg avp (ns := ns) (l := l)).step s1 C _ hx d _ (.new s1.st hd) upd_same (s1.st.av hd)
      have e := hW σ
      have z : i.X (Value.ref C) (some d) _ := z
      rw [← e] at z
      exact z
theorem bi_asg {g : TG} (h : Ev (i.at ns l) te ss fun x => Eg (i.at ns l) g x ss fun ss1 => Bi i ns l us ss1 R) : Bi i ns l (tSeq (tAsg te g) us) ss R := fun avp D σ H st se xg hD =>
  h σ H st (xg.xg avp) se _ fun x hx v H1 s1 h1 => hx v σ H1 s1.st ((xg.xg avp).step s1) h1 (se.step s1) _ fun ss2 h2 σ2 H2 s2 se2 =>
    h2 avp D σ2 H2 s2.st se2 (XB.of xg (s1.trans s2)) fun ns' l' H' r f => hD ns' l' H' r (Fin.step (s1.trans s2) f)
theorem bi_if {u1 u2 : TS} (h : Et (i.at ns l) t ss fun b => (b = true → Bi i ns l (tSeq u1 us) ss R) ∧ (b = false → Bi i ns l (tSeq u2 us) ss R)) : Bi i ns l (tSeq (tIfS t u1 u2) us) ss R := fun avp D σ H st se xg hD =>
  h σ H st (xg.xg avp) se _ fun b hb H1 s1 => by
    cases b with
    | false => exact hb.2 rfl avp D σ H1 s1.st (se.step s1) (XB.of xg s1) fun ns' l' H' r f => hD ns' l' H' r (Fin.step s1 f)
    | true => exact hb.1 rfl avp D σ H1 s1.st (se.step s1) (XB.of xg s1) fun ns' l' H' r f => hD ns' l' H' r (Fin.step s1 f)
theorem bi_next (h : Bi i ns l us ss R) : Bi i ns l (tSeq tNext us) ss R := h
theorem bi_fld (c1 : Cls K i.C) (c2 : NoAttr K i.C f) (hf : ns.contains f = false) (hlen : ns.length < 1000)
    (h : Ev (i.at ns l) tv ss fun y => Ev (i.at ns l) ta ss fun z => z = .v (.ref i.p) ∧ Bi i (ns ++ [f]) (l ++ [y]) us ss R) : Bi i ns l (tSeq (sFld K ta tv f) us) ss R := fun avp D σ H st se xg hD =>
  h σ H st (xg.xg avp) se _ fun y hy v H1 s1 h1 => hy σ H1 s1.st ((xg.xg avp).step s1) (se.step s1) _ fun z ⟨ez, hb⟩ v2 H2 s2 h2 => by
    subst ez
    cases h2
    have s12 := s1.trans s2
    obtain ⟨vs, hp2, il, hn⟩ : HkOk (i.at ns l).M H2 i.p (.ins i.C i.dx ns l) := s12.st.held (i.p, _) List.mem_cons_self
    have hlv : ns.length = vs.length := hn.trans il.length
    refine ⟨i.p, i.C, i.dx, _, rfl, hp2, c1, c2, ?_, ?_⟩
    · rw [List.length_zip, ← hlv, Nat.min_self]
      exact hlen
    · rw [putF_new hf hlv]
      have k : ∀ a o, Av (i.at ns l).M a → NoTbl o → H2 a = some o → Av (i.at (ns ++ [f]) (l ++ [y])).M a ∧ upd H2 i.p (.ins i.C i.dx ((ns ++ [f]).zip (vs ++ [v]))) a = some o := fun a o av nt e => ⟨av.hold.1.to_hold av.hold.2, by rw [upd_ne av.hold.2]; exact e⟩
      have st3 : St (i.at (ns ++ [f]) (l ++ [y])).M (upd H2 i.p (.ins i.C i.dx ((ns ++ [f]).zip (vs ++ [v])))) :=
        St.put (M := (i.at ns l).M) (i := 0) (k := .ins i.C i.dx ns l) s12.st rfl ⟨vs ++ [v], upd_same, (il.conv2 (M' := (i.at (ns ++ [f]) (l ++ [y])).M) k rfl).append (.cons ((h1.step s2).conv (M' := (i.at (ns ++ [f]) (l ++ [y])).M) k rfl) .nil), by rw [List.length_append, List.length_append, hn] <;> rfl⟩
      exact hb avp D σ _ st3 ((se.step s12).conv (M' := (i.at (ns ++ [f]) (l ++ [y])).M) k rfl) (xg.step fun a o av nt hp e => by rw [upd_ne hp]; exact s12.keep a o (av.to_hold hp) nt e)
        fun ns' l' H' r fn => hD ns' l' H' r ⟨fun a o av nt hp e => fn.keep a o av nt hp (by rw [upd_ne hp]; exact s12.keep a o (av.to_hold hp) nt e), fn.st⟩
/-- the last field -/
theorem bi_last (c1 : Cls K i.C) (c2 : NoAttr K i.C f) (hf : ns.contains f = false) (hlen : ns.length < 1000)
    (h : Ev (i.at ns l) tv ss fun y => Ev (i.at ns l) ta ss fun z => z = .v (.ref i.p) ∧ R (ns ++ [f]) (l ++ [y])) : Bi i ns l (sFld K ta tv f) ss R := by
  have z : Bi i ns l (tSeq (sFld K ta tv f) tNext) ss R := bi_fld c1 c2 hf hlen fun σ H st xg se Q hQ => h σ H st xg se Q fun y hy v H1 s1 h1 => hQ y (fun σ H st xg se Q hQ => hy σ H st xg se Q fun z ⟨e, r⟩ => hQ z ⟨e, fun avp D σ H st se xg hD => (hD _ _ H r ⟨fun a o _ _ _ e => e, st⟩).1 σ⟩) v H1 s1 h1
  exact z
end
section
variable {j : J} {ss : SS} {q : Sh → Prop} {fs : Fs} {E : XK} {ex : Addr → List (Str × V) → Prop} {C : Addr} {x y : Sh} {ta to te : TE} {tA : TA} {K : PySem.W.Frag}
/-- an instance of the class at C -/
def InsOf (C : Addr) (x : Sh) : Prop := ∃ ns l, x = .ins C ns l
theorem e2_ownG (hx : XOk j E ex) (h1 : InsOf C x) (h2 : InsOf C y ∨ ∃ a : Int, y = .int a) (h : Callx j fs [x, y] q ex) : E2 j (rOwnB C (SpS fs) E) x y q := fun v u H st xg i1 i2 Q hQ => by
  have w := h.run hx st xg (.cons i1 (.cons i2 .nil)) hQ
  obtain ⟨ns, l, rfl⟩ := h1
  cases i1 with
  | ins av ha hl =>
    rcases h2 with ⟨ns2, l2, rfl⟩ | ⟨a, rfl⟩
    · cases i2 with
      | ins av2 ha2 hl2 => exact .inl ⟨_, _, _, _, _, _, rfl, ha, rfl, ha2, w⟩
    · cases i2
      exact .inr ⟨_, _, _, _, rfl, ha, rfl, w⟩
theorem e1_ownG (hx : XOk j E ex) (h1 : InsOf C x) (h : Callx j fs [x] q ex) : E1 j (rOwnU C (SpS fs) E) x q := by
  obtain ⟨ns, l, rfl⟩ := h1
  exact e1_own hx h
theorem e2_ownEqG {t : Value} (hx : XOk j E ex) (h1 : InsOf C x) (ht : TyS K y t) (hn : PySem.W.notFirst K C t = true) (h : Callx j fs [x, y] q ex) : E2 j (rOwnEq K C (SpS fs) E) x y q := by
  obtain ⟨ns, l, rfl⟩ := h1
  exact e2_ownEq hx ht hn h
theorem en_ownBoolG (hx : XOk j E ex) (h1 : InsOf C x) (h : Callx j fs [x] (fun y => ∃ c, y = .bl c ∧ q y) ex) :
    En j (fun xs H Q => ∃ a dx fs', xs = [.ref a] ∧ H a = some (.ins C dx fs') ∧ SpS fs [.ref a] H (fun z H' => ∃ b, z = .bl b ∧ Q z H') E) [x] q := by
  obtain ⟨ns, l, rfl⟩ := h1
  exact en_ownBool hx h
theorem en_ownReprG (hx : XOk j E ex) (h1 : InsOf C x) (h : Callx j fs [x] (fun y => ∃ c, y = .str c ∧ q y) ex) :
    En j (fun xs H Q => ∃ a dx fs', xs = [.ref a] ∧ H a = some (.ins C dx fs') ∧ SpS fs [.ref a] H (fun z H' => ∃ y, z = .str y ∧ Q z H') E) [x] q := by
  obtain ⟨ns, l, rfl⟩ := h1
  exact en_ownRepr hx h
end
/-- an __init__'s promise by its body -/
theorem SpI.body {C : Addr} {fs : Fs} {N : List Str} {ts : TS} {vs : List V} {H : Hp} {Q : VK} {E : XK} (h : SpI C fs vs H Q E)
    (hb : ∀ M p dx l S, fs M l S → Bi ⟨M, E, fun D g => S (.exc D g), C, p, dx⟩ [] [] ts (starts N (.v (.ref p) :: l)) fun ns l => S (.ret (.ins C ns l))) :
    ts { nx := fun _ H' => Q .non H', rt := Q } (L2.start N vs) H := by
  obtain ⟨p, dx, us, M, l, S, rfl, hp, avp, f, st, il, hS⟩ := h
  refine hb M p dx l S f avp _ (L2.start N (.ref p :: us)) H st (SE.starts (.cons (.v _) il)) (fun D g e d H' k s hd a => hS _ e d H' k s hd a) fun ns' l' H' r fn => ?_
  obtain ⟨ws, e1, e2, e3⟩ : HkOk (M.hold p (.ins C dx ns' l')) H' p (.ins C dx ns' l') := fn.st.held (p, _) List.mem_cons_self
  have z := hS _ r _ _ ws H' rfl fn.keep (fn.st.drop avp) e1 (e2.conv2 (M' := M) (H' := H') (fun a o av nt e => ⟨av.hold.1, e⟩) rfl)
  exact ⟨fun _ => z, z⟩
section
variable {P : Program} {w : World} {K : PySem.W.Frag} {mg : Str → Option Value} {base : Heap} {k : Nat}
theorem init_ok {x qual : Str} {params : Arguments} {body : List Stmt} {scope : Scope} {dvs : List V} {f : Addr} {fd : FuncData} {N ps : List Str} {C : Addr} {fs : Fs} (F : FunD K x qual params body scope dvs [] f fd) (S : FnScope N ps scope) (hl : ∀ M l S, fs M l S → l.length + 1 = ps.length)
    (hbody : ∀ (cdv : Value) (A : Around) (outer : List Env) (s : Shared) (H : Hp) (E : XK), Room k (A.deeper (envOfC qual scope s.heap.objs.size f cdv)) →
      ∃ ts, PSs (cxOf (L2.CX P w) P w K mg base N qual scope f cdv A outer s H E) body ts ∧ ∀ M p dx l S, fs M l S → Bi ⟨M, E, fun D g => S (.exc D g), C, p, dx⟩ [] [] ts (starts N (.v (.ref p) :: l)) fun ns l => S (.ret (.ins C ns l))) :
    FnOk P w K mg base (L2.CX P w) (k + 1) f fd ps (SpI C fs) :=
  FunD.ok F S (fun vs H Q E ⟨p, dx, us, M, l, S, e, _, _, h, _, i, _⟩ => by rw [e, List.length_cons, ← i.length]; exact hl M l S h) fun cdv A outer s H vs Q E hr h => by
    obtain ⟨ts, h1, h2⟩ := hbody cdv A outer s H E hr
    exact ⟨ts, h1, h.body h2⟩
end
end GS

/-! GkLong -/
set_option Elab.async false
set_option Elab.async false
set_option linter.all false
set_option maxRecDepth 100000
set_option maxHeartbeats 4000000
/-! int and str of up to 4300 digits. -/
namespace GL
open PySem PySem.Calls PySem.NumText PyProof.Rows
theorem noDigits {K : PySem.W.Frag} {h : Heap} (X : K.In h) (hl : h.NoLimit) (e : PySem.W.nsIn K cStatics "sys.int_max_str_digits" = some none) : h.NoDigits := by
  obtain ⟨mc, hns, _⟩ := hl
  refine ⟨mc, hns, ?_⟩
  obtain ⟨o, es, ep, ho, hd, hk, hf⟩ := hns
  rw [← hf]
  unfold PySem.W.nsIn at e
  split at e
  · rename_i c d es' n sl hlk
    have h2 := X _ _ hlk
    rw [ho] at h2
    cases h2
    cases hd
    split at e
    · cases e
    · rename_i hn
      unfold nsFind findBy
      rw [← Array.find?_toList, hn]
      rfl
  · cases e
theorem wp_imsd {M : Model} {A : Around} {E : Value → Shared → Prop} {s : Shared} {Q : Nat → Shared → Prop} (hnd : s.heap.NoDigits) (q : Q 4300 s) : wpAny M A Builtin.intMaxStrDigits Q E s := by
  obtain ⟨mc, hns, hnone⟩ := hnd
  unfold Builtin.intMaxStrDigits
  refine wpAny_bind (wpAny_nsGet hns ?_)
  rw [hnone]
  exact wpAny_pure q
theorem wp_textL {M : Model} {A : Around} {E : Value → Shared → Prop} {s : Shared} {Q : Value → Shared → Prop} {v : Value} {text : List Nat} {n : Int} (hnd : s.heap.NoDigits)
    (hr : ∀ l, (l = 0 ∨ l = 4300) → (int_private% "readNumeral") l 10 (text.takeWhile (· != 0)) = (int_private% "Numeral.value") n)
    (ha : ((text.takeWhile (· != 0)).length == text.length) = true) (h : Q (.int n s.toks) { s with toks := s.toks + 1 }) :
    wpAny M A ((int_private% "intFromText") v text 10) Q E s := by
  by_cases hs : (text.takeWhile (· != 0)).length ≤ 640
  · exact PySem.W.KIN.wp_text hs (hr 0 (.inl rfl)) ha h
  · have h4 := hr 4300 (.inr rfl)
    obtain ⟨hp, g, d, tk, os⟩ := s
    repeat (any_goals (first
      | assumption
      | ((with_reducible show wpAny _ _ Builtin.intMaxStrDigits _ _ _); refine wp_imsd hnd ?_)
      | (with_reducible refine wpAny_ite_false (decide_eq_false hs) ?_)
      | (with_reducible refine wpAny_ite_true (decide_eq_true ha) ?_)
      | wp_step))
    all_goals (try rw [h4])
    all_goals (try dsimp only)
    repeat (any_goals (first
      | assumption
      | (with_reducible refine wpAny_ite_true (decide_eq_true ha) ?_)
      | wp_step))
theorem int_in {prog : Program} {w : World} {x : PySem.Str} {u : Tok} {n : Int} (hl : x.length ≤ 4300) (hn : PySem.intText? x = some n) : MeetsIn prog w (Builtin.«int.__new__» ⟨[.type "int", .str x u], []⟩)
    (fun A R s => s.heap.NoDigits ∧ R (.ok (.ret (.int n s.toks))) { s with toks := s.toks + 1 }) :=
  .of_wp fun A R s ⟨hnd, h⟩ => by
    obtain ⟨hp, g, d, tk, os⟩ := s
    have f1 := F.conv_sub_int
    have f2 := F.madeHere_int
    have f3 := PySem.W.KIN.str_int
    have f4 := PySem.W.KIN.str_idx
    have f5 := PySem.W.KIN.str_trunc
    have f6 : typeOf (.str x u) = pure (.type "str") := rfl
    have hr : (∀ l, (l = 0 ∨ l = 4300) → (int_private% "readNumeral") l 10 (numSeenOf x) = (int_private% "Numeral.value") n) ∧ ((numSeenOf x).length == (numTextOf x).length) = true := by
      have hl2 := seen_length x
      have key : ∀ ds, digits? 10 (core (numSeenOf x)) = some ds → ds.size ≤ 4300 := fun ds hd => by
        have h1 := digits_size hd
        have h2 := core_length (numSeenOf x)
        omega
      unfold intText? at hn
      split at hn
      · rename_i hall
        refine ⟨fun l hl => ?_, hall⟩
        rw [readNumeral_ten]
        split at hn
        · rename_i ds hd
          have hk := key ds hd
          rw [if_pos hk] at hn
          rw [hd]
          cases hn
          exact judge_ok (by rcases hl with rfl | rfl <;> omega) (by omega)
        · cases hn
      · cases hn
    have hk := PySem.W.KIN.Hid.mk hr
    clear hr hl hn
    repeat (any_goals (first
      | assumption
      | ((with_reducible show wpAny _ _ ((int_private% "intFromText") _ _ _) _ _ _); refine wp_textL hnd hk.out.1 hk.out.2 ?_)
      | wp_step))
    all_goals exact ⟨_, rfl, h⟩
end GL
namespace L2
open PySem PySem.Spec PyProof.Rows
section
variable {X : Cx}
theorem Inv.nd {pins : List (Addr × Obj)} {σ : St} {H : Hp} {s : Shared} (I : Inv X pins σ H s) (e : PySem.W.nsIn X.K cStatics "sys.int_max_str_digits" = some none) : s.heap.NoDigits := GL.noDigits I.kIn I.nolimit e
/-- int(text), up to 4300 signs -/
theorem call_int_strL (e : PySem.W.nsIn X.K cStatics "sys.int_max_str_digits" = some none) : CallR X (.type "int") (fun xs H Q => ∃ a n, xs = [.str a] ∧ PySem.intText? a = some n ∧ a.length ≤ 4300 ∧ Q (.int n) H) := by
  intro pins s σ H xs us Q I rs h
  obtain ⟨a, n, rfl, hn, hl, h⟩ := h
  cases rs with
  | cons r1 rs =>
    cases rs
    obtain ⟨t, rfl⟩ := r1
    exact callType_newIn PySem.F.called_int PySem.F.newNe_int (PySem.F.typeCall_int_1 _) (PySem.F.newCall_int_1 _) (fun obj => PySem.F.args_object_init_2 obj _) PySem.F.entry_int_new (GL.int_in hl hn)
      ⟨I.nd e, typeIs_int _ _ _, .int n, H, I.tok _, ⟨_, rfl⟩, h⟩
/-- str(int), below 10 ^ 4300 -/
theorem call_str_intL (hc : X.calm = true) (e : PySem.W.nsIn X.K cStatics "sys.int_max_str_digits" = some none) : CallR X (.type "str") (fun xs H Q => ∃ i, xs = [.int i] ∧ i.natAbs < 10 ^ 4300 ∧ Q (.str (toString i)) H) := by
  intro pins s σ H xs us Q I r h
  obtain ⟨i, rfl, hz, q⟩ := h
  obtain ⟨u, rfl, t, rfl⟩ := vals1 r
  exact str_of_int_or (I.ok.hd hc) (I.nd e) (fun _ => ⟨.str _, H, I.tok _, ⟨_, rfl⟩, q⟩) fun z => absurd hz (Nat.not_lt.mpr z)
/-- {x}, x an int below 10 ^ 4300 -/
def tFmtL (te : TE) : TE := fun σ H Q => te σ H fun x H1 => ∃ i : Int, x = .int i ∧ i.natAbs < 10 ^ 4300 ∧ Q (.str (toString i)) H1
theorem pe_fmtL {e : Expr} {te : TE} {pos : Pos} (hc : X.calm = true) (ed : PySem.W.nsIn X.K cStatics "sys.int_max_str_digits" = some none) (he : PE X e te) : PE X (.FormattedValue e (-1) none pos) (tFmtL te) := by
  refine ⟨fun pins s σ H Q I h => ?_⟩
  refine wpAny_FormattedValue_plain (thn (he.run pins s σ H _ I h) fun v s1 hv => ?_)
  obtain ⟨x, H1, I1, r1, i, rfl, hz, q⟩ := hv
  obtain ⟨t, rfl⟩ := r1
  exact PyProof.Rows.formatField_int (I1.ok.hd hc) (I1.nd ed) (fun _ => ⟨.str (toString i), H1, I1.tok _, ⟨_, rfl⟩, q⟩) fun z => absurd hz (Nat.not_lt.mpr z)
end
end L2
namespace GS
open PySem PySem.Spec PyProof.Rows L2
section
variable {j : J} {ss : SS} {q : Sh → Prop} {te : TE} {a : Int}
theorem en_strL (k : a.natAbs < 10 ^ 4300 ∧ q (.str (toString a))) : En j (fun xs H Q => ∃ i, xs = [.int i] ∧ i.natAbs < 10 ^ 4300 ∧ Q (.str (toString i)) H) [.int a] q := fun vs H st xg hl Q hQ => by
  cases hl with
  | cons a r =>
    cases r
    cases a
    exact ⟨_, rfl, k.1, (hQ _ k.2).of st (.v _)⟩
theorem en_intL {x : Str} {n : Int} (k : PySem.intText? x = some n ∧ x.length ≤ 4300 ∧ q (.int n)) : En j (fun xs H Q => ∃ a n, xs = [.str a] ∧ PySem.intText? a = some n ∧ a.length ≤ 4300 ∧ Q (.int n) H) [.str x] q := fun vs H st xg hl Q hQ => by
  cases hl with
  | cons a r =>
    cases r
    cases a
    exact ⟨_, _, rfl, k.1, k.2.1, (hQ _ k.2.2).of st (.v _)⟩
theorem ev_fmtL (h : Ev j te ss fun x => ∃ i : Int, x = .int i ∧ i.natAbs < 10 ^ 4300 ∧ q (.str (toString i))) : Ev j (tFmtL te) ss q := fun σ H st xg se Q hQ =>
  h σ H st xg se _ fun x hx v H1 s1 h1 => by
    obtain ⟨i, rfl, hi, k⟩ := hx
    cases h1
    exact ⟨i, rfl, hi, hQ _ k _ H1 s1 (.v _)⟩
end
end GS

/-! GkStr -/
set_option Elab.async false
set_option Elab.async false
set_option linter.all false
set_option maxRecDepth 100000
set_option maxHeartbeats 4000000
/-! Texts by shapes. -/
namespace GS
open PySem PySem.Spec PyProof.Rows L2
section
variable {j : J} {ss : SS} {q : Sh → Prop} {te to : TE} {qi : List Sh → Prop} {tA : TA} {K : PySem.W.Frag}
def signsS (z : Str) : List Sh := z.cps.toList.map fun c => Sh.str ⟨#[c]⟩
theorem ei_str (h : Ev j te ss fun x => ∃ z : Str, x = .str z ∧ qi (signsS z)) : Ei j (iStr te) ss qi := fun σ H st xg se R hR =>
  h σ H st xg se _ fun x hx v H1 s1 h1 => by
    obtain ⟨z, rfl, k⟩ := hx
    cases h1
    refine ⟨z, rfl, hR _ k _ H1 s1 ⟨fun M' H' _ _ _ => ⟨fun i s e => ?_, fun i hi => ?_⟩⟩⟩
    · unfold signsS at e
      rw [List.getElem?_map] at e
      cases hz : z.cps.toList[i]? with
      | none => rw [hz] at e; cases e
      | some c =>
        rw [hz] at e
        cases e
        have hz' : z.cps[i]? = some c := by simpa using hz
        refine ⟨by
          obtain ⟨hi, _⟩ := Array.getElem?_eq_some_iff.mp hz'
          exact hi, fun x H'' y => ?_⟩
        obtain ⟨rfl, c', hc, rfl⟩ := y
        rw [hz'] at hc
        cases hc
        exact ⟨fun _ _ e => e, .v _⟩
    · unfold signsS at hi
      rw [List.length_map, Array.length_toList] at hi
      exact hi
theorem e2_addS {a b : Str} (k : a.length + b.length ≤ sizeLine ∧ q (.str (a ++ b))) : E2 j (fun x y H Q => ∃ i j, x = .str i ∧ y = .str j ∧ i.length + j.length ≤ sizeLine ∧ Q (.str (i ++ j)) H) (.str a) (.str b) q := fun v u H st xg h1 h2 Q hQ => by
  cases h1
  cases h2
  exact ⟨a, b, rfl, rfl, k.1, (hQ _ k.2).of st (.v _)⟩
theorem e2_inSign {c : Nat} {z : Str} (k : q (.bl (decide (c ∈ z.cps.toList)))) : E2 j (fun x y H Q => ∃ (c : Nat) (z : Str), x = .str ⟨#[c]⟩ ∧ y = .str z ∧ Q (.bl (decide (c ∈ z.cps.toList))) H) (.str ⟨#[c]⟩) (.str z) q := fun v u H st xg h1 h2 Q hQ => by
  cases h1
  cases h2
  exact ⟨c, z, rfl, rfl, (hQ _ k).of st (.v _)⟩
theorem ev_m1 {r : V → List V → Hp → VK → Prop} (h : Ev j to ss fun x => ∃ a : Str, x = .str a ∧ Ev j te ss fun y => Em j r x [y] q) : Ev j (tM1 r to te) ss q := fun σ H st xg se Q hQ =>
  h σ H st xg se _ fun x hx v H1 s1 h1 => by
    obtain ⟨a, rfl, hx⟩ := hx
    cases h1
    exact ⟨⟨a, rfl⟩, hx σ H1 s1.st (xg.step s1) (se.step s1) _ fun y hy u H2 s2 h2 => hy _ [u] H2 s2.st (xg.step (s1.trans s2)) (.v _) (.cons h2 .nil) Q fun z hz => (hQ z hz).step (s1.trans s2)⟩
theorem IsL.strs {M : Mode} {H : Hp} : ∀ {l : List Str}, IsL M H (l.map Sh.str) (l.map V.str)
  | [] => .nil
  | _ :: _ => .cons (.v _) IsL.strs
theorem em_split {a b : Str} (k : (b.length == 0) = false ∧ a.length + 2 ≤ sizeLine ∧ q (.lst ((Txt.split a b).map Sh.str))) : Em j (fun x xs H Q => ∃ a b, x = .str a ∧ xs = [.str b] ∧ (b.length == 0) = false ∧ a.length + 2 ≤ sizeLine ∧ rNewStrs (Txt.split a b) H Q) (.str a) [.str b] q := fun v vs H st xg h1 h2 Q hQ => by
  cases h1
  cases h2 with
  | cons b r =>
    cases r
    cases b
    refine ⟨a, _, rfl, rfl, k.1, k.2.1, fun p hp => hQ _ k.2.2 _ _ (.new st hp) (.lst (st.av hp) upd_same ?_)⟩
    generalize Txt.split a _ = l
    exact IsL.strs
theorem em_starts {a b : Str} (k : q (.bl (Txt.startswith a b))) : Em j (fun x xs H Q => ∃ a b, x = .str a ∧ xs = [.str b] ∧ Q (.bl (Txt.startswith a b)) H) (.str a) [.str b] q := fun v vs H st xg h1 h2 Q hQ => by
  cases h1
  cases h2 with
  | cons b r =>
    cases r
    cases b
    exact ⟨a, _, rfl, rfl, (hQ _ k).of st (.v _)⟩
/-- a comprehension that maps each item by f -/
theorem ev_lcMap {vs : List Nat} {wi : TI} {g : TG} (f : Nat → Sh → Sh) (hg : Tg g vs)
    (h : Ei j wi ss fun l => l.length ≤ sizeLine ∧ (∀ D acc i s, l[i]? = some s → Eg (j.hold D (.lst acc)) g s (wipeS ss vs) fun ss2 => Ev (j.hold D (.lst acc)) te ss2 fun y => y = f i s) ∧
      q (.lst (l.mapIdx f))) : Ev j (tLc wi g tYes te vs) ss q := by
  refine ev_lc hg (h.mono fun l ⟨hz, hb, k⟩ => ⟨hz, fun i acc => acc = (l.mapIdx f).take i, by simp, fun D i s acc hi ha => ?_, fun acc ha => ?_⟩)
  · refine (hb D acc i s hi).mono fun ss2 h2 => et_yes ⟨fun _ => h2.mono fun y hy => ?_, fun z => by cases z⟩
    subst hy
    subst ha
    rw [List.take_succ, List.getElem?_mapIdx, hi]
    rfl
  · subst ha
    rw [List.take_of_length_le (by simp)]
    exact k
end
end GS
namespace L2
open PySem PySem.Spec PyProof.Rows
/-- a module's constant -/
theorem pe_const {X : Cx} {x : Str} {v : V} {pos : Pos} (h : ∃ u, X.mg x = some u ∧ RelV v u) (hg : Gl X x := by rfl) (hd : (x == ("__debug__" : Str)) = false := by decide) : PE X (.Name x pos) (tC v) := by
  obtain ⟨u, hm, r⟩ := h
  exact pe_glob hg hm r hd
end L2

/-! GkBm -/
set_option Elab.async false
set_option Elab.async false
set_option linter.all false
set_option maxRecDepth 100000
set_option maxHeartbeats 2000000
/-! Bodies that change objects under way. -/
namespace GS
open PySem PySem.Spec PyProof.Rows L2
abbrev Hs := List (Addr × Hk)
/-- where such a body stands: the mode about it, the heap at its entry, what of that heap it may change -/
structure JM where
  M : Mode
  H0 : Hp
  A : Addr → Prop
def JM.at (m : JM) (hs : Hs) : Mode := { m.M with held := hs ++ m.M.held }
def JM.j (m : JM) (hs : Hs) : J := ⟨m.at hs, fun _ _ _ => False, fun _ _ => False⟩
theorem JM.xg {m : JM} {hs : Hs} {H : Hp} : (m.j hs).XG H := fun _ _ e => e.elim
def JM.Kp (m : JM) (H : Hp) : Prop := ∀ a o, Av m.M a → ¬ m.A a → NoTbl o → m.H0 a = some o → H a = some o
def JM.Ok (m : JM) (hs : Hs) : Prop := ∀ p ∈ hs, m.A p.1 ∨ ∀ o, Av m.M p.1 → NoTbl o → m.H0 p.1 ≠ some o
def Nm (m : JM) (k : L2.St → Hp → Prop) (q : Hs → SS → Prop) : Prop := ∀ hs ss σ H, q hs ss → m.Ok hs → St (m.at hs) H → m.Kp H → SE (m.at hs) H ss σ → k σ H
structure GoodM (m : JM) (rt : Hs → Sh → Prop) (nx bk ct : Hs → SS → Prop) (D : Ends) : Prop where
  rt : ∀ hs r v H, rt hs r → m.Ok hs → St (m.at hs) H → m.Kp H → Is (m.at hs) H r v → D.rt v H
  nx : Nm m D.nx nx
  bk : Nm m D.bk bk
  ct : Nm m D.ct ct
def Bm (m : JM) (hs : Hs) (ts : TS) (ss : SS) (rt : Hs → Sh → Prop) (nx bk ct : Hs → SS → Prop) : Prop := m.Ok hs → ∀ D σ H, St (m.at hs) H → m.Kp H → SE (m.at hs) H ss σ → GoodM m rt nx bk ct D → ts D σ H
section
variable {m : JM} {hs : Hs} {ss : SS} {rt : Hs → Sh → Prop} {nx bk ct : Hs → SS → Prop} {ts us : TS} {te to ti ta : TE} {t : TT} {g : TG} {tA : TA} {wi : TI} {K : PySem.W.Frag} {a : Addr} {l : List Sh} {i : Nat}
theorem JM.Kp.step {H H' : Hp} (k : m.Kp H) (ok : m.Ok hs) (s : Step (m.at hs) H H') : m.Kp H' := fun a o av na nt e => by
  refine s.keep a o ⟨av.1, fun p hp => ?_⟩ nt (k a o av na nt e)
  rcases List.mem_append.mp hp with h | h
  · intro z
    rcases ok p h with q | q
    · exact na (z ▸ q)
    · exact q o (z ▸ av) nt (z ▸ e)
  · exact av.2 p h
theorem bm_next (k : nx hs ss) : Bm m hs tNext ss rt nx bk ct := fun ok D σ H st kp se gd => gd.nx hs ss σ H k ok st kp se
theorem bm_seq (h : Bm m hs ts ss rt (fun hs1 ss1 => Bm m hs1 us ss1 rt nx bk ct) bk ct) : Bm m hs (tSeq ts us) ss rt nx bk ct := fun ok D σ H st kp se gd =>
  h ok _ σ H st kp se ⟨gd.rt, fun hs1 ss1 σ1 H1 k1 ok1 st1 kp1 se1 => k1 ok1 D σ1 H1 st1 kp1 se1 gd, gd.bk, gd.ct⟩
theorem bm_mid (Mid : Hs → SS → Prop) (h : Bm m hs ts ss rt Mid bk ct) (k : ∀ hs1 ss1, Mid hs1 ss1 → Bm m hs1 us ss1 rt nx bk ct) : Bm m hs (tSeq ts us) ss rt nx bk ct := bm_seq fun ok D σ H st kp se gd =>
  h ok D σ H st kp se ⟨gd.rt, fun hs1 ss1 σ1 H1 m1 ok1 st1 kp1 se1 => gd.nx hs1 ss1 σ1 H1 (k hs1 ss1 m1) ok1 st1 kp1 se1, gd.bk, gd.ct⟩
theorem bm_ret (h : Ev (m.j hs) te ss (rt hs)) : Bm m hs (tRet te) ss rt nx bk ct := fun ok D σ H st kp se gd =>
  h σ H st JM.xg se _ fun r hr v H1 s1 h1 => gd.rt hs r v H1 hr ok s1.st (kp.step ok s1) h1
theorem bm_if (h : Et (m.j hs) t ss fun b => (b = true → Bm m hs ts ss rt nx bk ct) ∧ (b = false → Bm m hs us ss rt nx bk ct)) : Bm m hs (tIfS t ts us) ss rt nx bk ct := fun ok D σ H st kp se gd =>
  h σ H st JM.xg se _ fun b hb H1 s1 => by
    cases b with
    | true => exact hb.1 rfl ok D σ H1 s1.st (kp.step ok s1) (se.step s1) gd
    | false => exact hb.2 rfl ok D σ H1 s1.st (kp.step ok s1) (se.step s1) gd
theorem bm_asg (h : Ev (m.j hs) te ss fun x => Eg (m.j hs) g x ss (nx hs)) : Bm m hs (tAsg te g) ss rt nx bk ct := fun ok D σ H st kp se gd =>
  h σ H st JM.xg se _ fun x hx v H1 s1 h1 => hx v σ H1 s1.st JM.xg h1 (se.step s1) _ fun ss2 h2 σ2 H2 s2 se2 => gd.nx hs ss2 σ2 H2 h2 ok s2.st (kp.step ok (s1.trans s2)) se2
theorem bm_par {x y : Nat} (h : Ea (m.j hs) tA ss fun l => ∃ u v, l = [u, v] ∧ nx hs ((ss.set x (some u)).set y (some v))) : Bm m hs (tPar x y tA) ss rt nx bk ct := fun ok D σ H st kp se gd =>
  h σ H st JM.xg se _ fun l hl vs H1 s1 h1 => by
    obtain ⟨u, v, rfl, k⟩ := hl
    cases h1 with
    | cons a1 r1 =>
      cases r1 with
      | cons a2 r2 =>
        cases r2
        exact ⟨_, _, rfl, gd.nx hs _ _ H1 k ok s1.st (kp.step ok s1) (((se.step s1).set a1 x).set a2 y)⟩
/-! ### what is under way is read -/
theorem held_of {j : J} {H : Hp} {n : Nat} {k : Hk} (st : St j.M H) (hi : j.M.held[n]? = some (a, k)) : HkOk j.M H a k := st.held (a, k) (List.mem_of_getElem? hi)
theorem e2_ixH {j : J} {q : Sh → Prop} (n : Nat) {k : Int} {s : Sh} (hi : j.M.held[n]? = some (a, .lst l)) (e : L2.atI l k = some s) (kq : q s) : E2 j (rIxL K) (.v (.ref a)) (.v (.int k)) q := fun v u H st xg h1 h2 Q hQ => by
  cases h1
  cases h2
  obtain ⟨vs, ha, hl⟩ := held_of st hi
  obtain ⟨v, e', hv⟩ := hl.atI e
  exact ⟨_, _, k, v, rfl, rfl, .inl (.inl ha), e', (hQ _ kq).of st hv⟩
theorem e2_ixHs {j : J} {q : Sh → Prop} (n : Nat) {k : Int} {s : Sh} (hi : j.M.held[n]? = some (a, .lst l)) (e : L2.atI l k = some s) (kq : q s) : E2 j (rIx K) (.v (.ref a)) (.v (.int k)) q := fun v u H st xg h1 h2 Q hQ => .inl (e2_ixH (K := K) n hi e kq v u H st xg h1 h2 Q hQ)
theorem en_lenH {j : J} {q : Sh → Prop} (n : Nat) (hi : j.M.held[n]? = some (a, .lst l)) (k : q (.int l.length)) : En j (fun xs H Q => ∃ x n, xs = [x] ∧ LenV K x H n ∧ Q (.int n) H) [.v (.ref a)] q := fun vs H st xg hl Q hQ => by
  cases hl with
  | cons x r =>
    cases r
    cases x
    obtain ⟨vs, ha, hl⟩ := held_of st hi
    exact ⟨_, l.length, rfl, .inl ⟨_, .inl (.inl ha), hl.length⟩, (hQ _ k).of st (.v _)⟩
/-! ### .. and changed -/
theorem at_set {k : Hk} (hi : hs[i]? = some (a, k)) {k' : Hk} : (m.at hs).put i a k' = m.at (hs.set i (a, k')) := by
  have hlt : i < hs.length := (List.getElem?_eq_some_iff.mp hi).1
  show ({ m.M with held := (hs ++ m.M.held).set i (a, k') } : Mode) = { m.M with held := hs.set i (a, k') ++ m.M.held }
  rw [List.set_append_left _ _ hlt]
theorem at_held {k : Hk} (hi : hs[i]? = some (a, k)) : (m.at hs).held[i]? = some (a, k) := by
  have hlt : i < hs.length := (List.getElem?_eq_some_iff.mp hi).1
  show (hs ++ m.M.held)[i]? = _
  rw [List.getElem?_append_left hlt]
  exact hi
theorem JM.Ok.set {k : Hk} (ok : m.Ok hs) (hi : hs[i]? = some (a, k)) {k' : Hk} : m.Ok (hs.set i (a, k')) := fun p hp => by
  rcases List.mem_or_eq_of_mem_set hp with h | h
  · exact ok p h
  · rw [h]
    exact ok (a, k) (List.mem_of_getElem? hi)
/-- one list under way gets new content -/
theorem put_list {H : Hp} {vs' : List V} {l' : List Sh} {σ : L2.St} (ok : m.Ok hs) (hi : hs[i]? = some (a, .lst l)) (st : St (m.at hs) H) (kp : m.Kp H) (se : SE (m.at hs) H ss σ) (hl : IsL (m.at hs) H l' vs') :
    m.Ok (hs.set i (a, .lst l')) ∧ St (m.at (hs.set i (a, .lst l'))) (upd H a (.lst vs')) ∧ m.Kp (upd H a (.lst vs')) ∧ SE (m.at (hs.set i (a, .lst l'))) (upd H a (.lst vs')) ss σ ∧ ∀ s v, Is (m.at hs) H s v → Is (m.at (hs.set i (a, .lst l'))) (upd H a (.lst vs')) s v := by
  have hh := at_held (m := m) hi
  have e := at_set (m := m) hi (k' := .lst l')
  have avD : ∀ b, Av (m.at hs) b → b ≠ a := fun b av z => av.2 _ (List.mem_of_getElem? hh) z.symm
  have f : ∀ b o, Av (m.at hs) b → NoTbl o → H b = some o → Av (m.at (hs.set i (a, .lst l'))) b ∧ upd H a (.lst vs') b = some o := fun b o av _ q => ⟨e ▸ (Av.put hh).mpr av, by rw [upd_ne (avD b av)]; exact q⟩
  refine ⟨ok.set hi, ?_, fun b o av na nt q => ?_, se.conv f rfl, fun s v h => h.conv f rfl⟩
  · rw [← e]
    refine St.put st hh ⟨vs', upd_same, ?_⟩
    rw [e]
    exact hl.conv2 f rfl
  · rw [upd_ne]
    · exact kp b o av na nt q
    · intro z
      rcases ok (a, .lst l) (List.mem_of_getElem? hi) with h | h
      · exact na (z ▸ h)
      · exact h o (z ▸ av) nt (z ▸ q)
theorem IsL.set {M : Mode} {H : Hp} {y : Sh} {v : V} (h : Is M H y v) : ∀ {l : List Sh} {vs : List V}, IsL M H l vs → ∀ n : Nat, IsL M H (l.set n y) (vs.set n v)
  | _, _, .nil, _ => .nil
  | _, _, .cons _ r, 0 => .cons h r
  | _, _, .cons a r, n + 1 => .cons a (IsL.set h r n)
/-- x[k] = e -/
theorem bm_setL (i : Nat) (hi : hs[i]? = some (a, .lst l)) (h : Ev (m.j hs) te ss fun y => Ev (m.j hs) to ss fun o => o = .v (.ref a) ∧ Ev (m.j hs) ti ss fun x => ∃ k n, x = .int k ∧ ixN l.length k = some n ∧ nx (hs.set i (a, .lst (l.set n y))) ss) :
    Bm m hs (tAsg te (gSub to ti rSetL)) ss rt nx bk ct := fun ok D σ H st kp se gd =>
  h σ H st JM.xg se _ fun y hy v H1 s1 h1 => hy σ H1 s1.st JM.xg (se.step s1) _ fun o ⟨eo, ho⟩ vo H2 s2 h2 => ho σ H2 s2.st JM.xg (se.step (s1.trans s2)) _ fun x hx vx H3 s3 h3 => by
    obtain ⟨k, n, rfl, hn, kq⟩ := hx
    subst eo
    cases h2
    cases h3
    have s12 := (s1.trans s2).trans s3
    obtain ⟨vs, ha, hl⟩ := held_of (j := m.j hs) s12.st (at_held hi)
    have hlen := hl.length
    have hlset : IsL (m.at hs) H3 (l.set n y) (vs.set n v) := by
      have hv : Is (m.at hs) H3 y v := h1.step (s2.trans s3)
      have hl : IsL (m.at hs) H3 l vs := hl
      exact hl.set hv n
    obtain ⟨ok', st', kp', se', _⟩ := put_list ok hi s12.st (kp.step ok s12) (se.step s12) hlset
    exact ⟨a, vs, k, n, rfl, rfl, ha, hlen ▸ hn, gd.nx _ ss σ _ kq ok' st' kp' se'⟩
/-- x.append(e) -/
theorem bm_app (i : Nat) (hi : hs[i]? = some (a, .lst l)) (h : Ev (m.j hs) to ss fun o => o = .v (.ref a) ∧ Ea (m.j hs) tA ss fun ys => ∃ y, ys = [y] ∧ l.length < sizeLine ∧ nx (hs.set i (a, .lst (l ++ [y]))) ss) :
    Bm m hs (tDrop (tBM K "list" rAppend to tA)) ss rt nx bk ct := fun ok D σ H st kp se gd =>
  h σ H st JM.xg se _ fun o ⟨eo, ho⟩ vo H1 s1 h1 => by
    subst eo
    cases h1
    obtain ⟨vs0, ha0, _⟩ := held_of (j := m.j hs) s1.st (at_held hi)
    refine ⟨.inl ⟨rfl, vs0, .inl (.inl ha0)⟩, ho σ H1 s1.st JM.xg (se.step s1) _ fun ys hy us H2 s2 h2 => ?_⟩
    obtain ⟨y, rfl, hz, kq⟩ := hy
    cases h2 with
    | cons iy r =>
      cases r
      have s12 := s1.trans s2
      obtain ⟨vs, ha, hl⟩ := held_of (j := m.j hs) s12.st (at_held hi)
      obtain ⟨ok', st', kp', se', _⟩ := put_list ok hi s12.st (kp.step ok s12) (se.step s12) (hl.append (.cons iy .nil))
      exact ⟨a, vs, _, rfl, rfl, ha, by rw [← hl.length]; exact hz, gd.nx _ ss σ _ kq ok' st' kp' se'⟩
theorem IsL.erase {M : Mode} {H : Hp} : ∀ {l : List Sh} {vs : List V} (n : Nat), IsL M H l vs → IsL M H (l.eraseIdx n) (vs.eraseIdx n)
  | _, _, _, .nil => .nil
  | _, _, 0, .cons _ r => r
  | _, _, n + 1, .cons a r => .cons a (IsL.erase n r)
/-- x.append(y.pop(e)), x and y apart -/
theorem bm_appPop {to2 : TE} {b : Addr} {l2 : List Sh} (i i2 : Nat) (hi : hs[i]? = some (a, .lst l)) (hi2 : hs[i2]? = some (b, .lst l2)) (hne : i ≠ i2)
    (h : Ev (m.j hs) to ss fun o => o = .v (.ref a) ∧ Ev (m.j hs) to2 ss fun o2 => o2 = .v (.ref b) ∧ Ea (m.j hs) tA ss fun ys => ∃ (n : Nat) (y : Sh), ys = [.int (n : Int)] ∧ n < 2 ^ 62 ∧ l2[n]? = some y ∧ l.length < sizeLine ∧ nx ((hs.set i2 (b, .lst (l2.eraseIdx n))).set i (a, .lst (l ++ [y]))) ss) :
    Bm m hs (tDrop (tBM K "list" rAppend to (tCons (tBM K "list" rPopAt to2 tA) tNil))) ss rt nx bk ct := fun ok D σ H st kp se gd =>
  h σ H st JM.xg se _ fun o ⟨eo, ho⟩ vo H1 s1 h1 => by
    subst eo
    cases h1
    obtain ⟨vs0, ha0, _⟩ := held_of (j := m.j hs) s1.st (at_held hi)
    refine ⟨.inl ⟨rfl, vs0, .inl (.inl ha0)⟩, ho σ H1 s1.st JM.xg (se.step s1) _ fun o2 ⟨eo2, ho2⟩ vo2 H2 s2 h2 => ?_⟩
    subst eo2
    cases h2
    have s12 := s1.trans s2
    obtain ⟨vs1, ha1, _⟩ := held_of (j := m.j hs) s12.st (at_held hi2)
    refine ⟨.inl ⟨rfl, vs1, .inl (.inl ha1)⟩, ho2 σ H2 s12.st JM.xg (se.step s12) _ fun ys hy us H3 s3 h3 => ?_⟩
    obtain ⟨n, y, rfl, hn, hy, hz, kq⟩ := hy
    cases h3 with
    | cons iy r =>
      cases r
      cases iy
      have s13 := s12.trans s3
      obtain ⟨vs2, ha2, hl2⟩ := held_of (j := m.j hs) s13.st (at_held hi2)
      obtain ⟨v, hv, iv⟩ := hl2.get hy
      have hlt : n < vs2.length := (List.getElem?_eq_some_iff.mp hv).1
      refine ⟨b, vs2, (n : Int), n, v, rfl, rfl, ha2, by omega, by omega, ?_, hv, ?_⟩
      · unfold seqIndex?
        simp
        omega
      · obtain ⟨ok', st', kp', se', f⟩ := put_list ok hi2 s13.st (kp.step ok s13) (se.step s13) (hl2.erase n)
        have hi' : (hs.set i2 (b, .lst (l2.eraseIdx n)))[i]? = some (a, .lst l) := by
          rw [List.getElem?_set_ne (Ne.symm hne)]
          exact hi
        obtain ⟨vs, ha, hl⟩ := held_of (j := m.j _) st' (at_held hi')
        obtain ⟨ok2, st2, kp2, se2, _⟩ := put_list ok' hi' st' kp' se' (hl.append (.cons (f _ _ iv) .nil))
        exact ⟨a, vs, v, rfl, rfl, ha, by rw [← hl.length]; exact hz, gd.nx _ ss σ _ kq ok2 st2 kp2 se2⟩
/-! ### new lists -/
theorem nw_lst {j : J} {q : List Sh → Prop} (h : Ea j tA ss fun l => l.length ≤ sizeLine ∧ q l) : Nw j (tLst tA) ss q := fun σ H st xg se Q hQ =>
  h σ H st xg se _ fun l hl vs H1 s1 h1 => ⟨by rw [← h1.length]; exact hl.1, fun p hp => by
    have ne : ∀ b o, H1 b = some o → b ≠ p := fun b o e z => by rw [z, hp] at e; cases e
    exact hQ l hl.2 p _ (fun b o av nt e => ⟨Ext.new hp _ _ (s1.keep b o av nt e), ne _ _ (s1.keep b o av nt e)⟩) (s1.st.av hp) (s1.st.hold hp ⟨vs, upd_same, h1.conv2 (M' := j.M.hold p (.lst l)) (fun b o av nt e => ⟨av.to_hold (ne _ _ e), Ext.new hp _ _ e⟩) rfl⟩)⟩
theorem nw_of {j : J} {q : List Sh → Prop} {H H1 : Hp} {Q : VK} {l : List Sh} {vs : List V} {p : Addr} (s1 : Step j.M H H1) (hp : H1 p = none) (il : IsL j.M H1 l vs) (hl : q l)
    (hQ : ∀ l, q l → ∀ a H2, (∀ b o, Av j.M b → NoTbl o → H b = some o → H2 b = some o ∧ b ≠ a) → Av j.M a → St (j.M.hold a (.lst l)) H2 → Q (.ref a) H2) : Q (.ref p) (upd H1 p (.lst vs)) := by
  have ne : ∀ b o, H1 b = some o → b ≠ p := fun b o e z => by rw [z, hp] at e; cases e
  exact hQ l hl p _ (fun b o av nt e => ⟨Ext.new hp _ _ (s1.keep b o av nt e), ne _ _ (s1.keep b o av nt e)⟩) (s1.st.av hp) (s1.st.hold hp ⟨vs, upd_same, il.conv2 (M' := j.M.hold p (.lst l)) (fun b o av nt e => ⟨av.to_hold (ne _ _ e), Ext.new hp _ _ e⟩) rfl⟩)
theorem nw_list {j : J} {q : List Sh → Prop} (h : Ea j tA ss fun x => ∃ l, (x = [.lst l] ∨ x = [.tup l]) ∧ q l) :
    Nw j (tCB (fun xs H Q => ∃ p ys, xs = [.ref p] ∧ (SqL K H p ys ∨ SqT K H p ys) ∧ ∀ l, H l = none → Q (.ref l) (upd H l (.lst ys))) tA) ss q := fun σ H st xg se Q hQ =>
  h σ H st xg se _ fun x hx vs H1 s1 h1 => by
    obtain ⟨l, e, hl⟩ := hx
    rcases e with e | e <;> subst e
    · cases h1 with
      | cons a r =>
        cases r
        cases a with
        | lst av ha il => exact ⟨_, _, rfl, .inl (.inl (.inl ha)), fun p hp => nw_of s1 hp il hl hQ⟩
    · cases h1 with
      | cons a r =>
        cases r
        cases a with
        | tup av ha il => exact ⟨_, _, rfl, .inr (.inl (.inl ha)), fun p hp => nw_of s1 hp il hl hQ⟩
theorem own_new {H H2 : Hp} {σ : L2.St} (ok : m.Ok hs) (kp : m.Kp H) (se : SE (m.at hs) H ss σ) (keep : ∀ b o, Av (m.at hs) b → NoTbl o → H b = some o → H2 b = some o ∧ b ≠ a) :
    m.Ok ((a, .lst l) :: hs) ∧ m.Kp H2 ∧ SE (m.at ((a, .lst l) :: hs)) H2 ss σ := by
  have avs : ∀ b o, Av m.M b → ¬ m.A b → NoTbl o → m.H0 b = some o → Av (m.at hs) b := fun b o av na nt e => by
    refine ⟨av.1, fun p hp => ?_⟩
    rcases List.mem_append.mp hp with h | h
    · intro z
      rcases ok p h with q | q
      · exact na (z ▸ q)
      · exact q o (z ▸ av) nt (z ▸ e)
    · exact av.2 p h
  refine ⟨fun p hp => ?_, fun b o av na nt e => (keep b o (avs b o av na nt e) nt (kp b o av na nt e)).1, se.conv (fun b o av nt e => ⟨Av.to_hold (M := m.at hs) (D := a) (o := .lst l) av (keep b o av nt e).2, (keep b o av nt e).1⟩) rfl⟩
  rcases List.mem_cons.mp hp with e | e
  · rw [e]
    by_cases na : m.A a
    · exact .inl na
    · exact .inr fun o av nt q => (keep a o (avs a o av na nt q) nt (kp a o av na nt q)).2 rfl
  · exact ok p e
theorem bm_asgNew {x : Nat} (h : Nw (m.j hs) te ss fun l => ∀ a, nx ((a, .lst l) :: hs) (ss.set x (some (.v (.ref a))))) : Bm m hs (tAsg te (gName x)) ss rt nx bk ct := fun ok D σ H st kp se gd =>
  h σ H st JM.xg se _ fun l hl a H2 keep av st2 => by
    obtain ⟨ok', kp', se'⟩ := own_new (l := l) ok kp se keep
    exact gd.nx _ _ _ _ (hl a) ok' st2 kp' (se'.set (.v _) x)
/-- x, y = new list, new list -/
theorem bm_parNew {x y : Nat} {tb : TE} (h : Nw (m.j hs) ta ss fun l => ∀ a, Nw (m.j ((a, .lst l) :: hs)) tb ss fun l2 => ∀ b, nx ((b, .lst l2) :: (a, .lst l) :: hs) ((ss.set x (some (.v (.ref a)))).set y (some (.v (.ref b))))) :
    Bm m hs (tPar x y (tCons ta (tCons tb tNil))) ss rt nx bk ct := fun ok D σ H st kp se gd =>
  h σ H st JM.xg se _ fun l hl a H1 keep av st1 => by
    obtain ⟨ok', kp', se'⟩ := own_new (l := l) ok kp se keep
    refine hl a σ _ st1 JM.xg se' _ fun l2 hl2 b H2 keep2 av2 st2 => ?_
    obtain ⟨ok2, kp2, se2⟩ := own_new (l := l2) ok' kp' se' keep2
    exact ⟨_, _, rfl, gd.nx _ _ _ _ (hl2 b) ok2 st2 kp2 ((se2.set (.v _) x).set (.v _) y)⟩
/-- a list is no longer under way -/
theorem bm_rel {x : Nat} (hx : ss[x]? = some (some (.v (.ref a)))) (hb : ∀ y, m.M.bag = some y → m.M.out = false) (h : Bm m hs ts (ss.set x (some (.lst l))) rt nx bk ct) : Bm m ((a, .lst l) :: hs) ts ss rt nx bk ct := fun ok D σ H st kp se gd => by
  have st : St ((m.at hs).hold a (.lst l)) H := st
  have av : Av (m.at hs) a := by
    refine Av.iff.mpr ⟨fun y hy e => ?_, ?_⟩
    · exact (st.bag y hy (hb y hy)).2 (a, .lst l) List.mem_cons_self e.symm
    · have z : (a :: (m.at hs).held.map (·.1)).Nodup := st.nd
      exact (List.nodup_cons.mp z).1
  obtain ⟨us, e, il⟩ : HkOk ((m.at hs).hold a (.lst l)) H a (.lst l) := st.held (a, _) List.mem_cons_self
  have f : ∀ b o, Av ((m.at hs).hold a (.lst l)) b → NoTbl o → H b = some o → Av (m.at hs) b ∧ H b = some o := fun b o avb _ q => ⟨avb.hold.1, q⟩
  have i : Is (m.at hs) H (.lst l) (.ref a) := .lst av e (il.conv2 (M' := m.at hs) (H' := H) f rfl)
  obtain ⟨v, hv, iv⟩ := SE.get (M := (m.at hs).hold a (.lst l)) se hx
  cases iv
  have se2 : SE (m.at hs) H (ss.set x (some (.lst l))) (σ.set x (some (.ref a))) := (SE.conv (M := (m.at hs).hold a (.lst l)) (M' := m.at hs) f rfl se).set i x
  have e2 : σ.set x (some (.ref a)) = σ := by
    obtain ⟨hlt, hval⟩ := List.getElem?_eq_some_iff.mp hv
    rw [← hval]
    exact List.set_getElem_self hlt
  rw [e2] at se2
  exact h (fun p hp => ok p (List.mem_cons_of_mem _ hp)) D σ H (st.drop av) kp se2 gd
/-- the same body, anchored where it has come to -/
def JM.here (m : JM) (hs : Hs) (H : Hp) : JM := ⟨m.M, H, fun a => a ∈ hs.map (·.1)⟩
theorem here_ok {H : Hp} : (m.here hs H).Ok hs := fun p hp => .inl (List.mem_map_of_mem hp)
theorem here_kp {H : Hp} : (m.here hs H).Kp H := fun _ _ _ _ _ e => e
theorem here_back {hs2 : Hs} {H H2 : Hp} (ok : m.Ok hs) (kp : m.Kp H) (ok2 : (m.here hs H).Ok hs2) (kp2 : (m.here hs H).Kp H2) : m.Ok hs2 ∧ m.Kp H2 := by
  have nin : ∀ a o, Av m.M a → ¬ m.A a → NoTbl o → m.H0 a = some o → a ∉ hs.map (·.1) := fun a o av na nt e z => by
    obtain ⟨p, hp, q⟩ := List.mem_map.mp z
    rcases ok p hp with r | r
    · exact na (q ▸ r)
    · exact r o (q ▸ av) nt (q ▸ e)
  refine ⟨fun p hp => ?_, fun a o av na nt e => kp2 a o av (nin a o av na nt e) nt (kp a o av na nt e)⟩
  rcases ok2 p hp with r | r
  · obtain ⟨p', hp', q⟩ := List.mem_map.mp r
    rw [← q]
    exact ok p' hp'
  · by_cases na : m.A p.1
    · exact .inl na
    · exact .inr fun o av nt e => r o av nt (kp _ o av na nt e)
theorem here_conv {hs2 : Hs} {H H2 : Hp} (ok2 : (m.here hs H).Ok hs2) (kp2 : (m.here hs H).Kp H2) : ∀ a o, Av (m.at hs) a → NoTbl o → H a = some o → Av (m.at hs2) a ∧ H2 a = some o := fun a o av nt e => by
  have avm : Av m.M a := ⟨av.1, fun p hp => av.2 p (List.mem_append_right _ hp)⟩
  have nin : a ∉ hs.map (·.1) := fun z => by
    obtain ⟨p, hp, q⟩ := List.mem_map.mp z
    exact av.2 p (List.mem_append_left _ hp) q
  refine ⟨⟨av.1, fun p hp => ?_⟩, kp2 a o avm nin nt e⟩
  rcases List.mem_append.mp hp with h | h
  · intro z
    rcases ok2 p h with r | r
    · exact nin (z ▸ r)
    · exact r o (z ▸ avm) nt (z ▸ e)
  · exact av.2 p (List.mem_append_right _ h)
theorem GoodM.back {H : Hp} {rt : Hs → Sh → Prop} {nx bk ct : Hs → SS → Prop} {D : Ends} (gd : GoodM m rt nx bk ct D) (ok : m.Ok hs) (kp : m.Kp H) {P1 P2 P3 : Hs → SS → Prop} (h1 : Nm (m.here hs H) D.nx P1) (h2 : Nm (m.here hs H) D.bk P2) (h3 : Nm (m.here hs H) D.ct P3) :
    GoodM (m.here hs H) rt P1 P2 P3 D := ⟨fun hs2 r v H2 hr ok2 st2 kp2 i2 => gd.rt hs2 r v H2 hr (here_back ok kp ok2 kp2).1 st2 (here_back ok kp ok2 kp2).2 i2, h1, h2, h3⟩
/-- for: W the invariant by the turn -/
theorem bm_for (h : Ei (m.j hs) wi ss fun l => ∃ W : Nat → Hs → SS → Prop, W 0 hs ss ∧ (∀ H A i s hs1 ss1, l[i]? = some s → W i hs1 ss1 → Eg (m.j hs1) g s ss1 fun ss2 => Bm ⟨m.M, H, A⟩ hs1 ts ss2 rt (W (i + 1)) nx (W (i + 1))) ∧ ∀ hs1 ss1, W l.length hs1 ss1 → nx hs1 ss1) :
    Bm m hs (tFor wi g ts) ss rt nx bk ct := fun ok D σ H st kp se gd =>
  h σ H st JM.xg se _ fun l ⟨W, w0, ww, we⟩ I H1 s1 im => by
    have kp1 := kp.step ok s1
    refine ⟨fun i n σ2 H2 => n + i = l.length ∧ ∃ hs2 ss2, W i hs2 ss2 ∧ (m.here hs H1).Ok hs2 ∧ St (m.at hs2) H2 ∧ (m.here hs H1).Kp H2 ∧ SE (m.at hs2) H2 ss2 σ2, ⟨l.length, rfl, hs, ss, w0, here_ok, s1.st, here_kp, se.step s1⟩, ?_⟩
    rintro i n σ2 H2 ⟨hn, hs2, ss2, w2, ok2, st2, kp2, se2⟩
    obtain ⟨a1, a2⟩ := im.run (m.at hs2) H2 rfl (here_conv ok2 kp2) st2
    obtain ⟨okb, kpb⟩ := here_back ok kp1 ok2 kp2
    by_cases hi : i < l.length
    · refine .inr ?_
      obtain ⟨b1, b2⟩ := a1 i l[i] (List.getElem?_eq_getElem hi)
      refine ⟨b1, fun σ3 H3 => ∃ n', n' < n ∧ n' + (i + 1) = l.length ∧ ∃ hs3 ss3, W (i + 1) hs3 ss3 ∧ (m.here hs H1).Ok hs3 ∧ St (m.at hs3) H3 ∧ (m.here hs H1).Kp H3 ∧ SE (m.at hs3) H3 ss3 σ3, fun σ3 H3 z => z, fun x H3 y => ?_⟩
      obtain ⟨c1, c2⟩ := b2 x H3 y
      have s3 : Step (m.at hs2) H2 H3 := .of st2 c1
      refine ww H1 (fun a => a ∈ hs.map (·.1)) i _ hs2 ss2 (List.getElem?_eq_getElem hi) w2 x σ2 H3 s3.st JM.xg c2 (se2.step s3) _ fun ss4 h4 σ4 H4 s4 se4 => ?_
      have s34 := s3.trans s4
      have fin : Nm (m.here hs H1) (fun σ5 H5 => ∃ n', n' < n ∧ n' + (i + 1) = l.length ∧ ∃ hs3 ss3, W (i + 1) hs3 ss3 ∧ (m.here hs H1).Ok hs3 ∧ St (m.at hs3) H5 ∧ (m.here hs H1).Kp H5 ∧ SE (m.at hs3) H5 ss3 σ5) (W (i + 1)) := fun hs5 ss5 σ5 H5 w5 ok5 st5 kp5 se5 => ⟨n - 1, by omega, by omega, hs5, ss5, w5, ok5, st5, kp5, se5⟩
      have nxb : Nm (m.here hs H1) D.nx nx := fun hs5 ss5 σ5 H5 w5 ok5 st5 kp5 se5 => gd.nx hs5 ss5 σ5 H5 w5 (here_back ok kp1 ok5 kp5).1 st5 (here_back ok kp1 ok5 kp5).2 se5
      exact h4 ok2 _ σ4 H4 s34.st (kp2.step (m := m.here hs H1) ok2 s34) se4 ⟨fun hs5 r v H5 hr ok5 st5 kp5 i5 => gd.rt hs5 r v H5 hr (here_back ok kp1 ok5 kp5).1 st5 (here_back ok kp1 ok5 kp5).2 i5, fin, nxb, fin⟩
    · refine .inl ⟨a2 i (by omega), ?_⟩
      have e : i = l.length := by omega
      subst e
      exact gd.nx hs2 ss2 σ2 H2 (we hs2 ss2 w2) okb st2 kpb se2
theorem bm_while {c : TT} (I : Nat → Hs → SS → Prop) (n : Nat) (h0 : I n hs ss)
    (h : ∀ H A n hs1 ss1, I n hs1 ss1 → Et (m.j hs1) c ss1 fun b => (b = true → Bm ⟨m.M, H, A⟩ hs1 ts ss1 rt (fun hs2 ss2 => ∃ n', n' < n ∧ I n' hs2 ss2) nx (fun hs2 ss2 => ∃ n', n' < n ∧ I n' hs2 ss2)) ∧ (b = false → nx hs1 ss1)) : Bm m hs (tWhile c ts) ss rt nx bk ct := fun ok D σ H st kp se gd => by
  refine ⟨fun n σ1 H1 => ∃ hs1 ss1, I n hs1 ss1 ∧ m.Ok hs1 ∧ St (m.at hs1) H1 ∧ m.Kp H1 ∧ SE (m.at hs1) H1 ss1 σ1, ⟨n, hs, ss, h0, ok, st, kp, se⟩, ?_⟩
  rintro n σ1 H1 ⟨hs1, ss1, i1, ok1, st1, kp1, se1⟩
  refine h m.H0 m.A n hs1 ss1 i1 σ1 H1 st1 JM.xg se1 _ fun b hb H2 s2 => ?_
  cases b with
  | false =>
    show D.nx σ1 H2
    exact gd.nx hs1 ss1 σ1 H2 (hb.2 rfl) ok1 s2.st (kp1.step ok1 s2) (se1.step s2)
  | true =>
    have fin : Nm m (fun σ3 H3 => ∃ n', n' < n ∧ ∃ hs1 ss1, I n' hs1 ss1 ∧ m.Ok hs1 ∧ St (m.at hs1) H3 ∧ m.Kp H3 ∧ SE (m.at hs1) H3 ss1 σ3) (fun hs2 ss2 => ∃ n', n' < n ∧ I n' hs2 ss2) := fun hs5 ss5 σ5 H5 ⟨n', hn, w5⟩ ok5 st5 kp5 se5 => ⟨n', hn, hs5, ss5, w5, ok5, st5, kp5, se5⟩
    refine ⟨fun σ3 H3 => ∃ n', n' < n ∧ ∃ hs1 ss1, I n' hs1 ss1 ∧ m.Ok hs1 ∧ St (m.at hs1) H3 ∧ m.Kp H3 ∧ SE (m.at hs1) H3 ss1 σ3, fun σ3 H3 z => z, ?_⟩
    exact hb.1 rfl ok1 _ σ1 H2 s2.st (kp1.step ok1 s2) (se1.step s2) ⟨gd.rt, fin, gd.nx, fin⟩
end
/-! ### defs -/
/-- what is handed back, seen from outside: a list under way becomes a list -/
inductive Rel (hs : Hs) : Sh → Sh → Prop
  | same (r : Sh) : Rel hs r r
  | own {a : Addr} {l : List Sh} (h : (a, .lst l) ∈ hs) : Rel hs (.v (.ref a)) (.lst l)
theorem Rel.is {m : JM} {hs : Hs} {H : Hp} {r r' : Sh} {v : V} (h0 : ∀ x, m.M.bag = some x → m.M.out = true → x.1 ∈ m.M.held.map (·.1)) (h : Rel hs r r') (st : St (m.at hs) H) (i : Is (m.at hs) H r v) : Is m.M H r' v := by
  have wk : ∀ a, Av (m.at hs) a → Av m.M a := fun a av => ⟨av.1, fun p hp => av.2 p (List.mem_append_right _ hp)⟩
  cases h with
  | same => exact i.weak (M' := m.at hs) rfl wk
  | own h =>
    rename_i a l
    cases i
    obtain ⟨vs, e, il⟩ : HkOk (m.at hs) H a (.lst l) := st.held (a, .lst l) (List.mem_append_left _ h)
    have nd : ((hs ++ m.M.held).map (·.1)).Nodup := st.nd
    rw [List.map_append] at nd
    have z1 : a ∈ hs.map (·.1) := List.mem_map_of_mem (f := fun p : Addr × Hk => p.1) h
    have nin : a ∉ m.M.held.map (·.1) := fun z => (List.nodup_append.mp nd).2.2 a z1 a z rfl
    refine .lst (Av.iff.mpr ⟨fun x hx e => ?_, nin⟩) e (il.weak (M' := m.at hs) rfl wk)
    cases ho : m.M.out with
    | false => exact (st.bag x hx ho).2 _ (List.mem_append_left _ h) e.symm
    | true => exact nin (e ▸ h0 x hx ho)
theorem St.unhold {m : JM} {hs : Hs} {H : Hp} (h0 : ∀ x, m.M.bag = some x → m.M.out = true → x.1 ∈ m.M.held.map (·.1)) (st : St (m.at hs) H) : St m.M H := by
  have wk : ∀ a, Av (m.at hs) a → Av m.M a := fun a av => ⟨av.1, fun p hp => av.2 p (List.mem_append_right _ hp)⟩
  refine ⟨fun x hx ho => ⟨(st.bag x hx ho).1.conv (fun a o' av q => ⟨wk _ av, q⟩) (fun _ q => q), fun p hp => (st.bag x hx ho).2 p (List.mem_append_right _ hp)⟩, h0, st.tab, fun p hp => (st.held p (List.mem_append_right _ hp)).conv (fun _ q => q) fun s v i => i.weak (M' := m.at hs) rfl wk, ?_⟩
  have nd : ((hs ++ m.M.held).map (·.1)).Nodup := st.nd
  rw [List.map_append] at nd
  exact (List.nodup_append.mp nd).2.1
theorem SpS.bodyM {fs : Fs} {N : List Str} {ts : TS} {vs : List V} {H : Hp} {Q : VK} {E : XK} (h : SpS fs vs H Q E)
    (hb : ∀ M l S, fs M l S → ∀ H, Bm ⟨M, H, fun _ => False⟩ [] ts (starts N l) (fun hs r => ∃ r', Rel hs r r' ∧ S (.ret r')) (fun _ _ => S (.ret .non)) (fun _ _ => False) (fun _ _ => False)) :
    ts { nx := fun _ H' => Q .non H', rt := Q } (L2.start N vs) H := by
  obtain ⟨M, l, S, f, st, il, hS⟩ := h
  have nd : ∀ hs H' , (JM.Ok ⟨M, H, fun _ => False⟩ hs) → St (JM.at ⟨M, H, fun _ => False⟩ hs) H' → JM.Kp ⟨M, H, fun _ => False⟩ H' → Step M H H' := fun hs H' ok st' kp => ⟨fun a o av nt e => kp a o av (fun z => z) nt e, St.unhold (m := ⟨M, H, fun _ => False⟩) st.outh st'⟩
  refine hb M l S f H (fun p hp => by cases hp) _ (L2.start N vs) H st (fun a o _ _ _ e => e) (SE.starts il) ⟨fun hs r v H' ⟨r', hr, k⟩ ok st' kp i => ?_, fun hs ss σ H' k ok st' kp se => ?_, fun _ _ _ _ z => z.elim, fun _ _ _ _ z => z.elim⟩
  · exact hS _ k v H' (nd hs H' ok st' kp) (hr.is (m := ⟨M, H, fun _ => False⟩) st.outh st' i)
  · exact hS _ k .non H' (nd hs H' ok st' kp) (.v _)
/-- .. of a body that takes the bag apart -/
def bagHs (β : Addr) (xs : List Int) (a b d e : Int) : Hs := [(β, .lst [.lst (xs.map Sh.int), .int a, .int b, .int d, .int e])]
theorem SpS.bodyBag {fs : Fs} {N : List Str} {ts : TS} {vs : List V} {H : Hp} {Q : VK} {E : XK} (h : SpS fs vs H Q E)
    (hb : ∀ M l S, fs M l S → M.out = false ∧ ∃ l', l = .bag :: l' ∧ (∀ s ∈ l', ∃ x, s = Sh.v x) ∧ ∀ m β xs a b d e, 0 ≤ a → 0 ≤ d → d < 2147483587 → Bm m (bagHs β xs a b d e) ts (starts N (.v (.ref β) :: l'))
      (fun hs r => ∃ a b d e, 0 ≤ a ∧ 0 ≤ d ∧ d < 2147483587 ∧ hs = bagHs β xs a b d e ∧ (∃ x, r = .v x) ∧ S (.ret r)) (fun _ _ => False) (fun _ _ => False) (fun _ _ => False)) :
    ts { nx := fun _ H' => Q .non H', rt := Q } (L2.start N vs) H := by
  obtain ⟨M, l, S, f, st, il, hS⟩ := h
  obtain ⟨ho, l', rfl, hv, hb⟩ := hb M l S f
  cases il with
  | cons i0 il =>
    rename_i v0 vs
    cases i0 with
    | bag hM =>
      rename_i β xs
      obtain ⟨⟨c, a, b, d, e, q1, q2, q3, avc, h1, h2⟩, hne⟩ := st.bag _ hM ho
      have bin : β ∉ M.held.map (·.1) := fun z => by
        obtain ⟨p, hp, e⟩ := List.mem_map.mp z
        exact hne p hp e
      let m : JM := ⟨{ M with out := true }, H, fun z => z = β⟩
      have avI : ∀ a b d e z, Av (m.at (bagHs β xs a b d e)) z ↔ Av M z := fun a b d e z => by
        rw [Av.iff, Av.iff]
        constructor
        · rintro ⟨h, h'⟩
          have h' : z ∉ β :: M.held.map (·.1) := h'
          simp only [List.mem_cons, not_or] at h'
          exact ⟨h, h'.2⟩
        · rintro ⟨h, h'⟩
          refine ⟨h, ?_⟩
          show z ∉ β :: M.held.map (·.1)
          simp only [List.mem_cons, not_or]
          exact ⟨fun e => h _ hM e.symm, h'⟩
      have cv : ∀ {H' : Hp} {a b d e s v}, Is M H' s v → Is (m.at (bagHs β xs a b d e)) H' s v := fun i => i.conv (fun z o av _ q => ⟨(avI _ _ _ _ z).mpr av, q⟩) rfl
      have cb : ∀ {H' : Hp} {a b d e s v}, Is (m.at (bagHs β xs a b d e)) H' s v → Is M H' s v := fun i => i.conv (fun z o av _ q => ⟨(avI _ _ _ _ z).mp av, q⟩) rfl
      have st0 : St (m.at (bagHs β xs a b d e)) H := by
        refine ⟨fun x hx ho => (by cases ho), fun x hx _ => ?_, st.tab, fun p hp => ?_, ?_⟩
        · have hx : M.bag = some x := hx
          rw [hM] at hx
          cases hx
          exact List.mem_cons_self
        · rcases List.mem_cons.mp hp with z | z
          · rw [z]
            exact ⟨_, h2, .cons (.lst ((avI _ _ _ _ c).mpr avc) h1 IsL.ints) (.cons (.v _) (.cons (.v _) (.cons (.v _) (.cons (.v _) .nil))))⟩
          · exact (st.held p z).conv (fun _ q => q) fun _ _ i => cv i
        · show (β :: M.held.map (·.1)).Nodup
          exact List.nodup_cons.mpr ⟨bin, st.nd⟩
      have se0 : SE (m.at (bagHs β xs a b d e)) H (starts N (.v (.ref β) :: l')) (L2.start N (.ref β :: vs)) := by
        refine SE.starts (.cons (.v _) ?_)
        exact il.conv fun _ _ i => cv i
      refine hb m β xs a b d e q1 q2 q3 (fun p hp => ?_) _ (L2.start N (.ref β :: vs)) H st0 (fun _ _ _ _ _ e => e) se0 ⟨fun hs r v H' hr ok st' kp i => ?_, fun _ _ _ _ z => z.elim, fun _ _ _ _ z => z.elim, fun _ _ _ _ z => z.elim⟩
      · rw [List.mem_singleton.mp hp]
        exact .inl rfl
      · obtain ⟨a', b', d', e', r1, r2, r3, rfl, ⟨x, rfl⟩, k⟩ := hr
        cases i
        refine hS _ k _ H' ⟨fun z o av nt q => ?_, ?_⟩ (.v _)
        · exact kp z o (Av.iff.mpr (Av.iff.mp av)) (fun e => av.1 _ hM e.symm) nt q
        · refine ⟨fun x hx _ => ?_, fun x hx ho' => (by rw [ho] at ho'; cases ho'), st'.tab, fun p hp => (st'.held p (List.mem_cons_of_mem _ hp)).conv (fun _ q => q) fun _ _ i => cb i, st.nd⟩
          rw [hM] at hx
          cases hx
          refine ⟨?_, hne⟩
          obtain ⟨vs', e1, il'⟩ : HkOk (m.at (bagHs β xs a' b' d' e')) H' β (.lst [.lst (xs.map Sh.int), .int a', .int b', .int d', .int e']) := st'.held (β, _) List.mem_cons_self
          cases il' with
          | cons j0 j1 =>
            cases j0 with
            | lst avx hx il0 =>
              cases j1 with
              | cons k1 j1 =>
                cases j1 with
                | cons k2 j1 =>
                  cases j1 with
                  | cons k3 j1 =>
                    cases j1 with
                    | cons k4 j1 =>
                      cases j1
                      cases k1
                      cases k2
                      cases k3
                      cases k4
                      cases il0.of_ints
                      exact ⟨_, a', b', d', e', r1, r2, r3, (avI _ _ _ _ _).mp avx, hx, e1⟩
section
variable {P : Program} {w : World} {K : PySem.W.Frag} {mg : Str → Option Value} {base : Heap} {k : Nat}
theorem fun_okM {x qual : Str} {st : Stmt} {f : Addr} {fd : FuncData} {N ps : List Str} {fs : Fs} (F : L2.Fun K x qual st f fd) (S : FnScope N ps (defScope st)) (hl : ∀ M l S, fs M l S → l.length = ps.length)
    (hbody : ∀ (cdv : Value) (A : Around) (outer : List Env) (s : Shared) (H : Hp) (E : XK), Room k (A.deeper (envOfC qual (defScope st) s.heap.objs.size f cdv)) →
      ∃ ts, PSs (cxOf CX0 P w K mg base N qual (defScope st) f cdv A outer s H E).nox (defBody st) ts ∧ ∀ M l S, fs M l S → ∀ H, Bm ⟨M, H, fun _ => False⟩ [] ts (starts N l) (fun hs r => ∃ r', Rel hs r r' ∧ S (.ret r')) (fun _ _ => S (.ret .non)) (fun _ _ => False) (fun _ _ => False)) :
    FnOk P w K mg base CX0 (k + 1) f fd ps (SpS fs) :=
  L2.Fun.ok F S (SpS.len hl) fun cdv A outer s H vs Q E hr h => by
    obtain ⟨ts, h1, h2⟩ := hbody cdv A outer s H E hr
    exact ⟨ts, h1, h.bodyM h2⟩
theorem fun_okBag {x qual : Str} {st : Stmt} {f : Addr} {fd : FuncData} {N ps : List Str} {fs : Fs} (F : L2.Fun K x qual st f fd) (S : FnScope N ps (defScope st)) (hl : ∀ M l S, fs M l S → l.length = ps.length)
    (hbody : ∀ (cdv : Value) (A : Around) (outer : List Env) (s : Shared) (H : Hp) (E : XK), Room k (A.deeper (envOfC qual (defScope st) s.heap.objs.size f cdv)) →
      ∃ ts, PSs (cxOf CX0 P w K mg base N qual (defScope st) f cdv A outer s H E).nox (defBody st) ts ∧ ∀ M l S, fs M l S → M.out = false ∧ ∃ l', l = .bag :: l' ∧ (∀ s ∈ l', ∃ x, s = Sh.v x) ∧ ∀ m β xs a b d e, 0 ≤ a → 0 ≤ d → d < 2147483587 → Bm m (bagHs β xs a b d e) ts (starts N (.v (.ref β) :: l'))
      (fun hs r => ∃ a b d e, 0 ≤ a ∧ 0 ≤ d ∧ d < 2147483587 ∧ hs = bagHs β xs a b d e ∧ (∃ x, r = .v x) ∧ S (.ret r)) (fun _ _ => False) (fun _ _ => False) (fun _ _ => False)) :
    FnOk P w K mg base CX0 (k + 1) f fd ps (SpS fs) :=
  L2.Fun.ok F S (SpS.len hl) fun cdv A outer s H vs Q E hr h => by
    obtain ⟨ts, h1, h2⟩ := hbody cdv A outer s H E hr
    exact ⟨ts, h1, h.bodyBag h2⟩
end
section
variable {m : JM} {β : Addr} {xs : List Int} {a b d e : Int} {K : PySem.W.Frag} {q : Sh → Prop} {ss : SS} {rt : Hs → Sh → Prop} {nx bk ct : Hs → SS → Prop} {te : TE}
theorem bg_r0 (k : q (.lst (xs.map Sh.int))) : E2 (m.j (bagHs β xs a b d e)) (rIxL K) (.v (.ref β)) (.v (.int 0)) q := e2_ixH 0 rfl rfl k
theorem bg_r1 (k : q (.int a)) : E2 (m.j (bagHs β xs a b d e)) (rIxL K) (.v (.ref β)) (.v (.int 1)) q := e2_ixH 0 rfl rfl k
theorem bg_r2 (k : q (.int b)) : E2 (m.j (bagHs β xs a b d e)) (rIxL K) (.v (.ref β)) (.v (.int 2)) q := e2_ixH 0 rfl rfl k
theorem bg_r3 (k : q (.int d)) : E2 (m.j (bagHs β xs a b d e)) (rIxL K) (.v (.ref β)) (.v (.int 3)) q := e2_ixH 0 rfl rfl k
theorem bg_r4 (k : q (.int e)) : E2 (m.j (bagHs β xs a b d e)) (rIxL K) (.v (.ref β)) (.v (.int 4)) q := e2_ixH 0 rfl rfl k
theorem bg_w1 (hs : ss[0]? = some (some (.v (.ref β)))) (h : Ev (m.j (bagHs β xs a b d e)) te ss fun y => ∃ v, y = .int v ∧ nx (bagHs β xs v b d e) ss) : Bm m (bagHs β xs a b d e) (tAsg te (gSub (tVar 0) (tC (.int 1)) rSetL)) ss rt nx bk ct :=
  bm_setL 0 rfl (h.mono fun y ⟨v, e, k⟩ => by subst e; exact ev_var hs ⟨rfl, ev_c ⟨1, 1, rfl, rfl, k⟩⟩)
theorem bg_w2 (hs : ss[0]? = some (some (.v (.ref β)))) (h : Ev (m.j (bagHs β xs a b d e)) te ss fun y => ∃ v, y = .int v ∧ nx (bagHs β xs a v d e) ss) : Bm m (bagHs β xs a b d e) (tAsg te (gSub (tVar 0) (tC (.int 2)) rSetL)) ss rt nx bk ct :=
  bm_setL 0 rfl (h.mono fun y ⟨v, e, k⟩ => by subst e; exact ev_var hs ⟨rfl, ev_c ⟨2, 2, rfl, rfl, k⟩⟩)
theorem bg_w3 (hs : ss[0]? = some (some (.v (.ref β)))) (h : Ev (m.j (bagHs β xs a b d e)) te ss fun y => ∃ v, y = .int v ∧ nx (bagHs β xs a b v e) ss) : Bm m (bagHs β xs a b d e) (tAsg te (gSub (tVar 0) (tC (.int 3)) rSetL)) ss rt nx bk ct :=
  bm_setL 0 rfl (h.mono fun y ⟨v, e, k⟩ => by subst e; exact ev_var hs ⟨rfl, ev_c ⟨3, 3, rfl, rfl, k⟩⟩)
theorem bg_w4 (hs : ss[0]? = some (some (.v (.ref β)))) (h : Ev (m.j (bagHs β xs a b d e)) te ss fun y => ∃ v, y = .int v ∧ nx (bagHs β xs a b d v) ss) : Bm m (bagHs β xs a b d e) (tAsg te (gSub (tVar 0) (tC (.int 4)) rSetL)) ss rt nx bk ct :=
  bm_setL 0 rfl (h.mono fun y ⟨v, e, k⟩ => by subst e; exact ev_var hs ⟨rfl, ev_c ⟨4, 4, rfl, rfl, k⟩⟩)
/-- x[i] of a list, i in range -/
theorem e2_ixI {j : J} {xs : List Int} {i : Int} (h0 : 0 ≤ i) (h1 : i < xs.length) (k : ∀ x, x ∈ xs → q (.int x)) : E2 j (rIxL K) (.lst (xs.map Sh.int)) (.v (.int i)) q := by
  obtain ⟨n, rfl⟩ := Int.eq_ofNat_of_zero_le h0
  have hn : n < xs.length := by omega
  exact e2_ixL (s := .int xs[n]) (atI_nat (by rw [List.getElem?_map, List.getElem?_eq_getElem hn]; rfl)) (k _ (List.getElem_mem hn))
end
section
variable {j : J} {K : PySem.W.Frag} {q : Sh → Prop} {l : List Sh}
theorem en_lenV {z : Str} (k : z.length ≤ sizeLine ∧ q (.int z.length)) : En j (fun xs H Q => ∃ x n, xs = [x] ∧ LenV K x H n ∧ Q (.int n) H) [.str z] q := fun vs H st xg hl Q hQ => by
  cases hl with
  | cons a r =>
    cases r
    cases a
    exact ⟨_, z.length, rfl, ⟨k.1, rfl⟩, (hQ _ k.2).of st (.v _)⟩
/-- an item at a place in range, whatever it is -/
theorem e2_ixAny {i : Int} (h0 : 0 ≤ i) (h1 : i < l.length) (k : ∀ s, s ∈ l → q s) : E2 j (rIx K) (.lst l) (.v (.int i)) q := by
  obtain ⟨n, rfl⟩ := Int.eq_ofNat_of_zero_le h0
  have hn : n < l.length := by omega
  exact e2_ix_l (s := l[n]) (atI_nat (List.getElem?_eq_getElem hn)) (k _ (List.getElem_mem hn))
theorem e2_ixAnyS {z : Str} {i : Int} (hz : z.length ≤ sizeLine) (h0 : 0 ≤ i) (h1 : i < z.length) (k : ∀ c, c ∈ z.cps.toList → q (.str ⟨#[c]⟩)) : E2 j (rIx K) (.str z) (.v (.int i)) q := fun v u H st xg i1 i2 Q hQ => by
  obtain ⟨n, rfl⟩ := Int.eq_ofNat_of_zero_le h0
  have hl : z.length = z.cps.toList.length := TL.len_tl z
  have hn : n < z.cps.toList.length := by omega
  exact .inr (.inr (e2_ixS (c := z.cps.toList[n]) hz (atI_nat (List.getElem?_eq_getElem hn)) (k _ (List.getElem_mem hn)) v u H st xg i1 i2 Q hQ))
end
end GS

/-! GkMul -/
set_option Elab.async false
set_option Elab.async false
set_option linter.all false
set_option maxRecDepth 100000
set_option maxHeartbeats 2000000
/-! 'x' * n. -/
namespace L2
open PySem PySem.Spec PyProof.Rows
def repS (a : Str) (n : Nat) : Str := ⟨(List.replicate n a.cps).foldl (· ++ ·) #[]⟩
theorem repS_tl {a : Str} : ∀ (n : Nat) (acc : Array Nat), ((List.replicate n a.cps).foldl (· ++ ·) acc).toList = acc.toList ++ (List.replicate n a.cps.toList).flatten
  | 0, acc => by simp
  | n + 1, acc => by
    rw [List.replicate_succ, List.foldl_cons, repS_tl n (acc ++ a.cps), List.replicate_succ, List.flatten_cons, Array.toList_append, List.append_assoc]
def rMulS : R2 := fun x y H Q => ∃ (a : Str) (n : Int), x = .str a ∧ y = .int n ∧ MulOk a n ∧ Q (.str (Txt.mul a n)) H
theorem op_mulS {X : Cx} : OpR X (binaryOp .Mult) rMulS := by
  intro pins s σ H x y v u Q I rx ry h
  obtain ⟨a, n, rfl, rfl, h0, q⟩ := h
  obtain ⟨t, rfl⟩ := rx
  obtain ⟨t', rfl⟩ := ry
  exact SB.mul h0 fun t' k => ⟨.str _, H, I.tok k, ⟨t', rfl⟩, q⟩
theorem mulOk1 {c : Nat} {n : Int} (h0 : 0 ≤ n) (h1 : n ≤ 100000) : MulOk ⟨#[c]⟩ n := by
  have e : Str.length ⟨#[c]⟩ = 1 := rfl
  refine ⟨by rw [decide_eq_false (by omega), decide_eq_false (by omega)]; rfl, fun hn _ => ?_, fun hn _ => ?_⟩
  · rw [e]
    intro z
    have : (2 ^ 63 - 1) / n ≥ 1 := Int.le_ediv_of_mul_le (by omega) (by omega)
    omega
  · rw [e]
    unfold Builtin.Str.tooLong
    have hs : sizeLine = 16777216 := sizeLine_eq
    exact decide_eq_false (by omega)
theorem mul_tl {c : Nat} {n : Nat} (h : 2 ≤ n) : (Txt.mul ⟨#[c]⟩ (n : Int)).cps.toList = List.replicate n c := by
  unfold Txt.mul
  have e : Str.length ⟨#[c]⟩ = 1 := rfl
  have hc : ((n : Int) == 1 || Str.length ⟨#[c]⟩ == 0) = false := by
    rw [e]
    simp
    omega
  rw [if_neg (by omega), hc]
  show ((List.replicate n #[c]).foldl (· ++ ·) #[]).toList = _
  have z := repS_tl (a := ⟨#[c]⟩) n #[]
  rw [z]
  show [] ++ (List.replicate n [c]).flatten = _
  rw [List.nil_append]
  clear z hc e h
  induction n with
  | zero => rfl
  | succ n ih => rw [List.replicate_succ, List.flatten_cons, ih]; rfl
end L2
namespace GS
open PySem L2
theorem e2_mulS {j : J} {q : Sh → Prop} {a : Str} {n : Int} (k : MulOk a n ∧ q (.str (Txt.mul a n))) : E2 j rMulS (.str a) (.v (.int n)) q := fun v u H st xg h1 h2 Q hQ => by
  cases h1
  cases h2
  exact ⟨a, n, rfl, rfl, k.1, (hQ _ k.2).of st (.v _)⟩
end GS

/-! GkCnt -/
set_option Elab.async false
set_option Elab.async false
set_option linter.all false
set_option maxRecDepth 100000
set_option maxHeartbeats 2000000
/-! list.count of flat items; two promises of one def. -/
namespace L2
open PySem PySem.Spec PyProof.Rows
section
variable {X : Cx}
def rCount (K : PySem.W.Frag) : V → List V → Hp → VK → Prop := fun x xs H Q => ∃ (a : Addr) (ys : List V) (y : V), x = V.ref a ∧ xs = [y] ∧ SqL K H a ys ∧ flatV y = true ∧ ys.all flatV = true ∧ Q (.int ((ys.countP fun z => eqV z y : Nat) : Int)) H
theorem countP_eqU {y : V} : ∀ {ys : List V} {its : List Value}, Vals ys its → ys.all flatV = true → its.countP (eqU y) = ys.countP fun z => eqV z y
  | _, _, .nil, _ => rfl
  | z :: ys, u :: its, .cons r t, f => by
    rw [List.all_cons, Bool.and_eq_true] at f
    rw [List.countP_cons, List.countP_cons, countP_eqU t f.2, eqU_of r f.1]
theorem mt_countF : MtR X "list.count" (rCount X.K) := by
  intro pins s σ H x xs v us Q I rx rxs h
  obtain ⟨a, ys, y, rfl, rfl, hs, fy, fys, q⟩ := h
  cases rx
  cases rxs with
  | cons ry rt =>
    rename_i uy ut
    cases rt
    obtain ⟨its, rv, ⟨⟨cls, dd, data, sl⟩, n, ho, hc, hdn, hd⟩, hlen⟩ := I.list hs
    simp only at hc hd
    subst hc hd
    refine call_meets PySem.F.slot_list_count ⟨_, ho, rfl⟩ PySem.F.entry_list_count (PySem.F.args_list_count_2 _ _)
      (SeqAt.list_countAt a its.toArray n dd sl uy (eqU y)) ?_
    have e : List.countP (eqU y) its.toArray.toList = ys.countP fun z => eqV z y := countP_eqU rv fys
    rw [e]
    exact ⟨ho, fun u' hu' => mem_eqAt ry fy rv fys u' (by simpa using hu'), ⟨.int _, H, I.tok _, ⟨_, rfl⟩, q⟩⟩
theorem fnok_or {P : Program} {w : World} {K : PySem.W.Frag} {mg : Str → Option Value} {base : Heap} {CX : CXT} {k : Nat} {f : Addr} {fd : FuncData} {ps : List Str} {fs fs' : GS.Fs} (F : FnOk P w K mg base CX k f fd ps (GS.SpS fs)) (G : FnOk P w K mg base CX k f fd ps (GS.SpS fs')) :
    FnOk P w K mg base CX k f fd ps (GS.SpS fun M l S => fs M l S ∨ fs' M l S) := by
  have cs : ∀ {vs H Q E}, GS.SpS (fun M l S => fs M l S ∨ fs' M l S) vs H Q E → GS.SpS fs vs H Q E ∨ GS.SpS fs' vs H Q E := fun {vs H Q E} ⟨M, l, S, h, r⟩ => h.elim (fun h => .inl ⟨M, l, S, h, r⟩) fun h => .inr ⟨M, l, S, h, r⟩
  refine ⟨fun vs H Q E h => (cs h).elim (F.len _ _ _ _) (G.len _ _ _ _), fun A outer s H args us vs Q E hr he hb hv h => ?_⟩
  rcases cs h with h | h
  · exact F.run A outer s H args us vs Q E hr he hb hv h
  · exact G.run A outer s H args us vs Q E hr he hb hv h
end
end L2

/-! GkLam -/
set_option Elab.async false
set_option Elab.async false
set_option linter.all false
set_option maxRecDepth 100000
set_option maxHeartbeats 2000000
/-! A lambda that goes through two defs. -/
namespace L2
open PySem PySem.Spec PyProof.Rows LamX
/-- the state descends from the one where the lambda was made -/
structure Desc (fs : List Addr) (H0 : Hp) (h0 : Heap) (outer : List Env) (H : Hp) (h : Heap) : Prop where
  fr : ∀ c ∈ frs outer, c ∈ fs ∨ h0.objs.size ≤ c
  un : Un fs [] H0 H h0 h
  sz : h0.objs.size ≤ h.objs.size
theorem Un.wide {fs fs' : List Addr} {H H1 H2 : Hp} {h h1 h2 : Heap} (a : Un fs [] H H1 h h1) (b : Un fs' [] H1 H2 h1 h2) (hf : ∀ c ∈ fs', c ∈ fs ∨ h.objs.size ≤ c) : Un fs [] H H2 h h2 where
  keep := fun c ob q n hc hx => b.keep c ob (a.keep c ob q n hc hx) (a.free c ob q n hx) (fun z => (hf c z).elim hc fun z => Nat.lt_irrefl _ (Nat.lt_of_lt_of_le (Heap.lt_size q) z)) hx
  slot := fun c ob q n hc hx => by
    obtain ⟨sl, e1⟩ := a.slot c ob q n hc hx
    by_cases hb : c ∈ fs'
    · obtain ⟨sl', e2⟩ := b.slot c _ e1 (a.free c ob q n hx) hb hx
      exact ⟨sl', e2⟩
    · exact ⟨sl, b.keep c _ e1 (a.free c ob q n hx) hb hx⟩
  free := fun c ob q n hx => by
    obtain ⟨o', e1⟩ := a.there c ob q hx
    exact b.free c o' e1 (a.free c ob q n hx) hx
  there := fun c ob q hx => by
    obtain ⟨o', e1⟩ := a.there c ob q hx
    exact b.there c o' e1 hx
  tups := fun c xs e => b.tups c xs (a.tups c xs e)
  frzs := fun c o u e => b.frzs c o u (a.frzs c o u e)
  tbls := fun c ps e => by
    obtain ⟨m, e1⟩ := a.tbls c ps e
    obtain ⟨m', e2⟩ := b.tbls c _ e1
    exact ⟨m ++ m', by rw [e2, Array.append_assoc]⟩
theorem Desc.go {fs : List Addr} {H0 H H1 : Hp} {h0 h h1 : Heap} {outer : List Env} (d : Desc fs H0 h0 outer H h) (b : Un (frs outer) [] H H1 h h1) (z : h.objs.size ≤ h1.objs.size) : Desc fs H0 h0 outer H1 h1 := ⟨d.fr, d.un.wide b d.fr, Nat.le_trans d.sz z⟩
/-- .. at a state within a def's body that was entered there, for the calls that it makes -/
theorem Desc.deep {fs : List Addr} {H0 H H1 : Hp} {h0 : Heap} {s s1 : Shared} {outer : List Env} {CX : CXT} {P : Program} {w : World} {K : PySem.W.Frag} {mg : Str → Option Value} {base : Heap} {N : List Str} {qual : Str} {scope : Scope} {f : Addr} {cd : Value} {A : Around} {E : XK} {pn pins : List (Addr × Obj)} {xe : Value → Shared → Prop} {σ : L2.St}
    (d : Desc fs H0 h0 outer H s.heap) (I : Inv ((cxOf CX P w K mg base N qual scope f cd A outer s H E).tr pn xe) pins σ H1 s1) : Desc fs H0 h0 (envOfC qual scope s.heap.objs.size f cd :: outer) H1 s1.heap := by
  have e := d.go I.base I.sz
  refine ⟨fun c hc => ?_, e.un, e.sz⟩
  obtain ⟨b, hb, q⟩ := List.mem_filterMap.mp hc
  rcases List.mem_cons.mp hb with rfl | hb
  · cases q
    exact .inr d.sz
  · exact d.fr c (List.mem_filterMap.mpr ⟨b, hb, q⟩)
theorem Desc.refl {H : Hp} {h : Heap} {outer : List Env} (k : ∀ b ∈ frs outer, ∃ o, h.get? b = some o) : Desc (frs outer) H h outer H h := ⟨fun _ h => .inl h, Un.kept fun _ _ e => e, Nat.le_refl _⟩
section
variable {X : Cx} {pins : List (Addr × Obj)} {σ : L2.St} {H HZ : Hp} {s s1 : Shared}
/-- x(), in a def at a state that descends from the lambda's making -/
theorem pe_act2 {CXg : CXT} {Eg : XK} {Ng : List Str} {qg : Str} {sg : Scope} {g f c' : Addr} {cdg pm ctv : Value} {params : Arguments} {body : Expr} {scope : Scope} {k i : Nat} {a : Str} {pn : List (Addr × Obj)} {xe : Value → Shared → Prop} {W : WX} {tb : XK → TE} {p1 p2 : Pos}
    {A' : Around} {outer' : List Env} {s' : Shared} {H' : Hp}
    (I : Inv X pins σ H s) (L : LamS X.env.scope scope) (hf : s.heap.get? f = some (PySem.W.kla_obj "<lambda>" (X.env.qual ++ "<lambda>") params body scope (cloFrom X.env.cells scope.names []) pm c' ctv)) (hfn : H f = none) (hfr : f ∉ frs X.stack)
    (D : Desc (frs X.stack) H s.heap outer' H' s'.heap)
    (hbind : bindArgs (PySem.W.kla_fn "<lambda>" (X.env.qual ++ "<lambda>") params body scope (cloFrom X.env.cells scope.names []) pm (.ref c') ctv) ⟨[], []⟩ = pure [])
    (tk : Takes ((cxOf CXg X.prog X.w X.K X.mg X.base Ng qg sg g cdg A' outer' s' H' Eg).tr pn xe) W) (hr : Room (k + 1) (A'.deeper (envOfC qg sg s'.heap.objs.size g cdg)))
    (hbody : ∀ (A : Around) (outer : List Env) (s : Shared) (H : Hp) (E : XK), Room k (A.deeper (lamEnv X scope s.heap.objs.size f c')) → PE (lamCx X A outer s H E scope f c') body (tb E))
    (hN : Ng[i]? = some a) (hv : Vis sg a) (hd : (a == ("__debug__" : Str)) = false := by decide) (hcd : (a == ("__classdict__" : Str)) = false := by decide) :
    PE ((cxOf CXg X.prog X.w X.K X.mg X.base Ng qg sg g cdg A' outer' s' H' Eg).tr pn xe) (.Call (.Name a p1) [] [] p2)
      (fun σZ HZ Q => σZ[i]? = some (some (.ref f)) ∧ HZ c' = some (CodeO c' (X.env.qual ++ "<lambda>")) ∧ ∃ E : XK, (∀ cls d H', E cls d H' → W cls d σZ H') ∧ tb E σ HZ Q) := by
  refine ⟨fun pinsZ sZ σZ HZ Q IZ h => ?_⟩
  obtain ⟨hs, hc, E, hW, ht⟩ := h
  refine wpAny_Call_Name_kw (thn ((pe_var (pos := p1) (i := i) hN hv hd hcd).run pinsZ sZ σZ HZ (fun v H1 => v = .ref f ∧ H1 = HZ) IZ ⟨.ref f, hs, rfl, rfl⟩) fun u s1 ⟨v, H1, I1, r1, q1⟩ => ?_)
  obtain ⟨ev, eH⟩ := q1
  subst ev
  rw [eH] at I1
  obtain rfl : u = Value.ref f := r1
  have un : Un (frs X.stack) [] H HZ s.heap s1.heap := (D.go I1.base I1.sz).un
  have of1 : s1.heap.get? f = some (PySem.W.kla_obj "<lambda>" (X.env.qual ++ "<lambda>") params body scope (cloFrom X.env.cells scope.names []) pm c' ctv) := un.keep f _ hf hfn hfr (fun z => nomatch (show f ∈ ([] : List Addr) from z))
  refine PySem.W.callWith_F0 ⟨_, _, _, _, of1⟩ ?_
  obtain ⟨⟨oc, vs, t, hoc, hdc, hvc⟩, _, _⟩ := I1.hok c' _ hc
  have rc : codeAny (model X.prog X.w) (A'.deeper (envOfC qg sg s'.heap.objs.size g cdg)) (.call (.ref f) ⟨[], []⟩) (CR (L2.CX X.prog X.w) (envOfC qg sg s'.heap.objs.size g cdg :: outer') X.prog X.w HZ s1 Q E) s1 := by
    refine PySem.W.kla_callFunE hr.depth of1 rfl L.co L.gen rfl ⟨c', oc, vs, t, rfl, hoc, hdc, hvc⟩ ?_
    rw [hbind]
    refine wpAny_pure (wpAny_newFunctionEnv (fun y hy => (L.own y hy).2) (fun y hy => absurd hy (by simp)) (fun h₁ hns hsb => ⟨I1.nolimit.fresh _ hsb, ?_⟩) L.kind)
    show codeAny _ _ (.expr body (lamEnv X scope s1.heap.objs.size f c')) _ _
    have kp : ∀ b o, s1.heap.get? b = some o → h₁.get? b = some o := fun b o e => hsb.extBut b o (Nat.ne_of_lt (Heap.lt_size e)) (Heap.get?_push_of_some _ e)
    have J : Inv (lamCx X (A'.deeper (envOfC qg sg s'.heap.objs.size g cdg)) (envOfC qg sg s'.heap.objs.size g cdg :: outer') s1 HZ E scope f c') [] σ HZ { s1 with heap := h₁, toks := s1.toks + ([] : List (Str × Value)).length } :=
      lam_start2 I L I1.env0 hr.hd un hns kp
    refine PySem.W.kla_codeExpr (wpAny_mono ((hbody _ _ s1 HZ E (hr.deeper _)).run [] _ _ HZ Q J ht) (fun v s' hq => ?_) fun e s' hq => hq)
    obtain ⟨w', H', J', rv, q⟩ := hq
    exact ⟨w', H', J'.os, J'.bare, J'.base, J'.hok, rv, q⟩
  have hx : PassesAt (L2.CX X.prog X.w) ((cxOf CXg X.prog X.w X.K X.mg X.base Ng qg sg g cdg A' outer' s' H' Eg).tr pn xe) σZ E := fun _ _ _ e s' I c => tk e s' (XE.of_call I (fun cls d H' h => hW cls d H' h) c)
  refine wpAny_call (codeAny_mono rc fun r s' hq => ?_)
  cases r with
  | error e => exact hx pinsZ HZ s1 e s' I1 hq
  | ok fl =>
    cases fl with
    | ret u => exact I1.after hq
    | next => exact False.elim hq
    | brk => exact False.elim hq
    | cont => exact False.elim hq
end
end L2

/-! GkTry3 -/
set_option Elab.async false
set_option Elab.async false
set_option linter.all false
set_option maxRecDepth 100000
set_option maxHeartbeats 2000000
/-! try .. except (A, B, C) as n: an exception of one of them comes. -/
namespace L2
open PySem PySem.Spec PyProof.Rows
/-- what the clause 'except (x, y, z) as n' wishes of an exception of the body, that is one of them -/
def wAs3 (K : PySem.W.Frag) (cs : List Value) (i : Nat) (ts : Addr → Value → Option Addr → TS) (D : Ends) : WX := fun cls d σ H =>
  PySem.W.exmAny K cls cs = some true ∧ ∀ a, H a = none → ts a cls d { nx := fun σ' H' => D.nx (σ'.set i none) H', rt := D.rt, bk := fun σ' H' => D.bk (σ'.set i none) H', ct := fun σ' H' => D.ct (σ'.set i none) H' } (σ.set i (some (.ref a))) H
theorem TracedZ.push {h base : Heap} {e : Addr} {Z : Obj → Prop} {fl : Value} (o : Obj) (t : HandSPX.TracedZ h base e Z fl) : HandSPX.TracedZ (h.push o) base e Z fl := by
  obtain ⟨oe, vs, T, oT, ts, h1, h2, h3, h4, h5, h6, h7, h8⟩ := t
  exact ⟨oe, vs, T, oT, ts, Heap.get?_push_of_some _ h1, h2, h3, h4, h5, h6, Heap.get?_push_of_some _ h7, h8⟩
theorem FlyingZ.push {base h : Heap} {l : List Env} {e : Addr} {Z : Obj → Prop} (o : Obj) (t : HandSPX.FlyingZ base l e Z h) : HandSPX.FlyingZ base l e Z (h.push o) :=
  ⟨fun b u q => Heap.get?_push_of_some _ (t.1 b u q), t.2.1, Heap.FunFrames.of_keeps (fun b u q _ => ⟨u, Heap.get?_push_of_some _ q, rfl⟩) t.2.2.1, TracedZ.push o t.2.2.2⟩
section
variable {X : Cx} {x y z n : Str} {c1 c2 c3 : Value} {i kk : Nat} {body suite : List Stmt} {b₀ : Stmt} {p1 p2 p3 np pos pos' : Pos} {tb : WX → TS} {ts : Addr → Value → Option Addr → TS}
theorem ps_try_as3 (hs : X.stack = X.env :: X.outer) (hf : X.env.frame = some X.env.locals) (hN : X.N.Nodup) (hi : X.N[i]? = some n) (hln : X.env.kindOf n = some .local) (k1 : Names X x c1) (k2 : Names X y c2) (k3 : Names X z c3)
    (hb : ∀ (W : WX) (pn : List (Addr × Obj)) (xe : Value → Shared → Prop), Takes (X.tr pn xe) W → PassesOwn (model X.prog X.w) X.A X.env xe → PSs (X.tr pn xe) body (tb W))
    (hsu : ∀ (a : Addr) (oe : Obj) (cls : Value) (d : Option Addr) (pn : List (Addr × Obj)), Zc cls d oe → (∃ vs, oe.data = .fields vs) → PSs (X.suite a ((a, oe) :: pn)) (b₀ :: suite) (ts a cls d)) :
    PS X (.Try body [.ExceptHandler (some (.Tuple [.Name x p1, .Name y p2, .Name z p3] kk np)) (some n) (b₀ :: suite) pos'] [] [] pos) (fun D σ H => tb (wAs3 X.K [c1, c2, c3] i ts D) D σ H) := by
  refine ⟨fun pins s σ H D I h => ?_⟩
  have ok := I.ok
  have hfr : X.A.frames = some (X.env :: X.outer) := by rw [ok.frames, hs]
  have hloc : Loc X.env.scope n := .inl hln
  refine wpAny_Try_except ?_
  refine wpAny_mono ((hb (wAs3 X.K [c1, c2, c3] i ts D) (X.pn ++ pins) (fun e s₁ => wpAny (model X.prog X.w) X.A (noteFrame e X.env) (fun _ s₂ => wpAny (model X.prog X.w) X.A (setFlight e none) (fun _ s₃ =>
    wpAny (model X.prog X.w) X.A (handleBy e X.env [.ExceptHandler (some (.Tuple [.Name x p1, .Name y p2, .Name z p3] kk np)) (some n) (b₀ :: suite) pos']) (SP X pins D) X.xe s₃) X.xe s₂) X.xe s₁) (fun u s' xx => ?_) PassesOwn.looking).run [] s σ H D (I.toTry _) h) (fun f s1 hsp => ?_) (fun e s1 he => he)
  · obtain ⟨a, B, sI, pins', σ', H', cls, d, rfl, J', nb, up, sky, na, os, ag, hb1, hyes⟩ := xx
    have J : Inv X pins σ' H' sI := J'.ofTry ok
    have sky' : Sky B (X.env :: X.outer) a (Zc cls d) X.env.locals s'.heap := by rw [← hs]; exact sky
    show wpAny (model X.prog X.w) X.A (noteFrame (.ref a) X.env) _ _ _
    refine Sky.land Zc.steady hfr hf sky' fun h3 fl3 up3 => ?_
    have J3 : Inv X pins σ' H' { s' with heap := h3 } := J.landed nb fl3.1 (up.trans up3) os ag
    obtain ⟨oe3, vs3, he3, hz3, hd3⟩ := fl3.there
    have notFr : ∀ {h : Heap} {o : Obj} {vs : Array Value}, h.FunFrames B (X.env :: X.outer) → h.get? a = some o → o.data = .fields vs → a ∉ frs (X.env :: X.outer) := fun {h o vs} ff e dd hm => by
      obtain ⟨_, o', e', hnf⟩ := ff.mem hm
      rw [e] at e'; cases e'
      exact hnf _ dd
    have nfr := notFr fl3.2.2.1 he3 hd3
    have nL : a ≠ X.env.locals := fun z => nfr (List.mem_filterMap.mpr ⟨X.env, List.mem_cons_self, by rw [hf, z]⟩)
    have nF : a ∉ X.fs := fun hm => by
      obtain ⟨e, he, q⟩ := List.mem_filterMap.mp hm
      exact nfr (List.mem_filterMap.mpr ⟨e, List.mem_cons_of_mem _ he, q⟩)
    have S3 := J3.suite he3 hd3 na nL nF
    refine wpAny_handleBy_cons (codeAny_handlers_test ?_) (by intro q; cases q)
    have test : ∀ {v : Str} {c : Value} {p : Pos} {Q : Value → Shared → Prop} {E : Value → Shared → Prop}, Names X v c → Q c { s' with heap := h3 } → wpAny (model X.prog X.w) (X.A.mark (some (.ref a))) (eval (.Name v p) X.env) Q E { s' with heap := h3 } := fun {v c p Q E} hc q => by
      obtain ⟨hg, hdbg, hm | ⟨hm, hv, hnn⟩⟩ := hc
      · exact ld_glob (X := X.suite a ((a, oe3) :: (X.pn ++ pins))) S3 hg hm q hdbg
      · exact ld_blt (X := X.suite a ((a, oe3) :: (X.pn ++ pins))) S3 hg hm hv q hnn hdbg
    refine wpAny_Tuple ?_
    refine wpAny_items_cons (test k1 ?_)
    refine wpAny_items_cons (test k2 ?_)
    refine wpAny_items_cons (test k3 ?_)
    refine wpAny_items_nil ⟨by size_fits, ?_⟩
    have kp : ∀ q o, h3.get? q = some o → (h3.push { cls := .type "tuple", data := .seq [c1, c2, c3].toArray }).get? q = some o := fun _ _ z => Heap.get?_push_of_some _ z
    have fl3' := FlyingZ.push { cls := .type "tuple", data := .seq [c1, c2, c3].toArray } fl3
    have up3' := up3.trans (Heap.UpToSlots.of_keeps kp)
    have LT : PySem.W.Looks (model X.prog X.w) h3 (typeOf (.ref a)) cls := fun A Q E s k q => wpAny_typeOf_ref (k _ _ he3) (by rw [hz3.1]; exact q)
    refine (PySem.W.exm_tup3 (M := model X.prog X.w) (J3.kIn.keeps kp) (LT.keeps kp) (Heap.get?_push_size h3 rfl) hb1).here ?_
    refine codeAny_handlers_suite_as ?_
    refine HandSPX.lands_againZ fl3' fun h4 fl4 up4 => ?_
    have J4 : Inv X pins σ' H' { s' with heap := h4 } := J.landed nb fl4.1 ((up.trans up3').trans up4) os ag
    obtain ⟨oe4, vs4, he4, hz4, hd4⟩ := fl4.there
    have S4 := J4.suite he4 hd4 na nL nF
    refine store_ok (X := X.suite a ((a, oe4) :: (X.pn ++ pins))) (v := .ref a) S4 hN hi hloc rfl (fun s5 S5 => ?_) (.inr hln)
    refine wpAny_mono ((hsu a oe4 cls d (X.pn ++ pins) hz4 ⟨_, hd4⟩).run [] s5 _ H' _ S5 (hyes a na)) (fun f s6 hsp => ?_) (fun _ _ z => False.elim z)
    have end_ : ∀ {σ6 : St} {H6 : Hp} {Q : Shared → Prop}, Inv (X.suite a ((a, oe4) :: (X.pn ++ pins))) [] σ6 H6 s6 → (∀ s7, Inv X pins (σ6.set i none) H6 s7 → Q s7) →
        wpAny (model X.prog X.w) X.A (do bindName X.env n .none; unbindBehindTheSuite X.env n pos') (fun _ s7 => Q s7) X.xe s6 := fun {σ6 H6 Q} S6 hq => gone_ok (S6.unsuite ok) hN hi hln hq
    cases f with
    | next =>
      obtain ⟨σ6, H6, S6, q6⟩ := hsp
      exact end_ S6 fun s7 J7 => ⟨_, _, J7, q6⟩
    | brk =>
      obtain ⟨σ6, H6, S6, q6⟩ := hsp
      exact end_ S6 fun s7 J7 => ⟨_, _, J7, q6⟩
    | cont =>
      obtain ⟨σ6, H6, S6, q6⟩ := hsp
      exact end_ S6 fun s7 J7 => ⟨_, _, J7, q6⟩
    | ret u =>
      obtain ⟨v6, σ6, H6, S6, r6, q6⟩ := hsp
      exact end_ S6 fun s7 J7 => ⟨_, _, _, J7, r6, q6⟩
  · cases f with
    | next =>
      obtain ⟨σ', H', J', q⟩ := hsp
      exact wpAny_execs_nil ⟨σ', H', J'.ofTry ok, q⟩
    | brk =>
      obtain ⟨σ', H', J', q⟩ := hsp
      exact ⟨σ', H', J'.ofTry ok, q⟩
    | cont =>
      obtain ⟨σ', H', J', q⟩ := hsp
      exact ⟨σ', H', J'.ofTry ok, q⟩
    | ret u =>
      obtain ⟨v, σ', H', J', r, q⟩ := hsp
      exact ⟨v, σ', H', J'.ofTry ok, r, q⟩
end
end L2

/-! GkXis -/
set_option Elab.async false
set_option Elab.async false
set_option linter.all false
set_option maxRecDepth 100000
set_option maxHeartbeats 4000000
/-! isinstance and fields of an own error with fields, held by any context. -/
namespace PySem.W
open PySem PySem.Spec PySem.Calls PyProof.Rows
section
variable {prog : Program} {w : World} {A : Around} {E : Value → Shared → Prop} {s : Shared} {K : Frag} {x D : Addr} {ox : Obj} {od : Option Obj}
theorem findObj_dataO {C : Addr} {name : Str} {a g : Value} (hc : (clsIn K C).isSome = true) (ha : findIn K (.ref C) name = some (some a)) (hg : specialIn K a "__get__" = some (some g)) (ht : takesIn K a = some true) : findObj K C od name = some (.bind g a) := by
  obtain ⟨cd, hc⟩ := Option.isSome_iff_exists.mp hc
  unfold findObj
  rw [hc, Option.bind_some, ha, Option.bind_some]
  simp [hg, ht]
theorem kin_classO {Q : Option Value → Shared → Prop} (hga : findIn K (.ref D) "__getattribute__" = some (some (.builtin "BaseException.__getattribute__"))) (hgt : findIn K (.ref D) "__getattr__" = some none) (hsub : subIn K (.ref D) (.type "BaseException") = some true)
    (hdct : hasDictIn K D = true) (ha : findIn K (.ref D) "__class__" = some (some (.builtin "object.__class__")))
    (hn : specialIn K (.builtin "object.__class__") "__get__" = some (some (.builtin "getset_descriptor.__get__"))) (htk : takesIn K (.builtin "object.__class__") = some true) (hm : mroIn K D (.type "object") = some true)
    (X : K.In s.heap) (I : InstAt s.heap x ox D od) (h : Q (some (.ref D)) { s with toks := s.toks + 1 }) : wpAny (model prog w) A (getAttr? (.ref x) "__class__") Q E s := by
  have hf : findObj K D od "__class__" = some (.bind (.builtin "getset_descriptor.__get__") (.builtin "object.__class__")) := findObj_dataO (by obtain ⟨cd, hc, _⟩ := any_some hdct; rw [hc]; rfl) ha hn htk
  obtain ⟨hp, g, d, t, os⟩ := s
  have L0 := I.type (M := model prog w)
  have L1 := looks_findIn (M := model prog w) X hga
  have L2 := looks_findIn (M := model prog w) X hgt
  have L3 := looks_find (M := model prog w) X I hf
  have sub : Looks (model prog w) hp (isInstance (.ref x) (.type "BaseException")) true := L0.andThen (looks_subIn X hsub)
  have hx0 : (false && onTheHeap (Value.builtin "BaseException.__getattribute__")) = false := rfl
  have hx2 : (Value.builtin "BaseException.__getattribute__" == Value.builtin "object.__getattribute__") = false := by decide +kernel
  have hx1 : (onTheHeap (Value.ref D) && Value.builtin "BaseException.__getattribute__" == Value.builtin "object.__getattribute__") = false := by rw [hx2]; rfl
  unfold getAttr? getAttrBy? getAttrBy
  refine wpAny_bind (wpAny_mkText (wpAny_bind (wpAny_attempt (wpAny_holding (wpAny_bind (L0.at (wpAny_bind (L1.at ?_))))))))
  show wpAny _ _ (if (onTheHeap (Value.ref D) && Value.builtin "BaseException.__getattribute__" == Value.builtin "object.__getattribute__") = true then _ else _) _ _ _
  rw [hx1, if_neg Bool.false_ne_true]
  unfold getAttrByItsOwn hookBefore
  refine wpAny_bind ?_
  rw [if_pos (show onTheHeap (Value.ref D) = true from rfl)]
  refine L2.at ?_
  refine wpAny_bind (wpAny_attempt (wpAny_holding ?_))
  unfold callGetattribute
  rw [hx0, if_neg Bool.false_ne_true]
  unfold boundAndCalled
  rw [PySem.F.excAttr_ValueError.ga.bind (.ref x)]
  refine wpAny_bind (wpAny_pure ?_)
  show wpAny _ _ (call (.builtin "BaseException.__getattribute__") [.ref x, .str "__class__" t]) _ _ _
  refine wpAny_call (codeAny_call_builtin PySem.F.excAttr_ValueError.ga.plain PySem.F.entry_bexc_ga ?_)
  refine @check_slot (model prog w) _ _ ⟨hp, g, d, t + 1, os⟩ "BaseException.__getattribute__" "BaseException" "__getattribute__" (.ref x) [.str "__class__" t] [] _ (by decide +kernel) (by decide +kernel) sub (PySem.F.args_bexc_ga (.ref x) (.str "__class__" t)) ?_
  unfold Builtin.«object.__getattribute__»
  refine wpAny_bind (wpAny_of_eq (a := ((Value.ref x : Value), [Value.str "__class__" t])) (by first | rfl | (simp only [slotArgs]; rfl)) ?_)
  refine wpAny_bind (wpAny_pure (wpAny_bind (L0.at (wpAny_bind (L3.at ?_)))))
  show wpAny _ _ (holding [Value.builtin "object.__class__"] (call (.builtin "getset_descriptor.__get__") [.builtin "object.__class__", .ref x, .ref D]) >>= ret) _ _ _
  refine wpAny_bind (wpAny_holding (wpAny_call (class_get (s := ⟨hp, g, d, t + 1, os⟩) (ox := ox) (od := od) X I hm ?_)))
  refine wpAny_pure ?_
  show wpAny _ _ (handedOut (.ref D)) _ _ _
  rw [handedOut_of (v := .ref D) rfl]
  first
    | exact wpAny_pure (wpAny_pure h)
    | exact wpAny_pure h
    | exact wpAny_pure (wpAny_bind (wpAny_pure (wpAny_pure h)))
theorem kitx_excO (hga : findIn K (.ref D) "__getattribute__" = some (some (.builtin "BaseException.__getattribute__"))) (hgt : findIn K (.ref D) "__getattr__" = some none) (hsub : subIn K (.ref D) (.type "BaseException") = some true) (hdct : hasDictIn K D = true) (ha : findIn K (.ref D) "__class__" = some (some (.builtin "object.__class__")))
    (hn : specialIn K (.builtin "object.__class__") "__get__" = some (some (.builtin "getset_descriptor.__get__"))) (htk : takesIn K (.builtin "object.__class__") = some true) (hm : mroIn K D (.type "object") = some true) :
    KitX K (.ref x) (.ref D) (fun h => InstAt h x ox D od) where
  ty := fun _ _ _ I => I.type
  it := fun _ _ X _ => by
    obtain ⟨cdD, hcD, _⟩ := any_some hdct
    unfold clsIn at hcD
    split at hcD
    · rename_i c' d' cd' sl' ho
      intro A' Q' E' s' k q
      unfold isType loadHead
      exact wpAny_bind (wpAny_loadPart (k _ _ (X _ _ ho)) (wpAny_pure q))
    · cases hcD
  ne := fun h tp dd its n sl X htp => by
    obtain ⟨cdD, hcD, _⟩ := any_some hdct
    refine Bool.eq_false_iff.mpr fun q => ?_
    have e : D = tp := Value.ref.inj (beq_iff_eq.mp q)
    subst e
    unfold clsIn at hcD
    split at hcD
    · rename_i c' d' cd' sl' ho
      have z := (X _ _ ho).symm.trans htp
      cases z
    · cases hcD
  ca := fun X I k => kin_classO hga hgt hsub hdct ha hn htk hm X I k
end
end PySem.W
namespace L2
open PySem PySem.Spec PyProof.Rows
/-- isinstance(e, c), where e is an own error with a dict that the context pins -/
theorem call_isO {X : Cx} {a D dd : Addr} {oe : Obj} (C : ExcC X.K D) (hp : (a, oe) ∈ X.pn) (hz : Zc (.ref D) (some dd) oe) (hf : ∃ vs, oe.data = .fields vs) :
    CallR X (.builtin "isinstance") (fun xs H Q => (∃ fs, H dd = some (.xd fs)) ∧ rIsE X.K D a xs H Q) := by
  intro pins s σ H xs us Q I r h
  obtain ⟨⟨fs, ea⟩, c, cv, b, rfl, hcv, e, q⟩ := h
  cases r with
  | cons rx rr =>
    cases rr with
    | cons rt rr =>
      cases rr
      cases rx
      have ec := hcv _ rt
      subst ec
      obtain ⟨hget, _⟩ := I.pin (a, oe) (List.mem_append.mpr (.inl hp))
      obtain ⟨vs, hd⟩ := hf
      have hx : ObjOk X.prog X.w H s.heap dd (.xd fs) := I.hok dd _ ea
      obtain ⟨mA, hns, hr⟩ := hx
      obtain ⟨od, ho, hl⟩ := lookIn_ns hns
      have J : PySem.W.InstAt s.heap a oe D (some od) := ⟨hget, hz.1, by unfold PySem.W.notCls; rw [hd] <;> rfl, by rw [hz.2]; exact ho⟩
      exact PySem.W.kia_one (PySem.W.kitx_excO C.hg C.hk C.hs C.hd C.ha C.hn C.ht C.hm) I.kIn J e (fun z => nomatch z) fun tk => ⟨.bl b, H, I.kept (t' := tk) fun _ _ z => z, rfl, q⟩
/-- e.f there -/
theorem pe_xfO {X : Cx} {a C : Addr} {oe : Obj} {dd : Addr} {e : Expr} {te : TE} {pos : Pos} {n : Str} (T : XfC X.K C) (hno : PySem.W.findIn X.K (.ref C) n = some none) (hp : (a, oe) ∈ X.pn)
    (hz : Zc (.ref C) (some dd) oe) (hf : ∃ vs, oe.data = .fields vs) (he : PE X e te) (hb : attributeBase e n X.env (eval e X.env) = eval e X.env := by rfl) :
    PE X (.Attribute e n pos) (tXf a (.ref C) (some dd) C n te) := by
  refine ⟨fun pins s σ H Q I h => ?_⟩
  refine attr_of hb (thn (he.run pins s σ H _ I h) fun u s1 hh => ?_)
  obtain ⟨x, H1, I1, rx, ex, ec, d1, fs, v, ed, ea, l, q⟩ := hh
  subst ex
  obtain rfl : u = Value.ref a := rx
  cases ed
  obtain ⟨ha, _⟩ := I1.pin (a, oe) (List.mem_append_left _ hp)
  obtain ⟨vs, hd⟩ := hf
  have hx : ObjOk X.prog X.w H1 s1.heap dd (.xd fs) := I1.hok dd _ ea
  obtain ⟨mA, hns, hr⟩ := hx
  obtain ⟨od, ho, hl⟩ := lookIn_ns hns
  obtain ⟨u, hu, ru⟩ := RelO.some_of (v := v) (o := mA n) (by rw [← l]; exact hr n)
  have J : PySem.W.InstAt s1.heap a oe C (some od) := ⟨ha, hz.1, by unfold PySem.W.notCls; rw [hd] <;> rfl, by rw [hz.2]; exact ho⟩
  exact HandSPX.exc_get I1.kIn J T.ga T.gg T.exC (PySem.W.findObj_own T.hdC hno rfl (by rw [hl, hu])) (handed_of ru) ⟨v, H1, I1.tok _, ru, q⟩
end L2

/-! GkHot -/
set_option Elab.async false
set_option Elab.async false
set_option linter.all false
set_option maxRecDepth 100000
set_option maxHeartbeats 2000000
/-! a def called in an except suite, its promise told of the very state and the pinned error. -/
namespace L2
open PySem PySem.Spec PyProof.Rows L2H
theorem run_ofH {CX : CXT} {P : Program} {w : World} {K : PySem.W.Frag} {mg : Str → Option Value} {base : Heap} {k : Nat} {f : Addr} {name qual : Str} {params : Arguments} {body : List Stmt} {scope : Scope} {dV kV doc pm cdv ct oc : Value} {an od : Option Addr}
    {osl : Array (Option Value)} {N ps : List Str} (lk : K.lookup f = some ⟨oc, od, .func (PySem.W.fnOf name qual params body scope dV kV doc pm an cdv ct), osl⟩) (hcd : PySem.W.codeIn K cdv qual = true) (S : FnScope N ps scope)
    {A : Around} {outer : List Env} {s : Shared} {H : Hp} {args : Args} {us : List Value} {vs : List V} {Q : VK} {E : XK} {p : Addr × Obj} (hr : RoomH (k + 1) A) (hpin : PinOk outer H s p) (e0 : Env0 P w K mg base A outer s H)
    (hb : BindsTo s (PySem.W.fnOf name qual params body scope dV kV doc pm an cdv ct) args (ps.zip us)) (r : Vals vs us) (hl : vs.length = ps.length)
    (hbody : RoomH k (A.deeper (envOfC qual scope s.heap.objs.size f cdv)) → ∃ t, PSs (cxH CX P w K mg base N qual scope f cdv A outer s H E p) body t ∧ t { nx := fun _ H' => Q .non H', rt := Q } (L2.start N vs) H) :
    codeAny (model P w) A (.call (.ref f) args) (CR CX outer P w H s Q E) s := by
  have KX : K.In s.heap := e0.mod.kin.keeps fun b o e => (e0.bs b o e).1
  have lim : s.heap.NoLimit := e0.mod.nolimit.keeps fun b o e => (e0.bs b o e).1
  have hkind : ∀ y ∈ ps.zip us, scope.names.lookup y.1 = some .local ∨ (scope.names.lookup y.1 = some .cell ∧ ((cellsFrom (s.heap.objs.size + 1) scope.names []).lookup y.1).isSome = true) := fun ⟨n, v⟩ hy => by
    rcases S.par n (List.of_mem_zip hy).1 with q | q
    · exact .inl q
    · exact .inr ⟨q, PySem.W.cellsFrom_some _ _ _ (.inl q)⟩
  refine codeAny_call_function hr.depth (KX _ _ lk) rfl S.co S.gen rfl (PySem.W.codeRec_of KX hcd) (hb _ _ _ _ ?_)
  refine wpAny_newFunctionEnv_cells S.kind hkind fun env he s1 x => ?_
  subst he
  refine ⟨lim.keeps x.toInCall.keep, codeAny_func ?_⟩
  obtain ⟨t, ht, hq⟩ := hbody (hr.deeper _)
  have I : Inv (cxH CX P w K mg base N qual scope f cdv A outer s H E p) [] (L2.start N vs) H s1 := inv_startH S hpin e0 hl r x
  refine wpAny_mono (ht.run [] s1 (L2.start N vs) H _ I hq) (fun fl s' hs => ?_) fun e s' hs => hs
  have fin : ∀ {σ' : L2.St} {H' : Hp} {v : V} {u : Value}, Inv (cxH CX P w K mg base N qual scope f cdv A outer s H E p) [] σ' H' s' → RelV v u → Q v H' → CE outer P w H s Q u s' :=
    fun {σ' H' v u} J rv q => ⟨v, H', J.os, J.bare, J.base, J.hok, rv, q⟩
  cases fl with
  | ret u =>
    obtain ⟨v, σ', H', J, rv, q⟩ := hs
    exact fin J rv q
  | next =>
    obtain ⟨σ', H', J, q⟩ := hs
    exact fin (v := V.non) (u := Value.none) J rfl q
  | brk =>
    obtain ⟨_, _, _, q⟩ := hs
    exact False.elim q
  | cont =>
    obtain ⟨_, _, _, q⟩ := hs
    exact False.elim q
section
variable {X : Cx} {x : Str} {f a : Addr} {k : Nat}
/-- x(e) in the suite of the error a: the def's body at its very state -/
theorem pe_callO {CX : CXT} {name qual : Str} {params : Arguments} {body : List Stmt} {scope : Scope} {dV kV doc pm cdv ct oc : Value} {an od : Option Addr} {osl : Array (Option Value)} {N : List Str} {pa : Str} {oe : Obj} {pn : List (Addr × Obj)} {e : Expr} {t : TA} {q pos : Pos}
    {tb : XK → VK → Hp → Prop} {E : XK}
    (lk : X.K.lookup f = some ⟨oc, od, .func (PySem.W.fnOf name qual params body scope dV kV doc pm an cdv ct), osl⟩) (hcd : PySem.W.codeIn X.K cdv qual = true) (S : FnScope N [pa] scope)
    (hr : RoomH (k + 1) (X.suite a ((a, oe) :: pn)).A) (hg : Gl X x) (hm : X.mg x = some (.ref f)) (hk : PySem.W.keepIn X.K (.ref f) = true) (hb : Binds X.K (PySem.W.fnOf name qual params body scope dV kV doc pm an cdv ct) [pa] [])
    (hx : Passes CX (X.suite a ((a, oe) :: pn)) E) (ha : PA (X.suite a ((a, oe) :: pn)) [e] t)
    (hbody : ∀ (A : Around) (outer : List Env) (s : Shared) (H : Hp) (Q : VK), RoomH k (A.deeper (envOfC qual scope s.heap.objs.size f cdv)) → tb E Q H →
      ∃ t, PSs (cxH CX X.prog X.w X.K X.mg X.base N qual scope f cdv A outer s H E (a, oe)) body t ∧ t { nx := fun _ H' => Q .non H', rt := Q } (L2.start N [.ref a]) H)
    (hdb : (x == ("__debug__" : Str)) = false := by decide) (hst : starEach [e] (X.suite a ((a, oe) :: pn)).env = (false, eval e (X.suite a ((a, oe) :: pn)).env) :: starEach [] (X.suite a ((a, oe) :: pn)).env := by rfl) (hpl : (backTo pos (starEach [] (X.suite a ((a, oe) :: pn)).env)).any (·.1) = false := by rfl) :
    PE (X.suite a ((a, oe) :: pn)) (.Call (.Name x q) [e] [] pos) (fun σ H Q => t σ H fun vs H1 => vs = [.ref a] ∧ tb E Q H1) := by
  refine ⟨fun pins s σ H Q I h => ?_⟩
  refine wpAny_Call_Name_kw (ld_glob I hg hm ?_ hdb)
  refine PySem.W.callWith_K (h₀ := X.base) I.ok.mod.kin hk (thn (ha.run pos pins s σ H _ I h) fun us s1 ⟨vs, H1, I1, r, ev, q⟩ => ⟨I1.kIn, ?_⟩) hst hpl
  subst ev
  have hl : us.length = [pa].length := by rw [← r.length]; rfl
  have b := hb s1 us I1.kIn (by rw [List.append_nil]; exact hl)
  rw [List.append_nil] at b
  have P1 := I1.pin (a, oe) (List.mem_append_left _ List.mem_cons_self)
  have hpin : PinOk (X.suite a ((a, oe) :: pn)).stack H1 s1 (a, oe) := ⟨P1.1, P1.2.1, fun hm => (List.mem_cons.mp (I1.stkSub a hm)).elim P1.2.2.1 P1.2.2.2.1, P1.2.2.2.2⟩
  refine wpAny_call (codeAny_mono (run_ofH (N := N) (ps := [pa]) (us := us) (vs := [.ref a]) (Q := Q) (E := E) lk hcd S hr hpin I1.env0 b r rfl fun hr' => hbody _ _ s1 H1 Q hr' q) fun r s' hq => ?_)
  cases r with
  | error e => exact hx pins σ H1 s1 e s' I1 hq
  | ok fl =>
    cases fl with
    | ret u => exact I1.after hq
    | next => exact False.elim hq
    | brk => exact False.elim hq
    | cont => exact False.elim hq
end
end L2

/-! GkLamC -/
set_option Elab.async false
set_option Elab.async false
set_option linter.all false
set_option maxRecDepth 100000
set_option maxHeartbeats 2000000
/-! x(lambda: body, e): the def x hands the lambda on. -/
namespace L2
open PySem PySem.Spec PyProof.Rows LamX
/-- the lambda f, made at s, can be called from any def at a state that descends from s -/
def Act (X : Cx) (H : Hp) (s : Shared) (f c' : Addr) (q : Str) (tl : XK → Hp → VK → Prop) (k : Nat) : Prop :=
  ∀ (CXg : CXT) (Eg : XK) (Ng : List Str) (qg : Str) (sg : Scope) (g : Addr) (cdg : Value) (A' : Around) (outer' : List Env) (s' : Shared) (H' : Hp) (pn : List (Addr × Obj)) (xe : Value → Shared → Prop) (W : WX) (a : Str) (i : Nat) (p1 p2 : Pos),
    Desc (frs X.stack) H s.heap outer' H' s'.heap → Takes ((cxOf CXg X.prog X.w X.K X.mg X.base Ng qg sg g cdg A' outer' s' H' Eg).tr pn xe) W → Room (k + 1) (A'.deeper (envOfC qg sg s'.heap.objs.size g cdg)) →
    Ng[i]? = some a → Vis sg a → (a == ("__debug__" : Str)) = false → (a == ("__classdict__" : Str)) = false →
    PE ((cxOf CXg X.prog X.w X.K X.mg X.base Ng qg sg g cdg A' outer' s' H' Eg).tr pn xe) (.Call (.Name a p1) [] [] p2) (fun σZ HZ Q => σZ[i]? = some (some (.ref f)) ∧ HZ c' = some (CodeO c' q) ∧ ∃ E : XK, (∀ cls d H', E cls d H' → W cls d σZ H') ∧ tl E HZ Q)
/-- the reading: the lambda is made, then e is read, then the def goes on -/
def tLam2 (T : List (Addr × Str)) (q : Str) (t : XK → TE) (te : TE) (TT : (XK → Hp → VK → Prop) → V → Hp → VK → Prop) : TE := fun σ H Q => Tabs T H ∧ ∀ H1 c', ExtN H H1 → Tabs T H1 → H1 c' = some (CodeO c' q) →
  te σ H1 fun v H2 => H2 c' = some (CodeO c' q) ∧ TT (fun E H' Q' => t E σ H' Q') v H2 Q
section
variable {X : Cx}
theorem pe_lamcall2 {T : List (Addr × Str)} {TT : (XK → Hp → VK → Prop) → V → Hp → VK → Prop} {x : Str} {g c P : Addr} {k : Nat} {params : Arguments} {body e : Expr} {te : TE} {scope : Scope} {t : XK → TE} {p lpos pos : Pos} (hs : X.stack = X.env :: X.outer) (hfm : X.env.frame = some X.env.locals) (hg : Gl X x) (hm : X.mg x = some (.ref g)) (hk : PySem.W.keepIn X.K (.ref g) = true)
    (hG : ∀ (f c' : Addr) (s : Shared) (H : Hp) (u : Value) (v : V) (Q : VK) (tl : XK → Hp → VK → Prop), Act X H s f c' (X.env.qual ++ "<lambda>") tl k → Env0 X.prog X.w X.K X.mg X.base X.A X.stack s H → L2.RelV v u → H c' = some (CodeO c' (X.env.qual ++ "<lambda>")) → TT tl v H Q →
      codeAny (model X.prog X.w) X.A (.call (.ref g) ⟨[.ref f, u], []⟩) (CR C8.CX0 X.stack X.prog X.w H s Q C8.E0) s)
    (TB : TabB X.base X.mg c P) (hcode : X.env.code = .ref c) (hmT : (P, X.env.qual ++ "<lambda>") ∈ T) (hu : ∀ p ∈ T, p.1 = P → p.2 = X.env.qual ++ "<lambda>") (L : LamS X.env.scope scope) (hdef : defaultsOf params X.env = ([], []))
    (hbind : ∀ (q : Str) (cl : List (Str × Addr)) (pm cv ctv : Value), bindArgs (PySem.W.kla_fn "<lambda>" q params body scope cl pm cv ctv) ⟨[], []⟩ = pure [])
    (hbody : ∀ (A : Around) (outer : List Env) (s : Shared) (H : Hp) (E : XK) (f c' : Addr), Room k (A.deeper (lamEnv X scope s.heap.objs.size f c')) → PE (lamCx X A outer s H E scope f c') body (t E)) (he : PE X e te)
    (hdb : (x == ("__debug__" : Str)) = false := by decide) (hst : starEach [e] X.env = (false, eval e X.env) :: starEach [] X.env := by rfl) (hpl : (backTo pos (starEach [e] X.env)).any (·.1) = false := by rfl) :
    PE X (.Call (.Name x p) [.Lambda params body scope lpos, e] [] pos) (tLam2 T (X.env.qual ++ "<lambda>") t te TT) := by
  refine ⟨fun pins s σ H Q I h => ?_⟩
  obtain ⟨hT, h⟩ := h
  refine wpAny_Call_Name_kw (ld_glob I hg hm ?_ hdb)
  refine PySem.W.callWith_K (h₀ := X.base) I.ok.mod.kin hk ?_ (by rfl) hpl
  show wpAny _ _ (spliced ((false, eval (.Lambda params body scope lpos) X.env) :: backTo pos (starEach [e] X.env))) _ _ s
  refine Calls.spliced_cons (lam_make2 I TB hcode hmT hu hT hdef (L.has I.ok) fun f c' pm' ctv H1 s' I1 eN T1 hf hfn hfr hco => ?_)
  rw [hst]
  have I1p : Inv X ((f, PySem.W.kla_obj "<lambda>" (X.env.qual ++ "<lambda>") params body scope (cloFrom X.env.cells scope.names []) pm' c' ctv) :: pins) σ H1 s' := by
    rw [hs] at hfr
    refine I1.pins_of fun p hp => ?_
    rcases List.mem_cons.mp hp with rfl | hp
    · exact ⟨hf, hfn, fun z => hfr (List.mem_filterMap.mpr ⟨X.env, List.mem_cons_self, hfm.trans (congrArg some z.symm)⟩), fun z => by
        obtain ⟨b, hb, q⟩ := List.mem_filterMap.mp z
        exact hfr (List.mem_filterMap.mpr ⟨b, List.mem_cons_of_mem _ hb, q⟩), fun v z => by cases z⟩
    · exact I1.pin p (List.mem_append_right _ hp)
  refine Calls.spliced_cons (thn (he.run _ s' σ H1 _ I1p (h H1 c' eN T1 hco)) fun u s2 ⟨v, H2, I2, r2, hco2, q2⟩ => ?_)
  refine Calls.spliced_nil ⟨I2.kIn, ?_⟩
  have hp2 := I2.pin (f, _) (List.mem_append_right _ List.mem_cons_self)
  have I3 : Inv X pins σ H2 s2 := I2.pins_of fun p hp => I2.pin p (List.mem_append_right _ (List.mem_cons_of_mem _ hp))
  refine wpAny_call (codeAny_mono (hG f c' s2 H2 u v Q (fun E H' Q' => t E σ H' Q') ?_ I3.env0 r2 hco2 q2) fun r s3 hq => ?_)
  · intro CXg Eg Ng qg sg g cdg A' outer' s' H' pn xe W a i p1 p2 D tk hr hN hv hd hcd
    exact pe_act2 I3 L hp2.1 hp2.2.1 hfr D (hbind _ _ _ _ _) tk hr (fun A outer s H E hr2 => hbody A outer s H E f c' hr2) hN hv hd hcd
  · cases r with
    | error e => exact (show False from hq).elim
    | ok fl =>
      cases fl with
      | ret u => exact I3.after hq
      | next => exact False.elim hq
      | brk => exact False.elim hq
      | cont => exact False.elim hq
/-- y(deed), in the body of a def that got the lambda, hands it on -/
theorem pe_hand {CXg : CXT} {Eg : XK} {Ng : List Str} {qg y : Str} {sg : Scope} {g g2 f c' : Addr} {cdg : Value} {a q : Str} {i k : Nat} {A' : Around} {outer' : List Env} {s0 s' : Shared} {H0 H' : Hp} {tl : XK → Hp → VK → Prop} {TT : (XK → Hp → VK → Prop) → Hp → VK → Prop} {p1 p2 pos : Pos}
    (act : Act X H0 s0 f c' q tl k) (D : Desc (frs X.stack) H0 s0.heap outer' H' s'.heap)
    (hg : Gl (cxOf CXg X.prog X.w X.K X.mg X.base Ng qg sg g cdg A' outer' s' H' Eg).nox y) (hm : X.mg y = some (.ref g2)) (hk : PySem.W.keepIn X.K (.ref g2) = true)
    (hG : ∀ (A2 : Around) (outer2 : List Env) (s2 : Shared) (H2 : Hp) (Q : VK), A2 = A'.deeper (envOfC qg sg s'.heap.objs.size g cdg) → Desc (frs X.stack) H0 s0.heap outer2 H2 s2.heap → Env0 X.prog X.w X.K X.mg X.base A2 outer2 s2 H2 → H2 c' = some (CodeO c' q) → TT tl H2 Q →
      codeAny (model X.prog X.w) A2 (.call (.ref g2) ⟨[.ref f], []⟩) (CR C8.CX0 outer2 X.prog X.w H2 s2 Q C8.E0) s2)
    (hN : Ng[i]? = some a) (hv : Vis sg a) (hd : (a == ("__debug__" : Str)) = false := by decide) (hcd : (a == ("__classdict__" : Str)) = false := by decide) (hdb : (y == ("__debug__" : Str)) = false := by decide) :
    PE (cxOf CXg X.prog X.w X.K X.mg X.base Ng qg sg g cdg A' outer' s' H' Eg).nox (.Call (.Name y p1) [.Name a p2] [] pos)
      (fun σ H Q => σ[i]? = some (some (.ref f)) ∧ H c' = some (CodeO c' q) ∧ TT tl H Q) := by
  refine ⟨fun pins s σ H Q I h => ?_⟩
  obtain ⟨hs, hc, ht⟩ := h
  refine wpAny_Call_Name_kw (ld_glob I hg hm ?_ hdb)
  refine PySem.W.callWith_K (h₀ := X.base) I.ok.mod.kin hk ?_ (by rfl) (by rfl)
  refine Calls.spliced_cons (thn ((pe_var (pos := p2) (i := i) hN hv hd hcd).run pins s σ H (fun v H1 => v = .ref f ∧ H1 = H) I ⟨.ref f, hs, rfl, rfl⟩) fun u s1 ⟨v, H1, I1, r1, q1⟩ => ?_)
  obtain ⟨ev, eH⟩ := q1
  subst ev
  rw [eH] at I1
  obtain rfl : u = Value.ref f := r1
  refine Calls.spliced_nil ⟨I1.kIn, ?_⟩
  refine wpAny_call (codeAny_mono (hG _ _ s1 H Q rfl (D.deep I1) I1.env0 hc ht) fun r s3 hq => ?_)
  cases r with
  | error e => exact (show False from hq).elim
  | ok fl =>
    cases fl with
    | ret u => exact I1.after hq
    | next => exact False.elim hq
    | brk => exact False.elim hq
    | cont => exact False.elim hq
end
end L2

/-! GkErr -/
set_option Elab.async false
set_option Elab.async false
set_option linter.all false
set_option maxRecDepth 100000
set_option maxHeartbeats 2000000
/-! Errors and lambdas by shapes. -/
namespace L2
open PySem PySem.Spec PyProof.Rows L2H LamX
theorem _root_.L2H.RoomH.units {k : Nat} {A : Around} (r : RoomH k A) : A.units + 64 < cLine := by have := r.un; omega
theorem pe_never {X : Cx} {e : Expr} : PE X e (fun _ _ _ => False) := ⟨fun _ _ _ _ _ _ h => h.elim⟩
/-- a def whose code object is at c -/
structure FunL (K : PySem.W.Frag) (x qual : Str) (st : Stmt) (f : Addr) (fd : FuncData) (c : Addr) : Prop where
  ex : ∃ (oc : Value) (od : Option Addr) (kV doc pm : Value) (an : Option Addr) (ct : Value) (osl : Array (Option Value)),
    fd = PySem.W.fnOf x qual (defArgs st) (defBody st) (defScope st) .none kV doc pm an (.ref c) ct ∧ K.lookup f = some ⟨oc, od, .func fd, osl⟩ ∧ PySem.W.codeIn K (.ref c) qual = true
  kp : PySem.W.keepIn K (.ref f) = true
section
variable {P : Program} {w : World} {K : PySem.W.Frag} {mg : Str → Option Value} {base : Heap}
theorem FunL.fun {x qual : Str} {st : Stmt} {f c : Addr} {fd : FuncData} (F : FunL K x qual st f fd c) : Fun K x qual st f fd := by
  obtain ⟨oc, od, kV, doc, pm, an, ct, osl, e, lk, hcd⟩ := F.ex
  exact ⟨⟨oc, od, kV, doc, pm, an, .ref c, ct, osl, e, lk, hcd⟩, F.kp⟩
theorem FunL.ok {x qual : Str} {st : Stmt} {f c : Addr} {fd : FuncData} {N ps : List Str} {k : Nat} {sp : Sp} (F : FunL K x qual st f fd c) (S : FnScope N ps (defScope st)) (len : ∀ vs H Q E, sp vs H Q E → vs.length = ps.length)
    (hbody : ∀ (A : Around) (outer : List Env) (s : Shared) (H : Hp) (vs : List V) (Q : VK) (E : XK), Room k (A.deeper (envOfC qual (defScope st) s.heap.objs.size f (.ref c))) → sp vs H Q E →
      ∃ t, PSs (cxOf CX0 P w K mg base N qual (defScope st) f (.ref c) A outer s H E).nox (defBody st) t ∧ t { nx := fun _ H' => Q .non H', rt := Q } (start N vs) H) : FnOk P w K mg base CX0 (k + 1) f fd ps sp := by
  obtain ⟨oc, od, kV, doc, pm, an, ct, osl, rfl, lk, hcd⟩ := F.ex
  refine fn_of lk hcd S len fun A outer s H vs Q E hr hsp => ?_
  obtain ⟨t, h, q⟩ := hbody A outer s H vs Q E hr hsp
  exact ⟨t, h.nox, q⟩
end
/-- what is raised in a lambda's body is taken -/
theorem lamPass {X : Cx} {A : Around} {outer : List Env} {s : Shared} {H : Hp} {E : XK} {scope : Scope} {f c' : Addr} : Passes (L2.CX X.prog X.w) (lamCx X A outer s H E scope f c') E :=
  passes_call (takes_of (X := lamCx X A outer s H E scope f c') rfl rfl rfl rfl) fun _ _ _ _ h => h
end L2
namespace GS
open PySem PySem.Spec PyProof.Rows L2 L2H LamX
section
variable {P : Program} {w : World} {K : PySem.W.Frag} {mg : Str → Option Value} {base : Heap} {k : Nat}
theorem fun_okL {x qual : Str} {st : Stmt} {f c : Addr} {fd : FuncData} {N ps : List Str} {fs : Fs} (F : L2.FunL K x qual st f fd c) (S : FnScope N ps (defScope st)) (hl : ∀ M l S, fs M l S → l.length = ps.length)
    (hbody : ∀ (A : Around) (outer : List Env) (s : Shared) (H : Hp) (E : XK), Room k (A.deeper (envOfC qual (defScope st) s.heap.objs.size f (.ref c))) →
      ∃ ts, PSs (cxOf CX0 P w K mg base N qual (defScope st) f (.ref c) A outer s H E).nox (defBody st) ts ∧ ∀ M l S, fs M l S → Bd ⟨M, E, fun C g => S (.exc C g)⟩ ts (starts N l) ⟨fun r => S (.ret r), fun _ => S (.ret .non), fun _ => False, fun _ => False⟩) :
    FnOk P w K mg base CX0 (k + 1) f fd ps (SpS fs) :=
  L2.FunL.ok F S (SpS.len hl) fun A outer s H vs Q E hr h => by
    obtain ⟨ts, h1, h2⟩ := hbody A outer s H E hr
    exact ⟨ts, h1, h.body h2⟩
end
theorem St.extN {M : Mode} {H H1 : Hp} (st : St M H) (e : ExtN H H1) (t : Tabs M.tab H1) : St M H1 := by
  have n1 : ∀ {xs : List V} {ps : Array Value}, HO.lst xs ≠ .tbl ps := fun z => by cases z
  have cv : ∀ s v, Is M H s v → Is M H1 s v := fun s v i => i.conv (fun a o av nt q => ⟨av, e a o q nt⟩) rfl
  refine ⟨fun x hx ho => ?_, st.outh, t, fun p hp => ?_, st.nd⟩
  · obtain ⟨⟨c, a, b, d, e', q1, q2, q3, avc, h1, h2⟩, h3⟩ := st.bag x hx ho
    exact ⟨⟨c, a, b, d, e', q1, q2, q3, avc, e _ _ h1 fun _ => n1, e _ _ h2 fun _ => n1⟩, h3⟩
  · have h := st.held p hp
    revert h
    cases p.2 with
    | lst l => exact fun ⟨vs, z, i⟩ => ⟨vs, e _ _ z (fun _ => n1), i.conv cv⟩
    | ins C dx ns l => exact fun ⟨vs, z, i, n⟩ => ⟨vs, e _ _ z (fun _ z => by cases z), i.conv cv, n⟩
    | xd fs => exact fun z => e _ _ z (fun _ z => by cases z)
theorem St.av_code {M : Mode} {H : Hp} {c : Addr} {q : Str} (st : St M H) (hc : H c = some (CodeO c q)) : Av M c := by
  have held : ∀ p ∈ M.held, p.1 ≠ c := fun p hp z => by
    have h := st.held p hp
    rw [z] at h
    unfold CodeO at hc
    revert h
    cases p.2 with
    | lst l => rintro ⟨vs, e, _⟩; rw [hc] at e; cases e
    | ins C dx ns l => rintro ⟨vs, e, _⟩; rw [hc] at e; cases e
    | xd fs => intro e; have e : H c = some (.xd fs) := e; rw [hc] at e; cases e
  refine ⟨fun x hx z => ?_, held⟩
  cases ho : M.out with
  | false =>
    obtain ⟨⟨_, _, _, _, _, _, _, _, _, _, h2⟩, _⟩ := st.bag x hx ho
    rw [z] at h2
    unfold CodeO at hc
    rw [hc] at h2
    cases h2
  | true =>
    obtain ⟨p, hp, e⟩ := List.mem_map.mp (st.outh x hx ho)
    exact held p hp (e.trans z)
theorem noTbl_code {c : Addr} {q : Str} : NoTbl (CodeO c q) := fun ps z => by
  unfold CodeO at z
  cases z
/-- .. a def that gets a lambda, which raises g, and a due value -/
def TTf (Co : Addr) (g : List (Str × V)) (due : Sh) : (XK → Hp → VK → Prop) → V → Hp → VK → Prop := fun tl v H Q =>
  ∃ M, St M H ∧ Is M H due v ∧ (∀ E Q', Exc M H E Co g → tl E H Q') ∧ Ret M H Q (.bl true)
def TTt (Co : Addr) (g : List (Str × V)) (r : Sh) : (XK → Hp → VK → Prop) → Hp → VK → Prop := fun tl H Q =>
  ∃ M, St M H ∧ (∀ E Q', Exc M H E Co g → tl E H Q') ∧ Ret M H Q r
theorem ev_lam {j : J} {T : List (Addr × Str)} {q : Str} {t : XK → TE} {te : TE} {ss : SS} {qo : Sh → Prop} {Co : Addr} {g : List (Str × V)} {due : Sh} (hT : j.M.tab = T)
    (h : Ev j te ss fun x => x = due ∧ (∀ E, Ev ⟨j.M, E, fun C' g' => C' = Co ∧ g' = g⟩ (t E) ss fun _ => False) ∧ qo (.bl true)) : Ev j (tLam2 T q t te (TTf Co g due)) ss qo := fun σ H st xg se Q hQ => by
  subst hT
  refine ⟨st.tab, fun H1 c' eN T1 hc => ?_⟩
  have s0 : Step j.M H H1 := ⟨fun a o _ nt e => eN a o e nt, st.extN eN T1⟩
  refine h σ H1 s0.st (xg.step s0) (se.step s0) _ fun x ⟨hx, hl, hq⟩ v H2 s2 i2 => ⟨s2.keep c' _ (s0.st.av_code hc) noTbl_code hc, ?_⟩
  subst hx
  refine ⟨j.M, s2.st, i2, fun E Q' hE => ?_, (hQ _ hq).step (s0.trans s2)⟩
  exact hl E σ H2 s2.st (fun C' g' ⟨e1, e2⟩ => by subst e1; subst e2; exact hE) (se.step (s0.trans s2)) Q' fun r hr => hr.elim
theorem eg_unl {j : J} {K : PySem.W.Frag} {l : List Sh} {ss : SS} {qs : SS → Prop} {n : Nat} {gs : TGs} (hn : l.length = n) (h : Egs j gs l ss qs) : Eg j (gUnl K n gs) (.lst l) ss qs := fun v σ H st xg hx se Q hQ => by
  cases hx with
  | lst av ha hl => exact ⟨_, _, rfl, .inl (.inl ha), by rw [← hl.length, hn], h _ σ H st xg hl se Q hQ⟩
theorem ev_dnewK {j : J} {ss : SS} {q : Sh → Prop} (k : q .dct) : Ev j tDNewK ss q := fun σ H st xg se Q hQ => fun p hp => hQ _ k _ _ (.new st hp) (.dct (st.av hp) upd_same)
theorem ev_disp1 {j : J} {ss : SS} {q : Sh → Prop} {x : Str} {v : V} (k : q .dct) : Ev j (tDisp [(tC (.str x), tC v)]) ss q := fun σ H st xg se Q hQ => fun p hp => by
  refine ⟨upd_same, [(Sum.inr x, v)], rfl, (by decide : 1 ≤ 15), hQ _ k _ _ (Step.of st fun a o e => ?_) (.dct (st.av hp) upd_same)⟩
  rw [upd_ne (ne_of_none e hp), upd_ne (ne_of_none e hp)]
  exact e
/-! ### an error whose dict is held -/
section
variable {j : J} {K : PySem.W.Frag} {q : Sh → Prop} {te : TE} {ss : SS} {a D dd : Addr} {fs : List (Str × V)}
theorem en_isO (hd : (dd, Hk.xd fs) ∈ j.M.held) {c : V} {cv : Value} {b : Bool} (hcv : ∀ u, RelV c u → u = cv) (e : PySem.W.kitOne K (.ref D) cv = some b) (k : q (.bl b)) :
    En j (fun xs H Q => (∃ fs, H dd = some (.xd fs)) ∧ rIsE K D a xs H Q) [.v (.ref a), .v c] q := fun vs H st xg hl Q hQ => by
  cases hl with
  | cons x r =>
    cases r with
    | cons y r =>
      cases r
      cases x
      cases y
      exact ⟨⟨fs, st.held _ hd⟩, c, cv, b, rfl, hcv, e, (hQ _ k).of st (.v _)⟩
theorem ev_xf (hd : (dd, Hk.xd fs) ∈ j.M.held) {n : Str} {v : V} (hl : fs.lookup n = some v) (h : Ev j te ss fun x => x = .v (.ref a) ∧ q (.v v)) : Ev j (tXf a (.ref D) (some dd) D n te) ss q := fun σ H st xg se Q hQ =>
  h σ H st xg se _ fun x ⟨hx, hq⟩ u H1 s1 h1 => by
    subst hx
    cases h1
    exact ⟨rfl, rfl, dd, fs, v, rfl, s1.st.held _ hd, hl, hQ _ hq _ H1 s1 (.v _)⟩
/-- == and != of flat tuples -/
theorem IsL.dps {M : Mode} {H : Hp} : ∀ {l : List V} {vs : List V} {ds : List PyData}, IsL M H (l.map Sh.v) vs → (∀ H, DpAll K H l ds) → DpAll K H vs ds
  | [], _, _, .nil, h => h H
  | x :: l, _, ds, .cons (.v _) r, h => by
    have z := h H
    cases z with
    | cons z1 z2 => exact .cons z1 (r.dps fun H' => by cases h H' with | cons _ z => exact z)
theorem e2_neT {l l2 : List V} {ds es : List PyData} (h1 : ∀ H, DpAll K H l ds) (h2 : ∀ H, DpAll K H l2 es) (s1 : SeqAt.shaped (.tuple ds) = true) (s2 : SeqAt.shaped (.tuple es) = true) (k : q (.bl (!PyData.eqv (.tuple ds) (.tuple es)))) : E2 j (rNeD K) (.tup (l.map Sh.v)) (.tup (l2.map Sh.v)) q := fun v u H st xg i1 i2 Q hQ => by
  cases i1 with
  | tup av ha il =>
    cases i2 with
    | tup av2 ha2 il2 => exact ⟨_, _, .tup (.inl (.inl ha)) (il.dps h1), .tup (.inl (.inl ha2)) (il2.dps h2), s1, s2, (hQ _ k).of st (.v _)⟩
theorem em_countB {l : List Bool} {b : Bool} (k : q (.int ((l.countP fun z => z == b : Nat) : Int))) : Em j (rCount K) (.lst (l.map Sh.bl)) [.bl b] q := fun v vs H st xg h1 h2 Q hQ => by
  cases h1 with
  | lst av ha hl =>
    cases hl.of_bls
    cases h2 with
    | cons x r =>
      cases r
      cases x
      have e : (l.map V.bl).countP (fun z => eqV z (.bl b)) = l.countP fun z => z == b := by
        rw [List.countP_map]
        rfl
      refine ⟨_, _, _, rfl, rfl, .inl (.inl ha), rfl, ?_, ?_⟩
      · rw [List.all_map]
        exact List.all_eq_true.mpr fun _ _ => rfl
      · rw [e]
        exact (hQ _ k).of st (.v _)
theorem ev_bmL {r : V → List V → Hp → VK → Prop} {to : TE} {tA : TA} (h : Ev j to ss fun x => (∃ l, x = .lst l) ∧ Ea j tA ss fun l => Em j r x l q) : Ev j (tBM K "list" r to tA) ss q := fun σ H st xg se Q hQ =>
  h σ H st xg se _ fun x hx v H1 s1 h1 => by
    obtain ⟨⟨l, rfl⟩, hA⟩ := hx
    cases h1 with
    | lst av ha il =>
      refine ⟨.inl ⟨rfl, _, .inl (.inl ha)⟩, hA σ H1 s1.st (xg.step s1) (se.step s1) _ fun l2 hl2 vs H2 s2 i2 => ?_⟩
      exact hl2 _ vs H2 s2.st (xg.step (s1.trans s2)) ((Is.lst av ha il).step s2) i2 Q fun z hz => (hQ z hz).step (s1.trans s2)
theorem Ret.hold {M : Mode} {H : Hp} {Q : VK} {r : Sh} {dd : Addr} {fs : List (Str × V)} (h : Ret M H Q r) (av : Av M dd) (hd : H dd = some (.xd fs)) : Ret (M.hold dd (.xd fs)) H Q r := fun v H' s i =>
  h v H' ⟨fun a o ava nt e => by
    by_cases ea : a = dd
    · subst ea
      have z : H' a = some (.xd fs) := s.st.held (a, .xd fs) List.mem_cons_self
      rw [hd] at e
      rw [z, ← e]
    · exact s.keep a o (ava.to_hold ea) nt e, s.st.drop av⟩ (i.weak (M' := M.hold dd (.xd fs)) rfl fun a h => h.hold.1)
theorem em_indexB {l : List Bool} {b : Bool} (n : Nat) (h1 : l[n]? = some b) (h2 : ∀ m, m < n → l[m]? = some (!b)) (k : q (.int (n : Int))) : Em j (rIndex K) (.lst (l.map Sh.bl)) [.bl b] q := fun v vs H st xg i1 i2 Q hQ => by
  cases i1 with
  | lst av ha hl =>
    cases hl.of_bls
    cases i2 with
    | cons x r =>
      cases r
      cases x
      refine ⟨_, _, _, n, .bl b, rfl, rfl, .inl (.inl ha), rfl, ?_, by rw [List.getElem?_map, h1]; rfl, ?_, fun m z hm hz => ?_, (hQ _ k).of st (.v _)⟩
      · rw [List.all_map]
        exact List.all_eq_true.mpr fun _ _ => rfl
      · show (b == b) = true
        simp
      · rw [List.getElem?_map, h2 m hm] at hz
        cases hz
        show ((!b) == b) = false
        cases b <;> rfl
end
end GS

/-! K12P -/
set_option Elab.async false
set_option Elab.async false
set_option linter.all false
set_option maxRecDepth 100000
set_option maxHeartbeats 4000000
namespace KP
open PySem PySem.Spec PyProof.Rows L2 GM GS
local macro_rules | `(tactic| walk_at "sh") => `(tactic| repeat (first
  | ((with_reducible show GS.Ev _ _ _ _); first
    | with_reducible refine GS.ev_c ?_
    | ((with_reducible show GS.Ev _ (L2.tVar _) _ _); refine GS.ev_var rfl ?_)
    | with_reducible refine GS.ev_op ?_
    | with_reducible refine GS.ev_cb ?_
    | with_reducible refine GS.ev_un ?_
    | with_reducible refine GS.ev_tup ?_
    | with_reducible refine GS.ev_lst ?_
    | with_reducible refine GS.ev_if ?_
    | with_reducible refine GS.ev_andV ?_
    | with_reducible refine GS.ev_orV ?_
    | with_reducible refine GS.ev_notV ?_
    | with_reducible refine GS.ev_sl ?_
    | with_reducible refine GS.ev_fmtS ?_
    | with_reducible refine GS.ev_fmtL ?_
    | with_reducible refine GS.ev_joined ?_
    | with_reducible refine GS.ev_m1 ?_)
  | ((with_reducible show GS.E2 _ _ _ _ _); first
    | with_reducible refine GS.e2_I0 ?_
    | with_reducible refine GS.e2_I ?_
    | ((with_reducible refine GS.e2_eq ?_ ?_); exact rfl)
    | ((with_reducible refine GS.e2_ne ?_ ?_); exact rfl)
    | with_reducible refine GS.e2_isN ?_
    | with_reducible refine GS.e2_notN ?_
    | ((with_reducible show GS.E2 _ (L2.rIxL _) _ _ _); refine GS.e2_ixL rfl ?_)
    | ((with_reducible show GS.E2 _ (L2.rIxT _) _ _ _); refine GS.e2_ixT rfl ?_)
    | ((with_reducible show GS.E2 _ (L2.rIx _) (GS.Sh.lst _) _ _); refine GS.e2_ix_l rfl ?_)
    | ((with_reducible show GS.E2 _ (L2.rIx _) (GS.Sh.tup _) _ _); refine GS.e2_ix_t rfl ?_)
    | with_reducible refine GS.e2_cat ?_
    | with_reducible refine GS.e2_addS ?_
    | with_reducible refine GS.e2_inSign ?_)
  | ((with_reducible show GS.Ea _ _ _ _); first
    | with_reducible refine GS.ea_cons ?_
    | with_reducible refine GS.ea_nil ?_)
  | ((with_reducible show GS.Et _ _ _ _); first
    | with_reducible refine GS.et_B ?_
    | with_reducible refine GS.et_test ?_
    | with_reducible refine GS.et_not ?_
    | with_reducible refine GS.et_and ?_
    | with_reducible refine GS.et_or ?_
    | with_reducible refine GS.et_yes ?_
    | with_reducible refine GS.et_tru ?_)
  | ((with_reducible show GS.B _ _ _ _ _ _ _); first
    | with_reducible refine GS.b_seq ?_
    | with_reducible refine GS.b_if ?_
    | with_reducible refine GS.b_ret ?_
    | with_reducible refine GS.b_asg ?_
    | with_reducible refine GS.b_drop ?_
    | with_reducible refine GS.b_next ?_
    | with_reducible refine GS.b_par ?_
    | with_reducible refine GS.b_raise (fun _ => rfl) ?_)
  | with_reducible refine GS.eg_name ?_
  | with_reducible refine GS.egs_cons ?_
  | with_reducible refine GS.egs_nil ?_
  | ((with_reducible refine GS.eg_tup ?_ ?_); exact rfl)
  | with_reducible refine GS.e1_U ?_
  | ((with_reducible show GS.En _ _ _ _); first
    | with_reducible refine GS.en_len_l ?_
    | with_reducible refine GS.en_len_t ?_
    | with_reducible refine GS.en_len_str ?_
    | with_reducible refine GS.en_int ?_
    | with_reducible refine GS.en_bool ?_
    | with_reducible refine GS.en_abs ?_
    | with_reducible refine GS.en_str ?_
    | with_reducible refine GS.en_strL ?_
    | with_reducible refine GS.en_gcd ?_
    | with_reducible refine GS.en_list_l ?_
    | with_reducible refine GS.en_list_t ?_
    | with_reducible refine GS.en_tuple_l ?_)
  | with_reducible refine GS.ex_bl ?_
  | with_reducible refine GS.ex_str ?_
  | with_reducible refine GS.ex_int ?_
  | with_reducible refine GS.ex_v ?_
  | with_reducible refine GS.ex_two ?_
  | with_reducible refine GS.ex_lst ?_
  | with_reducible refine GS.ex_tup ?_
  | with_reducible refine GS.ex_lst1 ?_
  | with_reducible refine GS.ex_truS ?_
  | ((with_reducible show ∃ _, GS.TruS _ _ ∧ _); refine GS.ex_tru rfl ?_)
  | with_reducible refine GS.eo_no ?_
  | with_reducible refine GS.eo_yes ?_
  | with_reducible refine GS.e3_list ?_
  | with_reducible refine GS.e3_str ?_
  | with_reducible refine GS.ej_cons ?_
  | with_reducible refine GS.ej_nil ?_
  | with_reducible refine GS.em_split ?_
  | with_reducible refine GS.em_starts ?_
  | ((with_reducible show GS.Ei _ _ _ _); first
    | with_reducible refine GS.ei_list ?_
    | with_reducible refine GS.ei_tup ?_
    | with_reducible refine GS.ei_str ?_
    | with_reducible refine GS.ei_enum ?_
    | with_reducible refine GS.ei_zip ?_
    | with_reducible refine GS.ei_range1 ?_
    | with_reducible refine GS.ei_range2 ?_)
  | ((with_reducible show _ ∧ _); first
    | ((with_reducible refine And.intro ?_ ?_); (with_reducible assumption))
    | ((with_reducible refine GS.sz_and ?_ ?_); exact rfl)
    | ((with_reducible refine GS.cnd_t ?_ ?_); exact rfl)
    | ((with_reducible refine GS.cnd_f ?_ ?_); exact rfl))))

def top (i : Nat) : Stmt := PySem.Challenge.pw_glintkinds_k12_ratios_by_every_road.main.body.getD i (.Pass ⟨0, 0, 0, 0⟩)
abbrev s_integral : Stmt := top 4
theorem sc_integral : FnScope ["value"] ["value"] (defScope s_integral) := ⟨rfl, rfl, rfl, by decide +kernel, rfl, by decide +kernel, by decide +kernel⟩
abbrev s_is_digits : Stmt := top 5
theorem sc_is_digits : FnScope ["word", "sign"] ["word"] (defScope s_is_digits) := ⟨rfl, rfl, rfl, by decide +kernel, rfl, by decide +kernel, by decide +kernel⟩
abbrev s_integer_of : Stmt := top 6
theorem sc_integer_of : FnScope ["word", "negative", "digits"] ["word"] (defScope s_integer_of) := ⟨rfl, rfl, rfl, by decide +kernel, rfl, by decide +kernel, by decide +kernel⟩
abbrev s_fraction_of : Stmt := top 7
theorem sc_fraction_of : FnScope ["word", "parts", "top", "bottom"] ["word"] (defScope s_fraction_of) := ⟨rfl, rfl, rfl, by decide +kernel, rfl, by decide +kernel, by decide +kernel⟩
abbrev s_Ratio___init__ : Stmt := inClass (top 23) 0
theorem sc_Ratio___init__ : FnScope ["self", "top", "bottom", "common"] ["self", "top", "bottom"] (defScope s_Ratio___init__) := ⟨rfl, rfl, rfl, by decide +kernel, rfl, by decide +kernel, by decide +kernel⟩
abbrev s_Ratio_text : Stmt := inClass (top 23) 1
theorem sc_Ratio_text : FnScope ["self"] ["self"] (defScope s_Ratio_text) := ⟨rfl, rfl, rfl, by decide +kernel, rfl, by decide +kernel, by decide +kernel⟩
abbrev s_Ratio_read : Stmt := inClass (top 23) 2
theorem sc_Ratio_read : FnScope ["text", "parts"] ["text"] (defScope s_Ratio_read) := ⟨rfl, rfl, rfl, by decide +kernel, rfl, by decide +kernel, by decide +kernel⟩
abbrev s_Ratio_over : Stmt := inClass (top 23) 3
theorem sc_Ratio_over : FnScope ["self", "other", "parts"] ["self", "other"] (defScope s_Ratio_over) := ⟨rfl, rfl, rfl, by decide +kernel, rfl, by decide +kernel, by decide +kernel⟩
abbrev s_Ratio_below : Stmt := inClass (top 23) 4
theorem sc_Ratio_below : FnScope ["self", "other", "parts"] ["self", "other"] (defScope s_Ratio_below) := ⟨rfl, rfl, rfl, by decide +kernel, rfl, by decide +kernel, by decide +kernel⟩
abbrev s_Ratio___add__ : Stmt := inClass (top 23) 5
theorem sc_Ratio___add__ : FnScope ["self", "other", "parts"] ["self", "other"] (defScope s_Ratio___add__) := ⟨rfl, rfl, rfl, by decide +kernel, rfl, by decide +kernel, by decide +kernel⟩
abbrev s_Ratio___sub__ : Stmt := inClass (top 23) 6
theorem sc_Ratio___sub__ : FnScope ["self", "other", "parts"] ["self", "other"] (defScope s_Ratio___sub__) := ⟨rfl, rfl, rfl, by decide +kernel, rfl, by decide +kernel, by decide +kernel⟩
abbrev s_Ratio___mul__ : Stmt := inClass (top 23) 7
theorem sc_Ratio___mul__ : FnScope ["self", "other", "parts"] ["self", "other"] (defScope s_Ratio___mul__) := ⟨rfl, rfl, rfl, by decide +kernel, rfl, by decide +kernel, by decide +kernel⟩
abbrev s_Ratio___neg__ : Stmt := inClass (top 23) 8
theorem sc_Ratio___neg__ : FnScope ["self"] ["self"] (defScope s_Ratio___neg__) := ⟨rfl, rfl, rfl, by decide +kernel, rfl, by decide +kernel, by decide +kernel⟩
abbrev s_Ratio___eq__ : Stmt := inClass (top 23) 9
theorem sc_Ratio___eq__ : FnScope ["self", "other"] ["self", "other"] (defScope s_Ratio___eq__) := ⟨rfl, rfl, rfl, by decide +kernel, rfl, by decide +kernel, by decide +kernel⟩
abbrev s_Ratio___bool__ : Stmt := inClass (top 23) 10
theorem sc_Ratio___bool__ : FnScope ["self"] ["self"] (defScope s_Ratio___bool__) := ⟨rfl, rfl, rfl, by decide +kernel, rfl, by decide +kernel, by decide +kernel⟩
abbrev s_Ratio___repr__ : Stmt := inClass (top 23) 11
theorem sc_Ratio___repr__ : FnScope ["self"] ["self"] (defScope s_Ratio___repr__) := ⟨rfl, rfl, rfl, by decide +kernel, rfl, by decide +kernel, by decide +kernel⟩
abbrev s_parts_of : Stmt := top 24
theorem sc_parts_of : FnScope ["value"] ["value"] (defScope s_parts_of) := ⟨rfl, rfl, rfl, by decide +kernel, rfl, by decide +kernel, by decide +kernel⟩
abbrev s_law : Stmt := top 47
theorem sc_law : FnScope ["script", "bag", "fractions", "made", "t", "p", "x", "other", "xs", "i", "y"] ["script"] (defScope s_law) := ⟨rfl, rfl, rfl, by decide +kernel, rfl, by decide +kernel, by decide +kernel⟩
/-! ### kinds of values -/
inductive Ty0 | non | bl | int | str | lst | tup | dct | rat
  deriving DecidableEq
/-- the type, as a Value; C: the class Ratio -/
def Ty0.v (C : Addr) : Ty0 → Value
  | .non => .type "NoneType" | .bl => .type "bool" | .int => .type "int" | .str => .type "str" | .lst => .type "list" | .tup => .type "tuple" | .dct => .type "dict" | .rat => .ref C
def isB (a b : Ty0) : Bool := decide (a = b) || (decide (a = .bl) && decide (b = .int))
/-- what the top has written, as far as the program asks -/
structure Tx (P : Program) (K : PySem.W.Frag) (mg : Str → Option Value) (C Co fo : Addr) : Prop where
  n_isinstance : mg "isinstance" = none
  n_int : mg "int" = none
  n_bool : mg "bool" = none
  n_str : mg "str" = none
  n_len : mg "len" = none
  n_all : mg "all" = none
  g_gcd : mg "gcd" = some (.builtin "math.gcd")
  g_Ratio : mg "Ratio" = some (.ref C)
  isT : ∀ a b : Ty0, b ≠ .non → PySem.W.kitOne K (a.v C) (b.v C) = some (isB a b)
  cl : ClsI K C
  nT : NoAttr K C "top"
  nB : NoAttr K C "bottom"
  sf : PySem.W.selfFirst K C = true
  oi_Add : OwnI K C .Add
  oi_Sub : OwnI K C .Sub
  oi_Mult : OwnI K C .Mult
  nf : ∀ a : Ty0, PySem.W.notFirst K C (a.v C) = true
  nd : PySem.W.nsIn K cStatics "sys.int_max_str_digits" = some none
  n_any : mg "any" = none
  n_list : mg "list" = none
  n_range : mg "range" = none
  n_abs : mg "abs" = none
  n_tuple : mg "tuple" = none
  n_repr : mg "repr" = none
  g_MOST_DIGITS : ∃ u, mg "MOST_DIGITS" = some u ∧ RelV (.int 1000) u
  g_DIGITS : ∃ u, mg "DIGITS" = some u ∧ RelV (.str "0123456789") u
  out_OutOf : PySem.GX.OutTxt P K mg "OutOf" "a value is not of the kind that is needed" Co fo
/-! ### fractions as objects -/
def Rt (C : Addr) (q : Rat) : Sh := .ins C ["top", "bottom"] [.int q.num, .int (q.den : Int)]
abbrev outN : List (Str × V) := [("what", .str "number")]
section
variable {P : Program} {w : World} {K : PySem.W.Frag} {mg : Str → Option Value} {base : Heap} {C Co fo : Addr} {j : J} {q : Sh → Prop} {x : Sh} {a : Ty0} {ex : Addr → List (Str × V) → Prop}
/-- the kind of a shape -/
structure Knd (K : PySem.W.Frag) (C : Addr) (x : Sh) (a : Ty0) : Prop where
  h : TyS K x (a.v C)
theorem knd_rat (T : Tx P K mg C Co fo) {q : Rat} : Knd K C (Rt C q) .rat := ⟨tyS_ins T.cl⟩
theorem knd_int {n : Int} : Knd K C (.int n) .int := ⟨tyS_int⟩
theorem knd_bl {n : Bool} : Knd K C (.bl n) .bl := ⟨tyS_bl⟩
theorem knd_str {n : Str} : Knd K C (.str n) .str := ⟨tyS_str⟩
theorem knd_non : Knd K C .non .non := ⟨tyS_non⟩
theorem knd_lst {l : List Sh} : Knd K C (.lst l) .lst := ⟨tyS_lst⟩
theorem knd_tup {l : List Sh} : Knd K C (.tup l) .tup := ⟨tyS_tup⟩
theorem knd_dct : Knd K C .dct .dct := ⟨tyS_dct⟩
theorem isi_int (T : Tx P K mg C Co fo) (k : Knd K C x a) (h : q (.bl (isB a .int))) : En j (rIsi K) [x, .v (.ty "int")] q := en_isi k.h (.ty _) (T.isT a .int (by decide)) h
theorem isi_bool (T : Tx P K mg C Co fo) (k : Knd K C x a) (h : q (.bl (isB a .bl))) : En j (rIsi K) [x, .v (.ty "bool")] q := en_isi k.h (.ty _) (T.isT a .bl (by decide)) h
theorem isi_str (T : Tx P K mg C Co fo) (k : Knd K C x a) (h : q (.bl (isB a .str))) : En j (rIsi K) [x, .v (.ty "str")] q := en_isi k.h (.ty _) (T.isT a .str (by decide)) h
theorem isi_tuple (T : Tx P K mg C Co fo) (k : Knd K C x a) (h : q (.bl (isB a .tup))) : En j (rIsi K) [x, .v (.ty "tuple")] q := en_isi k.h (.ty _) (T.isT a .tup (by decide)) h
theorem isi_list (T : Tx P K mg C Co fo) (k : Knd K C x a) (h : q (.bl (isB a .lst))) : En j (rIsi K) [x, .v (.ty "list")] q := en_isi k.h (.ty _) (T.isT a .lst (by decide)) h
theorem isi_rat (T : Tx P K mg C Co fo) (k : Knd K C x a) (h : q (.bl (isB a .rat))) : En j (rIsi K) [x, .v (.ref C)] q := en_isi k.h (.own C) (T.isT a .rat (by decide)) h
theorem ev_top {ss : SS} {to : TE} (T : Tx P K mg C Co fo) (h : Ev j to ss fun o => ∃ r, o = Rt C r ∧ q (.int r.num)) : Ev j (tFld K to "top") ss q := ev_fld fun σ H st xg se Q hQ => h σ H st xg se Q fun x ⟨r, e, k⟩ => by
  subst e
  exact hQ _ ⟨_, _, _, rfl, T.cl.cl, T.nT, rfl, k⟩
theorem ev_bot {ss : SS} {to : TE} (T : Tx P K mg C Co fo) (h : Ev j to ss fun o => ∃ r, o = Rt C r ∧ q (.int (r.den : Int))) : Ev j (tFld K to "bottom") ss q := ev_fld fun σ H st xg se Q hQ => h σ H st xg se Q fun x ⟨r, e, k⟩ => by
  subst e
  exact hQ _ ⟨_, _, _, rfl, T.cl.cl, T.nB, rfl, k⟩
theorem ex_rat {r : Rat} {q : Rat → Prop} (k : q r) : ∃ t, Rt C r = Rt C t ∧ q t := ⟨r, rfl, k⟩
/-! ### what the defs promise -/
def fsIntegral (K : PySem.W.Frag) (C : Addr) : Fs := fun _ l S => ∃ x a, l = [x] ∧ Knd K C x a ∧ S (.ret (.bl (decide (a = .int))))
theorem use_integral (k : Knd K C x a) (h : q (.bl (decide (a = .int)))) : Callx j (fsIntegral K C) ([x] ++ List.map Sh.v []) q ex := callx_of ⟨x, a, rfl, k, h⟩
/-- a Ratio or an int of the worth r -/
def Num (C : Addr) (x : Sh) (r : Rat) : Prop := x = Rt C r ∨ ∃ n : Int, x = .int n ∧ r.num = n ∧ r.den = 1
theorem num_rat {r : Rat} : Num C (Rt C r) r := .inl rfl
theorem num_int {n : Int} : Num C (.int n) (n : Rat) := .inr ⟨n, rfl, rfl, rfl⟩
def fsParts (C : Addr) : Fs := fun _ l S => ∃ x r, l = [x] ∧ Num C x r ∧ S (.ret (.tup [.int r.num, .int (r.den : Int)]))
theorem use_parts {r : Rat} (k : Num C x r) (h : q (.tup [.int r.num, .int (r.den : Int)])) : Callx j (fsParts C) ([x] ++ List.map Sh.v []) q ex := callx_of ⟨x, r, rfl, k, h⟩
def fsInit (K : PySem.W.Frag) (C Co : Addr) : Fs := fun _ l S => (∃ t b : Int, l = [.int t, .int b] ∧ b ≠ 0 ∧ Sz 9000 b ∧ S (.ret (Rt C (Rat.divInt t b)))) ∨
  (∃ x y a b, l = [x, y] ∧ Knd K C x a ∧ Knd K C y b ∧ (a ≠ .int ∨ b ≠ .int ∨ y = .int 0) ∧ S (.exc Co outN))
local macro_rules | `(tactic| walk_at "k") => `(tactic| repeat (first
  | ((with_reducible show GS.Ev _ _ _ _); first
    | with_reducible refine GS.ev_c ?_
    | ((with_reducible show GS.Ev _ (L2.tVar _) _ _); refine GS.ev_var rfl ?_)
    | with_reducible refine GS.ev_op ?_
    | with_reducible refine GS.ev_cb ?_
    | with_reducible refine GS.ev_un ?_
    | with_reducible refine GS.ev_tup ?_
    | with_reducible refine GS.ev_lst ?_
    | with_reducible refine GS.ev_if ?_
    | with_reducible refine GS.ev_andV ?_
    | with_reducible refine GS.ev_orV ?_
    | with_reducible refine GS.ev_notV ?_
    | with_reducible refine GS.ev_sl ?_
    | with_reducible refine GS.ev_fmtS ?_
    | with_reducible refine GS.ev_fmtL ?_
    | with_reducible refine GS.ev_joined ?_
    | with_reducible refine GS.ev_m1 ?_)
  | ((with_reducible show GS.E2 _ _ _ _ _); first
    | with_reducible refine GS.e2_I0 ?_
    | with_reducible refine GS.e2_I ?_
    | ((with_reducible refine GS.e2_eq ?_ ?_); exact rfl)
    | ((with_reducible refine GS.e2_ne ?_ ?_); exact rfl)
    | with_reducible refine GS.e2_isN ?_
    | with_reducible refine GS.e2_notN ?_
    | ((with_reducible show GS.E2 _ (L2.rIxL _) _ _ _); refine GS.e2_ixL rfl ?_)
    | ((with_reducible show GS.E2 _ (L2.rIxT _) _ _ _); refine GS.e2_ixT rfl ?_)
    | ((with_reducible show GS.E2 _ (L2.rIx _) (GS.Sh.lst _) _ _); refine GS.e2_ix_l rfl ?_)
    | ((with_reducible show GS.E2 _ (L2.rIx _) (GS.Sh.tup _) _ _); refine GS.e2_ix_t rfl ?_)
    | with_reducible refine GS.e2_cat ?_
    | with_reducible refine GS.e2_addS ?_
    | with_reducible refine GS.e2_inSign ?_)
  | ((with_reducible show GS.Ea _ _ _ _); first
    | with_reducible refine GS.ea_cons ?_
    | with_reducible refine GS.ea_nil ?_)
  | ((with_reducible show GS.Et _ _ _ _); first
    | with_reducible refine GS.et_B ?_
    | with_reducible refine GS.et_test ?_
    | with_reducible refine GS.et_not ?_
    | with_reducible refine GS.et_and ?_
    | with_reducible refine GS.et_or ?_
    | with_reducible refine GS.et_yes ?_
    | with_reducible refine GS.et_tru ?_)
  | ((with_reducible show GS.B _ _ _ _ _ _ _); first
    | with_reducible refine GS.b_seq ?_
    | with_reducible refine GS.b_if ?_
    | with_reducible refine GS.b_ret ?_
    | with_reducible refine GS.b_asg ?_
    | with_reducible refine GS.b_drop ?_
    | with_reducible refine GS.b_next ?_
    | with_reducible refine GS.b_par ?_
    | with_reducible refine GS.b_raise (fun _ => rfl) ?_)
  | with_reducible refine GS.eg_name ?_
  | with_reducible refine GS.egs_cons ?_
  | with_reducible refine GS.egs_nil ?_
  | ((with_reducible refine GS.eg_tup ?_ ?_); exact rfl)
  | with_reducible refine GS.e1_U ?_
  | ((with_reducible show GS.En _ _ _ _); first
    | with_reducible refine GS.en_len_l ?_
    | with_reducible refine GS.en_len_t ?_
    | with_reducible refine GS.en_len_str ?_
    | with_reducible refine GS.en_int ?_
    | with_reducible refine GS.en_bool ?_
    | with_reducible refine GS.en_abs ?_
    | with_reducible refine GS.en_str ?_
    | with_reducible refine GS.en_strL ?_
    | with_reducible refine GS.en_gcd ?_
    | with_reducible refine GS.en_list_l ?_
    | with_reducible refine GS.en_list_t ?_
    | with_reducible refine GS.en_tuple_l ?_)
  | with_reducible refine GS.ex_bl ?_
  | with_reducible refine GS.ex_str ?_
  | with_reducible refine GS.ex_int ?_
  | with_reducible refine GS.ex_v ?_
  | with_reducible refine GS.ex_two ?_
  | with_reducible refine GS.ex_lst ?_
  | with_reducible refine GS.ex_tup ?_
  | with_reducible refine GS.ex_lst1 ?_
  | with_reducible refine GS.ex_truS ?_
  | ((with_reducible show ∃ _, GS.TruS _ _ ∧ _); refine GS.ex_tru rfl ?_)
  | with_reducible refine GS.eo_no ?_
  | with_reducible refine GS.eo_yes ?_
  | with_reducible refine GS.e3_list ?_
  | with_reducible refine GS.e3_str ?_
  | with_reducible refine GS.ej_cons ?_
  | with_reducible refine GS.ej_nil ?_
  | with_reducible refine GS.em_split ?_
  | with_reducible refine GS.em_starts ?_
  | ((with_reducible show GS.Ei _ _ _ _); first
    | with_reducible refine GS.ei_list ?_
    | with_reducible refine GS.ei_tup ?_
    | with_reducible refine GS.ei_str ?_
    | with_reducible refine GS.ei_enum ?_
    | with_reducible refine GS.ei_zip ?_
    | with_reducible refine GS.ei_range1 ?_
    | with_reducible refine GS.ei_range2 ?_)
  | ((with_reducible show _ ∧ _); first
    | ((with_reducible refine And.intro ?_ ?_); (with_reducible assumption))
    | ((with_reducible refine GS.sz_and ?_ ?_); exact rfl)
    | ((with_reducible refine GS.cnd_t ?_ ?_); exact rfl)
    | ((with_reducible refine GS.cnd_f ?_ ?_); exact rfl))
  | ((with_reducible show GS.En _ (L2.rIsi _) _ _); first
    | ((with_reducible apply isi_int (by with_reducible assumption)); (first | with_reducible assumption | exact knd_int | exact knd_bl | exact knd_str | exact knd_non | exact knd_lst | exact knd_tup | exact knd_rat (by assumption)))
    | ((with_reducible apply isi_bool (by with_reducible assumption)); (first | with_reducible assumption | exact knd_int | exact knd_bl | exact knd_str | exact knd_non | exact knd_lst | exact knd_tup | exact knd_rat (by assumption)))
    | ((with_reducible apply isi_str (by with_reducible assumption)); (first | with_reducible assumption | exact knd_int | exact knd_bl | exact knd_str | exact knd_non | exact knd_lst | exact knd_tup | exact knd_rat (by assumption)))
    | ((with_reducible apply isi_tuple (by with_reducible assumption)); (first | with_reducible assumption | exact knd_int | exact knd_bl | exact knd_str | exact knd_non | exact knd_lst | exact knd_tup | exact knd_rat (by assumption)))
    | ((with_reducible apply isi_list (by with_reducible assumption)); (first | with_reducible assumption | exact knd_int | exact knd_bl | exact knd_str | exact knd_non | exact knd_lst | exact knd_tup | exact knd_rat (by assumption)))
    | ((with_reducible apply isi_rat (by with_reducible assumption)); (first | with_reducible assumption | exact knd_int | exact knd_bl | exact knd_str | exact knd_non | exact knd_lst | exact knd_tup | exact knd_rat (by assumption))))
  | (with_reducible refine ev_top (by with_reducible assumption) ?_)
  | (with_reducible refine ev_bot (by with_reducible assumption) ?_)
  | with_reducible refine ex_rat ?_
  | with_reducible refine GS.ev_call (E := L2.E0) GS.XOk.no ?_
  | with_reducible refine GS.ev_call GS.XOk.own ?_
  | ((with_reducible show GS.Callx _ _ _ _ _); first
    | ((with_reducible apply use_integral); (first | with_reducible assumption | exact knd_int | exact knd_bl | exact knd_str | exact knd_non | exact knd_lst | exact knd_tup | exact knd_rat (by assumption)))
    | ((with_reducible apply use_parts); first | with_reducible assumption | exact num_rat | exact num_int)
)
  | with_reducible refine GS.ev_make (E := L2.E0) GS.XOk.no ?_
  | with_reducible refine GS.ev_make GS.XOk.own ?_))

/-! ### integral -/
theorem ok_integral {f : Addr} {fd : FuncData} (F : Fun K "integral" "integral" s_integral f fd) (T : Tx P K mg C Co fo) : FnOk P w K mg base CX0 1 f fd ["value"] (SpS (fsIntegral K C)) := by
  refine fun_okS F sc_integral (fun M l S ⟨x, a, e, _⟩ => e ▸ rfl) fun cdv A outer s H E hr => ?_
  refine ⟨_, (pss_one (ps_ret (pe_and (pe_callB call_isi (by rfl) T.n_isinstance (by decide +kernel) (pa_cons (pv 0) (pa_cons (pe_bltn (v := .ty "int") (u := .type "int") (by rfl) T.n_int (by decide +kernel) rfl) pa_nil))) (pe_one (pe_not (pe_callB call_isi (by rfl) T.n_isinstance (by decide +kernel) (pa_cons (pv 0) (pa_cons (pe_bltn (v := .ty "bool") (u := .type "bool") (by rfl) T.n_bool (by decide +kernel) rfl) pa_nil)))))))), ?_⟩
  rintro M l S ⟨x, a, rfl, ka, k⟩
  show B _ _ _ _ _ _ _
  try simp only [cxK, cxKn]
  cases a <;> (walk_at "k"; exact k)
theorem ok_parts {f : Addr} {fd : FuncData} (F : Fun K "parts_of" "parts_of" s_parts_of f fd) (T : Tx P K mg C Co fo) (d_integral : Df P w K mg base CX0 1 "integral" [] (SpS (fsIntegral K C))) : FnOk P w K mg base CX0 2 f fd ["value"] (SpS (fsParts C)) := by
  refine fun_okS F sc_parts_of (fun M l S ⟨x, a, e, _⟩ => e ▸ rfl) fun cdv A outer s H E hr => ?_
  refine ⟨_, (pss_cons (ps_if (pt_val (pe_callB call_isi (by rfl) T.n_isinstance (by decide +kernel) (pa_cons (pv 0) (pa_cons (pe_glob (v := .ref C) (by rfl) T.g_Ratio rfl) pa_nil)))) (pss_one (ps_ret (pe_tup (pa_cons (pe_fld (pv 0) rfl) (pa_cons (pe_fld (pv 0) rfl) pa_nil))))) pss_nil)
      (pss_cons (ps_if (pt_val (pe_df d_integral hr (by decide) pass0 (pa_cons (pv 0) pa_nil))) (pss_one (ps_ret (pe_tup (pa_cons (pv 0) (pa_cons pe_int pa_nil))))) pss_nil)
      (pss_one (ps_ret pe_non)))), ?_⟩
  rintro M l S ⟨x, r, rfl, ha, k⟩
  show B _ _ _ _ _ _ _
  try simp only [cxK, cxKn]
  rcases ha with rfl | ⟨n, rfl, hn, hd⟩
  · walk_at "k"
    exact k
  · walk_at "k"
    rw [hn, hd] at k
    exact k
theorem ok_init {f : Addr} {fd : FuncData} {dvs : List V} (F : FunD K "__init__" "Ratio.__init__" (defArgs s_Ratio___init__) (defBody s_Ratio___init__) (defScope s_Ratio___init__) dvs [] f fd) (T : Tx P K mg C Co fo) (d_integral : Df P w K mg base CX0 1 "integral" [] (SpS (fsIntegral K C))) :
    FnOk P w K mg base (L2.CX P w) 4 f fd ["self", "top", "bottom"] (SpI C (fsInit K C Co)) := by
  refine init_ok F sc_Ratio___init__ (fun M l S h => by rcases h with ⟨t, b, rfl, _⟩ | ⟨x, y, a, b, rfl, _⟩ <;> rfl) fun cdv A outer s H E hr => ?_
  refine ⟨_, (pss_cons (ps_if (PW.pt (pw_or (pt_not (pt_val (pe_df d_integral hr (by decide) pass0 (pa_cons (pv 1) pa_nil)))) (pw_or (pt_not (pt_val (pe_df d_integral hr (by decide) pass0 (pa_cons (pv 2) pa_nil)))) (pw_or1 (pt_cmpR op_eq (pv 2) pe_int (nomark _)))))) (pss_one (ps_raiseOut rfl T.out_OutOf hr (takes_of rfl rfl rfl rfl) (pa_cons pe_str pa_nil))) pss_nil)
      (pss_cons (ps_set (i := 3) sc_Ratio___init__.nd rfl (Or.inl rfl) (pe_callBfun cr_gcd (by rfl) T.g_gcd (pa_cons (pv 1) (pa_cons (pv 2) pa_nil))))
      (pss_cons (ps_if (pt_cmpR op_lt (pv 2) pe_int (nomark _)) (pss_one (ps_set (i := 3) sc_Ratio___init__.nd rfl (Or.inl rfl) (pe_un un_neg (pv 3)))) pss_nil)
      (pss_cons (ps_fld (pv 0) (pe_op op_fdivX (pv 1) (pv 3)) rfl)
      (pss_one (ps_fld (pv 0) (pe_op op_fdivX (pv 2) (pv 3)) rfl)))))), ?_⟩
  intro M p dx l S h
  try simp only [cxK, cxKn]
  rcases h with ⟨t, b, rfl, hb, hs, k⟩ | ⟨x, y, a, b, rfl, ka, kb, hab, k⟩
  · refine bi_raise (fun _ => rfl) ?_
    walk_at "k"
    refine cnd_f (by simpa using hb) ?_
    refine bi_asg ?_
    walk_at "k"
    refine bi_if ?_
    walk_at "k"
    have hcs : Sz 9000 (cm t b) := cm_sz hb hs
    have hcd : CDivX t (cm t b) ∧ CDivX b (cm t b) := ⟨⟨cm_ne hb, hcs.log (by decide)⟩, ⟨cm_ne hb, hcs.log (by decide)⟩⟩
    refine cnd (c := b < 0) (by simp) (fun hb0 => bi_asg ?_) (fun hb0 => bi_next ?_)
    · walk_at "k"
      have e : cm t b = -((Nat.gcd t.natAbs b.natAbs : Nat) : Int) := by unfold cm; rw [if_pos hb0]
      rw [← e]
      refine bi_fld T.cl.cl T.nT rfl (by decide) ?_
      walk_at "k"
      refine ⟨hcd.1, ?_⟩
      walk_at "k"
      refine ⟨rfl, bi_last T.cl.cl T.nB (by decide) (by decide) ?_⟩
      walk_at "k"
      refine ⟨hcd.2, ?_⟩
      walk_at "k"
      refine ⟨rfl, ?_⟩
      rw [cm_top hb, cm_bot hb]
      exact k
    · have e : cm t b = ((Nat.gcd t.natAbs b.natAbs : Nat) : Int) := by unfold cm; rw [if_neg hb0]
      rw [← e]
      refine bi_fld T.cl.cl T.nT rfl (by decide) ?_
      walk_at "k"
      refine ⟨hcd.1, ?_⟩
      walk_at "k"
      refine ⟨rfl, bi_last T.cl.cl T.nB (by decide) (by decide) ?_⟩
      walk_at "k"
      refine ⟨hcd.2, ?_⟩
      walk_at "k"
      refine ⟨rfl, ?_⟩
      rw [cm_top hb, cm_bot hb]
      exact k
  · refine bi_raise (fun _ => rfl) ?_
    walk_at "k"
    refine cnd (c := a ≠ .int) (by simp) (fun _ => cnd_t rfl ⟨_, k, rfl⟩) fun ha => ?_
    walk_at "k"
    refine cnd (c := b ≠ .int) (by simp) (fun _ => cnd_t rfl ⟨_, k, rfl⟩) fun hb => ?_
    have hy := (hab.resolve_left ha).resolve_left hb
    subst hy
    walk_at "k"
    exact ⟨_, k, rfl⟩
end
end KP

/-! K12Q -/
set_option Elab.async false
set_option Elab.async false
set_option linter.all false
set_option maxRecDepth 100000
set_option maxHeartbeats 4000000
namespace KP
open PySem PySem.Spec PyProof.Rows L2 GM GS
local macro_rules | `(tactic| walk_at "sh") => `(tactic| repeat (first
  | ((with_reducible show GS.Ev _ _ _ _); first
    | with_reducible refine GS.ev_c ?_
    | ((with_reducible show GS.Ev _ (L2.tVar _) _ _); refine GS.ev_var rfl ?_)
    | with_reducible refine GS.ev_op ?_
    | with_reducible refine GS.ev_cb ?_
    | with_reducible refine GS.ev_un ?_
    | with_reducible refine GS.ev_tup ?_
    | with_reducible refine GS.ev_lst ?_
    | with_reducible refine GS.ev_if ?_
    | with_reducible refine GS.ev_andV ?_
    | with_reducible refine GS.ev_orV ?_
    | with_reducible refine GS.ev_notV ?_
    | with_reducible refine GS.ev_sl ?_
    | with_reducible refine GS.ev_fmtS ?_
    | with_reducible refine GS.ev_fmtL ?_
    | with_reducible refine GS.ev_joined ?_
    | with_reducible refine GS.ev_m1 ?_)
  | ((with_reducible show GS.E2 _ _ _ _ _); first
    | with_reducible refine GS.e2_I0 ?_
    | with_reducible refine GS.e2_I ?_
    | ((with_reducible refine GS.e2_eq ?_ ?_); exact rfl)
    | ((with_reducible refine GS.e2_ne ?_ ?_); exact rfl)
    | with_reducible refine GS.e2_isN ?_
    | with_reducible refine GS.e2_notN ?_
    | ((with_reducible show GS.E2 _ (L2.rIxL _) _ _ _); refine GS.e2_ixL rfl ?_)
    | ((with_reducible show GS.E2 _ (L2.rIxT _) _ _ _); refine GS.e2_ixT rfl ?_)
    | ((with_reducible show GS.E2 _ (L2.rIx _) (GS.Sh.lst _) _ _); refine GS.e2_ix_l rfl ?_)
    | ((with_reducible show GS.E2 _ (L2.rIx _) (GS.Sh.tup _) _ _); refine GS.e2_ix_t rfl ?_)
    | with_reducible refine GS.e2_cat ?_
    | with_reducible refine GS.e2_addS ?_
    | with_reducible refine GS.e2_inSign ?_)
  | ((with_reducible show GS.Ea _ _ _ _); first
    | with_reducible refine GS.ea_cons ?_
    | with_reducible refine GS.ea_nil ?_)
  | ((with_reducible show GS.Et _ _ _ _); first
    | with_reducible refine GS.et_B ?_
    | with_reducible refine GS.et_test ?_
    | with_reducible refine GS.et_not ?_
    | with_reducible refine GS.et_and ?_
    | with_reducible refine GS.et_or ?_
    | with_reducible refine GS.et_yes ?_
    | with_reducible refine GS.et_tru ?_)
  | ((with_reducible show GS.B _ _ _ _ _ _ _); first
    | with_reducible refine GS.b_seq ?_
    | with_reducible refine GS.b_if ?_
    | with_reducible refine GS.b_ret ?_
    | with_reducible refine GS.b_asg ?_
    | with_reducible refine GS.b_drop ?_
    | with_reducible refine GS.b_next ?_
    | with_reducible refine GS.b_par ?_
    | with_reducible refine GS.b_raise (fun _ => rfl) ?_)
  | with_reducible refine GS.eg_name ?_
  | with_reducible refine GS.egs_cons ?_
  | with_reducible refine GS.egs_nil ?_
  | ((with_reducible refine GS.eg_tup ?_ ?_); exact rfl)
  | with_reducible refine GS.e1_U ?_
  | ((with_reducible show GS.En _ _ _ _); first
    | with_reducible refine GS.en_len_l ?_
    | with_reducible refine GS.en_len_t ?_
    | with_reducible refine GS.en_len_str ?_
    | with_reducible refine GS.en_int ?_
    | with_reducible refine GS.en_bool ?_
    | with_reducible refine GS.en_abs ?_
    | with_reducible refine GS.en_str ?_
    | with_reducible refine GS.en_strL ?_
    | with_reducible refine GS.en_gcd ?_
    | with_reducible refine GS.en_list_l ?_
    | with_reducible refine GS.en_list_t ?_
    | with_reducible refine GS.en_tuple_l ?_)
  | with_reducible refine GS.ex_bl ?_
  | with_reducible refine GS.ex_str ?_
  | with_reducible refine GS.ex_int ?_
  | with_reducible refine GS.ex_v ?_
  | with_reducible refine GS.ex_two ?_
  | with_reducible refine GS.ex_lst ?_
  | with_reducible refine GS.ex_tup ?_
  | with_reducible refine GS.ex_lst1 ?_
  | with_reducible refine GS.ex_truS ?_
  | ((with_reducible show ∃ _, GS.TruS _ _ ∧ _); refine GS.ex_tru rfl ?_)
  | with_reducible refine GS.eo_no ?_
  | with_reducible refine GS.eo_yes ?_
  | with_reducible refine GS.e3_list ?_
  | with_reducible refine GS.e3_str ?_
  | with_reducible refine GS.ej_cons ?_
  | with_reducible refine GS.ej_nil ?_
  | with_reducible refine GS.em_split ?_
  | with_reducible refine GS.em_starts ?_
  | ((with_reducible show GS.Ei _ _ _ _); first
    | with_reducible refine GS.ei_list ?_
    | with_reducible refine GS.ei_tup ?_
    | with_reducible refine GS.ei_str ?_
    | with_reducible refine GS.ei_enum ?_
    | with_reducible refine GS.ei_zip ?_
    | with_reducible refine GS.ei_range1 ?_
    | with_reducible refine GS.ei_range2 ?_)
  | ((with_reducible show _ ∧ _); first
    | ((with_reducible refine And.intro ?_ ?_); (with_reducible assumption))
    | ((with_reducible refine GS.sz_and ?_ ?_); exact rfl)
    | ((with_reducible refine GS.cnd_t ?_ ?_); exact rfl)
    | ((with_reducible refine GS.cnd_f ?_ ?_); exact rfl))))

section
variable {P : Program} {w : World} {K : PySem.W.Frag} {mg : Str → Option Value} {base : Heap} {C Co fo : Addr} {j : J} {q : Sh → Prop} {x : Sh} {a : Ty0} {ex : Addr → List (Str × V) → Prop}
local macro_rules | `(tactic| walk_at "k") => `(tactic| repeat (first
  | ((with_reducible show GS.Ev _ _ _ _); first
    | with_reducible refine GS.ev_c ?_
    | ((with_reducible show GS.Ev _ (L2.tVar _) _ _); refine GS.ev_var rfl ?_)
    | with_reducible refine GS.ev_op ?_
    | with_reducible refine GS.ev_cb ?_
    | with_reducible refine GS.ev_un ?_
    | with_reducible refine GS.ev_tup ?_
    | with_reducible refine GS.ev_lst ?_
    | with_reducible refine GS.ev_if ?_
    | with_reducible refine GS.ev_andV ?_
    | with_reducible refine GS.ev_orV ?_
    | with_reducible refine GS.ev_notV ?_
    | with_reducible refine GS.ev_sl ?_
    | with_reducible refine GS.ev_fmtS ?_
    | with_reducible refine GS.ev_fmtL ?_
    | with_reducible refine GS.ev_joined ?_
    | with_reducible refine GS.ev_m1 ?_)
  | ((with_reducible show GS.E2 _ _ _ _ _); first
    | with_reducible refine GS.e2_I0 ?_
    | with_reducible refine GS.e2_I ?_
    | ((with_reducible refine GS.e2_eq ?_ ?_); exact rfl)
    | ((with_reducible refine GS.e2_ne ?_ ?_); exact rfl)
    | with_reducible refine GS.e2_isN ?_
    | with_reducible refine GS.e2_notN ?_
    | ((with_reducible show GS.E2 _ (L2.rIxL _) _ _ _); refine GS.e2_ixL rfl ?_)
    | ((with_reducible show GS.E2 _ (L2.rIxT _) _ _ _); refine GS.e2_ixT rfl ?_)
    | ((with_reducible show GS.E2 _ (L2.rIx _) (GS.Sh.lst _) _ _); refine GS.e2_ix_l rfl ?_)
    | ((with_reducible show GS.E2 _ (L2.rIx _) (GS.Sh.tup _) _ _); refine GS.e2_ix_t rfl ?_)
    | with_reducible refine GS.e2_cat ?_
    | with_reducible refine GS.e2_addS ?_
    | with_reducible refine GS.e2_inSign ?_)
  | ((with_reducible show GS.Ea _ _ _ _); first
    | with_reducible refine GS.ea_cons ?_
    | with_reducible refine GS.ea_nil ?_)
  | ((with_reducible show GS.Et _ _ _ _); first
    | with_reducible refine GS.et_B ?_
    | with_reducible refine GS.et_test ?_
    | with_reducible refine GS.et_not ?_
    | with_reducible refine GS.et_and ?_
    | with_reducible refine GS.et_or ?_
    | with_reducible refine GS.et_yes ?_
    | with_reducible refine GS.et_tru ?_)
  | ((with_reducible show GS.B _ _ _ _ _ _ _); first
    | with_reducible refine GS.b_seq ?_
    | with_reducible refine GS.b_if ?_
    | with_reducible refine GS.b_ret ?_
    | with_reducible refine GS.b_asg ?_
    | with_reducible refine GS.b_drop ?_
    | with_reducible refine GS.b_next ?_
    | with_reducible refine GS.b_par ?_
    | with_reducible refine GS.b_raise (fun _ => rfl) ?_)
  | with_reducible refine GS.eg_name ?_
  | with_reducible refine GS.egs_cons ?_
  | with_reducible refine GS.egs_nil ?_
  | ((with_reducible refine GS.eg_tup ?_ ?_); exact rfl)
  | with_reducible refine GS.e1_U ?_
  | ((with_reducible show GS.En _ _ _ _); first
    | with_reducible refine GS.en_len_l ?_
    | with_reducible refine GS.en_len_t ?_
    | with_reducible refine GS.en_len_str ?_
    | with_reducible refine GS.en_int ?_
    | with_reducible refine GS.en_bool ?_
    | with_reducible refine GS.en_abs ?_
    | with_reducible refine GS.en_str ?_
    | with_reducible refine GS.en_strL ?_
    | with_reducible refine GS.en_gcd ?_
    | with_reducible refine GS.en_list_l ?_
    | with_reducible refine GS.en_list_t ?_
    | with_reducible refine GS.en_tuple_l ?_)
  | with_reducible refine GS.ex_bl ?_
  | with_reducible refine GS.ex_str ?_
  | with_reducible refine GS.ex_int ?_
  | with_reducible refine GS.ex_v ?_
  | with_reducible refine GS.ex_two ?_
  | with_reducible refine GS.ex_lst ?_
  | with_reducible refine GS.ex_tup ?_
  | with_reducible refine GS.ex_lst1 ?_
  | with_reducible refine GS.ex_truS ?_
  | ((with_reducible show ∃ _, GS.TruS _ _ ∧ _); refine GS.ex_tru rfl ?_)
  | with_reducible refine GS.eo_no ?_
  | with_reducible refine GS.eo_yes ?_
  | with_reducible refine GS.e3_list ?_
  | with_reducible refine GS.e3_str ?_
  | with_reducible refine GS.ej_cons ?_
  | with_reducible refine GS.ej_nil ?_
  | with_reducible refine GS.em_split ?_
  | with_reducible refine GS.em_starts ?_
  | ((with_reducible show GS.Ei _ _ _ _); first
    | with_reducible refine GS.ei_list ?_
    | with_reducible refine GS.ei_tup ?_
    | with_reducible refine GS.ei_str ?_
    | with_reducible refine GS.ei_enum ?_
    | with_reducible refine GS.ei_zip ?_
    | with_reducible refine GS.ei_range1 ?_
    | with_reducible refine GS.ei_range2 ?_)
  | ((with_reducible show _ ∧ _); first
    | ((with_reducible refine And.intro ?_ ?_); (with_reducible assumption))
    | ((with_reducible refine GS.sz_and ?_ ?_); exact rfl)
    | ((with_reducible refine GS.cnd_t ?_ ?_); exact rfl)
    | ((with_reducible refine GS.cnd_f ?_ ?_); exact rfl))
  | ((with_reducible show GS.En _ (L2.rIsi _) _ _); first
    | ((with_reducible apply isi_int (by with_reducible assumption)); (first | with_reducible assumption | exact knd_int | exact knd_bl | exact knd_str | exact knd_non | exact knd_lst | exact knd_tup | exact knd_rat (by assumption)))
    | ((with_reducible apply isi_bool (by with_reducible assumption)); (first | with_reducible assumption | exact knd_int | exact knd_bl | exact knd_str | exact knd_non | exact knd_lst | exact knd_tup | exact knd_rat (by assumption)))
    | ((with_reducible apply isi_str (by with_reducible assumption)); (first | with_reducible assumption | exact knd_int | exact knd_bl | exact knd_str | exact knd_non | exact knd_lst | exact knd_tup | exact knd_rat (by assumption)))
    | ((with_reducible apply isi_tuple (by with_reducible assumption)); (first | with_reducible assumption | exact knd_int | exact knd_bl | exact knd_str | exact knd_non | exact knd_lst | exact knd_tup | exact knd_rat (by assumption)))
    | ((with_reducible apply isi_list (by with_reducible assumption)); (first | with_reducible assumption | exact knd_int | exact knd_bl | exact knd_str | exact knd_non | exact knd_lst | exact knd_tup | exact knd_rat (by assumption)))
    | ((with_reducible apply isi_rat (by with_reducible assumption)); (first | with_reducible assumption | exact knd_int | exact knd_bl | exact knd_str | exact knd_non | exact knd_lst | exact knd_tup | exact knd_rat (by assumption))))
  | (with_reducible refine ev_top (by with_reducible assumption) ?_)
  | (with_reducible refine ev_bot (by with_reducible assumption) ?_)
  | with_reducible refine ex_rat ?_
  | with_reducible refine GS.ev_call (E := L2.E0) GS.XOk.no ?_
  | with_reducible refine GS.ev_call GS.XOk.own ?_
  | ((with_reducible show GS.Callx _ _ _ _ _); first
    | ((with_reducible apply use_integral); (first | with_reducible assumption | exact knd_int | exact knd_bl | exact knd_str | exact knd_non | exact knd_lst | exact knd_tup | exact knd_rat (by assumption)))
    | ((with_reducible apply use_parts); first | with_reducible assumption | exact num_rat | exact num_int)
)
  | with_reducible refine GS.ev_make (E := L2.E0) GS.XOk.no ?_
  | with_reducible refine GS.ev_make GS.XOk.own ?_))

/-! ### texts of numbers -/
def isd (c : Nat) : Bool := decide (c ∈ ("0123456789" : Str).cps.toList)
def isDigL (l : List Nat) : Bool := !l.isEmpty && decide (l.length ≤ 1000) && !(decide (l.head? = some 48) && decide (1 < l.length)) && l.all isd
def fsDigits : Fs := fun _ l S => ∃ w : Str, l = [.str w] ∧ w.length ≤ sizeLine ∧ S (.ret (.bl (isDigL w.cps.toList)))
theorem is0 {c : Nat} : decide (V.str ⟨#[c]⟩ = V.str (Str.ofString "0")) = true ↔ c = 48 := by
  have e : (Str.ofString "0") = ⟨#[48]⟩ := by decide +kernel
  rw [e, decide_eq_true_iff]
  simp
theorem ok_digits {f : Addr} {fd : FuncData} (F : Fun K "is_digits" "is_digits" s_is_digits f fd) (T : Tx P K mg C Co fo) : FnOk P w K mg base CX0 1 f fd ["word"] (SpS fsDigits) := by
  refine fun_okS F sc_is_digits (fun M l S ⟨x, e, _⟩ => e ▸ rfl) fun cdv A outer s H E hr => ?_
  refine ⟨_, (pss_cons (ps_if (PW.pt (pw_or (pt_not (pt_truth (pv 0) (by intro _; rfl))) (pw_or1 (pt_cmpR op_gt (pe_callB call_len_str (by rfl) T.n_len (by decide +kernel) (pa_cons (pv 0) pa_nil)) (pe_const (v := .int 1000) T.g_MOST_DIGITS) (nomark _))))) (pss_one (ps_ret pe_bl)) pss_nil)
      (pss_cons (ps_if (PW.pt (pw_and (pt_cmpR op_eq (pe_ix ix_str (pv 0) pe_int (fun _ _ => rfl)) pe_str (nomark _)) (pw_and1 (pt_cmpR op_gt (pe_callB call_len_str (by rfl) T.n_len (by decide +kernel) (pa_cons (pv 0) pa_nil)) pe_int (nomark _))))) (pss_one (ps_ret pe_bl)) pss_nil)
      (pss_one (ps_ret (pe_callB (r := rAll K) (cr_all rfl) (by rfl) T.n_all (by decide +kernel) (pa_cons (pe_lc (own := [("sign", 1)]) (g := gName 1) (tt := tYes) rfl sc_is_digits.nd (pi_str (pv 0)) (blkOk_by (N := ["word", "sign"]) (sc := defScope s_is_digits) (by decide +kernel)) (fun _ _ _ _ _ => (pg_name (i := 1) sc_is_digits.nd rfl (Or.inl rfl))) (fun _ _ _ _ _ => pts_nil) (fun _ _ _ _ _ => (pe_cmpR op_in_sign (pv 1) (pe_const (v := .str "0123456789") T.g_DIGITS) rfl))) pa_nil)))))), ?_⟩
  rintro M l S ⟨w, rfl, hz, k⟩
  show B _ _ _ _ _ _ _
  try simp only [cxK, cxKn]
  have hl : w.length = w.cps.toList.length := TL.len_tl w
  walk_at "k"
  refine cnd (c := w.cps.toList = []) (by rw [hl]; cases w.cps.toList <;> simp; omega) (fun h0 => ?_) (fun h0 => ?_)
  · walk_at "k"
    rw [h0] at k
    exact k
  · obtain ⟨c, r, hw⟩ : ∃ c r, w.cps.toList = c :: r := by
      cases h : w.cps.toList with
      | nil => exact absurd h h0
      | cons c r => exact ⟨c, r, rfl⟩
    walk_at "k"
    refine cnd (c := 1000 < w.length) (by simp; omega) (fun h1 => ?_) (fun h1 => ?_)
    · walk_at "k"
      have e : isDigL w.cps.toList = false := by
        unfold isDigL
        rw [decide_eq_false (show ¬ w.cps.toList.length ≤ 1000 by omega)]
        simp
      rw [e] at k
      exact k
    · walk_at "k"
      refine e2_ixS hz (c := c) (by rw [hw]; exact atI_nat (j := 0) rfl) ?_
      walk_at "k"
      have hlen : (w.length : Int) = (r.length + 1 : Nat) := by rw [hl, hw]; rfl
      have tail : ¬ (c = 48 ∧ 0 < r.length) → Ev { M := M, X := E, ex := fun C g => S (Oc.exc C g) } (tLc (iStr (tVar 0)) (gName 1) tYes
          (tOp (fun x y H Q => ∃ c z, x = V.str ⟨#[c]⟩ ∧ y = V.str z ∧ Q (V.bl (decide (c ∈ z.cps.toList))) H) (tVar 1) (tC (V.str (Str.ofString "0123456789")))) (List.map (fun x => x.snd) [(Str.ofString "sign", 1)]))
          (starts [Str.ofString "word", Str.ofString "sign"] [Sh.str w]) fun x => Ea { M := M, X := E, ex := fun C g => S (Oc.exc C g) } tNil (starts [Str.ofString "word", Str.ofString "sign"] [Sh.str w]) fun l =>
            En { M := M, X := E, ex := fun C g => S (Oc.exc C g) } (rAll K) (x :: l) fun r => S (Oc.ret r) := by
        intro hc
        walk_at "k"
        refine ev_lcMap (fun _ s => match s with | .v (.str x) => .bl (x.cps.toList.all isd) | _ => .non) (tg_name (by decide)) ?_
        walk_at "k"
        refine ⟨?_, fun D o i s hi => ?_, ?_⟩
        · show (signsS w).length ≤ sizeLine
          unfold signsS
          rw [List.length_map, ← hl]
          exact hz
        · unfold signsS at hi
          rw [List.getElem?_map] at hi
          cases hz : w.cps.toList[i]? with
          | none => rw [hz] at hi; cases hi
          | some d =>
            rw [hz] at hi
            cases hi
            walk_at "k"
            show Sh.bl (isd d) = Sh.bl ([d].all isd)
            simp
        · walk_at "k"
          refine en_all (bs := w.cps.toList.map isd) ?_ ?_
          · unfold signsS
            refine List.ext_getElem? fun i => ?_
            simp only [List.getElem?_mapIdx, List.getElem?_map]
            cases w.cps.toList[i]? with
            | none => rfl
            | some d => simp
          · have e : isDigL w.cps.toList = (w.cps.toList.map isd).all id := by
              have h4 : w.cps.toList.length ≤ 1000 := by omega
              unfold isDigL
              rw [decide_eq_true h4, hw]
              have h5 : (decide ((c :: r).head? = some 48) && decide (1 < (c :: r).length)) = false := by
                rw [Bool.and_eq_false_iff]
                by_cases h6 : c = 48
                · refine .inr (decide_eq_false fun z => hc ⟨h6, ?_⟩)
                  rw [List.length_cons] at z
                  omega
                · refine .inl (decide_eq_false fun z => h6 ?_)
                  exact Option.some.inj z
              rw [h5]
              simp
            rw [← e]
            exact k
      refine cnd (c := c = 48) is0 (fun h2 => ?_) (fun h2 => ?_)
      · walk_at "k"
        refine cnd (c := 0 < r.length) (by rw [hlen]; simp; omega) (fun h3 => ?_) (fun h3 => ?_)
        · walk_at "k"
          have e : isDigL w.cps.toList = false := by
            unfold isDigL
            rw [hw, h2]
            have h5 : (decide ((48 :: r).head? = some 48) && decide (1 < (48 :: r).length)) = true := by
              rw [Bool.and_eq_true]
              exact ⟨rfl, decide_eq_true (by rw [List.length_cons]; omega)⟩
            rw [h5]
            simp
          rw [e] at k
          exact k
        · walk_at "k"
          exact tail (fun z => h3 z.2)
      · walk_at "k"
        exact tail (fun z => h2 z.1)
end
end KP

/-! K12R -/
set_option Elab.async false
set_option Elab.async false
set_option linter.all false
set_option maxRecDepth 100000
set_option maxHeartbeats 4000000
namespace KP
open PySem PySem.Spec PyProof.Rows L2 GM GS
local macro_rules | `(tactic| walk_at "sh") => `(tactic| repeat (first
  | ((with_reducible show GS.Ev _ _ _ _); first
    | with_reducible refine GS.ev_c ?_
    | ((with_reducible show GS.Ev _ (L2.tVar _) _ _); refine GS.ev_var rfl ?_)
    | with_reducible refine GS.ev_op ?_
    | with_reducible refine GS.ev_cb ?_
    | with_reducible refine GS.ev_un ?_
    | with_reducible refine GS.ev_tup ?_
    | with_reducible refine GS.ev_lst ?_
    | with_reducible refine GS.ev_if ?_
    | with_reducible refine GS.ev_andV ?_
    | with_reducible refine GS.ev_orV ?_
    | with_reducible refine GS.ev_notV ?_
    | with_reducible refine GS.ev_sl ?_
    | with_reducible refine GS.ev_fmtS ?_
    | with_reducible refine GS.ev_fmtL ?_
    | with_reducible refine GS.ev_joined ?_
    | with_reducible refine GS.ev_m1 ?_)
  | ((with_reducible show GS.E2 _ _ _ _ _); first
    | with_reducible refine GS.e2_I0 ?_
    | with_reducible refine GS.e2_I ?_
    | ((with_reducible refine GS.e2_eq ?_ ?_); exact rfl)
    | ((with_reducible refine GS.e2_ne ?_ ?_); exact rfl)
    | with_reducible refine GS.e2_isN ?_
    | with_reducible refine GS.e2_notN ?_
    | ((with_reducible show GS.E2 _ (L2.rIxL _) _ _ _); refine GS.e2_ixL rfl ?_)
    | ((with_reducible show GS.E2 _ (L2.rIxT _) _ _ _); refine GS.e2_ixT rfl ?_)
    | ((with_reducible show GS.E2 _ (L2.rIx _) (GS.Sh.lst _) _ _); refine GS.e2_ix_l rfl ?_)
    | ((with_reducible show GS.E2 _ (L2.rIx _) (GS.Sh.tup _) _ _); refine GS.e2_ix_t rfl ?_)
    | with_reducible refine GS.e2_cat ?_
    | with_reducible refine GS.e2_addS ?_
    | with_reducible refine GS.e2_inSign ?_)
  | ((with_reducible show GS.Ea _ _ _ _); first
    | with_reducible refine GS.ea_cons ?_
    | with_reducible refine GS.ea_nil ?_)
  | ((with_reducible show GS.Et _ _ _ _); first
    | with_reducible refine GS.et_B ?_
    | with_reducible refine GS.et_test ?_
    | with_reducible refine GS.et_not ?_
    | with_reducible refine GS.et_and ?_
    | with_reducible refine GS.et_or ?_
    | with_reducible refine GS.et_yes ?_
    | with_reducible refine GS.et_tru ?_)
  | ((with_reducible show GS.B _ _ _ _ _ _ _); first
    | with_reducible refine GS.b_seq ?_
    | with_reducible refine GS.b_if ?_
    | with_reducible refine GS.b_ret ?_
    | with_reducible refine GS.b_asg ?_
    | with_reducible refine GS.b_drop ?_
    | with_reducible refine GS.b_next ?_
    | with_reducible refine GS.b_par ?_
    | with_reducible refine GS.b_raise (fun _ => rfl) ?_)
  | with_reducible refine GS.eg_name ?_
  | with_reducible refine GS.egs_cons ?_
  | with_reducible refine GS.egs_nil ?_
  | ((with_reducible refine GS.eg_tup ?_ ?_); exact rfl)
  | with_reducible refine GS.e1_U ?_
  | ((with_reducible show GS.En _ _ _ _); first
    | with_reducible refine GS.en_len_l ?_
    | with_reducible refine GS.en_len_t ?_
    | with_reducible refine GS.en_len_str ?_
    | with_reducible refine GS.en_int ?_
    | with_reducible refine GS.en_bool ?_
    | with_reducible refine GS.en_abs ?_
    | with_reducible refine GS.en_str ?_
    | with_reducible refine GS.en_strL ?_
    | with_reducible refine GS.en_gcd ?_
    | with_reducible refine GS.en_list_l ?_
    | with_reducible refine GS.en_list_t ?_
    | with_reducible refine GS.en_tuple_l ?_)
  | with_reducible refine GS.ex_bl ?_
  | with_reducible refine GS.ex_str ?_
  | with_reducible refine GS.ex_int ?_
  | with_reducible refine GS.ex_v ?_
  | with_reducible refine GS.ex_two ?_
  | with_reducible refine GS.ex_lst ?_
  | with_reducible refine GS.ex_tup ?_
  | with_reducible refine GS.ex_lst1 ?_
  | with_reducible refine GS.ex_truS ?_
  | ((with_reducible show ∃ _, GS.TruS _ _ ∧ _); refine GS.ex_tru rfl ?_)
  | with_reducible refine GS.eo_no ?_
  | with_reducible refine GS.eo_yes ?_
  | with_reducible refine GS.e3_list ?_
  | with_reducible refine GS.e3_str ?_
  | with_reducible refine GS.ej_cons ?_
  | with_reducible refine GS.ej_nil ?_
  | with_reducible refine GS.em_split ?_
  | with_reducible refine GS.em_starts ?_
  | ((with_reducible show GS.Ei _ _ _ _); first
    | with_reducible refine GS.ei_list ?_
    | with_reducible refine GS.ei_tup ?_
    | with_reducible refine GS.ei_str ?_
    | with_reducible refine GS.ei_enum ?_
    | with_reducible refine GS.ei_zip ?_
    | with_reducible refine GS.ei_range1 ?_
    | with_reducible refine GS.ei_range2 ?_)
  | ((with_reducible show _ ∧ _); first
    | ((with_reducible refine And.intro ?_ ?_); (with_reducible assumption))
    | ((with_reducible refine GS.sz_and ?_ ?_); exact rfl)
    | ((with_reducible refine GS.cnd_t ?_ ?_); exact rfl)
    | ((with_reducible refine GS.cnd_f ?_ ?_); exact rfl))))

section
variable {P : Program} {w : World} {K : PySem.W.Frag} {mg : Str → Option Value} {base : Heap} {C Co fo : Addr} {j : J} {q : Sh → Prop} {x : Sh} {a : Ty0} {ex : Addr → List (Str × V) → Prop}

theorem use_digits {w : Str} (h : w.length ≤ sizeLine) (k : q (.bl (isDigL w.cps.toList))) : Callx j fsDigits ([.str w] ++ List.map Sh.v []) q ex := callx_of ⟨w, rfl, h, k⟩
def intOfL (l : List Nat) : Option Int :=
  if l.head? = some 45 then (if isDigL (l.drop 1) = true then (if l.drop 1 = [48] then none else some (-((NumText.digitsVal (l.drop 1) : Nat) : Int))) else none)
  else if isDigL l = true then some ((NumText.digitsVal l : Nat) : Int) else none
def optI : Option Int → Sh
  | none => .non
  | some n => .int n
def fsIntOf : Fs := fun _ l S => ∃ w : Str, l = [.str w] ∧ w.length ≤ sizeLine ∧ S (.ret (optI (intOfL w.cps.toList)))
theorem use_intof {w : Str} (h : w.length ≤ sizeLine) (k : q (optI (intOfL w.cps.toList))) : Callx j fsIntOf ([.str w] ++ List.map Sh.v []) q ex := callx_of ⟨w, rfl, h, k⟩
local macro_rules | `(tactic| walk_at "k") => `(tactic| repeat (first
  | ((with_reducible show GS.Ev _ _ _ _); first
    | with_reducible refine GS.ev_c ?_
    | ((with_reducible show GS.Ev _ (L2.tVar _) _ _); refine GS.ev_var rfl ?_)
    | with_reducible refine GS.ev_op ?_
    | with_reducible refine GS.ev_cb ?_
    | with_reducible refine GS.ev_un ?_
    | with_reducible refine GS.ev_tup ?_
    | with_reducible refine GS.ev_lst ?_
    | with_reducible refine GS.ev_if ?_
    | with_reducible refine GS.ev_andV ?_
    | with_reducible refine GS.ev_orV ?_
    | with_reducible refine GS.ev_notV ?_
    | with_reducible refine GS.ev_sl ?_
    | with_reducible refine GS.ev_fmtS ?_
    | with_reducible refine GS.ev_fmtL ?_
    | with_reducible refine GS.ev_joined ?_
    | with_reducible refine GS.ev_m1 ?_)
  | ((with_reducible show GS.E2 _ _ _ _ _); first
    | with_reducible refine GS.e2_I0 ?_
    | with_reducible refine GS.e2_I ?_
    | ((with_reducible refine GS.e2_eq ?_ ?_); exact rfl)
    | ((with_reducible refine GS.e2_ne ?_ ?_); exact rfl)
    | with_reducible refine GS.e2_isN ?_
    | with_reducible refine GS.e2_notN ?_
    | ((with_reducible show GS.E2 _ (L2.rIxL _) _ _ _); refine GS.e2_ixL rfl ?_)
    | ((with_reducible show GS.E2 _ (L2.rIxT _) _ _ _); refine GS.e2_ixT rfl ?_)
    | ((with_reducible show GS.E2 _ (L2.rIx _) (GS.Sh.lst _) _ _); refine GS.e2_ix_l rfl ?_)
    | ((with_reducible show GS.E2 _ (L2.rIx _) (GS.Sh.tup _) _ _); refine GS.e2_ix_t rfl ?_)
    | with_reducible refine GS.e2_cat ?_
    | with_reducible refine GS.e2_addS ?_
    | with_reducible refine GS.e2_inSign ?_)
  | ((with_reducible show GS.Ea _ _ _ _); first
    | with_reducible refine GS.ea_cons ?_
    | with_reducible refine GS.ea_nil ?_)
  | ((with_reducible show GS.Et _ _ _ _); first
    | with_reducible refine GS.et_B ?_
    | with_reducible refine GS.et_test ?_
    | with_reducible refine GS.et_not ?_
    | with_reducible refine GS.et_and ?_
    | with_reducible refine GS.et_or ?_
    | with_reducible refine GS.et_yes ?_
    | with_reducible refine GS.et_tru ?_)
  | ((with_reducible show GS.B _ _ _ _ _ _ _); first
    | with_reducible refine GS.b_seq ?_
    | with_reducible refine GS.b_if ?_
    | with_reducible refine GS.b_ret ?_
    | with_reducible refine GS.b_asg ?_
    | with_reducible refine GS.b_drop ?_
    | with_reducible refine GS.b_next ?_
    | with_reducible refine GS.b_par ?_
    | with_reducible refine GS.b_raise (fun _ => rfl) ?_)
  | with_reducible refine GS.eg_name ?_
  | with_reducible refine GS.egs_cons ?_
  | with_reducible refine GS.egs_nil ?_
  | ((with_reducible refine GS.eg_tup ?_ ?_); exact rfl)
  | with_reducible refine GS.e1_U ?_
  | ((with_reducible show GS.En _ _ _ _); first
    | with_reducible refine GS.en_len_l ?_
    | with_reducible refine GS.en_len_t ?_
    | with_reducible refine GS.en_len_str ?_
    | with_reducible refine GS.en_int ?_
    | with_reducible refine GS.en_bool ?_
    | with_reducible refine GS.en_abs ?_
    | with_reducible refine GS.en_str ?_
    | with_reducible refine GS.en_strL ?_
    | with_reducible refine GS.en_gcd ?_
    | with_reducible refine GS.en_list_l ?_
    | with_reducible refine GS.en_list_t ?_
    | with_reducible refine GS.en_tuple_l ?_)
  | with_reducible refine GS.ex_bl ?_
  | with_reducible refine GS.ex_str ?_
  | with_reducible refine GS.ex_int ?_
  | with_reducible refine GS.ex_v ?_
  | with_reducible refine GS.ex_two ?_
  | with_reducible refine GS.ex_lst ?_
  | with_reducible refine GS.ex_tup ?_
  | with_reducible refine GS.ex_lst1 ?_
  | with_reducible refine GS.ex_truS ?_
  | ((with_reducible show ∃ _, GS.TruS _ _ ∧ _); refine GS.ex_tru rfl ?_)
  | with_reducible refine GS.eo_no ?_
  | with_reducible refine GS.eo_yes ?_
  | with_reducible refine GS.e3_list ?_
  | with_reducible refine GS.e3_str ?_
  | with_reducible refine GS.ej_cons ?_
  | with_reducible refine GS.ej_nil ?_
  | with_reducible refine GS.em_split ?_
  | with_reducible refine GS.em_starts ?_
  | ((with_reducible show GS.Ei _ _ _ _); first
    | with_reducible refine GS.ei_list ?_
    | with_reducible refine GS.ei_tup ?_
    | with_reducible refine GS.ei_str ?_
    | with_reducible refine GS.ei_enum ?_
    | with_reducible refine GS.ei_zip ?_
    | with_reducible refine GS.ei_range1 ?_
    | with_reducible refine GS.ei_range2 ?_)
  | ((with_reducible show _ ∧ _); first
    | ((with_reducible refine And.intro ?_ ?_); (with_reducible assumption))
    | ((with_reducible refine GS.sz_and ?_ ?_); exact rfl)
    | ((with_reducible refine GS.cnd_t ?_ ?_); exact rfl)
    | ((with_reducible refine GS.cnd_f ?_ ?_); exact rfl))
  | ((with_reducible show GS.En _ (L2.rIsi _) _ _); first
    | ((with_reducible apply isi_int (by with_reducible assumption)); (first | with_reducible assumption | exact knd_int | exact knd_bl | exact knd_str | exact knd_non | exact knd_lst | exact knd_tup | exact knd_rat (by assumption)))
    | ((with_reducible apply isi_bool (by with_reducible assumption)); (first | with_reducible assumption | exact knd_int | exact knd_bl | exact knd_str | exact knd_non | exact knd_lst | exact knd_tup | exact knd_rat (by assumption)))
    | ((with_reducible apply isi_str (by with_reducible assumption)); (first | with_reducible assumption | exact knd_int | exact knd_bl | exact knd_str | exact knd_non | exact knd_lst | exact knd_tup | exact knd_rat (by assumption)))
    | ((with_reducible apply isi_tuple (by with_reducible assumption)); (first | with_reducible assumption | exact knd_int | exact knd_bl | exact knd_str | exact knd_non | exact knd_lst | exact knd_tup | exact knd_rat (by assumption)))
    | ((with_reducible apply isi_list (by with_reducible assumption)); (first | with_reducible assumption | exact knd_int | exact knd_bl | exact knd_str | exact knd_non | exact knd_lst | exact knd_tup | exact knd_rat (by assumption)))
    | ((with_reducible apply isi_rat (by with_reducible assumption)); (first | with_reducible assumption | exact knd_int | exact knd_bl | exact knd_str | exact knd_non | exact knd_lst | exact knd_tup | exact knd_rat (by assumption))))
  | (with_reducible refine ev_top (by with_reducible assumption) ?_)
  | (with_reducible refine ev_bot (by with_reducible assumption) ?_)
  | with_reducible refine ex_rat ?_
  | with_reducible refine GS.ev_call (E := L2.E0) GS.XOk.no ?_
  | with_reducible refine GS.ev_call GS.XOk.own ?_
  | ((with_reducible show GS.Callx _ _ _ _ _); first
    | ((with_reducible apply use_integral); (first | with_reducible assumption | exact knd_int | exact knd_bl | exact knd_str | exact knd_non | exact knd_lst | exact knd_tup | exact knd_rat (by assumption)))
    | ((with_reducible apply use_parts); first | with_reducible assumption | exact num_rat | exact num_int)
    | ((with_reducible refine use_digits ?_ ?_); with_reducible assumption)
    | ((with_reducible refine use_intof ?_ ?_); with_reducible assumption))
  | with_reducible refine GS.ev_make (E := L2.E0) GS.XOk.no ?_
  | with_reducible refine GS.ev_make GS.XOk.own ?_))

theorem starts_minus (w : Str) : Txt.startswith w (Str.ofString "-") = decide (w.cps.toList.head? = some 45) := by
  have e1 : TL.tl (Str.ofString "-") = [45] := by decide +kernel
  have hy : TL.tl (Str.ofString "-") ≠ [] := by rw [e1]; simp
  have hl : w.length = w.cps.toList.length := TL.len_tl w
  have h := TL.at_iff (x := w) hy 0
  rw [e1, List.drop_zero] at h
  have e2 : Txt.startswith w (Str.ofString "-") = true ↔ w.cps.toList.head? = some 45 := by
    have e3 : Txt.startswith w (Str.ofString "-") = true ↔ PySem.StrLaws.At w (Str.ofString "-") w.length 0 := by
      unfold Txt.startswith PySem.StrLaws.At
      rw [Bool.and_eq_true, decide_eq_true_iff]
    rw [e3, h]
    show TL.pre [45] w.cps.toList = true ↔ _
    unfold TL.pre
    cases w.cps.toList with
    | nil => simp
    | cons c r => simp
  rw [Bool.eq_iff_iff, e2, decide_eq_true_iff]
theorem isDig_text {w : Str} (h : isDigL w.cps.toList = true) : intText? w = some ((NumText.digitsVal w.cps.toList : Nat) : Int) ∧ w.length ≤ 4300 := by
  unfold isDigL at h
  simp only [Bool.and_eq_true] at h
  obtain ⟨⟨⟨h1, h2⟩, h3⟩, h4⟩ := h
  have hl : w.length = w.cps.toList.length := TL.len_tl w
  have h2 := of_decide_eq_true h2
  refine ⟨intText_digits (fun c hc => ?_) (by simpa using h1) (by omega), by omega⟩
  have z := List.all_eq_true.mp h4 c hc
  unfold isd at z
  have e : (Str.ofString "0123456789").cps.toList = [48, 49, 50, 51, 52, 53, 54, 55, 56, 57] := by decide +kernel
  rw [e] at z
  have z := of_decide_eq_true z
  simp only [List.mem_cons, List.not_mem_nil, or_false] at z
  omega
theorem ok_intof {f : Addr} {fd : FuncData} (F : Fun K "integer_of" "integer_of" s_integer_of f fd) (T : Tx P K mg C Co fo) (d_is_digits : Df P w K mg base CX0 1 "is_digits" [] (SpS fsDigits)) : FnOk P w K mg base CX0 2 f fd ["word"] (SpS fsIntOf) := by
  refine fun_okS F sc_integer_of (fun M l S ⟨x, e, _⟩ => e ▸ rfl) fun cdv A outer s H E hr => ?_
  refine ⟨_, (pss_cons (ps_set (i := 1) sc_integer_of.nd rfl (Or.inl rfl) (pe_m1 PySem.F.slot_str_startswith PySem.F.type_str_startswith mt_startswith (pv 0) pe_str))
      (pss_cons (ps_set (i := 2) sc_integer_of.nd rfl (Or.inl rfl) (pe_ifExp (pt_val (pv 1)) (pe_slice sl_str (pv 0) (po_some pe_int) po_none) (pv 0)))
      (pss_cons (ps_if (pt_not (pt_val (pe_df d_is_digits hr (by decide) pass0 (pa_cons (pv 2) pa_nil)))) (pss_one (ps_ret pe_non)) pss_nil)
      (pss_cons (ps_if (pt_not (pt_val (pv 1))) (pss_one (ps_ret (pe_callTy (call_int_strL T.nd) (by rfl) T.n_int (by decide +kernel) (pa_cons (pv 2) pa_nil)))) pss_nil)
      (pss_one (ps_ret (pe_ifExp (pt_cmpR op_eq (pv 2) pe_str (nomark _)) pe_non (pe_un un_neg (pe_callTy (call_int_strL T.nd) (by rfl) T.n_int (by decide +kernel) (pa_cons (pv 2) pa_nil)))))))))), ?_⟩
  rintro M l S ⟨w, rfl, hz, k⟩
  show B _ _ _ _ _ _ _
  try simp only [cxK, cxKn]
  walk_at "k"
  rw [starts_minus]
  have hl : w.length = w.cps.toList.length := TL.len_tl w
  have hz2 : (cutS w (some 1) none).length ≤ sizeLine := Nat.le_trans (cutS_length _ _ _) hz
  have hc : (cutS w (some 1) none).cps.toList = w.cps.toList.drop 1 := by
    show ((w.cps.toList.drop (HT.sIx w.length 0 (some ((1 : Nat) : Int)))).take (HT.sIx w.length w.length none - HT.sIx w.length 0 (some ((1 : Nat) : Int)))) = _
    rw [HT.sIx_nat, HT.sIx_none, List.take_of_length_le (by rw [List.length_drop]; omega)]
    by_cases h1 : 1 ≤ w.length
    · rw [Nat.min_eq_left h1]
    · have h2 : w.length = 0 := by omega
      have h3 : w.cps.toList = [] := by
        rw [hl] at h2
        exact List.length_eq_zero_iff.mp h2
      rw [h3]
      simp
  unfold intOfL at k
  refine cnd (c := w.cps.toList.head? = some 45) (by rw [decide_eq_true_iff]) (fun h1 => ?_) (fun h1 => ?_)
  · rw [if_pos h1] at k
    walk_at "k"
    rw [hc]
    refine cnd (c := isDigL (w.cps.toList.drop 1) = false) (by simp) (fun h2 => ?_) (fun h2 => ?_)
    · walk_at "k"
      rw [h2] at k
      exact k
    · have h2 : isDigL (w.cps.toList.drop 1) = true := by simpa using h2
      rw [if_pos h2] at k
      obtain ⟨e1, e2⟩ := isDig_text (w := cutS w (some 1) none) (by rw [hc]; exact h2)
      rw [hc] at e1
      walk_at "k"
      refine cnd_f (by simpa using h1) ?_
      walk_at "k"
      refine cnd (c := w.cps.toList.drop 1 = [48]) ?_ (fun h3 => ?_) (fun h3 => ?_)
      · have e : (Str.ofString "0") = ⟨#[48]⟩ := by decide +kernel
        rw [e, decide_eq_true_iff, ← hc]
        constructor
        · intro z
          injection z with z
          rw [z]
        · intro z
          have e3 : cutS w (some 1) none = ⟨#[48]⟩ := TL.ext_tl (by rw [show TL.tl (cutS w (some 1) none) = _ from z])
          rw [e3]
      · walk_at "k"
        rw [if_pos h3] at k
        exact k
      · walk_at "k"
        refine en_intL ⟨e1, e2, ?_⟩
        walk_at "k"
        rw [if_neg h3] at k
        exact k
  · rw [if_neg h1] at k
    walk_at "k"
    refine cnd (c := isDigL w.cps.toList = false) (by simp) (fun h2 => ?_) (fun h2 => ?_)
    · walk_at "k"
      rw [h2] at k
      exact k
    · have h2 : isDigL w.cps.toList = true := by simpa using h2
      rw [if_pos h2] at k
      obtain ⟨e1, e2⟩ := isDig_text h2
      walk_at "k"
      refine cnd_t (by simpa using h1) ?_
      walk_at "k"
      exact en_intL ⟨e1, e2, k⟩
/-! ### fraction_of -/
def fracL (l : List Nat) : Option (Int × Int) := match TL.spl [47] 0 [] l with
  | [a] => (intOfL a).map fun t => (t, 1)
  | [a, b] => (intOfL a).bind fun t => (intOfL b).bind fun u => if u < 2 ∨ Nat.gcd t.natAbs u.natAbs ≠ 1 then none else some (t, u)
  | _ => none
def optF : Option (Int × Int) → Sh
  | none => .non
  | some (t, u) => .tup [.int t, .int u]
def fsFrac : Fs := fun _ l S => ∃ w : Str, l = [.str w] ∧ w.length ≤ 100000 ∧ S (.ret (optF (fracL w.cps.toList)))
theorem spl_len (S : List Nat) : ∀ (l : List Nat) (k : Nat) (acc : List Nat), ∀ p ∈ TL.spl S k acc l, p.length ≤ acc.length + l.length
  | [], k, acc, p, h => by
    rw [TL.spl_nil, List.mem_singleton] at h
    rw [h]
    simp
  | c :: r, 0, acc, p, h => by
    unfold TL.spl at h
    split at h
    · rcases List.mem_cons.mp h with e | e
      · rw [e]; omega
      · have := spl_len S r _ _ p e
        simp at this ⊢
        omega
    · have := spl_len S r _ _ p h
      simp at this ⊢
      omega
  | c :: r, k + 1, acc, p, h => by
    have := spl_len S r k acc p h
    simp at this ⊢
    omega
theorem spl_ne (S : List Nat) : ∀ (l : List Nat) (k : Nat) (acc : List Nat), TL.spl S k acc l ≠ []
  | [], k, acc => by rw [TL.spl_nil]; simp
  | c :: r, 0, acc => by
    unfold TL.spl
    split
    · simp
    · exact spl_ne S r _ _
  | c :: r, k + 1, acc => spl_ne S r k acc
theorem use_frac {w : Str} (h : w.length ≤ 100000) (k : q (optF (fracL w.cps.toList))) : Callx j fsFrac ([.str w] ++ List.map Sh.v []) q ex := callx_of ⟨w, rfl, h, k⟩
theorem ok_frac {f : Addr} {fd : FuncData} (F : Fun K "fraction_of" "fraction_of" s_fraction_of f fd) (T : Tx P K mg C Co fo) (d_integer_of : Df P w K mg base CX0 2 "integer_of" [] (SpS fsIntOf)) : FnOk P w K mg base CX0 3 f fd ["word"] (SpS fsFrac) := by
  refine fun_okS F sc_fraction_of (fun M l S ⟨x, e, _⟩ => e ▸ rfl) fun cdv A outer s H E hr => ?_
  refine ⟨_, (pss_cons (ps_set (i := 1) sc_fraction_of.nd rfl (Or.inl rfl) (pe_split (pv 0) pe_str))
      (pss_cons (ps_if (pt_cmpR op_gt (pe_callB call_len (by rfl) T.n_len (by decide +kernel) (pa_cons (pv 1) pa_nil)) pe_int (nomark _)) (pss_one (ps_ret pe_non)) pss_nil)
      (pss_cons (ps_set (i := 2) sc_fraction_of.nd rfl (Or.inl rfl) (pe_df d_integer_of hr (by decide) pass0 (pa_cons (pe_ix (r := rIxL K) ix_list (pv 1) pe_int (fun _ _ => rfl)) pa_nil)))
      (pss_cons (ps_if (pt_cmpR op_isN (pv 2) pe_non (nomark _)) (pss_one (ps_ret pe_non)) pss_nil)
      (pss_cons (ps_if (pt_cmpR op_eq (pe_callB call_len (by rfl) T.n_len (by decide +kernel) (pa_cons (pv 1) pa_nil)) pe_int (nomark _)) (pss_one (ps_ret (pe_tup (pa_cons (pv 2) (pa_cons pe_int pa_nil))))) pss_nil)
      (pss_cons (ps_set (i := 3) sc_fraction_of.nd rfl (Or.inl rfl) (pe_df d_integer_of hr (by decide) pass0 (pa_cons (pe_ix (r := rIxL K) ix_list (pv 1) pe_int (fun _ _ => rfl)) pa_nil)))
      (pss_cons (ps_if (PW.pt (pw_or (pt_cmpR op_isN (pv 3) pe_non (nomark _)) (pw_or (pt_cmpR op_lt (pv 3) pe_int (nomark _)) (pw_or1 (pt_cmpR op_ne (pe_callBfun cr_gcd (by rfl) T.g_gcd (pa_cons (pv 2) (pa_cons (pv 3) pa_nil))) pe_int (nomark _)))))) (pss_one (ps_ret pe_non)) pss_nil)
      (pss_one (ps_ret (pe_tup (pa_cons (pv 2) (pa_cons (pv 3) pa_nil)))))))))))), ?_⟩
  rintro M l S ⟨w, rfl, hz, k⟩
  show B _ _ _ _ _ _ _
  try simp only [cxK, cxKn]
  walk_at "k"
  refine ⟨by decide +kernel, Nat.le_trans (show w.length + 2 ≤ 100002 by omega) (by decide), ?_⟩
  have e1 : TL.tl (Str.ofString "/") = [47] := by decide +kernel
  have hps := TL.split_spl w (Str.ofString "/") (by rw [e1]; simp) (TL.kind_ok (by decide +kernel))
  rw [e1] at hps
  have hl : w.length = w.cps.toList.length := TL.len_tl w
  have hlen : ∀ p ∈ Txt.split w (Str.ofString "/"), p.length ≤ sizeLine := fun p hp => by
    have z : TL.tl p ∈ (Txt.split w (Str.ofString "/")).map TL.tl := List.mem_map_of_mem hp
    rw [hps] at z
    have z2 := spl_len _ _ _ _ _ z
    have z3 : p.length = (TL.tl p).length := TL.len_tl p
    rw [List.length_nil] at z2
    have z4 : (TL.tl w).length = w.length := hl.symm
    exact Nat.le_trans (show p.length ≤ 100000 by omega) (by decide)
  unfold fracL at k
  rw [show w.cps.toList = TL.tl w from rfl, ← hps] at k
  rcases hs : Txt.split w (Str.ofString "/") with _ | ⟨a, _ | ⟨b, _ | ⟨c, r⟩⟩⟩
  · rw [hs] at hps
    exact absurd hps.symm (spl_ne _ _ _ _)
  · rw [hs] at k hlen
    have ha := hlen a (by simp)
    walk_at "k"
    replace k : S (Oc.ret (optF ((intOfL a.cps.toList).map fun t => (t, 1)))) := k
    cases ht : intOfL a.cps.toList with
    | none =>
      rw [ht] at k
      walk_at "k"
      exact k
    | some t =>
      rw [ht] at k
      walk_at "k"
      exact k
  · rw [hs] at k hlen
    have ha := hlen a (by simp)
    have hb := hlen b (by simp)
    walk_at "k"
    replace k : S (Oc.ret (optF ((intOfL a.cps.toList).bind fun t => (intOfL b.cps.toList).bind fun u => if u < 2 ∨ Nat.gcd t.natAbs u.natAbs ≠ 1 then none else some (t, u)))) := k
    cases ht : intOfL a.cps.toList with
    | none =>
      rw [ht] at k
      walk_at "k"
      exact k
    | some t =>
      rw [ht] at k
      dsimp only [optI]
      walk_at "k"
      cases hu : intOfL b.cps.toList with
      | none =>
        rw [hu] at k
        walk_at "k"
        exact k
      | some u =>
        rw [hu] at k
        walk_at "k"
        dsimp only [optI]
        walk_at "k"
        replace k : S (Oc.ret (optF (if u < 2 ∨ Nat.gcd t.natAbs u.natAbs ≠ 1 then none else some (t, u)))) := k
        refine cnd (c := u < 2) (by simp) (fun h => ?_) (fun h => ?_)
        · walk_at "k"
          rw [if_pos (.inl h)] at k
          exact k
        · walk_at "k"
          refine cnd (c := Nat.gcd t.natAbs u.natAbs ≠ 1) (by simp; omega) (fun h2 => ?_) (fun h2 => ?_)
          · walk_at "k"
            rw [if_pos (.inr h2)] at k
            exact k
          · walk_at "k"
            rw [if_neg (fun z => z.elim h h2)] at k
            exact k
  · rw [hs] at k
    walk_at "k"
    refine cnd_t (by rw [decide_eq_true_iff]; simp; omega) ?_
    walk_at "k"
    exact k
end
end KP

/-! K12S -/
set_option Elab.async false
set_option Elab.async false
set_option linter.all false
set_option maxRecDepth 100000
set_option maxHeartbeats 4000000
namespace KP
open PySem PySem.Spec PyProof.Rows L2 GM GS
local macro_rules | `(tactic| walk_at "sh") => `(tactic| repeat (first
  | ((with_reducible show GS.Ev _ _ _ _); first
    | with_reducible refine GS.ev_c ?_
    | ((with_reducible show GS.Ev _ (L2.tVar _) _ _); refine GS.ev_var rfl ?_)
    | with_reducible refine GS.ev_op ?_
    | with_reducible refine GS.ev_cb ?_
    | with_reducible refine GS.ev_un ?_
    | with_reducible refine GS.ev_tup ?_
    | with_reducible refine GS.ev_lst ?_
    | with_reducible refine GS.ev_if ?_
    | with_reducible refine GS.ev_andV ?_
    | with_reducible refine GS.ev_orV ?_
    | with_reducible refine GS.ev_notV ?_
    | with_reducible refine GS.ev_sl ?_
    | with_reducible refine GS.ev_fmtS ?_
    | with_reducible refine GS.ev_fmtL ?_
    | with_reducible refine GS.ev_joined ?_
    | with_reducible refine GS.ev_m1 ?_)
  | ((with_reducible show GS.E2 _ _ _ _ _); first
    | with_reducible refine GS.e2_I0 ?_
    | with_reducible refine GS.e2_I ?_
    | ((with_reducible refine GS.e2_eq ?_ ?_); exact rfl)
    | ((with_reducible refine GS.e2_ne ?_ ?_); exact rfl)
    | with_reducible refine GS.e2_isN ?_
    | with_reducible refine GS.e2_notN ?_
    | ((with_reducible show GS.E2 _ (L2.rIxL _) _ _ _); refine GS.e2_ixL rfl ?_)
    | ((with_reducible show GS.E2 _ (L2.rIxT _) _ _ _); refine GS.e2_ixT rfl ?_)
    | ((with_reducible show GS.E2 _ (L2.rIx _) (GS.Sh.lst _) _ _); refine GS.e2_ix_l rfl ?_)
    | ((with_reducible show GS.E2 _ (L2.rIx _) (GS.Sh.tup _) _ _); refine GS.e2_ix_t rfl ?_)
    | with_reducible refine GS.e2_cat ?_
    | with_reducible refine GS.e2_addS ?_
    | with_reducible refine GS.e2_inSign ?_)
  | ((with_reducible show GS.Ea _ _ _ _); first
    | with_reducible refine GS.ea_cons ?_
    | with_reducible refine GS.ea_nil ?_)
  | ((with_reducible show GS.Et _ _ _ _); first
    | with_reducible refine GS.et_B ?_
    | with_reducible refine GS.et_test ?_
    | with_reducible refine GS.et_not ?_
    | with_reducible refine GS.et_and ?_
    | with_reducible refine GS.et_or ?_
    | with_reducible refine GS.et_yes ?_
    | with_reducible refine GS.et_tru ?_)
  | ((with_reducible show GS.B _ _ _ _ _ _ _); first
    | with_reducible refine GS.b_seq ?_
    | with_reducible refine GS.b_if ?_
    | with_reducible refine GS.b_ret ?_
    | with_reducible refine GS.b_asg ?_
    | with_reducible refine GS.b_drop ?_
    | with_reducible refine GS.b_next ?_
    | with_reducible refine GS.b_par ?_
    | with_reducible refine GS.b_raise (fun _ => rfl) ?_)
  | with_reducible refine GS.eg_name ?_
  | with_reducible refine GS.egs_cons ?_
  | with_reducible refine GS.egs_nil ?_
  | ((with_reducible refine GS.eg_tup ?_ ?_); exact rfl)
  | with_reducible refine GS.e1_U ?_
  | ((with_reducible show GS.En _ _ _ _); first
    | with_reducible refine GS.en_len_l ?_
    | with_reducible refine GS.en_len_t ?_
    | with_reducible refine GS.en_len_str ?_
    | with_reducible refine GS.en_int ?_
    | with_reducible refine GS.en_bool ?_
    | with_reducible refine GS.en_abs ?_
    | with_reducible refine GS.en_str ?_
    | with_reducible refine GS.en_strL ?_
    | with_reducible refine GS.en_gcd ?_
    | with_reducible refine GS.en_list_l ?_
    | with_reducible refine GS.en_list_t ?_
    | with_reducible refine GS.en_tuple_l ?_)
  | with_reducible refine GS.ex_bl ?_
  | with_reducible refine GS.ex_str ?_
  | with_reducible refine GS.ex_int ?_
  | with_reducible refine GS.ex_v ?_
  | with_reducible refine GS.ex_two ?_
  | with_reducible refine GS.ex_lst ?_
  | with_reducible refine GS.ex_tup ?_
  | with_reducible refine GS.ex_lst1 ?_
  | with_reducible refine GS.ex_truS ?_
  | ((with_reducible show ∃ _, GS.TruS _ _ ∧ _); refine GS.ex_tru rfl ?_)
  | with_reducible refine GS.eo_no ?_
  | with_reducible refine GS.eo_yes ?_
  | with_reducible refine GS.e3_list ?_
  | with_reducible refine GS.e3_str ?_
  | with_reducible refine GS.ej_cons ?_
  | with_reducible refine GS.ej_nil ?_
  | with_reducible refine GS.em_split ?_
  | with_reducible refine GS.em_starts ?_
  | ((with_reducible show GS.Ei _ _ _ _); first
    | with_reducible refine GS.ei_list ?_
    | with_reducible refine GS.ei_tup ?_
    | with_reducible refine GS.ei_str ?_
    | with_reducible refine GS.ei_enum ?_
    | with_reducible refine GS.ei_zip ?_
    | with_reducible refine GS.ei_range1 ?_
    | with_reducible refine GS.ei_range2 ?_)
  | ((with_reducible show _ ∧ _); first
    | ((with_reducible refine And.intro ?_ ?_); (with_reducible assumption))
    | ((with_reducible refine GS.sz_and ?_ ?_); exact rfl)
    | ((with_reducible refine GS.cnd_t ?_ ?_); exact rfl)
    | ((with_reducible refine GS.cnd_f ?_ ?_); exact rfl))))

section
variable {P : Program} {w : World} {K : PySem.W.Frag} {mg : Str → Option Value} {base : Heap} {C Co fo : Addr} {j : J} {q : Sh → Prop} {x : Sh} {a : Ty0} {ex : Addr → List (Str × V) → Prop}

theorem insRt {r : Rat} : InsOf C (Rt C r) := ⟨_, _, rfl⟩
theorem use_init {t b : Int} {M : Mode} (hb : b ≠ 0) (hs : Sz 9000 b) (k : q (Rt C (Rat.divInt t b))) : fsInit K C Co M ([.int t, .int b] ++ List.map Sh.v []) fun oc => (∀ r, oc = .ret r → ∃ ns l, r = .ins C ns l) ∧ oc.fin q ex :=
  .inl ⟨t, b, rfl, hb, hs, fun r e => by cases e; exact ⟨_, _, rfl⟩, k⟩
theorem cmw {a b : Int} (h1 : Sz 4000 a) (h2 : Sz 4000 b) : CMulW a b := by
  have e1 := h1.log (by decide)
  have e2 := h2.log (by decide)
  unfold CMulW
  omega
local macro_rules | `(tactic| walk_at "k") => `(tactic| repeat (first
  | ((with_reducible show GS.Ev _ _ _ _); first
    | with_reducible refine GS.ev_c ?_
    | ((with_reducible show GS.Ev _ (L2.tVar _) _ _); refine GS.ev_var rfl ?_)
    | with_reducible refine GS.ev_op ?_
    | with_reducible refine GS.ev_cb ?_
    | with_reducible refine GS.ev_un ?_
    | with_reducible refine GS.ev_tup ?_
    | with_reducible refine GS.ev_lst ?_
    | with_reducible refine GS.ev_if ?_
    | with_reducible refine GS.ev_andV ?_
    | with_reducible refine GS.ev_orV ?_
    | with_reducible refine GS.ev_notV ?_
    | with_reducible refine GS.ev_sl ?_
    | with_reducible refine GS.ev_fmtS ?_
    | with_reducible refine GS.ev_fmtL ?_
    | with_reducible refine GS.ev_joined ?_
    | with_reducible refine GS.ev_m1 ?_)
  | ((with_reducible show GS.E2 _ _ _ _ _); first
    | with_reducible refine GS.e2_I0 ?_
    | with_reducible refine GS.e2_I ?_
    | ((with_reducible refine GS.e2_eq ?_ ?_); exact rfl)
    | ((with_reducible refine GS.e2_ne ?_ ?_); exact rfl)
    | with_reducible refine GS.e2_isN ?_
    | with_reducible refine GS.e2_notN ?_
    | ((with_reducible show GS.E2 _ (L2.rIxL _) _ _ _); refine GS.e2_ixL rfl ?_)
    | ((with_reducible show GS.E2 _ (L2.rIxT _) _ _ _); refine GS.e2_ixT rfl ?_)
    | ((with_reducible show GS.E2 _ (L2.rIx _) (GS.Sh.lst _) _ _); refine GS.e2_ix_l rfl ?_)
    | ((with_reducible show GS.E2 _ (L2.rIx _) (GS.Sh.tup _) _ _); refine GS.e2_ix_t rfl ?_)
    | with_reducible refine GS.e2_cat ?_
    | with_reducible refine GS.e2_addS ?_
    | with_reducible refine GS.e2_inSign ?_)
  | ((with_reducible show GS.Ea _ _ _ _); first
    | with_reducible refine GS.ea_cons ?_
    | with_reducible refine GS.ea_nil ?_)
  | ((with_reducible show GS.Et _ _ _ _); first
    | with_reducible refine GS.et_B ?_
    | with_reducible refine GS.et_test ?_
    | with_reducible refine GS.et_not ?_
    | with_reducible refine GS.et_and ?_
    | with_reducible refine GS.et_or ?_
    | with_reducible refine GS.et_yes ?_
    | with_reducible refine GS.et_tru ?_)
  | ((with_reducible show GS.B _ _ _ _ _ _ _); first
    | with_reducible refine GS.b_seq ?_
    | with_reducible refine GS.b_if ?_
    | with_reducible refine GS.b_ret ?_
    | with_reducible refine GS.b_asg ?_
    | with_reducible refine GS.b_drop ?_
    | with_reducible refine GS.b_next ?_
    | with_reducible refine GS.b_par ?_
    | with_reducible refine GS.b_raise (fun _ => rfl) ?_)
  | with_reducible refine GS.eg_name ?_
  | with_reducible refine GS.egs_cons ?_
  | with_reducible refine GS.egs_nil ?_
  | ((with_reducible refine GS.eg_tup ?_ ?_); exact rfl)
  | with_reducible refine GS.e1_U ?_
  | ((with_reducible show GS.En _ _ _ _); first
    | with_reducible refine GS.en_len_l ?_
    | with_reducible refine GS.en_len_t ?_
    | with_reducible refine GS.en_len_str ?_
    | with_reducible refine GS.en_int ?_
    | with_reducible refine GS.en_bool ?_
    | with_reducible refine GS.en_abs ?_
    | with_reducible refine GS.en_str ?_
    | with_reducible refine GS.en_strL ?_
    | with_reducible refine GS.en_gcd ?_
    | with_reducible refine GS.en_list_l ?_
    | with_reducible refine GS.en_list_t ?_
    | with_reducible refine GS.en_tuple_l ?_)
  | with_reducible refine GS.ex_bl ?_
  | with_reducible refine GS.ex_str ?_
  | with_reducible refine GS.ex_int ?_
  | with_reducible refine GS.ex_v ?_
  | with_reducible refine GS.ex_two ?_
  | with_reducible refine GS.ex_lst ?_
  | with_reducible refine GS.ex_tup ?_
  | with_reducible refine GS.ex_lst1 ?_
  | with_reducible refine GS.ex_truS ?_
  | ((with_reducible show ∃ _, GS.TruS _ _ ∧ _); refine GS.ex_tru rfl ?_)
  | with_reducible refine GS.eo_no ?_
  | with_reducible refine GS.eo_yes ?_
  | with_reducible refine GS.e3_list ?_
  | with_reducible refine GS.e3_str ?_
  | with_reducible refine GS.ej_cons ?_
  | with_reducible refine GS.ej_nil ?_
  | with_reducible refine GS.em_split ?_
  | with_reducible refine GS.em_starts ?_
  | ((with_reducible show GS.Ei _ _ _ _); first
    | with_reducible refine GS.ei_list ?_
    | with_reducible refine GS.ei_tup ?_
    | with_reducible refine GS.ei_str ?_
    | with_reducible refine GS.ei_enum ?_
    | with_reducible refine GS.ei_zip ?_
    | with_reducible refine GS.ei_range1 ?_
    | with_reducible refine GS.ei_range2 ?_)
  | ((with_reducible show _ ∧ _); first
    | ((with_reducible refine And.intro ?_ ?_); (with_reducible assumption))
    | ((with_reducible refine GS.sz_and ?_ ?_); exact rfl)
    | ((with_reducible refine GS.cnd_t ?_ ?_); exact rfl)
    | ((with_reducible refine GS.cnd_f ?_ ?_); exact rfl))
  | ((with_reducible show GS.En _ (L2.rIsi _) _ _); first
    | ((with_reducible apply isi_int (by with_reducible assumption)); (first | with_reducible assumption | exact knd_int | exact knd_bl | exact knd_str | exact knd_non | exact knd_lst | exact knd_tup | exact knd_rat (by assumption)))
    | ((with_reducible apply isi_bool (by with_reducible assumption)); (first | with_reducible assumption | exact knd_int | exact knd_bl | exact knd_str | exact knd_non | exact knd_lst | exact knd_tup | exact knd_rat (by assumption)))
    | ((with_reducible apply isi_str (by with_reducible assumption)); (first | with_reducible assumption | exact knd_int | exact knd_bl | exact knd_str | exact knd_non | exact knd_lst | exact knd_tup | exact knd_rat (by assumption)))
    | ((with_reducible apply isi_tuple (by with_reducible assumption)); (first | with_reducible assumption | exact knd_int | exact knd_bl | exact knd_str | exact knd_non | exact knd_lst | exact knd_tup | exact knd_rat (by assumption)))
    | ((with_reducible apply isi_list (by with_reducible assumption)); (first | with_reducible assumption | exact knd_int | exact knd_bl | exact knd_str | exact knd_non | exact knd_lst | exact knd_tup | exact knd_rat (by assumption)))
    | ((with_reducible apply isi_rat (by with_reducible assumption)); (first | with_reducible assumption | exact knd_int | exact knd_bl | exact knd_str | exact knd_non | exact knd_lst | exact knd_tup | exact knd_rat (by assumption))))
  | (with_reducible refine ev_top (by with_reducible assumption) ?_)
  | (with_reducible refine ev_bot (by with_reducible assumption) ?_)
  | with_reducible refine ex_rat ?_
  | with_reducible refine GS.ev_call (E := L2.E0) GS.XOk.no ?_
  | with_reducible refine GS.ev_call GS.XOk.own ?_
  | ((with_reducible show GS.Callx _ _ _ _ _); first
    | ((with_reducible apply use_integral); (first | with_reducible assumption | exact knd_int | exact knd_bl | exact knd_str | exact knd_non | exact knd_lst | exact knd_tup | exact knd_rat (by assumption)))
    | ((with_reducible apply use_parts); first | with_reducible assumption | exact num_rat | exact num_int)
    | ((with_reducible refine use_digits ?_ ?_); with_reducible assumption)
    | ((with_reducible refine use_intof ?_ ?_); with_reducible assumption)
    | ((with_reducible refine use_frac ?_ ?_); with_reducible assumption))
  | with_reducible refine GS.ev_make (E := L2.E0) GS.XOk.no ?_
  | with_reducible refine GS.ev_make GS.XOk.own ?_
  | ((with_reducible show L2.CMulW _ _ ∧ _); refine And.intro (cmw (by with_reducible assumption) (by with_reducible assumption)) ?_)
  | ((with_reducible refine use_init ?_ ?_ ?_); (with_reducible assumption); (with_reducible assumption))
  | with_reducible refine GS.ev_prop GS.XOk.no ?_))

/-! ### text, repr -/
def nt (i : Int) : Str := toString i
def txt (r : Rat) : Str := if r.den = 1 then nt r.num else ((Str.empty ++ nt r.num) ++ (Str.ofString "/")) ++ nt r.den
def rpr (r : Rat) : Str := ((Str.empty ++ (Str.ofString "Ratio(")) ++ txt r) ++ (Str.ofString ")")
theorem lt10 {i : Int} (h : Sz 14000 i) : i.natAbs < 10 ^ 4300 := Nat.lt_of_lt_of_le h (by decide +kernel)
theorem nt_len {i : Int} (h : Sz 14000 i) : (nt i).length ≤ 4301 := by
  have e := int_text_length_le10 (k := 4300) (by decide) (lt10 h)
  unfold nt
  rw [PySem.ofString_length]
  exact e
theorem str_len (a b : Str) : (a ++ b).length = a.length + b.length := by rw [TL.len_tl, TL.tl_append, List.length_append, ← TL.len_tl, ← TL.len_tl]
theorem txt_len {r : Rat} (h : SzR 14000 r) : (txt r).length ≤ 10000 := by
  have h1 := nt_len h.1
  have h2 := nt_len h.2
  have h3 : (Str.ofString "/").length = 1 := by decide +kernel
  have h4 : Str.empty.length = 0 := rfl
  unfold txt
  split
  · omega
  · rw [str_len, str_len, str_len]
    omega
theorem le_line {n : Nat} (h : n ≤ 100000) : n ≤ sizeLine := Nat.le_trans h (by decide)
def fsText (C : Addr) : Fs := fun _ l S => ∃ r, l = [Rt C r] ∧ SzR 14000 r ∧ S (.ret (.str (txt r)))
theorem ok_text {f : Addr} {fd : FuncData} (F : Fun K "text" "Ratio.text" s_Ratio_text f fd) (T : Tx P K mg C Co fo) : FnOk P w K mg base CX0 1 f fd ["self"] (SpS (fsText C)) := by
  refine fun_okS F sc_Ratio_text (fun M l S ⟨x, e, _⟩ => e ▸ rfl) fun cdv A outer s H E hr => ?_
  refine ⟨_, (pss_cons (ps_if (pt_cmpR op_eq (pe_fld (pv 0) rfl) pe_int (nomark _)) (pss_one (ps_ret (pe_joined1 (pe_fmtL rfl T.nd (pe_fld (pv 0) rfl))))) pss_nil)
      (pss_one (ps_ret (pe_joined (.cons (pe_fmtL rfl T.nd (pe_fld (pv 0) rfl)) (.cons pe_str (.cons (pe_fmtL rfl T.nd (pe_fld (pv 0) rfl)) .nil))))))), ?_⟩
  rintro M l S ⟨r, rfl, hs, k⟩
  show B _ _ _ _ _ _ _
  try simp only [cxK, cxKn]
  walk_at "k"
  unfold txt at k
  refine cnd (c := r.den = 1) (by simp; omega) (fun h => ?_) (fun h => ?_)
  · walk_at "k"
    rw [if_pos h] at k
    exact ⟨lt10 hs.1, k⟩
  · rw [if_neg h] at k
    walk_at "k"
    have e1 := lt10 hs.1
    have e2 := lt10 hs.2
    have l1 := nt_len hs.1
    have l2 := nt_len hs.2
    have l3 : (Str.ofString "/").length = 1 := by decide +kernel
    have l4 : Str.empty.length = 0 := rfl
    unfold nt at l1 l2
    walk_at "k"
    refine ⟨le_line (by rw [str_len]; omega), ?_⟩
    walk_at "k"
    refine ⟨le_line (by rw [str_len, str_len]; omega), ?_⟩
    walk_at "k"
    refine ⟨le_line (by rw [str_len, str_len, str_len]; omega), ?_⟩
    walk_at "k"
    exact k
theorem use_text {r : Rat} (hs : SzR 14000 r) (k : q (.str (txt r))) : Callx j (fsText C) [Rt C r] q ex := callx_of ⟨r, rfl, hs, k⟩
theorem ev_text {ss : SS} {to : TE} (h : Ev j to ss fun o => ∃ r, o = Rt C r ∧ SzR 14000 r ∧ q (.str (txt r))) : Ev j (tProp C (SpS (fsText C)) [] E0 to) ss q := ev_prop XOk.no (h.mono fun x ⟨r, e, hs, k⟩ => by
  subst e
  exact ⟨_, _, rfl, use_text hs k⟩)
def fsRepr (C : Addr) : Fs := fun _ l S => ∃ r, l = [Rt C r] ∧ SzR 14000 r ∧ S (.ret (.str (rpr r)))
theorem ok_repr {f : Addr} {fd : FuncData} (F : Fun K "__repr__" "Ratio.__repr__" s_Ratio___repr__ f fd) (T : Tx P K mg C Co fo) (d_text : DfP P w K mg base CX0 1 C "text" (SpS (fsText C))) : FnOk P w K mg base CX0 4 f fd ["self"] (SpS (fsRepr C)) := by
  refine fun_okS F sc_Ratio___repr__ (fun M l S ⟨x, e, _⟩ => e ▸ rfl) fun cdv A outer s H E hr => ?_
  refine ⟨_, (pss_one (ps_ret (pe_joined (.cons pe_str (.cons (pe_fmt (pe_dfP d_text hr (by decide) pass0 (pv 0))) (.cons pe_str .nil)))))), ?_⟩
  rintro M l S ⟨r, rfl, hs, k⟩
  show B _ _ _ _ _ _ _
  try simp only [cxK, cxKn]
  have l1 := txt_len hs
  have l3 : (Str.ofString "Ratio(").length = 6 := by decide +kernel
  have l5 : (Str.ofString ")").length = 1 := by decide +kernel
  have l4 : Str.empty.length = 0 := rfl
  walk_at "k"
  refine ⟨le_line (by rw [str_len]; omega), ?_⟩
  walk_at "k"
  refine ⟨_, _, rfl, use_text hs ?_⟩
  refine .inl ⟨_, rfl, le_line (by omega), ?_⟩
  walk_at "k"
  refine ⟨le_line (by rw [str_len, str_len]; omega), ?_⟩
  walk_at "k"
  refine ⟨le_line (by rw [str_len, str_len, str_len]; omega), ?_⟩
  walk_at "k"
  exact k
def fsArith (C : Addr) (g : Rat → Rat → Rat) : Fs := fun _ l S => ∃ r y t, l = [Rt C r, y] ∧ Num C y t ∧ SzR 4000 r ∧ SzR 4000 t ∧ S (.ret (Rt C (g r t)))
theorem ok_add {f : Addr} {fd : FuncData} (F : Fun K "__add__" "Ratio.__add__" s_Ratio___add__ f fd) (T : Tx P K mg C Co fo) (d_parts_of : Df P w K mg base CX0 2 "parts_of" [] (SpS (fsParts C)))
    (d_Ratio2 : DfC P w K mg base (L2.CX P w) 4 "Ratio" C [] (SpI C (fsInit K C Co))) : FnOk P w K mg base CX0 6 f fd ["self", "other"] (SpS (fsArith C (· + ·))) := by
  refine fun_okS F sc_Ratio___add__ (fun M l S ⟨_, _, _, e, _⟩ => e ▸ rfl) fun cdv A outer s H E hr => ?_
  refine ⟨_, (pss_cons (ps_set (i := 2) sc_Ratio___add__.nd rfl (Or.inl rfl) (pe_df d_parts_of hr (by decide) pass0 (pa_cons (pv 1) pa_nil)))
      (pss_cons (ps_if (pt_cmpR op_isN (pv 2) pe_non (nomark _)) (pss_one ps_never) pss_nil)
      (pss_one (ps_ret (pe_dfC d_Ratio2 hr (by decide) passL (pa_cons (pe_op op_add (pe_op op_mulW (pe_fld (pv 0) rfl) (pe_ix (r := rIxT K) ix_tup (pv 2) pe_int (fun _ _ => rfl))) (pe_op op_mulW (pe_ix (r := rIxT K) ix_tup (pv 2) pe_int (fun _ _ => rfl)) (pe_fld (pv 0) rfl))) (pa_cons (pe_op op_mulW (pe_fld (pv 0) rfl) (pe_ix (r := rIxT K) ix_tup (pv 2) pe_int (fun _ _ => rfl))) pa_nil))))))), ?_⟩
  rintro M l S ⟨r, y, t, rfl, hy, ⟨h1, h2⟩, ⟨h3, h4⟩, k⟩
  show B _ _ _ _ _ _ _
  try simp only [cxK, cxKn]
  have hd : (r.den : Int) * t.den ≠ 0 := Int.mul_ne_zero (den_ne r) (den_ne t)
  have hz : Sz 9000 ((r.den : Int) * t.den) := (h2.mul h4).mono (by decide)
  walk_at "k"
  rw [add_eq]
  exact k
theorem ok_sub {f : Addr} {fd : FuncData} (F : Fun K "__sub__" "Ratio.__sub__" s_Ratio___sub__ f fd) (T : Tx P K mg C Co fo) (d_parts_of : Df P w K mg base CX0 2 "parts_of" [] (SpS (fsParts C)))
    (d_Ratio2 : DfC P w K mg base (L2.CX P w) 4 "Ratio" C [] (SpI C (fsInit K C Co))) : FnOk P w K mg base CX0 6 f fd ["self", "other"] (SpS (fsArith C (· - ·))) := by
  refine fun_okS F sc_Ratio___sub__ (fun M l S ⟨_, _, _, e, _⟩ => e ▸ rfl) fun cdv A outer s H E hr => ?_
  refine ⟨_, (pss_cons (ps_set (i := 2) sc_Ratio___sub__.nd rfl (Or.inl rfl) (pe_df d_parts_of hr (by decide) pass0 (pa_cons (pv 1) pa_nil)))
      (pss_cons (ps_if (pt_cmpR op_isN (pv 2) pe_non (nomark _)) (pss_one ps_never) pss_nil)
      (pss_one (ps_ret (pe_dfC d_Ratio2 hr (by decide) passL (pa_cons (pe_op op_sub (pe_op op_mulW (pe_fld (pv 0) rfl) (pe_ix (r := rIxT K) ix_tup (pv 2) pe_int (fun _ _ => rfl))) (pe_op op_mulW (pe_ix (r := rIxT K) ix_tup (pv 2) pe_int (fun _ _ => rfl)) (pe_fld (pv 0) rfl))) (pa_cons (pe_op op_mulW (pe_fld (pv 0) rfl) (pe_ix (r := rIxT K) ix_tup (pv 2) pe_int (fun _ _ => rfl))) pa_nil))))))), ?_⟩
  rintro M l S ⟨r, y, t, rfl, hy, ⟨h1, h2⟩, ⟨h3, h4⟩, k⟩
  show B _ _ _ _ _ _ _
  try simp only [cxK, cxKn]
  have hd : (r.den : Int) * t.den ≠ 0 := Int.mul_ne_zero (den_ne r) (den_ne t)
  have hz : Sz 9000 ((r.den : Int) * t.den) := (h2.mul h4).mono (by decide)
  walk_at "k"
  rw [sub_eq]
  exact k
theorem ok_mul {f : Addr} {fd : FuncData} (F : Fun K "__mul__" "Ratio.__mul__" s_Ratio___mul__ f fd) (T : Tx P K mg C Co fo) (d_parts_of : Df P w K mg base CX0 2 "parts_of" [] (SpS (fsParts C)))
    (d_Ratio2 : DfC P w K mg base (L2.CX P w) 4 "Ratio" C [] (SpI C (fsInit K C Co))) : FnOk P w K mg base CX0 6 f fd ["self", "other"] (SpS (fsArith C (· * ·))) := by
  refine fun_okS F sc_Ratio___mul__ (fun M l S ⟨_, _, _, e, _⟩ => e ▸ rfl) fun cdv A outer s H E hr => ?_
  refine ⟨_, (pss_cons (ps_set (i := 2) sc_Ratio___mul__.nd rfl (Or.inl rfl) (pe_df d_parts_of hr (by decide) pass0 (pa_cons (pv 1) pa_nil)))
      (pss_cons (ps_if (pt_cmpR op_isN (pv 2) pe_non (nomark _)) (pss_one ps_never) pss_nil)
      (pss_one (ps_ret (pe_dfC d_Ratio2 hr (by decide) passL (pa_cons (pe_op op_mulW (pe_fld (pv 0) rfl) (pe_ix (r := rIxT K) ix_tup (pv 2) pe_int (fun _ _ => rfl))) (pa_cons (pe_op op_mulW (pe_fld (pv 0) rfl) (pe_ix (r := rIxT K) ix_tup (pv 2) pe_int (fun _ _ => rfl))) pa_nil))))))), ?_⟩
  rintro M l S ⟨r, y, t, rfl, hy, ⟨h1, h2⟩, ⟨h3, h4⟩, k⟩
  show B _ _ _ _ _ _ _
  try simp only [cxK, cxKn]
  have hd : (r.den : Int) * t.den ≠ 0 := Int.mul_ne_zero (den_ne r) (den_ne t)
  have hz : Sz 9000 ((r.den : Int) * t.den) := (h2.mul h4).mono (by decide)
  walk_at "k"
  rw [mul_eq]
  exact k
def fsNeg (C : Addr) : Fs := fun _ l S => ∃ r, l = [Rt C r] ∧ SzR 9000 r ∧ S (.ret (Rt C (-r)))
theorem ok_neg {f : Addr} {fd : FuncData} (F : Fun K "__neg__" "Ratio.__neg__" s_Ratio___neg__ f fd) (T : Tx P K mg C Co fo)
    (d_Ratio2 : DfC P w K mg base (L2.CX P w) 4 "Ratio" C [] (SpI C (fsInit K C Co))) : FnOk P w K mg base CX0 6 f fd ["self"] (SpS (fsNeg C)) := by
  refine fun_okS F sc_Ratio___neg__ (fun M l S ⟨_, e, _⟩ => e ▸ rfl) fun cdv A outer s H E hr => ?_
  refine ⟨_, (pss_one (ps_ret (pe_dfC d_Ratio2 hr (by decide) passL (pa_cons (pe_un un_neg (pe_fld (pv 0) rfl)) (pa_cons (pe_fld (pv 0) rfl) pa_nil))))), ?_⟩
  rintro M l S ⟨r, rfl, ⟨h1, h2⟩, k⟩
  show B _ _ _ _ _ _ _
  try simp only [cxK, cxKn]
  have hd := den_ne r
  walk_at "k"
  rw [neg_eq]
  exact k
def fsEq (K : PySem.W.Frag) (C : Addr) : Fs := fun _ l S => ∃ r y, l = [Rt C r, y] ∧ ((∃ t, y = Rt C t ∧ S (.ret (.bl (decide (r = t))))) ∨ ∃ a, Knd K C y a ∧ a ≠ .rat ∧ S (.ret (.bl false)))
theorem ok_eq {f : Addr} {fd : FuncData} (F : Fun K "__eq__" "Ratio.__eq__" s_Ratio___eq__ f fd) (T : Tx P K mg C Co fo) : FnOk P w K mg base CX0 1 f fd ["self", "other"] (SpS (fsEq K C)) := by
  refine fun_okS F sc_Ratio___eq__ (fun M l S ⟨_, _, e, _⟩ => e ▸ rfl) fun cdv A outer s H E hr => ?_
  refine ⟨_, (pss_one (ps_ret (pe_and (pe_callB call_isi (by rfl) T.n_isinstance (by decide +kernel) (pa_cons (pv 1) (pa_cons (pe_glob (v := .ref C) (by rfl) T.g_Ratio rfl) pa_nil))) (pe_and (pe_cmpR op_eq (pe_fld (pv 0) rfl) (pe_fld (pv 1) rfl) (nomark _)) (pe_one (pe_cmpR op_eq (pe_fld (pv 0) rfl) (pe_fld (pv 1) rfl) (nomark _))))))), ?_⟩
  rintro M l S ⟨r, y, rfl, h⟩
  show B _ _ _ _ _ _ _
  try simp only [cxK, cxKn]
  rcases h with ⟨t, rfl, k⟩ | ⟨a, ka, hn, k⟩
  · walk_at "k"
    have hrt : r = t ↔ r.num = t.num ∧ r.den = t.den := ⟨fun e => e ▸ ⟨rfl, rfl⟩, fun e => Rat.ext e.1 e.2⟩
    refine cnd (c := r.num = t.num) (by simp) (fun h1 => ?_) (fun h1 => ?_)
    · walk_at "k"
      have e : decide (V.int (r.den : Int) = V.int (t.den : Int)) = decide (r = t) := by
        rw [Bool.eq_iff_iff, decide_eq_true_iff, decide_eq_true_iff, hrt]
        simp [h1]
        omega
      rw [e]
      exact k
    · have e : decide (r = t) = false := decide_eq_false fun z => h1 (hrt.mp z).1
      rw [e] at k
      exact k
  · cases a <;> first | exact absurd rfl hn | (walk_at "k"; exact k)
def fsBool (C : Addr) : Fs := fun _ l S => ∃ r, l = [Rt C r] ∧ S (.ret (.bl (decide (r ≠ 0))))
theorem ok_bool {f : Addr} {fd : FuncData} (F : Fun K "__bool__" "Ratio.__bool__" s_Ratio___bool__ f fd) (T : Tx P K mg C Co fo) : FnOk P w K mg base CX0 1 f fd ["self"] (SpS (fsBool C)) := by
  refine fun_okS F sc_Ratio___bool__ (fun M l S ⟨_, e, _⟩ => e ▸ rfl) fun cdv A outer s H E hr => ?_
  refine ⟨_, (pss_one (ps_ret (pe_callTy call_bool1 (by rfl) T.n_bool (by decide +kernel) (pa_cons (pe_cmpR op_ne (pe_fld (pv 0) rfl) pe_int (nomark _)) pa_nil)))), ?_⟩
  rintro M l S ⟨r, rfl, k⟩
  show B _ _ _ _ _ _ _
  try simp only [cxK, cxKn]
  walk_at "k"
  have e : (!decide (V.int r.num = V.int 0)) = decide (r ≠ 0) := by
    rw [Bool.eq_iff_iff, decide_eq_true_iff]
    have z : r = 0 ↔ r.num = 0 := Rat.num_eq_zero.symm
    rw [ne_eq, z]
    simp
  rw [e]
  exact k
def fsOver (C Co : Addr) : Fs := fun _ l S => ∃ r y t, l = [Rt C r, y] ∧ Num C y t ∧ SzR 4000 r ∧ SzR 4000 t ∧ ((t ≠ 0 ∧ S (.ret (Rt C (r / t)))) ∨ (t = 0 ∧ S (.exc Co outN)))
theorem ok_over {f : Addr} {fd : FuncData} (F : Fun K "over" "Ratio.over" s_Ratio_over f fd) (T : Tx P K mg C Co fo) (d_parts_of : Df P w K mg base CX0 2 "parts_of" [] (SpS (fsParts C)))
    (d_Ratio2 : DfC P w K mg base (L2.CX P w) 4 "Ratio" C [] (SpI C (fsInit K C Co))) : FnOk P w K mg base (L2.CX P w) 6 f fd ["self", "other"] (SpS (fsOver C Co)) := by
  refine fun_okSX F sc_Ratio_over (fun M l S ⟨_, _, _, e, _⟩ => e ▸ rfl) fun cdv A outer s H E hr => ?_
  refine ⟨_, (pss_cons (ps_set (i := 2) sc_Ratio_over.nd rfl (Or.inl rfl) (pe_df d_parts_of hr (by decide) pass0 (pa_cons (pv 1) pa_nil)))
      (pss_cons (ps_if (PW.pt (pw_or (pt_cmpR op_isN (pv 2) pe_non (nomark _)) (pw_or1 (pt_cmpR op_eq (pe_ix (r := rIxT K) ix_tup (pv 2) pe_int (fun _ _ => rfl)) pe_int (nomark _))))) (pss_one (ps_raiseOut rfl T.out_OutOf hr (takes_of rfl rfl rfl rfl) (pa_cons pe_str pa_nil))) pss_nil)
      (pss_one (ps_ret (pe_dfC d_Ratio2 hr (by decide) passL (pa_cons (pe_op op_mulW (pe_fld (pv 0) rfl) (pe_ix (r := rIxT K) ix_tup (pv 2) pe_int (fun _ _ => rfl))) (pa_cons (pe_op op_mulW (pe_fld (pv 0) rfl) (pe_ix (r := rIxT K) ix_tup (pv 2) pe_int (fun _ _ => rfl))) pa_nil))))))), ?_⟩
  rintro M l S ⟨r, y, t, rfl, hy, ⟨h1, h2⟩, ⟨h3, h4⟩, k⟩
  show B _ _ _ _ _ _ _
  try simp only [cxK, cxKn]
  walk_at "k"
  have z : t = 0 ↔ t.num = 0 := Rat.num_eq_zero.symm
  refine cnd (c := t = 0) (by rw [z, decide_eq_true_iff]; exact ⟨fun e => V.int.inj e, fun e => by rw [e]⟩) (fun ht => ?_) (fun ht => ?_)
  · walk_at "k"
    rcases k with ⟨h, _⟩ | ⟨_, k⟩
    · exact absurd ht h
    · exact k
  · have hn : t.num ≠ 0 := fun e => ht (z.mpr e)
    have hd : (r.den : Int) * t.num ≠ 0 := Int.mul_ne_zero (den_ne r) hn
    have hz : Sz 9000 ((r.den : Int) * t.num) := (h2.mul h3).mono (by decide)
    walk_at "k"
    rcases k with ⟨_, k⟩ | ⟨h, _⟩
    · rw [div_eq]
      exact k
    · exact absurd h ht
def fsBelow (C : Addr) : Fs := fun _ l S => ∃ r y t, l = [Rt C r, y] ∧ Num C y t ∧ SzR 4000 r ∧ SzR 4000 t ∧ S (.ret (.bl (decide (r.num * t.den < t.num * r.den))))
theorem ok_below {f : Addr} {fd : FuncData} (F : Fun K "below" "Ratio.below" s_Ratio_below f fd) (T : Tx P K mg C Co fo) (d_parts_of : Df P w K mg base CX0 2 "parts_of" [] (SpS (fsParts C))) :
    FnOk P w K mg base (L2.CX P w) 6 f fd ["self", "other"] (SpS (fsBelow C)) := by
  refine fun_okSX F sc_Ratio_below (fun M l S ⟨_, _, _, e, _⟩ => e ▸ rfl) fun cdv A outer s H E hr => ?_
  refine ⟨_, (pss_cons (ps_set (i := 2) sc_Ratio_below.nd rfl (Or.inl rfl) (pe_df d_parts_of hr (by decide) pass0 (pa_cons (pv 1) pa_nil)))
      (pss_cons (ps_if (pt_cmpR op_isN (pv 2) pe_non (nomark _)) (pss_one (ps_raiseOut rfl T.out_OutOf hr (takes_of rfl rfl rfl rfl) (pa_cons pe_str pa_nil))) pss_nil)
      (pss_one (ps_ret (pe_cmpR op_lt (pe_op op_mulW (pe_fld (pv 0) rfl) (pe_ix (r := rIxT K) ix_tup (pv 2) pe_int (fun _ _ => rfl))) (pe_op op_mulW (pe_ix (r := rIxT K) ix_tup (pv 2) pe_int (fun _ _ => rfl)) (pe_fld (pv 0) rfl)) (nomark _)))))), ?_⟩
  rintro M l S ⟨r, y, t, rfl, hy, ⟨h1, h2⟩, ⟨h3, h4⟩, k⟩
  show B _ _ _ _ _ _ _
  try simp only [cxK, cxKn]
  walk_at "k"
  exact k
/-! ### read -/
theorem val_lt : ∀ (l : List Nat) (a : Nat), NumText.AllDigits l → l.foldl (fun acc c => acc * 10 + (c - 48)) a < (a + 1) * 10 ^ l.length
  | [], a, _ => by simp
  | c :: l, a, h => by
    have hc := h.head
    have z := val_lt l (a * 10 + (c - 48)) h.tail
    rw [List.foldl_cons, List.length_cons, Nat.pow_succ]
    refine Nat.lt_of_lt_of_le z ?_
    calc (a * 10 + (c - 48) + 1) * 10 ^ l.length ≤ (a * 10 + 10) * 10 ^ l.length := Nat.mul_le_mul_right _ (by omega)
      _ = (a + 1) * (10 ^ l.length * 10) := by rw [Nat.mul_comm (10 ^ l.length) 10, ← Nat.mul_assoc]; congr 1; omega
theorem isDig_all {l : List Nat} (h : isDigL l = true) : NumText.AllDigits l ∧ l.length ≤ 1000 := by
  unfold isDigL at h
  simp only [Bool.and_eq_true] at h
  obtain ⟨⟨⟨h1, h2⟩, h3⟩, h4⟩ := h
  refine ⟨fun c hc => ?_, of_decide_eq_true h2⟩
  have z := List.all_eq_true.mp h4 c hc
  unfold isd at z
  have e : (Str.ofString "0123456789").cps.toList = [48, 49, 50, 51, 52, 53, 54, 55, 56, 57] := by decide +kernel
  rw [e] at z
  have z := of_decide_eq_true z
  simp only [List.mem_cons, List.not_mem_nil, or_false] at z
  omega
theorem isDig_sz {l : List Nat} (h : isDigL l = true) : Sz 9000 ((NumText.digitsVal l : Nat) : Int) := by
  obtain ⟨h1, h2⟩ := isDig_all h
  have z := val_lt l 0 h1
  unfold Sz
  show NumText.digitsVal l < _
  unfold NumText.digitsVal
  have e : (0 + 1) * 10 ^ l.length ≤ 10 ^ 1000 := by
    rw [Nat.zero_add, Nat.one_mul]
    exact Nat.pow_le_pow_right (by decide) h2
  exact Nat.lt_of_lt_of_le (Nat.lt_of_lt_of_le z e) (by decide +kernel)
theorem intOf_sz {l : List Nat} {n : Int} (h : intOfL l = some n) : Sz 9000 n := by
  unfold intOfL at h
  split at h
  · split at h
    · rename_i h1
      split at h
      · cases h
      · cases h
        exact (isDig_sz h1).neg
    · cases h
  · split at h
    · rename_i h1
      cases h
      exact isDig_sz h1
    · cases h
theorem frac_sz {l : List Nat} {t u : Int} (h : fracL l = some (t, u)) : u ≠ 0 ∧ Sz 9000 u := by
  unfold fracL at h
  split at h
  · rename_i a _
    cases e : intOfL a with
    | none => rw [e] at h; cases h
    | some n =>
      rw [e] at h
      cases h
      exact ⟨by decide, Nat.one_lt_two_pow (by decide)⟩
  · rename_i a b _
    cases e : intOfL a with
    | none => rw [e] at h; cases h
    | some n =>
      cases e2 : intOfL b with
      | none => rw [e, e2] at h; cases h
      | some m =>
        rw [e, e2] at h
        have h : (if m < 2 ∨ Nat.gcd n.natAbs m.natAbs ≠ 1 then none else some (n, m)) = some (t, u) := h
        split at h
        · cases h
        · rename_i hn
          cases h
          exact ⟨by omega, intOf_sz e2⟩
  · cases h
def fsRead (K : PySem.W.Frag) (C Co : Addr) : Fs := fun _ l S => (∃ w : Str, l = [.str w] ∧ w.length ≤ 100000 ∧ ((∃ t u, fracL w.cps.toList = some (t, u) ∧ S (.ret (Rt C (Rat.divInt t u)))) ∨ (fracL w.cps.toList = none ∧ S (.exc Co outN)))) ∨
  (∃ x a, l = [x] ∧ Knd K C x a ∧ a ≠ .str ∧ S (.exc Co outN))
theorem ok_read {f : Addr} {fd : FuncData} (F : Fun K "read" "Ratio.read" s_Ratio_read f fd) (T : Tx P K mg C Co fo) (d_fraction_of : Df P w K mg base CX0 3 "fraction_of" [] (SpS fsFrac))
    (d_Ratio2 : DfC P w K mg base (L2.CX P w) 4 "Ratio" C [] (SpI C (fsInit K C Co))) : FnOk P w K mg base (L2.CX P w) 6 f fd ["text"] (SpS (fsRead K C Co)) := by
  refine fun_okSX F sc_Ratio_read (fun M l S h => by rcases h with ⟨_, e, _⟩ | ⟨_, _, e, _⟩ <;> exact e ▸ rfl) fun cdv A outer s H E hr => ?_
  refine ⟨_, (pss_cons (ps_set (i := 1) sc_Ratio_read.nd rfl (Or.inl rfl) (pe_ifExp (pt_val (pe_callB call_isi (by rfl) T.n_isinstance (by decide +kernel) (pa_cons (pv 0) (pa_cons (pe_bltn (v := .ty "str") (u := .type "str") (by rfl) T.n_str (by decide +kernel) rfl) pa_nil)))) (pe_df d_fraction_of hr (by decide) pass0 (pa_cons (pv 0) pa_nil)) pe_non))
      (pss_cons (ps_if (pt_cmpR op_isN (pv 1) pe_non (nomark _)) (pss_one (ps_raiseOut rfl T.out_OutOf hr (takes_of rfl rfl rfl rfl) (pa_cons pe_str pa_nil))) pss_nil)
      (pss_one (ps_ret (pe_dfC d_Ratio2 hr (by decide) passL (pa_cons (pe_ix (r := rIxT K) ix_tup (pv 1) pe_int (fun _ _ => rfl)) (pa_cons (pe_ix (r := rIxT K) ix_tup (pv 1) pe_int (fun _ _ => rfl)) pa_nil))))))), ?_⟩
  intro M l S h
  show B _ _ _ _ _ _ _
  try simp only [cxK, cxKn]
  rcases h with ⟨w, rfl, hz, h⟩ | ⟨x, a, rfl, ka, hn, k⟩
  · walk_at "k"
    rcases h with ⟨t, u, e, k⟩ | ⟨e, k⟩
    · rw [e]
      obtain ⟨hu, hz⟩ := frac_sz e
      dsimp only [optF]
      walk_at "k"
      exact k
    · rw [e]
      dsimp only [optF]
      walk_at "k"
      exact k
  · cases a <;> first | exact absurd rfl hn | (walk_at "k"; exact k)
end
end KP

/-! K12L -/
set_option Elab.async false
set_option Elab.async false
set_option linter.all false
set_option maxRecDepth 100000
set_option maxHeartbeats 4000000
namespace KP
open PySem PySem.Spec PyProof.Rows L2 GM GS
local macro_rules | `(tactic| walk_at "sh") => `(tactic| repeat (first
  | ((with_reducible show GS.Ev _ _ _ _); first
    | with_reducible refine GS.ev_c ?_
    | ((with_reducible show GS.Ev _ (L2.tVar _) _ _); refine GS.ev_var rfl ?_)
    | with_reducible refine GS.ev_op ?_
    | with_reducible refine GS.ev_cb ?_
    | with_reducible refine GS.ev_un ?_
    | with_reducible refine GS.ev_tup ?_
    | with_reducible refine GS.ev_lst ?_
    | with_reducible refine GS.ev_if ?_
    | with_reducible refine GS.ev_andV ?_
    | with_reducible refine GS.ev_orV ?_
    | with_reducible refine GS.ev_notV ?_
    | with_reducible refine GS.ev_sl ?_
    | with_reducible refine GS.ev_fmtS ?_
    | with_reducible refine GS.ev_fmtL ?_
    | with_reducible refine GS.ev_joined ?_
    | with_reducible refine GS.ev_m1 ?_)
  | ((with_reducible show GS.E2 _ _ _ _ _); first
    | with_reducible refine GS.e2_I0 ?_
    | with_reducible refine GS.e2_I ?_
    | ((with_reducible refine GS.e2_eq ?_ ?_); exact rfl)
    | ((with_reducible refine GS.e2_ne ?_ ?_); exact rfl)
    | with_reducible refine GS.e2_isN ?_
    | with_reducible refine GS.e2_notN ?_
    | ((with_reducible show GS.E2 _ (L2.rIxL _) _ _ _); refine GS.e2_ixL rfl ?_)
    | ((with_reducible show GS.E2 _ (L2.rIxT _) _ _ _); refine GS.e2_ixT rfl ?_)
    | ((with_reducible show GS.E2 _ (L2.rIx _) (GS.Sh.lst _) _ _); refine GS.e2_ix_l rfl ?_)
    | ((with_reducible show GS.E2 _ (L2.rIx _) (GS.Sh.tup _) _ _); refine GS.e2_ix_t rfl ?_)
    | with_reducible refine GS.e2_cat ?_
    | with_reducible refine GS.e2_addS ?_
    | with_reducible refine GS.e2_inSign ?_)
  | ((with_reducible show GS.Ea _ _ _ _); first
    | with_reducible refine GS.ea_cons ?_
    | with_reducible refine GS.ea_nil ?_)
  | ((with_reducible show GS.Et _ _ _ _); first
    | with_reducible refine GS.et_B ?_
    | with_reducible refine GS.et_test ?_
    | with_reducible refine GS.et_not ?_
    | with_reducible refine GS.et_and ?_
    | with_reducible refine GS.et_or ?_
    | with_reducible refine GS.et_yes ?_
    | with_reducible refine GS.et_tru ?_)
  | ((with_reducible show GS.B _ _ _ _ _ _ _); first
    | with_reducible refine GS.b_seq ?_
    | with_reducible refine GS.b_if ?_
    | with_reducible refine GS.b_ret ?_
    | with_reducible refine GS.b_asg ?_
    | with_reducible refine GS.b_drop ?_
    | with_reducible refine GS.b_next ?_
    | with_reducible refine GS.b_par ?_
    | with_reducible refine GS.b_raise (fun _ => rfl) ?_)
  | with_reducible refine GS.eg_name ?_
  | with_reducible refine GS.egs_cons ?_
  | with_reducible refine GS.egs_nil ?_
  | ((with_reducible refine GS.eg_tup ?_ ?_); exact rfl)
  | with_reducible refine GS.e1_U ?_
  | ((with_reducible show GS.En _ _ _ _); first
    | with_reducible refine GS.en_len_l ?_
    | with_reducible refine GS.en_len_t ?_
    | with_reducible refine GS.en_len_str ?_
    | with_reducible refine GS.en_int ?_
    | with_reducible refine GS.en_bool ?_
    | with_reducible refine GS.en_abs ?_
    | with_reducible refine GS.en_str ?_
    | with_reducible refine GS.en_strL ?_
    | with_reducible refine GS.en_gcd ?_
    | with_reducible refine GS.en_list_l ?_
    | with_reducible refine GS.en_list_t ?_
    | with_reducible refine GS.en_tuple_l ?_)
  | with_reducible refine GS.ex_bl ?_
  | with_reducible refine GS.ex_str ?_
  | with_reducible refine GS.ex_int ?_
  | with_reducible refine GS.ex_v ?_
  | with_reducible refine GS.ex_two ?_
  | with_reducible refine GS.ex_lst ?_
  | with_reducible refine GS.ex_tup ?_
  | with_reducible refine GS.ex_lst1 ?_
  | with_reducible refine GS.ex_truS ?_
  | ((with_reducible show ∃ _, GS.TruS _ _ ∧ _); refine GS.ex_tru rfl ?_)
  | with_reducible refine GS.eo_no ?_
  | with_reducible refine GS.eo_yes ?_
  | with_reducible refine GS.e3_list ?_
  | with_reducible refine GS.e3_str ?_
  | with_reducible refine GS.ej_cons ?_
  | with_reducible refine GS.ej_nil ?_
  | with_reducible refine GS.em_split ?_
  | with_reducible refine GS.em_starts ?_
  | ((with_reducible show GS.Ei _ _ _ _); first
    | with_reducible refine GS.ei_list ?_
    | with_reducible refine GS.ei_tup ?_
    | with_reducible refine GS.ei_str ?_
    | with_reducible refine GS.ei_enum ?_
    | with_reducible refine GS.ei_zip ?_
    | with_reducible refine GS.ei_range1 ?_
    | with_reducible refine GS.ei_range2 ?_)
  | ((with_reducible show _ ∧ _); first
    | ((with_reducible refine And.intro ?_ ?_); (with_reducible assumption))
    | ((with_reducible refine GS.sz_and ?_ ?_); exact rfl)
    | ((with_reducible refine GS.cnd_t ?_ ?_); exact rfl)
    | ((with_reducible refine GS.cnd_f ?_ ?_); exact rfl))))

abbrev s__law_open : Stmt := top 26
theorem sc__law_open : FnScope ["script", "blend", "cell"] ["script"] (defScope s__law_open) := ⟨rfl, rfl, rfl, by decide +kernel, rfl, by decide +kernel, by decide +kernel⟩
abbrev s__law_pick : Stmt := top 27
theorem sc__law_pick : FnScope ["bag", "limit", "cell", "digit", "blend"] ["bag", "limit"] (defScope s__law_pick) := ⟨rfl, rfl, rfl, by decide +kernel, rfl, by decide +kernel, by decide +kernel⟩
abbrev s__law_of : Stmt := top 28
theorem sc__law_of : FnScope ["bag", "things"] ["bag", "things"] (defScope s__law_of) := ⟨rfl, rfl, rfl, by decide +kernel, rfl, by decide +kernel, by decide +kernel⟩
abbrev s__law_shuffled : Stmt := top 29
theorem sc__law_shuffled : FnScope ["bag", "things", "rest", "found", "t"] ["bag", "things"] (defScope s__law_shuffled) := ⟨rfl, rfl, rfl, by decide +kernel, rfl, by decide +kernel, by decide +kernel⟩
abbrev s__law_is_ratio : Stmt := top 30
theorem sc__law_is_ratio : FnScope ["told", "due"] ["told", "due"] (defScope s__law_is_ratio) := ⟨rfl, rfl, rfl, by decide +kernel, rfl, by decide +kernel, by decide +kernel⟩
abbrev s__law_same : Stmt := top 31
theorem sc__law_same : FnScope ["told", "due", "i"] ["told", "due"] (defScope s__law_same) := ⟨rfl, rfl, rfl, by decide +kernel, rfl, by decide +kernel, by decide +kernel⟩
abbrev s__law_error : Stmt := top 32
theorem sc__law_error : FnScope ["e", "marks", "spot", "above", "named"] ["e"] (defScope s__law_error) := ⟨rfl, rfl, rfl, by decide +kernel, rfl, by decide +kernel, by decide +kernel⟩
abbrev s__law_try : Stmt := top 33
theorem sc__law_try : FnScope ["deed", "e"] ["deed"] (defScope s__law_try) := ⟨rfl, rfl, rfl, by decide +kernel, rfl, by decide +kernel, by decide +kernel⟩
abbrev s__law_fails : Stmt := top 34
theorem sc__law_fails : FnScope ["deed", "due", "got"] ["deed", "due"] (defScope s__law_fails) := ⟨rfl, rfl, rfl, by decide +kernel, rfl, by decide +kernel, by decide +kernel⟩
abbrev s__law_gcd : Stmt := top 35
theorem sc__law_gcd : FnScope ["a", "b"] ["a", "b"] (defScope s__law_gcd) := ⟨rfl, rfl, rfl, by decide +kernel, rfl, by decide +kernel, by decide +kernel⟩
abbrev s__law_low : Stmt := top 36
theorem sc__law_low : FnScope ["top", "bottom", "g"] ["top", "bottom"] (defScope s__law_low) := ⟨rfl, rfl, rfl, by decide +kernel, rfl, by decide +kernel, by decide +kernel⟩
abbrev s__law_plus : Stmt := top 37
theorem sc__law_plus : FnScope ["p", "q"] ["p", "q"] (defScope s__law_plus) := ⟨rfl, rfl, rfl, by decide +kernel, rfl, by decide +kernel, by decide +kernel⟩
abbrev s__law_times : Stmt := top 38
theorem sc__law_times : FnScope ["p", "q"] ["p", "q"] (defScope s__law_times) := ⟨rfl, rfl, rfl, by decide +kernel, rfl, by decide +kernel, by decide +kernel⟩
abbrev s__law_number : Stmt := top 39
theorem sc__law_number : FnScope ["p"] ["p"] (defScope s__law_number) := ⟨rfl, rfl, rfl, by decide +kernel, rfl, by decide +kernel, by decide +kernel⟩
abbrev s__law_fraction : Stmt := top 40
theorem sc__law_fraction : FnScope ["bag", "way", "sign", "top"] ["bag"] (defScope s__law_fraction) := ⟨rfl, rfl, rfl, by decide +kernel, rfl, by decide +kernel, by decide +kernel⟩
abbrev s__law_right : Stmt := top 41
theorem sc__law_right : FnScope ["x", "p"] ["x", "p"] (defScope s__law_right) := ⟨rfl, rfl, rfl, by decide +kernel, rfl, by decide +kernel, by decide +kernel⟩
abbrev s__law_roads : Stmt := top 42
theorem sc__law_roads : FnScope ["bag", "p", "q", "t", "b", "much", "n", "less", "more", "found", "product", "quotient"] ["bag", "p", "q"] (defScope s__law_roads) := ⟨rfl, rfl, rfl, by decide +kernel, rfl, by decide +kernel, by decide +kernel⟩
abbrev s__law_order_right : Stmt := top 43
theorem sc__law_order_right : FnScope ["x", "y", "p", "q", "sign", "n"] ["x", "y", "p", "q"] (defScope s__law_order_right) := ⟨rfl, rfl, rfl, by decide +kernel, rfl, by decide +kernel, by decide +kernel⟩
abbrev s__law_reckoned_right : Stmt := top 44
theorem sc__law_reckoned_right : FnScope ["xs", "fractions", "x", "y", "z", "p", "q", "r", "sums"] ["xs", "fractions"] (defScope s__law_reckoned_right) := ⟨rfl, rfl, rfl, by decide +kernel, rfl, by decide +kernel, by decide +kernel⟩
abbrev s__law_refused : Stmt := top 45
theorem sc__law_refused : FnScope ["bag", "x", "p", "odd", "word", "near", "t", "wrong", "low_now", "high_now", "other"] ["bag", "x", "p"] (defScope s__law_refused) := ⟨rfl, rfl, rfl, by decide +kernel, rfl, by decide +kernel, by decide +kernel⟩
abbrev s__law_great_right : Stmt := top 46
theorem sc__law_great_right : FnScope ["bag", "top", "p", "x", "y", "sign", "word"] ["bag"] (defScope s__law_great_right) := ⟨rfl, rfl, rfl, by decide +kernel, rfl, by decide +kernel, by decide +kernel⟩
section
variable {P : Program} {w : World} {K : PySem.W.Frag} {mg : Str → Option Value} {base : Heap} {C Co fo : Addr} {j : J} {q : Sh → Prop} {x : Sh} {a : Ty0} {ex : Addr → List (Str × V) → Prop}

local macro_rules | `(tactic| walk_at "k") => `(tactic| repeat (first
  | ((with_reducible show GS.Ev _ _ _ _); first
    | with_reducible refine GS.ev_c ?_
    | ((with_reducible show GS.Ev _ (L2.tVar _) _ _); refine GS.ev_var rfl ?_)
    | with_reducible refine GS.ev_op ?_
    | with_reducible refine GS.ev_cb ?_
    | with_reducible refine GS.ev_un ?_
    | with_reducible refine GS.ev_tup ?_
    | with_reducible refine GS.ev_lst ?_
    | with_reducible refine GS.ev_if ?_
    | with_reducible refine GS.ev_andV ?_
    | with_reducible refine GS.ev_orV ?_
    | with_reducible refine GS.ev_notV ?_
    | with_reducible refine GS.ev_sl ?_
    | with_reducible refine GS.ev_fmtS ?_
    | with_reducible refine GS.ev_fmtL ?_
    | with_reducible refine GS.ev_joined ?_
    | with_reducible refine GS.ev_m1 ?_)
  | ((with_reducible show GS.E2 _ _ _ _ _); first
    | with_reducible refine GS.e2_I0 ?_
    | with_reducible refine GS.e2_I ?_
    | ((with_reducible refine GS.e2_eq ?_ ?_); exact rfl)
    | ((with_reducible refine GS.e2_ne ?_ ?_); exact rfl)
    | with_reducible refine GS.e2_isN ?_
    | with_reducible refine GS.e2_notN ?_
    | ((with_reducible show GS.E2 _ (L2.rIxL _) _ _ _); refine GS.e2_ixL rfl ?_)
    | ((with_reducible show GS.E2 _ (L2.rIxT _) _ _ _); refine GS.e2_ixT rfl ?_)
    | ((with_reducible show GS.E2 _ (L2.rIx _) (GS.Sh.lst _) _ _); refine GS.e2_ix_l rfl ?_)
    | ((with_reducible show GS.E2 _ (L2.rIx _) (GS.Sh.tup _) _ _); refine GS.e2_ix_t rfl ?_)
    | with_reducible refine GS.e2_cat ?_
    | with_reducible refine GS.e2_addS ?_
    | with_reducible refine GS.e2_inSign ?_)
  | ((with_reducible show GS.Ea _ _ _ _); first
    | with_reducible refine GS.ea_cons ?_
    | with_reducible refine GS.ea_nil ?_)
  | ((with_reducible show GS.Et _ _ _ _); first
    | with_reducible refine GS.et_B ?_
    | with_reducible refine GS.et_test ?_
    | with_reducible refine GS.et_not ?_
    | with_reducible refine GS.et_and ?_
    | with_reducible refine GS.et_or ?_
    | with_reducible refine GS.et_yes ?_
    | with_reducible refine GS.et_tru ?_)
  | ((with_reducible show GS.B _ _ _ _ _ _ _); first
    | with_reducible refine GS.b_seq ?_
    | with_reducible refine GS.b_if ?_
    | with_reducible refine GS.b_ret ?_
    | with_reducible refine GS.b_asg ?_
    | with_reducible refine GS.b_drop ?_
    | with_reducible refine GS.b_next ?_
    | with_reducible refine GS.b_par ?_
    | with_reducible refine GS.b_raise (fun _ => rfl) ?_)
  | with_reducible refine GS.eg_name ?_
  | with_reducible refine GS.egs_cons ?_
  | with_reducible refine GS.egs_nil ?_
  | ((with_reducible refine GS.eg_tup ?_ ?_); exact rfl)
  | with_reducible refine GS.e1_U ?_
  | ((with_reducible show GS.En _ _ _ _); first
    | with_reducible refine GS.en_len_l ?_
    | with_reducible refine GS.en_len_t ?_
    | with_reducible refine GS.en_len_str ?_
    | with_reducible refine GS.en_int ?_
    | with_reducible refine GS.en_bool ?_
    | with_reducible refine GS.en_abs ?_
    | with_reducible refine GS.en_str ?_
    | with_reducible refine GS.en_strL ?_
    | with_reducible refine GS.en_gcd ?_
    | with_reducible refine GS.en_list_l ?_
    | with_reducible refine GS.en_list_t ?_
    | with_reducible refine GS.en_tuple_l ?_)
  | with_reducible refine GS.ex_bl ?_
  | with_reducible refine GS.ex_str ?_
  | with_reducible refine GS.ex_int ?_
  | with_reducible refine GS.ex_v ?_
  | with_reducible refine GS.ex_two ?_
  | with_reducible refine GS.ex_lst ?_
  | with_reducible refine GS.ex_tup ?_
  | with_reducible refine GS.ex_lst1 ?_
  | with_reducible refine GS.ex_truS ?_
  | ((with_reducible show ∃ _, GS.TruS _ _ ∧ _); refine GS.ex_tru rfl ?_)
  | with_reducible refine GS.eo_no ?_
  | with_reducible refine GS.eo_yes ?_
  | with_reducible refine GS.e3_list ?_
  | with_reducible refine GS.e3_str ?_
  | with_reducible refine GS.ej_cons ?_
  | with_reducible refine GS.ej_nil ?_
  | with_reducible refine GS.em_split ?_
  | with_reducible refine GS.em_starts ?_
  | ((with_reducible show GS.Ei _ _ _ _); first
    | with_reducible refine GS.ei_list ?_
    | with_reducible refine GS.ei_tup ?_
    | with_reducible refine GS.ei_str ?_
    | with_reducible refine GS.ei_enum ?_
    | with_reducible refine GS.ei_zip ?_
    | with_reducible refine GS.ei_range1 ?_
    | with_reducible refine GS.ei_range2 ?_)
  | ((with_reducible show _ ∧ _); first
    | ((with_reducible refine And.intro ?_ ?_); (with_reducible assumption))
    | ((with_reducible refine GS.sz_and ?_ ?_); exact rfl)
    | ((with_reducible refine GS.cnd_t ?_ ?_); exact rfl)
    | ((with_reducible refine GS.cnd_f ?_ ?_); exact rfl))
  | ((with_reducible show GS.En _ (L2.rIsi _) _ _); first
    | ((with_reducible apply isi_int (by with_reducible assumption)); (first | with_reducible assumption | exact knd_int | exact knd_bl | exact knd_str | exact knd_non | exact knd_lst | exact knd_tup | exact knd_rat (by assumption)))
    | ((with_reducible apply isi_bool (by with_reducible assumption)); (first | with_reducible assumption | exact knd_int | exact knd_bl | exact knd_str | exact knd_non | exact knd_lst | exact knd_tup | exact knd_rat (by assumption)))
    | ((with_reducible apply isi_str (by with_reducible assumption)); (first | with_reducible assumption | exact knd_int | exact knd_bl | exact knd_str | exact knd_non | exact knd_lst | exact knd_tup | exact knd_rat (by assumption)))
    | ((with_reducible apply isi_tuple (by with_reducible assumption)); (first | with_reducible assumption | exact knd_int | exact knd_bl | exact knd_str | exact knd_non | exact knd_lst | exact knd_tup | exact knd_rat (by assumption)))
    | ((with_reducible apply isi_list (by with_reducible assumption)); (first | with_reducible assumption | exact knd_int | exact knd_bl | exact knd_str | exact knd_non | exact knd_lst | exact knd_tup | exact knd_rat (by assumption)))
    | ((with_reducible apply isi_rat (by with_reducible assumption)); (first | with_reducible assumption | exact knd_int | exact knd_bl | exact knd_str | exact knd_non | exact knd_lst | exact knd_tup | exact knd_rat (by assumption))))
  | (with_reducible refine ev_top (by with_reducible assumption) ?_)
  | (with_reducible refine ev_bot (by with_reducible assumption) ?_)
  | with_reducible refine ex_rat ?_
  | with_reducible refine GS.ev_call (E := L2.E0) GS.XOk.no ?_
  | with_reducible refine GS.ev_call GS.XOk.own ?_
  | ((with_reducible show GS.Callx _ _ _ _ _); first
    | ((with_reducible apply use_integral); (first | with_reducible assumption | exact knd_int | exact knd_bl | exact knd_str | exact knd_non | exact knd_lst | exact knd_tup | exact knd_rat (by assumption)))
    | ((with_reducible apply use_parts); first | with_reducible assumption | exact num_rat | exact num_int)
    | ((with_reducible refine use_digits ?_ ?_); with_reducible assumption)
    | ((with_reducible refine use_intof ?_ ?_); with_reducible assumption)
    | ((with_reducible refine use_frac ?_ ?_); with_reducible assumption))
  | with_reducible refine GS.ev_make (E := L2.E0) GS.XOk.no ?_
  | with_reducible refine GS.ev_make GS.XOk.own ?_
  | ((with_reducible show L2.CMulW _ _ ∧ _); refine And.intro (cmw (by with_reducible assumption) (by with_reducible assumption)) ?_)
  | ((with_reducible refine use_init ?_ ?_ ?_); (with_reducible assumption); (with_reducible assumption))
  | with_reducible refine GS.ev_prop GS.XOk.no ?_))

local macro_rules | `(tactic| walk_at "be") => `(tactic| repeat (first
  | ((with_reducible show GS.E2 _ _ (GS.Sh.v (L2.V.ref _)) _ _); first
    | with_reducible refine GS.bg_r0 ?_
    | with_reducible refine GS.bg_r1 ?_
    | with_reducible refine GS.bg_r2 ?_
    | with_reducible refine GS.bg_r3 ?_
    | with_reducible refine GS.bg_r4 ?_)
  | ((with_reducible show GS.En _ _ [GS.Sh.v (L2.V.ref _)] _); refine GS.en_lenH 0 rfl ?_)
  | ((with_reducible show (GS.Sh.v (L2.V.ref _) = GS.Sh.v (L2.V.ref _)) ∧ _); refine And.intro rfl ?_)
  | ((with_reducible show GS.Ev _ _ _ _); first
    | with_reducible refine GS.ev_c ?_
    | ((with_reducible show GS.Ev _ (L2.tVar _) _ _); refine GS.ev_var rfl ?_)
    | with_reducible refine GS.ev_op ?_
    | with_reducible refine GS.ev_cb ?_
    | with_reducible refine GS.ev_un ?_
    | with_reducible refine GS.ev_tup ?_
    | with_reducible refine GS.ev_lst ?_
    | with_reducible refine GS.ev_if ?_
    | with_reducible refine GS.ev_andV ?_
    | with_reducible refine GS.ev_orV ?_
    | with_reducible refine GS.ev_notV ?_
    | with_reducible refine GS.ev_sl ?_
    | with_reducible refine GS.ev_fmtS ?_
    | with_reducible refine GS.ev_fmtL ?_
    | with_reducible refine GS.ev_joined ?_
    | with_reducible refine GS.ev_m1 ?_)
  | ((with_reducible show GS.E2 _ _ _ _ _); first
    | with_reducible refine GS.e2_I0 ?_
    | with_reducible refine GS.e2_I ?_
    | ((with_reducible refine GS.e2_eq ?_ ?_); exact rfl)
    | ((with_reducible refine GS.e2_ne ?_ ?_); exact rfl)
    | with_reducible refine GS.e2_isN ?_
    | with_reducible refine GS.e2_notN ?_
    | ((with_reducible show GS.E2 _ (L2.rIxL _) _ _ _); refine GS.e2_ixL rfl ?_)
    | ((with_reducible show GS.E2 _ (L2.rIxT _) _ _ _); refine GS.e2_ixT rfl ?_)
    | ((with_reducible show GS.E2 _ (L2.rIx _) (GS.Sh.lst _) _ _); refine GS.e2_ix_l rfl ?_)
    | ((with_reducible show GS.E2 _ (L2.rIx _) (GS.Sh.tup _) _ _); refine GS.e2_ix_t rfl ?_)
    | with_reducible refine GS.e2_cat ?_
    | with_reducible refine GS.e2_addS ?_
    | with_reducible refine GS.e2_inSign ?_)
  | ((with_reducible show GS.Ea _ _ _ _); first
    | with_reducible refine GS.ea_cons ?_
    | with_reducible refine GS.ea_nil ?_)
  | ((with_reducible show GS.Et _ _ _ _); first
    | with_reducible refine GS.et_B ?_
    | with_reducible refine GS.et_test ?_
    | with_reducible refine GS.et_not ?_
    | with_reducible refine GS.et_and ?_
    | with_reducible refine GS.et_or ?_
    | with_reducible refine GS.et_yes ?_
    | with_reducible refine GS.et_tru ?_)
  | ((with_reducible show GS.B _ _ _ _ _ _ _); first
    | with_reducible refine GS.b_seq ?_
    | with_reducible refine GS.b_if ?_
    | with_reducible refine GS.b_ret ?_
    | with_reducible refine GS.b_asg ?_
    | with_reducible refine GS.b_drop ?_
    | with_reducible refine GS.b_next ?_
    | with_reducible refine GS.b_par ?_
    | with_reducible refine GS.b_raise (fun _ => rfl) ?_)
  | with_reducible refine GS.eg_name ?_
  | with_reducible refine GS.egs_cons ?_
  | with_reducible refine GS.egs_nil ?_
  | ((with_reducible refine GS.eg_tup ?_ ?_); exact rfl)
  | with_reducible refine GS.e1_U ?_
  | ((with_reducible show GS.En _ _ _ _); first
    | with_reducible refine GS.en_len_l ?_
    | with_reducible refine GS.en_len_t ?_
    | with_reducible refine GS.en_len_str ?_
    | with_reducible refine GS.en_int ?_
    | with_reducible refine GS.en_bool ?_
    | with_reducible refine GS.en_abs ?_
    | with_reducible refine GS.en_str ?_
    | with_reducible refine GS.en_strL ?_
    | with_reducible refine GS.en_gcd ?_
    | with_reducible refine GS.en_list_l ?_
    | with_reducible refine GS.en_list_t ?_
    | with_reducible refine GS.en_tuple_l ?_)
  | with_reducible refine GS.ex_bl ?_
  | with_reducible refine GS.ex_str ?_
  | with_reducible refine GS.ex_int ?_
  | with_reducible refine GS.ex_v ?_
  | with_reducible refine GS.ex_two ?_
  | with_reducible refine GS.ex_lst ?_
  | with_reducible refine GS.ex_tup ?_
  | with_reducible refine GS.ex_lst1 ?_
  | with_reducible refine GS.ex_truS ?_
  | ((with_reducible show ∃ _, GS.TruS _ _ ∧ _); refine GS.ex_tru rfl ?_)
  | with_reducible refine GS.eo_no ?_
  | with_reducible refine GS.eo_yes ?_
  | with_reducible refine GS.e3_list ?_
  | with_reducible refine GS.e3_str ?_
  | with_reducible refine GS.ej_cons ?_
  | with_reducible refine GS.ej_nil ?_
  | with_reducible refine GS.em_split ?_
  | with_reducible refine GS.em_starts ?_
  | ((with_reducible show GS.Ei _ _ _ _); first
    | with_reducible refine GS.ei_list ?_
    | with_reducible refine GS.ei_tup ?_
    | with_reducible refine GS.ei_str ?_
    | with_reducible refine GS.ei_enum ?_
    | with_reducible refine GS.ei_zip ?_
    | with_reducible refine GS.ei_range1 ?_
    | with_reducible refine GS.ei_range2 ?_)
  | ((with_reducible show _ ∧ _); first
    | ((with_reducible refine And.intro ?_ ?_); (with_reducible assumption))
    | ((with_reducible refine GS.sz_and ?_ ?_); exact rfl)
    | ((with_reducible refine GS.cnd_t ?_ ?_); exact rfl)
    | ((with_reducible refine GS.cnd_f ?_ ?_); exact rfl))
  | ((with_reducible show GS.En _ (L2.rIsi _) _ _); first
    | ((with_reducible apply isi_int (by with_reducible assumption)); (first | with_reducible assumption | exact knd_int | exact knd_bl | exact knd_str | exact knd_non | exact knd_lst | exact knd_tup | exact knd_rat (by assumption)))
    | ((with_reducible apply isi_bool (by with_reducible assumption)); (first | with_reducible assumption | exact knd_int | exact knd_bl | exact knd_str | exact knd_non | exact knd_lst | exact knd_tup | exact knd_rat (by assumption)))
    | ((with_reducible apply isi_str (by with_reducible assumption)); (first | with_reducible assumption | exact knd_int | exact knd_bl | exact knd_str | exact knd_non | exact knd_lst | exact knd_tup | exact knd_rat (by assumption)))
    | ((with_reducible apply isi_tuple (by with_reducible assumption)); (first | with_reducible assumption | exact knd_int | exact knd_bl | exact knd_str | exact knd_non | exact knd_lst | exact knd_tup | exact knd_rat (by assumption)))
    | ((with_reducible apply isi_list (by with_reducible assumption)); (first | with_reducible assumption | exact knd_int | exact knd_bl | exact knd_str | exact knd_non | exact knd_lst | exact knd_tup | exact knd_rat (by assumption)))
    | ((with_reducible apply isi_rat (by with_reducible assumption)); (first | with_reducible assumption | exact knd_int | exact knd_bl | exact knd_str | exact knd_non | exact knd_lst | exact knd_tup | exact knd_rat (by assumption))))
  | (with_reducible refine ev_top (by with_reducible assumption) ?_)
  | (with_reducible refine ev_bot (by with_reducible assumption) ?_)
  | with_reducible refine ex_rat ?_
  | with_reducible refine GS.ev_call (E := L2.E0) GS.XOk.no ?_
  | with_reducible refine GS.ev_call GS.XOk.own ?_
  | ((with_reducible show GS.Callx _ _ _ _ _); first
    | ((with_reducible apply use_integral); (first | with_reducible assumption | exact knd_int | exact knd_bl | exact knd_str | exact knd_non | exact knd_lst | exact knd_tup | exact knd_rat (by assumption)))
    | ((with_reducible apply use_parts); first | with_reducible assumption | exact num_rat | exact num_int)
    | ((with_reducible refine use_digits ?_ ?_); with_reducible assumption)
    | ((with_reducible refine use_intof ?_ ?_); with_reducible assumption)
    | ((with_reducible refine use_frac ?_ ?_); with_reducible assumption))
  | with_reducible refine GS.ev_make (E := L2.E0) GS.XOk.no ?_
  | with_reducible refine GS.ev_make GS.XOk.own ?_
  | ((with_reducible show L2.CMulW _ _ ∧ _); refine And.intro (cmw (by with_reducible assumption) (by with_reducible assumption)) ?_)
  | ((with_reducible refine use_init ?_ ?_ ?_); (with_reducible assumption); (with_reducible assumption))
  | with_reducible refine GS.ev_prop GS.XOk.no ?_
  | ((with_reducible show (0 : Int) < _ ∧ _); (refine And.intro ?_ ?_); (first | decide | assumption | omega))
  | ((with_reducible show L2.CPow _ _ ∧ _); refine And.intro ⟨by decide, by decide, by decide⟩ ?_)
  | ((with_reducible show L2.CMul _ _ ∧ _); (refine And.intro ?_ ?_); first | exact .inr ⟨by decide, by decide⟩ | exact .inl ⟨by decide, by decide⟩ | exact .inr ⟨by omega, by omega⟩ | exact .inl ⟨by omega, by omega⟩)
  | ((with_reducible show L2.CDivW _ _ ∧ _); (refine And.intro ?_ ?_); first | exact ⟨by decide, by decide⟩ | exact (by assumption : ∀ i, L2.CDivW i _) _)))
local macro_rules | `(tactic| walk_at "bm") => `(tactic| repeat (first
  | ((with_reducible show GS.Bm _ _ _ _ _ _ _ _); first
    | with_reducible refine GS.bm_seq ?_
    | with_reducible refine GS.bm_if ?_
    | with_reducible refine GS.bm_ret ?_
    | ((with_reducible refine GS.bg_w1 ?_ ?_); with_unfolding_all rfl)
    | ((with_reducible refine GS.bg_w2 ?_ ?_); with_unfolding_all rfl)
    | ((with_reducible refine GS.bg_w3 ?_ ?_); with_unfolding_all rfl)
    | ((with_reducible refine GS.bg_w4 ?_ ?_); with_unfolding_all rfl)
    | with_reducible refine GS.bm_asg ?_
    | with_reducible refine GS.bm_next ?_
    | with_reducible refine GS.bm_par ?_)
  | ((with_reducible show GS.E2 _ _ (GS.Sh.v (L2.V.ref _)) _ _); first
    | with_reducible refine GS.bg_r0 ?_
    | with_reducible refine GS.bg_r1 ?_
    | with_reducible refine GS.bg_r2 ?_
    | with_reducible refine GS.bg_r3 ?_
    | with_reducible refine GS.bg_r4 ?_)
  | ((with_reducible show GS.En _ _ [GS.Sh.v (L2.V.ref _)] _); refine GS.en_lenH 0 rfl ?_)
  | ((with_reducible show (GS.Sh.v (L2.V.ref _) = GS.Sh.v (L2.V.ref _)) ∧ _); refine And.intro rfl ?_)
  | ((with_reducible show GS.Ev _ _ _ _); first
    | with_reducible refine GS.ev_c ?_
    | ((with_reducible show GS.Ev _ (L2.tVar _) _ _); refine GS.ev_var rfl ?_)
    | with_reducible refine GS.ev_op ?_
    | with_reducible refine GS.ev_cb ?_
    | with_reducible refine GS.ev_un ?_
    | with_reducible refine GS.ev_tup ?_
    | with_reducible refine GS.ev_lst ?_
    | with_reducible refine GS.ev_if ?_
    | with_reducible refine GS.ev_andV ?_
    | with_reducible refine GS.ev_orV ?_
    | with_reducible refine GS.ev_notV ?_
    | with_reducible refine GS.ev_sl ?_
    | with_reducible refine GS.ev_fmtS ?_
    | with_reducible refine GS.ev_fmtL ?_
    | with_reducible refine GS.ev_joined ?_
    | with_reducible refine GS.ev_m1 ?_)
  | ((with_reducible show GS.E2 _ _ _ _ _); first
    | with_reducible refine GS.e2_I0 ?_
    | with_reducible refine GS.e2_I ?_
    | ((with_reducible refine GS.e2_eq ?_ ?_); exact rfl)
    | ((with_reducible refine GS.e2_ne ?_ ?_); exact rfl)
    | with_reducible refine GS.e2_isN ?_
    | with_reducible refine GS.e2_notN ?_
    | ((with_reducible show GS.E2 _ (L2.rIxL _) _ _ _); refine GS.e2_ixL rfl ?_)
    | ((with_reducible show GS.E2 _ (L2.rIxT _) _ _ _); refine GS.e2_ixT rfl ?_)
    | ((with_reducible show GS.E2 _ (L2.rIx _) (GS.Sh.lst _) _ _); refine GS.e2_ix_l rfl ?_)
    | ((with_reducible show GS.E2 _ (L2.rIx _) (GS.Sh.tup _) _ _); refine GS.e2_ix_t rfl ?_)
    | with_reducible refine GS.e2_cat ?_
    | with_reducible refine GS.e2_addS ?_
    | with_reducible refine GS.e2_inSign ?_)
  | ((with_reducible show GS.Ea _ _ _ _); first
    | with_reducible refine GS.ea_cons ?_
    | with_reducible refine GS.ea_nil ?_)
  | ((with_reducible show GS.Et _ _ _ _); first
    | with_reducible refine GS.et_B ?_
    | with_reducible refine GS.et_test ?_
    | with_reducible refine GS.et_not ?_
    | with_reducible refine GS.et_and ?_
    | with_reducible refine GS.et_or ?_
    | with_reducible refine GS.et_yes ?_
    | with_reducible refine GS.et_tru ?_)
  | ((with_reducible show GS.B _ _ _ _ _ _ _); first
    | with_reducible refine GS.b_seq ?_
    | with_reducible refine GS.b_if ?_
    | with_reducible refine GS.b_ret ?_
    | with_reducible refine GS.b_asg ?_
    | with_reducible refine GS.b_drop ?_
    | with_reducible refine GS.b_next ?_
    | with_reducible refine GS.b_par ?_
    | with_reducible refine GS.b_raise (fun _ => rfl) ?_)
  | with_reducible refine GS.eg_name ?_
  | with_reducible refine GS.egs_cons ?_
  | with_reducible refine GS.egs_nil ?_
  | ((with_reducible refine GS.eg_tup ?_ ?_); exact rfl)
  | with_reducible refine GS.e1_U ?_
  | ((with_reducible show GS.En _ _ _ _); first
    | with_reducible refine GS.en_len_l ?_
    | with_reducible refine GS.en_len_t ?_
    | with_reducible refine GS.en_len_str ?_
    | with_reducible refine GS.en_int ?_
    | with_reducible refine GS.en_bool ?_
    | with_reducible refine GS.en_abs ?_
    | with_reducible refine GS.en_str ?_
    | with_reducible refine GS.en_strL ?_
    | with_reducible refine GS.en_gcd ?_
    | with_reducible refine GS.en_list_l ?_
    | with_reducible refine GS.en_list_t ?_
    | with_reducible refine GS.en_tuple_l ?_)
  | with_reducible refine GS.ex_bl ?_
  | with_reducible refine GS.ex_str ?_
  | with_reducible refine GS.ex_int ?_
  | with_reducible refine GS.ex_v ?_
  | with_reducible refine GS.ex_two ?_
  | with_reducible refine GS.ex_lst ?_
  | with_reducible refine GS.ex_tup ?_
  | with_reducible refine GS.ex_lst1 ?_
  | with_reducible refine GS.ex_truS ?_
  | ((with_reducible show ∃ _, GS.TruS _ _ ∧ _); refine GS.ex_tru rfl ?_)
  | with_reducible refine GS.eo_no ?_
  | with_reducible refine GS.eo_yes ?_
  | with_reducible refine GS.e3_list ?_
  | with_reducible refine GS.e3_str ?_
  | with_reducible refine GS.ej_cons ?_
  | with_reducible refine GS.ej_nil ?_
  | with_reducible refine GS.em_split ?_
  | with_reducible refine GS.em_starts ?_
  | ((with_reducible show GS.Ei _ _ _ _); first
    | with_reducible refine GS.ei_list ?_
    | with_reducible refine GS.ei_tup ?_
    | with_reducible refine GS.ei_str ?_
    | with_reducible refine GS.ei_enum ?_
    | with_reducible refine GS.ei_zip ?_
    | with_reducible refine GS.ei_range1 ?_
    | with_reducible refine GS.ei_range2 ?_)
  | ((with_reducible show _ ∧ _); first
    | ((with_reducible refine And.intro ?_ ?_); (with_reducible assumption))
    | ((with_reducible refine GS.sz_and ?_ ?_); exact rfl)
    | ((with_reducible refine GS.cnd_t ?_ ?_); exact rfl)
    | ((with_reducible refine GS.cnd_f ?_ ?_); exact rfl))
  | ((with_reducible show GS.En _ (L2.rIsi _) _ _); first
    | ((with_reducible apply isi_int (by with_reducible assumption)); (first | with_reducible assumption | exact knd_int | exact knd_bl | exact knd_str | exact knd_non | exact knd_lst | exact knd_tup | exact knd_rat (by assumption)))
    | ((with_reducible apply isi_bool (by with_reducible assumption)); (first | with_reducible assumption | exact knd_int | exact knd_bl | exact knd_str | exact knd_non | exact knd_lst | exact knd_tup | exact knd_rat (by assumption)))
    | ((with_reducible apply isi_str (by with_reducible assumption)); (first | with_reducible assumption | exact knd_int | exact knd_bl | exact knd_str | exact knd_non | exact knd_lst | exact knd_tup | exact knd_rat (by assumption)))
    | ((with_reducible apply isi_tuple (by with_reducible assumption)); (first | with_reducible assumption | exact knd_int | exact knd_bl | exact knd_str | exact knd_non | exact knd_lst | exact knd_tup | exact knd_rat (by assumption)))
    | ((with_reducible apply isi_list (by with_reducible assumption)); (first | with_reducible assumption | exact knd_int | exact knd_bl | exact knd_str | exact knd_non | exact knd_lst | exact knd_tup | exact knd_rat (by assumption)))
    | ((with_reducible apply isi_rat (by with_reducible assumption)); (first | with_reducible assumption | exact knd_int | exact knd_bl | exact knd_str | exact knd_non | exact knd_lst | exact knd_tup | exact knd_rat (by assumption))))
  | (with_reducible refine ev_top (by with_reducible assumption) ?_)
  | (with_reducible refine ev_bot (by with_reducible assumption) ?_)
  | with_reducible refine ex_rat ?_
  | with_reducible refine GS.ev_call (E := L2.E0) GS.XOk.no ?_
  | with_reducible refine GS.ev_call GS.XOk.own ?_
  | ((with_reducible show GS.Callx _ _ _ _ _); first
    | ((with_reducible apply use_integral); (first | with_reducible assumption | exact knd_int | exact knd_bl | exact knd_str | exact knd_non | exact knd_lst | exact knd_tup | exact knd_rat (by assumption)))
    | ((with_reducible apply use_parts); first | with_reducible assumption | exact num_rat | exact num_int)
    | ((with_reducible refine use_digits ?_ ?_); with_reducible assumption)
    | ((with_reducible refine use_intof ?_ ?_); with_reducible assumption)
    | ((with_reducible refine use_frac ?_ ?_); with_reducible assumption))
  | with_reducible refine GS.ev_make (E := L2.E0) GS.XOk.no ?_
  | with_reducible refine GS.ev_make GS.XOk.own ?_
  | ((with_reducible show L2.CMulW _ _ ∧ _); refine And.intro (cmw (by with_reducible assumption) (by with_reducible assumption)) ?_)
  | ((with_reducible refine use_init ?_ ?_ ?_); (with_reducible assumption); (with_reducible assumption))
  | with_reducible refine GS.ev_prop GS.XOk.no ?_
  | ((with_reducible show (0 : Int) < _ ∧ _); (refine And.intro ?_ ?_); (first | decide | assumption | omega))
  | ((with_reducible show L2.CPow _ _ ∧ _); refine And.intro ⟨by decide, by decide, by decide⟩ ?_)
  | ((with_reducible show L2.CMul _ _ ∧ _); (refine And.intro ?_ ?_); first | exact .inr ⟨by decide, by decide⟩ | exact .inl ⟨by decide, by decide⟩ | exact .inr ⟨by omega, by omega⟩ | exact .inl ⟨by omega, by omega⟩)
  | ((with_reducible show L2.CDivW _ _ ∧ _); (refine And.intro ?_ ?_); first | exact ⟨by decide, by decide⟩ | exact (by assumption : ∀ i, L2.CDivW i _) _)))

/-! ### the bag of draws -/
def fsPick : Fs := fun M l S => M.out = false ∧ ∃ n : Int, l = [.bag, .int n] ∧ 0 < n ∧ n < 2 ^ 300 ∧ ∀ r : Int, 0 ≤ r → r < n → S (.ret (.int r))
theorem ok_pick {f : Addr} {fd : FuncData} (F : Fun K "_law_pick" "_law_pick" s__law_pick f fd) (T : Tx P K mg C Co fo) : FnOk P w K mg base CX0 1 f fd ["bag", "limit"] (SpS fsPick) := by
  refine fun_okBag F sc__law_pick (fun M l S ⟨_, _, e, _⟩ => e ▸ rfl) fun cdv A outer s H E hr => ?_
  refine ⟨_, (pss_cons (ps_asg (pe_op op_add (pe_ix (r := rIxL K) ix_list (pv 0) pe_int (fun _ _ => rfl)) pe_int) (pg_sub (pv 0) pe_int set_list))
      (pss_cons (ps_if (PW.pt (pw_and (pt_cmpR op_eq (pe_ix (r := rIxL K) ix_list (pv 0) pe_int (fun _ _ => rfl)) pe_int (nomark _)) (pw_and1 (pt_cmpR op_lt (pe_ix (r := rIxL K) ix_list (pv 0) pe_int (fun _ _ => rfl)) (pe_callB call_len (by rfl) T.n_len (by decide +kernel) (pa_cons (pe_ix (r := rIxL K) ix_list (pv 0) pe_int (fun _ _ => rfl)) pa_nil)) (nomark _))))) (pss_cons (ps_set (i := 2) sc__law_pick.nd rfl (Or.inl rfl) (pe_ix (r := rIxL K) ix_list (pe_ix (r := rIxL K) ix_list (pv 0) pe_int (fun _ _ => rfl)) (pe_ix (r := rIxL K) ix_list (pv 0) pe_int (fun _ _ => rfl)) (fun _ _ => rfl)))
      (pss_cons (ps_asg (pe_op op_add (pe_ix (r := rIxL K) ix_list (pv 0) pe_int (fun _ _ => rfl)) pe_int) (pg_sub (pv 0) pe_int set_list))
      (pss_one (ps_if (pt_cmpR op_ge (pv 2) (pe_op op_pow pe_int pe_int) (nomark _)) (pss_one (ps_asg (pv 2) (pg_sub (pv 0) pe_int set_list))) (pss_one (ps_asg (pe_op op_mod (pe_callTy call_int1 (by rfl) T.n_int (by decide +kernel) (pa_cons (pe_op op_add (pe_op op_add (pe_op op_mul (pe_ix (r := rIxL K) ix_list (pv 0) pe_int (fun _ _ => rfl)) pe_int) (pe_op op_mul (pe_op op_mod (pe_callTy call_int1 (by rfl) T.n_int (by decide +kernel) (pa_cons (pv 2) pa_nil)) pe_int) pe_int)) pe_int) pa_nil)) pe_int) (pg_sub (pv 0) pe_int set_list))))))) pss_nil)
      (pss_cons (ps_if (pt_cmpR op_gt (pe_ix (r := rIxL K) ix_list (pv 0) pe_int (fun _ _ => rfl)) pe_int (nomark _)) (pss_cons (ps_set (i := 3) sc__law_pick.nd rfl (Or.inl rfl) (pe_op op_mod (pe_callTy call_int1 (by rfl) T.n_int (by decide +kernel) (pa_cons (pe_ix (r := rIxL K) ix_list (pv 0) pe_int (fun _ _ => rfl)) pa_nil)) (pv 1)))
      (pss_cons (ps_asg (pe_op op_fdivW (pe_ix (r := rIxL K) ix_list (pv 0) pe_int (fun _ _ => rfl)) (pv 1)) (pg_sub (pv 0) pe_int set_list))
      (pss_one (ps_ret (pv 3))))) pss_nil)
      (pss_cons (ps_set (i := 4) sc__law_pick.nd rfl (Or.inl rfl) (pe_callTy call_int1 (by rfl) T.n_int (by decide +kernel) (pa_cons (pe_ix (r := rIxL K) ix_list (pv 0) pe_int (fun _ _ => rfl)) pa_nil)))
      (pss_cons (ps_asg (pe_op op_mod (pe_callTy call_int1 (by rfl) T.n_int (by decide +kernel) (pa_cons (pe_op op_add (pe_op op_add (pe_op op_add (pe_op op_mul (pe_op op_mul (pv 4) (pv 4)) (pv 4)) (pe_op op_mul (pv 4) pe_int)) (pe_op op_mul (pe_ix (r := rIxL K) ix_list (pv 0) pe_int (fun _ _ => rfl)) pe_int)) pe_int) pa_nil)) pe_int) (pg_sub (pv 0) pe_int set_list))
      (pss_one (ps_ret (pe_op op_mod (pe_callTy call_int1 (by rfl) T.n_int (by decide +kernel) (pa_cons (pe_op op_add (pe_op op_fdivW (pe_ix (r := rIxL K) ix_list (pv 0) pe_int (fun _ _ => rfl)) pe_int) (pe_op op_mul (pe_op op_mod (pe_callTy call_int1 (by rfl) T.n_int (by decide +kernel) (pa_cons (pe_ix (r := rIxL K) ix_list (pv 0) pe_int (fun _ _ => rfl)) pa_nil)) pe_int) pe_int)) pa_nil)) (pv 1))))))))), ?_⟩
  rintro M l S ⟨ho, n, rfl, h0, h1, k⟩
  refine ⟨ho, _, rfl, fun s h => by rw [List.mem_singleton.mp h]; exact ⟨_, rfl⟩, ?_⟩
  intro m β xs a b d e ha hd0 hd1
  try simp only [cxK, cxKn]
  have hq : ∀ i, CDivW i n := fun i => ⟨h0, by
    have z : Sz 300 n := by
      unfold Sz
      have e : ((2 : Int) ^ 300) = ((2 ^ 300 : Nat) : Int) := by decide +kernel
      rw [e] at h1
      omega
    exact Nat.lt_trans (z.log (by decide)) (by decide)⟩
  refine bm_seq ?_
  refine bg_w4 (by with_unfolding_all rfl) ?_
  walk_at "be"
  refine bm_mid (fun hs1 ss1 => ∃ a b d e o, 0 ≤ a ∧ 0 ≤ d ∧ d < 2147483587 ∧ hs1 = bagHs β xs a b d e ∧ ss1 = [some (.v (.ref β)), some (.int n), o, none, none]) ?_ ?_
  · walk_at "bm"
    refine cnd (c := b = 0) (by simp) (fun hb => ?_) (fun hb => ?_)
    · walk_at "bm"
      refine cnd (c := a < xs.length) (by simp) (fun hl => ?_) (fun hl => ?_)
      · walk_at "bm"
        refine e2_ixI ha hl fun x _ => ?_
        walk_at "bm"
        refine cnd (c := 10 ^ 18 ≤ x) (by simp) (fun hx => ?_) (fun hx => ?_)
        · walk_at "bm"
          exact ⟨_, _, _, _, _, by omega, hd0, hd1, rfl, rfl⟩
        · walk_at "bm"
          exact ⟨_, _, _, _, _, by omega, Int.emod_nonneg _ (by decide), Int.emod_lt_of_pos _ (by decide), rfl, rfl⟩
      · walk_at "bm"
        exact ⟨_, _, _, _, _, ha, hd0, hd1, rfl, rfl⟩
    · walk_at "bm"
      exact ⟨_, _, _, _, _, ha, hd0, hd1, rfl, rfl⟩
  · rintro hs1 ss1 ⟨a, b, d, e, o, ha, hd0, hd1, rfl, rfl⟩
    walk_at "bm"
    refine cnd (c := 0 < b) (by simp) (fun hb => ?_) (fun hb => ?_)
    · walk_at "bm"
      exact ⟨_, _, _, _, ha, hd0, hd1, rfl, ⟨_, rfl⟩, k _ (Int.emod_nonneg _ (by omega)) (Int.emod_lt_of_pos _ h0)⟩
    · walk_at "bm"
      exact ⟨_, _, _, _, ha, Int.emod_nonneg _ (by decide), Int.emod_lt_of_pos _ (by decide), rfl, ⟨_, rfl⟩, k _ (Int.emod_nonneg _ (by omega)) (Int.emod_lt_of_pos _ h0)⟩
end
end KP

/-! K12M -/
set_option Elab.async false
set_option Elab.async false
set_option linter.all false
set_option maxRecDepth 100000
set_option maxHeartbeats 4000000
namespace KP
open PySem PySem.Spec PyProof.Rows L2 GM GS
local macro_rules | `(tactic| walk_at "sh") => `(tactic| repeat (first
  | ((with_reducible show GS.Ev _ _ _ _); first
    | with_reducible refine GS.ev_c ?_
    | ((with_reducible show GS.Ev _ (L2.tVar _) _ _); refine GS.ev_var rfl ?_)
    | with_reducible refine GS.ev_op ?_
    | with_reducible refine GS.ev_cb ?_
    | with_reducible refine GS.ev_un ?_
    | with_reducible refine GS.ev_tup ?_
    | with_reducible refine GS.ev_lst ?_
    | with_reducible refine GS.ev_if ?_
    | with_reducible refine GS.ev_andV ?_
    | with_reducible refine GS.ev_orV ?_
    | with_reducible refine GS.ev_notV ?_
    | with_reducible refine GS.ev_sl ?_
    | with_reducible refine GS.ev_fmtS ?_
    | with_reducible refine GS.ev_fmtL ?_
    | with_reducible refine GS.ev_joined ?_
    | with_reducible refine GS.ev_m1 ?_)
  | ((with_reducible show GS.E2 _ _ _ _ _); first
    | with_reducible refine GS.e2_I0 ?_
    | with_reducible refine GS.e2_I ?_
    | ((with_reducible refine GS.e2_eq ?_ ?_); exact rfl)
    | ((with_reducible refine GS.e2_ne ?_ ?_); exact rfl)
    | with_reducible refine GS.e2_isN ?_
    | with_reducible refine GS.e2_notN ?_
    | ((with_reducible show GS.E2 _ (L2.rIxL _) _ _ _); refine GS.e2_ixL rfl ?_)
    | ((with_reducible show GS.E2 _ (L2.rIxT _) _ _ _); refine GS.e2_ixT rfl ?_)
    | ((with_reducible show GS.E2 _ (L2.rIx _) (GS.Sh.lst _) _ _); refine GS.e2_ix_l rfl ?_)
    | ((with_reducible show GS.E2 _ (L2.rIx _) (GS.Sh.tup _) _ _); refine GS.e2_ix_t rfl ?_)
    | with_reducible refine GS.e2_cat ?_
    | with_reducible refine GS.e2_addS ?_
    | with_reducible refine GS.e2_inSign ?_)
  | ((with_reducible show GS.Ea _ _ _ _); first
    | with_reducible refine GS.ea_cons ?_
    | with_reducible refine GS.ea_nil ?_)
  | ((with_reducible show GS.Et _ _ _ _); first
    | with_reducible refine GS.et_B ?_
    | with_reducible refine GS.et_test ?_
    | with_reducible refine GS.et_not ?_
    | with_reducible refine GS.et_and ?_
    | with_reducible refine GS.et_or ?_
    | with_reducible refine GS.et_yes ?_
    | with_reducible refine GS.et_tru ?_)
  | ((with_reducible show GS.B _ _ _ _ _ _ _); first
    | with_reducible refine GS.b_seq ?_
    | with_reducible refine GS.b_if ?_
    | with_reducible refine GS.b_ret ?_
    | with_reducible refine GS.b_asg ?_
    | with_reducible refine GS.b_drop ?_
    | with_reducible refine GS.b_next ?_
    | with_reducible refine GS.b_par ?_
    | with_reducible refine GS.b_raise (fun _ => rfl) ?_)
  | with_reducible refine GS.eg_name ?_
  | with_reducible refine GS.egs_cons ?_
  | with_reducible refine GS.egs_nil ?_
  | ((with_reducible refine GS.eg_tup ?_ ?_); exact rfl)
  | with_reducible refine GS.e1_U ?_
  | ((with_reducible show GS.En _ _ _ _); first
    | with_reducible refine GS.en_len_l ?_
    | with_reducible refine GS.en_len_t ?_
    | with_reducible refine GS.en_len_str ?_
    | with_reducible refine GS.en_int ?_
    | with_reducible refine GS.en_bool ?_
    | with_reducible refine GS.en_abs ?_
    | with_reducible refine GS.en_str ?_
    | with_reducible refine GS.en_strL ?_
    | with_reducible refine GS.en_gcd ?_
    | with_reducible refine GS.en_list_l ?_
    | with_reducible refine GS.en_list_t ?_
    | with_reducible refine GS.en_tuple_l ?_)
  | with_reducible refine GS.ex_bl ?_
  | with_reducible refine GS.ex_str ?_
  | with_reducible refine GS.ex_int ?_
  | with_reducible refine GS.ex_v ?_
  | with_reducible refine GS.ex_two ?_
  | with_reducible refine GS.ex_lst ?_
  | with_reducible refine GS.ex_tup ?_
  | with_reducible refine GS.ex_lst1 ?_
  | with_reducible refine GS.ex_truS ?_
  | ((with_reducible show ∃ _, GS.TruS _ _ ∧ _); refine GS.ex_tru rfl ?_)
  | with_reducible refine GS.eo_no ?_
  | with_reducible refine GS.eo_yes ?_
  | with_reducible refine GS.e3_list ?_
  | with_reducible refine GS.e3_str ?_
  | with_reducible refine GS.ej_cons ?_
  | with_reducible refine GS.ej_nil ?_
  | with_reducible refine GS.em_split ?_
  | with_reducible refine GS.em_starts ?_
  | ((with_reducible show GS.Ei _ _ _ _); first
    | with_reducible refine GS.ei_list ?_
    | with_reducible refine GS.ei_tup ?_
    | with_reducible refine GS.ei_str ?_
    | with_reducible refine GS.ei_enum ?_
    | with_reducible refine GS.ei_zip ?_
    | with_reducible refine GS.ei_range1 ?_
    | with_reducible refine GS.ei_range2 ?_)
  | ((with_reducible show _ ∧ _); first
    | ((with_reducible refine And.intro ?_ ?_); (with_reducible assumption))
    | ((with_reducible refine GS.sz_and ?_ ?_); exact rfl)
    | ((with_reducible refine GS.cnd_t ?_ ?_); exact rfl)
    | ((with_reducible refine GS.cnd_f ?_ ?_); exact rfl))))

section
variable {P : Program} {w : World} {K : PySem.W.Frag} {mg : Str → Option Value} {base : Heap} {C Co fo : Addr} {j : J} {q : Sh → Prop} {x : Sh} {a : Ty0} {ex : Addr → List (Str × V) → Prop}

theorem use_pick {n : Int} (ho : j.M.out = false) (h0 : 0 < n) (h1 : n < 2 ^ 300) (k : ∀ r : Int, 0 ≤ r → r < n → q (.int r)) : Callx j fsPick ([.bag, .int n] ++ List.map Sh.v []) q ex := callx_of ⟨ho, n, rfl, h0, h1, k⟩
local macro_rules | `(tactic| walk_at "k") => `(tactic| repeat (first
  | ((with_reducible show GS.Ev _ _ _ _); first
    | with_reducible refine GS.ev_c ?_
    | ((with_reducible show GS.Ev _ (L2.tVar _) _ _); refine GS.ev_var rfl ?_)
    | with_reducible refine GS.ev_op ?_
    | with_reducible refine GS.ev_cb ?_
    | with_reducible refine GS.ev_un ?_
    | with_reducible refine GS.ev_tup ?_
    | with_reducible refine GS.ev_lst ?_
    | with_reducible refine GS.ev_if ?_
    | with_reducible refine GS.ev_andV ?_
    | with_reducible refine GS.ev_orV ?_
    | with_reducible refine GS.ev_notV ?_
    | with_reducible refine GS.ev_sl ?_
    | with_reducible refine GS.ev_fmtS ?_
    | with_reducible refine GS.ev_fmtL ?_
    | with_reducible refine GS.ev_joined ?_
    | with_reducible refine GS.ev_m1 ?_)
  | ((with_reducible show GS.E2 _ _ _ _ _); first
    | with_reducible refine GS.e2_I0 ?_
    | with_reducible refine GS.e2_I ?_
    | ((with_reducible refine GS.e2_eq ?_ ?_); exact rfl)
    | ((with_reducible refine GS.e2_ne ?_ ?_); exact rfl)
    | with_reducible refine GS.e2_isN ?_
    | with_reducible refine GS.e2_notN ?_
    | ((with_reducible show GS.E2 _ (L2.rIxL _) _ _ _); refine GS.e2_ixL rfl ?_)
    | ((with_reducible show GS.E2 _ (L2.rIxT _) _ _ _); refine GS.e2_ixT rfl ?_)
    | ((with_reducible show GS.E2 _ (L2.rIx _) (GS.Sh.lst _) _ _); refine GS.e2_ix_l rfl ?_)
    | ((with_reducible show GS.E2 _ (L2.rIx _) (GS.Sh.tup _) _ _); refine GS.e2_ix_t rfl ?_)
    | with_reducible refine GS.e2_cat ?_
    | with_reducible refine GS.e2_addS ?_
    | with_reducible refine GS.e2_inSign ?_)
  | ((with_reducible show GS.Ea _ _ _ _); first
    | with_reducible refine GS.ea_cons ?_
    | with_reducible refine GS.ea_nil ?_)
  | ((with_reducible show GS.Et _ _ _ _); first
    | with_reducible refine GS.et_B ?_
    | with_reducible refine GS.et_test ?_
    | with_reducible refine GS.et_not ?_
    | with_reducible refine GS.et_and ?_
    | with_reducible refine GS.et_or ?_
    | with_reducible refine GS.et_yes ?_
    | with_reducible refine GS.et_tru ?_)
  | ((with_reducible show GS.B _ _ _ _ _ _ _); first
    | with_reducible refine GS.b_seq ?_
    | with_reducible refine GS.b_if ?_
    | with_reducible refine GS.b_ret ?_
    | with_reducible refine GS.b_asg ?_
    | with_reducible refine GS.b_drop ?_
    | with_reducible refine GS.b_next ?_
    | with_reducible refine GS.b_par ?_
    | with_reducible refine GS.b_raise (fun _ => rfl) ?_)
  | with_reducible refine GS.eg_name ?_
  | with_reducible refine GS.egs_cons ?_
  | with_reducible refine GS.egs_nil ?_
  | ((with_reducible refine GS.eg_tup ?_ ?_); exact rfl)
  | with_reducible refine GS.e1_U ?_
  | ((with_reducible show GS.En _ _ _ _); first
    | with_reducible refine GS.en_len_l ?_
    | with_reducible refine GS.en_len_t ?_
    | with_reducible refine GS.en_len_str ?_
    | with_reducible refine GS.en_int ?_
    | with_reducible refine GS.en_bool ?_
    | with_reducible refine GS.en_abs ?_
    | with_reducible refine GS.en_str ?_
    | with_reducible refine GS.en_strL ?_
    | with_reducible refine GS.en_gcd ?_
    | with_reducible refine GS.en_list_l ?_
    | with_reducible refine GS.en_list_t ?_
    | with_reducible refine GS.en_tuple_l ?_)
  | with_reducible refine GS.ex_bl ?_
  | with_reducible refine GS.ex_str ?_
  | with_reducible refine GS.ex_int ?_
  | with_reducible refine GS.ex_v ?_
  | with_reducible refine GS.ex_two ?_
  | with_reducible refine GS.ex_lst ?_
  | with_reducible refine GS.ex_tup ?_
  | with_reducible refine GS.ex_lst1 ?_
  | with_reducible refine GS.ex_truS ?_
  | ((with_reducible show ∃ _, GS.TruS _ _ ∧ _); refine GS.ex_tru rfl ?_)
  | with_reducible refine GS.eo_no ?_
  | with_reducible refine GS.eo_yes ?_
  | with_reducible refine GS.e3_list ?_
  | with_reducible refine GS.e3_str ?_
  | with_reducible refine GS.ej_cons ?_
  | with_reducible refine GS.ej_nil ?_
  | with_reducible refine GS.em_split ?_
  | with_reducible refine GS.em_starts ?_
  | ((with_reducible show GS.Ei _ _ _ _); first
    | with_reducible refine GS.ei_list ?_
    | with_reducible refine GS.ei_tup ?_
    | with_reducible refine GS.ei_str ?_
    | with_reducible refine GS.ei_enum ?_
    | with_reducible refine GS.ei_zip ?_
    | with_reducible refine GS.ei_range1 ?_
    | with_reducible refine GS.ei_range2 ?_)
  | ((with_reducible show _ ∧ _); first
    | ((with_reducible refine And.intro ?_ ?_); (with_reducible assumption))
    | ((with_reducible refine GS.sz_and ?_ ?_); exact rfl)
    | ((with_reducible refine GS.cnd_t ?_ ?_); exact rfl)
    | ((with_reducible refine GS.cnd_f ?_ ?_); exact rfl))
  | ((with_reducible show GS.En _ (L2.rIsi _) _ _); first
    | ((with_reducible apply isi_int (by with_reducible assumption)); (first | with_reducible assumption | exact knd_int | exact knd_bl | exact knd_str | exact knd_non | exact knd_lst | exact knd_tup | exact knd_rat (by assumption)))
    | ((with_reducible apply isi_bool (by with_reducible assumption)); (first | with_reducible assumption | exact knd_int | exact knd_bl | exact knd_str | exact knd_non | exact knd_lst | exact knd_tup | exact knd_rat (by assumption)))
    | ((with_reducible apply isi_str (by with_reducible assumption)); (first | with_reducible assumption | exact knd_int | exact knd_bl | exact knd_str | exact knd_non | exact knd_lst | exact knd_tup | exact knd_rat (by assumption)))
    | ((with_reducible apply isi_tuple (by with_reducible assumption)); (first | with_reducible assumption | exact knd_int | exact knd_bl | exact knd_str | exact knd_non | exact knd_lst | exact knd_tup | exact knd_rat (by assumption)))
    | ((with_reducible apply isi_list (by with_reducible assumption)); (first | with_reducible assumption | exact knd_int | exact knd_bl | exact knd_str | exact knd_non | exact knd_lst | exact knd_tup | exact knd_rat (by assumption)))
    | ((with_reducible apply isi_rat (by with_reducible assumption)); (first | with_reducible assumption | exact knd_int | exact knd_bl | exact knd_str | exact knd_non | exact knd_lst | exact knd_tup | exact knd_rat (by assumption))))
  | (with_reducible refine ev_top (by with_reducible assumption) ?_)
  | (with_reducible refine ev_bot (by with_reducible assumption) ?_)
  | with_reducible refine ex_rat ?_
  | with_reducible refine GS.ev_call (E := L2.E0) GS.XOk.no ?_
  | with_reducible refine GS.ev_call GS.XOk.own ?_
  | ((with_reducible show GS.Callx _ _ _ _ _); first
    | ((with_reducible apply use_integral); (first | with_reducible assumption | exact knd_int | exact knd_bl | exact knd_str | exact knd_non | exact knd_lst | exact knd_tup | exact knd_rat (by assumption)))
    | ((with_reducible apply use_parts); first | with_reducible assumption | exact num_rat | exact num_int)
    | ((with_reducible refine use_digits ?_ ?_); with_reducible assumption)
    | ((with_reducible refine use_intof ?_ ?_); with_reducible assumption)
    | ((with_reducible refine use_frac ?_ ?_); with_reducible assumption))
  | with_reducible refine GS.ev_make (E := L2.E0) GS.XOk.no ?_
  | with_reducible refine GS.ev_make GS.XOk.own ?_
  | ((with_reducible show L2.CMulW _ _ ∧ _); refine And.intro (cmw (by with_reducible assumption) (by with_reducible assumption)) ?_)
  | ((with_reducible refine use_init ?_ ?_ ?_); (with_reducible assumption); (with_reducible assumption))
  | with_reducible refine GS.ev_prop GS.XOk.no ?_))

local macro_rules | `(tactic| walk_at "be") => `(tactic| repeat (first
  | ((with_reducible show GS.E2 _ _ (GS.Sh.v (L2.V.ref _)) _ _); first
    | with_reducible refine GS.bg_r0 ?_
    | with_reducible refine GS.bg_r1 ?_
    | with_reducible refine GS.bg_r2 ?_
    | with_reducible refine GS.bg_r3 ?_
    | with_reducible refine GS.bg_r4 ?_)
  | ((with_reducible show GS.En _ _ [GS.Sh.v (L2.V.ref _)] _); refine GS.en_lenH 0 rfl ?_)
  | ((with_reducible show (GS.Sh.v (L2.V.ref _) = GS.Sh.v (L2.V.ref _)) ∧ _); refine And.intro rfl ?_)
  | ((with_reducible show GS.Ev _ _ _ _); first
    | with_reducible refine GS.ev_c ?_
    | ((with_reducible show GS.Ev _ (L2.tVar _) _ _); refine GS.ev_var rfl ?_)
    | with_reducible refine GS.ev_op ?_
    | with_reducible refine GS.ev_cb ?_
    | with_reducible refine GS.ev_un ?_
    | with_reducible refine GS.ev_tup ?_
    | with_reducible refine GS.ev_lst ?_
    | with_reducible refine GS.ev_if ?_
    | with_reducible refine GS.ev_andV ?_
    | with_reducible refine GS.ev_orV ?_
    | with_reducible refine GS.ev_notV ?_
    | with_reducible refine GS.ev_sl ?_
    | with_reducible refine GS.ev_fmtS ?_
    | with_reducible refine GS.ev_fmtL ?_
    | with_reducible refine GS.ev_joined ?_
    | with_reducible refine GS.ev_m1 ?_)
  | ((with_reducible show GS.E2 _ _ _ _ _); first
    | with_reducible refine GS.e2_I0 ?_
    | with_reducible refine GS.e2_I ?_
    | ((with_reducible refine GS.e2_eq ?_ ?_); exact rfl)
    | ((with_reducible refine GS.e2_ne ?_ ?_); exact rfl)
    | with_reducible refine GS.e2_isN ?_
    | with_reducible refine GS.e2_notN ?_
    | ((with_reducible show GS.E2 _ (L2.rIxL _) _ _ _); refine GS.e2_ixL rfl ?_)
    | ((with_reducible show GS.E2 _ (L2.rIxT _) _ _ _); refine GS.e2_ixT rfl ?_)
    | ((with_reducible show GS.E2 _ (L2.rIx _) (GS.Sh.lst _) _ _); refine GS.e2_ix_l rfl ?_)
    | ((with_reducible show GS.E2 _ (L2.rIx _) (GS.Sh.tup _) _ _); refine GS.e2_ix_t rfl ?_)
    | with_reducible refine GS.e2_cat ?_
    | with_reducible refine GS.e2_addS ?_
    | with_reducible refine GS.e2_inSign ?_)
  | ((with_reducible show GS.Ea _ _ _ _); first
    | with_reducible refine GS.ea_cons ?_
    | with_reducible refine GS.ea_nil ?_)
  | ((with_reducible show GS.Et _ _ _ _); first
    | with_reducible refine GS.et_B ?_
    | with_reducible refine GS.et_test ?_
    | with_reducible refine GS.et_not ?_
    | with_reducible refine GS.et_and ?_
    | with_reducible refine GS.et_or ?_
    | with_reducible refine GS.et_yes ?_
    | with_reducible refine GS.et_tru ?_)
  | ((with_reducible show GS.B _ _ _ _ _ _ _); first
    | with_reducible refine GS.b_seq ?_
    | with_reducible refine GS.b_if ?_
    | with_reducible refine GS.b_ret ?_
    | with_reducible refine GS.b_asg ?_
    | with_reducible refine GS.b_drop ?_
    | with_reducible refine GS.b_next ?_
    | with_reducible refine GS.b_par ?_
    | with_reducible refine GS.b_raise (fun _ => rfl) ?_)
  | with_reducible refine GS.eg_name ?_
  | with_reducible refine GS.egs_cons ?_
  | with_reducible refine GS.egs_nil ?_
  | ((with_reducible refine GS.eg_tup ?_ ?_); exact rfl)
  | with_reducible refine GS.e1_U ?_
  | ((with_reducible show GS.En _ _ _ _); first
    | with_reducible refine GS.en_len_l ?_
    | with_reducible refine GS.en_len_t ?_
    | with_reducible refine GS.en_len_str ?_
    | with_reducible refine GS.en_int ?_
    | with_reducible refine GS.en_bool ?_
    | with_reducible refine GS.en_abs ?_
    | with_reducible refine GS.en_str ?_
    | with_reducible refine GS.en_strL ?_
    | with_reducible refine GS.en_gcd ?_
    | with_reducible refine GS.en_list_l ?_
    | with_reducible refine GS.en_list_t ?_
    | with_reducible refine GS.en_tuple_l ?_)
  | with_reducible refine GS.ex_bl ?_
  | with_reducible refine GS.ex_str ?_
  | with_reducible refine GS.ex_int ?_
  | with_reducible refine GS.ex_v ?_
  | with_reducible refine GS.ex_two ?_
  | with_reducible refine GS.ex_lst ?_
  | with_reducible refine GS.ex_tup ?_
  | with_reducible refine GS.ex_lst1 ?_
  | with_reducible refine GS.ex_truS ?_
  | ((with_reducible show ∃ _, GS.TruS _ _ ∧ _); refine GS.ex_tru rfl ?_)
  | with_reducible refine GS.eo_no ?_
  | with_reducible refine GS.eo_yes ?_
  | with_reducible refine GS.e3_list ?_
  | with_reducible refine GS.e3_str ?_
  | with_reducible refine GS.ej_cons ?_
  | with_reducible refine GS.ej_nil ?_
  | with_reducible refine GS.em_split ?_
  | with_reducible refine GS.em_starts ?_
  | ((with_reducible show GS.Ei _ _ _ _); first
    | with_reducible refine GS.ei_list ?_
    | with_reducible refine GS.ei_tup ?_
    | with_reducible refine GS.ei_str ?_
    | with_reducible refine GS.ei_enum ?_
    | with_reducible refine GS.ei_zip ?_
    | with_reducible refine GS.ei_range1 ?_
    | with_reducible refine GS.ei_range2 ?_)
  | ((with_reducible show _ ∧ _); first
    | ((with_reducible refine And.intro ?_ ?_); (with_reducible assumption))
    | ((with_reducible refine GS.sz_and ?_ ?_); exact rfl)
    | ((with_reducible refine GS.cnd_t ?_ ?_); exact rfl)
    | ((with_reducible refine GS.cnd_f ?_ ?_); exact rfl))
  | ((with_reducible show GS.En _ (L2.rIsi _) _ _); first
    | ((with_reducible apply isi_int (by with_reducible assumption)); (first | with_reducible assumption | exact knd_int | exact knd_bl | exact knd_str | exact knd_non | exact knd_lst | exact knd_tup | exact knd_rat (by assumption)))
    | ((with_reducible apply isi_bool (by with_reducible assumption)); (first | with_reducible assumption | exact knd_int | exact knd_bl | exact knd_str | exact knd_non | exact knd_lst | exact knd_tup | exact knd_rat (by assumption)))
    | ((with_reducible apply isi_str (by with_reducible assumption)); (first | with_reducible assumption | exact knd_int | exact knd_bl | exact knd_str | exact knd_non | exact knd_lst | exact knd_tup | exact knd_rat (by assumption)))
    | ((with_reducible apply isi_tuple (by with_reducible assumption)); (first | with_reducible assumption | exact knd_int | exact knd_bl | exact knd_str | exact knd_non | exact knd_lst | exact knd_tup | exact knd_rat (by assumption)))
    | ((with_reducible apply isi_list (by with_reducible assumption)); (first | with_reducible assumption | exact knd_int | exact knd_bl | exact knd_str | exact knd_non | exact knd_lst | exact knd_tup | exact knd_rat (by assumption)))
    | ((with_reducible apply isi_rat (by with_reducible assumption)); (first | with_reducible assumption | exact knd_int | exact knd_bl | exact knd_str | exact knd_non | exact knd_lst | exact knd_tup | exact knd_rat (by assumption))))
  | (with_reducible refine ev_top (by with_reducible assumption) ?_)
  | (with_reducible refine ev_bot (by with_reducible assumption) ?_)
  | with_reducible refine ex_rat ?_
  | with_reducible refine GS.ev_call (E := L2.E0) GS.XOk.no ?_
  | with_reducible refine GS.ev_call GS.XOk.own ?_
  | ((with_reducible show GS.Callx _ _ _ _ _); first
    | ((with_reducible apply use_integral); (first | with_reducible assumption | exact knd_int | exact knd_bl | exact knd_str | exact knd_non | exact knd_lst | exact knd_tup | exact knd_rat (by assumption)))
    | ((with_reducible apply use_parts); first | with_reducible assumption | exact num_rat | exact num_int)
    | ((with_reducible refine use_digits ?_ ?_); with_reducible assumption)
    | ((with_reducible refine use_intof ?_ ?_); with_reducible assumption)
    | ((with_reducible refine use_frac ?_ ?_); with_reducible assumption))
  | with_reducible refine GS.ev_make (E := L2.E0) GS.XOk.no ?_
  | with_reducible refine GS.ev_make GS.XOk.own ?_
  | ((with_reducible show L2.CMulW _ _ ∧ _); refine And.intro (cmw (by with_reducible assumption) (by with_reducible assumption)) ?_)
  | ((with_reducible refine use_init ?_ ?_ ?_); (with_reducible assumption); (with_reducible assumption))
  | with_reducible refine GS.ev_prop GS.XOk.no ?_
  | ((with_reducible show (0 : Int) < _ ∧ _); (refine And.intro ?_ ?_); (first | decide | assumption | omega))
  | ((with_reducible show L2.CPow _ _ ∧ _); refine And.intro ⟨by decide, by decide, by decide⟩ ?_)
  | ((with_reducible show L2.CMul _ _ ∧ _); (refine And.intro ?_ ?_); first | exact .inr ⟨by decide, by decide⟩ | exact .inl ⟨by decide, by decide⟩ | exact .inr ⟨by omega, by omega⟩ | exact .inl ⟨by omega, by omega⟩)
  | ((with_reducible show L2.CDivW _ _ ∧ _); (refine And.intro ?_ ?_); first | exact ⟨by decide, by decide⟩ | exact (by assumption : ∀ i, L2.CDivW i _) _)))
local macro_rules | `(tactic| walk_at "bm") => `(tactic| repeat (first
  | ((with_reducible show GS.Bm _ _ _ _ _ _ _ _); first
    | with_reducible refine GS.bm_seq ?_
    | with_reducible refine GS.bm_if ?_
    | with_reducible refine GS.bm_ret ?_
    | ((with_reducible refine GS.bg_w1 ?_ ?_); with_unfolding_all rfl)
    | ((with_reducible refine GS.bg_w2 ?_ ?_); with_unfolding_all rfl)
    | ((with_reducible refine GS.bg_w3 ?_ ?_); with_unfolding_all rfl)
    | ((with_reducible refine GS.bg_w4 ?_ ?_); with_unfolding_all rfl)
    | with_reducible refine GS.bm_asg ?_
    | with_reducible refine GS.bm_next ?_
    | with_reducible refine GS.bm_par ?_)
  | ((with_reducible show GS.E2 _ _ (GS.Sh.v (L2.V.ref _)) _ _); first
    | with_reducible refine GS.bg_r0 ?_
    | with_reducible refine GS.bg_r1 ?_
    | with_reducible refine GS.bg_r2 ?_
    | with_reducible refine GS.bg_r3 ?_
    | with_reducible refine GS.bg_r4 ?_)
  | ((with_reducible show GS.En _ _ [GS.Sh.v (L2.V.ref _)] _); refine GS.en_lenH 0 rfl ?_)
  | ((with_reducible show (GS.Sh.v (L2.V.ref _) = GS.Sh.v (L2.V.ref _)) ∧ _); refine And.intro rfl ?_)
  | ((with_reducible show GS.Ev _ _ _ _); first
    | with_reducible refine GS.ev_c ?_
    | ((with_reducible show GS.Ev _ (L2.tVar _) _ _); refine GS.ev_var rfl ?_)
    | with_reducible refine GS.ev_op ?_
    | with_reducible refine GS.ev_cb ?_
    | with_reducible refine GS.ev_un ?_
    | with_reducible refine GS.ev_tup ?_
    | with_reducible refine GS.ev_lst ?_
    | with_reducible refine GS.ev_if ?_
    | with_reducible refine GS.ev_andV ?_
    | with_reducible refine GS.ev_orV ?_
    | with_reducible refine GS.ev_notV ?_
    | with_reducible refine GS.ev_sl ?_
    | with_reducible refine GS.ev_fmtS ?_
    | with_reducible refine GS.ev_fmtL ?_
    | with_reducible refine GS.ev_joined ?_
    | with_reducible refine GS.ev_m1 ?_)
  | ((with_reducible show GS.E2 _ _ _ _ _); first
    | with_reducible refine GS.e2_I0 ?_
    | with_reducible refine GS.e2_I ?_
    | ((with_reducible refine GS.e2_eq ?_ ?_); exact rfl)
    | ((with_reducible refine GS.e2_ne ?_ ?_); exact rfl)
    | with_reducible refine GS.e2_isN ?_
    | with_reducible refine GS.e2_notN ?_
    | ((with_reducible show GS.E2 _ (L2.rIxL _) _ _ _); refine GS.e2_ixL rfl ?_)
    | ((with_reducible show GS.E2 _ (L2.rIxT _) _ _ _); refine GS.e2_ixT rfl ?_)
    | ((with_reducible show GS.E2 _ (L2.rIx _) (GS.Sh.lst _) _ _); refine GS.e2_ix_l rfl ?_)
    | ((with_reducible show GS.E2 _ (L2.rIx _) (GS.Sh.tup _) _ _); refine GS.e2_ix_t rfl ?_)
    | with_reducible refine GS.e2_cat ?_
    | with_reducible refine GS.e2_addS ?_
    | with_reducible refine GS.e2_inSign ?_)
  | ((with_reducible show GS.Ea _ _ _ _); first
    | with_reducible refine GS.ea_cons ?_
    | with_reducible refine GS.ea_nil ?_)
  | ((with_reducible show GS.Et _ _ _ _); first
    | with_reducible refine GS.et_B ?_
    | with_reducible refine GS.et_test ?_
    | with_reducible refine GS.et_not ?_
    | with_reducible refine GS.et_and ?_
    | with_reducible refine GS.et_or ?_
    | with_reducible refine GS.et_yes ?_
    | with_reducible refine GS.et_tru ?_)
  | ((with_reducible show GS.B _ _ _ _ _ _ _); first
    | with_reducible refine GS.b_seq ?_
    | with_reducible refine GS.b_if ?_
    | with_reducible refine GS.b_ret ?_
    | with_reducible refine GS.b_asg ?_
    | with_reducible refine GS.b_drop ?_
    | with_reducible refine GS.b_next ?_
    | with_reducible refine GS.b_par ?_
    | with_reducible refine GS.b_raise (fun _ => rfl) ?_)
  | with_reducible refine GS.eg_name ?_
  | with_reducible refine GS.egs_cons ?_
  | with_reducible refine GS.egs_nil ?_
  | ((with_reducible refine GS.eg_tup ?_ ?_); exact rfl)
  | with_reducible refine GS.e1_U ?_
  | ((with_reducible show GS.En _ _ _ _); first
    | with_reducible refine GS.en_len_l ?_
    | with_reducible refine GS.en_len_t ?_
    | with_reducible refine GS.en_len_str ?_
    | with_reducible refine GS.en_int ?_
    | with_reducible refine GS.en_bool ?_
    | with_reducible refine GS.en_abs ?_
    | with_reducible refine GS.en_str ?_
    | with_reducible refine GS.en_strL ?_
    | with_reducible refine GS.en_gcd ?_
    | with_reducible refine GS.en_list_l ?_
    | with_reducible refine GS.en_list_t ?_
    | with_reducible refine GS.en_tuple_l ?_)
  | with_reducible refine GS.ex_bl ?_
  | with_reducible refine GS.ex_str ?_
  | with_reducible refine GS.ex_int ?_
  | with_reducible refine GS.ex_v ?_
  | with_reducible refine GS.ex_two ?_
  | with_reducible refine GS.ex_lst ?_
  | with_reducible refine GS.ex_tup ?_
  | with_reducible refine GS.ex_lst1 ?_
  | with_reducible refine GS.ex_truS ?_
  | ((with_reducible show ∃ _, GS.TruS _ _ ∧ _); refine GS.ex_tru rfl ?_)
  | with_reducible refine GS.eo_no ?_
  | with_reducible refine GS.eo_yes ?_
  | with_reducible refine GS.e3_list ?_
  | with_reducible refine GS.e3_str ?_
  | with_reducible refine GS.ej_cons ?_
  | with_reducible refine GS.ej_nil ?_
  | with_reducible refine GS.em_split ?_
  | with_reducible refine GS.em_starts ?_
  | ((with_reducible show GS.Ei _ _ _ _); first
    | with_reducible refine GS.ei_list ?_
    | with_reducible refine GS.ei_tup ?_
    | with_reducible refine GS.ei_str ?_
    | with_reducible refine GS.ei_enum ?_
    | with_reducible refine GS.ei_zip ?_
    | with_reducible refine GS.ei_range1 ?_
    | with_reducible refine GS.ei_range2 ?_)
  | ((with_reducible show _ ∧ _); first
    | ((with_reducible refine And.intro ?_ ?_); (with_reducible assumption))
    | ((with_reducible refine GS.sz_and ?_ ?_); exact rfl)
    | ((with_reducible refine GS.cnd_t ?_ ?_); exact rfl)
    | ((with_reducible refine GS.cnd_f ?_ ?_); exact rfl))
  | ((with_reducible show GS.En _ (L2.rIsi _) _ _); first
    | ((with_reducible apply isi_int (by with_reducible assumption)); (first | with_reducible assumption | exact knd_int | exact knd_bl | exact knd_str | exact knd_non | exact knd_lst | exact knd_tup | exact knd_rat (by assumption)))
    | ((with_reducible apply isi_bool (by with_reducible assumption)); (first | with_reducible assumption | exact knd_int | exact knd_bl | exact knd_str | exact knd_non | exact knd_lst | exact knd_tup | exact knd_rat (by assumption)))
    | ((with_reducible apply isi_str (by with_reducible assumption)); (first | with_reducible assumption | exact knd_int | exact knd_bl | exact knd_str | exact knd_non | exact knd_lst | exact knd_tup | exact knd_rat (by assumption)))
    | ((with_reducible apply isi_tuple (by with_reducible assumption)); (first | with_reducible assumption | exact knd_int | exact knd_bl | exact knd_str | exact knd_non | exact knd_lst | exact knd_tup | exact knd_rat (by assumption)))
    | ((with_reducible apply isi_list (by with_reducible assumption)); (first | with_reducible assumption | exact knd_int | exact knd_bl | exact knd_str | exact knd_non | exact knd_lst | exact knd_tup | exact knd_rat (by assumption)))
    | ((with_reducible apply isi_rat (by with_reducible assumption)); (first | with_reducible assumption | exact knd_int | exact knd_bl | exact knd_str | exact knd_non | exact knd_lst | exact knd_tup | exact knd_rat (by assumption))))
  | (with_reducible refine ev_top (by with_reducible assumption) ?_)
  | (with_reducible refine ev_bot (by with_reducible assumption) ?_)
  | with_reducible refine ex_rat ?_
  | with_reducible refine GS.ev_call (E := L2.E0) GS.XOk.no ?_
  | with_reducible refine GS.ev_call GS.XOk.own ?_
  | ((with_reducible show GS.Callx _ _ _ _ _); first
    | ((with_reducible apply use_integral); (first | with_reducible assumption | exact knd_int | exact knd_bl | exact knd_str | exact knd_non | exact knd_lst | exact knd_tup | exact knd_rat (by assumption)))
    | ((with_reducible apply use_parts); first | with_reducible assumption | exact num_rat | exact num_int)
    | ((with_reducible refine use_digits ?_ ?_); with_reducible assumption)
    | ((with_reducible refine use_intof ?_ ?_); with_reducible assumption)
    | ((with_reducible refine use_frac ?_ ?_); with_reducible assumption))
  | with_reducible refine GS.ev_make (E := L2.E0) GS.XOk.no ?_
  | with_reducible refine GS.ev_make GS.XOk.own ?_
  | ((with_reducible show L2.CMulW _ _ ∧ _); refine And.intro (cmw (by with_reducible assumption) (by with_reducible assumption)) ?_)
  | ((with_reducible refine use_init ?_ ?_ ?_); (with_reducible assumption); (with_reducible assumption))
  | with_reducible refine GS.ev_prop GS.XOk.no ?_
  | ((with_reducible show (0 : Int) < _ ∧ _); (refine And.intro ?_ ?_); (first | decide | assumption | omega))
  | ((with_reducible show L2.CPow _ _ ∧ _); refine And.intro ⟨by decide, by decide, by decide⟩ ?_)
  | ((with_reducible show L2.CMul _ _ ∧ _); (refine And.intro ?_ ?_); first | exact .inr ⟨by decide, by decide⟩ | exact .inl ⟨by decide, by decide⟩ | exact .inr ⟨by omega, by omega⟩ | exact .inl ⟨by omega, by omega⟩)
  | ((with_reducible show L2.CDivW _ _ ∧ _); (refine And.intro ?_ ?_); first | exact ⟨by decide, by decide⟩ | exact (by assumption : ∀ i, L2.CDivW i _) _)))

def fsOf : Fs := fun M l S => M.out = false ∧ ((∃ t, l = [.bag, .lst t] ∧ 0 < t.length ∧ t.length < 2 ^ 24 ∧ ∀ s ∈ t, S (.ret s)) ∨ (∃ z : Str, l = [.bag, .str z] ∧ 0 < z.length ∧ z.length < 2 ^ 24 ∧ ∀ c ∈ z.cps.toList, S (.ret (.str ⟨#[c]⟩))))
theorem ok_of {f : Addr} {fd : FuncData} (F : Fun K "_law_of" "_law_of" s__law_of f fd) (T : Tx P K mg C Co fo) (d__law_pick : Df P w K mg base CX0 1 "_law_pick" [] (SpS fsPick)) : FnOk P w K mg base CX0 2 f fd ["bag", "things"] (SpS fsOf) := by
  refine fun_okS F sc__law_of (fun M l S h => by rcases h with ⟨_, ⟨_, e, _⟩ | ⟨_, e, _⟩⟩ <;> exact e ▸ rfl) fun cdv A outer s H E hr => ?_
  refine ⟨_, (pss_one (ps_ret (pe_ix (r := rIx K) ix_seq (pv 1) (pe_df d__law_pick hr (by decide) pass0 (pa_cons (pv 0) (pa_cons (pe_callB call_len (by rfl) T.n_len (by decide +kernel) (pa_cons (pv 1) pa_nil)) pa_nil))) (fun _ _ => rfl)))), ?_⟩
  rintro M l S ⟨ho, h⟩
  show B _ _ _ _ _ _ _
  try simp only [cxK, cxKn]
  rcases h with ⟨t, rfl, h0, h1, k⟩ | ⟨z, rfl, h0, h1, k⟩
  · walk_at "k"
    refine use_pick ho (by omega) (by omega) fun r r0 r1 => ?_
    exact e2_ixAny r0 r1 fun s hs => k s hs
  · walk_at "k"
    have hz : z.length ≤ sizeLine := by rw [sizeLine_eq]; omega
    refine en_lenV ⟨hz, ?_⟩
    walk_at "k"
    refine use_pick ho (by omega) (by omega) fun r r0 r1 => ?_
    exact e2_ixAnyS hz r0 r1 fun s hs => k s hs
theorem perm_erase {α : Type} : ∀ (l : List α) (n : Nat) (h : n < l.length), (l[n] :: l.eraseIdx n).Perm l
  | x :: l, 0, h => .refl _
  | x :: l, n + 1, h => (List.Perm.swap x _ _).trans (.cons x (perm_erase l n (by simpa using h)))
def fsShuf : Fs := fun M l S => M.out = false ∧ ∃ t, l = [.bag, .lst t] ∧ t.length < 100000 ∧ ∀ u, u.Perm t → S (.ret (.lst u))
theorem ok_shuf {f : Addr} {fd : FuncData} (F : Fun K "_law_shuffled" "_law_shuffled" s__law_shuffled f fd) (T : Tx P K mg C Co fo) (d__law_pick : Df P w K mg base CX0 1 "_law_pick" [] (SpS fsPick)) : FnOk P w K mg base CX0 2 f fd ["bag", "things"] (SpS fsShuf) := by
  refine fun_okM F sc__law_shuffled (fun M l S ⟨_, _, e, _⟩ => e ▸ rfl) fun cdv A outer s H E hr => ?_
  refine ⟨_, (pss_cons (ps_par (i := 2) (j := 3) (by rfl) sc__law_shuffled.nd rfl rfl (by decide) rfl rfl (pa_cons (pe_callTy call_list_of (by rfl) T.n_list (by decide +kernel) (pa_cons (pv 1) pa_nil)) (pa_cons (pe_lst pa_nil) pa_nil)) (by rfl))
      (pss_cons (ps_for PassesOwn.never rfl (pi_range1 rfl T.n_range (pa_cons (pe_callB call_len (by rfl) T.n_len (by decide +kernel) (pa_cons (pv 1) pa_nil)) pa_nil)) (pg_name (i := 4) sc__law_shuffled.nd rfl (Or.inl rfl)) (pss_one (ps_expr (pe_bm PySem.F.plainAttrs_list PySem.F.slot_list_append PySem.F.type_list_append mt_append (pv 3) (pa_cons (pe_bm PySem.F.plainAttrs_list PySem.F.slot_list_pop PySem.F.type_list_pop mt_popAt (pv 2) (pa_cons (pe_df d__law_pick hr (by decide) pass0 (pa_cons (pv 0) (pa_cons (pe_callB call_len (by rfl) T.n_len (by decide +kernel) (pa_cons (pv 2) pa_nil)) pa_nil))) pa_nil)) pa_nil)))))
      (pss_one (ps_ret (pv 3))))), ?_⟩
  rintro M l S ⟨ho, t, rfl, hz, k⟩ H
  try simp only [cxK, cxKn]
  refine bm_seq (bm_parNew (nw_list ?_))
  walk_at "k"
  refine ⟨t, .inl rfl, fun a => nw_lst ?_⟩
  walk_at "k"
  intro b
  refine bm_seq (bm_for ?_)
  walk_at "k"
  refine ⟨_, rfl, by omega, by omega, fun i hs ss => ∃ u rest o, hs = [(b, .lst u), (a, .lst rest)] ∧ (u ++ rest).Perm t ∧ u.length = i ∧ ss = [some .bag, some (.lst t), some (.v (.ref a)), some (.v (.ref b)), o], ⟨[], t, none, rfl, .refl _, rfl, rfl⟩, ?_, ?_⟩
  · rintro H A i s hs1 ss1 hi ⟨u, rest, o, rfl, hp, hu, rfl⟩
    have hlen := hp.length_eq
    rw [List.length_append] at hlen
    have hit : i < t.length := by
      have z := (List.getElem?_eq_some_iff.mp hi).1
      simp at z
      omega
    walk_at "bm"
    refine bm_appPop 0 1 rfl rfl (by decide) ?_
    walk_at "be"
    refine en_lenH 1 rfl ?_
    walk_at "be"
    refine use_pick ho (by omega) (by omega) fun r r0 r1 => ?_
    walk_at "be"
    obtain ⟨n, rfl⟩ := Int.eq_ofNat_of_zero_le r0
    have hn : n < rest.length := by omega
    refine ⟨n, rest[n], rfl, by omega, List.getElem?_eq_getElem hn, ?_, u ++ [rest[n]], rest.eraseIdx n, some s, rfl, ?_, by rw [List.length_append, List.length_singleton, hu], rfl⟩
    · rw [sizeLine_eq]
      omega
    · refine List.Perm.trans ?_ hp
      rw [List.append_assoc]
      refine List.Perm.append_left _ ?_
      exact perm_erase rest n hn
  · rintro hs1 ss1 ⟨u, rest, o, rfl, hp, hu, rfl⟩
    have hlen := hp.length_eq
    rw [List.length_append] at hlen
    simp at hu
    have hr : rest = [] := List.length_eq_zero_iff.mp (by omega)
    subst hr
    rw [List.append_nil] at hp
    walk_at "bm"
    exact ⟨_, .own List.mem_cons_self, k u hp⟩
/-! ### is a Ratio, is the same -/
def fsIsR (K : PySem.W.Frag) (C : Addr) : Fs := fun _ l S => ∃ r, l = [Rt C r, .tup [.int r.num, .int (r.den : Int)]] ∧ S (.ret (.bl true))
theorem ok_isR {f : Addr} {fd : FuncData} (F : Fun K "_law_is_ratio" "_law_is_ratio" s__law_is_ratio f fd) (T : Tx P K mg C Co fo) : FnOk P w K mg base CX0 1 f fd ["told", "due"] (SpS (fsIsR K C)) := by
  refine fun_okS F sc__law_is_ratio (fun M l S ⟨_, e, _⟩ => e ▸ rfl) fun cdv A outer s H E hr => ?_
  refine ⟨_, (pss_cons (ps_if (PW.pt (pw_or (pt_not (pt_val (pe_callB call_isi (by rfl) T.n_isinstance (by decide +kernel) (pa_cons (pv 0) (pa_cons (pe_glob (v := .ref C) (by rfl) T.g_Ratio rfl) pa_nil))))) (pw_or (pt_val (pe_callB call_isi (by rfl) T.n_isinstance (by decide +kernel) (pa_cons (pe_fld (pv 0) rfl) (pa_cons (pe_bltn (v := .ty "bool") (u := .type "bool") (by rfl) T.n_bool (by decide +kernel) rfl) pa_nil)))) (pw_or1 (pt_val (pe_callB call_isi (by rfl) T.n_isinstance (by decide +kernel) (pa_cons (pe_fld (pv 0) rfl) (pa_cons (pe_bltn (v := .ty "bool") (u := .type "bool") (by rfl) T.n_bool (by decide +kernel) rfl) pa_nil)))))))) (pss_one (ps_ret pe_bl)) pss_nil)
      (pss_one (ps_ret (pe_and (pe_callB call_isi (by rfl) T.n_isinstance (by decide +kernel) (pa_cons (pe_fld (pv 0) rfl) (pa_cons (pe_bltn (v := .ty "int") (u := .type "int") (by rfl) T.n_int (by decide +kernel) rfl) pa_nil))) (pe_and (pe_callB call_isi (by rfl) T.n_isinstance (by decide +kernel) (pa_cons (pe_fld (pv 0) rfl) (pa_cons (pe_bltn (v := .ty "int") (u := .type "int") (by rfl) T.n_int (by decide +kernel) rfl) pa_nil))) (pe_and (pe_cmpR op_eq (pe_fld (pv 0) rfl) (pe_ix (r := rIxT K) ix_tup (pv 1) pe_int (fun _ _ => rfl)) (nomark _)) (pe_one (pe_cmpR op_eq (pe_fld (pv 0) rfl) (pe_ix (r := rIxT K) ix_tup (pv 1) pe_int (fun _ _ => rfl)) (nomark _))))))))), ?_⟩
  rintro M l S ⟨r, rfl, k⟩
  show B _ _ _ _ _ _ _
  try simp only [cxK, cxKn]
  walk_at "k"
  refine cnd_t (by simp) ?_
  walk_at "k"
  simpa using k
end
end KP

/-! K12N -/
set_option Elab.async false
set_option Elab.async false
set_option linter.all false
set_option maxRecDepth 100000
set_option maxHeartbeats 4000000
namespace KP
open PySem PySem.Spec PyProof.Rows L2 GM GS
local macro_rules | `(tactic| walk_at "sh") => `(tactic| repeat (first
  | ((with_reducible show GS.Ev _ _ _ _); first
    | with_reducible refine GS.ev_c ?_
    | ((with_reducible show GS.Ev _ (L2.tVar _) _ _); refine GS.ev_var rfl ?_)
    | with_reducible refine GS.ev_op ?_
    | with_reducible refine GS.ev_cb ?_
    | with_reducible refine GS.ev_un ?_
    | with_reducible refine GS.ev_tup ?_
    | with_reducible refine GS.ev_lst ?_
    | with_reducible refine GS.ev_if ?_
    | with_reducible refine GS.ev_andV ?_
    | with_reducible refine GS.ev_orV ?_
    | with_reducible refine GS.ev_notV ?_
    | with_reducible refine GS.ev_sl ?_
    | with_reducible refine GS.ev_fmtS ?_
    | with_reducible refine GS.ev_fmtL ?_
    | with_reducible refine GS.ev_joined ?_
    | with_reducible refine GS.ev_m1 ?_)
  | ((with_reducible show GS.E2 _ _ _ _ _); first
    | with_reducible refine GS.e2_I0 ?_
    | with_reducible refine GS.e2_I ?_
    | ((with_reducible refine GS.e2_eq ?_ ?_); exact rfl)
    | ((with_reducible refine GS.e2_ne ?_ ?_); exact rfl)
    | with_reducible refine GS.e2_isN ?_
    | with_reducible refine GS.e2_notN ?_
    | ((with_reducible show GS.E2 _ (L2.rIxL _) _ _ _); refine GS.e2_ixL rfl ?_)
    | ((with_reducible show GS.E2 _ (L2.rIxT _) _ _ _); refine GS.e2_ixT rfl ?_)
    | ((with_reducible show GS.E2 _ (L2.rIx _) (GS.Sh.lst _) _ _); refine GS.e2_ix_l rfl ?_)
    | ((with_reducible show GS.E2 _ (L2.rIx _) (GS.Sh.tup _) _ _); refine GS.e2_ix_t rfl ?_)
    | with_reducible refine GS.e2_cat ?_
    | with_reducible refine GS.e2_addS ?_
    | with_reducible refine GS.e2_inSign ?_)
  | ((with_reducible show GS.Ea _ _ _ _); first
    | with_reducible refine GS.ea_cons ?_
    | with_reducible refine GS.ea_nil ?_)
  | ((with_reducible show GS.Et _ _ _ _); first
    | with_reducible refine GS.et_B ?_
    | with_reducible refine GS.et_test ?_
    | with_reducible refine GS.et_not ?_
    | with_reducible refine GS.et_and ?_
    | with_reducible refine GS.et_or ?_
    | with_reducible refine GS.et_yes ?_
    | with_reducible refine GS.et_tru ?_)
  | ((with_reducible show GS.B _ _ _ _ _ _ _); first
    | with_reducible refine GS.b_seq ?_
    | with_reducible refine GS.b_if ?_
    | with_reducible refine GS.b_ret ?_
    | with_reducible refine GS.b_asg ?_
    | with_reducible refine GS.b_drop ?_
    | with_reducible refine GS.b_next ?_
    | with_reducible refine GS.b_par ?_
    | with_reducible refine GS.b_raise (fun _ => rfl) ?_)
  | with_reducible refine GS.eg_name ?_
  | with_reducible refine GS.egs_cons ?_
  | with_reducible refine GS.egs_nil ?_
  | ((with_reducible refine GS.eg_tup ?_ ?_); exact rfl)
  | with_reducible refine GS.e1_U ?_
  | ((with_reducible show GS.En _ _ _ _); first
    | with_reducible refine GS.en_len_l ?_
    | with_reducible refine GS.en_len_t ?_
    | with_reducible refine GS.en_len_str ?_
    | with_reducible refine GS.en_int ?_
    | with_reducible refine GS.en_bool ?_
    | with_reducible refine GS.en_abs ?_
    | with_reducible refine GS.en_str ?_
    | with_reducible refine GS.en_strL ?_
    | with_reducible refine GS.en_gcd ?_
    | with_reducible refine GS.en_list_l ?_
    | with_reducible refine GS.en_list_t ?_
    | with_reducible refine GS.en_tuple_l ?_)
  | with_reducible refine GS.ex_bl ?_
  | with_reducible refine GS.ex_str ?_
  | with_reducible refine GS.ex_int ?_
  | with_reducible refine GS.ex_v ?_
  | with_reducible refine GS.ex_two ?_
  | with_reducible refine GS.ex_lst ?_
  | with_reducible refine GS.ex_tup ?_
  | with_reducible refine GS.ex_lst1 ?_
  | with_reducible refine GS.ex_truS ?_
  | ((with_reducible show ∃ _, GS.TruS _ _ ∧ _); refine GS.ex_tru rfl ?_)
  | with_reducible refine GS.eo_no ?_
  | with_reducible refine GS.eo_yes ?_
  | with_reducible refine GS.e3_list ?_
  | with_reducible refine GS.e3_str ?_
  | with_reducible refine GS.ej_cons ?_
  | with_reducible refine GS.ej_nil ?_
  | with_reducible refine GS.em_split ?_
  | with_reducible refine GS.em_starts ?_
  | ((with_reducible show GS.Ei _ _ _ _); first
    | with_reducible refine GS.ei_list ?_
    | with_reducible refine GS.ei_tup ?_
    | with_reducible refine GS.ei_str ?_
    | with_reducible refine GS.ei_enum ?_
    | with_reducible refine GS.ei_zip ?_
    | with_reducible refine GS.ei_range1 ?_
    | with_reducible refine GS.ei_range2 ?_)
  | ((with_reducible show _ ∧ _); first
    | ((with_reducible refine And.intro ?_ ?_); (with_reducible assumption))
    | ((with_reducible refine GS.sz_and ?_ ?_); exact rfl)
    | ((with_reducible refine GS.cnd_t ?_ ?_); exact rfl)
    | ((with_reducible refine GS.cnd_f ?_ ?_); exact rfl))))

section
variable {P : Program} {w : World} {K : PySem.W.Frag} {mg : Str → Option Value} {base : Heap} {C Co fo : Addr} {j : J} {q : Sh → Prop} {x : Sh} {a : Ty0} {ex : Addr → List (Str × V) → Prop}

/-! ### gcd, lowest terms -/
def fsGcd : Fs := fun _ l S => ∃ a b : Int, l = [.int a, .int b] ∧ S (.ret (.int ((Nat.gcd a.natAbs b.natAbs : Nat) : Int)))
theorem use_gcd {a b : Int} (k : q (.int ((Nat.gcd a.natAbs b.natAbs : Nat) : Int))) : Callx j fsGcd ([.int a, .int b] ++ List.map Sh.v []) q ex := callx_of ⟨a, b, rfl, k⟩
/-- a fraction as the law holds it -/
def Pr (r : Rat) : Sh := .tup [.int r.num, .int (r.den : Int)]
def fsLow : Fs := fun _ l S => ∃ t b : Int, l = [.int t, .int b] ∧ b ≠ 0 ∧ Sz 9000 b ∧ S (.ret (Pr (Rat.divInt t b)))
theorem use_low {t b : Int} (hb : b ≠ 0) (hs : Sz 9000 b) (k : q (Pr (Rat.divInt t b))) : Callx j fsLow ([.int t, .int b] ++ List.map Sh.v []) q ex := callx_of ⟨t, b, rfl, hb, hs, k⟩
local macro_rules | `(tactic| walk_at "k") => `(tactic| repeat (first
  | ((with_reducible show GS.Ev _ _ _ _); first
    | with_reducible refine GS.ev_c ?_
    | ((with_reducible show GS.Ev _ (L2.tVar _) _ _); refine GS.ev_var rfl ?_)
    | with_reducible refine GS.ev_op ?_
    | with_reducible refine GS.ev_cb ?_
    | with_reducible refine GS.ev_un ?_
    | with_reducible refine GS.ev_tup ?_
    | with_reducible refine GS.ev_lst ?_
    | with_reducible refine GS.ev_if ?_
    | with_reducible refine GS.ev_andV ?_
    | with_reducible refine GS.ev_orV ?_
    | with_reducible refine GS.ev_notV ?_
    | with_reducible refine GS.ev_sl ?_
    | with_reducible refine GS.ev_fmtS ?_
    | with_reducible refine GS.ev_fmtL ?_
    | with_reducible refine GS.ev_joined ?_
    | with_reducible refine GS.ev_m1 ?_)
  | ((with_reducible show GS.E2 _ _ _ _ _); first
    | with_reducible refine GS.e2_I0 ?_
    | with_reducible refine GS.e2_I ?_
    | ((with_reducible refine GS.e2_eq ?_ ?_); exact rfl)
    | ((with_reducible refine GS.e2_ne ?_ ?_); exact rfl)
    | with_reducible refine GS.e2_isN ?_
    | with_reducible refine GS.e2_notN ?_
    | ((with_reducible show GS.E2 _ (L2.rIxL _) _ _ _); refine GS.e2_ixL rfl ?_)
    | ((with_reducible show GS.E2 _ (L2.rIxT _) _ _ _); refine GS.e2_ixT rfl ?_)
    | ((with_reducible show GS.E2 _ (L2.rIx _) (GS.Sh.lst _) _ _); refine GS.e2_ix_l rfl ?_)
    | ((with_reducible show GS.E2 _ (L2.rIx _) (GS.Sh.tup _) _ _); refine GS.e2_ix_t rfl ?_)
    | with_reducible refine GS.e2_cat ?_
    | with_reducible refine GS.e2_addS ?_
    | with_reducible refine GS.e2_inSign ?_)
  | ((with_reducible show GS.Ea _ _ _ _); first
    | with_reducible refine GS.ea_cons ?_
    | with_reducible refine GS.ea_nil ?_)
  | ((with_reducible show GS.Et _ _ _ _); first
    | with_reducible refine GS.et_B ?_
    | with_reducible refine GS.et_test ?_
    | with_reducible refine GS.et_not ?_
    | with_reducible refine GS.et_and ?_
    | with_reducible refine GS.et_or ?_
    | with_reducible refine GS.et_yes ?_
    | with_reducible refine GS.et_tru ?_)
  | ((with_reducible show GS.B _ _ _ _ _ _ _); first
    | with_reducible refine GS.b_seq ?_
    | with_reducible refine GS.b_if ?_
    | with_reducible refine GS.b_ret ?_
    | with_reducible refine GS.b_asg ?_
    | with_reducible refine GS.b_drop ?_
    | with_reducible refine GS.b_next ?_
    | with_reducible refine GS.b_par ?_
    | with_reducible refine GS.b_raise (fun _ => rfl) ?_)
  | with_reducible refine GS.eg_name ?_
  | with_reducible refine GS.egs_cons ?_
  | with_reducible refine GS.egs_nil ?_
  | ((with_reducible refine GS.eg_tup ?_ ?_); exact rfl)
  | with_reducible refine GS.e1_U ?_
  | ((with_reducible show GS.En _ _ _ _); first
    | with_reducible refine GS.en_len_l ?_
    | with_reducible refine GS.en_len_t ?_
    | with_reducible refine GS.en_len_str ?_
    | with_reducible refine GS.en_int ?_
    | with_reducible refine GS.en_bool ?_
    | with_reducible refine GS.en_abs ?_
    | with_reducible refine GS.en_str ?_
    | with_reducible refine GS.en_strL ?_
    | with_reducible refine GS.en_gcd ?_
    | with_reducible refine GS.en_list_l ?_
    | with_reducible refine GS.en_list_t ?_
    | with_reducible refine GS.en_tuple_l ?_)
  | with_reducible refine GS.ex_bl ?_
  | with_reducible refine GS.ex_str ?_
  | with_reducible refine GS.ex_int ?_
  | with_reducible refine GS.ex_v ?_
  | with_reducible refine GS.ex_two ?_
  | with_reducible refine GS.ex_lst ?_
  | with_reducible refine GS.ex_tup ?_
  | with_reducible refine GS.ex_lst1 ?_
  | with_reducible refine GS.ex_truS ?_
  | ((with_reducible show ∃ _, GS.TruS _ _ ∧ _); refine GS.ex_tru rfl ?_)
  | with_reducible refine GS.eo_no ?_
  | with_reducible refine GS.eo_yes ?_
  | with_reducible refine GS.e3_list ?_
  | with_reducible refine GS.e3_str ?_
  | with_reducible refine GS.ej_cons ?_
  | with_reducible refine GS.ej_nil ?_
  | with_reducible refine GS.em_split ?_
  | with_reducible refine GS.em_starts ?_
  | ((with_reducible show GS.Ei _ _ _ _); first
    | with_reducible refine GS.ei_list ?_
    | with_reducible refine GS.ei_tup ?_
    | with_reducible refine GS.ei_str ?_
    | with_reducible refine GS.ei_enum ?_
    | with_reducible refine GS.ei_zip ?_
    | with_reducible refine GS.ei_range1 ?_
    | with_reducible refine GS.ei_range2 ?_)
  | ((with_reducible show _ ∧ _); first
    | ((with_reducible refine And.intro ?_ ?_); (with_reducible assumption))
    | ((with_reducible refine GS.sz_and ?_ ?_); exact rfl)
    | ((with_reducible refine GS.cnd_t ?_ ?_); exact rfl)
    | ((with_reducible refine GS.cnd_f ?_ ?_); exact rfl))
  | ((with_reducible show GS.En _ (L2.rIsi _) _ _); first
    | ((with_reducible apply isi_int (by with_reducible assumption)); (first | with_reducible assumption | exact knd_int | exact knd_bl | exact knd_str | exact knd_non | exact knd_lst | exact knd_tup | exact knd_rat (by assumption)))
    | ((with_reducible apply isi_bool (by with_reducible assumption)); (first | with_reducible assumption | exact knd_int | exact knd_bl | exact knd_str | exact knd_non | exact knd_lst | exact knd_tup | exact knd_rat (by assumption)))
    | ((with_reducible apply isi_str (by with_reducible assumption)); (first | with_reducible assumption | exact knd_int | exact knd_bl | exact knd_str | exact knd_non | exact knd_lst | exact knd_tup | exact knd_rat (by assumption)))
    | ((with_reducible apply isi_tuple (by with_reducible assumption)); (first | with_reducible assumption | exact knd_int | exact knd_bl | exact knd_str | exact knd_non | exact knd_lst | exact knd_tup | exact knd_rat (by assumption)))
    | ((with_reducible apply isi_list (by with_reducible assumption)); (first | with_reducible assumption | exact knd_int | exact knd_bl | exact knd_str | exact knd_non | exact knd_lst | exact knd_tup | exact knd_rat (by assumption)))
    | ((with_reducible apply isi_rat (by with_reducible assumption)); (first | with_reducible assumption | exact knd_int | exact knd_bl | exact knd_str | exact knd_non | exact knd_lst | exact knd_tup | exact knd_rat (by assumption))))
  | (with_reducible refine ev_top (by with_reducible assumption) ?_)
  | (with_reducible refine ev_bot (by with_reducible assumption) ?_)
  | with_reducible refine ex_rat ?_
  | with_reducible refine GS.ev_call (E := L2.E0) GS.XOk.no ?_
  | with_reducible refine GS.ev_call GS.XOk.own ?_
  | ((with_reducible show GS.Callx _ _ _ _ _); first
    | ((with_reducible apply use_integral); (first | with_reducible assumption | exact knd_int | exact knd_bl | exact knd_str | exact knd_non | exact knd_lst | exact knd_tup | exact knd_rat (by assumption)))
    | ((with_reducible apply use_parts); first | with_reducible assumption | exact num_rat | exact num_int)
    | ((with_reducible refine use_digits ?_ ?_); with_reducible assumption)
    | ((with_reducible refine use_intof ?_ ?_); with_reducible assumption)
    | ((with_reducible refine use_frac ?_ ?_); with_reducible assumption)
    | with_reducible refine use_gcd ?_
    | ((with_reducible apply use_low); (with_reducible assumption); (with_reducible assumption)))
  | with_reducible refine GS.ev_make (E := L2.E0) GS.XOk.no ?_
  | with_reducible refine GS.ev_make GS.XOk.own ?_
  | ((with_reducible show L2.CMulW _ _ ∧ _); refine And.intro (cmw (by with_reducible assumption) (by with_reducible assumption)) ?_)
  | ((with_reducible refine use_init ?_ ?_ ?_); (with_reducible assumption); (with_reducible assumption))
  | with_reducible refine GS.ev_prop GS.XOk.no ?_))

theorem ok_gcd {f : Addr} {fd : FuncData} (F : Fun K "_law_gcd" "_law_gcd" s__law_gcd f fd) (T : Tx P K mg C Co fo) : FnOk P w K mg base CX0 1 f fd ["a", "b"] (SpS fsGcd) := by
  refine fun_okS F sc__law_gcd (fun M l S ⟨_, _, e, _⟩ => e ▸ rfl) fun cdv A outer s H E hr => ?_
  refine ⟨_, (pss_cons (ps_par (i := 0) (j := 1) (by rfl) sc__law_gcd.nd rfl rfl (by decide) rfl rfl (pa_cons (pe_callB call_abs (by rfl) T.n_abs (by decide +kernel) (pa_cons (pv 0) pa_nil)) (pa_cons (pe_callB call_abs (by rfl) T.n_abs (by decide +kernel) (pa_cons (pv 1) pa_nil)) pa_nil)) (by rfl))
      (pss_cons (ps_while PassesOwn.never (pt_truth (pv 1) (by intro _; rfl)) (pss_one (ps_par (i := 0) (j := 1) (by rfl) sc__law_gcd.nd rfl rfl (by decide) rfl rfl (pa_cons (pv 1) (pa_cons (pe_op op_mod (pe_callTy call_int1 (by rfl) T.n_int (by decide +kernel) (pa_cons (pv 0) pa_nil)) (pv 1)) pa_nil)) (by rfl))))
      (pss_one (ps_ret (pv 0))))), ?_⟩
  rintro M l S ⟨a, b, rfl, k⟩
  show B _ _ _ _ _ _ _
  try simp only [cxK, cxKn]
  walk_at "k"
  refine b_while (fun n ss => ∃ x y : Int, ss = [some (.int x), some (.int y)] ∧ 0 ≤ x ∧ 0 ≤ y ∧ n = y.toNat ∧ Nat.gcd x.natAbs y.natAbs = Nat.gcd a.natAbs b.natAbs) b.natAbs ?_ ?_
  · refine ⟨_, _, rfl, ?_, ?_, ?_, ?_⟩
    · split <;> omega
    · split <;> omega
    · split <;> omega
    · congr 1 <;> (split <;> omega)
  · rintro n ss ⟨x, y, rfl, hx, hy, rfl, hg⟩
    walk_at "k"
    refine cnd (c := y ≠ 0) (by simp) (fun h => ?_) (fun h => ?_)
    · have hy0 : 0 < y := by omega
      walk_at "k"
      have hm := Int.emod_lt_of_pos x hy0
      have hm0 := Int.emod_nonneg x h
      refine ⟨(x % y).toNat, by omega, y, x % y, rfl, hy, hm0, rfl, ?_⟩
      rw [← hg]
      have e : (x % y).natAbs = x.natAbs % y.natAbs := by
        obtain ⟨m, rfl⟩ := Int.eq_ofNat_of_zero_le hx
        obtain ⟨n, rfl⟩ := Int.eq_ofNat_of_zero_le hy
        rfl
      rw [e, Nat.gcd_comm, ← Nat.gcd_rec, Nat.gcd_comm]
    · walk_at "k"
      have h0 : y = 0 := by omega
      rw [h0] at hg
      have e : ((Nat.gcd a.natAbs b.natAbs : Nat) : Int) = x := by
        rw [← hg]
        simp
        omega
      rw [e] at k
      exact k
theorem ok_low {f : Addr} {fd : FuncData} (F : Fun K "_law_low" "_law_low" s__law_low f fd) (T : Tx P K mg C Co fo) (d__law_gcd : Df P w K mg base CX0 1 "_law_gcd" [] (SpS fsGcd)) : FnOk P w K mg base CX0 2 f fd ["top", "bottom"] (SpS fsLow) := by
  refine fun_okS F sc__law_low (fun M l S ⟨_, _, e, _⟩ => e ▸ rfl) fun cdv A outer s H E hr => ?_
  refine ⟨_, (pss_cons (ps_set (i := 2) sc__law_low.nd rfl (Or.inl rfl) (pe_df d__law_gcd hr (by decide) pass0 (pa_cons (pv 0) (pa_cons (pv 1) pa_nil))))
      (pss_cons (ps_if (pt_cmpR op_lt (pv 1) pe_int (nomark _)) (pss_one (ps_set (i := 2) sc__law_low.nd rfl (Or.inl rfl) (pe_op op_sub pe_int (pv 2)))) pss_nil)
      (pss_one (ps_ret (pe_tup (pa_cons (pe_op op_fdivX (pv 0) (pv 2)) (pa_cons (pe_op op_fdivX (pv 1) (pv 2)) pa_nil))))))), ?_⟩
  rintro M l S ⟨t, b, rfl, hb, hs, k⟩
  show B _ _ _ _ _ _ _
  try simp only [cxK, cxKn]
  have hcs : Sz 9000 (cm t b) := cm_sz hb hs
  have hc1 : ∀ i, CDivX i (cm t b) := fun i => ⟨cm_ne hb, hcs.log (by decide)⟩
  have e1 := cm_top (t := t) hb
  have e2 := cm_bot (t := t) hb
  unfold Pr at k
  rw [← e1, ← e2] at k
  walk_at "k"
  refine cnd (c := b < 0) (by simp) (fun h => ?_) (fun h => ?_)
  · have e : 0 - ((Nat.gcd t.natAbs b.natAbs : Nat) : Int) = cm t b := by unfold cm; rw [if_pos h]; omega
    walk_at "k"
    rw [e]
    refine ⟨hc1 _, ?_⟩
    walk_at "k"
    refine ⟨hc1 _, ?_⟩
    walk_at "k"
    exact k
  · have e : ((Nat.gcd t.natAbs b.natAbs : Nat) : Int) = cm t b := by unfold cm; rw [if_neg h]
    walk_at "k"
    rw [e]
    refine ⟨hc1 _, ?_⟩
    walk_at "k"
    refine ⟨hc1 _, ?_⟩
    walk_at "k"
    exact k
def fsArP (g : Rat → Rat → Rat) : Fs := fun _ l S => ∃ r t, l = [Pr r, Pr t] ∧ SzR 4000 r ∧ SzR 4000 t ∧ S (.ret (Pr (g r t)))
theorem ok_plus {f : Addr} {fd : FuncData} (F : Fun K "_law_plus" "_law_plus" s__law_plus f fd) (T : Tx P K mg C Co fo) (d__law_low : Df P w K mg base CX0 2 "_law_low" [] (SpS fsLow)) : FnOk P w K mg base CX0 3 f fd ["p", "q"] (SpS (fsArP (· + ·))) := by
  refine fun_okS F sc__law_plus (fun M l S ⟨_, _, e, _⟩ => e ▸ rfl) fun cdv A outer s H E hr => ?_
  refine ⟨_, (pss_one (ps_ret (pe_df d__law_low hr (by decide) pass0 (pa_cons (pe_op op_add (pe_op op_mulW (pe_ix (r := rIxT K) ix_tup (pv 0) pe_int (fun _ _ => rfl)) (pe_ix (r := rIxT K) ix_tup (pv 1) pe_int (fun _ _ => rfl))) (pe_op op_mulW (pe_ix (r := rIxT K) ix_tup (pv 1) pe_int (fun _ _ => rfl)) (pe_ix (r := rIxT K) ix_tup (pv 0) pe_int (fun _ _ => rfl)))) (pa_cons (pe_op op_mulW (pe_ix (r := rIxT K) ix_tup (pv 0) pe_int (fun _ _ => rfl)) (pe_ix (r := rIxT K) ix_tup (pv 1) pe_int (fun _ _ => rfl))) pa_nil))))), ?_⟩
  rintro M l S ⟨r, t, rfl, ⟨h1, h2⟩, ⟨h3, h4⟩, k⟩
  show B _ _ _ _ _ _ _
  try simp only [cxK, cxKn]
  have hd : (r.den : Int) * t.den ≠ 0 := Int.mul_ne_zero (den_ne r) (den_ne t)
  have hz : Sz 9000 ((r.den : Int) * t.den) := (h2.mul h4).mono (by decide)
  unfold Pr
  walk_at "k"
  rw [add_eq]
  exact k
theorem ok_times {f : Addr} {fd : FuncData} (F : Fun K "_law_times" "_law_times" s__law_times f fd) (T : Tx P K mg C Co fo) (d__law_low : Df P w K mg base CX0 2 "_law_low" [] (SpS fsLow)) : FnOk P w K mg base CX0 3 f fd ["p", "q"] (SpS (fsArP (· * ·))) := by
  refine fun_okS F sc__law_times (fun M l S ⟨_, _, e, _⟩ => e ▸ rfl) fun cdv A outer s H E hr => ?_
  refine ⟨_, (pss_one (ps_ret (pe_df d__law_low hr (by decide) pass0 (pa_cons (pe_op op_mulW (pe_ix (r := rIxT K) ix_tup (pv 0) pe_int (fun _ _ => rfl)) (pe_ix (r := rIxT K) ix_tup (pv 1) pe_int (fun _ _ => rfl))) (pa_cons (pe_op op_mulW (pe_ix (r := rIxT K) ix_tup (pv 0) pe_int (fun _ _ => rfl)) (pe_ix (r := rIxT K) ix_tup (pv 1) pe_int (fun _ _ => rfl))) pa_nil))))), ?_⟩
  rintro M l S ⟨r, t, rfl, ⟨h1, h2⟩, ⟨h3, h4⟩, k⟩
  show B _ _ _ _ _ _ _
  try simp only [cxK, cxKn]
  have hd : (r.den : Int) * t.den ≠ 0 := Int.mul_ne_zero (den_ne r) (den_ne t)
  have hz : Sz 9000 ((r.den : Int) * t.den) := (h2.mul h4).mono (by decide)
  unfold Pr
  walk_at "k"
  rw [mul_eq]
  exact k
def fsNum : Fs := fun _ l S => ∃ r, l = [Pr r] ∧ SzR 14000 r ∧ S (.ret (.str (txt r)))
theorem ok_number {f : Addr} {fd : FuncData} (F : Fun K "_law_number" "_law_number" s__law_number f fd) (T : Tx P K mg C Co fo) : FnOk P w K mg base CX0 2 f fd ["p"] (SpS fsNum) := by
  refine fun_okS F sc__law_number (fun M l S ⟨_, e, _⟩ => e ▸ rfl) fun cdv A outer s H E hr => ?_
  refine ⟨_, (pss_one (ps_ret (pe_ifExp (pt_cmpR op_eq (pe_ix (r := rIxT K) ix_tup (pv 0) pe_int (fun _ _ => rfl)) pe_int (nomark _)) (pe_callTy (call_str_intL rfl T.nd) (by rfl) T.n_str (by decide +kernel) (pa_cons (pe_ix (r := rIxT K) ix_tup (pv 0) pe_int (fun _ _ => rfl)) pa_nil)) (pe_op op_add_str (pe_op op_add_str (pe_callTy (call_str_intL rfl T.nd) (by rfl) T.n_str (by decide +kernel) (pa_cons (pe_ix (r := rIxT K) ix_tup (pv 0) pe_int (fun _ _ => rfl)) pa_nil)) pe_str) (pe_callTy (call_str_intL rfl T.nd) (by rfl) T.n_str (by decide +kernel) (pa_cons (pe_ix (r := rIxT K) ix_tup (pv 0) pe_int (fun _ _ => rfl)) pa_nil)))))), ?_⟩
  rintro M l S ⟨r, rfl, hs, k⟩
  show B _ _ _ _ _ _ _
  try simp only [cxK, cxKn]
  have e1 := lt10 hs.1
  have e2 := lt10 hs.2
  have l1 := nt_len hs.1
  have l2 := nt_len hs.2
  have l3 : (Str.ofString "/").length = 1 := by decide +kernel
  unfold txt at k
  unfold nt at l1 l2 k
  unfold Pr
  walk_at "k"
  refine cnd (c := r.den = 1) (by simp; omega) (fun h => ?_) (fun h => ?_)
  · walk_at "k"
    rw [if_pos h] at k
    exact k
  · rw [if_neg h] at k
    walk_at "k"
    refine ⟨le_line (by omega), ?_⟩
    walk_at "k"
    refine ⟨le_line (by rw [str_len]; omega), ?_⟩
    walk_at "k"
    have e : Str.empty ++ Str.ofString (toString r.num) = Str.ofString (toString r.num) := TL.ext_tl (by rw [TL.tl_append]; rfl)
    rw [e] at k
    exact k
end
end KP

/-! K12O -/
set_option Elab.async false
set_option Elab.async false
set_option linter.all false
set_option maxRecDepth 100000
set_option maxHeartbeats 4000000
namespace KP
open PySem PySem.Spec PyProof.Rows L2 GM GS
local macro_rules | `(tactic| walk_at "sh") => `(tactic| repeat (first
  | ((with_reducible show GS.Ev _ _ _ _); first
    | with_reducible refine GS.ev_c ?_
    | ((with_reducible show GS.Ev _ (L2.tVar _) _ _); refine GS.ev_var rfl ?_)
    | with_reducible refine GS.ev_op ?_
    | with_reducible refine GS.ev_cb ?_
    | with_reducible refine GS.ev_un ?_
    | with_reducible refine GS.ev_tup ?_
    | with_reducible refine GS.ev_lst ?_
    | with_reducible refine GS.ev_if ?_
    | with_reducible refine GS.ev_andV ?_
    | with_reducible refine GS.ev_orV ?_
    | with_reducible refine GS.ev_notV ?_
    | with_reducible refine GS.ev_sl ?_
    | with_reducible refine GS.ev_fmtS ?_
    | with_reducible refine GS.ev_fmtL ?_
    | with_reducible refine GS.ev_joined ?_
    | with_reducible refine GS.ev_m1 ?_)
  | ((with_reducible show GS.E2 _ _ _ _ _); first
    | with_reducible refine GS.e2_I0 ?_
    | with_reducible refine GS.e2_I ?_
    | ((with_reducible refine GS.e2_eq ?_ ?_); exact rfl)
    | ((with_reducible refine GS.e2_ne ?_ ?_); exact rfl)
    | with_reducible refine GS.e2_isN ?_
    | with_reducible refine GS.e2_notN ?_
    | ((with_reducible show GS.E2 _ (L2.rIxL _) _ _ _); refine GS.e2_ixL rfl ?_)
    | ((with_reducible show GS.E2 _ (L2.rIxT _) _ _ _); refine GS.e2_ixT rfl ?_)
    | ((with_reducible show GS.E2 _ (L2.rIx _) (GS.Sh.lst _) _ _); refine GS.e2_ix_l rfl ?_)
    | ((with_reducible show GS.E2 _ (L2.rIx _) (GS.Sh.tup _) _ _); refine GS.e2_ix_t rfl ?_)
    | with_reducible refine GS.e2_cat ?_
    | with_reducible refine GS.e2_addS ?_
    | with_reducible refine GS.e2_inSign ?_)
  | ((with_reducible show GS.Ea _ _ _ _); first
    | with_reducible refine GS.ea_cons ?_
    | with_reducible refine GS.ea_nil ?_)
  | ((with_reducible show GS.Et _ _ _ _); first
    | with_reducible refine GS.et_B ?_
    | with_reducible refine GS.et_test ?_
    | with_reducible refine GS.et_not ?_
    | with_reducible refine GS.et_and ?_
    | with_reducible refine GS.et_or ?_
    | with_reducible refine GS.et_yes ?_
    | with_reducible refine GS.et_tru ?_)
  | ((with_reducible show GS.B _ _ _ _ _ _ _); first
    | with_reducible refine GS.b_seq ?_
    | with_reducible refine GS.b_if ?_
    | with_reducible refine GS.b_ret ?_
    | with_reducible refine GS.b_asg ?_
    | with_reducible refine GS.b_drop ?_
    | with_reducible refine GS.b_next ?_
    | with_reducible refine GS.b_par ?_
    | with_reducible refine GS.b_raise (fun _ => rfl) ?_)
  | with_reducible refine GS.eg_name ?_
  | with_reducible refine GS.egs_cons ?_
  | with_reducible refine GS.egs_nil ?_
  | ((with_reducible refine GS.eg_tup ?_ ?_); exact rfl)
  | with_reducible refine GS.e1_U ?_
  | ((with_reducible show GS.En _ _ _ _); first
    | with_reducible refine GS.en_len_l ?_
    | with_reducible refine GS.en_len_t ?_
    | with_reducible refine GS.en_len_str ?_
    | with_reducible refine GS.en_int ?_
    | with_reducible refine GS.en_bool ?_
    | with_reducible refine GS.en_abs ?_
    | with_reducible refine GS.en_str ?_
    | with_reducible refine GS.en_strL ?_
    | with_reducible refine GS.en_gcd ?_
    | with_reducible refine GS.en_list_l ?_
    | with_reducible refine GS.en_list_t ?_
    | with_reducible refine GS.en_tuple_l ?_)
  | with_reducible refine GS.ex_bl ?_
  | with_reducible refine GS.ex_str ?_
  | with_reducible refine GS.ex_int ?_
  | with_reducible refine GS.ex_v ?_
  | with_reducible refine GS.ex_two ?_
  | with_reducible refine GS.ex_lst ?_
  | with_reducible refine GS.ex_tup ?_
  | with_reducible refine GS.ex_lst1 ?_
  | with_reducible refine GS.ex_truS ?_
  | ((with_reducible show ∃ _, GS.TruS _ _ ∧ _); refine GS.ex_tru rfl ?_)
  | with_reducible refine GS.eo_no ?_
  | with_reducible refine GS.eo_yes ?_
  | with_reducible refine GS.e3_list ?_
  | with_reducible refine GS.e3_str ?_
  | with_reducible refine GS.ej_cons ?_
  | with_reducible refine GS.ej_nil ?_
  | with_reducible refine GS.em_split ?_
  | with_reducible refine GS.em_starts ?_
  | ((with_reducible show GS.Ei _ _ _ _); first
    | with_reducible refine GS.ei_list ?_
    | with_reducible refine GS.ei_tup ?_
    | with_reducible refine GS.ei_str ?_
    | with_reducible refine GS.ei_enum ?_
    | with_reducible refine GS.ei_zip ?_
    | with_reducible refine GS.ei_range1 ?_
    | with_reducible refine GS.ei_range2 ?_)
  | ((with_reducible show _ ∧ _); first
    | ((with_reducible refine And.intro ?_ ?_); (with_reducible assumption))
    | ((with_reducible refine GS.sz_and ?_ ?_); exact rfl)
    | ((with_reducible refine GS.cnd_t ?_ ?_); exact rfl)
    | ((with_reducible refine GS.cnd_f ?_ ?_); exact rfl))))

section
variable {P : Program} {w : World} {K : PySem.W.Frag} {mg : Str → Option Value} {base : Heap} {C Co fo : Addr} {j : J} {q : Sh → Prop} {x : Sh} {a : Ty0} {ex : Addr → List (Str × V) → Prop}

/-! ### the same -/
def fsNo : Fs := fun _ _ _ => False
def scalB : Sh → Prop
  | .v (.str _) => True
  | .v (.bl _) => True
  | .v (.int _) => True
  | _ => False
def fsSame0 : Fs := fun _ l S => ∃ x, l = [x, x] ∧ scalB x ∧ S (.ret (.bl true))
def fsSame1 : Fs := fun _ l S => ((∃ a b c, l = [.lst [.bl a, .bl b, .bl c], .lst [.bl a, .bl b, .bl c]]) ∨ ∃ u v, l = [.tup [.str u, .str v], .tup [.str u, .str v]]) ∧ S (.ret (.bl true))
theorem use_isR {r : Rat} (k : q (.bl true)) : Callx j (fsIsR K C) ([Rt C r, Pr r] ++ List.map Sh.v []) q ex := callx_of ⟨r, rfl, k⟩
theorem use_num {r : Rat} (hs : SzR 14000 r) (k : q (.str (txt r))) : Callx j fsNum ([Pr r] ++ List.map Sh.v []) q ex := callx_of ⟨r, rfl, hs, k⟩
theorem use_same_str {u : Str} (k : q (.bl true)) : Callx j fsSame0 ([.str u, .str u] ++ List.map Sh.v []) q ex := callx_of ⟨.str u, rfl, trivial, k⟩
theorem use_same_bl {u : Bool} (k : q (.bl true)) : Callx j fsSame0 ([.bl u, .bl u] ++ List.map Sh.v []) q ex := callx_of ⟨.bl u, rfl, trivial, k⟩
theorem use_same_l3 {a b c : Bool} (k : q (.bl true)) : Callx j fsSame1 ([.lst [.bl a, .bl b, .bl c], .lst [.bl a, .bl b, .bl c]] ++ List.map Sh.v []) q ex := callx_of ⟨.inl ⟨a, b, c, rfl⟩, k⟩
theorem use_same_t2 {u v : Str} (k : q (.bl true)) : Callx j fsSame1 ([.tup [.str u, .str v], .tup [.str u, .str v]] ++ List.map Sh.v []) q ex := callx_of ⟨.inr ⟨u, v, rfl⟩, k⟩
def fsRight (C : Addr) : Fs := fun _ l S => ∃ r, l = [Rt C r, Pr r] ∧ SzR 14000 r ∧ S (.ret (.bl true))
theorem use_right {r : Rat} (hs : SzR 14000 r) (k : q (.bl true)) : Callx j (fsRight C) ([Rt C r, Pr r] ++ List.map Sh.v []) q ex := callx_of ⟨r, rfl, hs, k⟩
theorem use_repr {r : Rat} (hs : SzR 14000 r) (k : q (.str (rpr r))) : Callx j (fsRepr C) [Rt C r] q ex := callx_of ⟨r, rfl, hs, k⟩
theorem use_bool {r : Rat} (k : q (.bl (decide (r ≠ 0)))) : Callx j (fsBool C) [Rt C r] q ex := callx_of ⟨r, rfl, k⟩
theorem ixPr0 {r : Rat} (k : q (.int r.num)) : E2 j (rIxT K) (Pr r) (.v (.int 0)) q := e2_ixT rfl k
theorem ixPr1 {r : Rat} (k : q (.int (r.den : Int))) : E2 j (rIxT K) (Pr r) (.v (.int 1)) q := e2_ixT rfl k
theorem ex_insR {r : Rat} {A : Prop} (k : A) : ∃ ns l, Rt C r = .ins C ns l ∧ A := ⟨_, _, rfl, k⟩
local macro_rules | `(tactic| walk_at "k") => `(tactic| repeat (first
  | ((with_reducible show GS.Ev _ _ _ _); first
    | with_reducible refine GS.ev_c ?_
    | ((with_reducible show GS.Ev _ (L2.tVar _) _ _); refine GS.ev_var rfl ?_)
    | with_reducible refine GS.ev_op ?_
    | with_reducible refine GS.ev_cb ?_
    | with_reducible refine GS.ev_un ?_
    | with_reducible refine GS.ev_tup ?_
    | with_reducible refine GS.ev_lst ?_
    | with_reducible refine GS.ev_if ?_
    | with_reducible refine GS.ev_andV ?_
    | with_reducible refine GS.ev_orV ?_
    | with_reducible refine GS.ev_notV ?_
    | with_reducible refine GS.ev_sl ?_
    | with_reducible refine GS.ev_fmtS ?_
    | with_reducible refine GS.ev_fmtL ?_
    | with_reducible refine GS.ev_joined ?_
    | with_reducible refine GS.ev_m1 ?_)
  | ((with_reducible show GS.E2 _ _ _ _ _); first
    | with_reducible refine GS.e2_I0 ?_
    | with_reducible refine GS.e2_I ?_
    | ((with_reducible refine GS.e2_eq ?_ ?_); exact rfl)
    | ((with_reducible refine GS.e2_ne ?_ ?_); exact rfl)
    | with_reducible refine GS.e2_isN ?_
    | with_reducible refine GS.e2_notN ?_
    | ((with_reducible show GS.E2 _ (L2.rIxL _) _ _ _); refine GS.e2_ixL rfl ?_)
    | ((with_reducible show GS.E2 _ (L2.rIxT _) _ _ _); refine GS.e2_ixT rfl ?_)
    | ((with_reducible show GS.E2 _ (L2.rIx _) (GS.Sh.lst _) _ _); refine GS.e2_ix_l rfl ?_)
    | ((with_reducible show GS.E2 _ (L2.rIx _) (GS.Sh.tup _) _ _); refine GS.e2_ix_t rfl ?_)
    | with_reducible refine GS.e2_cat ?_
    | with_reducible refine GS.e2_addS ?_
    | with_reducible refine GS.e2_inSign ?_)
  | ((with_reducible show GS.Ea _ _ _ _); first
    | with_reducible refine GS.ea_cons ?_
    | with_reducible refine GS.ea_nil ?_)
  | ((with_reducible show GS.Et _ _ _ _); first
    | with_reducible refine GS.et_B ?_
    | with_reducible refine GS.et_test ?_
    | with_reducible refine GS.et_not ?_
    | with_reducible refine GS.et_and ?_
    | with_reducible refine GS.et_or ?_
    | with_reducible refine GS.et_yes ?_
    | with_reducible refine GS.et_tru ?_)
  | ((with_reducible show GS.B _ _ _ _ _ _ _); first
    | with_reducible refine GS.b_seq ?_
    | with_reducible refine GS.b_if ?_
    | with_reducible refine GS.b_ret ?_
    | with_reducible refine GS.b_asg ?_
    | with_reducible refine GS.b_drop ?_
    | with_reducible refine GS.b_next ?_
    | with_reducible refine GS.b_par ?_
    | with_reducible refine GS.b_raise (fun _ => rfl) ?_)
  | with_reducible refine GS.eg_name ?_
  | with_reducible refine GS.egs_cons ?_
  | with_reducible refine GS.egs_nil ?_
  | ((with_reducible refine GS.eg_tup ?_ ?_); exact rfl)
  | with_reducible refine GS.e1_U ?_
  | ((with_reducible show GS.En _ _ _ _); first
    | with_reducible refine GS.en_len_l ?_
    | with_reducible refine GS.en_len_t ?_
    | with_reducible refine GS.en_len_str ?_
    | with_reducible refine GS.en_int ?_
    | with_reducible refine GS.en_bool ?_
    | with_reducible refine GS.en_abs ?_
    | with_reducible refine GS.en_str ?_
    | with_reducible refine GS.en_strL ?_
    | with_reducible refine GS.en_gcd ?_
    | with_reducible refine GS.en_list_l ?_
    | with_reducible refine GS.en_list_t ?_
    | with_reducible refine GS.en_tuple_l ?_)
  | with_reducible refine GS.ex_bl ?_
  | with_reducible refine GS.ex_str ?_
  | with_reducible refine GS.ex_int ?_
  | with_reducible refine GS.ex_v ?_
  | with_reducible refine GS.ex_two ?_
  | with_reducible refine GS.ex_lst ?_
  | with_reducible refine GS.ex_tup ?_
  | with_reducible refine GS.ex_lst1 ?_
  | with_reducible refine GS.ex_truS ?_
  | ((with_reducible show ∃ _, GS.TruS _ _ ∧ _); refine GS.ex_tru rfl ?_)
  | with_reducible refine GS.eo_no ?_
  | with_reducible refine GS.eo_yes ?_
  | with_reducible refine GS.e3_list ?_
  | with_reducible refine GS.e3_str ?_
  | with_reducible refine GS.ej_cons ?_
  | with_reducible refine GS.ej_nil ?_
  | with_reducible refine GS.em_split ?_
  | with_reducible refine GS.em_starts ?_
  | ((with_reducible show GS.Ei _ _ _ _); first
    | with_reducible refine GS.ei_list ?_
    | with_reducible refine GS.ei_tup ?_
    | with_reducible refine GS.ei_str ?_
    | with_reducible refine GS.ei_enum ?_
    | with_reducible refine GS.ei_zip ?_
    | with_reducible refine GS.ei_range1 ?_
    | with_reducible refine GS.ei_range2 ?_)
  | ((with_reducible show _ ∧ _); first
    | ((with_reducible refine And.intro ?_ ?_); (with_reducible assumption))
    | ((with_reducible refine GS.sz_and ?_ ?_); exact rfl)
    | ((with_reducible refine GS.cnd_t ?_ ?_); exact rfl)
    | ((with_reducible refine GS.cnd_f ?_ ?_); exact rfl))
  | ((with_reducible show GS.En _ (L2.rIsi _) _ _); first
    | ((with_reducible apply isi_int (by with_reducible assumption)); (first | with_reducible assumption | exact knd_int | exact knd_bl | exact knd_str | exact knd_non | exact knd_lst | exact knd_tup | exact knd_rat (by assumption)))
    | ((with_reducible apply isi_bool (by with_reducible assumption)); (first | with_reducible assumption | exact knd_int | exact knd_bl | exact knd_str | exact knd_non | exact knd_lst | exact knd_tup | exact knd_rat (by assumption)))
    | ((with_reducible apply isi_str (by with_reducible assumption)); (first | with_reducible assumption | exact knd_int | exact knd_bl | exact knd_str | exact knd_non | exact knd_lst | exact knd_tup | exact knd_rat (by assumption)))
    | ((with_reducible apply isi_tuple (by with_reducible assumption)); (first | with_reducible assumption | exact knd_int | exact knd_bl | exact knd_str | exact knd_non | exact knd_lst | exact knd_tup | exact knd_rat (by assumption)))
    | ((with_reducible apply isi_list (by with_reducible assumption)); (first | with_reducible assumption | exact knd_int | exact knd_bl | exact knd_str | exact knd_non | exact knd_lst | exact knd_tup | exact knd_rat (by assumption)))
    | ((with_reducible apply isi_rat (by with_reducible assumption)); (first | with_reducible assumption | exact knd_int | exact knd_bl | exact knd_str | exact knd_non | exact knd_lst | exact knd_tup | exact knd_rat (by assumption))))
  | (with_reducible refine ev_top (by with_reducible assumption) ?_)
  | (with_reducible refine ev_bot (by with_reducible assumption) ?_)
  | with_reducible refine ex_rat ?_
  | with_reducible refine GS.ev_call (E := L2.E0) GS.XOk.no ?_
  | with_reducible refine GS.ev_call GS.XOk.own ?_
  | ((with_reducible show GS.Callx _ _ _ _ _); first
    | ((with_reducible apply use_integral); (first | with_reducible assumption | exact knd_int | exact knd_bl | exact knd_str | exact knd_non | exact knd_lst | exact knd_tup | exact knd_rat (by assumption)))
    | ((with_reducible apply use_parts); first | with_reducible assumption | exact num_rat | exact num_int)
    | ((with_reducible refine use_digits ?_ ?_); with_reducible assumption)
    | ((with_reducible refine use_intof ?_ ?_); with_reducible assumption)
    | ((with_reducible refine use_frac ?_ ?_); with_reducible assumption)
    | with_reducible refine use_gcd ?_
    | with_reducible refine use_isR ?_
    | ((with_reducible apply use_repr); (with_reducible assumption))
    | with_reducible refine use_bool ?_
    | ((with_reducible apply use_num); (with_reducible assumption))
    | ((with_reducible apply use_text); (with_reducible assumption))
    | with_reducible refine use_same_str ?_
    | with_reducible refine use_same_bl ?_
    | with_reducible refine use_same_l3 ?_
    | with_reducible refine use_same_t2 ?_
    | ((with_reducible apply use_right); (with_reducible assumption))
    | ((with_reducible apply use_low); (with_reducible assumption); (with_reducible assumption)))
  | with_reducible refine GS.ev_make (E := L2.E0) GS.XOk.no ?_
  | with_reducible refine GS.ev_make GS.XOk.own ?_
  | ((with_reducible show L2.CMulW _ _ ∧ _); refine And.intro (cmw (by with_reducible assumption) (by with_reducible assumption)) ?_)
  | ((with_reducible refine use_init ?_ ?_ ?_); (with_reducible assumption); (with_reducible assumption))
  | with_reducible refine ex_insR ?_
  | with_reducible refine ixPr0 ?_
  | with_reducible refine ixPr1 ?_
  | with_reducible refine GS.en_ownReprG GS.XOk.no insRt ?_
  | with_reducible refine GS.en_ownBoolG GS.XOk.no insRt ?_
  | with_reducible refine GS.ev_prop GS.XOk.no ?_))

theorem ok_same0 {f : Addr} {fd : FuncData} (F : Fun K "_law_same" "_law_same" s__law_same f fd) (T : Tx P K mg C Co fo) (d__law_is_ratio : Df P w K mg base CX0 1 "_law_is_ratio" [] (SpS (fsIsR K C))) (d__law_same : Df P w K mg base CX0 1 "_law_same" [] (SpS fsNo)) :
    FnOk P w K mg base CX0 2 f fd ["told", "due"] (SpS fsSame0) := by
  refine fun_okS F sc__law_same (fun M l S ⟨_, e, _⟩ => e ▸ rfl) fun cdv A outer s H E hr => ?_
  refine ⟨_, (pss_cons (ps_if (pt_cmpR op_isN (pv 1) pe_non (nomark _)) (pss_one (ps_ret (pe_cmpR op_isN (pv 0) pe_non (nomark _)))) pss_nil)
      (pss_cons (ps_if (PW.pt (pw_or (pt_val (pe_callB call_isi (by rfl) T.n_isinstance (by decide +kernel) (pa_cons (pv 1) (pa_cons (pe_bltn (v := .ty "bool") (u := .type "bool") (by rfl) T.n_bool (by decide +kernel) rfl) pa_nil)))) (pw_or1 (pt_val (pe_callB call_isi (by rfl) T.n_isinstance (by decide +kernel) (pa_cons (pv 0) (pa_cons (pe_bltn (v := .ty "bool") (u := .type "bool") (by rfl) T.n_bool (by decide +kernel) rfl) pa_nil))))))) (pss_one (ps_ret (pe_and (pe_callB call_isi (by rfl) T.n_isinstance (by decide +kernel) (pa_cons (pv 1) (pa_cons (pe_bltn (v := .ty "bool") (u := .type "bool") (by rfl) T.n_bool (by decide +kernel) rfl) pa_nil))) (pe_and (pe_callB call_isi (by rfl) T.n_isinstance (by decide +kernel) (pa_cons (pv 0) (pa_cons (pe_bltn (v := .ty "bool") (u := .type "bool") (by rfl) T.n_bool (by decide +kernel) rfl) pa_nil))) (pe_one (pe_cmpR op_eq (pv 0) (pv 1) (nomark _))))))) pss_nil)
      (pss_cons (ps_if (PW.pt (pw_or (pt_val (pe_callB call_isi (by rfl) T.n_isinstance (by decide +kernel) (pa_cons (pv 1) (pa_cons (pe_bltn (v := .ty "int") (u := .type "int") (by rfl) T.n_int (by decide +kernel) rfl) pa_nil)))) (pw_or1 (pt_val (pe_callB call_isi (by rfl) T.n_isinstance (by decide +kernel) (pa_cons (pv 1) (pa_cons (pe_bltn (v := .ty "str") (u := .type "str") (by rfl) T.n_str (by decide +kernel) rfl) pa_nil))))))) (pss_one (ps_ret (pe_and (pe_cmpR op_eq (pe_callB call_isi (by rfl) T.n_isinstance (by decide +kernel) (pa_cons (pv 0) (pa_cons (pe_bltn (v := .ty "int") (u := .type "int") (by rfl) T.n_int (by decide +kernel) rfl) pa_nil))) (pe_callB call_isi (by rfl) T.n_isinstance (by decide +kernel) (pa_cons (pv 1) (pa_cons (pe_bltn (v := .ty "int") (u := .type "int") (by rfl) T.n_int (by decide +kernel) rfl) pa_nil))) (nomark _)) (pe_and (pe_cmpR op_eq (pe_callB call_isi (by rfl) T.n_isinstance (by decide +kernel) (pa_cons (pv 0) (pa_cons (pe_bltn (v := .ty "str") (u := .type "str") (by rfl) T.n_str (by decide +kernel) rfl) pa_nil))) (pe_callB call_isi (by rfl) T.n_isinstance (by decide +kernel) (pa_cons (pv 1) (pa_cons (pe_bltn (v := .ty "str") (u := .type "str") (by rfl) T.n_str (by decide +kernel) rfl) pa_nil))) (nomark _)) (pe_one (pe_cmpR op_eq (pv 0) (pv 1) (nomark _))))))) pss_nil)
      (pss_cons (ps_if (PW.pt (pw_and (pt_cmpR op_eq (pe_callB call_len (by rfl) T.n_len (by decide +kernel) (pa_cons (pv 1) pa_nil)) pe_int (nomark _)) (pw_and1 (pt_cmpR op_eq (pe_ix (r := rIx K) ix_seq (pv 1) pe_int (fun _ _ => rfl)) pe_str (nomark _))))) (pss_one (ps_ret (pe_df d__law_is_ratio hr (by decide) pass0 (pa_cons (pv 0) (pa_cons (pe_tup (pa_cons (pe_ix (r := rIx K) ix_seq (pv 1) pe_int (fun _ _ => rfl)) (pa_cons (pe_ix (r := rIx K) ix_seq (pv 1) pe_int (fun _ _ => rfl)) pa_nil))) pa_nil))))) pss_nil)
      (pss_cons (ps_if (PW.pt (pw_or (pt_cmpR op_ne (pe_callB call_isi (by rfl) T.n_isinstance (by decide +kernel) (pa_cons (pv 0) (pa_cons (pe_bltn (v := .ty "tuple") (u := .type "tuple") (by rfl) T.n_tuple (by decide +kernel) rfl) pa_nil))) (pe_callB call_isi (by rfl) T.n_isinstance (by decide +kernel) (pa_cons (pv 1) (pa_cons (pe_bltn (v := .ty "tuple") (u := .type "tuple") (by rfl) T.n_tuple (by decide +kernel) rfl) pa_nil))) (nomark _)) (pw_or1 (pt_cmpR op_ne (pe_callB call_isi (by rfl) T.n_isinstance (by decide +kernel) (pa_cons (pv 0) (pa_cons (pe_bltn (v := .ty "list") (u := .type "list") (by rfl) T.n_list (by decide +kernel) rfl) pa_nil))) (pe_callB call_isi (by rfl) T.n_isinstance (by decide +kernel) (pa_cons (pv 1) (pa_cons (pe_bltn (v := .ty "list") (u := .type "list") (by rfl) T.n_list (by decide +kernel) rfl) pa_nil))) (nomark _))))) (pss_one (ps_ret pe_bl)) pss_nil)
      (pss_one (ps_ret (pe_and (pe_cmpR op_eq (pe_callB call_len (by rfl) T.n_len (by decide +kernel) (pa_cons (pv 0) pa_nil)) (pe_callB call_len (by rfl) T.n_len (by decide +kernel) (pa_cons (pv 1) pa_nil)) (nomark _)) (pe_one (pe_callB (r := rAll K) (cr_all rfl) (by rfl) T.n_all (by decide +kernel) (pa_cons (pe_lc (own := [("i", 2)]) (g := gName 2) (tt := tYes) rfl sc__law_same.nd (pi_range1 rfl T.n_range (pa_cons (pe_callB call_len (by rfl) T.n_len (by decide +kernel) (pa_cons (pv 1) pa_nil)) pa_nil)) (blkOk_by (N := ["told", "due", "i"]) (sc := defScope s__law_same) (by decide +kernel)) (fun _ _ _ _ _ => (pg_name (i := 2) sc__law_same.nd rfl (Or.inl rfl))) (fun _ _ _ _ _ => pts_nil) (fun _ _ _ _ _ => (pe_df d__law_same hr (by decide) pass0 (pa_cons (pe_ix (r := rIx K) ix_seq (pv 0) (pv 2) (fun _ _ => rfl)) (pa_cons (pe_ix (r := rIx K) ix_seq (pv 1) (pv 2) (fun _ _ => rfl)) pa_nil))))) pa_nil))))))))))), ?_⟩
  rintro M l S ⟨x, rfl, hx, k⟩
  show B _ _ _ _ _ _ _
  try simp only [cxK, cxKn]
  match x, hx with
  | .v (.str u), _ =>
    walk_at "k"
    simpa using k
  | .v (.bl u), _ =>
    walk_at "k"
    simpa using k
  | .v (.int u), _ =>
    walk_at "k"
    simpa using k
theorem ok_same1 {f : Addr} {fd : FuncData} (F : Fun K "_law_same" "_law_same" s__law_same f fd) (T : Tx P K mg C Co fo) (d__law_is_ratio : Df P w K mg base CX0 1 "_law_is_ratio" [] (SpS (fsIsR K C))) (d__law_same : Df P w K mg base CX0 2 "_law_same" [] (SpS fsSame0)) :
    FnOk P w K mg base CX0 3 f fd ["told", "due"] (SpS fsSame1) := by
  refine fun_okS F sc__law_same (fun M l S ⟨h, _⟩ => by rcases h with ⟨_, _, _, e⟩ | ⟨_, _, e⟩ <;> exact e ▸ rfl) fun cdv A outer s H E hr => ?_
  refine ⟨_, (pss_cons (ps_if (pt_cmpR op_isN (pv 1) pe_non (nomark _)) (pss_one (ps_ret (pe_cmpR op_isN (pv 0) pe_non (nomark _)))) pss_nil)
      (pss_cons (ps_if (PW.pt (pw_or (pt_val (pe_callB call_isi (by rfl) T.n_isinstance (by decide +kernel) (pa_cons (pv 1) (pa_cons (pe_bltn (v := .ty "bool") (u := .type "bool") (by rfl) T.n_bool (by decide +kernel) rfl) pa_nil)))) (pw_or1 (pt_val (pe_callB call_isi (by rfl) T.n_isinstance (by decide +kernel) (pa_cons (pv 0) (pa_cons (pe_bltn (v := .ty "bool") (u := .type "bool") (by rfl) T.n_bool (by decide +kernel) rfl) pa_nil))))))) (pss_one (ps_ret (pe_and (pe_callB call_isi (by rfl) T.n_isinstance (by decide +kernel) (pa_cons (pv 1) (pa_cons (pe_bltn (v := .ty "bool") (u := .type "bool") (by rfl) T.n_bool (by decide +kernel) rfl) pa_nil))) (pe_and (pe_callB call_isi (by rfl) T.n_isinstance (by decide +kernel) (pa_cons (pv 0) (pa_cons (pe_bltn (v := .ty "bool") (u := .type "bool") (by rfl) T.n_bool (by decide +kernel) rfl) pa_nil))) (pe_one (pe_cmpR op_eq (pv 0) (pv 1) (nomark _))))))) pss_nil)
      (pss_cons (ps_if (PW.pt (pw_or (pt_val (pe_callB call_isi (by rfl) T.n_isinstance (by decide +kernel) (pa_cons (pv 1) (pa_cons (pe_bltn (v := .ty "int") (u := .type "int") (by rfl) T.n_int (by decide +kernel) rfl) pa_nil)))) (pw_or1 (pt_val (pe_callB call_isi (by rfl) T.n_isinstance (by decide +kernel) (pa_cons (pv 1) (pa_cons (pe_bltn (v := .ty "str") (u := .type "str") (by rfl) T.n_str (by decide +kernel) rfl) pa_nil))))))) (pss_one (ps_ret (pe_and (pe_cmpR op_eq (pe_callB call_isi (by rfl) T.n_isinstance (by decide +kernel) (pa_cons (pv 0) (pa_cons (pe_bltn (v := .ty "int") (u := .type "int") (by rfl) T.n_int (by decide +kernel) rfl) pa_nil))) (pe_callB call_isi (by rfl) T.n_isinstance (by decide +kernel) (pa_cons (pv 1) (pa_cons (pe_bltn (v := .ty "int") (u := .type "int") (by rfl) T.n_int (by decide +kernel) rfl) pa_nil))) (nomark _)) (pe_and (pe_cmpR op_eq (pe_callB call_isi (by rfl) T.n_isinstance (by decide +kernel) (pa_cons (pv 0) (pa_cons (pe_bltn (v := .ty "str") (u := .type "str") (by rfl) T.n_str (by decide +kernel) rfl) pa_nil))) (pe_callB call_isi (by rfl) T.n_isinstance (by decide +kernel) (pa_cons (pv 1) (pa_cons (pe_bltn (v := .ty "str") (u := .type "str") (by rfl) T.n_str (by decide +kernel) rfl) pa_nil))) (nomark _)) (pe_one (pe_cmpR op_eq (pv 0) (pv 1) (nomark _))))))) pss_nil)
      (pss_cons (ps_if (PW.pt (pw_and (pt_cmpR op_eq (pe_callB call_len (by rfl) T.n_len (by decide +kernel) (pa_cons (pv 1) pa_nil)) pe_int (nomark _)) (pw_and1 (pt_cmpR op_eq (pe_ix (r := rIx K) ix_seq (pv 1) pe_int (fun _ _ => rfl)) pe_str (nomark _))))) (pss_one (ps_ret (pe_df d__law_is_ratio hr (by decide) pass0 (pa_cons (pv 0) (pa_cons (pe_tup (pa_cons (pe_ix (r := rIx K) ix_seq (pv 1) pe_int (fun _ _ => rfl)) (pa_cons (pe_ix (r := rIx K) ix_seq (pv 1) pe_int (fun _ _ => rfl)) pa_nil))) pa_nil))))) pss_nil)
      (pss_cons (ps_if (PW.pt (pw_or (pt_cmpR op_ne (pe_callB call_isi (by rfl) T.n_isinstance (by decide +kernel) (pa_cons (pv 0) (pa_cons (pe_bltn (v := .ty "tuple") (u := .type "tuple") (by rfl) T.n_tuple (by decide +kernel) rfl) pa_nil))) (pe_callB call_isi (by rfl) T.n_isinstance (by decide +kernel) (pa_cons (pv 1) (pa_cons (pe_bltn (v := .ty "tuple") (u := .type "tuple") (by rfl) T.n_tuple (by decide +kernel) rfl) pa_nil))) (nomark _)) (pw_or1 (pt_cmpR op_ne (pe_callB call_isi (by rfl) T.n_isinstance (by decide +kernel) (pa_cons (pv 0) (pa_cons (pe_bltn (v := .ty "list") (u := .type "list") (by rfl) T.n_list (by decide +kernel) rfl) pa_nil))) (pe_callB call_isi (by rfl) T.n_isinstance (by decide +kernel) (pa_cons (pv 1) (pa_cons (pe_bltn (v := .ty "list") (u := .type "list") (by rfl) T.n_list (by decide +kernel) rfl) pa_nil))) (nomark _))))) (pss_one (ps_ret pe_bl)) pss_nil)
      (pss_one (ps_ret (pe_and (pe_cmpR op_eq (pe_callB call_len (by rfl) T.n_len (by decide +kernel) (pa_cons (pv 0) pa_nil)) (pe_callB call_len (by rfl) T.n_len (by decide +kernel) (pa_cons (pv 1) pa_nil)) (nomark _)) (pe_one (pe_callB (r := rAll K) (cr_all rfl) (by rfl) T.n_all (by decide +kernel) (pa_cons (pe_lc (own := [("i", 2)]) (g := gName 2) (tt := tYes) rfl sc__law_same.nd (pi_range1 rfl T.n_range (pa_cons (pe_callB call_len (by rfl) T.n_len (by decide +kernel) (pa_cons (pv 1) pa_nil)) pa_nil)) (blkOk_by (N := ["told", "due", "i"]) (sc := defScope s__law_same) (by decide +kernel)) (fun _ _ _ _ _ => (pg_name (i := 2) sc__law_same.nd rfl (Or.inl rfl))) (fun _ _ _ _ _ => pts_nil) (fun _ _ _ _ _ => (pe_df d__law_same hr (by decide) pass0 (pa_cons (pe_ix (r := rIx K) ix_seq (pv 0) (pv 2) (fun _ _ => rfl)) (pa_cons (pe_ix (r := rIx K) ix_seq (pv 1) (pv 2) (fun _ _ => rfl)) pa_nil))))) pa_nil))))))))))), ?_⟩
  rintro M l S ⟨h, k⟩
  show B _ _ _ _ _ _ _
  try simp only [cxK, cxKn]
  rcases h with ⟨a, b, c, rfl⟩ | ⟨u, v, rfl⟩
  · walk_at "k"
    refine ev_lcMap (fun _ _ => .bl true) (tg_name (by decide)) ?_
    walk_at "k"
    refine ⟨_, rfl, (by simp), (by simp), le_line (by simp), fun D acc i s hi => ?_, ?_⟩
    · have hi3 : i < 3 := by
        have z := (List.getElem?_eq_some_iff.mp hi).1
        simpa using z
      match i, hi3 with
      | 0, _ => cases hi; walk_at "k"; exact rfl
      | 1, _ => cases hi; walk_at "k"; exact rfl
      | 2, _ => cases hi; walk_at "k"; exact rfl
    · walk_at "k"
      exact en_all (bs := [true, true, true]) rfl k
  · walk_at "k"
    refine ev_lcMap (fun _ _ => .bl true) (tg_name (by decide)) ?_
    walk_at "k"
    refine ⟨_, rfl, (by simp), (by simp), le_line (by simp), fun D acc i s hi => ?_, ?_⟩
    · have hi3 : i < 2 := by
        have z := (List.getElem?_eq_some_iff.mp hi).1
        simpa using z
      match i, hi3 with
      | 0, _ => cases hi; walk_at "k"; exact rfl
      | 1, _ => cases hi; walk_at "k"; exact rfl
    · walk_at "k"
      exact en_all (bs := [true, true]) rfl k
theorem ok_right {f : Addr} {fd : FuncData} (F : Fun K "_law_right" "_law_right" s__law_right f fd) (T : Tx P K mg C Co fo) (d__law_is_ratio : Df P w K mg base CX0 1 "_law_is_ratio" [] (SpS (fsIsR K C))) (d__law_same : Df P w K mg base CX0 2 "_law_same" [] (SpS fsSame0))
    (d__law_number : Df P w K mg base CX0 2 "_law_number" [] (SpS fsNum)) (d_text : DfP P w K mg base CX0 1 C "text" (SpS (fsText C))) (d_repr : DfO P w K mg base CX0 4 C "__repr__" (SpS (fsRepr C))) (d_bool : DfO P w K mg base CX0 1 C "__bool__" (SpS (fsBool C))) :
    FnOk P w K mg base CX0 8 f fd ["x", "p"] (SpS (fsRight C)) := by
  refine fun_okS F sc__law_right (fun M l S ⟨_, e, _⟩ => e ▸ rfl) fun cdv A outer s H E hr => ?_
  refine ⟨_, (pss_cons (ps_if (PW.pt (pw_or (pt_not (pt_val (pe_df d__law_is_ratio hr (by decide) pass0 (pa_cons (pv 0) (pa_cons (pv 1) pa_nil))))) (pw_or1 (pt_not (pt_val (pe_df d__law_same hr (by decide) pass0 (pa_cons (pe_dfP d_text hr (by decide) pass0 (pv 0)) (pa_cons (pe_df d__law_number hr (by decide) pass0 (pa_cons (pv 1) pa_nil)) pa_nil)))))))) (pss_one (ps_ret pe_bl)) pss_nil)
      (pss_one (ps_ret (pe_and (pe_cmpR op_eq (pe_callB (call_dfRepr d_repr hr (by decide) pass0) (by rfl) T.n_repr (by decide +kernel) (pa_cons (pv 0) pa_nil)) (pe_op op_add_str (pe_op op_add_str pe_str (pe_df d__law_number hr (by decide) pass0 (pa_cons (pv 1) pa_nil))) pe_str) (nomark _)) (pe_one (pe_cmpR op_eq (pe_callTy (call_dfBool d_bool hr (by decide) pass0) (by rfl) T.n_bool (by decide +kernel) (pa_cons (pv 0) pa_nil)) (pe_cmpR op_ne (pe_ix (r := rIxT K) ix_tup (pv 1) pe_int (fun _ _ => rfl)) pe_int (nomark _)) (nomark _))))))), ?_⟩
  rintro M l S ⟨r, rfl, hs, k⟩
  show B _ _ _ _ _ _ _
  try simp only [cxK, cxKn]
  have l1 := txt_len hs
  have l3 : (Str.ofString "Ratio(").length = 6 := by decide +kernel
  have l5 : (Str.ofString ")").length = 1 := by decide +kernel
  have e : Str.ofString "Ratio(" ++ txt r ++ Str.ofString ")" = rpr r := by
    unfold rpr
    refine TL.ext_tl ?_
    rw [TL.tl_append, TL.tl_append, TL.tl_append, TL.tl_append, TL.tl_append]
    rfl
  walk_at "k"
  refine ⟨le_line (by omega), ?_⟩
  walk_at "k"
  refine ⟨le_line (by rw [str_len]; omega), ?_⟩
  rw [e]
  walk_at "k"
  refine cnd_t (by simp) ?_
  walk_at "k"
  have e2 : decide (V.bl (decide (r ≠ 0)) = V.bl (!decide (V.int r.num = V.int 0))) = true := by
    have z : r = 0 ↔ r.num = 0 := Rat.num_eq_zero.symm
    rw [decide_eq_true_iff]
    congr 1
    rw [Bool.eq_iff_iff, decide_eq_true_iff, ne_eq, z]
    simp
  rw [e2]
  exact k
end
end KP

/-! K12U -/
set_option Elab.async false
set_option Elab.async false
set_option linter.all false
set_option maxRecDepth 100000
set_option maxHeartbeats 4000000
namespace KP
open PySem PySem.Spec PyProof.Rows L2 GM GS
local macro_rules | `(tactic| walk_at "sh") => `(tactic| repeat (first
  | ((with_reducible show GS.Ev _ _ _ _); first
    | with_reducible refine GS.ev_c ?_
    | ((with_reducible show GS.Ev _ (L2.tVar _) _ _); refine GS.ev_var rfl ?_)
    | with_reducible refine GS.ev_op ?_
    | with_reducible refine GS.ev_cb ?_
    | with_reducible refine GS.ev_un ?_
    | with_reducible refine GS.ev_tup ?_
    | with_reducible refine GS.ev_lst ?_
    | with_reducible refine GS.ev_if ?_
    | with_reducible refine GS.ev_andV ?_
    | with_reducible refine GS.ev_orV ?_
    | with_reducible refine GS.ev_notV ?_
    | with_reducible refine GS.ev_sl ?_
    | with_reducible refine GS.ev_fmtS ?_
    | with_reducible refine GS.ev_fmtL ?_
    | with_reducible refine GS.ev_joined ?_
    | with_reducible refine GS.ev_m1 ?_)
  | ((with_reducible show GS.E2 _ _ _ _ _); first
    | with_reducible refine GS.e2_I0 ?_
    | with_reducible refine GS.e2_I ?_
    | ((with_reducible refine GS.e2_eq ?_ ?_); exact rfl)
    | ((with_reducible refine GS.e2_ne ?_ ?_); exact rfl)
    | with_reducible refine GS.e2_isN ?_
    | with_reducible refine GS.e2_notN ?_
    | ((with_reducible show GS.E2 _ (L2.rIxL _) _ _ _); refine GS.e2_ixL rfl ?_)
    | ((with_reducible show GS.E2 _ (L2.rIxT _) _ _ _); refine GS.e2_ixT rfl ?_)
    | ((with_reducible show GS.E2 _ (L2.rIx _) (GS.Sh.lst _) _ _); refine GS.e2_ix_l rfl ?_)
    | ((with_reducible show GS.E2 _ (L2.rIx _) (GS.Sh.tup _) _ _); refine GS.e2_ix_t rfl ?_)
    | with_reducible refine GS.e2_cat ?_
    | with_reducible refine GS.e2_addS ?_
    | with_reducible refine GS.e2_inSign ?_)
  | ((with_reducible show GS.Ea _ _ _ _); first
    | with_reducible refine GS.ea_cons ?_
    | with_reducible refine GS.ea_nil ?_)
  | ((with_reducible show GS.Et _ _ _ _); first
    | with_reducible refine GS.et_B ?_
    | with_reducible refine GS.et_test ?_
    | with_reducible refine GS.et_not ?_
    | with_reducible refine GS.et_and ?_
    | with_reducible refine GS.et_or ?_
    | with_reducible refine GS.et_yes ?_
    | with_reducible refine GS.et_tru ?_)
  | ((with_reducible show GS.B _ _ _ _ _ _ _); first
    | with_reducible refine GS.b_seq ?_
    | with_reducible refine GS.b_if ?_
    | with_reducible refine GS.b_ret ?_
    | with_reducible refine GS.b_asg ?_
    | with_reducible refine GS.b_drop ?_
    | with_reducible refine GS.b_next ?_
    | with_reducible refine GS.b_par ?_
    | with_reducible refine GS.b_raise (fun _ => rfl) ?_)
  | with_reducible refine GS.eg_name ?_
  | with_reducible refine GS.egs_cons ?_
  | with_reducible refine GS.egs_nil ?_
  | ((with_reducible refine GS.eg_tup ?_ ?_); exact rfl)
  | with_reducible refine GS.e1_U ?_
  | ((with_reducible show GS.En _ _ _ _); first
    | with_reducible refine GS.en_len_l ?_
    | with_reducible refine GS.en_len_t ?_
    | with_reducible refine GS.en_len_str ?_
    | with_reducible refine GS.en_int ?_
    | with_reducible refine GS.en_bool ?_
    | with_reducible refine GS.en_abs ?_
    | with_reducible refine GS.en_str ?_
    | with_reducible refine GS.en_strL ?_
    | with_reducible refine GS.en_gcd ?_
    | with_reducible refine GS.en_list_l ?_
    | with_reducible refine GS.en_list_t ?_
    | with_reducible refine GS.en_tuple_l ?_)
  | with_reducible refine GS.ex_bl ?_
  | with_reducible refine GS.ex_str ?_
  | with_reducible refine GS.ex_int ?_
  | with_reducible refine GS.ex_v ?_
  | with_reducible refine GS.ex_two ?_
  | with_reducible refine GS.ex_lst ?_
  | with_reducible refine GS.ex_tup ?_
  | with_reducible refine GS.ex_lst1 ?_
  | with_reducible refine GS.ex_truS ?_
  | ((with_reducible show ∃ _, GS.TruS _ _ ∧ _); refine GS.ex_tru rfl ?_)
  | with_reducible refine GS.eo_no ?_
  | with_reducible refine GS.eo_yes ?_
  | with_reducible refine GS.e3_list ?_
  | with_reducible refine GS.e3_str ?_
  | with_reducible refine GS.ej_cons ?_
  | with_reducible refine GS.ej_nil ?_
  | with_reducible refine GS.em_split ?_
  | with_reducible refine GS.em_starts ?_
  | ((with_reducible show GS.Ei _ _ _ _); first
    | with_reducible refine GS.ei_list ?_
    | with_reducible refine GS.ei_tup ?_
    | with_reducible refine GS.ei_str ?_
    | with_reducible refine GS.ei_enum ?_
    | with_reducible refine GS.ei_zip ?_
    | with_reducible refine GS.ei_range1 ?_
    | with_reducible refine GS.ei_range2 ?_)
  | ((with_reducible show _ ∧ _); first
    | ((with_reducible refine And.intro ?_ ?_); (with_reducible assumption))
    | ((with_reducible refine GS.sz_and ?_ ?_); exact rfl)
    | ((with_reducible refine GS.cnd_t ?_ ?_); exact rfl)
    | ((with_reducible refine GS.cnd_f ?_ ?_); exact rfl))))

section
variable {P : Program} {w : World} {K : PySem.W.Frag} {mg : Str → Option Value} {base : Heap} {C Co fo : Addr} {j : J} {q : Sh → Prop} {x : Sh} {a : Ty0} {ex : Addr → List (Str × V) → Prop}

local macro_rules | `(tactic| walk_at "k") => `(tactic| repeat (first
  | ((with_reducible show GS.Ev _ _ _ _); first
    | with_reducible refine GS.ev_c ?_
    | ((with_reducible show GS.Ev _ (L2.tVar _) _ _); refine GS.ev_var rfl ?_)
    | with_reducible refine GS.ev_op ?_
    | with_reducible refine GS.ev_cb ?_
    | with_reducible refine GS.ev_un ?_
    | with_reducible refine GS.ev_tup ?_
    | with_reducible refine GS.ev_lst ?_
    | with_reducible refine GS.ev_if ?_
    | with_reducible refine GS.ev_andV ?_
    | with_reducible refine GS.ev_orV ?_
    | with_reducible refine GS.ev_notV ?_
    | with_reducible refine GS.ev_sl ?_
    | with_reducible refine GS.ev_fmtS ?_
    | with_reducible refine GS.ev_fmtL ?_
    | with_reducible refine GS.ev_joined ?_
    | with_reducible refine GS.ev_m1 ?_)
  | ((with_reducible show GS.E2 _ _ _ _ _); first
    | with_reducible refine GS.e2_I0 ?_
    | with_reducible refine GS.e2_I ?_
    | ((with_reducible refine GS.e2_eq ?_ ?_); exact rfl)
    | ((with_reducible refine GS.e2_ne ?_ ?_); exact rfl)
    | with_reducible refine GS.e2_isN ?_
    | with_reducible refine GS.e2_notN ?_
    | ((with_reducible show GS.E2 _ (L2.rIxL _) _ _ _); refine GS.e2_ixL rfl ?_)
    | ((with_reducible show GS.E2 _ (L2.rIxT _) _ _ _); refine GS.e2_ixT rfl ?_)
    | ((with_reducible show GS.E2 _ (L2.rIx _) (GS.Sh.lst _) _ _); refine GS.e2_ix_l rfl ?_)
    | ((with_reducible show GS.E2 _ (L2.rIx _) (GS.Sh.tup _) _ _); refine GS.e2_ix_t rfl ?_)
    | with_reducible refine GS.e2_cat ?_
    | with_reducible refine GS.e2_addS ?_
    | with_reducible refine GS.e2_inSign ?_)
  | ((with_reducible show GS.Ea _ _ _ _); first
    | with_reducible refine GS.ea_cons ?_
    | with_reducible refine GS.ea_nil ?_)
  | ((with_reducible show GS.Et _ _ _ _); first
    | with_reducible refine GS.et_B ?_
    | with_reducible refine GS.et_test ?_
    | with_reducible refine GS.et_not ?_
    | with_reducible refine GS.et_and ?_
    | with_reducible refine GS.et_or ?_
    | with_reducible refine GS.et_yes ?_
    | with_reducible refine GS.et_tru ?_)
  | ((with_reducible show GS.B _ _ _ _ _ _ _); first
    | with_reducible refine GS.b_seq ?_
    | with_reducible refine GS.b_if ?_
    | with_reducible refine GS.b_ret ?_
    | with_reducible refine GS.b_asg ?_
    | with_reducible refine GS.b_drop ?_
    | with_reducible refine GS.b_next ?_
    | with_reducible refine GS.b_par ?_
    | with_reducible refine GS.b_raise (fun _ => rfl) ?_)
  | with_reducible refine GS.eg_name ?_
  | with_reducible refine GS.egs_cons ?_
  | with_reducible refine GS.egs_nil ?_
  | ((with_reducible refine GS.eg_tup ?_ ?_); exact rfl)
  | with_reducible refine GS.e1_U ?_
  | ((with_reducible show GS.En _ _ _ _); first
    | with_reducible refine GS.en_len_l ?_
    | with_reducible refine GS.en_len_t ?_
    | with_reducible refine GS.en_len_str ?_
    | with_reducible refine GS.en_int ?_
    | with_reducible refine GS.en_bool ?_
    | with_reducible refine GS.en_abs ?_
    | with_reducible refine GS.en_str ?_
    | with_reducible refine GS.en_strL ?_
    | with_reducible refine GS.en_gcd ?_
    | with_reducible refine GS.en_list_l ?_
    | with_reducible refine GS.en_list_t ?_
    | with_reducible refine GS.en_tuple_l ?_)
  | with_reducible refine GS.ex_bl ?_
  | with_reducible refine GS.ex_str ?_
  | with_reducible refine GS.ex_int ?_
  | with_reducible refine GS.ex_v ?_
  | with_reducible refine GS.ex_two ?_
  | with_reducible refine GS.ex_lst ?_
  | with_reducible refine GS.ex_tup ?_
  | with_reducible refine GS.ex_lst1 ?_
  | with_reducible refine GS.ex_truS ?_
  | ((with_reducible show ∃ _, GS.TruS _ _ ∧ _); refine GS.ex_tru rfl ?_)
  | with_reducible refine GS.eo_no ?_
  | with_reducible refine GS.eo_yes ?_
  | with_reducible refine GS.e3_list ?_
  | with_reducible refine GS.e3_str ?_
  | with_reducible refine GS.ej_cons ?_
  | with_reducible refine GS.ej_nil ?_
  | with_reducible refine GS.em_split ?_
  | with_reducible refine GS.em_starts ?_
  | ((with_reducible show GS.Ei _ _ _ _); first
    | with_reducible refine GS.ei_list ?_
    | with_reducible refine GS.ei_tup ?_
    | with_reducible refine GS.ei_str ?_
    | with_reducible refine GS.ei_enum ?_
    | with_reducible refine GS.ei_zip ?_
    | with_reducible refine GS.ei_range1 ?_
    | with_reducible refine GS.ei_range2 ?_)
  | ((with_reducible show _ ∧ _); first
    | ((with_reducible refine And.intro ?_ ?_); (with_reducible assumption))
    | ((with_reducible refine GS.sz_and ?_ ?_); exact rfl)
    | ((with_reducible refine GS.cnd_t ?_ ?_); exact rfl)
    | ((with_reducible refine GS.cnd_f ?_ ?_); exact rfl))
  | ((with_reducible show GS.En _ (L2.rIsi _) _ _); first
    | ((with_reducible apply isi_int (by with_reducible assumption)); (first | with_reducible assumption | exact knd_int | exact knd_bl | exact knd_str | exact knd_non | exact knd_lst | exact knd_tup | exact knd_rat (by assumption)))
    | ((with_reducible apply isi_bool (by with_reducible assumption)); (first | with_reducible assumption | exact knd_int | exact knd_bl | exact knd_str | exact knd_non | exact knd_lst | exact knd_tup | exact knd_rat (by assumption)))
    | ((with_reducible apply isi_str (by with_reducible assumption)); (first | with_reducible assumption | exact knd_int | exact knd_bl | exact knd_str | exact knd_non | exact knd_lst | exact knd_tup | exact knd_rat (by assumption)))
    | ((with_reducible apply isi_tuple (by with_reducible assumption)); (first | with_reducible assumption | exact knd_int | exact knd_bl | exact knd_str | exact knd_non | exact knd_lst | exact knd_tup | exact knd_rat (by assumption)))
    | ((with_reducible apply isi_list (by with_reducible assumption)); (first | with_reducible assumption | exact knd_int | exact knd_bl | exact knd_str | exact knd_non | exact knd_lst | exact knd_tup | exact knd_rat (by assumption)))
    | ((with_reducible apply isi_rat (by with_reducible assumption)); (first | with_reducible assumption | exact knd_int | exact knd_bl | exact knd_str | exact knd_non | exact knd_lst | exact knd_tup | exact knd_rat (by assumption))))
  | (with_reducible refine ev_top (by with_reducible assumption) ?_)
  | (with_reducible refine ev_bot (by with_reducible assumption) ?_)
  | with_reducible refine ex_rat ?_
  | with_reducible refine GS.ev_call (E := L2.E0) GS.XOk.no ?_
  | with_reducible refine GS.ev_call GS.XOk.own ?_
  | ((with_reducible show GS.Callx _ _ _ _ _); first
    | ((with_reducible apply use_integral); (first | with_reducible assumption | exact knd_int | exact knd_bl | exact knd_str | exact knd_non | exact knd_lst | exact knd_tup | exact knd_rat (by assumption)))
    | ((with_reducible apply use_parts); first | with_reducible assumption | exact num_rat | exact num_int)
    | ((with_reducible refine use_digits ?_ ?_); with_reducible assumption)
    | ((with_reducible refine use_intof ?_ ?_); with_reducible assumption)
    | ((with_reducible refine use_frac ?_ ?_); with_reducible assumption)
    | with_reducible refine use_gcd ?_
    | with_reducible refine use_isR ?_
    | ((with_reducible apply use_repr); (with_reducible assumption))
    | with_reducible refine use_bool ?_
    | ((with_reducible apply use_num); (with_reducible assumption))
    | ((with_reducible apply use_text); (with_reducible assumption))
    | with_reducible refine use_same_str ?_
    | with_reducible refine use_same_bl ?_
    | with_reducible refine use_same_l3 ?_
    | with_reducible refine use_same_t2 ?_
    | ((with_reducible apply use_right); (with_reducible assumption))
    | ((with_reducible apply use_low); (with_reducible assumption); (with_reducible assumption)))
  | with_reducible refine GS.ev_make (E := L2.E0) GS.XOk.no ?_
  | with_reducible refine GS.ev_make GS.XOk.own ?_
  | ((with_reducible show L2.CMulW _ _ ∧ _); refine And.intro (cmw (by with_reducible assumption) (by with_reducible assumption)) ?_)
  | ((with_reducible refine use_init ?_ ?_ ?_); (with_reducible assumption); (with_reducible assumption))
  | with_reducible refine ex_insR ?_
  | with_reducible refine ixPr0 ?_
  | with_reducible refine ixPr1 ?_
  | with_reducible refine GS.en_ownReprG GS.XOk.no insRt ?_
  | with_reducible refine GS.en_ownBoolG GS.XOk.no insRt ?_
  | ((with_reducible show (0 : Int) < _ ∧ _); (refine And.intro ?_ ?_); (first | decide | assumption | omega))
  | ((with_reducible show L2.CPow _ _ ∧ _); refine And.intro ⟨by decide, by decide, by decide⟩ ?_)
  | ((with_reducible show L2.CMul _ _ ∧ _); (refine And.intro ?_ ?_); first | exact .inr ⟨by decide, by decide⟩ | exact .inl ⟨by decide, by decide⟩ | exact .inr ⟨by omega, by omega⟩ | exact .inl ⟨by omega, by omega⟩)
  | with_reducible refine GS.ev_prop GS.XOk.no ?_))

theorem use_of {t : List Sh} (ho : j.M.out = false) (h0 : 0 < t.length) (h1 : t.length < 2 ^ 24) (k : ∀ s, s ∈ t → q s) : Callx j fsOf ([.bag, .lst t] ++ List.map Sh.v []) q ex := callx_of ⟨ho, .inl ⟨t, rfl, h0, h1, fun s hs => k s hs⟩⟩
theorem use_ofS {z : Str} (ho : j.M.out = false) (h0 : 0 < z.length) (h1 : z.length < 2 ^ 24) (k : ∀ c, c ∈ z.cps.toList → q (.str ⟨#[c]⟩)) : Callx j fsOf ([.bag, .str z] ++ List.map Sh.v []) q ex := callx_of ⟨ho, .inr ⟨z, rfl, h0, h1, fun s hs => k s hs⟩⟩
theorem use_shuf {t : List Sh} (ho : j.M.out = false) (h : t.length < 100000) (k : ∀ u, u.Perm t → q (.lst u)) : Callx j fsShuf ([.bag, .lst t] ++ List.map Sh.v []) q ex := callx_of ⟨ho, t, rfl, h, k⟩
/-! ### a drawn fraction -/
def fsFra : Fs := fun M l S => M.out = false ∧ l = [.bag] ∧ ∀ r, SzR 100 r → S (.ret (Pr r))
theorem sz_lit {x : Int} {n : Nat} (h0 : -(2 ^ n) < x) (h1 : x < 2 ^ n) : Sz n x := by
  unfold Sz
  have e : ((2 : Int) ^ n) = ((2 ^ n : Nat) : Int) := by simp
  rw [e] at h0 h1
  omega
theorem ok_fraction {f : Addr} {fd : FuncData} (F : Fun K "_law_fraction" "_law_fraction" s__law_fraction f fd) (T : Tx P K mg C Co fo) (d__law_pick : Df P w K mg base CX0 1 "_law_pick" [] (SpS fsPick)) (d__law_of : Df P w K mg base CX0 2 "_law_of" [] (SpS fsOf))
    (d__law_low : Df P w K mg base CX0 2 "_law_low" [] (SpS fsLow)) : FnOk P w K mg base CX0 3 f fd ["bag"] (SpS fsFra) := by
  refine fun_okS F sc__law_fraction (fun M l S ⟨_, e, _⟩ => e ▸ rfl) fun cdv A outer s H E hr => ?_
  refine ⟨_, (pss_cons (ps_par (i := 1) (j := 2) (by rfl) sc__law_fraction.nd rfl rfl (by decide) rfl rfl (pa_cons (pe_df d__law_pick hr (by decide) pass0 (pa_cons (pv 0) (pa_cons pe_int pa_nil))) (pa_cons (pe_df d__law_of hr (by decide) pass0 (pa_cons (pv 0) (pa_cons (pe_lst (pa_cons pe_int (pa_cons (pe_un un_neg pe_int) pa_nil))) pa_nil))) pa_nil)) (by rfl))
      (pss_cons (ps_if (pt_cmpR op_eq (pv 1) pe_int (nomark _)) (pss_one (ps_ret (pe_tup (pa_cons (pe_op op_mul (pv 2) (pe_df d__law_pick hr (by decide) pass0 (pa_cons (pv 0) (pa_cons pe_int pa_nil)))) (pa_cons pe_int pa_nil))))) pss_nil)
      (pss_cons (ps_if (pt_cmpR op_lt (pv 1) pe_int (nomark _)) (pss_one (ps_ret (pe_df d__law_low hr (by decide) pass0 (pa_cons (pe_op op_mul (pv 2) (pe_df d__law_pick hr (by decide) pass0 (pa_cons (pv 0) (pa_cons pe_int pa_nil)))) (pa_cons (pe_op op_add pe_int (pe_df d__law_pick hr (by decide) pass0 (pa_cons (pv 0) (pa_cons pe_int pa_nil)))) pa_nil))))) pss_nil)
      (pss_cons (ps_if (pt_cmpR op_eq (pv 1) pe_int (nomark _)) (pss_one (ps_ret (pe_df d__law_low hr (by decide) pass0 (pa_cons (pe_op op_mul (pv 2) (pe_df d__law_pick hr (by decide) pass0 (pa_cons (pv 0) (pa_cons (pe_op op_pow pe_int pe_int) pa_nil)))) (pa_cons (pe_op op_add pe_int (pe_df d__law_pick hr (by decide) pass0 (pa_cons (pv 0) (pa_cons (pe_op op_pow pe_int pe_int) pa_nil)))) pa_nil))))) pss_nil)
      (pss_cons (ps_set (i := 3) sc__law_fraction.nd rfl (Or.inl rfl) (pe_op op_add (pe_op op_mul (pe_df d__law_pick hr (by decide) pass0 (pa_cons (pv 0) (pa_cons (pe_op op_pow pe_int pe_int) pa_nil))) (pe_op op_pow pe_int pe_int)) (pe_df d__law_pick hr (by decide) pass0 (pa_cons (pv 0) (pa_cons (pe_op op_pow pe_int pe_int) pa_nil)))))
      (pss_one (ps_ret (pe_df d__law_low hr (by decide) pass0 (pa_cons (pe_op op_mul (pv 2) (pv 3)) (pa_cons (pe_op op_add (pe_op op_add pe_int (pe_op op_mul (pe_df d__law_pick hr (by decide) pass0 (pa_cons (pv 0) (pa_cons (pe_op op_pow pe_int pe_int) pa_nil))) (pe_df d__law_pick hr (by decide) pass0 (pa_cons (pv 0) (pa_cons (pe_op op_pow pe_int pe_int) pa_nil))))) (pe_df d__law_pick hr (by decide) pass0 (pa_cons (pv 0) (pa_cons pe_int pa_nil)))) pa_nil)))))))))), ?_⟩
  rintro M l S ⟨ho, rfl, k⟩
  show B _ _ _ _ _ _ _
  try simp only [cxK, cxKn]
  have fin : ∀ t b : Int, -(2 ^ 100) < t → t < 2 ^ 100 → 0 < b → b < 2 ^ 100 → S (.ret (Pr (Rat.divInt t b))) := fun t b h1 h2 h3 h4 => k _ (SzR.of_div (n := 100) (m := 100) (by omega) (sz_lit h1 h2) (sz_lit (by omega) h4) (Nat.le_refl _) (Nat.le_refl _))
  walk_at "k"
  refine use_pick ho (by decide) (by decide) fun way w0 w1 => ?_
  walk_at "k"
  refine use_of ho (by decide) (by decide) fun s hs => ?_
  have hs : s = .int 1 ∨ s = .int (-1) := by simpa using hs
  obtain ⟨sg, rfl, hsg⟩ : ∃ sg : Int, s = .int sg ∧ (sg = 1 ∨ sg = -1) := by rcases hs with h | h <;> exact ⟨_, h, by simp⟩
  have hc : ∀ x, CMul sg x := fun x => .inl (by rcases hsg with h | h <;> subst h <;> decide)
  walk_at "k"
  refine cnd (c := way = 0) (by simp) (fun h => ?_) (fun h => ?_)
  · walk_at "k"
    refine use_pick ho (by decide) (by decide) fun r r0 r1 => ?_
    walk_at "k"
    have z := fin (sg * r) 1 (by rcases hsg with h | h <;> subst h <;> omega) (by rcases hsg with h | h <;> subst h <;> omega) (by decide) (by decide)
    have e : Rat.divInt (sg * r) 1 = ((sg * r : Int) : Rat) := Rat.num_divInt_den ((sg * r : Int) : Rat)
    rw [e] at z
    exact z
  · walk_at "k"
    refine cnd (c := way < 4) (by simp) (fun h => ?_) (fun h => ?_)
    · walk_at "k"
      refine use_pick ho (by decide) (by decide) fun r r0 r1 => ?_
      walk_at "k"
      refine use_pick ho (by decide) (by decide) fun u u0 u1 => ?_
      walk_at "k"
      refine use_low (by omega) (sz_lit (by omega) (by omega)) ?_
      exact fin _ _ (by rcases hsg with h | h <;> subst h <;> omega) (by rcases hsg with h | h <;> subst h <;> omega) (by omega) (by omega)
    · walk_at "k"
      refine cnd (c := way = 4) (by simp) (fun h => ?_) (fun h => ?_)
      · walk_at "k"
        refine use_pick ho (by decide) (by decide) fun r r0 r1 => ?_
        replace r1 : r < 1000000000 := r1
        walk_at "k"
        refine use_pick ho (by decide) (by decide) fun u u0 u1 => ?_
        replace u1 : u < 1000000000 := u1
        walk_at "k"
        refine use_low (by omega) (sz_lit (by omega) (by omega)) ?_
        exact fin _ _ (by rcases hsg with h | h <;> subst h <;> omega) (by rcases hsg with h | h <;> subst h <;> omega) (by omega) (by omega)
      · walk_at "k"
        refine use_pick ho (by decide) (by decide) fun r r0 r1 => ?_
        replace r1 : r < 1000000000000 := r1
        walk_at "k"
        refine use_pick ho (by decide) (by decide) fun u u0 u1 => ?_
        replace u1 : u < 1000000000000 := u1
        walk_at "k"
        refine use_pick ho (by decide) (by decide) fun v v0 v1 => ?_
        replace v1 : v < 1000000000000 := v1
        walk_at "k"
        refine use_pick ho (by decide) (by decide) fun x x0 x1 => ?_
        replace x1 : x < 100000000000 := x1
        walk_at "k"
        refine use_pick ho (by decide) (by decide) fun y y0 y1 => ?_
        walk_at "k"
        have hvx : v * x < 2 ^ 90 := by
          have h1 : v * x ≤ 1000000000000 * x := Int.mul_le_mul_of_nonneg_right (by omega) x0
          omega
        have hvx0 : 0 ≤ v * x := Int.mul_nonneg v0 x0
        have e : (10 : Int) ^ Int.toNat 12 = 1000000000000 := by decide
        rw [e]
        refine use_low (by omega) (sz_lit (by omega) (by omega)) ?_
        exact fin _ _ (by rcases hsg with h | h <;> subst h <;> omega) (by rcases hsg with h | h <;> subst h <;> omega) (by omega) (by omega)
end
end KP

/-! K12V -/
set_option Elab.async false
set_option Elab.async false
set_option linter.all false
set_option maxRecDepth 100000
set_option maxHeartbeats 4000000
namespace KP
open PySem PySem.Spec PyProof.Rows L2 GM GS
local macro_rules | `(tactic| walk_at "sh") => `(tactic| repeat (first
  | ((with_reducible show GS.Ev _ _ _ _); first
    | with_reducible refine GS.ev_c ?_
    | ((with_reducible show GS.Ev _ (L2.tVar _) _ _); refine GS.ev_var rfl ?_)
    | with_reducible refine GS.ev_op ?_
    | with_reducible refine GS.ev_cb ?_
    | with_reducible refine GS.ev_un ?_
    | with_reducible refine GS.ev_tup ?_
    | with_reducible refine GS.ev_lst ?_
    | with_reducible refine GS.ev_if ?_
    | with_reducible refine GS.ev_andV ?_
    | with_reducible refine GS.ev_orV ?_
    | with_reducible refine GS.ev_notV ?_
    | with_reducible refine GS.ev_sl ?_
    | with_reducible refine GS.ev_fmtS ?_
    | with_reducible refine GS.ev_fmtL ?_
    | with_reducible refine GS.ev_joined ?_
    | with_reducible refine GS.ev_m1 ?_)
  | ((with_reducible show GS.E2 _ _ _ _ _); first
    | with_reducible refine GS.e2_I0 ?_
    | with_reducible refine GS.e2_I ?_
    | ((with_reducible refine GS.e2_eq ?_ ?_); exact rfl)
    | ((with_reducible refine GS.e2_ne ?_ ?_); exact rfl)
    | with_reducible refine GS.e2_isN ?_
    | with_reducible refine GS.e2_notN ?_
    | ((with_reducible show GS.E2 _ (L2.rIxL _) _ _ _); refine GS.e2_ixL rfl ?_)
    | ((with_reducible show GS.E2 _ (L2.rIxT _) _ _ _); refine GS.e2_ixT rfl ?_)
    | ((with_reducible show GS.E2 _ (L2.rIx _) (GS.Sh.lst _) _ _); refine GS.e2_ix_l rfl ?_)
    | ((with_reducible show GS.E2 _ (L2.rIx _) (GS.Sh.tup _) _ _); refine GS.e2_ix_t rfl ?_)
    | with_reducible refine GS.e2_cat ?_
    | with_reducible refine GS.e2_addS ?_
    | with_reducible refine GS.e2_inSign ?_)
  | ((with_reducible show GS.Ea _ _ _ _); first
    | with_reducible refine GS.ea_cons ?_
    | with_reducible refine GS.ea_nil ?_)
  | ((with_reducible show GS.Et _ _ _ _); first
    | with_reducible refine GS.et_B ?_
    | with_reducible refine GS.et_test ?_
    | with_reducible refine GS.et_not ?_
    | with_reducible refine GS.et_and ?_
    | with_reducible refine GS.et_or ?_
    | with_reducible refine GS.et_yes ?_
    | with_reducible refine GS.et_tru ?_)
  | ((with_reducible show GS.B _ _ _ _ _ _ _); first
    | with_reducible refine GS.b_seq ?_
    | with_reducible refine GS.b_if ?_
    | with_reducible refine GS.b_ret ?_
    | with_reducible refine GS.b_asg ?_
    | with_reducible refine GS.b_drop ?_
    | with_reducible refine GS.b_next ?_
    | with_reducible refine GS.b_par ?_
    | with_reducible refine GS.b_raise (fun _ => rfl) ?_)
  | with_reducible refine GS.eg_name ?_
  | with_reducible refine GS.egs_cons ?_
  | with_reducible refine GS.egs_nil ?_
  | ((with_reducible refine GS.eg_tup ?_ ?_); exact rfl)
  | with_reducible refine GS.e1_U ?_
  | ((with_reducible show GS.En _ _ _ _); first
    | with_reducible refine GS.en_len_l ?_
    | with_reducible refine GS.en_len_t ?_
    | with_reducible refine GS.en_len_str ?_
    | with_reducible refine GS.en_int ?_
    | with_reducible refine GS.en_bool ?_
    | with_reducible refine GS.en_abs ?_
    | with_reducible refine GS.en_str ?_
    | with_reducible refine GS.en_strL ?_
    | with_reducible refine GS.en_gcd ?_
    | with_reducible refine GS.en_list_l ?_
    | with_reducible refine GS.en_list_t ?_
    | with_reducible refine GS.en_tuple_l ?_)
  | with_reducible refine GS.ex_bl ?_
  | with_reducible refine GS.ex_str ?_
  | with_reducible refine GS.ex_int ?_
  | with_reducible refine GS.ex_v ?_
  | with_reducible refine GS.ex_two ?_
  | with_reducible refine GS.ex_lst ?_
  | with_reducible refine GS.ex_tup ?_
  | with_reducible refine GS.ex_lst1 ?_
  | with_reducible refine GS.ex_truS ?_
  | ((with_reducible show ∃ _, GS.TruS _ _ ∧ _); refine GS.ex_tru rfl ?_)
  | with_reducible refine GS.eo_no ?_
  | with_reducible refine GS.eo_yes ?_
  | with_reducible refine GS.e3_list ?_
  | with_reducible refine GS.e3_str ?_
  | with_reducible refine GS.ej_cons ?_
  | with_reducible refine GS.ej_nil ?_
  | with_reducible refine GS.em_split ?_
  | with_reducible refine GS.em_starts ?_
  | ((with_reducible show GS.Ei _ _ _ _); first
    | with_reducible refine GS.ei_list ?_
    | with_reducible refine GS.ei_tup ?_
    | with_reducible refine GS.ei_str ?_
    | with_reducible refine GS.ei_enum ?_
    | with_reducible refine GS.ei_zip ?_
    | with_reducible refine GS.ei_range1 ?_
    | with_reducible refine GS.ei_range2 ?_)
  | ((with_reducible show _ ∧ _); first
    | ((with_reducible refine And.intro ?_ ?_); (with_reducible assumption))
    | ((with_reducible refine GS.sz_and ?_ ?_); exact rfl)
    | ((with_reducible refine GS.cnd_t ?_ ?_); exact rfl)
    | ((with_reducible refine GS.cnd_f ?_ ?_); exact rfl))))

section
variable {P : Program} {w : World} {K : PySem.W.Frag} {mg : Str → Option Value} {base : Heap} {C Co fo : Addr} {j : J} {q : Sh → Prop} {x : Sh} {a : Ty0} {ex : Addr → List (Str × V) → Prop}
theorem ev_methR {ss : SS} {to : TE} {tA : TA} {m : Str} {fs : Fs} (hm : (["top", "bottom"] : List Str).contains m = false) (h : Ev j to ss fun o => (∃ r, o = Rt C r) ∧ Ea j tA ss fun l => Callx j fs (o :: l) q (fun _ _ => False)) : Ev j (tMeth C m (SpS fs) [] E0 to tA) ss q :=
  ev_meth XOk.no (h.mono fun o ⟨⟨r, e⟩, k⟩ => by
    subst e
    exact ⟨_, _, rfl, hm, k⟩)
theorem exR_and {r : Rat} {A : Prop} (k : A) : (∃ t, Rt C r = Rt C t) ∧ A := ⟨⟨r, rfl⟩, k⟩
theorem e2_eqR (T : Tx P K mg C Co fo) {r t : Rat} (k : q (.bl (decide (r = t)))) : E2 j (rOwnEq K C (SpS (fsEq K C)) E0) (Rt C r) (Rt C t) q :=
  e2_ownEqG XOk.no insRt (knd_rat T).h (T.nf .rat) (callx_of ⟨r, _, rfl, .inl ⟨t, rfl, k⟩⟩)
theorem e2_eqK (T : Tx P K mg C Co fo) {r : Rat} {y : Sh} {a : Ty0} (ka : Knd K C y a) (hn : a ≠ .rat) (k : q (.bl false)) : E2 j (rOwnEq K C (SpS (fsEq K C)) E0) (Rt C r) y q :=
  e2_ownEqG XOk.no insRt ka.h (T.nf a) (callx_of ⟨r, _, rfl, .inr ⟨a, ka, hn, k⟩⟩)
theorem e2_eqI (T : Tx P K mg C Co fo) {r : Rat} {n : Int} (k : q (.bl false)) : E2 j (rOwnEq K C (SpS (fsEq K C)) E0) (Rt C r) (.v (.int n)) q := e2_eqK T knd_int (by decide) k
theorem use_same_blE {a b : Bool} (e : a = b) (k : q (.bl true)) : Callx j fsSame0 ([.bl a, .bl b] ++ List.map Sh.v []) q ex := by
  subst e
  exact use_same_bl k
theorem use_below {r t : Rat} {y : Sh} (hy : Num C y t) (hr : SzR 4000 r) (ht : SzR 4000 t) (k : q (.bl (decide (r.num * t.den < t.num * r.den)))) : Callx j (fsBelow C) [Rt C r, y] q ex := callx_of ⟨r, y, t, rfl, hy, hr, ht, k⟩
/-! ### order -/
theorem _root_.GM.SzR.neg {n : Nat} {r : Rat} (h : SzR n r) : SzR n (-r) := ⟨by rw [Rat.neg_num]; exact h.1.neg, by rw [Rat.neg_den]; exact h.2⟩
theorem _root_.GM.SzR.add {n m k : Nat} {r t : Rat} (h : SzR n r) (g : SzR m t) (hk : n + m + 1 ≤ k) : SzR k (r + t) := by
  rw [← add_eq]
  exact SzR.of_div (n := n + m + 1) (m := n + m) (Int.mul_ne_zero (den_ne r) (den_ne t)) ((h.1.mul g.2).add (g.1.mul h.2) (Nat.le_refl _) (by omega)) (h.2.mul g.2) hk (by omega)
theorem _root_.GM.SzR.sub {n m k : Nat} {r t : Rat} (h : SzR n r) (g : SzR m t) (hk : n + m + 1 ≤ k) : SzR k (r - t) := by
  rw [Rat.sub_eq_add_neg]
  exact h.add g.neg hk
theorem _root_.GM.SzR.mul {n m k : Nat} {r t : Rat} (h : SzR n r) (g : SzR m t) (hk : n + m ≤ k) : SzR k (r * t) := by
  rw [← mul_eq]
  exact SzR.of_div (n := n + m) (m := n + m) (Int.mul_ne_zero (den_ne r) (den_ne t)) (h.1.mul g.1) (h.2.mul g.2) hk hk
local macro_rules | `(tactic| walk_at "k") => `(tactic| repeat (first
  | ((with_reducible show GS.Ev _ _ _ _); first
    | with_reducible refine GS.ev_c ?_
    | ((with_reducible show GS.Ev _ (L2.tVar _) _ _); refine GS.ev_var rfl ?_)
    | with_reducible refine GS.ev_op ?_
    | with_reducible refine GS.ev_cb ?_
    | with_reducible refine GS.ev_un ?_
    | with_reducible refine GS.ev_tup ?_
    | with_reducible refine GS.ev_lst ?_
    | with_reducible refine GS.ev_if ?_
    | with_reducible refine GS.ev_andV ?_
    | with_reducible refine GS.ev_orV ?_
    | with_reducible refine GS.ev_notV ?_
    | with_reducible refine GS.ev_sl ?_
    | with_reducible refine GS.ev_fmtS ?_
    | with_reducible refine GS.ev_fmtL ?_
    | with_reducible refine GS.ev_joined ?_
    | with_reducible refine GS.ev_m1 ?_)
  | ((with_reducible show GS.E2 _ _ _ _ _); first
    | with_reducible refine GS.e2_I0 ?_
    | with_reducible refine GS.e2_I ?_
    | ((with_reducible refine GS.e2_eq ?_ ?_); exact rfl)
    | ((with_reducible refine GS.e2_ne ?_ ?_); exact rfl)
    | with_reducible refine GS.e2_isN ?_
    | with_reducible refine GS.e2_notN ?_
    | ((with_reducible show GS.E2 _ (L2.rIxL _) _ _ _); refine GS.e2_ixL rfl ?_)
    | ((with_reducible show GS.E2 _ (L2.rIxT _) _ _ _); refine GS.e2_ixT rfl ?_)
    | ((with_reducible show GS.E2 _ (L2.rIx _) (GS.Sh.lst _) _ _); refine GS.e2_ix_l rfl ?_)
    | ((with_reducible show GS.E2 _ (L2.rIx _) (GS.Sh.tup _) _ _); refine GS.e2_ix_t rfl ?_)
    | with_reducible refine GS.e2_cat ?_
    | with_reducible refine GS.e2_addS ?_
    | with_reducible refine GS.e2_inSign ?_)
  | ((with_reducible show GS.Ea _ _ _ _); first
    | with_reducible refine GS.ea_cons ?_
    | with_reducible refine GS.ea_nil ?_)
  | ((with_reducible show GS.Et _ _ _ _); first
    | with_reducible refine GS.et_B ?_
    | with_reducible refine GS.et_test ?_
    | with_reducible refine GS.et_not ?_
    | with_reducible refine GS.et_and ?_
    | with_reducible refine GS.et_or ?_
    | with_reducible refine GS.et_yes ?_
    | with_reducible refine GS.et_tru ?_)
  | ((with_reducible show GS.B _ _ _ _ _ _ _); first
    | with_reducible refine GS.b_seq ?_
    | with_reducible refine GS.b_if ?_
    | with_reducible refine GS.b_ret ?_
    | with_reducible refine GS.b_asg ?_
    | with_reducible refine GS.b_drop ?_
    | with_reducible refine GS.b_next ?_
    | with_reducible refine GS.b_par ?_
    | with_reducible refine GS.b_raise (fun _ => rfl) ?_)
  | with_reducible refine GS.eg_name ?_
  | with_reducible refine GS.egs_cons ?_
  | with_reducible refine GS.egs_nil ?_
  | ((with_reducible refine GS.eg_tup ?_ ?_); exact rfl)
  | with_reducible refine GS.e1_U ?_
  | ((with_reducible show GS.En _ _ _ _); first
    | with_reducible refine GS.en_len_l ?_
    | with_reducible refine GS.en_len_t ?_
    | with_reducible refine GS.en_len_str ?_
    | with_reducible refine GS.en_int ?_
    | with_reducible refine GS.en_bool ?_
    | with_reducible refine GS.en_abs ?_
    | with_reducible refine GS.en_str ?_
    | with_reducible refine GS.en_strL ?_
    | with_reducible refine GS.en_gcd ?_
    | with_reducible refine GS.en_list_l ?_
    | with_reducible refine GS.en_list_t ?_
    | with_reducible refine GS.en_tuple_l ?_)
  | with_reducible refine GS.ex_bl ?_
  | with_reducible refine GS.ex_str ?_
  | with_reducible refine GS.ex_int ?_
  | with_reducible refine GS.ex_v ?_
  | with_reducible refine GS.ex_two ?_
  | with_reducible refine GS.ex_lst ?_
  | with_reducible refine GS.ex_tup ?_
  | with_reducible refine GS.ex_lst1 ?_
  | with_reducible refine GS.ex_truS ?_
  | ((with_reducible show ∃ _, GS.TruS _ _ ∧ _); refine GS.ex_tru rfl ?_)
  | with_reducible refine GS.eo_no ?_
  | with_reducible refine GS.eo_yes ?_
  | with_reducible refine GS.e3_list ?_
  | with_reducible refine GS.e3_str ?_
  | with_reducible refine GS.ej_cons ?_
  | with_reducible refine GS.ej_nil ?_
  | with_reducible refine GS.em_split ?_
  | with_reducible refine GS.em_starts ?_
  | ((with_reducible show GS.Ei _ _ _ _); first
    | with_reducible refine GS.ei_list ?_
    | with_reducible refine GS.ei_tup ?_
    | with_reducible refine GS.ei_str ?_
    | with_reducible refine GS.ei_enum ?_
    | with_reducible refine GS.ei_zip ?_
    | with_reducible refine GS.ei_range1 ?_
    | with_reducible refine GS.ei_range2 ?_)
  | ((with_reducible show _ ∧ _); first
    | ((with_reducible refine And.intro ?_ ?_); (with_reducible assumption))
    | ((with_reducible refine GS.sz_and ?_ ?_); exact rfl)
    | ((with_reducible refine GS.cnd_t ?_ ?_); exact rfl)
    | ((with_reducible refine GS.cnd_f ?_ ?_); exact rfl))
  | ((with_reducible show GS.En _ (L2.rIsi _) _ _); first
    | ((with_reducible apply isi_int (by with_reducible assumption)); (first | with_reducible assumption | exact knd_int | exact knd_bl | exact knd_str | exact knd_non | exact knd_lst | exact knd_tup | exact knd_rat (by assumption)))
    | ((with_reducible apply isi_bool (by with_reducible assumption)); (first | with_reducible assumption | exact knd_int | exact knd_bl | exact knd_str | exact knd_non | exact knd_lst | exact knd_tup | exact knd_rat (by assumption)))
    | ((with_reducible apply isi_str (by with_reducible assumption)); (first | with_reducible assumption | exact knd_int | exact knd_bl | exact knd_str | exact knd_non | exact knd_lst | exact knd_tup | exact knd_rat (by assumption)))
    | ((with_reducible apply isi_tuple (by with_reducible assumption)); (first | with_reducible assumption | exact knd_int | exact knd_bl | exact knd_str | exact knd_non | exact knd_lst | exact knd_tup | exact knd_rat (by assumption)))
    | ((with_reducible apply isi_list (by with_reducible assumption)); (first | with_reducible assumption | exact knd_int | exact knd_bl | exact knd_str | exact knd_non | exact knd_lst | exact knd_tup | exact knd_rat (by assumption)))
    | ((with_reducible apply isi_rat (by with_reducible assumption)); (first | with_reducible assumption | exact knd_int | exact knd_bl | exact knd_str | exact knd_non | exact knd_lst | exact knd_tup | exact knd_rat (by assumption))))
  | (with_reducible refine ev_top (by with_reducible assumption) ?_)
  | (with_reducible refine ev_bot (by with_reducible assumption) ?_)
  | with_reducible refine ex_rat ?_
  | with_reducible refine GS.ev_call (E := L2.E0) GS.XOk.no ?_
  | with_reducible refine GS.ev_call GS.XOk.own ?_
  | ((with_reducible show GS.Callx _ _ _ _ _); first
    | ((with_reducible apply use_integral); (first | with_reducible assumption | exact knd_int | exact knd_bl | exact knd_str | exact knd_non | exact knd_lst | exact knd_tup | exact knd_rat (by assumption)))
    | ((with_reducible apply use_parts); first | with_reducible assumption | exact num_rat | exact num_int)
    | ((with_reducible refine use_digits ?_ ?_); with_reducible assumption)
    | ((with_reducible refine use_intof ?_ ?_); with_reducible assumption)
    | ((with_reducible refine use_frac ?_ ?_); with_reducible assumption)
    | with_reducible refine use_gcd ?_
    | with_reducible refine use_isR ?_
    | ((with_reducible apply use_repr); (with_reducible assumption))
    | with_reducible refine use_bool ?_
    | ((with_reducible apply use_num); (with_reducible assumption))
    | ((with_reducible apply use_text); (with_reducible assumption))
    | with_reducible refine use_same_str ?_
    | with_reducible refine use_same_bl ?_
    | with_reducible refine use_same_l3 ?_
    | with_reducible refine use_same_t2 ?_
    | ((with_reducible apply use_right); (with_reducible assumption))
    | ((with_reducible apply use_low); (with_reducible assumption); (with_reducible assumption)))
  | with_reducible refine GS.ev_make (E := L2.E0) GS.XOk.no ?_
  | with_reducible refine GS.ev_make GS.XOk.own ?_
  | ((with_reducible show L2.CMulW _ _ ∧ _); refine And.intro (cmw (by with_reducible assumption) (by with_reducible assumption)) ?_)
  | ((with_reducible refine use_init ?_ ?_ ?_); (with_reducible assumption); (with_reducible assumption))
  | with_reducible refine ex_insR ?_
  | ((with_reducible refine ev_methR ?_ ?_); (with_unfolding_all decide))
  | with_reducible refine exR_and ?_
  | with_reducible refine e2_eqR (by with_reducible assumption) ?_
  | with_reducible refine e2_eqI (by with_reducible assumption) ?_
  | with_reducible refine ixPr0 ?_
  | with_reducible refine ixPr1 ?_
  | with_reducible refine GS.en_ownReprG GS.XOk.no insRt ?_
  | with_reducible refine GS.en_ownBoolG GS.XOk.no insRt ?_
  | ((with_reducible show (0 : Int) < _ ∧ _); (refine And.intro ?_ ?_); (first | decide | assumption | omega))
  | ((with_reducible show L2.CPow _ _ ∧ _); refine And.intro ⟨by decide, by decide, by decide⟩ ?_)
  | ((with_reducible show L2.CMul _ _ ∧ _); (refine And.intro ?_ ?_); first | exact .inr ⟨by decide, by decide⟩ | exact .inl ⟨by decide, by decide⟩ | exact .inr ⟨by omega, by omega⟩ | exact .inl ⟨by omega, by omega⟩)
  | with_reducible refine GS.ev_prop GS.XOk.no ?_))

def fsOrd (C : Addr) : Fs := fun _ l S => ∃ r t, l = [Rt C r, Rt C t, Pr r, Pr t] ∧ SzR 100 r ∧ SzR 100 t ∧ S (.ret (.bl true))
theorem ok_order {f : Addr} {fd : FuncData} (F : Fun K "_law_order_right" "_law_order_right" s__law_order_right f fd) (T : Tx P K mg C Co fo) (d__law_same : Df P w K mg base CX0 2 "_law_same" [] (SpS fsSame0))
    (d_below : DfM P w K mg base (L2.CX P w) 6 C "below" (SpS (fsBelow C))) (d_eq : DfO P w K mg base CX0 1 C "__eq__" (SpS (fsEq K C))) : FnOk P w K mg base CX0 8 f fd ["x", "y", "p", "q"] (SpS (fsOrd C)) := by
  refine fun_okS F sc__law_order_right (fun M l S ⟨_, _, e, _⟩ => e ▸ rfl) fun cdv A outer s H E hr => ?_
  refine ⟨_, (pss_cons (ps_set (i := 4) sc__law_order_right.nd rfl (Or.inl rfl) (pe_op op_sub (pe_op op_mulW (pe_ix (r := rIxT K) ix_tup (pv 2) pe_int (fun _ _ => rfl)) (pe_ix (r := rIxT K) ix_tup (pv 3) pe_int (fun _ _ => rfl))) (pe_op op_mulW (pe_ix (r := rIxT K) ix_tup (pv 3) pe_int (fun _ _ => rfl)) (pe_ix (r := rIxT K) ix_tup (pv 2) pe_int (fun _ _ => rfl)))))
      (pss_cons (ps_if (PW.pt (pw_or (pt_not (pt_val (pe_df d__law_same hr (by decide) pass0 (pa_cons (pe_dfM d_below hr (by decide) passL (pv 0) (pa_cons (pv 1) pa_nil)) (pa_cons (pe_cmpR op_lt (pv 4) pe_int (nomark _)) pa_nil))))) (pw_or1 (pt_not (pt_val (pe_df d__law_same hr (by decide) pass0 (pa_cons (pe_dfM d_below hr (by decide) passL (pv 1) (pa_cons (pv 0) pa_nil)) (pa_cons (pe_cmpR op_gt (pv 4) pe_int (nomark _)) pa_nil)))))))) (pss_one (ps_ret pe_bl)) pss_nil)
      (pss_cons (ps_for PassesOwn.never rfl (pi_list (pe_lst (pa_cons (pe_op op_fdivW (pe_ix (r := rIxT K) ix_tup (pv 2) pe_int (fun _ _ => rfl)) (pe_ix (r := rIxT K) ix_tup (pv 2) pe_int (fun _ _ => rfl))) (pa_cons (pe_op op_add (pe_op op_fdivW (pe_ix (r := rIxT K) ix_tup (pv 2) pe_int (fun _ _ => rfl)) (pe_ix (r := rIxT K) ix_tup (pv 2) pe_int (fun _ _ => rfl))) pe_int) (pa_cons pe_int (pa_cons (pe_op op_sub pe_int (pe_ix (r := rIxT K) ix_tup (pv 2) pe_int (fun _ _ => rfl))) pa_nil)))))) (pg_name (i := 5) sc__law_order_right.nd rfl (Or.inl rfl)) (pss_one (ps_if (PW.pt (pw_or (pt_not (pt_val (pe_df d__law_same hr (by decide) pass0 (pa_cons (pe_dfM d_below hr (by decide) passL (pv 0) (pa_cons (pv 5) pa_nil)) (pa_cons (pe_cmpR op_lt (pe_ix (r := rIxT K) ix_tup (pv 2) pe_int (fun _ _ => rfl)) (pe_op op_mulW (pv 5) (pe_ix (r := rIxT K) ix_tup (pv 2) pe_int (fun _ _ => rfl))) (nomark _)) pa_nil))))) (pw_or1 (pt_not (pt_val (pe_df d__law_same hr (by decide) pass0 (pa_cons (pe_cmpR (op_dfEq d_eq hr (by decide) pass0) (pv 0) (pv 5) (nomark _)) (pa_cons pe_bl pa_nil)))))))) (pss_one (ps_ret pe_bl)) pss_nil)))
      (pss_one (ps_ret (pe_and (pe_df d__law_same hr (by decide) pass0 (pa_cons (pe_cmpR (op_dfEq d_eq hr (by decide) pass0) (pv 0) (pv 1) (nomark _)) (pa_cons (pe_cmpR op_eq (pv 4) pe_int (nomark _)) pa_nil))) (pe_one (pe_df d__law_same hr (by decide) pass0 (pa_cons (pe_cmpR (op_dfEq d_eq hr (by decide) pass0) (pv 1) (pv 0) (nomark _)) (pa_cons (pe_cmpR op_eq (pv 4) pe_int (nomark _)) pa_nil)))))))))), ?_⟩
  rintro M l S ⟨r, t, rfl, hr0, ht0, k⟩
  show B _ _ _ _ _ _ _
  try simp only [cxK, cxKn]
  have hr := hr0.mono (m := 4000) (by decide)
  have ht := ht0.mono (m := 4000) (by decide)
  obtain ⟨h1, h2⟩ := hr
  obtain ⟨h3, h4⟩ := ht
  have hr := hr0.mono (m := 4000) (by decide)
  have ht := ht0.mono (m := 4000) (by decide)
  walk_at "k"
  refine use_below num_rat hr ht ?_
  walk_at "k"
  refine use_same_blE (by rw [Bool.eq_iff_iff, decide_eq_true_iff, decide_eq_true_iff]; omega) ?_
  walk_at "k"
  refine use_below num_rat ht hr ?_
  walk_at "k"
  refine use_same_blE (by rw [Bool.eq_iff_iff, decide_eq_true_iff, decide_eq_true_iff]; omega) ?_
  walk_at "k"
  have hdv : CDivW r.num (r.den : Int) := ⟨den_pos r, Nat.lt_trans (hr0.2.log (by decide)) (by decide)⟩
  refine b_for ?_
  walk_at "k"
  have hq : Sz 100 (r.num / (r.den : Int)) := by
    refine Nat.lt_of_le_of_lt ?_ hr0.1
    first | exact Int.natAbs_ediv_le_natAbs _ _ | exact Int.natAbs_div_le_natAbs _ _
  have one : Sz 100 (1 : Int) := Nat.one_lt_two_pow (by decide)
  have zero : Sz 100 (0 : Int) := Nat.pow_pos (by decide)
  refine ⟨fun _ ss => ∃ o, ss = [some (Rt C r), some (Rt C t), some (Pr r), some (Pr t), some (.int (r.num * t.den - t.num * r.den)), o], ⟨none, rfl⟩, ?_, ?_⟩
  · rintro i s ss1 hi ⟨o, rfl⟩
    obtain ⟨n, rfl, hn⟩ : ∃ n : Int, s = .int n ∧ Sz 101 n := by
      have hi4 : i < 4 := by
        have z := (List.getElem?_eq_some_iff.mp hi).1
        simpa using z
      match i, hi4 with
      | 0, _ => cases hi; exact ⟨_, rfl, hq.mono (by decide)⟩
      | 1, _ => cases hi; exact ⟨_, rfl, hq.add one (by decide) (by decide)⟩
      | 2, _ => cases hi; exact ⟨_, rfl, zero.mono (by decide)⟩
      | 3, _ => cases hi; exact ⟨_, rfl, zero.sub hr0.1 (by decide) (by decide)⟩
    have hn4 : Sz 4000 n := hn.mono (by decide)
    have hnr : SzR 4000 ((n : Int) : Rat) := ⟨hn4, Nat.one_lt_two_pow (by decide)⟩
    walk_at "k"
    refine use_below (t := ((n : Int) : Rat)) num_int hr hnr ?_
    walk_at "k"
    refine use_same_blE (by
      rw [Bool.eq_iff_iff, decide_eq_true_iff, decide_eq_true_iff]
      show r.num * ((1 : Nat) : Int) < n * r.den ↔ r.num < n * r.den
      simp) ?_
    walk_at "k"
    exact ⟨_, rfl⟩
  · rintro ss1 ⟨o, rfl⟩
    walk_at "k"
    have e : ∀ a b : Rat, (a = b ↔ a.num * b.den - b.num * a.den = 0) := fun a b => by
      constructor
      · intro h
        rw [h]
        omega
      · intro h
        have h2 : a.num * b.den = b.num * a.den := by omega
        rw [← Rat.num_divInt_den a, ← Rat.num_divInt_den b, Rat.divInt_eq_divInt_iff (den_ne a) (den_ne b)]
        exact h2
    refine use_same_blE (by
      rw [Bool.eq_iff_iff, decide_eq_true_iff, decide_eq_true_iff, e r t]
      simp) ?_
    walk_at "k"
    refine use_same_blE (by
      rw [Bool.eq_iff_iff, decide_eq_true_iff, decide_eq_true_iff, e t r]
      constructor
      · intro h
        congr 1
        omega
      · intro h
        injection h with h
        omega) ?_
    walk_at "k"
    exact k
end
end KP

/-! K12X -/
set_option Elab.async false
set_option Elab.async false
set_option linter.all false
set_option maxRecDepth 100000
set_option maxHeartbeats 4000000
/-! A fraction's text, read back. -/
namespace KP
open PySem PySem.Spec PyProof.Rows L2 GM GS TL
theorem numL_head {n : Nat} (h : (numL n).head? = some 48) : n = 0 := by
  induction n using Nat.strongRecOn with
  | _ n ih =>
    by_cases hn : n < 10
    · rw [numL_lt hn] at h
      have h := Option.some.inj h
      omega
    · rw [numL_step (by omega)] at h
      have hne := numL_ne (n / 10)
      have e : (numL (n / 10) ++ [48 + n % 10]).head? = (numL (n / 10)).head? := by
        cases hl : numL (n / 10) with
        | nil => exact absurd hl hne
        | cons c r => rfl
      rw [e] at h
      have := ih (n / 10) (by omega) h
      omega
theorem isDig_num {n : Nat} (h : n < 10 ^ 1000) : isDigL (numL n) = true := by
  have h1 := numL_len (k := 1000) (by decide) h
  have h2 := numL_digits n
  have h3 := numL_ne n
  have e : (Str.ofString "0123456789").cps.toList = [48, 49, 50, 51, 52, 53, 54, 55, 56, 57] := by decide +kernel
  unfold isDigL
  simp only [Bool.and_eq_true]
  refine ⟨⟨⟨by simpa using h3, decide_eq_true h1⟩, ?_⟩, List.all_eq_true.mpr fun c hc => ?_⟩
  · rw [Bool.not_eq_true', Bool.and_eq_false_iff]
    by_cases h0 : n = 0
    · refine .inr (decide_eq_false ?_)
      rw [h0, numL_lt (by decide)]
      simp
    · exact .inl (decide_eq_false fun z => h0 (numL_head z))
  · unfold isd
    rw [e]
    have := h2 c hc
    refine decide_eq_true ?_
    simp only [List.mem_cons, List.not_mem_nil, or_false]
    omega
theorem tl_nt_nat (n : Nat) : tl (nt (n : Int)) = numL n := tl_num n
theorem tl_nt_neg (m : Nat) : tl (nt (Int.negSucc m)) = 45 :: numL (m + 1) := by
  unfold nt
  have e : toString (Int.negSucc m) = "-" ++ Nat.repr (m + 1) := rfl
  have e2 : toString ((m + 1 : Nat) : Int) = Nat.repr (m + 1) := rfl
  rw [e, tl_ofString, String.toList_append, List.map_append]
  have e3 := tl_num (m + 1)
  rw [e2, tl_ofString] at e3
  rw [e3]
  rfl
theorem sz10 {i : Int} (h : Sz 3000 i) : i.natAbs < 10 ^ 1000 := Nat.lt_of_lt_of_le h (by decide +kernel)
theorem intOf_nt {i : Int} (h : Sz 3000 i) : intOfL (tl (nt i)) = some i := by
  cases i with
  | ofNat n =>
    have hn : n < 10 ^ 1000 := sz10 h
    rw [show tl (nt (Int.ofNat n)) = numL n from tl_nt_nat n]
    unfold intOfL
    have h45 : (numL n).head? ≠ some 45 := fun z => by
      cases hl : numL n with
      | nil => exact numL_ne n hl
      | cons c r =>
        rw [hl] at z
        have z := Option.some.inj z
        have := numL_digits n c (by rw [hl]; exact List.mem_cons_self)
        omega
    rw [if_neg h45, if_pos (isDig_num hn), numL_val]
    rfl
  | negSucc m =>
    have hn : m + 1 < 10 ^ 1000 := sz10 h
    rw [tl_nt_neg]
    unfold intOfL
    rw [if_pos (show (45 :: numL (m + 1)).head? = some 45 from rfl)]
    show (if isDigL (numL (m + 1)) = true then if numL (m + 1) = [48] then none else some (-((NumText.digitsVal (numL (m + 1)) : Nat) : Int)) else none) = _
    rw [if_pos (isDig_num hn), if_neg, numL_val]
    · rfl
    · intro z
      have := numL_head (n := m + 1) (by rw [z]; rfl)
      omega
theorem nt_free {i : Int} : 47 ∉ tl (nt i) := by
  cases i with
  | ofNat n =>
    rw [show tl (nt (Int.ofNat n)) = numL n from tl_nt_nat n]
    exact numL_free (.inl (by decide))
  | negSucc m =>
    rw [tl_nt_neg]
    intro z
    rcases List.mem_cons.mp z with e | e
    · cases e
    · exact numL_free (.inl (by decide)) e
theorem tl_txt1 {r : Rat} (h : r.den = 1) : tl (txt r) = tl (nt r.num) := by unfold txt; rw [if_pos h]
theorem tl_txt2 {r : Rat} (h : r.den ≠ 1) : tl (txt r) = tl (nt r.num) ++ ([47] ++ tl (nt r.den)) := by
  unfold txt
  rw [if_neg h, tl_append, tl_append, tl_append]
  have e1 : tl (Str.ofString "/") = [47] := by decide +kernel
  rw [e1]
  show ([] ++ tl (nt r.num)) ++ [47] ++ _ = _
  rw [List.nil_append, List.append_assoc]
theorem frac_txt {r : Rat} (hs : SzR 3000 r) : fracL (tl (txt r)) = some (r.num, (r.den : Int)) := by
  unfold fracL
  by_cases h : r.den = 1
  · rw [tl_txt1 h, spl_last1 nt_free]
    show (intOfL ([] ++ tl (nt r.num))).map (fun t => (t, (1 : Int))) = _
    rw [List.nil_append, intOf_nt hs.1, h]
    rfl
  · rw [tl_txt2 h]
    have e : spl [47] 0 [] (tl (nt r.num) ++ ([47] ++ tl (nt r.den))) = [tl (nt r.num), tl (nt r.den)] := by
      have z := spl_part1 (s := 47) (S := []) (rest := tl (nt (r.den : Int))) (acc := []) (nt_free (i := r.num))
      rw [show (47 :: [] ++ tl (nt (r.den : Int))) = [47] ++ tl (nt (r.den : Int)) from rfl] at z
      rw [z, spl_last1 nt_free, List.nil_append, List.nil_append]
    rw [e]
    show (intOfL (tl (nt r.num))).bind (fun t => (intOfL (tl (nt r.den))).bind fun u => if u < 2 ∨ Nat.gcd t.natAbs u.natAbs ≠ 1 then none else some (t, u)) = _
    rw [intOf_nt hs.1, intOf_nt hs.2]
    show (if (r.den : Int) < 2 ∨ Nat.gcd r.num.natAbs (r.den : Int).natAbs ≠ 1 then none else some (r.num, (r.den : Int))) = _
    rw [if_neg]
    rintro (z | z)
    · have := r.den_nz
      omega
    · exact z r.reduced
end KP

/-! K12W -/
set_option Elab.async false
set_option Elab.async false
set_option linter.all false
set_option maxRecDepth 100000
set_option maxHeartbeats 4000000
namespace KP
open PySem PySem.Spec PyProof.Rows L2 GM GS
local macro_rules | `(tactic| walk_at "sh") => `(tactic| repeat (first
  | ((with_reducible show GS.Ev _ _ _ _); first
    | with_reducible refine GS.ev_c ?_
    | ((with_reducible show GS.Ev _ (L2.tVar _) _ _); refine GS.ev_var rfl ?_)
    | with_reducible refine GS.ev_op ?_
    | with_reducible refine GS.ev_cb ?_
    | with_reducible refine GS.ev_un ?_
    | with_reducible refine GS.ev_tup ?_
    | with_reducible refine GS.ev_lst ?_
    | with_reducible refine GS.ev_if ?_
    | with_reducible refine GS.ev_andV ?_
    | with_reducible refine GS.ev_orV ?_
    | with_reducible refine GS.ev_notV ?_
    | with_reducible refine GS.ev_sl ?_
    | with_reducible refine GS.ev_fmtS ?_
    | with_reducible refine GS.ev_fmtL ?_
    | with_reducible refine GS.ev_joined ?_
    | with_reducible refine GS.ev_m1 ?_)
  | ((with_reducible show GS.E2 _ _ _ _ _); first
    | with_reducible refine GS.e2_I0 ?_
    | with_reducible refine GS.e2_I ?_
    | ((with_reducible refine GS.e2_eq ?_ ?_); exact rfl)
    | ((with_reducible refine GS.e2_ne ?_ ?_); exact rfl)
    | with_reducible refine GS.e2_isN ?_
    | with_reducible refine GS.e2_notN ?_
    | ((with_reducible show GS.E2 _ (L2.rIxL _) _ _ _); refine GS.e2_ixL rfl ?_)
    | ((with_reducible show GS.E2 _ (L2.rIxT _) _ _ _); refine GS.e2_ixT rfl ?_)
    | ((with_reducible show GS.E2 _ (L2.rIx _) (GS.Sh.lst _) _ _); refine GS.e2_ix_l rfl ?_)
    | ((with_reducible show GS.E2 _ (L2.rIx _) (GS.Sh.tup _) _ _); refine GS.e2_ix_t rfl ?_)
    | with_reducible refine GS.e2_cat ?_
    | with_reducible refine GS.e2_addS ?_
    | with_reducible refine GS.e2_inSign ?_)
  | ((with_reducible show GS.Ea _ _ _ _); first
    | with_reducible refine GS.ea_cons ?_
    | with_reducible refine GS.ea_nil ?_)
  | ((with_reducible show GS.Et _ _ _ _); first
    | with_reducible refine GS.et_B ?_
    | with_reducible refine GS.et_test ?_
    | with_reducible refine GS.et_not ?_
    | with_reducible refine GS.et_and ?_
    | with_reducible refine GS.et_or ?_
    | with_reducible refine GS.et_yes ?_
    | with_reducible refine GS.et_tru ?_)
  | ((with_reducible show GS.B _ _ _ _ _ _ _); first
    | with_reducible refine GS.b_seq ?_
    | with_reducible refine GS.b_if ?_
    | with_reducible refine GS.b_ret ?_
    | with_reducible refine GS.b_asg ?_
    | with_reducible refine GS.b_drop ?_
    | with_reducible refine GS.b_next ?_
    | with_reducible refine GS.b_par ?_
    | with_reducible refine GS.b_raise (fun _ => rfl) ?_)
  | with_reducible refine GS.eg_name ?_
  | with_reducible refine GS.egs_cons ?_
  | with_reducible refine GS.egs_nil ?_
  | ((with_reducible refine GS.eg_tup ?_ ?_); exact rfl)
  | with_reducible refine GS.e1_U ?_
  | ((with_reducible show GS.En _ _ _ _); first
    | with_reducible refine GS.en_len_l ?_
    | with_reducible refine GS.en_len_t ?_
    | with_reducible refine GS.en_len_str ?_
    | with_reducible refine GS.en_int ?_
    | with_reducible refine GS.en_bool ?_
    | with_reducible refine GS.en_abs ?_
    | with_reducible refine GS.en_str ?_
    | with_reducible refine GS.en_strL ?_
    | with_reducible refine GS.en_gcd ?_
    | with_reducible refine GS.en_list_l ?_
    | with_reducible refine GS.en_list_t ?_
    | with_reducible refine GS.en_tuple_l ?_)
  | with_reducible refine GS.ex_bl ?_
  | with_reducible refine GS.ex_str ?_
  | with_reducible refine GS.ex_int ?_
  | with_reducible refine GS.ex_v ?_
  | with_reducible refine GS.ex_two ?_
  | with_reducible refine GS.ex_lst ?_
  | with_reducible refine GS.ex_tup ?_
  | with_reducible refine GS.ex_lst1 ?_
  | with_reducible refine GS.ex_truS ?_
  | ((with_reducible show ∃ _, GS.TruS _ _ ∧ _); refine GS.ex_tru rfl ?_)
  | with_reducible refine GS.eo_no ?_
  | with_reducible refine GS.eo_yes ?_
  | with_reducible refine GS.e3_list ?_
  | with_reducible refine GS.e3_str ?_
  | with_reducible refine GS.ej_cons ?_
  | with_reducible refine GS.ej_nil ?_
  | with_reducible refine GS.em_split ?_
  | with_reducible refine GS.em_starts ?_
  | ((with_reducible show GS.Ei _ _ _ _); first
    | with_reducible refine GS.ei_list ?_
    | with_reducible refine GS.ei_tup ?_
    | with_reducible refine GS.ei_str ?_
    | with_reducible refine GS.ei_enum ?_
    | with_reducible refine GS.ei_zip ?_
    | with_reducible refine GS.ei_range1 ?_
    | with_reducible refine GS.ei_range2 ?_)
  | ((with_reducible show _ ∧ _); first
    | ((with_reducible refine And.intro ?_ ?_); (with_reducible assumption))
    | ((with_reducible refine GS.sz_and ?_ ?_); exact rfl)
    | ((with_reducible refine GS.cnd_t ?_ ?_); exact rfl)
    | ((with_reducible refine GS.cnd_f ?_ ?_); exact rfl))))

section
variable {P : Program} {w : World} {K : PySem.W.Frag} {mg : Str → Option Value} {base : Heap} {C Co fo : Addr} {j : J} {q : Sh → Prop} {x : Sh} {a : Ty0} {ex : Addr → List (Str × V) → Prop}

/-- Ratio(t, b) is r -/
structure Mk1 (t b : Int) (r : Rat) : Prop where
  nz : b ≠ 0
  sz : Sz 9000 b
  eq : Rat.divInt t b = r
theorem Mk1.self {r : Rat} (h : Sz 9000 (r.den : Int)) : Mk1 r.num r.den r := ⟨den_ne r, h, Rat.num_divInt_den r⟩
theorem Mk1.of {t b : Int} {r x : Rat} (m : Mk1 t b r) (e : r = x) : Mk1 t b x := e ▸ m
theorem use_mk2 {t b : Int} {r : Rat} {M : Mode} (m : Mk1 t b r) (k : q (Rt C r)) : fsInit K C Co M ([.int t, .int b] ++ List.map Sh.v []) fun oc => (∀ r, oc = .ret r → ∃ ns l, r = .ins C ns l) ∧ oc.fin q ex :=
  .inl ⟨t, b, rfl, m.nz, m.sz, fun r e => by cases e; exact ⟨_, _, rfl⟩, by rw [m.eq]; exact k⟩
theorem use_mk1 {t : Int} {r : Rat} {M : Mode} (m : Mk1 t 1 r) (k : q (Rt C r)) : fsInit K C Co M ([.int t] ++ List.map Sh.v [V.int 1]) fun oc => (∀ r, oc = .ret r → ∃ ns l, r = .ins C ns l) ∧ oc.fin q ex :=
  .inl ⟨t, 1, rfl, m.nz, m.sz, fun r e => by cases e; exact ⟨_, _, rfl⟩, by rw [m.eq]; exact k⟩
theorem arith {g : Rat → Rat → Rat} {r t : Rat} {y : Sh} (hy : Num C y t) (h1 : SzR 4000 r) (h2 : SzR 4000 t) (k : q (Rt C (g r t))) : Callx j (fsArith C g) [Rt C r, y] q ex := callx_of ⟨r, y, t, rfl, hy, h1, h2, k⟩
theorem e2_add {r t : Rat} (h1 : SzR 4000 r) (h2 : SzR 4000 t) (k : q (Rt C (r + t))) : E2 j (rOwnB C (SpS (fsArith C (· + ·))) E0) (Rt C r) (Rt C t) q := e2_ownG XOk.no insRt (.inl insRt) (arith num_rat h1 h2 k)
theorem e2_sub {r t : Rat} (h1 : SzR 4000 r) (h2 : SzR 4000 t) (k : q (Rt C (r - t))) : E2 j (rOwnB C (SpS (fsArith C (· - ·))) E0) (Rt C r) (Rt C t) q := e2_ownG XOk.no insRt (.inl insRt) (arith num_rat h1 h2 k)
theorem e2_mul {r t : Rat} (h1 : SzR 4000 r) (h2 : SzR 4000 t) (k : q (Rt C (r * t))) : E2 j (rOwnB C (SpS (fsArith C (· * ·))) E0) (Rt C r) (Rt C t) q := e2_ownG XOk.no insRt (.inl insRt) (arith num_rat h1 h2 k)
theorem szI {n : Int} (h : Sz 4000 n) : SzR 4000 ((n : Int) : Rat) := ⟨h, Nat.one_lt_two_pow (by decide)⟩
theorem e2_addI {r : Rat} {n : Int} (h1 : SzR 4000 r) (h2 : Sz 4000 n) (k : q (Rt C (r + (n : Rat)))) : E2 j (rOwnB C (SpS (fsArith C (· + ·))) E0) (Rt C r) (.v (.int n)) q := e2_ownG XOk.no insRt (.inr ⟨n, rfl⟩) (arith num_int h1 (szI h2) k)
theorem e2_subI {r : Rat} {n : Int} (h1 : SzR 4000 r) (h2 : Sz 4000 n) (k : q (Rt C (r - (n : Rat)))) : E2 j (rOwnB C (SpS (fsArith C (· - ·))) E0) (Rt C r) (.v (.int n)) q := e2_ownG XOk.no insRt (.inr ⟨n, rfl⟩) (arith num_int h1 (szI h2) k)
theorem e2_mulI {r : Rat} {n : Int} (h1 : SzR 4000 r) (h2 : Sz 4000 n) (k : q (Rt C (r * (n : Rat)))) : E2 j (rOwnB C (SpS (fsArith C (· * ·))) E0) (Rt C r) (.v (.int n)) q := e2_ownG XOk.no insRt (.inr ⟨n, rfl⟩) (arith num_int h1 (szI h2) k)
theorem e1_neg {r : Rat} (h : SzR 4000 r) (k : q (Rt C (-r))) : E1 j (rOwnU C (SpS (fsNeg C)) E0) (Rt C r) q := e1_ownG XOk.no insRt (callx_of ⟨r, rfl, h.mono (by decide), k⟩)
theorem use_plus {r t : Rat} (h1 : SzR 4000 r) (h2 : SzR 4000 t) (k : q (Pr (r + t))) : Callx j (fsArP (· + ·)) ([Pr r, Pr t] ++ List.map Sh.v []) q ex := callx_of ⟨r, t, rfl, h1, h2, k⟩
theorem pr_neg {t : Rat} : Sh.tup [.int (0 - t.num), .int (t.den : Int)] = Pr (-t) := by
  unfold Pr
  rw [Rat.neg_num, Rat.neg_den, Int.zero_sub]
theorem use_plusN {r t : Rat} (h1 : SzR 4000 r) (h2 : SzR 4000 t) (k : q (Pr (r + -t))) : Callx j (fsArP (· + ·)) ([Pr r, .tup [.int (0 - t.num), .int (t.den : Int)]] ++ List.map Sh.v []) q ex := by
  rw [pr_neg]
  exact callx_of ⟨r, -t, rfl, h1, h2.neg, k⟩
theorem use_times {r t : Rat} (h1 : SzR 4000 r) (h2 : SzR 4000 t) (k : q (Pr (r * t))) : Callx j (fsArP (· * ·)) ([Pr r, Pr t] ++ List.map Sh.v []) q ex := callx_of ⟨r, t, rfl, h1, h2, k⟩
theorem use_over {r t : Rat} (h1 : SzR 4000 r) (h2 : SzR 4000 t) (h0 : t ≠ 0) (k : q (Rt C (r / t))) : Callx j (fsOver C Co) [Rt C r, Rt C t] q ex := callx_of ⟨r, _, t, rfl, num_rat, h1, h2, .inl ⟨h0, k⟩⟩
theorem use_overI {r : Rat} {n : Int} (h1 : SzR 4000 r) (h2 : Sz 4000 n) (h0 : n ≠ 0) (k : q (Rt C (r / (n : Rat)))) : Callx j (fsOver C Co) [Rt C r, .v (.int n)] q ex := callx_of ⟨r, _, _, rfl, num_int, h1, szI h2, .inl ⟨fun e => h0 (by have := congrArg Rat.num e; exact this), k⟩⟩
theorem use_read {r : Rat} (h1 : SzR 3000 r) (h2 : SzR 14000 r) (k : q (Rt C r)) : Callx j (fsRead K C Co) [.str (txt r)] q ex :=
  callx_of (.inl ⟨_, rfl, Nat.le_trans (txt_len h2) (by decide), .inl ⟨_, _, frac_txt h1, by rw [Rat.num_divInt_den]; exact k⟩⟩)
theorem ev_readR {ss : SS} {to : TE} {tA : TA} {fs : Fs} (h : Ev j to ss fun o => o = .v (.ref C) ∧ Ea j tA ss fun l => Callx j fs l q (fun _ _ => False)) : Ev j (tSMeth C (SpS fs) E0 to tA) ss q := ev_smeth XOk.no h
theorem cr_and {A : Prop} (k : A) : (Sh.v (.ref C) = Sh.v (.ref C)) ∧ A := ⟨rfl, k⟩
theorem egPr {ss : SS} {gs : TGs} {r : Rat} {qs : SS → Prop} {n : Nat} (hn : 2 = n) (h : Egs j gs [.int r.num, .int (r.den : Int)] ss qs) : Eg j (gTup K n gs) (Pr r) ss qs := eg_tup hn h
theorem cnd_ev {b : Bool} {ta tb : TE} {ss : SS} {Q : Sh → Prop} (P : Sh → Prop) (h : (b = true → Ev j ta ss P) ∧ (b = false → Ev j tb ss P)) (k : ∀ s, P s → Q s) : (b = true → Ev j ta ss Q) ∧ (b = false → Ev j tb ss Q) := ⟨fun z => (h.1 z).mono k, fun z => (h.2 z).mono k⟩
theorem b_mid {ts us : TS} {ss : SS} {rt : Sh → Prop} {nx bk ct : SS → Prop} (Mid : SS → Prop) (h : B j ts ss rt Mid bk ct) (k : ∀ ss1, Mid ss1 → B j us ss1 rt nx bk ct) : B j (tSeq ts us) ss rt nx bk ct := b_seq fun D σ H st xg se g =>
  h D σ H st xg se ⟨g.rt, fun ss1 m1 σ1 H1 s1 se1 => g.nx ss1 (k ss1 m1) σ1 H1 s1 se1, g.bk, g.ct⟩
local macro_rules | `(tactic| walk_at "k") => `(tactic| repeat (first
  | ((with_reducible show GS.Ev _ _ _ _); first
    | with_reducible refine GS.ev_c ?_
    | ((with_reducible show GS.Ev _ (L2.tVar _) _ _); refine GS.ev_var rfl ?_)
    | with_reducible refine GS.ev_op ?_
    | with_reducible refine GS.ev_cb ?_
    | with_reducible refine GS.ev_un ?_
    | with_reducible refine GS.ev_tup ?_
    | with_reducible refine GS.ev_lst ?_
    | with_reducible refine GS.ev_if ?_
    | with_reducible refine GS.ev_andV ?_
    | with_reducible refine GS.ev_orV ?_
    | with_reducible refine GS.ev_notV ?_
    | with_reducible refine GS.ev_sl ?_
    | with_reducible refine GS.ev_fmtS ?_
    | with_reducible refine GS.ev_fmtL ?_
    | with_reducible refine GS.ev_joined ?_
    | with_reducible refine GS.ev_m1 ?_)
  | ((with_reducible show GS.E2 _ _ _ _ _); first
    | with_reducible refine GS.e2_I0 ?_
    | with_reducible refine GS.e2_I ?_
    | ((with_reducible refine GS.e2_eq ?_ ?_); exact rfl)
    | ((with_reducible refine GS.e2_ne ?_ ?_); exact rfl)
    | with_reducible refine GS.e2_isN ?_
    | with_reducible refine GS.e2_notN ?_
    | ((with_reducible show GS.E2 _ (L2.rIxL _) _ _ _); refine GS.e2_ixL rfl ?_)
    | ((with_reducible show GS.E2 _ (L2.rIxT _) _ _ _); refine GS.e2_ixT rfl ?_)
    | ((with_reducible show GS.E2 _ (L2.rIx _) (GS.Sh.lst _) _ _); refine GS.e2_ix_l rfl ?_)
    | ((with_reducible show GS.E2 _ (L2.rIx _) (GS.Sh.tup _) _ _); refine GS.e2_ix_t rfl ?_)
    | with_reducible refine GS.e2_cat ?_
    | with_reducible refine GS.e2_addS ?_
    | with_reducible refine GS.e2_inSign ?_)
  | ((with_reducible show GS.Ea _ _ _ _); first
    | with_reducible refine GS.ea_cons ?_
    | with_reducible refine GS.ea_nil ?_)
  | ((with_reducible show GS.Et _ _ _ _); first
    | with_reducible refine GS.et_B ?_
    | with_reducible refine GS.et_test ?_
    | with_reducible refine GS.et_not ?_
    | with_reducible refine GS.et_and ?_
    | with_reducible refine GS.et_or ?_
    | with_reducible refine GS.et_yes ?_
    | with_reducible refine GS.et_tru ?_)
  | ((with_reducible show GS.B _ _ _ _ _ _ _); first
    | with_reducible refine GS.b_seq ?_
    | with_reducible refine GS.b_if ?_
    | with_reducible refine GS.b_ret ?_
    | with_reducible refine GS.b_asg ?_
    | with_reducible refine GS.b_drop ?_
    | with_reducible refine GS.b_next ?_
    | with_reducible refine GS.b_par ?_
    | with_reducible refine GS.b_raise (fun _ => rfl) ?_)
  | with_reducible refine GS.eg_name ?_
  | with_reducible refine GS.egs_cons ?_
  | with_reducible refine GS.egs_nil ?_
  | ((with_reducible refine GS.eg_tup ?_ ?_); exact rfl)
  | with_reducible refine GS.e1_U ?_
  | ((with_reducible show GS.En _ _ _ _); first
    | with_reducible refine GS.en_len_l ?_
    | with_reducible refine GS.en_len_t ?_
    | with_reducible refine GS.en_len_str ?_
    | with_reducible refine GS.en_int ?_
    | with_reducible refine GS.en_bool ?_
    | with_reducible refine GS.en_abs ?_
    | with_reducible refine GS.en_str ?_
    | with_reducible refine GS.en_strL ?_
    | with_reducible refine GS.en_gcd ?_
    | with_reducible refine GS.en_list_l ?_
    | with_reducible refine GS.en_list_t ?_
    | with_reducible refine GS.en_tuple_l ?_)
  | with_reducible refine GS.ex_bl ?_
  | with_reducible refine GS.ex_str ?_
  | with_reducible refine GS.ex_int ?_
  | with_reducible refine GS.ex_v ?_
  | with_reducible refine GS.ex_two ?_
  | with_reducible refine GS.ex_lst ?_
  | with_reducible refine GS.ex_tup ?_
  | with_reducible refine GS.ex_lst1 ?_
  | with_reducible refine GS.ex_truS ?_
  | ((with_reducible show ∃ _, GS.TruS _ _ ∧ _); refine GS.ex_tru rfl ?_)
  | with_reducible refine GS.eo_no ?_
  | with_reducible refine GS.eo_yes ?_
  | with_reducible refine GS.e3_list ?_
  | with_reducible refine GS.e3_str ?_
  | with_reducible refine GS.ej_cons ?_
  | with_reducible refine GS.ej_nil ?_
  | with_reducible refine GS.em_split ?_
  | with_reducible refine GS.em_starts ?_
  | ((with_reducible show GS.Ei _ _ _ _); first
    | with_reducible refine GS.ei_list ?_
    | with_reducible refine GS.ei_tup ?_
    | with_reducible refine GS.ei_str ?_
    | with_reducible refine GS.ei_enum ?_
    | with_reducible refine GS.ei_zip ?_
    | with_reducible refine GS.ei_range1 ?_
    | with_reducible refine GS.ei_range2 ?_)
  | ((with_reducible show _ ∧ _); first
    | ((with_reducible refine And.intro ?_ ?_); (with_reducible assumption))
    | ((with_reducible refine GS.sz_and ?_ ?_); exact rfl)
    | ((with_reducible refine GS.cnd_t ?_ ?_); exact rfl)
    | ((with_reducible refine GS.cnd_f ?_ ?_); exact rfl))
  | ((with_reducible show GS.En _ (L2.rIsi _) _ _); first
    | ((with_reducible apply isi_int (by with_reducible assumption)); (first | with_reducible assumption | exact knd_int | exact knd_bl | exact knd_str | exact knd_non | exact knd_lst | exact knd_tup | exact knd_rat (by assumption)))
    | ((with_reducible apply isi_bool (by with_reducible assumption)); (first | with_reducible assumption | exact knd_int | exact knd_bl | exact knd_str | exact knd_non | exact knd_lst | exact knd_tup | exact knd_rat (by assumption)))
    | ((with_reducible apply isi_str (by with_reducible assumption)); (first | with_reducible assumption | exact knd_int | exact knd_bl | exact knd_str | exact knd_non | exact knd_lst | exact knd_tup | exact knd_rat (by assumption)))
    | ((with_reducible apply isi_tuple (by with_reducible assumption)); (first | with_reducible assumption | exact knd_int | exact knd_bl | exact knd_str | exact knd_non | exact knd_lst | exact knd_tup | exact knd_rat (by assumption)))
    | ((with_reducible apply isi_list (by with_reducible assumption)); (first | with_reducible assumption | exact knd_int | exact knd_bl | exact knd_str | exact knd_non | exact knd_lst | exact knd_tup | exact knd_rat (by assumption)))
    | ((with_reducible apply isi_rat (by with_reducible assumption)); (first | with_reducible assumption | exact knd_int | exact knd_bl | exact knd_str | exact knd_non | exact knd_lst | exact knd_tup | exact knd_rat (by assumption))))
  | (with_reducible refine ev_top (by with_reducible assumption) ?_)
  | (with_reducible refine ev_bot (by with_reducible assumption) ?_)
  | with_reducible refine ex_rat ?_
  | with_reducible refine GS.ev_call (E := L2.E0) GS.XOk.no ?_
  | with_reducible refine GS.ev_call GS.XOk.own ?_
  | ((with_reducible show GS.Callx _ _ _ _ _); first
    | ((with_reducible apply use_integral); (first | with_reducible assumption | exact knd_int | exact knd_bl | exact knd_str | exact knd_non | exact knd_lst | exact knd_tup | exact knd_rat (by assumption)))
    | ((with_reducible apply use_parts); first | with_reducible assumption | exact num_rat | exact num_int)
    | ((with_reducible refine use_digits ?_ ?_); with_reducible assumption)
    | ((with_reducible refine use_intof ?_ ?_); with_reducible assumption)
    | ((with_reducible refine use_frac ?_ ?_); with_reducible assumption)
    | with_reducible refine use_gcd ?_
    | with_reducible refine use_isR ?_
    | ((with_reducible apply use_repr); (with_reducible assumption))
    | with_reducible refine use_bool ?_
    | ((with_reducible apply use_num); (with_reducible assumption))
    | ((with_reducible apply use_text); (with_reducible assumption))
    | with_reducible refine use_same_str ?_
    | with_reducible refine use_same_bl ?_
    | with_reducible refine use_same_l3 ?_
    | with_reducible refine use_same_t2 ?_
    | ((with_reducible apply use_right); (with_reducible assumption))
    | ((with_reducible apply use_low); (with_reducible assumption); (with_reducible assumption)))
  | with_reducible refine GS.ev_make (E := L2.E0) GS.XOk.no ?_
  | with_reducible refine GS.ev_make GS.XOk.own ?_
  | ((with_reducible show L2.CMulW _ _ ∧ _); refine And.intro (cmw (by with_reducible assumption) (by with_reducible assumption)) ?_)
  | ((with_reducible refine use_init ?_ ?_ ?_); (with_reducible assumption); (with_reducible assumption))
  | with_reducible refine ex_insR ?_
  | ((with_reducible apply use_mk2); (with_reducible assumption))
  | ((with_reducible apply use_mk1); (with_reducible assumption))
  | ((with_reducible apply e2_add); (with_reducible assumption); (with_reducible assumption))
  | ((with_reducible apply e2_sub); (with_reducible assumption); (with_reducible assumption))
  | ((with_reducible apply e2_mul); (with_reducible assumption); (with_reducible assumption))
  | ((with_reducible apply e2_addI); (with_reducible assumption); (with_reducible assumption))
  | ((with_reducible apply e2_subI); (with_reducible assumption); (with_reducible assumption))
  | ((with_reducible apply e2_mulI); (with_reducible assumption); (with_reducible assumption))
  | ((with_reducible apply e1_neg); (with_reducible assumption))
  | ((with_reducible apply use_plus); (with_reducible assumption); (with_reducible assumption))
  | ((with_reducible apply use_plusN); (with_reducible assumption); (with_reducible assumption))
  | ((with_reducible apply use_times); (with_reducible assumption); (with_reducible assumption))
  | ((with_reducible apply use_over); (with_reducible assumption); (with_reducible assumption); (with_reducible assumption))
  | ((with_reducible apply use_overI); (with_reducible assumption); (with_reducible assumption); (with_reducible assumption))
  | ((with_reducible apply use_read); (with_reducible assumption); (with_reducible assumption))
  | with_reducible refine ev_readR ?_
  | with_reducible refine cr_and ?_
  | ((with_reducible refine egPr ?_ ?_); exact rfl)
  | ((with_reducible refine ev_methR ?_ ?_); (with_unfolding_all decide))
  | with_reducible refine exR_and ?_
  | with_reducible refine e2_eqR (by with_reducible assumption) ?_
  | with_reducible refine e2_eqI (by with_reducible assumption) ?_
  | with_reducible refine ixPr0 ?_
  | with_reducible refine ixPr1 ?_
  | with_reducible refine GS.en_ownReprG GS.XOk.no insRt ?_
  | with_reducible refine GS.en_ownBoolG GS.XOk.no insRt ?_
  | ((with_reducible show (0 : Int) < _ ∧ _); (refine And.intro ?_ ?_); (first | decide | assumption | omega))
  | ((with_reducible show L2.CPow _ _ ∧ _); refine And.intro ⟨by decide, by decide, by decide⟩ ?_)
  | ((with_reducible show L2.CMul _ _ ∧ _); (refine And.intro ?_ ?_); first | exact .inr ⟨by decide, by decide⟩ | exact .inl ⟨by decide, by decide⟩ | exact .inr ⟨by omega, by omega⟩ | exact .inl ⟨by omega, by omega⟩)
  | with_reducible refine GS.ev_prop GS.XOk.no ?_))

def fsRoads (C : Addr) : Fs := fun M l S => M.out = false ∧ ∃ r t, l = [.bag, Pr r, Pr t] ∧ SzR 100 r ∧ SzR 100 t ∧ ∀ u : List Sh, u ≠ [] → u.length < 1000 → (∀ s ∈ u, s = Rt C r) → S (.ret (.lst u))
theorem ok_roads {f : Addr} {fd : FuncData} (F : Fun K "_law_roads" "_law_roads" s__law_roads f fd) (T : Tx P K mg C Co fo) (d__law_of : Df P w K mg base CX0 2 "_law_of" [] (SpS fsOf)) (d__law_plus : Df P w K mg base CX0 3 "_law_plus" [] (SpS (fsArP (· + ·))))
    (d__law_times : Df P w K mg base CX0 3 "_law_times" [] (SpS (fsArP (· * ·)))) (d__law_low : Df P w K mg base CX0 2 "_law_low" [] (SpS fsLow)) (d__law_number : Df P w K mg base CX0 2 "_law_number" [] (SpS fsNum)) (d__law_shuffled : Df P w K mg base CX0 2 "_law_shuffled" [] (SpS fsShuf))
    (d_Ratio2 : DfC P w K mg base (L2.CX P w) 4 "Ratio" C [] (SpI C (fsInit K C Co))) (d_Ratio1 : DfC P w K mg base (L2.CX P w) 4 "Ratio" C [.int 1] (SpI C (fsInit K C Co))) (d_read : DfS P w K mg base (L2.CX P w) 6 C "read" (SpS (fsRead K C Co))) (d_over : DfM P w K mg base (L2.CX P w) 6 C "over" (SpS (fsOver C Co)))
    (d_add : DfO P w K mg base CX0 6 C "__add__" (SpS (fsArith C (· + ·)))) (d_sub : DfO P w K mg base CX0 6 C "__sub__" (SpS (fsArith C (· - ·)))) (d_mul : DfO P w K mg base CX0 6 C "__mul__" (SpS (fsArith C (· * ·)))) (d_neg : DfO P w K mg base CX0 6 C "__neg__" (SpS (fsNeg C))) :
    FnOk P w K mg base CX0 8 f fd ["bag", "p", "q"] (SpS (fsRoads C)) := by
  refine fun_okS F sc__law_roads (fun M l S ⟨_, _, _, e, _⟩ => e ▸ rfl) fun cdv A outer s H E hr => ?_
  refine ⟨_, (pss_cons (ps_asg (pv 1) (pg_tup (by rfl) (pgs_cons (pg_name (i := 3) sc__law_roads.nd rfl (Or.inl rfl)) (pgs_cons (pg_name (i := 4) sc__law_roads.nd rfl (Or.inl rfl)) pgs_nil))))
      (pss_cons (ps_par (i := 5) (j := 6) (by rfl) sc__law_roads.nd rfl rfl (by decide) rfl rfl (pa_cons (pe_df d__law_of hr (by decide) pass0 (pa_cons (pv 0) (pa_cons (pe_lst (pa_cons pe_int (pa_cons (pe_un un_neg pe_int) (pa_cons pe_int (pa_cons (pe_un un_neg pe_int) (pa_cons pe_int (pa_cons (pe_op op_pow pe_int pe_int) (pa_cons (pe_op op_sub pe_int (pe_op op_pow pe_int pe_int)) pa_nil)))))))) pa_nil))) (pa_cons (pe_ifExp (pt_cmpR op_ne (pe_ix (r := rIxT K) ix_tup (pv 2) pe_int (fun _ _ => rfl)) pe_int (nomark _)) (pe_ix (r := rIxT K) ix_tup (pv 2) pe_int (fun _ _ => rfl)) pe_int) pa_nil)) (by rfl))
      (pss_cons (ps_par (i := 7) (j := 8) (by rfl) sc__law_roads.nd rfl rfl (by decide) rfl rfl (pa_cons (pe_df d__law_plus hr (by decide) pass0 (pa_cons (pv 1) (pa_cons (pe_tup (pa_cons (pe_op op_sub pe_int (pe_ix (r := rIxT K) ix_tup (pv 2) pe_int (fun _ _ => rfl))) (pa_cons (pe_ix (r := rIxT K) ix_tup (pv 2) pe_int (fun _ _ => rfl)) pa_nil))) pa_nil))) (pa_cons (pe_df d__law_plus hr (by decide) pass0 (pa_cons (pv 1) (pa_cons (pv 2) pa_nil))) pa_nil)) (by rfl))
      (pss_cons (ps_set (i := 9) sc__law_roads.nd rfl (Or.inl rfl) (pe_lst (pa_cons (pe_dfC d_Ratio2 hr (by decide) passL (pa_cons (pv 3) (pa_cons (pv 4) pa_nil))) (pa_cons (pe_dfC d_Ratio2 hr (by decide) passL (pa_cons (pe_op op_mulW (pv 3) (pv 5)) (pa_cons (pe_op op_mulW (pv 4) (pv 5)) pa_nil))) (pa_cons (pe_dfC d_Ratio2 hr (by decide) passL (pa_cons (pe_op op_sub pe_int (pv 3)) (pa_cons (pe_op op_sub pe_int (pv 4)) pa_nil))) (pa_cons (pe_dfS d_read hr (by decide) passL (pe_glob (v := .ref C) (by rfl) T.g_Ratio rfl) (pa_cons (pe_df d__law_number hr (by decide) pass0 (pa_cons (pv 1) pa_nil)) pa_nil)) (pa_cons (pe_un (un_dfNeg d_neg hr (by decide) pass0) (pe_dfC d_Ratio2 hr (by decide) passL (pa_cons (pe_op op_sub pe_int (pv 3)) (pa_cons (pv 4) pa_nil)))) (pa_cons (pe_un (un_dfNeg d_neg hr (by decide) pass0) (pe_un (un_dfNeg d_neg hr (by decide) pass0) (pe_dfC d_Ratio2 hr (by decide) passL (pa_cons (pv 3) (pa_cons (pv 4) pa_nil))))) pa_nil))))))))
      (pss_cons (ps_set (i := 9) sc__law_roads.nd rfl (Or.inl rfl) (pe_op op_cat (pv 9) (pe_lst (pa_cons (pe_op (op_dfB d_add T.oi_Add T.sf hr (by decide) pass0) (pe_dfC d_Ratio2 hr (by decide) passL (pa_cons (pe_ix (r := rIxT K) ix_tup (pv 7) pe_int (fun _ _ => rfl)) (pa_cons (pe_ix (r := rIxT K) ix_tup (pv 7) pe_int (fun _ _ => rfl)) pa_nil))) (pe_dfC d_Ratio2 hr (by decide) passL (pa_cons (pe_ix (r := rIxT K) ix_tup (pv 2) pe_int (fun _ _ => rfl)) (pa_cons (pe_ix (r := rIxT K) ix_tup (pv 2) pe_int (fun _ _ => rfl)) pa_nil)))) (pa_cons (pe_op (op_dfB d_sub T.oi_Sub T.sf hr (by decide) pass0) (pe_dfC d_Ratio2 hr (by decide) passL (pa_cons (pe_ix (r := rIxT K) ix_tup (pv 8) pe_int (fun _ _ => rfl)) (pa_cons (pe_ix (r := rIxT K) ix_tup (pv 8) pe_int (fun _ _ => rfl)) pa_nil))) (pe_dfC d_Ratio2 hr (by decide) passL (pa_cons (pe_op op_mulW (pe_ix (r := rIxT K) ix_tup (pv 2) pe_int (fun _ _ => rfl)) (pv 5)) (pa_cons (pe_op op_mulW (pe_ix (r := rIxT K) ix_tup (pv 2) pe_int (fun _ _ => rfl)) (pv 5)) pa_nil)))) pa_nil)))))
      (pss_cons (ps_set (i := 9) sc__law_roads.nd rfl (Or.inl rfl) (pe_op op_cat (pv 9) (pe_lst (pa_cons (pe_op (op_dfB d_sub T.oi_Sub T.sf hr (by decide) pass0) (pe_dfC d_Ratio2 hr (by decide) passL (pa_cons (pe_op op_add (pv 3) (pe_op op_mulW (pv 6) (pv 4))) (pa_cons (pv 4) pa_nil))) (pv 6)) (pa_cons (pe_op (op_dfB d_add T.oi_Add T.sf hr (by decide) pass0) (pe_dfC d_Ratio2 hr (by decide) passL (pa_cons (pe_op op_sub (pv 3) (pe_op op_mulW (pv 6) (pv 4))) (pa_cons (pv 4) pa_nil))) (pv 6)) (pa_cons (pe_dfM d_over hr (by decide) passL (pe_dfC d_Ratio2 hr (by decide) passL (pa_cons (pe_op op_mulW (pv 3) (pv 6)) (pa_cons (pv 4) pa_nil))) (pa_cons (pv 6) pa_nil)) (pa_cons (pe_op (op_dfB d_mul T.oi_Mult T.sf hr (by decide) pass0) (pe_dfC d_Ratio2 hr (by decide) passL (pa_cons (pv 3) (pa_cons (pe_op op_mulW (pv 4) (pv 6)) pa_nil))) (pv 6)) pa_nil)))))))
      (pss_cons (ps_if (pt_cmpR op_ne (pe_ix (r := rIxT K) ix_tup (pv 2) pe_int (fun _ _ => rfl)) pe_int (nomark _)) (pss_cons (ps_par (i := 10) (j := 11) (by rfl) sc__law_roads.nd rfl rfl (by decide) rfl rfl (pa_cons (pe_df d__law_times hr (by decide) pass0 (pa_cons (pv 1) (pa_cons (pv 2) pa_nil))) (pa_cons (pe_df d__law_low hr (by decide) pass0 (pa_cons (pe_op op_mulW (pv 3) (pe_ix (r := rIxT K) ix_tup (pv 2) pe_int (fun _ _ => rfl))) (pa_cons (pe_op op_mulW (pv 4) (pe_ix (r := rIxT K) ix_tup (pv 2) pe_int (fun _ _ => rfl))) pa_nil))) pa_nil)) (by rfl))
      (pss_one (ps_set (i := 9) sc__law_roads.nd rfl (Or.inl rfl) (pe_op op_cat (pv 9) (pe_lst (pa_cons (pe_dfM d_over hr (by decide) passL (pe_dfC d_Ratio2 hr (by decide) passL (pa_cons (pe_ix (r := rIxT K) ix_tup (pv 10) pe_int (fun _ _ => rfl)) (pa_cons (pe_ix (r := rIxT K) ix_tup (pv 10) pe_int (fun _ _ => rfl)) pa_nil))) (pa_cons (pe_dfC d_Ratio2 hr (by decide) passL (pa_cons (pe_ix (r := rIxT K) ix_tup (pv 2) pe_int (fun _ _ => rfl)) (pa_cons (pe_ix (r := rIxT K) ix_tup (pv 2) pe_int (fun _ _ => rfl)) pa_nil))) pa_nil)) (pa_cons (pe_op (op_dfB d_mul T.oi_Mult T.sf hr (by decide) pass0) (pe_dfC d_Ratio2 hr (by decide) passL (pa_cons (pe_ix (r := rIxT K) ix_tup (pv 11) pe_int (fun _ _ => rfl)) (pa_cons (pe_ix (r := rIxT K) ix_tup (pv 11) pe_int (fun _ _ => rfl)) pa_nil))) (pe_dfC d_Ratio2 hr (by decide) passL (pa_cons (pe_ix (r := rIxT K) ix_tup (pv 2) pe_int (fun _ _ => rfl)) (pa_cons (pe_ix (r := rIxT K) ix_tup (pv 2) pe_int (fun _ _ => rfl)) pa_nil)))) pa_nil))))))) pss_nil)
      (pss_cons (ps_if (pt_cmpR op_eq (pv 4) pe_int (nomark _)) (pss_one (ps_set (i := 9) sc__law_roads.nd rfl (Or.inl rfl) (pe_op op_cat (pv 9) (pe_lst (pa_cons (pe_dfC d_Ratio1 hr (by decide) passL (pa_cons (pv 3) pa_nil)) (pa_cons (pe_op (op_dfB d_add T.oi_Add T.sf hr (by decide) pass0) (pe_dfC d_Ratio1 hr (by decide) passL (pa_cons pe_int pa_nil)) (pv 3)) (pa_cons (pe_op (op_dfB d_mul T.oi_Mult T.sf hr (by decide) pass0) (pe_dfC d_Ratio1 hr (by decide) passL (pa_cons pe_int pa_nil)) (pv 3)) (pa_cons (pe_op (op_dfB d_sub T.oi_Sub T.sf hr (by decide) pass0) (pe_dfC d_Ratio1 hr (by decide) passL (pa_cons pe_int pa_nil)) (pe_op op_sub pe_int (pv 3))) pa_nil)))))))) pss_nil)
      (pss_one (ps_ret (pe_df d__law_shuffled hr (by decide) pass0 (pa_cons (pv 0) (pa_cons (pv 9) pa_nil))))))))))))), ?_⟩
  rintro M l S ⟨ho, r, t, rfl, hr, ht, k⟩
  show B _ _ _ _ _ _ _
  try simp only [cxK, cxKn]
  have hr4 := hr.mono (m := 4000) (by decide)
  have ht4 := ht.mono (m := 4000) (by decide)
  have hr3 := hr.mono (m := 3000) (by decide)
  have hr14 := hr.mono (m := 14000) (by decide)
  obtain ⟨z1, z2⟩ := hr.mono (m := 4000) (by decide)
  obtain ⟨z3, z4⟩ := ht.mono (m := 4000) (by decide)
  have s1 : SzR 4000 (r + -t) := hr.add ht.neg (by decide)
  have s2 : SzR 4000 (r + t) := hr.add ht (by decide)
  have s3 : SzR 4000 (-r) := hr4.neg
  have m1 : Mk1 r.num r.den r := Mk1.self (hr.2.mono (by decide))
  have m4 : Mk1 (0 - r.num) r.den (-r) := by
    have z : Mk1 (-r).num (-r).den (-r) := Mk1.self (by rw [Rat.neg_den]; exact hr.2.mono (by decide))
    rw [Rat.neg_num, Rat.neg_den] at z
    rw [Int.zero_sub]
    exact z
  have m5 : Mk1 (r + -t).num (r + -t).den (r + -t) := Mk1.self (s1.2.mono (by decide))
  have m6 : Mk1 (r + t).num (r + t).den (r + t) := Mk1.self (s2.2.mono (by decide))
  have m7 : Mk1 t.num t.den t := Mk1.self (ht.2.mono (by decide))
  have scale : ∀ (x : Rat) (c : Int), c ≠ 0 → SzR 100 x → Sz 100 c → Mk1 (x.num * c) (x.den * c) x := fun x c hc hx hs => ⟨Int.mul_ne_zero (den_ne x) hc, (hx.2.mul hs).mono (by decide), by
    rw [Rat.divInt_mul_right hc, Rat.num_divInt_den]⟩
  have m3 : Mk1 (0 - r.num) (0 - r.den) r := by
    have z := scale r (-1) (by decide) hr (sz_lit (by decide) (by decide))
    have e1 : r.num * -1 = 0 - r.num := by omega
    have e2 : (r.den : Int) * -1 = 0 - r.den := by omega
    rw [e1, e2] at z
    exact z
  walk_at "k"
  refine use_of ho (by decide) (by decide) fun s hs => ?_
  obtain ⟨much, rfl, hm0, hmz⟩ : ∃ c : Int, s = .int c ∧ c ≠ 0 ∧ Sz 100 c := by
    have e : (10 : Int) ^ Int.toNat 20 = 100000000000000000000 := by decide
    rw [e] at hs
    simp only [List.mem_cons, List.not_mem_nil, or_false] at hs
    rcases hs with h | h | h | h | h | h | h <;> exact ⟨_, h, by decide, sz_lit (by decide) (by decide)⟩
  have hm4 : Sz 4000 much := hmz.mono (by decide)
  have m2 := scale r much hm0 hr hmz
  have m8 := scale t much hm0 ht hmz
  walk_at "k"
  refine cnd_ev (fun s => ∃ n : Int, s = .int n ∧ n ≠ 0 ∧ Sz 100 n) ?_ ?_
  · refine cnd (c := t.num ≠ 0) (by simp) (fun h => ?_) (fun h => ?_)
    · walk_at "k"
      exact ht.1
    · walk_at "k"
      exact ⟨by decide, sz_lit (x := 7) (n := 100) (by decide) (by decide)⟩
  rintro s ⟨n, rfl, hn0, hnz⟩
  have hn4 : Sz 4000 n := hnz.mono (by decide)
  have hnR : SzR 100 ((n : Int) : Rat) := ⟨hnz, Nat.one_lt_two_pow (by decide)⟩
  have hnR0 : ((n : Int) : Rat) ≠ 0 := fun e => hn0 (by have := congrArg Rat.num e; exact this)
  have s4 : SzR 4000 (r + (n : Rat)) := hr.add hnR (by decide)
  have s5 : SzR 4000 (r - (n : Rat)) := hr.sub hnR (by decide)
  have s6 : SzR 4000 (r * (n : Rat)) := hr.mul hnR (by decide)
  have m9 : Mk1 (r.num + n * r.den) r.den (r + (n : Rat)) := ⟨den_ne r, hr.2.mono (by decide), by
    have z := add_eq r (n : Rat)
    rw [show ((n : Rat).num) = n from rfl, show (((n : Rat).den : Nat) : Int) = 1 from rfl, Int.mul_one, Int.mul_one] at z
    exact z⟩
  have m10 : Mk1 (r.num - n * r.den) r.den (r - (n : Rat)) := ⟨den_ne r, hr.2.mono (by decide), by
    have z := sub_eq r (n : Rat)
    rw [show ((n : Rat).num) = n from rfl, show (((n : Rat).den : Nat) : Int) = 1 from rfl, Int.mul_one, Int.mul_one] at z
    exact z⟩
  have m11 : Mk1 (r.num * n) r.den (r * (n : Rat)) := ⟨den_ne r, hr.2.mono (by decide), by
    have z := mul_eq r (n : Rat)
    rw [show ((n : Rat).num) = n from rfl, show (((n : Rat).den : Nat) : Int) = 1 from rfl, Int.mul_one] at z
    exact z⟩
  have m12 : Mk1 r.num (r.den * n) (r / (n : Rat)) := ⟨Int.mul_ne_zero (den_ne r) hn0, (hr.2.mul hnz).mono (by decide), by
    have z := div_eq r (n : Rat)
    rw [show ((n : Rat).num) = n from rfl, show (((n : Rat).den : Nat) : Int) = 1 from rfl, Int.mul_one] at z
    exact z⟩
  have s7 : SzR 4000 (r / (n : Rat)) := by
    rw [← m12.eq]
    exact SzR.of_div m12.nz hr.1 (hr.2.mul hnz) (by decide) (by decide)
  walk_at "k"
  refine ⟨le_line (by simp), ?_⟩
  walk_at "k"
  refine ⟨le_line (by simp), eg_name ?_⟩
  have hsame : ∀ s : Sh, s ∈ ([Rt C r, Rt C r, Rt C r, Rt C r, Rt C (- -r), Rt C (- -r)] ++ [Rt C (r + -t + t), Rt C (r + t - t)]) ++ [Rt C (r + (n : Rat) - (n : Rat)), Rt C (r - (n : Rat) + (n : Rat)), Rt C (r * (n : Rat) / (n : Rat)), Rt C (r / (n : Rat) * (n : Rat))] → s = Rt C r := by
    intro s hs
    simp only [List.mem_append, List.mem_cons, List.not_mem_nil, or_false] at hs
    have c1 : - -r = r := by grind
    have c2 : r + -t + t = r := by grind
    have c3 : r + t - t = r := by grind
    have c4 : r + (n : Rat) - (n : Rat) = r := by grind
    have c5 : r - (n : Rat) + (n : Rat) = r := by grind
    have c6 : r * (n : Rat) / (n : Rat) = r := by grind
    have c7 : r / (n : Rat) * (n : Rat) = r := by grind
    rw [c1, c2, c3, c4, c5, c6, c7] at hs
    simpa only [or_self] using hs
  refine b_mid (fun ss1 => ∃ u o10 o11, ss1 = [some .bag, some (Pr r), some (Pr t), some (.int r.num), some (.int (r.den : Int)), some (.int much), some (.int n), some (Pr (r + -t)), some (Pr (r + t)), some (.lst u), o10, o11] ∧ u ≠ [] ∧ u.length < 100 ∧ ∀ s ∈ u, s = Rt C r) ?_ ?_
  · walk_at "k"
    refine cnd (c := t.num ≠ 0) (by simp) (fun h => ?_) (fun h => ?_)
    · have ht0 : t ≠ 0 := fun e => h (by rw [e]; rfl)
      have hb : (r.den : Int) * t.num ≠ 0 := Int.mul_ne_zero (den_ne r) h
      have hs : Sz 9000 ((r.den : Int) * t.num) := (z2.mul z3).mono (by decide)
      have s8 : SzR 4000 (r * t) := hr.mul ht (by decide)
      have m13 : Mk1 (r * t).num (r * t).den (r * t) := Mk1.self (s8.2.mono (by decide))
      have e9 := div_eq r t
      have s9 : SzR 4000 (r / t) := by
        rw [← e9]
        exact SzR.of_div hb (hr.1.mul ht.2) (hr.2.mul ht.1) (by decide) (by decide)
      have m14 : Mk1 (Rat.divInt (r.num * t.den) (r.den * t.num)).num (Rat.divInt (r.num * t.den) (r.den * t.num)).den (r / t) := by
        rw [e9]
        exact Mk1.self (s9.2.mono (by decide))
      walk_at "k"
      refine ⟨le_line (by simp), eg_name ?_⟩
      have c8 : r * t / t = r := by grind
      have c9 : r / t * t = r := by grind
      rw [c8, c9]
      refine ⟨_, _, _, rfl, by simp, by simp, fun s hs => ?_⟩
      rcases List.mem_append.mp hs with h | h
      · exact hsame s h
      · simpa using h
    · walk_at "k"
      exact ⟨_, _, _, rfl, by simp, by simp, hsame⟩
  · rintro ss1 ⟨u, o10, o11, rfl, hu0, hu1, hu2⟩
    refine b_mid (fun ss1 => ∃ u o10 o11, ss1 = [some .bag, some (Pr r), some (Pr t), some (.int r.num), some (.int (r.den : Int)), some (.int much), some (.int n), some (Pr (r + -t)), some (Pr (r + t)), some (.lst u), o10, o11] ∧ u ≠ [] ∧ u.length < 200 ∧ ∀ s ∈ u, s = Rt C r) ?_ ?_
    · walk_at "k"
      refine cnd (c := r.den = 1) (by simp; omega) (fun h => ?_) (fun h => ?_)
      · have q1 : Mk1 r.num 1 r := by
          have z := m1
          rw [h] at z
          exact z
        have q2 : Mk1 0 1 (0 : Rat) := ⟨by decide, Nat.one_lt_two_pow (by decide), rfl⟩
        have q3 : Mk1 1 1 (1 : Rat) := ⟨by decide, Nat.one_lt_two_pow (by decide), rfl⟩
        have w0 : SzR 4000 (0 : Rat) := ⟨Nat.pow_pos (by decide), Nat.one_lt_two_pow (by decide)⟩
        have w1 : SzR 4000 (1 : Rat) := ⟨Nat.one_lt_two_pow (by decide), Nat.one_lt_two_pow (by decide)⟩
        have w2 : Sz 4000 (0 - r.num) := by
          rw [Int.zero_sub]
          exact z1.neg
        have hrn : ((r.num : Int) : Rat) = r := Rat.ext rfl h.symm
        have hrn2 : (((0 - r.num : Int)) : Rat) = -r := by
          rw [Int.zero_sub]
          exact Rat.ext rfl (by rw [Rat.neg_den]; exact h.symm)
        walk_at "k"
        refine ⟨le_line (by simp; omega), eg_name ?_⟩
        rw [hrn, hrn2]
        have c1 : 0 + r = r := by grind
        have c2 : 1 * r = r := by grind
        have c3 : 0 - -r = r := by grind
        rw [c1, c2, c3]
        refine ⟨_, _, _, rfl, by simp, by simp; omega, fun s hs => ?_⟩
        rcases List.mem_append.mp hs with h | h
        · exact hu2 s h
        · simpa using h
      · walk_at "k"
        exact ⟨_, _, _, rfl, hu0, by omega, hu2⟩
    · rintro ss1 ⟨u, o10, o11, rfl, hu0, hu1, hu2⟩
      walk_at "k"
      refine use_shuf ho (by omega) fun v hp => ?_
      refine k v (fun e => ?_) (by rw [hp.length_eq]; omega) fun s hs => hu2 s (hp.mem_iff.mp hs)
      rw [e] at hp
      exact hu0 (List.nil_perm.mp hp)
end
end KP

/-! K12G -/
set_option Elab.async false
set_option Elab.async false
set_option linter.all false
set_option maxRecDepth 100000
set_option maxHeartbeats 4000000
namespace KP
open PySem PySem.Spec PyProof.Rows L2 GM GS
local macro_rules | `(tactic| walk_at "sh") => `(tactic| repeat (first
  | ((with_reducible show GS.Ev _ _ _ _); first
    | with_reducible refine GS.ev_c ?_
    | ((with_reducible show GS.Ev _ (L2.tVar _) _ _); refine GS.ev_var rfl ?_)
    | with_reducible refine GS.ev_op ?_
    | with_reducible refine GS.ev_cb ?_
    | with_reducible refine GS.ev_un ?_
    | with_reducible refine GS.ev_tup ?_
    | with_reducible refine GS.ev_lst ?_
    | with_reducible refine GS.ev_if ?_
    | with_reducible refine GS.ev_andV ?_
    | with_reducible refine GS.ev_orV ?_
    | with_reducible refine GS.ev_notV ?_
    | with_reducible refine GS.ev_sl ?_
    | with_reducible refine GS.ev_fmtS ?_
    | with_reducible refine GS.ev_fmtL ?_
    | with_reducible refine GS.ev_joined ?_
    | with_reducible refine GS.ev_m1 ?_)
  | ((with_reducible show GS.E2 _ _ _ _ _); first
    | with_reducible refine GS.e2_I0 ?_
    | with_reducible refine GS.e2_I ?_
    | ((with_reducible refine GS.e2_eq ?_ ?_); exact rfl)
    | ((with_reducible refine GS.e2_ne ?_ ?_); exact rfl)
    | with_reducible refine GS.e2_isN ?_
    | with_reducible refine GS.e2_notN ?_
    | ((with_reducible show GS.E2 _ (L2.rIxL _) _ _ _); refine GS.e2_ixL rfl ?_)
    | ((with_reducible show GS.E2 _ (L2.rIxT _) _ _ _); refine GS.e2_ixT rfl ?_)
    | ((with_reducible show GS.E2 _ (L2.rIx _) (GS.Sh.lst _) _ _); refine GS.e2_ix_l rfl ?_)
    | ((with_reducible show GS.E2 _ (L2.rIx _) (GS.Sh.tup _) _ _); refine GS.e2_ix_t rfl ?_)
    | with_reducible refine GS.e2_cat ?_
    | with_reducible refine GS.e2_addS ?_
    | with_reducible refine GS.e2_inSign ?_)
  | ((with_reducible show GS.Ea _ _ _ _); first
    | with_reducible refine GS.ea_cons ?_
    | with_reducible refine GS.ea_nil ?_)
  | ((with_reducible show GS.Et _ _ _ _); first
    | with_reducible refine GS.et_B ?_
    | with_reducible refine GS.et_test ?_
    | with_reducible refine GS.et_not ?_
    | with_reducible refine GS.et_and ?_
    | with_reducible refine GS.et_or ?_
    | with_reducible refine GS.et_yes ?_
    | with_reducible refine GS.et_tru ?_)
  | ((with_reducible show GS.B _ _ _ _ _ _ _); first
    | with_reducible refine GS.b_seq ?_
    | with_reducible refine GS.b_if ?_
    | with_reducible refine GS.b_ret ?_
    | with_reducible refine GS.b_asg ?_
    | with_reducible refine GS.b_drop ?_
    | with_reducible refine GS.b_next ?_
    | with_reducible refine GS.b_par ?_
    | with_reducible refine GS.b_raise (fun _ => rfl) ?_)
  | with_reducible refine GS.eg_name ?_
  | with_reducible refine GS.egs_cons ?_
  | with_reducible refine GS.egs_nil ?_
  | ((with_reducible refine GS.eg_tup ?_ ?_); exact rfl)
  | with_reducible refine GS.e1_U ?_
  | ((with_reducible show GS.En _ _ _ _); first
    | with_reducible refine GS.en_len_l ?_
    | with_reducible refine GS.en_len_t ?_
    | with_reducible refine GS.en_len_str ?_
    | with_reducible refine GS.en_int ?_
    | with_reducible refine GS.en_bool ?_
    | with_reducible refine GS.en_abs ?_
    | with_reducible refine GS.en_str ?_
    | with_reducible refine GS.en_strL ?_
    | with_reducible refine GS.en_gcd ?_
    | with_reducible refine GS.en_list_l ?_
    | with_reducible refine GS.en_list_t ?_
    | with_reducible refine GS.en_tuple_l ?_)
  | with_reducible refine GS.ex_bl ?_
  | with_reducible refine GS.ex_str ?_
  | with_reducible refine GS.ex_int ?_
  | with_reducible refine GS.ex_v ?_
  | with_reducible refine GS.ex_two ?_
  | with_reducible refine GS.ex_lst ?_
  | with_reducible refine GS.ex_tup ?_
  | with_reducible refine GS.ex_lst1 ?_
  | with_reducible refine GS.ex_truS ?_
  | ((with_reducible show ∃ _, GS.TruS _ _ ∧ _); refine GS.ex_tru rfl ?_)
  | with_reducible refine GS.eo_no ?_
  | with_reducible refine GS.eo_yes ?_
  | with_reducible refine GS.e3_list ?_
  | with_reducible refine GS.e3_str ?_
  | with_reducible refine GS.ej_cons ?_
  | with_reducible refine GS.ej_nil ?_
  | with_reducible refine GS.em_split ?_
  | with_reducible refine GS.em_starts ?_
  | ((with_reducible show GS.Ei _ _ _ _); first
    | with_reducible refine GS.ei_list ?_
    | with_reducible refine GS.ei_tup ?_
    | with_reducible refine GS.ei_str ?_
    | with_reducible refine GS.ei_enum ?_
    | with_reducible refine GS.ei_zip ?_
    | with_reducible refine GS.ei_range1 ?_
    | with_reducible refine GS.ei_range2 ?_)
  | ((with_reducible show _ ∧ _); first
    | ((with_reducible refine And.intro ?_ ?_); (with_reducible assumption))
    | ((with_reducible refine GS.sz_and ?_ ?_); exact rfl)
    | ((with_reducible refine GS.cnd_t ?_ ?_); exact rfl)
    | ((with_reducible refine GS.cnd_f ?_ ?_); exact rfl))))

section
variable {P : Program} {w : World} {K : PySem.W.Frag} {mg : Str → Option Value} {base : Heap} {C Co fo : Addr} {j : J} {q : Sh → Prop} {x : Sh} {a : Ty0} {ex : Addr → List (Str × V) → Prop}

theorem prI {n : Int} : Sh.tup [.int n, .int 1] = Pr (n : Rat) := rfl
theorem use_plusI {r : Rat} {n : Int} (h1 : SzR 4000 r) (h2 : Sz 4000 n) (k : q (Pr (r + (n : Rat)))) : Callx j (fsArP (· + ·)) ([Pr r, .tup [.int n, .v (.int 1)]] ++ List.map Sh.v []) q ex := use_plus (t := (n : Rat)) h1 (szI h2) k
theorem use_rightI {n : Int} (h : Sz 14000 n) (k : q (.bl true)) : Callx j (fsRight C) ([Rt C (n : Rat), .tup [.int n, .v (.int 1)]] ++ List.map Sh.v []) q ex := use_right (r := (n : Rat)) ⟨h, Nat.one_lt_two_pow (by decide)⟩ k
local macro_rules | `(tactic| walk_at "k") => `(tactic| repeat (first
  | ((with_reducible show GS.Ev _ _ _ _); first
    | with_reducible refine GS.ev_c ?_
    | ((with_reducible show GS.Ev _ (L2.tVar _) _ _); refine GS.ev_var rfl ?_)
    | with_reducible refine GS.ev_op ?_
    | with_reducible refine GS.ev_cb ?_
    | with_reducible refine GS.ev_un ?_
    | with_reducible refine GS.ev_tup ?_
    | with_reducible refine GS.ev_lst ?_
    | with_reducible refine GS.ev_if ?_
    | with_reducible refine GS.ev_andV ?_
    | with_reducible refine GS.ev_orV ?_
    | with_reducible refine GS.ev_notV ?_
    | with_reducible refine GS.ev_sl ?_
    | with_reducible refine GS.ev_fmtS ?_
    | with_reducible refine GS.ev_fmtL ?_
    | with_reducible refine GS.ev_joined ?_
    | with_reducible refine GS.ev_m1 ?_)
  | ((with_reducible show GS.E2 _ _ _ _ _); first
    | with_reducible refine GS.e2_I0 ?_
    | with_reducible refine GS.e2_I ?_
    | ((with_reducible refine GS.e2_eq ?_ ?_); exact rfl)
    | ((with_reducible refine GS.e2_ne ?_ ?_); exact rfl)
    | with_reducible refine GS.e2_isN ?_
    | with_reducible refine GS.e2_notN ?_
    | ((with_reducible show GS.E2 _ (L2.rIxL _) _ _ _); refine GS.e2_ixL rfl ?_)
    | ((with_reducible show GS.E2 _ (L2.rIxT _) _ _ _); refine GS.e2_ixT rfl ?_)
    | ((with_reducible show GS.E2 _ (L2.rIx _) (GS.Sh.lst _) _ _); refine GS.e2_ix_l rfl ?_)
    | ((with_reducible show GS.E2 _ (L2.rIx _) (GS.Sh.tup _) _ _); refine GS.e2_ix_t rfl ?_)
    | with_reducible refine GS.e2_cat ?_
    | with_reducible refine GS.e2_addS ?_
    | with_reducible refine GS.e2_inSign ?_)
  | ((with_reducible show GS.Ea _ _ _ _); first
    | with_reducible refine GS.ea_cons ?_
    | with_reducible refine GS.ea_nil ?_)
  | ((with_reducible show GS.Et _ _ _ _); first
    | with_reducible refine GS.et_B ?_
    | with_reducible refine GS.et_test ?_
    | with_reducible refine GS.et_not ?_
    | with_reducible refine GS.et_and ?_
    | with_reducible refine GS.et_or ?_
    | with_reducible refine GS.et_yes ?_
    | with_reducible refine GS.et_tru ?_)
  | ((with_reducible show GS.B _ _ _ _ _ _ _); first
    | with_reducible refine GS.b_seq ?_
    | with_reducible refine GS.b_if ?_
    | with_reducible refine GS.b_ret ?_
    | with_reducible refine GS.b_asg ?_
    | with_reducible refine GS.b_drop ?_
    | with_reducible refine GS.b_next ?_
    | with_reducible refine GS.b_par ?_
    | with_reducible refine GS.b_raise (fun _ => rfl) ?_)
  | with_reducible refine GS.eg_name ?_
  | with_reducible refine GS.egs_cons ?_
  | with_reducible refine GS.egs_nil ?_
  | ((with_reducible refine GS.eg_tup ?_ ?_); exact rfl)
  | with_reducible refine GS.e1_U ?_
  | ((with_reducible show GS.En _ _ _ _); first
    | with_reducible refine GS.en_len_l ?_
    | with_reducible refine GS.en_len_t ?_
    | with_reducible refine GS.en_len_str ?_
    | with_reducible refine GS.en_int ?_
    | with_reducible refine GS.en_bool ?_
    | with_reducible refine GS.en_abs ?_
    | with_reducible refine GS.en_str ?_
    | with_reducible refine GS.en_strL ?_
    | with_reducible refine GS.en_gcd ?_
    | with_reducible refine GS.en_list_l ?_
    | with_reducible refine GS.en_list_t ?_
    | with_reducible refine GS.en_tuple_l ?_)
  | with_reducible refine GS.ex_bl ?_
  | with_reducible refine GS.ex_str ?_
  | with_reducible refine GS.ex_int ?_
  | with_reducible refine GS.ex_v ?_
  | with_reducible refine GS.ex_two ?_
  | with_reducible refine GS.ex_lst ?_
  | with_reducible refine GS.ex_tup ?_
  | with_reducible refine GS.ex_lst1 ?_
  | with_reducible refine GS.ex_truS ?_
  | ((with_reducible show ∃ _, GS.TruS _ _ ∧ _); refine GS.ex_tru rfl ?_)
  | with_reducible refine GS.eo_no ?_
  | with_reducible refine GS.eo_yes ?_
  | with_reducible refine GS.e3_list ?_
  | with_reducible refine GS.e3_str ?_
  | with_reducible refine GS.ej_cons ?_
  | with_reducible refine GS.ej_nil ?_
  | with_reducible refine GS.em_split ?_
  | with_reducible refine GS.em_starts ?_
  | ((with_reducible show GS.Ei _ _ _ _); first
    | with_reducible refine GS.ei_list ?_
    | with_reducible refine GS.ei_tup ?_
    | with_reducible refine GS.ei_str ?_
    | with_reducible refine GS.ei_enum ?_
    | with_reducible refine GS.ei_zip ?_
    | with_reducible refine GS.ei_range1 ?_
    | with_reducible refine GS.ei_range2 ?_)
  | ((with_reducible show _ ∧ _); first
    | ((with_reducible refine And.intro ?_ ?_); (with_reducible assumption))
    | ((with_reducible refine GS.sz_and ?_ ?_); exact rfl)
    | ((with_reducible refine GS.cnd_t ?_ ?_); exact rfl)
    | ((with_reducible refine GS.cnd_f ?_ ?_); exact rfl))
  | ((with_reducible show GS.En _ (L2.rIsi _) _ _); first
    | ((with_reducible apply isi_int (by with_reducible assumption)); (first | with_reducible assumption | exact knd_int | exact knd_bl | exact knd_str | exact knd_non | exact knd_lst | exact knd_tup | exact knd_rat (by assumption)))
    | ((with_reducible apply isi_bool (by with_reducible assumption)); (first | with_reducible assumption | exact knd_int | exact knd_bl | exact knd_str | exact knd_non | exact knd_lst | exact knd_tup | exact knd_rat (by assumption)))
    | ((with_reducible apply isi_str (by with_reducible assumption)); (first | with_reducible assumption | exact knd_int | exact knd_bl | exact knd_str | exact knd_non | exact knd_lst | exact knd_tup | exact knd_rat (by assumption)))
    | ((with_reducible apply isi_tuple (by with_reducible assumption)); (first | with_reducible assumption | exact knd_int | exact knd_bl | exact knd_str | exact knd_non | exact knd_lst | exact knd_tup | exact knd_rat (by assumption)))
    | ((with_reducible apply isi_list (by with_reducible assumption)); (first | with_reducible assumption | exact knd_int | exact knd_bl | exact knd_str | exact knd_non | exact knd_lst | exact knd_tup | exact knd_rat (by assumption)))
    | ((with_reducible apply isi_rat (by with_reducible assumption)); (first | with_reducible assumption | exact knd_int | exact knd_bl | exact knd_str | exact knd_non | exact knd_lst | exact knd_tup | exact knd_rat (by assumption))))
  | (with_reducible refine ev_top (by with_reducible assumption) ?_)
  | (with_reducible refine ev_bot (by with_reducible assumption) ?_)
  | with_reducible refine ex_rat ?_
  | with_reducible refine GS.ev_call (E := L2.E0) GS.XOk.no ?_
  | with_reducible refine GS.ev_call GS.XOk.own ?_
  | ((with_reducible show GS.Callx _ _ _ _ _); first
    | ((with_reducible apply use_integral); (first | with_reducible assumption | exact knd_int | exact knd_bl | exact knd_str | exact knd_non | exact knd_lst | exact knd_tup | exact knd_rat (by assumption)))
    | ((with_reducible apply use_parts); first | with_reducible assumption | exact num_rat | exact num_int)
    | ((with_reducible refine use_digits ?_ ?_); with_reducible assumption)
    | ((with_reducible refine use_intof ?_ ?_); with_reducible assumption)
    | ((with_reducible refine use_frac ?_ ?_); with_reducible assumption)
    | with_reducible refine use_gcd ?_
    | with_reducible refine use_isR ?_
    | ((with_reducible apply use_repr); (with_reducible assumption))
    | with_reducible refine use_bool ?_
    | ((with_reducible apply use_num); (with_reducible assumption))
    | ((with_reducible apply use_text); (with_reducible assumption))
    | with_reducible refine use_same_str ?_
    | with_reducible refine use_same_bl ?_
    | with_reducible refine use_same_l3 ?_
    | with_reducible refine use_same_t2 ?_
    | ((with_reducible apply use_right); (with_reducible assumption))
    | ((with_reducible apply use_low); (with_reducible assumption); (with_reducible assumption)))
  | with_reducible refine GS.ev_make (E := L2.E0) GS.XOk.no ?_
  | with_reducible refine GS.ev_make GS.XOk.own ?_
  | ((with_reducible show L2.CMulW _ _ ∧ _); refine And.intro (cmw (by with_reducible assumption) (by with_reducible assumption)) ?_)
  | ((with_reducible refine use_init ?_ ?_ ?_); (with_reducible assumption); (with_reducible assumption))
  | with_reducible refine ex_insR ?_
  | ((with_reducible apply use_plusI); (with_reducible assumption); (with_reducible assumption))
  | ((with_reducible apply use_rightI); (with_reducible assumption))
  | ((with_reducible apply use_mk2); (with_reducible assumption))
  | ((with_reducible apply use_mk1); (with_reducible assumption))
  | ((with_reducible apply e2_add); (with_reducible assumption); (with_reducible assumption))
  | ((with_reducible apply e2_sub); (with_reducible assumption); (with_reducible assumption))
  | ((with_reducible apply e2_mul); (with_reducible assumption); (with_reducible assumption))
  | ((with_reducible apply e2_addI); (with_reducible assumption); (with_reducible assumption))
  | ((with_reducible apply e2_subI); (with_reducible assumption); (with_reducible assumption))
  | ((with_reducible apply e2_mulI); (with_reducible assumption); (with_reducible assumption))
  | ((with_reducible apply e1_neg); (with_reducible assumption))
  | ((with_reducible apply use_plus); (with_reducible assumption); (with_reducible assumption))
  | ((with_reducible apply use_plusN); (with_reducible assumption); (with_reducible assumption))
  | ((with_reducible apply use_times); (with_reducible assumption); (with_reducible assumption))
  | ((with_reducible apply use_over); (with_reducible assumption); (with_reducible assumption); (with_reducible assumption))
  | ((with_reducible apply use_overI); (with_reducible assumption); (with_reducible assumption); (with_reducible assumption))
  | ((with_reducible apply use_read); (with_reducible assumption); (with_reducible assumption))
  | with_reducible refine ev_readR ?_
  | with_reducible refine cr_and ?_
  | ((with_reducible refine egPr ?_ ?_); exact rfl)
  | ((with_reducible refine ev_methR ?_ ?_); (with_unfolding_all decide))
  | with_reducible refine exR_and ?_
  | with_reducible refine e2_eqR (by with_reducible assumption) ?_
  | with_reducible refine e2_eqI (by with_reducible assumption) ?_
  | with_reducible refine ixPr0 ?_
  | with_reducible refine ixPr1 ?_
  | with_reducible refine GS.en_ownReprG GS.XOk.no insRt ?_
  | with_reducible refine GS.en_ownBoolG GS.XOk.no insRt ?_
  | ((with_reducible show (0 : Int) < _ ∧ _); (refine And.intro ?_ ?_); (first | decide | assumption | omega))
  | ((with_reducible show L2.CPow _ _ ∧ _); refine And.intro ⟨by decide, by decide, by decide⟩ ?_)
  | ((with_reducible show L2.CMul _ _ ∧ _); (refine And.intro ?_ ?_); first | exact .inr ⟨by decide, by decide⟩ | exact .inl ⟨by decide, by decide⟩ | exact .inr ⟨by omega, by omega⟩ | exact .inl ⟨by omega, by omega⟩)
  | with_reducible refine GS.ev_prop GS.XOk.no ?_))

/-- a great numeral -/
def wordL (c1 c2 : Nat) : List Nat := c1 :: (List.replicate 998 48 ++ [c2])
theorem word_dig {c1 c2 : Nat} (h1 : 49 ≤ c1 ∧ c1 ≤ 57) (h2 : 49 ≤ c2 ∧ c2 ≤ 57) : NumText.AllDigits (wordL c1 c2) ∧ (wordL c1 c2).length = 1000 ∧ isDigL (wordL c1 c2) = true := by
  have hd : NumText.AllDigits (wordL c1 c2) := fun c hc => by
    unfold wordL at hc
    rcases List.mem_cons.mp hc with h | h
    · omega
    · rcases List.mem_append.mp h with h | h
      · have := (List.mem_replicate.mp h).2
        omega
      · have := List.mem_singleton.mp h
        omega
  have hl : (wordL c1 c2).length = 1000 := by
    unfold wordL
    rw [List.length_cons, List.length_append, List.length_replicate]
    rfl
  refine ⟨hd, hl, ?_⟩
  have e : (Str.ofString "0123456789").cps.toList = [48, 49, 50, 51, 52, 53, 54, 55, 56, 57] := by decide +kernel
  unfold isDigL
  simp only [Bool.and_eq_true]
  refine ⟨⟨⟨by unfold wordL; rfl, decide_eq_true (by omega)⟩, ?_⟩, List.all_eq_true.mpr fun c hc => ?_⟩
  · rw [Bool.not_eq_true', Bool.and_eq_false_iff]
    refine .inl (decide_eq_false fun z => ?_)
    have z : some c1 = some 48 := z
    have z := Option.some.inj z
    omega
  · unfold isd
    rw [e]
    have := hd c hc
    refine decide_eq_true ?_
    simp only [List.mem_cons, List.not_mem_nil, or_false]
    omega
theorem word_val {c1 c2 : Nat} (h1 : 49 ≤ c1 ∧ c1 ≤ 57) (h2 : 49 ≤ c2 ∧ c2 ≤ 57) : 2 ≤ NumText.digitsVal (wordL c1 c2) ∧ Sz 9000 ((NumText.digitsVal (wordL c1 c2) : Nat) : Int) := by
  obtain ⟨hd, hl, hi⟩ := word_dig h1 h2
  refine ⟨?_, isDig_sz hi⟩
  have mono : ∀ (l : List Nat) (a : Nat), a ≤ l.foldl (fun acc c => acc * 10 + (c - 48)) a := by
    intro l
    induction l with
    | nil => intro a; exact Nat.le_refl _
    | cons c l ih =>
      intro a
      rw [List.foldl_cons]
      have := ih (a * 10 + (c - 48))
      omega
  unfold NumText.digitsVal wordL
  rw [List.foldl_cons, show List.replicate 998 48 = 48 :: List.replicate 997 48 from rfl, List.cons_append, List.foldl_cons]
  have := mono (List.replicate 997 48 ++ [c2]) ((0 * 10 + (c1 - 48)) * 10 + (48 - 48))
  omega
def sgT : Bool → List Nat
  | true => [45]
  | false => []
def sgI : Bool → Int → Int
  | true, n => -n
  | false, n => n
theorem read_word {c1 c2 : Nat} {b : Bool} {w : Str} (h1 : 49 ≤ c1 ∧ c1 ≤ 57) (h2 : 49 ≤ c2 ∧ c2 ≤ 57) (hw : TL.tl w = sgT b ++ wordL c1 c2) :
    intOfL (TL.tl w) = some (sgI b ((NumText.digitsVal (wordL c1 c2) : Nat) : Int)) ∧ intText? w = some (sgI b ((NumText.digitsVal (wordL c1 c2) : Nat) : Int)) ∧ w.length ≤ 1001 ∧ 47 ∉ TL.tl w := by
  obtain ⟨hd, hl, hi⟩ := word_dig h1 h2
  have hv := (word_val h1 h2).1
  have hne : wordL c1 c2 ≠ [] := by unfold wordL; simp
  have h47 : 47 ∉ wordL c1 c2 := fun z => by
    have := hd 47 z
    omega
  have hlen : w.length = (TL.tl w).length := TL.len_tl w
  cases b with
  | true =>
    have hw : TL.tl w = 45 :: wordL c1 c2 := hw
    rw [hw, List.length_cons, hl] at hlen
    refine ⟨?_, intText_neg hw hd hne (by omega), by omega, ?_⟩
    · rw [hw]
      unfold intOfL
      rw [if_pos (show (45 :: wordL c1 c2).head? = some 45 from rfl)]
      show (if isDigL (wordL c1 c2) = true then if wordL c1 c2 = [48] then none else some (-((NumText.digitsVal (wordL c1 c2) : Nat) : Int)) else none) = _
      rw [if_pos hi, if_neg]
      · rfl
      · intro z
        have := congrArg List.length z
        rw [hl] at this
        simp at this
    · rw [hw]
      intro z
      rcases List.mem_cons.mp z with e | e
      · cases e
      · exact h47 e
  | false =>
    have hw : TL.tl w = wordL c1 c2 := hw
    rw [hw, hl] at hlen
    refine ⟨?_, ?_, by omega, by rw [hw]; exact h47⟩
    · rw [hw]
      unfold intOfL
      have hh : (wordL c1 c2).head? ≠ some 45 := by
        unfold wordL
        intro z
        have z := Option.some.inj z
        omega
      rw [if_neg hh, if_pos hi]
      rfl
    · have z := intText_digits (x := w) (by rw [show w.cps.toList = wordL c1 c2 from hw]; exact hd) (by rw [show w.cps.toList = wordL c1 c2 from hw]; exact hne) (by omega)
      rw [show w.cps.toList = wordL c1 c2 from hw] at z
      exact z
theorem use_readF {w : Str} {t u : Int} (hl : w.length ≤ 100000) (e : fracL w.cps.toList = some (t, u)) (k : q (Rt C (Rat.divInt t u))) : Callx j (fsRead K C Co) [.str w] q ex := callx_of (.inl ⟨_, rfl, hl, .inl ⟨_, _, e, k⟩⟩)
theorem unit_read (b : Bool) : intOfL (sgT b ++ [49]) = some (sgI b 1) := by cases b <;> decide +kernel
theorem unit_int {b : Bool} {w : Str} (h : TL.tl w = sgT b ++ [49]) : intText? w = some (sgI b 1) := by
  have e : w = ⟨(sgT b ++ [49]).toArray⟩ := TL.ext_tl h
  rw [e]
  cases b <;> decide +kernel
theorem unit_rat (b : Bool) {W : Nat} (hW : 2 ≤ W) : (Rat.divInt (sgI b 1) (W : Int)).num = sgI b 1 ∧ ((Rat.divInt (sgI b 1) (W : Int)).den : Int) = W := by
  have h0 : (W : Int) ≠ 0 := by omega
  have ec : cm (sgI b 1) (W : Int) = 1 := by
    unfold cm
    rw [if_neg (by omega)]
    have e1 : (sgI b 1).natAbs = 1 := by cases b <;> rfl
    rw [e1, Nat.gcd_one_left]
    rfl
  have z1 := cm_top (t := sgI b 1) h0
  have z2 := cm_bot (t := sgI b 1) h0
  rw [ec, Int.fdiv_one] at z1 z2
  exact ⟨z1.symm, z2.symm⟩
def fsGreat : Fs := fun M l S => M.out = false ∧ l = [.bag] ∧ S (.ret (.bl true))
theorem ok_great {f : Addr} {fd : FuncData} (F : Fun K "_law_great_right" "_law_great_right" s__law_great_right f fd) (T : Tx P K mg C Co fo) (d__law_pick : Df P w K mg base CX0 1 "_law_pick" [] (SpS fsPick)) (d__law_of : Df P w K mg base CX0 2 "_law_of" [] (SpS fsOf)) (d__law_plus : Df P w K mg base CX0 3 "_law_plus" [] (SpS (fsArP (· + ·))))
    (d__law_times : Df P w K mg base CX0 3 "_law_times" [] (SpS (fsArP (· * ·)))) (d__law_low : Df P w K mg base CX0 2 "_law_low" [] (SpS fsLow)) (d__law_right : Df P w K mg base CX0 8 "_law_right" [] (SpS (fsRight C)))
    (d_Ratio2 : DfC P w K mg base (L2.CX P w) 4 "Ratio" C [] (SpI C (fsInit K C Co))) (d_read : DfS P w K mg base (L2.CX P w) 6 C "read" (SpS (fsRead K C Co))) (d_over : DfM P w K mg base (L2.CX P w) 6 C "over" (SpS (fsOver C Co)))
    (d_add : DfO P w K mg base CX0 6 C "__add__" (SpS (fsArith C (· + ·)))) (d_mul : DfO P w K mg base CX0 6 C "__mul__" (SpS (fsArith C (· * ·)))) :
    FnOk P w K mg base CX0 9 f fd ["bag"] (SpS fsGreat) := by
  refine fun_okS F sc__law_great_right (fun M l S ⟨_, e, _⟩ => e ▸ rfl) fun cdv A outer s H E hr => ?_
  refine ⟨_, (pss_cons (ps_set (i := 1) sc__law_great_right.nd rfl (Or.inl rfl) (pe_op op_mulW (pe_op op_sub (pe_op op_sub (pe_op op_mulW (pe_op op_pow pe_int pe_int) (pe_op op_pow pe_int pe_int)) pe_int) (pe_df d__law_pick hr (by decide) pass0 (pa_cons (pv 0) (pa_cons pe_int pa_nil)))) (pe_df d__law_of hr (by decide) pass0 (pa_cons (pv 0) (pa_cons (pe_lst (pa_cons pe_int (pa_cons (pe_un un_neg pe_int) pa_nil))) pa_nil)))))
      (pss_cons (ps_set (i := 2) sc__law_great_right.nd rfl (Or.inl rfl) (pe_df d__law_low hr (by decide) pass0 (pa_cons (pv 1) (pa_cons (pe_op op_add (pe_op op_mulW (pe_op op_pow pe_int pe_int) (pe_op op_pow pe_int pe_int)) (pe_df d__law_pick hr (by decide) pass0 (pa_cons (pv 0) (pa_cons pe_int pa_nil)))) pa_nil))))
      (pss_cons (ps_par (i := 3) (j := 4) (by rfl) sc__law_great_right.nd rfl rfl (by decide) rfl rfl (pa_cons (pe_dfC d_Ratio2 hr (by decide) passL (pa_cons (pe_ix (r := rIxT K) ix_tup (pv 2) pe_int (fun _ _ => rfl)) (pa_cons (pe_ix (r := rIxT K) ix_tup (pv 2) pe_int (fun _ _ => rfl)) pa_nil))) (pa_cons (pe_dfC d_Ratio2 hr (by decide) passL (pa_cons (pe_ix (r := rIxT K) ix_tup (pv 2) pe_int (fun _ _ => rfl)) (pa_cons pe_int pa_nil))) pa_nil)) (by rfl))
      (pss_cons (ps_if (PW.pt (pw_or (pt_not (pt_val (pe_df d__law_right hr (by decide) pass0 (pa_cons (pv 3) (pa_cons (pv 2) pa_nil))))) (pw_or (pt_not (pt_val (pe_df d__law_right hr (by decide) pass0 (pa_cons (pe_op (op_dfB d_mul T.oi_Mult T.sf hr (by decide) pass0) (pv 3) (pv 3)) (pa_cons (pe_df d__law_times hr (by decide) pass0 (pa_cons (pv 2) (pa_cons (pv 2) pa_nil))) pa_nil))))) (pw_or (pt_not (pt_val (pe_df d__law_right hr (by decide) pass0 (pa_cons (pe_dfM d_over hr (by decide) passL (pv 4) (pa_cons (pe_ix (r := rIxT K) ix_tup (pv 2) pe_int (fun _ _ => rfl)) pa_nil)) (pa_cons (pv 2) pa_nil))))) (pw_or1 (pt_not (pt_val (pe_df d__law_right hr (by decide) pass0 (pa_cons (pe_op (op_dfB d_add T.oi_Add T.sf hr (by decide) pass0) (pv 3) (pv 4)) (pa_cons (pe_df d__law_plus hr (by decide) pass0 (pa_cons (pv 2) (pa_cons (pe_tup (pa_cons (pe_ix (r := rIxT K) ix_tup (pv 2) pe_int (fun _ _ => rfl)) (pa_cons pe_int pa_nil))) pa_nil))) pa_nil)))))))))) (pss_one (ps_ret pe_bl)) pss_nil)
      (pss_cons (ps_par (i := 5) (j := 6) (by rfl) sc__law_great_right.nd rfl rfl (by decide) rfl rfl (pa_cons (pe_df d__law_of hr (by decide) pass0 (pa_cons (pv 0) (pa_cons (pe_lst (pa_cons pe_str (pa_cons pe_str pa_nil))) pa_nil))) (pa_cons (pe_op op_add_str (pe_op op_add_str (pe_df d__law_of hr (by decide) pass0 (pa_cons (pv 0) (pa_cons pe_str pa_nil))) (pe_op op_mulS pe_str pe_int)) (pe_df d__law_of hr (by decide) pass0 (pa_cons (pv 0) (pa_cons pe_str pa_nil)))) pa_nil)) (by rfl))
      (pss_cons (ps_if (pt_not (pt_val (pe_df d__law_right hr (by decide) pass0 (pa_cons (pe_dfS d_read hr (by decide) passL (pe_glob (v := .ref C) (by rfl) T.g_Ratio rfl) (pa_cons (pe_op op_add_str (pv 5) (pv 6)) pa_nil)) (pa_cons (pe_tup (pa_cons (pe_callTy (call_int_strL T.nd) (by rfl) T.n_int (by decide +kernel) (pa_cons (pe_op op_add_str (pv 5) (pv 6)) pa_nil)) (pa_cons pe_int pa_nil))) pa_nil))))) (pss_one (ps_ret pe_bl)) pss_nil)
      (pss_one (ps_ret (pe_df d__law_right hr (by decide) pass0 (pa_cons (pe_dfS d_read hr (by decide) passL (pe_glob (v := .ref C) (by rfl) T.g_Ratio rfl) (pa_cons (pe_op op_add_str (pe_op op_add_str (pv 5) pe_str) (pv 6)) pa_nil)) (pa_cons (pe_tup (pa_cons (pe_callTy (call_int_strL T.nd) (by rfl) T.n_int (by decide +kernel) (pa_cons (pe_op op_add_str (pv 5) pe_str) pa_nil)) (pa_cons (pe_callTy (call_int_strL T.nd) (by rfl) T.n_int (by decide +kernel) (pa_cons (pv 6) pa_nil)) pa_nil))) pa_nil))))))))))), ?_⟩
  rintro M l S ⟨ho, rfl, k⟩
  show B _ _ _ _ _ _ _
  try simp only [cxK, cxKn]
  have p50 : (10 : Int) ^ Int.toNat 50 = 100000000000000000000000000000000000000000000000000 := by decide
  have p49 : (10 : Int) ^ Int.toNat 49 = 10000000000000000000000000000000000000000000000000 := by decide
  have zp : Sz 4000 ((10 : Int) ^ Int.toNat 50) := by rw [p50]; exact sz_lit (by decide +kernel) (by decide +kernel)
  have zq : Sz 4000 ((10 : Int) ^ Int.toNat 49) := by rw [p49]; exact sz_lit (by decide +kernel) (by decide +kernel)
  walk_at "k"
  refine use_pick ho (by decide) (by decide) fun u u0 u1 => ?_
  walk_at "k"
  refine use_of ho (by decide) (by decide) fun s hs => ?_
  have hs : s = .int 1 ∨ s = .int (-1) := by simpa using hs
  obtain ⟨sg, rfl, hsg⟩ : ∃ sg : Int, s = .int sg ∧ (sg = 1 ∨ sg = -1) := by rcases hs with h | h <;> exact ⟨_, h, by simp⟩
  have zsg : Sz 4000 sg := by rcases hsg with h | h <;> subst h <;> exact sz_lit (by decide +kernel) (by decide +kernel)
  walk_at "k"
  rw [p50]
  have big : ∀ x : Int, x.natAbs < 100000000000000000000000000000000000000000000000000000000000000000000000000000000000000000000000000000 → Sz 400 x := fun x h => Nat.lt_of_lt_of_le h (by decide +kernel)
  have hT : Sz 400 (100000000000000000000000000000000000000000000000000 * 100000000000000000000000000000000000000000000000000 - 1 - u) := big _ (by omega)
  refine ⟨cmw (hT.mono (by decide)) zsg, ?_⟩
  generalize hTs : (100000000000000000000000000000000000000000000000000 * 100000000000000000000000000000000000000000000000000 - 1 - u) * sg = top
  have zT : Sz 400 top := by
    rw [← hTs]
    refine big _ ?_
    rcases hsg with h | h <;> subst h <;> omega
  walk_at "k"
  refine use_pick ho (by decide) (by decide) fun v v0 v1 => ?_
  walk_at "k"
  rw [p50, p49]
  generalize hD : 100000000000000000000000000000000000000000000000000 * 10000000000000000000000000000000000000000000000000 + v = D
  have zD : Sz 400 D := big _ (by omega)
  have hD0 : D ≠ 0 := by omega
  refine use_low hD0 (zD.mono (by decide)) ?_
  generalize hr : Rat.divInt top D = r
  have sr : SzR 400 r := by
    rw [← hr]
    exact SzR.of_div hD0 zT zD (Nat.le_refl _) (Nat.le_refl _)
  have r4 := sr.mono (m := 4000) (by decide)
  have r14 := sr.mono (m := 14000) (by decide)
  have i4 : SzR 4000 ((r.num : Int) : Rat) := szI r4.1
  have zn : Sz 4000 r.num := r4.1
  have zd : Sz 4000 (r.den : Int) := r4.2
  have hd0 := den_ne r
  have s2 : SzR 14000 (r * r) := sr.mul sr (by decide)
  have s3 : SzR 14000 (r + ((r.num : Int) : Rat)) := sr.add (szI (zn) |>.mono (m := 4000) (by decide)) (by decide)
  have m1 : Mk1 r.num r.den r := Mk1.self (sr.2.mono (by decide))
  have m2 : Mk1 r.num 1 ((r.num : Int) : Rat) := ⟨by decide, Nat.one_lt_two_pow (by decide), Rat.num_divInt_den ((r.num : Int) : Rat)⟩
  have hdiv : ((r.num : Int) : Rat) / (((r.den : Int) : Int) : Rat) = r := by
    have z := div_eq ((r.num : Int) : Rat) (((r.den : Int) : Int) : Rat)
    rw [← z]
    have e : Rat.divInt r.num r.den = r := Rat.num_divInt_den r
    show Rat.divInt (r.num * 1) (1 * (r.den : Int)) = r
    rw [Int.mul_one, Int.one_mul]
    exact e
  walk_at "k"
  rw [hdiv]
  walk_at "k"
  have e0 : Str.ofString "0" = ⟨#[48]⟩ := by decide +kernel
  have n9 : (Str.ofString "123456789").cps.toList = [49, 50, 51, 52, 53, 54, 55, 56, 57] := by decide +kernel
  have n5 : (Str.ofString "13579").cps.toList = [49, 51, 53, 55, 57] := by decide +kernel
  refine use_of ho (by decide) (by decide) fun s hs => ?_
  obtain ⟨b, sgn, rfl, hsgn⟩ : ∃ (b : Bool) (sgn : Str), s = .str sgn ∧ TL.tl sgn = sgT b := by
    simp only [List.mem_cons, List.not_mem_nil, or_false] at hs
    rcases hs with h | h
    · exact ⟨false, _, h, by decide +kernel⟩
    · exact ⟨true, _, h, by decide +kernel⟩
  walk_at "k"
  refine use_ofS ho (by decide +kernel) (by decide +kernel) fun c1 hc1 => ?_
  have h1 : 49 ≤ c1 ∧ c1 ≤ 57 := by
    rw [n9] at hc1
    simp only [List.mem_cons, List.not_mem_nil, or_false] at hc1
    omega
  rw [e0]
  walk_at "k"
  refine e2_mulS ⟨mulOk1 (by decide) (by decide), ?_⟩
  walk_at "k"
  have tz : TL.tl (Txt.mul ⟨#[48]⟩ 998) = List.replicate 998 48 := mul_tl (n := 998) (by decide)
  have lz : (Txt.mul ⟨#[48]⟩ 998).length = 998 := by rw [TL.len_tl, tz, List.length_replicate]
  have l1 : ∀ c : Nat, Str.length ⟨#[c]⟩ = 1 := fun c => rfl
  generalize Txt.mul ⟨#[48]⟩ 998 = zs at tz lz
  refine ⟨le_line (by rw [l1, lz]; decide), ?_⟩
  walk_at "k"
  refine use_ofS ho (by decide +kernel) (by decide +kernel) fun c2 hc2 => ?_
  have h2 : 49 ≤ c2 ∧ c2 ≤ 57 := by
    rw [n5] at hc2
    simp only [List.mem_cons, List.not_mem_nil, or_false] at hc2
    omega
  walk_at "k"
  refine ⟨le_line (by rw [str_len, l1, l1, lz]; decide), ?_⟩
  have tw : TL.tl ((⟨#[c1]⟩ : Str) ++ zs ++ ⟨#[c2]⟩) = wordL c1 c2 := by
    rw [TL.tl_append, TL.tl_append, tz]
    unfold wordL
    rfl
  generalize ((⟨#[c1]⟩ : Str) ++ zs ++ ⟨#[c2]⟩) = wrd at tw
  obtain ⟨q1, q2, q3, q4⟩ := read_word (b := b) (w := sgn ++ wrd) h1 h2 (by rw [TL.tl_append, hsgn, tw])
  obtain ⟨g1, g2, g3, g4⟩ := read_word (b := false) (w := wrd) h1 h2 tw
  obtain ⟨w0, w1⟩ := word_val h1 h2
  generalize NumText.digitsVal (wordL c1 c2) = W at q1 q2 g1 g2 w0 w1
  have zsI : Sz 14000 (sgI b (W : Int)) := by
    cases b with
    | true => exact (w1.mono (by decide)).neg
    | false => exact w1.mono (by decide)
  have lw : sgn.length ≤ 1 := by
    rw [TL.len_tl, hsgn]
    cases b <;> decide
  have lw2 : wrd.length ≤ 1001 := g3
  walk_at "k"
  refine ⟨le_line (by omega), ?_⟩
  walk_at "k"
  have hn1 : Rat.divInt (sgI b (W : Int)) 1 = ((sgI b (W : Int) : Int) : Rat) := Rat.num_divInt_den ((sgI b (W : Int) : Int) : Rat)
  refine use_readF (t := sgI b (W : Int)) (u := 1) (by omega) (by
    unfold fracL
    rw [show (sgn ++ wrd).cps.toList = TL.tl (sgn ++ wrd) from rfl, TL.spl_last1 q4]
    show (intOfL ([] ++ TL.tl (sgn ++ wrd))).map (fun t => (t, (1 : Int))) = _
    rw [List.nil_append, q1]
    rfl) ?_
  rw [hn1]
  walk_at "k"
  refine ⟨le_line (by omega), ?_⟩
  walk_at "k"
  refine en_intL ⟨q2, by omega, ?_⟩
  walk_at "k"
  have l2 : (Str.ofString "1/").length = 2 := by decide +kernel
  have l3 : (Str.ofString "1").length = 1 := by decide +kernel
  have t2 : TL.tl (Str.ofString "1/") = [49, 47] := by decide +kernel
  have t3 : TL.tl (Str.ofString "1") = [49] := by decide +kernel
  refine ⟨le_line (by omega), ?_⟩
  walk_at "k"
  refine ⟨le_line (by rw [str_len]; omega), ?_⟩
  walk_at "k"
  have hf : 47 ∉ sgT b ++ [49] := by cases b <;> decide
  have hW1 : Nat.gcd (sgI b 1).natAbs ((W : Int)).natAbs = 1 := by
    have e1 : (sgI b 1).natAbs = 1 := by cases b <;> rfl
    rw [e1, Nat.gcd_one_left]
  refine use_readF (t := sgI b 1) (u := (W : Int)) (by rw [str_len, str_len]; omega) (by
    unfold fracL
    have e : (sgn ++ Str.ofString "1/" ++ wrd).cps.toList = (sgT b ++ [49]) ++ ([47] ++ TL.tl wrd) := by
      show TL.tl (sgn ++ Str.ofString "1/" ++ wrd) = _
      rw [TL.tl_append, TL.tl_append, hsgn, t2]
      simp
    have e2 : TL.spl [47] 0 [] ((sgT b ++ [49]) ++ ([47] ++ TL.tl wrd)) = [sgT b ++ [49], TL.tl wrd] := by
      have z := TL.spl_part1 (s := 47) (S := []) (rest := TL.tl wrd) (acc := []) hf
      rw [show (47 :: [] ++ TL.tl wrd) = [47] ++ TL.tl wrd from rfl] at z
      rw [z, TL.spl_last1 g4, List.nil_append, List.nil_append]
    rw [e, e2]
    show (intOfL (sgT b ++ [49])).bind (fun t => (intOfL (TL.tl wrd)).bind fun u => if u < 2 ∨ Nat.gcd t.natAbs u.natAbs ≠ 1 then none else some (t, u)) = _
    rw [unit_read, g1]
    show (if ((W : Nat) : Int) < 2 ∨ Nat.gcd (sgI b 1).natAbs ((W : Nat) : Int).natAbs ≠ 1 then none else some (sgI b 1, ((W : Nat) : Int))) = _
    rw [if_neg]
    rintro (z | z)
    · omega
    · exact z hW1) ?_
  walk_at "k"
  refine ⟨le_line (by omega), ?_⟩
  walk_at "k"
  refine en_intL ⟨unit_int (by rw [TL.tl_append, hsgn, t3]), by rw [str_len]; omega, ?_⟩
  walk_at "k"
  refine en_intL ⟨g2, by omega, ?_⟩
  walk_at "k"
  obtain ⟨u1, u2⟩ := unit_rat b w0
  have hp : Sh.tup [.int (sgI b 1), .int (sgI false (W : Int))] = Pr (Rat.divInt (sgI b 1) (W : Int)) := by
    unfold Pr
    rw [u1, u2]
    rfl
  rw [hp]
  refine use_right ⟨?_, ?_⟩ k
  · rw [u1]
    have z : Sz 14000 (1 : Int) := Nat.one_lt_two_pow (by decide)
    cases b with
    | true => exact z.neg
    | false => exact z
  · rw [u2]
    exact w1.mono (by decide)
end
end KP

/-! K12Z -/
set_option Elab.async false
set_option Elab.async false
set_option linter.all false
set_option maxRecDepth 100000
set_option maxHeartbeats 4000000
namespace KP
open PySem PySem.Spec PyProof.Rows L2 GM GS
local macro_rules | `(tactic| walk_at "sh") => `(tactic| repeat (first
  | ((with_reducible show GS.Ev _ _ _ _); first
    | with_reducible refine GS.ev_c ?_
    | ((with_reducible show GS.Ev _ (L2.tVar _) _ _); refine GS.ev_var rfl ?_)
    | with_reducible refine GS.ev_op ?_
    | with_reducible refine GS.ev_cb ?_
    | with_reducible refine GS.ev_un ?_
    | with_reducible refine GS.ev_tup ?_
    | with_reducible refine GS.ev_lst ?_
    | with_reducible refine GS.ev_if ?_
    | with_reducible refine GS.ev_andV ?_
    | with_reducible refine GS.ev_orV ?_
    | with_reducible refine GS.ev_notV ?_
    | with_reducible refine GS.ev_sl ?_
    | with_reducible refine GS.ev_fmtS ?_
    | with_reducible refine GS.ev_fmtL ?_
    | with_reducible refine GS.ev_joined ?_
    | with_reducible refine GS.ev_m1 ?_)
  | ((with_reducible show GS.E2 _ _ _ _ _); first
    | with_reducible refine GS.e2_I0 ?_
    | with_reducible refine GS.e2_I ?_
    | ((with_reducible refine GS.e2_eq ?_ ?_); exact rfl)
    | ((with_reducible refine GS.e2_ne ?_ ?_); exact rfl)
    | with_reducible refine GS.e2_isN ?_
    | with_reducible refine GS.e2_notN ?_
    | ((with_reducible show GS.E2 _ (L2.rIxL _) _ _ _); refine GS.e2_ixL rfl ?_)
    | ((with_reducible show GS.E2 _ (L2.rIxT _) _ _ _); refine GS.e2_ixT rfl ?_)
    | ((with_reducible show GS.E2 _ (L2.rIx _) (GS.Sh.lst _) _ _); refine GS.e2_ix_l rfl ?_)
    | ((with_reducible show GS.E2 _ (L2.rIx _) (GS.Sh.tup _) _ _); refine GS.e2_ix_t rfl ?_)
    | with_reducible refine GS.e2_cat ?_
    | with_reducible refine GS.e2_addS ?_
    | with_reducible refine GS.e2_inSign ?_)
  | ((with_reducible show GS.Ea _ _ _ _); first
    | with_reducible refine GS.ea_cons ?_
    | with_reducible refine GS.ea_nil ?_)
  | ((with_reducible show GS.Et _ _ _ _); first
    | with_reducible refine GS.et_B ?_
    | with_reducible refine GS.et_test ?_
    | with_reducible refine GS.et_not ?_
    | with_reducible refine GS.et_and ?_
    | with_reducible refine GS.et_or ?_
    | with_reducible refine GS.et_yes ?_
    | with_reducible refine GS.et_tru ?_)
  | ((with_reducible show GS.B _ _ _ _ _ _ _); first
    | with_reducible refine GS.b_seq ?_
    | with_reducible refine GS.b_if ?_
    | with_reducible refine GS.b_ret ?_
    | with_reducible refine GS.b_asg ?_
    | with_reducible refine GS.b_drop ?_
    | with_reducible refine GS.b_next ?_
    | with_reducible refine GS.b_par ?_
    | with_reducible refine GS.b_raise (fun _ => rfl) ?_)
  | with_reducible refine GS.eg_name ?_
  | with_reducible refine GS.egs_cons ?_
  | with_reducible refine GS.egs_nil ?_
  | ((with_reducible refine GS.eg_tup ?_ ?_); exact rfl)
  | with_reducible refine GS.e1_U ?_
  | ((with_reducible show GS.En _ _ _ _); first
    | with_reducible refine GS.en_len_l ?_
    | with_reducible refine GS.en_len_t ?_
    | with_reducible refine GS.en_len_str ?_
    | with_reducible refine GS.en_int ?_
    | with_reducible refine GS.en_bool ?_
    | with_reducible refine GS.en_abs ?_
    | with_reducible refine GS.en_str ?_
    | with_reducible refine GS.en_strL ?_
    | with_reducible refine GS.en_gcd ?_
    | with_reducible refine GS.en_list_l ?_
    | with_reducible refine GS.en_list_t ?_
    | with_reducible refine GS.en_tuple_l ?_)
  | with_reducible refine GS.ex_bl ?_
  | with_reducible refine GS.ex_str ?_
  | with_reducible refine GS.ex_int ?_
  | with_reducible refine GS.ex_v ?_
  | with_reducible refine GS.ex_two ?_
  | with_reducible refine GS.ex_lst ?_
  | with_reducible refine GS.ex_tup ?_
  | with_reducible refine GS.ex_lst1 ?_
  | with_reducible refine GS.ex_truS ?_
  | ((with_reducible show ∃ _, GS.TruS _ _ ∧ _); refine GS.ex_tru rfl ?_)
  | with_reducible refine GS.eo_no ?_
  | with_reducible refine GS.eo_yes ?_
  | with_reducible refine GS.e3_list ?_
  | with_reducible refine GS.e3_str ?_
  | with_reducible refine GS.ej_cons ?_
  | with_reducible refine GS.ej_nil ?_
  | with_reducible refine GS.em_split ?_
  | with_reducible refine GS.em_starts ?_
  | ((with_reducible show GS.Ei _ _ _ _); first
    | with_reducible refine GS.ei_list ?_
    | with_reducible refine GS.ei_tup ?_
    | with_reducible refine GS.ei_str ?_
    | with_reducible refine GS.ei_enum ?_
    | with_reducible refine GS.ei_zip ?_
    | with_reducible refine GS.ei_range1 ?_
    | with_reducible refine GS.ei_range2 ?_)
  | ((with_reducible show _ ∧ _); first
    | ((with_reducible refine And.intro ?_ ?_); (with_reducible assumption))
    | ((with_reducible refine GS.sz_and ?_ ?_); exact rfl)
    | ((with_reducible refine GS.cnd_t ?_ ?_); exact rfl)
    | ((with_reducible refine GS.cnd_f ?_ ?_); exact rfl))))

section
variable {P : Program} {w : World} {K : PySem.W.Frag} {mg : Str → Option Value} {base : Heap} {C Co fo : Addr} {j : J} {q : Sh → Prop} {x : Sh} {a : Ty0} {ex : Addr → List (Str × V) → Prop}

local macro_rules | `(tactic| walk_at "k") => `(tactic| repeat (first
  | ((with_reducible show GS.Ev _ _ _ _); first
    | with_reducible refine GS.ev_c ?_
    | ((with_reducible show GS.Ev _ (L2.tVar _) _ _); refine GS.ev_var rfl ?_)
    | with_reducible refine GS.ev_op ?_
    | with_reducible refine GS.ev_cb ?_
    | with_reducible refine GS.ev_un ?_
    | with_reducible refine GS.ev_tup ?_
    | with_reducible refine GS.ev_lst ?_
    | with_reducible refine GS.ev_if ?_
    | with_reducible refine GS.ev_andV ?_
    | with_reducible refine GS.ev_orV ?_
    | with_reducible refine GS.ev_notV ?_
    | with_reducible refine GS.ev_sl ?_
    | with_reducible refine GS.ev_fmtS ?_
    | with_reducible refine GS.ev_fmtL ?_
    | with_reducible refine GS.ev_joined ?_
    | with_reducible refine GS.ev_m1 ?_)
  | ((with_reducible show GS.E2 _ _ _ _ _); first
    | with_reducible refine GS.e2_I0 ?_
    | with_reducible refine GS.e2_I ?_
    | ((with_reducible refine GS.e2_eq ?_ ?_); exact rfl)
    | ((with_reducible refine GS.e2_ne ?_ ?_); exact rfl)
    | with_reducible refine GS.e2_isN ?_
    | with_reducible refine GS.e2_notN ?_
    | ((with_reducible show GS.E2 _ (L2.rIxL _) _ _ _); refine GS.e2_ixL rfl ?_)
    | ((with_reducible show GS.E2 _ (L2.rIxT _) _ _ _); refine GS.e2_ixT rfl ?_)
    | ((with_reducible show GS.E2 _ (L2.rIx _) (GS.Sh.lst _) _ _); refine GS.e2_ix_l rfl ?_)
    | ((with_reducible show GS.E2 _ (L2.rIx _) (GS.Sh.tup _) _ _); refine GS.e2_ix_t rfl ?_)
    | with_reducible refine GS.e2_cat ?_
    | with_reducible refine GS.e2_addS ?_
    | with_reducible refine GS.e2_inSign ?_)
  | ((with_reducible show GS.Ea _ _ _ _); first
    | with_reducible refine GS.ea_cons ?_
    | with_reducible refine GS.ea_nil ?_)
  | ((with_reducible show GS.Et _ _ _ _); first
    | with_reducible refine GS.et_B ?_
    | with_reducible refine GS.et_test ?_
    | with_reducible refine GS.et_not ?_
    | with_reducible refine GS.et_and ?_
    | with_reducible refine GS.et_or ?_
    | with_reducible refine GS.et_yes ?_
    | with_reducible refine GS.et_tru ?_)
  | ((with_reducible show GS.B _ _ _ _ _ _ _); first
    | with_reducible refine GS.b_seq ?_
    | with_reducible refine GS.b_if ?_
    | with_reducible refine GS.b_ret ?_
    | with_reducible refine GS.b_asg ?_
    | with_reducible refine GS.b_drop ?_
    | with_reducible refine GS.b_next ?_
    | with_reducible refine GS.b_par ?_
    | with_reducible refine GS.b_raise (fun _ => rfl) ?_)
  | with_reducible refine GS.eg_name ?_
  | with_reducible refine GS.egs_cons ?_
  | with_reducible refine GS.egs_nil ?_
  | ((with_reducible refine GS.eg_tup ?_ ?_); exact rfl)
  | with_reducible refine GS.e1_U ?_
  | ((with_reducible show GS.En _ _ _ _); first
    | with_reducible refine GS.en_len_l ?_
    | with_reducible refine GS.en_len_t ?_
    | with_reducible refine GS.en_len_str ?_
    | with_reducible refine GS.en_int ?_
    | with_reducible refine GS.en_bool ?_
    | with_reducible refine GS.en_abs ?_
    | with_reducible refine GS.en_str ?_
    | with_reducible refine GS.en_strL ?_
    | with_reducible refine GS.en_gcd ?_
    | with_reducible refine GS.en_list_l ?_
    | with_reducible refine GS.en_list_t ?_
    | with_reducible refine GS.en_tuple_l ?_)
  | with_reducible refine GS.ex_bl ?_
  | with_reducible refine GS.ex_str ?_
  | with_reducible refine GS.ex_int ?_
  | with_reducible refine GS.ex_v ?_
  | with_reducible refine GS.ex_two ?_
  | with_reducible refine GS.ex_lst ?_
  | with_reducible refine GS.ex_tup ?_
  | with_reducible refine GS.ex_lst1 ?_
  | with_reducible refine GS.ex_truS ?_
  | ((with_reducible show ∃ _, GS.TruS _ _ ∧ _); refine GS.ex_tru rfl ?_)
  | with_reducible refine GS.eo_no ?_
  | with_reducible refine GS.eo_yes ?_
  | with_reducible refine GS.e3_list ?_
  | with_reducible refine GS.e3_str ?_
  | with_reducible refine GS.ej_cons ?_
  | with_reducible refine GS.ej_nil ?_
  | with_reducible refine GS.em_split ?_
  | with_reducible refine GS.em_starts ?_
  | ((with_reducible show GS.Ei _ _ _ _); first
    | with_reducible refine GS.ei_list ?_
    | with_reducible refine GS.ei_tup ?_
    | with_reducible refine GS.ei_str ?_
    | with_reducible refine GS.ei_enum ?_
    | with_reducible refine GS.ei_zip ?_
    | with_reducible refine GS.ei_range1 ?_
    | with_reducible refine GS.ei_range2 ?_)
  | ((with_reducible show _ ∧ _); first
    | ((with_reducible refine And.intro ?_ ?_); (with_reducible assumption))
    | ((with_reducible refine GS.sz_and ?_ ?_); exact rfl)
    | ((with_reducible refine GS.cnd_t ?_ ?_); exact rfl)
    | ((with_reducible refine GS.cnd_f ?_ ?_); exact rfl))
  | ((with_reducible show GS.En _ (L2.rIsi _) _ _); first
    | ((with_reducible apply isi_int (by with_reducible assumption)); (first | with_reducible assumption | exact knd_int | exact knd_bl | exact knd_str | exact knd_non | exact knd_lst | exact knd_tup | exact knd_rat (by assumption)))
    | ((with_reducible apply isi_bool (by with_reducible assumption)); (first | with_reducible assumption | exact knd_int | exact knd_bl | exact knd_str | exact knd_non | exact knd_lst | exact knd_tup | exact knd_rat (by assumption)))
    | ((with_reducible apply isi_str (by with_reducible assumption)); (first | with_reducible assumption | exact knd_int | exact knd_bl | exact knd_str | exact knd_non | exact knd_lst | exact knd_tup | exact knd_rat (by assumption)))
    | ((with_reducible apply isi_tuple (by with_reducible assumption)); (first | with_reducible assumption | exact knd_int | exact knd_bl | exact knd_str | exact knd_non | exact knd_lst | exact knd_tup | exact knd_rat (by assumption)))
    | ((with_reducible apply isi_list (by with_reducible assumption)); (first | with_reducible assumption | exact knd_int | exact knd_bl | exact knd_str | exact knd_non | exact knd_lst | exact knd_tup | exact knd_rat (by assumption)))
    | ((with_reducible apply isi_rat (by with_reducible assumption)); (first | with_reducible assumption | exact knd_int | exact knd_bl | exact knd_str | exact knd_non | exact knd_lst | exact knd_tup | exact knd_rat (by assumption))))
  | (with_reducible refine ev_top (by with_reducible assumption) ?_)
  | (with_reducible refine ev_bot (by with_reducible assumption) ?_)
  | with_reducible refine ex_rat ?_
  | with_reducible refine GS.ev_call (E := L2.E0) GS.XOk.no ?_
  | with_reducible refine GS.ev_call GS.XOk.own ?_
  | ((with_reducible show GS.Callx _ _ _ _ _); first
    | ((with_reducible apply use_integral); (first | with_reducible assumption | exact knd_int | exact knd_bl | exact knd_str | exact knd_non | exact knd_lst | exact knd_tup | exact knd_rat (by assumption)))
    | ((with_reducible apply use_parts); first | with_reducible assumption | exact num_rat | exact num_int)
    | ((with_reducible refine use_digits ?_ ?_); with_reducible assumption)
    | ((with_reducible refine use_intof ?_ ?_); with_reducible assumption)
    | ((with_reducible refine use_frac ?_ ?_); with_reducible assumption)
    | with_reducible refine use_gcd ?_
    | with_reducible refine use_isR ?_
    | ((with_reducible apply use_repr); (with_reducible assumption))
    | with_reducible refine use_bool ?_
    | ((with_reducible apply use_num); (with_reducible assumption))
    | ((with_reducible apply use_text); (with_reducible assumption))
    | with_reducible refine use_same_str ?_
    | with_reducible refine use_same_bl ?_
    | with_reducible refine use_same_l3 ?_
    | with_reducible refine use_same_t2 ?_
    | ((with_reducible apply use_right); (with_reducible assumption))
    | ((with_reducible apply use_low); (with_reducible assumption); (with_reducible assumption)))
  | with_reducible refine GS.ev_make (E := L2.E0) GS.XOk.no ?_
  | with_reducible refine GS.ev_make GS.XOk.own ?_
  | ((with_reducible show L2.CMulW _ _ ∧ _); refine And.intro (cmw (by with_reducible assumption) (by with_reducible assumption)) ?_)
  | ((with_reducible refine use_init ?_ ?_ ?_); (with_reducible assumption); (with_reducible assumption))
  | with_reducible refine ex_insR ?_
  | ((with_reducible apply use_plusI); (with_reducible assumption); (with_reducible assumption))
  | ((with_reducible apply use_rightI); (with_reducible assumption))
  | ((with_reducible apply use_mk2); (with_reducible assumption))
  | ((with_reducible apply use_mk1); (with_reducible assumption))
  | ((with_reducible apply e2_add); (with_reducible assumption); (with_reducible assumption))
  | ((with_reducible apply e2_sub); (with_reducible assumption); (with_reducible assumption))
  | ((with_reducible apply e2_mul); (with_reducible assumption); (with_reducible assumption))
  | ((with_reducible apply e2_addI); (with_reducible assumption); (with_reducible assumption))
  | ((with_reducible apply e2_subI); (with_reducible assumption); (with_reducible assumption))
  | ((with_reducible apply e2_mulI); (with_reducible assumption); (with_reducible assumption))
  | ((with_reducible apply e1_neg); (with_reducible assumption))
  | ((with_reducible apply use_plus); (with_reducible assumption); (with_reducible assumption))
  | ((with_reducible apply use_plusN); (with_reducible assumption); (with_reducible assumption))
  | ((with_reducible apply use_times); (with_reducible assumption); (with_reducible assumption))
  | ((with_reducible apply use_over); (with_reducible assumption); (with_reducible assumption); (with_reducible assumption))
  | ((with_reducible apply use_overI); (with_reducible assumption); (with_reducible assumption); (with_reducible assumption))
  | ((with_reducible apply use_read); (with_reducible assumption); (with_reducible assumption))
  | with_reducible refine ev_readR ?_
  | with_reducible refine cr_and ?_
  | ((with_reducible refine egPr ?_ ?_); exact rfl)
  | ((with_reducible refine ev_methR ?_ ?_); (with_unfolding_all decide))
  | with_reducible refine exR_and ?_
  | with_reducible refine e2_eqR (by with_reducible assumption) ?_
  | with_reducible refine e2_eqI (by with_reducible assumption) ?_
  | with_reducible refine ixPr0 ?_
  | with_reducible refine ixPr1 ?_
  | with_reducible refine GS.en_ownReprG GS.XOk.no insRt ?_
  | with_reducible refine GS.en_ownBoolG GS.XOk.no insRt ?_
  | ((with_reducible show (0 : Int) < _ ∧ _); (refine And.intro ?_ ?_); (first | decide | assumption | omega))
  | ((with_reducible show L2.CPow _ _ ∧ _); refine And.intro ⟨by decide, by decide, by decide⟩ ?_)
  | ((with_reducible show L2.CMul _ _ ∧ _); (refine And.intro ?_ ?_); first | exact .inr ⟨by decide, by decide⟩ | exact .inl ⟨by decide, by decide⟩ | exact .inr ⟨by omega, by omega⟩ | exact .inl ⟨by omega, by omega⟩)
  | with_reducible refine GS.ev_prop GS.XOk.no ?_))

/-! ### the bag is laid -/
/-- the script, read by slices -/
def Scr (K : PySem.W.Frag) (s : Sh) (xs : List Int) : Prop := ∀ (j : J) (lo hi : Option Int) (q : Sh → Prop), q (.lst ((cutG xs lo hi).map Sh.int)) → E3 j (rSlL K) s lo hi q
theorem scr_frz {xs : List Int} : Scr K (.scr xs) xs := fun _ _ _ _ k => e3_scr k
theorem cut_map {xs : List Int} {lo hi : Option Int} : cutG (xs.map Sh.int) lo hi = (cutG xs lo hi).map Sh.int := by
  unfold cutG
  rw [List.length_map, List.map_take, List.map_drop]
theorem scr_lst {xs : List Int} : Scr K (.lst (xs.map Sh.int)) xs := fun _ _ _ _ k => e3_list (by rw [cut_map]; exact k)
theorem scr_ref {xs : List Int} {a : Addr} (h : ∀ H, SqL K H a (xs.map V.int)) : Scr K (.v (.ref a)) xs := fun j lo hi q k v H st xg h1 Q hQ => by
  cases h1
  refine ⟨a, _, rfl, h H, fun p hp => hQ _ k _ _ (.new st hp) (.lst (st.av hp) upd_same ?_)⟩
  have e : cutV (xs.map V.int) lo hi = (cutG xs lo hi).map V.int := by
    unfold cutV cutG
    rw [List.length_map, List.map_take, List.map_drop]
  rw [e]
  exact IsL.ints
def fsOpen (K : PySem.W.Frag) : Fs := fun _ l S => ∃ (s : Sh) (xs : List Int), l = [s] ∧ Scr K s xs ∧ ∀ (ys : List Int) (d : Int), 0 ≤ d → d < 2147483587 → S (.ret (.lst [.lst (ys.map Sh.int), .int 0, .int 0, .int d, .int 0]))
theorem cut_len {xs : List Int} : (cutG xs none (some 63)).length ≤ 63 := by
  unfold cutG
  have e := HT.sIx_nat xs.length xs.length 63
  rw [show (some ((63 : Nat) : Int)) = some 63 from rfl] at e
  rw [e, List.length_take]
  omega
theorem ok_open {f : Addr} {fd : FuncData} (F : Fun K "_law_open" "_law_open" s__law_open f fd) (T : Tx P K mg C Co fo) : FnOk P w K mg base CX0 1 f fd ["script"] (SpS (fsOpen K)) := by
  refine fun_okS F sc__law_open (fun M l S ⟨_, _, e, _⟩ => e ▸ rfl) fun cdv A outer s H E hr => ?_
  refine ⟨_, (pss_cons (ps_set (i := 1) sc__law_open.nd rfl (Or.inl rfl) pe_int)
      (pss_cons (ps_for PassesOwn.never rfl (pi_list (pe_slice sl_list (pv 0) po_none (po_some pe_int))) (pg_name (i := 2) sc__law_open.nd rfl (Or.inl rfl)) (pss_one (ps_set (i := 1) sc__law_open.nd rfl (Or.inl rfl) (pe_op op_mod (pe_callTy call_int1 (by rfl) T.n_int (by decide +kernel) (pa_cons (pe_op op_add (pe_op op_add (pe_op op_mul (pv 1) pe_int) (pe_op op_mul (pe_op op_mod (pe_callTy call_int1 (by rfl) T.n_int (by decide +kernel) (pa_cons (pv 2) pa_nil)) pe_int) pe_int)) pe_int) pa_nil)) pe_int))))
      (pss_one (ps_ret (pe_lst (pa_cons (pe_lc (own := [("cell", 2)]) (g := gName 2) (tt := tYes) rfl sc__law_open.nd (pi_list (pe_slice sl_list (pv 0) po_none (po_some pe_int))) (blkOk_by (N := ["script", "blend", "cell"]) (sc := defScope s__law_open) (by decide +kernel)) (fun _ _ _ _ _ => (pg_name (i := 2) sc__law_open.nd rfl (Or.inl rfl))) (fun _ _ _ _ _ => pts_nil) (fun _ _ _ _ _ => (pe_callTy call_int1 (by rfl) T.n_int (by decide +kernel) (pa_cons (pv 2) pa_nil)))) (pa_cons pe_int (pa_cons pe_int (pa_cons (pv 1) (pa_cons pe_int pa_nil)))))))))), ?_⟩
  rintro M l S ⟨sc, xs, rfl, hsc, k⟩
  show B _ _ _ _ _ _ _
  try simp only [cxK, cxKn]
  walk_at "k"
  refine b_for ?_
  walk_at "k"
  refine hsc _ _ _ _ ?_
  walk_at "k"
  refine ⟨fun _ ss => ∃ d o, ss = [some sc, some (.int d), o] ∧ 0 ≤ d ∧ d < 2147483587, ⟨_, _, rfl, by decide, by decide⟩, ?_, ?_⟩
  · rintro i s ss1 hi ⟨d, o, rfl, d0, d1⟩
    rw [List.getElem?_map] at hi
    cases hx : (cutG xs none (some 63))[i]? with
    | none => rw [hx] at hi; cases hi
    | some x =>
      rw [hx] at hi
      cases hi
      walk_at "k"
      exact ⟨_, _, rfl, Int.emod_nonneg _ (by decide), Int.emod_lt_of_pos _ (by decide)⟩
  · rintro ss1 ⟨d, o, rfl, d0, d1⟩
    walk_at "k"
    refine ev_lcMap (fun _ s => s) (tg_name (by decide)) ?_
    walk_at "k"
    refine hsc _ _ _ _ ?_
    walk_at "k"
    refine ⟨le_line (by rw [List.length_map]; have := cut_len (xs := xs); omega), fun D acc i s hi => ?_, ?_⟩
    · rw [List.getElem?_map] at hi
      cases hx : (cutG xs none (some 63))[i]? with
      | none => rw [hx] at hi; cases hi
      | some x =>
        rw [hx] at hi
        cases hi
        walk_at "k"
        exact rfl
    · walk_at "k"
      have e : ((cutG xs none (some 63)).map Sh.int).mapIdx (fun _ s => s) = (cutG xs none (some 63)).map Sh.int := List.ext_getElem? fun i => by
        rw [List.getElem?_mapIdx]
        cases ((cutG xs none (some 63)).map Sh.int)[i]? <;> rfl
      rw [e]
      exact k _ _ d0 d1
end
end KP

/-! K12E -/
set_option Elab.async false
set_option Elab.async false
set_option linter.all false
set_option maxRecDepth 100000
set_option maxHeartbeats 4000000
namespace KP
open PySem PySem.Spec PyProof.Rows L2 GM GS L2H LamX
local macro_rules | `(tactic| walk_at "sh") => `(tactic| repeat (first
  | ((with_reducible show GS.Ev _ _ _ _); first
    | with_reducible refine GS.ev_c ?_
    | ((with_reducible show GS.Ev _ (L2.tVar _) _ _); refine GS.ev_var rfl ?_)
    | with_reducible refine GS.ev_op ?_
    | with_reducible refine GS.ev_cb ?_
    | with_reducible refine GS.ev_un ?_
    | with_reducible refine GS.ev_tup ?_
    | with_reducible refine GS.ev_lst ?_
    | with_reducible refine GS.ev_if ?_
    | with_reducible refine GS.ev_andV ?_
    | with_reducible refine GS.ev_orV ?_
    | with_reducible refine GS.ev_notV ?_
    | with_reducible refine GS.ev_sl ?_
    | with_reducible refine GS.ev_fmtS ?_
    | with_reducible refine GS.ev_fmtL ?_
    | with_reducible refine GS.ev_joined ?_
    | with_reducible refine GS.ev_m1 ?_)
  | ((with_reducible show GS.E2 _ _ _ _ _); first
    | with_reducible refine GS.e2_I0 ?_
    | with_reducible refine GS.e2_I ?_
    | ((with_reducible refine GS.e2_eq ?_ ?_); exact rfl)
    | ((with_reducible refine GS.e2_ne ?_ ?_); exact rfl)
    | with_reducible refine GS.e2_isN ?_
    | with_reducible refine GS.e2_notN ?_
    | ((with_reducible show GS.E2 _ (L2.rIxL _) _ _ _); refine GS.e2_ixL rfl ?_)
    | ((with_reducible show GS.E2 _ (L2.rIxT _) _ _ _); refine GS.e2_ixT rfl ?_)
    | ((with_reducible show GS.E2 _ (L2.rIx _) (GS.Sh.lst _) _ _); refine GS.e2_ix_l rfl ?_)
    | ((with_reducible show GS.E2 _ (L2.rIx _) (GS.Sh.tup _) _ _); refine GS.e2_ix_t rfl ?_)
    | with_reducible refine GS.e2_cat ?_
    | with_reducible refine GS.e2_addS ?_
    | with_reducible refine GS.e2_inSign ?_)
  | ((with_reducible show GS.Ea _ _ _ _); first
    | with_reducible refine GS.ea_cons ?_
    | with_reducible refine GS.ea_nil ?_)
  | ((with_reducible show GS.Et _ _ _ _); first
    | with_reducible refine GS.et_B ?_
    | with_reducible refine GS.et_test ?_
    | with_reducible refine GS.et_not ?_
    | with_reducible refine GS.et_and ?_
    | with_reducible refine GS.et_or ?_
    | with_reducible refine GS.et_yes ?_
    | with_reducible refine GS.et_tru ?_)
  | ((with_reducible show GS.B _ _ _ _ _ _ _); first
    | with_reducible refine GS.b_seq ?_
    | with_reducible refine GS.b_if ?_
    | with_reducible refine GS.b_ret ?_
    | with_reducible refine GS.b_asg ?_
    | with_reducible refine GS.b_drop ?_
    | with_reducible refine GS.b_next ?_
    | with_reducible refine GS.b_par ?_
    | with_reducible refine GS.b_raise (fun _ => rfl) ?_)
  | with_reducible refine GS.eg_name ?_
  | with_reducible refine GS.egs_cons ?_
  | with_reducible refine GS.egs_nil ?_
  | ((with_reducible refine GS.eg_tup ?_ ?_); exact rfl)
  | with_reducible refine GS.e1_U ?_
  | ((with_reducible show GS.En _ _ _ _); first
    | with_reducible refine GS.en_len_l ?_
    | with_reducible refine GS.en_len_t ?_
    | with_reducible refine GS.en_len_str ?_
    | with_reducible refine GS.en_int ?_
    | with_reducible refine GS.en_bool ?_
    | with_reducible refine GS.en_abs ?_
    | with_reducible refine GS.en_str ?_
    | with_reducible refine GS.en_strL ?_
    | with_reducible refine GS.en_gcd ?_
    | with_reducible refine GS.en_list_l ?_
    | with_reducible refine GS.en_list_t ?_
    | with_reducible refine GS.en_tuple_l ?_)
  | with_reducible refine GS.ex_bl ?_
  | with_reducible refine GS.ex_str ?_
  | with_reducible refine GS.ex_int ?_
  | with_reducible refine GS.ex_v ?_
  | with_reducible refine GS.ex_two ?_
  | with_reducible refine GS.ex_lst ?_
  | with_reducible refine GS.ex_tup ?_
  | with_reducible refine GS.ex_lst1 ?_
  | with_reducible refine GS.ex_truS ?_
  | ((with_reducible show ∃ _, GS.TruS _ _ ∧ _); refine GS.ex_tru rfl ?_)
  | with_reducible refine GS.eo_no ?_
  | with_reducible refine GS.eo_yes ?_
  | with_reducible refine GS.e3_list ?_
  | with_reducible refine GS.e3_str ?_
  | with_reducible refine GS.ej_cons ?_
  | with_reducible refine GS.ej_nil ?_
  | with_reducible refine GS.em_split ?_
  | with_reducible refine GS.em_starts ?_
  | ((with_reducible show GS.Ei _ _ _ _); first
    | with_reducible refine GS.ei_list ?_
    | with_reducible refine GS.ei_tup ?_
    | with_reducible refine GS.ei_str ?_
    | with_reducible refine GS.ei_enum ?_
    | with_reducible refine GS.ei_zip ?_
    | with_reducible refine GS.ei_range1 ?_
    | with_reducible refine GS.ei_range2 ?_)
  | ((with_reducible show _ ∧ _); first
    | ((with_reducible refine And.intro ?_ ?_); (with_reducible assumption))
    | ((with_reducible refine GS.sz_and ?_ ?_); exact rfl)
    | ((with_reducible refine GS.cnd_t ?_ ?_); exact rfl)
    | ((with_reducible refine GS.cnd_f ?_ ?_); exact rfl))))

/-! ### errors -/
/-- what the top says of the errors: ad tells the classes' places, Co is that of OutOf -/
structure Er (K : PySem.W.Frag) (mg : Str → Option Value) (Co : Addr) (ad : Nat → Addr) : Prop where
  g0 : mg "BadRule" = some (.ref (ad 0))
  is0 : PySem.W.kitOne K (.ref Co) (.ref (ad 0)) = some false
  g1 : mg "BadScatter" = some (.ref (ad 1))
  is1 : PySem.W.kitOne K (.ref Co) (.ref (ad 1)) = some false
  g2 : mg "BadBook" = some (.ref (ad 2))
  is2 : PySem.W.kitOne K (.ref Co) (.ref (ad 2)) = some false
  g3 : mg "BadPaper" = some (.ref (ad 3))
  is3 : PySem.W.kitOne K (.ref Co) (.ref (ad 3)) = some false
  g4 : mg "BadClock" = some (.ref (ad 4))
  is4 : PySem.W.kitOne K (.ref Co) (.ref (ad 4)) = some false
  g5 : mg "BadScript" = some (.ref (ad 5))
  is5 : PySem.W.kitOne K (.ref Co) (.ref (ad 5)) = some false
  g6 : mg "NotWhole" = some (.ref (ad 6))
  is6 : PySem.W.kitOne K (.ref Co) (.ref (ad 6)) = some false
  g7 : mg "OutOf" = some (.ref (ad 7))
  is7 : PySem.W.kitOne K (.ref Co) (.ref (ad 7)) = some true
  g8 : mg "Unlike" = some (.ref (ad 8))
  is8 : PySem.W.kitOne K (.ref Co) (.ref (ad 8)) = some false
  g9 : mg "TooMany" = some (.ref (ad 9))
  is9 : PySem.W.kitOne K (.ref Co) (.ref (ad 9)) = some false
  g10 : mg "NoSuch" = some (.ref (ad 10))
  is10 : PySem.W.kitOne K (.ref Co) (.ref (ad 10)) = some false
  g11 : mg "Ended" = some (.ref (ad 11))
  is11 : PySem.W.kitOne K (.ref Co) (.ref (ad 11)) = some false
  g12 : mg "GlintError" = some (.ref (ad 12))
  is12 : PySem.W.kitOne K (.ref Co) (.ref (ad 12)) = some true
  n_KeyError : mg "KeyError" = none
  is_KeyError : PySem.W.kitOne K (.ref Co) (.type "KeyError") = some false
  n_IndexError : mg "IndexError" = none
  is_IndexError : PySem.W.kitOne K (.ref Co) (.type "IndexError") = some false
  n_ValueError : mg "ValueError" = none
  is_ValueError : PySem.W.kitOne K (.ref Co) (.type "ValueError") = some true
  n_LookupError : mg "LookupError" = none
  is_LookupError : PySem.W.kitOne K (.ref Co) (.type "LookupError") = some false
  n_RuntimeError : mg "RuntimeError" = none
  is_RuntimeError : PySem.W.kitOne K (.ref Co) (.type "RuntimeError") = some false
  exc : ExcC K Co
  xf : XfC K Co
  noW : PySem.W.findIn K (.ref Co) "what" = some none
  exm : PySem.W.exmAny K (.ref Co) [.ref (ad 12), .ref (ad 10), .ref (ad 11)] = some true
section
variable {P : Program} {w : World} {K : PySem.W.Frag} {mg : Str → Option Value} {base : Heap} {C Co fo : Addr} {ad : Nat → Addr} {j : J} {q : Sh → Prop} {x : Sh} {a dd : Addr} {ex : Addr → List (Str × V) → Prop}
theorem isO_0 (R : Er K mg Co ad) (hd : (dd, Hk.xd outN) ∈ j.M.held) (k : q (.bl false)) : En j (fun xs H Q => (∃ fs, H dd = some (.xd fs)) ∧ rIsE K Co a xs H Q) [.v (.ref a), .v (.ref (ad 0))] q := en_isO hd (fun _ z => z) R.is0 k
theorem isO_1 (R : Er K mg Co ad) (hd : (dd, Hk.xd outN) ∈ j.M.held) (k : q (.bl false)) : En j (fun xs H Q => (∃ fs, H dd = some (.xd fs)) ∧ rIsE K Co a xs H Q) [.v (.ref a), .v (.ref (ad 1))] q := en_isO hd (fun _ z => z) R.is1 k
theorem isO_2 (R : Er K mg Co ad) (hd : (dd, Hk.xd outN) ∈ j.M.held) (k : q (.bl false)) : En j (fun xs H Q => (∃ fs, H dd = some (.xd fs)) ∧ rIsE K Co a xs H Q) [.v (.ref a), .v (.ref (ad 2))] q := en_isO hd (fun _ z => z) R.is2 k
theorem isO_3 (R : Er K mg Co ad) (hd : (dd, Hk.xd outN) ∈ j.M.held) (k : q (.bl false)) : En j (fun xs H Q => (∃ fs, H dd = some (.xd fs)) ∧ rIsE K Co a xs H Q) [.v (.ref a), .v (.ref (ad 3))] q := en_isO hd (fun _ z => z) R.is3 k
theorem isO_4 (R : Er K mg Co ad) (hd : (dd, Hk.xd outN) ∈ j.M.held) (k : q (.bl false)) : En j (fun xs H Q => (∃ fs, H dd = some (.xd fs)) ∧ rIsE K Co a xs H Q) [.v (.ref a), .v (.ref (ad 4))] q := en_isO hd (fun _ z => z) R.is4 k
theorem isO_5 (R : Er K mg Co ad) (hd : (dd, Hk.xd outN) ∈ j.M.held) (k : q (.bl false)) : En j (fun xs H Q => (∃ fs, H dd = some (.xd fs)) ∧ rIsE K Co a xs H Q) [.v (.ref a), .v (.ref (ad 5))] q := en_isO hd (fun _ z => z) R.is5 k
theorem isO_6 (R : Er K mg Co ad) (hd : (dd, Hk.xd outN) ∈ j.M.held) (k : q (.bl false)) : En j (fun xs H Q => (∃ fs, H dd = some (.xd fs)) ∧ rIsE K Co a xs H Q) [.v (.ref a), .v (.ref (ad 6))] q := en_isO hd (fun _ z => z) R.is6 k
theorem isO_7 (R : Er K mg Co ad) (hd : (dd, Hk.xd outN) ∈ j.M.held) (k : q (.bl true)) : En j (fun xs H Q => (∃ fs, H dd = some (.xd fs)) ∧ rIsE K Co a xs H Q) [.v (.ref a), .v (.ref (ad 7))] q := en_isO hd (fun _ z => z) R.is7 k
theorem isO_8 (R : Er K mg Co ad) (hd : (dd, Hk.xd outN) ∈ j.M.held) (k : q (.bl false)) : En j (fun xs H Q => (∃ fs, H dd = some (.xd fs)) ∧ rIsE K Co a xs H Q) [.v (.ref a), .v (.ref (ad 8))] q := en_isO hd (fun _ z => z) R.is8 k
theorem isO_9 (R : Er K mg Co ad) (hd : (dd, Hk.xd outN) ∈ j.M.held) (k : q (.bl false)) : En j (fun xs H Q => (∃ fs, H dd = some (.xd fs)) ∧ rIsE K Co a xs H Q) [.v (.ref a), .v (.ref (ad 9))] q := en_isO hd (fun _ z => z) R.is9 k
theorem isO_10 (R : Er K mg Co ad) (hd : (dd, Hk.xd outN) ∈ j.M.held) (k : q (.bl false)) : En j (fun xs H Q => (∃ fs, H dd = some (.xd fs)) ∧ rIsE K Co a xs H Q) [.v (.ref a), .v (.ref (ad 10))] q := en_isO hd (fun _ z => z) R.is10 k
theorem isO_11 (R : Er K mg Co ad) (hd : (dd, Hk.xd outN) ∈ j.M.held) (k : q (.bl false)) : En j (fun xs H Q => (∃ fs, H dd = some (.xd fs)) ∧ rIsE K Co a xs H Q) [.v (.ref a), .v (.ref (ad 11))] q := en_isO hd (fun _ z => z) R.is11 k
theorem isO_12 (R : Er K mg Co ad) (hd : (dd, Hk.xd outN) ∈ j.M.held) (k : q (.bl true)) : En j (fun xs H Q => (∃ fs, H dd = some (.xd fs)) ∧ rIsE K Co a xs H Q) [.v (.ref a), .v (.ref (ad 12))] q := en_isO hd (fun _ z => z) R.is12 k
theorem isO_KeyError (R : Er K mg Co ad) (hd : (dd, Hk.xd outN) ∈ j.M.held) (k : q (.bl false)) : En j (fun xs H Q => (∃ fs, H dd = some (.xd fs)) ∧ rIsE K Co a xs H Q) [.v (.ref a), .v (.ty "KeyError")] q := en_isO hd (fun _ z => z) R.is_KeyError k
theorem isO_IndexError (R : Er K mg Co ad) (hd : (dd, Hk.xd outN) ∈ j.M.held) (k : q (.bl false)) : En j (fun xs H Q => (∃ fs, H dd = some (.xd fs)) ∧ rIsE K Co a xs H Q) [.v (.ref a), .v (.ty "IndexError")] q := en_isO hd (fun _ z => z) R.is_IndexError k
theorem isO_ValueError (R : Er K mg Co ad) (hd : (dd, Hk.xd outN) ∈ j.M.held) (k : q (.bl true)) : En j (fun xs H Q => (∃ fs, H dd = some (.xd fs)) ∧ rIsE K Co a xs H Q) [.v (.ref a), .v (.ty "ValueError")] q := en_isO hd (fun _ z => z) R.is_ValueError k
theorem isO_LookupError (R : Er K mg Co ad) (hd : (dd, Hk.xd outN) ∈ j.M.held) (k : q (.bl false)) : En j (fun xs H Q => (∃ fs, H dd = some (.xd fs)) ∧ rIsE K Co a xs H Q) [.v (.ref a), .v (.ty "LookupError")] q := en_isO hd (fun _ z => z) R.is_LookupError k
theorem isO_RuntimeError (R : Er K mg Co ad) (hd : (dd, Hk.xd outN) ∈ j.M.held) (k : q (.bl false)) : En j (fun xs H Q => (∃ fs, H dd = some (.xd fs)) ∧ rIsE K Co a xs H Q) [.v (.ref a), .v (.ty "RuntimeError")] q := en_isO hd (fun _ z => z) R.is_RuntimeError k
local macro_rules | `(tactic| walk_at "k") => `(tactic| repeat (first
  | ((with_reducible show GS.Ev _ _ _ _); first
    | with_reducible refine GS.ev_c ?_
    | ((with_reducible show GS.Ev _ (L2.tVar _) _ _); refine GS.ev_var rfl ?_)
    | with_reducible refine GS.ev_op ?_
    | with_reducible refine GS.ev_cb ?_
    | with_reducible refine GS.ev_un ?_
    | with_reducible refine GS.ev_tup ?_
    | with_reducible refine GS.ev_lst ?_
    | with_reducible refine GS.ev_if ?_
    | with_reducible refine GS.ev_andV ?_
    | with_reducible refine GS.ev_orV ?_
    | with_reducible refine GS.ev_notV ?_
    | with_reducible refine GS.ev_sl ?_
    | with_reducible refine GS.ev_fmtS ?_
    | with_reducible refine GS.ev_fmtL ?_
    | with_reducible refine GS.ev_joined ?_
    | with_reducible refine GS.ev_m1 ?_)
  | ((with_reducible show GS.E2 _ _ _ _ _); first
    | with_reducible refine GS.e2_I0 ?_
    | with_reducible refine GS.e2_I ?_
    | ((with_reducible refine GS.e2_eq ?_ ?_); exact rfl)
    | ((with_reducible refine GS.e2_ne ?_ ?_); exact rfl)
    | with_reducible refine GS.e2_isN ?_
    | with_reducible refine GS.e2_notN ?_
    | ((with_reducible show GS.E2 _ (L2.rIxL _) _ _ _); refine GS.e2_ixL rfl ?_)
    | ((with_reducible show GS.E2 _ (L2.rIxT _) _ _ _); refine GS.e2_ixT rfl ?_)
    | ((with_reducible show GS.E2 _ (L2.rIx _) (GS.Sh.lst _) _ _); refine GS.e2_ix_l rfl ?_)
    | ((with_reducible show GS.E2 _ (L2.rIx _) (GS.Sh.tup _) _ _); refine GS.e2_ix_t rfl ?_)
    | with_reducible refine GS.e2_cat ?_
    | with_reducible refine GS.e2_addS ?_
    | with_reducible refine GS.e2_inSign ?_)
  | ((with_reducible show GS.Ea _ _ _ _); first
    | with_reducible refine GS.ea_cons ?_
    | with_reducible refine GS.ea_nil ?_)
  | ((with_reducible show GS.Et _ _ _ _); first
    | with_reducible refine GS.et_B ?_
    | with_reducible refine GS.et_test ?_
    | with_reducible refine GS.et_not ?_
    | with_reducible refine GS.et_and ?_
    | with_reducible refine GS.et_or ?_
    | with_reducible refine GS.et_yes ?_
    | with_reducible refine GS.et_tru ?_)
  | ((with_reducible show GS.B _ _ _ _ _ _ _); first
    | with_reducible refine GS.b_seq ?_
    | with_reducible refine GS.b_if ?_
    | with_reducible refine GS.b_ret ?_
    | with_reducible refine GS.b_asg ?_
    | with_reducible refine GS.b_drop ?_
    | with_reducible refine GS.b_next ?_
    | with_reducible refine GS.b_par ?_
    | with_reducible refine GS.b_raise (fun _ => rfl) ?_)
  | with_reducible refine GS.eg_name ?_
  | with_reducible refine GS.egs_cons ?_
  | with_reducible refine GS.egs_nil ?_
  | ((with_reducible refine GS.eg_tup ?_ ?_); exact rfl)
  | with_reducible refine GS.e1_U ?_
  | ((with_reducible show GS.En _ _ _ _); first
    | with_reducible refine GS.en_len_l ?_
    | with_reducible refine GS.en_len_t ?_
    | with_reducible refine GS.en_len_str ?_
    | with_reducible refine GS.en_int ?_
    | with_reducible refine GS.en_bool ?_
    | with_reducible refine GS.en_abs ?_
    | with_reducible refine GS.en_str ?_
    | with_reducible refine GS.en_strL ?_
    | with_reducible refine GS.en_gcd ?_
    | with_reducible refine GS.en_list_l ?_
    | with_reducible refine GS.en_list_t ?_
    | with_reducible refine GS.en_tuple_l ?_)
  | ((with_reducible show GS.En _ _ [GS.Sh.v (L2.V.ref _), _] _); first
    | with_reducible refine isO_0 (by with_reducible assumption) (by with_reducible assumption) ?_
    | with_reducible refine isO_1 (by with_reducible assumption) (by with_reducible assumption) ?_
    | with_reducible refine isO_2 (by with_reducible assumption) (by with_reducible assumption) ?_
    | with_reducible refine isO_3 (by with_reducible assumption) (by with_reducible assumption) ?_
    | with_reducible refine isO_4 (by with_reducible assumption) (by with_reducible assumption) ?_
    | with_reducible refine isO_5 (by with_reducible assumption) (by with_reducible assumption) ?_
    | with_reducible refine isO_6 (by with_reducible assumption) (by with_reducible assumption) ?_
    | with_reducible refine isO_7 (by with_reducible assumption) (by with_reducible assumption) ?_
    | with_reducible refine isO_8 (by with_reducible assumption) (by with_reducible assumption) ?_
    | with_reducible refine isO_9 (by with_reducible assumption) (by with_reducible assumption) ?_
    | with_reducible refine isO_10 (by with_reducible assumption) (by with_reducible assumption) ?_
    | with_reducible refine isO_11 (by with_reducible assumption) (by with_reducible assumption) ?_
    | with_reducible refine isO_12 (by with_reducible assumption) (by with_reducible assumption) ?_
    | with_reducible refine isO_KeyError (by with_reducible assumption) (by with_reducible assumption) ?_
    | with_reducible refine isO_IndexError (by with_reducible assumption) (by with_reducible assumption) ?_
    | with_reducible refine isO_ValueError (by with_reducible assumption) (by with_reducible assumption) ?_
    | with_reducible refine isO_LookupError (by with_reducible assumption) (by with_reducible assumption) ?_
    | with_reducible refine isO_RuntimeError (by with_reducible assumption) (by with_reducible assumption) ?_)
  | with_reducible refine GS.ev_bmL ?_
  | with_reducible refine GS.ex_bl ?_
  | with_reducible refine GS.ex_str ?_
  | with_reducible refine GS.ex_int ?_
  | with_reducible refine GS.ex_v ?_
  | with_reducible refine GS.ex_two ?_
  | with_reducible refine GS.ex_lst ?_
  | with_reducible refine GS.ex_tup ?_
  | with_reducible refine GS.ex_lst1 ?_
  | with_reducible refine GS.ex_truS ?_
  | ((with_reducible show ∃ _, GS.TruS _ _ ∧ _); refine GS.ex_tru rfl ?_)
  | with_reducible refine GS.eo_no ?_
  | with_reducible refine GS.eo_yes ?_
  | with_reducible refine GS.e3_list ?_
  | with_reducible refine GS.e3_str ?_
  | with_reducible refine GS.ej_cons ?_
  | with_reducible refine GS.ej_nil ?_
  | with_reducible refine GS.em_split ?_
  | with_reducible refine GS.em_starts ?_
  | ((with_reducible show GS.Ei _ _ _ _); first
    | with_reducible refine GS.ei_list ?_
    | with_reducible refine GS.ei_tup ?_
    | with_reducible refine GS.ei_str ?_
    | with_reducible refine GS.ei_enum ?_
    | with_reducible refine GS.ei_zip ?_
    | with_reducible refine GS.ei_range1 ?_
    | with_reducible refine GS.ei_range2 ?_)
  | ((with_reducible show _ ∧ _); first
    | ((with_reducible refine And.intro ?_ ?_); (with_reducible assumption))
    | ((with_reducible refine GS.sz_and ?_ ?_); exact rfl)
    | ((with_reducible refine GS.cnd_t ?_ ?_); exact rfl)
    | ((with_reducible refine GS.cnd_f ?_ ?_); exact rfl))
  | ((with_reducible show GS.En _ (L2.rIsi _) _ _); first
    | ((with_reducible apply isi_int (by with_reducible assumption)); (first | with_reducible assumption | exact knd_int | exact knd_bl | exact knd_str | exact knd_non | exact knd_lst | exact knd_tup | exact knd_rat (by assumption)))
    | ((with_reducible apply isi_bool (by with_reducible assumption)); (first | with_reducible assumption | exact knd_int | exact knd_bl | exact knd_str | exact knd_non | exact knd_lst | exact knd_tup | exact knd_rat (by assumption)))
    | ((with_reducible apply isi_str (by with_reducible assumption)); (first | with_reducible assumption | exact knd_int | exact knd_bl | exact knd_str | exact knd_non | exact knd_lst | exact knd_tup | exact knd_rat (by assumption)))
    | ((with_reducible apply isi_tuple (by with_reducible assumption)); (first | with_reducible assumption | exact knd_int | exact knd_bl | exact knd_str | exact knd_non | exact knd_lst | exact knd_tup | exact knd_rat (by assumption)))
    | ((with_reducible apply isi_list (by with_reducible assumption)); (first | with_reducible assumption | exact knd_int | exact knd_bl | exact knd_str | exact knd_non | exact knd_lst | exact knd_tup | exact knd_rat (by assumption)))
    | ((with_reducible apply isi_rat (by with_reducible assumption)); (first | with_reducible assumption | exact knd_int | exact knd_bl | exact knd_str | exact knd_non | exact knd_lst | exact knd_tup | exact knd_rat (by assumption))))
  | (with_reducible refine ev_top (by with_reducible assumption) ?_)
  | (with_reducible refine ev_bot (by with_reducible assumption) ?_)
  | with_reducible refine ex_rat ?_
  | with_reducible refine GS.ev_call (E := L2.E0) GS.XOk.no ?_
  | with_reducible refine GS.ev_call GS.XOk.own ?_
  | ((with_reducible show GS.Callx _ _ _ _ _); first
    | ((with_reducible apply use_integral); (first | with_reducible assumption | exact knd_int | exact knd_bl | exact knd_str | exact knd_non | exact knd_lst | exact knd_tup | exact knd_rat (by assumption)))
    | ((with_reducible apply use_parts); first | with_reducible assumption | exact num_rat | exact num_int)
    | ((with_reducible refine use_digits ?_ ?_); with_reducible assumption)
    | ((with_reducible refine use_intof ?_ ?_); with_reducible assumption)
    | ((with_reducible refine use_frac ?_ ?_); with_reducible assumption)
    | with_reducible refine use_gcd ?_
    | with_reducible refine use_isR ?_
    | ((with_reducible apply use_repr); (with_reducible assumption))
    | with_reducible refine use_bool ?_
    | ((with_reducible apply use_num); (with_reducible assumption))
    | ((with_reducible apply use_text); (with_reducible assumption))
    | with_reducible refine use_same_str ?_
    | with_reducible refine use_same_bl ?_
    | with_reducible refine use_same_l3 ?_
    | with_reducible refine use_same_t2 ?_
    | ((with_reducible apply use_right); (with_reducible assumption))
    | ((with_reducible apply use_low); (with_reducible assumption); (with_reducible assumption)))
  | with_reducible refine GS.ev_make (E := L2.E0) GS.XOk.no ?_
  | with_reducible refine GS.ev_make GS.XOk.own ?_
  | ((with_reducible show L2.CMulW _ _ ∧ _); refine And.intro (cmw (by with_reducible assumption) (by with_reducible assumption)) ?_)
  | ((with_reducible refine use_init ?_ ?_ ?_); (with_reducible assumption); (with_reducible assumption))
  | with_reducible refine ex_insR ?_
  | ((with_reducible apply use_plusI); (with_reducible assumption); (with_reducible assumption))
  | ((with_reducible apply use_rightI); (with_reducible assumption))
  | ((with_reducible apply use_mk2); (with_reducible assumption))
  | ((with_reducible apply use_mk1); (with_reducible assumption))
  | ((with_reducible apply e2_add); (with_reducible assumption); (with_reducible assumption))
  | ((with_reducible apply e2_sub); (with_reducible assumption); (with_reducible assumption))
  | ((with_reducible apply e2_mul); (with_reducible assumption); (with_reducible assumption))
  | ((with_reducible apply e2_addI); (with_reducible assumption); (with_reducible assumption))
  | ((with_reducible apply e2_subI); (with_reducible assumption); (with_reducible assumption))
  | ((with_reducible apply e2_mulI); (with_reducible assumption); (with_reducible assumption))
  | ((with_reducible apply e1_neg); (with_reducible assumption))
  | ((with_reducible apply use_plus); (with_reducible assumption); (with_reducible assumption))
  | ((with_reducible apply use_plusN); (with_reducible assumption); (with_reducible assumption))
  | ((with_reducible apply use_times); (with_reducible assumption); (with_reducible assumption))
  | ((with_reducible apply use_over); (with_reducible assumption); (with_reducible assumption); (with_reducible assumption))
  | ((with_reducible apply use_overI); (with_reducible assumption); (with_reducible assumption); (with_reducible assumption))
  | ((with_reducible apply use_read); (with_reducible assumption); (with_reducible assumption))
  | with_reducible refine ev_readR ?_
  | with_reducible refine cr_and ?_
  | ((with_reducible refine egPr ?_ ?_); exact rfl)
  | ((with_reducible refine ev_methR ?_ ?_); (with_unfolding_all decide))
  | with_reducible refine exR_and ?_
  | with_reducible refine e2_eqR (by with_reducible assumption) ?_
  | with_reducible refine e2_eqI (by with_reducible assumption) ?_
  | with_reducible refine ixPr0 ?_
  | with_reducible refine ixPr1 ?_
  | with_reducible refine GS.en_ownReprG GS.XOk.no insRt ?_
  | with_reducible refine GS.en_ownBoolG GS.XOk.no insRt ?_
  | ((with_reducible show (0 : Int) < _ ∧ _); (refine And.intro ?_ ?_); (first | decide | assumption | omega))
  | ((with_reducible show L2.CPow _ _ ∧ _); refine And.intro ⟨by decide, by decide, by decide⟩ ?_)
  | ((with_reducible show L2.CMul _ _ ∧ _); (refine And.intro ?_ ?_); first | exact .inr ⟨by decide, by decide⟩ | exact .inl ⟨by decide, by decide⟩ | exact .inr ⟨by omega, by omega⟩ | exact .inl ⟨by omega, by omega⟩)
  | with_reducible refine GS.ev_prop GS.XOk.no ?_))

theorem cxHK {CX : CXT} {P : Program} {w : World} {K : PySem.W.Frag} {mg : Str → Option Value} {base : Heap} {N : List Str} {qual : Str} {scope : Scope} {f : Addr} {cd : Value} {A : Around} {outer : List Env} {s : Shared} {H : Hp} {E : XK} {p : Addr × Obj} : (cxH CX P w K mg base N qual scope f cd A outer s H E p).K = K := rfl
abbrev outT : Sh := .tup [.str "OutOf", .str "number"]
/-- what _law_error promises of a held error -/
def SpErr (dd : Addr) (Q : VK) (H : Hp) : Prop := ∃ M, St M H ∧ Av M dd ∧ H dd = some (.xd outN) ∧ Ret M H Q outT
theorem err_body {ts : TS} {N : List Str} {H : Hp} {Q : VK} (h : SpErr dd Q H) (hb : ∀ M : Mode, Bd ⟨M.hold dd (.xd outN), fun _ _ _ => False, fun _ _ => False⟩ ts (starts N [.v (.ref a)]) ⟨fun r => r = outT, fun _ => False, fun _ => False, fun _ => False⟩) :
    ts { nx := fun _ H' => Q .non H', rt := Q } (L2.start N [.ref a]) H := by
  obtain ⟨M, st, av, hd, hQ⟩ := h
  exact hb M _ _ H (st.holdX av hd) (fun _ _ z => z.elim) (SE.starts (.cons (.v _) .nil)) ⟨fun r e => by subst e; exact hQ.hold av hd, fun _ z => z.elim, fun _ z => z.elim, fun _ z => z.elim⟩
theorem body_error {f : Addr} {cdv : Value} {A : Around} {outer : List Env} {s : Shared} {H : Hp} {E : XK} {Q : VK} {oe : Obj} {k : Nat} (T : Tx P K mg C Co fo) (R : Er K mg Co ad) (hz : Zc (.ref Co) (some dd) oe) (hf : ∃ vs, oe.data = .fields vs)
    (hr : RoomH k (A.deeper (envOfC "_law_error" (defScope s__law_error) s.heap.objs.size f cdv))) (h : SpErr dd Q H) :
    ∃ t, PSs (cxH CX0 P w K mg base ["e", "marks", "spot", "above", "named"] "_law_error" (defScope s__law_error) f cdv A outer s H E (a, oe)) (defBody s__law_error) t ∧ t { nx := fun _ H' => Q .non H', rt := Q } (L2.start ["e", "marks", "spot", "above", "named"] [.ref a]) H := by
  have hp : (a, oe) ∈ (cxH CX0 P w K mg base ["e", "marks", "spot", "above", "named"] "_law_error" (defScope s__law_error) f cdv A outer s H E (a, oe)).pn := List.mem_cons_self
  refine ⟨_, (pss_cons (ps_set (i := 1) sc__law_error.nd rfl (Or.inl rfl) (pe_lst (pa_cons (pe_callB (call_isO R.exc hp hz hf) (by rfl) T.n_isinstance (by decide +kernel) (pa_cons (pv 0) (pa_cons (pe_glob (v := .ref (ad 0)) (by rfl) R.g0 rfl) pa_nil))) (pa_cons (pe_callB (call_isO R.exc hp hz hf) (by rfl) T.n_isinstance (by decide +kernel) (pa_cons (pv 0) (pa_cons (pe_glob (v := .ref (ad 1)) (by rfl) R.g1 rfl) pa_nil))) (pa_cons (pe_callB (call_isO R.exc hp hz hf) (by rfl) T.n_isinstance (by decide +kernel) (pa_cons (pv 0) (pa_cons (pe_glob (v := .ref (ad 2)) (by rfl) R.g2 rfl) pa_nil))) (pa_cons (pe_callB (call_isO R.exc hp hz hf) (by rfl) T.n_isinstance (by decide +kernel) (pa_cons (pv 0) (pa_cons (pe_glob (v := .ref (ad 3)) (by rfl) R.g3 rfl) pa_nil))) (pa_cons (pe_callB (call_isO R.exc hp hz hf) (by rfl) T.n_isinstance (by decide +kernel) (pa_cons (pv 0) (pa_cons (pe_glob (v := .ref (ad 4)) (by rfl) R.g4 rfl) pa_nil))) pa_nil)))))))
      (pss_cons (ps_set (i := 1) sc__law_error.nd rfl (Or.inl rfl) (pe_op op_cat (pv 1) (pe_lst (pa_cons (pe_callB (call_isO R.exc hp hz hf) (by rfl) T.n_isinstance (by decide +kernel) (pa_cons (pv 0) (pa_cons (pe_glob (v := .ref (ad 5)) (by rfl) R.g5 rfl) pa_nil))) (pa_cons (pe_callB (call_isO R.exc hp hz hf) (by rfl) T.n_isinstance (by decide +kernel) (pa_cons (pv 0) (pa_cons (pe_glob (v := .ref (ad 6)) (by rfl) R.g6 rfl) pa_nil))) (pa_cons (pe_callB (call_isO R.exc hp hz hf) (by rfl) T.n_isinstance (by decide +kernel) (pa_cons (pv 0) (pa_cons (pe_glob (v := .ref (ad 7)) (by rfl) R.g7 rfl) pa_nil))) (pa_cons (pe_callB (call_isO R.exc hp hz hf) (by rfl) T.n_isinstance (by decide +kernel) (pa_cons (pv 0) (pa_cons (pe_glob (v := .ref (ad 8)) (by rfl) R.g8 rfl) pa_nil))) (pa_cons (pe_callB (call_isO R.exc hp hz hf) (by rfl) T.n_isinstance (by decide +kernel) (pa_cons (pv 0) (pa_cons (pe_glob (v := .ref (ad 9)) (by rfl) R.g9 rfl) pa_nil))) pa_nil))))))))
      (pss_cons (ps_set (i := 1) sc__law_error.nd rfl (Or.inl rfl) (pe_op op_cat (pv 1) (pe_lst (pa_cons (pe_callB (call_isO R.exc hp hz hf) (by rfl) T.n_isinstance (by decide +kernel) (pa_cons (pv 0) (pa_cons (pe_glob (v := .ref (ad 10)) (by rfl) R.g10 rfl) pa_nil))) (pa_cons (pe_callB (call_isO R.exc hp hz hf) (by rfl) T.n_isinstance (by decide +kernel) (pa_cons (pv 0) (pa_cons (pe_glob (v := .ref (ad 11)) (by rfl) R.g11 rfl) pa_nil))) pa_nil)))))
      (pss_cons (ps_if (PW.pt (pw_or (pt_cmpR op_ne (pe_bm PySem.F.plainAttrs_list PySem.F.slot_list_count PySem.F.type_list_count mt_countF (pv 1) (pa_cons pe_bl pa_nil)) pe_int (nomark _)) (pw_or (pt_val (pe_callB (call_isO R.exc hp hz hf) (by rfl) T.n_isinstance (by decide +kernel) (pa_cons (pv 0) (pa_cons (pe_bltn (v := .ty "KeyError") (u := .type "KeyError") (by rfl) R.n_KeyError (by decide +kernel) rfl) pa_nil)))) (pw_or1 (pt_val (pe_callB (call_isO R.exc hp hz hf) (by rfl) T.n_isinstance (by decide +kernel) (pa_cons (pv 0) (pa_cons (pe_bltn (v := .ty "IndexError") (u := .type "IndexError") (by rfl) R.n_IndexError (by decide +kernel) rfl) pa_nil)))))))) (pss_one (ps_ret (pe_tup (pa_cons pe_str pa_nil)))) pss_nil)
      (pss_cons (ps_set (i := 2) sc__law_error.nd rfl (Or.inl rfl) (pe_bm PySem.F.plainAttrs_list PySem.F.slot_list_index PySem.F.type_list_index mt_index (pv 1) (pa_cons pe_bl pa_nil)))
      (pss_cons (ps_set (i := 3) sc__law_error.nd rfl (Or.inl rfl) (pe_tup (pa_cons (pe_callB (call_isO R.exc hp hz hf) (by rfl) T.n_isinstance (by decide +kernel) (pa_cons (pv 0) (pa_cons (pe_bltn (v := .ty "ValueError") (u := .type "ValueError") (by rfl) R.n_ValueError (by decide +kernel) rfl) pa_nil))) (pa_cons (pe_callB (call_isO R.exc hp hz hf) (by rfl) T.n_isinstance (by decide +kernel) (pa_cons (pv 0) (pa_cons (pe_glob (v := .ref (ad 12)) (by rfl) R.g12 rfl) pa_nil))) (pa_cons (pe_callB (call_isO R.exc hp hz hf) (by rfl) T.n_isinstance (by decide +kernel) (pa_cons (pv 0) (pa_cons (pe_bltn (v := .ty "LookupError") (u := .type "LookupError") (by rfl) R.n_LookupError (by decide +kernel) rfl) pa_nil))) (pa_cons (pe_callB (call_isO R.exc hp hz hf) (by rfl) T.n_isinstance (by decide +kernel) (pa_cons (pv 0) (pa_cons (pe_bltn (v := .ty "RuntimeError") (u := .type "RuntimeError") (by rfl) R.n_RuntimeError (by decide +kernel) rfl) pa_nil))) pa_nil))))))
      (pss_cons (ps_if (pt_cmpR (op_neD hr.units) (pv 3) (pe_tup (pa_cons (pe_cmpR op_lt (pv 2) pe_int (nomark _)) (pa_cons (pe_cmpR op_lt (pv 2) pe_int (nomark _)) (pa_cons (pe_cmpR op_eq (pv 2) pe_int (nomark _)) (pa_cons (pe_cmpR op_eq (pv 2) pe_int (nomark _)) pa_nil))))) (nomark _)) (pss_one (ps_ret (pe_tup (pa_cons pe_str pa_nil)))) pss_nil)
      (pss_cons (ps_if (pt_cmpR op_lt (pv 2) pe_int (nomark _)) (pss_cons ps_never
      (pss_one ps_never)) pss_nil)
      (pss_cons (ps_if (pt_cmpR op_eq (pv 2) pe_int (nomark _)) (pss_one ps_never) pss_nil)
      (pss_cons (ps_if (pt_cmpR op_eq (pv 2) pe_int (nomark _)) (pss_one ps_never) pss_nil)
      (pss_one (ps_ret (pe_ifExp (pt_cmpR op_eq (pv 2) pe_int (nomark _)) (pe_tup (pa_cons pe_str (pa_cons pe_never pa_nil))) (pe_tup (pa_cons (pe_ix (r := rIxL K) ix_list (pe_lst (pa_cons pe_str (pa_cons pe_str (pa_cons pe_str (pa_cons pe_str (pa_cons pe_str pa_nil)))))) (pe_op op_sub (pv 2) pe_int) (fun _ _ => rfl)) (pa_cons (pe_xfO R.xf R.noW hp hz hf (pv 0)) pa_nil)))))))))))))))), ?_⟩
  refine err_body h fun M => ?_
  show B _ _ _ _ _ _ _
  try simp only [cxHK]
  have hmem : ∀ o : Nat, (dd, Hk.xd outN) ∈ (M.hold dd (.xd outN)).held := fun _ => List.mem_cons_self
  have hmem := hmem 0
  walk_at "k"
  refine ⟨le_line (by simp), ?_⟩
  walk_at "k"
  refine ⟨le_line (by simp), ?_⟩
  walk_at "k"
  refine ⟨⟨_, rfl⟩, ?_⟩
  walk_at "k"
  refine em_countB (l := [false, false, false, false, false, false, false, true, false, false, false, false]) ?_
  walk_at "k"
  refine ⟨⟨_, rfl⟩, ?_⟩
  walk_at "k"
  refine em_indexB (l := [false, false, false, false, false, false, false, true, false, false, false, false]) 7 rfl (fun m hm => ?_) ?_
  · match m, hm with
    | 0, _ => rfl
    | 1, _ => rfl
    | 2, _ => rfl
    | 3, _ => rfl
    | 4, _ => rfl
    | 5, _ => rfl
    | 6, _ => rfl
  walk_at "k"
  have dp : ∀ H, DpAll K H [V.bl true, V.bl true, V.bl false, V.bl false] [.bool true, .bool true, .bool false, .bool false] := fun H => .cons (.bl _) (.cons (.bl _) (.cons (.bl _) (.cons (.bl _) .nil)))
  refine e2_neT (l := [.bl true, .bl true, .bl false, .bl false]) (l2 := [.bl true, .bl true, .bl false, .bl false]) dp dp rfl rfl ?_
  walk_at "k"
  refine ev_xf (v := .str "number") hmem rfl (ev_var rfl ⟨rfl, ?_⟩)
  walk_at "k"
  exact rfl
/-! ### _law_try, _law_fails -/
theorem _root_.L2H.RoomH.mark {k : Nat} {A : Around} {v : Option Value} (r : RoomH k A) : RoomH k (A.mark v) := ⟨r.dp, r.un⟩
abbrev tryT : Sh := .tup [.int 1, outT]
theorem run_try {X : Cx} {H0 : Hp} {s0 : Shared} {f c' ft fe : Addr} {fdt fde : FuncData} {qq : Str} {tl : XK → Hp → VK → Prop} {k : Nat} (T : Tx X.prog X.K X.mg C Co fo) (R : Er X.K X.mg Co ad) (act : Act X H0 s0 f c' qq tl k)
    (Ft : Fun X.K "_law_try" "_law_try" s__law_try ft fdt) (bt : Binds X.K fdt ["deed"] []) (Fe : Fun X.K "_law_error" "_law_error" s__law_error fe fde) (be : Binds X.K fde ["e"] []) (ge : X.mg "_law_error" = some (.ref fe))
    (A2 : Around) (outer2 : List Env) (s2 : Shared) (H2 : Hp) (Q : VK) (hk : 1 ≤ k) (hr : Room (k + 2) A2) (D : Desc (frs X.stack) H0 s0.heap outer2 H2 s2.heap) (e0 : Env0 X.prog X.w X.K X.mg X.base A2 outer2 s2 H2) (hc : H2 c' = some (CodeO c' qq)) (ht : TTt Co outN tryT tl H2 Q) :
    codeAny (model X.prog X.w) A2 (.call (.ref ft) ⟨[.ref f], []⟩) (CR C8.CX0 outer2 X.prog X.w H2 s2 Q C8.E0) s2 := by
  obtain ⟨oc, od, kV, doc, pm, an, cdv, ct, osl, rfl, lk, hcd⟩ := Ft.ex
  have KX : X.K.In s2.heap := e0.mod.kin.keeps fun b o e => (e0.bs b o e).1
  have bb := bt s2 [.ref f] KX rfl
  refine run_ofS (N := ["deed", "e"]) (ps := ["deed"]) (us := [.ref f]) (vs := [.ref f]) lk hcd sc__law_try hr e0 bb (.cons rfl .nil) rfl fun hr' => ?_
  have act' := fun pn xe W p1 p2 tk => act C8.CX0 C8.E0 ["deed", "e"] "_law_try" (defScope s__law_try) ft cdv A2 outer2 s2 H2 pn xe W "deed" 0 p1 p2 D tk hr' rfl (.inl rfl) (by decide) (by decide)
  obtain ⟨oc2, od2, kV2, doc2, pm2, an2, cdv2, ct2, osl2, rfl, lk2, hcd2⟩ := Fe.ex
  refine ⟨_, (PSs.nox (pss_one (ps_try_as3 (X := (cxOf C8.CX0 X.prog X.w X.K X.mg X.base ["deed", "e"] "_law_try" (defScope s__law_try) ft cdv A2 outer2 s2 H2 C8.E0).nox) (i := 1) (c1 := .ref (ad 12)) (c2 := .ref (ad 10)) (c3 := .ref (ad 11)) rfl rfl sc__law_try.nd rfl rfl ⟨rfl, by decide, .inl R.g12⟩ ⟨rfl, by decide, .inl R.g10⟩ ⟨rfl, by decide, .inl R.g11⟩
    (fun W pn xe tk _ => pss_one (ps_ret (pe_tup (pa_cons pe_int (pa_cons (act' pn xe W _ _ tk) pa_nil)))))
    (fun a oe cls d pn hz hf => pss_one (ps_ret (pe_tup (pa_cons pe_int (pa_cons
      (pe_callO (CX := CX0) (k := 1) (tb := fun _ Q H => ∃ dd, cls = .ref Co ∧ d = some dd ∧ SpErr dd Q H) (E := E0) lk2 hcd2 sc__law_error (((roomH_of hr').mono (by omega)).mark) rfl ge Fe.kp be (fun _ _ _ _ _ _ _ h => h.elim) (pa_cons (pv 1) pa_nil)
        (fun A outer s H Q hr3 h => by
          obtain ⟨dd, rfl, rfl, h⟩ := h
          exact body_error T R hz hf hr3 h)) pa_nil)))))))), ?_⟩
  obtain ⟨M, st, hl, hQ⟩ := ht
  refine ⟨rfl, hc, fun cls d H' => wAs3 X.K _ _ _ _ cls d _ H', fun _ _ _ h => h, hl _ _ fun d H' s hd av => ⟨R.exm, fun a ha => ?_⟩⟩
  refine ⟨.ref a, rfl, rfl, d, rfl, rfl, M, s.st, av, hd, fun v H'' s2 i2 => ⟨(show 2 ≤ sizeLine by decide), fun p hp => ?_⟩⟩
  exact hQ _ _ ((s.trans s2).trans (.new s2.st hp)) (.tup (s2.st.av hp) upd_same (.cons (.v _) (.cons (i2.step (.new s2.st hp)) .nil)))
theorem body_fails {ts : TS} {D : Ends} {σ : L2.St} {H : Hp} {M : Mode} {ss : SS} (st : GS.St M H) (se : SE M H ss σ) (hQ : Ret M H D.rt (.bl true)) (hb : ∀ M : Mode, Bd ⟨M, fun _ _ _ => False, fun _ _ => False⟩ ts ss ⟨fun r => r = .bl true, fun _ => False, fun _ => False, fun _ => False⟩) : ts D σ H :=
  hb M D σ H st (fun _ _ z => z.elim) se ⟨fun r e => by subst e; exact hQ, fun _ z => z.elim, fun _ z => z.elim, fun _ z => z.elim⟩
theorem run_fails {X : Cx} {ft fe ff : Addr} {fdt fde fdf : FuncData} {qq : Str} {k : Nat} (T : Tx X.prog X.K X.mg C Co fo) (R : Er X.K X.mg Co ad)
    (Ft : Fun X.K "_law_try" "_law_try" s__law_try ft fdt) (bt : Binds X.K fdt ["deed"] []) (Fe : Fun X.K "_law_error" "_law_error" s__law_error fe fde) (be : Binds X.K fde ["e"] []) (ge : X.mg "_law_error" = some (.ref fe)) (gt : X.mg "_law_try" = some (.ref ft))
    (Ff : Fun X.K "_law_fails" "_law_fails" s__law_fails ff fdf) (bf : Binds X.K fdf ["deed", "due"] []) (d__law_same : Df X.prog X.w X.K X.mg X.base CX0 3 "_law_same" [] (SpS fsSame1)) (hk : 1 ≤ k) (hr : Room (k + 3) X.A)
    (f c' : Addr) (s : Shared) (H : Hp) (u : Value) (v : V) (Q : VK) (tl : XK → Hp → VK → Prop) (act : Act X H s f c' qq tl k) (e0 : Env0 X.prog X.w X.K X.mg X.base X.A X.stack s H) (ru : L2.RelV v u) (hc : H c' = some (CodeO c' qq)) (ht : TTf Co outN outT tl v H Q) :
    codeAny (model X.prog X.w) X.A (.call (.ref ff) ⟨[.ref f, u], []⟩) (CR C8.CX0 X.stack X.prog X.w H s Q C8.E0) s := by
  obtain ⟨oc, od, kV, doc, pm, an, cdv, ct, osl, rfl, lk, hcd⟩ := Ff.ex
  have KX : X.K.In s.heap := e0.mod.kin.keeps fun b o e => (e0.bs b o e).1
  have bb := bf s [.ref f, u] KX rfl
  refine run_ofS (N := ["deed", "due", "got"]) (ps := ["deed", "due"]) (us := [.ref f, u]) (vs := [.ref f, v]) lk hcd sc__law_fails hr e0 bb (.cons rfl (.cons ru .nil)) rfl fun hr => ?_
  have D : Desc (frs X.stack) H s.heap X.stack H s.heap := Desc.refl fun b hb => by
    obtain ⟨_, o, e, _⟩ := e0.funs.mem hb
    exact ⟨o, e⟩
  have hG := fun A2 outer2 s2 H2 Q (eA : A2 = X.A.deeper (envOfC "_law_fails" (defScope s__law_fails) s.heap.objs.size ff cdv)) D2 e2 hc2 ht2 => run_try T R act Ft bt Fe be ge A2 outer2 s2 H2 Q hk (by rw [eA]; exact hr) D2 e2 hc2 ht2
  refine ⟨_, PSs.nox (X := cxOf C8.CX0 X.prog X.w X.K X.mg X.base ["deed", "due", "got"] "_law_fails" (defScope s__law_fails) ff cdv X.A X.stack s H C8.E0) (pss_cons (ps_set (i := 2) sc__law_fails.nd rfl (Or.inl rfl) (pe_hand (i := 0) act D rfl gt Ft.kp hG rfl (.inl rfl)))
      (pss_one (ps_ret (pe_and (pe_cmpR op_eq (pe_ix (r := rIxT X.K) ix_tup (pv 2) pe_int (fun _ _ => rfl)) pe_int (nomark _)) (pe_one (pe_df d__law_same hr (by omega) pass0 (pa_cons (pe_ix (r := rIxT X.K) ix_tup (pv 2) pe_int (fun _ _ => rfl)) (pa_cons (pv 1) pa_nil)))))))), ?_⟩
  obtain ⟨M, st, iv, hl, hQ⟩ := ht
  refine ⟨rfl, hc, M, st, hl, fun vg H' s2 i2 => ?_⟩
  show (tRet (tAndV (tOp rEq (tOp (rIxT X.K) (tVar 2) (tC (V.int 0))) (tC (V.int 1))) (tCall (SpS fsSame1) [] E0 (tCons (tOp (rIxT X.K) (tVar 2) (tC (V.int 1))) (tCons (tVar 1) tNil))))) { nx := fun _ H' => Q .non H', rt := Q } [some (.ref f), some v, some vg] H'
  refine body_fails (D := { nx := fun _ H' => Q .non H', rt := Q }) (ss := [some (.v (.ref f)), some outT, some tryT]) s2.st (.yes (.v _) (.yes (iv.step s2) (.yes i2 .nil))) (hQ.step s2) fun M => ?_
  show B _ _ _ _ _ _ _
  try simp only [cxK, cxKn]
  walk_at "k"
  rfl
end
end KP

/-! K12F -/
set_option Elab.async false
set_option Elab.async false
set_option linter.all false
set_option maxRecDepth 100000
set_option maxHeartbeats 4000000
namespace KP
open PySem PySem.Spec PyProof.Rows L2 GM GS L2H LamX
local macro_rules | `(tactic| walk_at "sh") => `(tactic| repeat (first
  | ((with_reducible show GS.Ev _ _ _ _); first
    | with_reducible refine GS.ev_c ?_
    | ((with_reducible show GS.Ev _ (L2.tVar _) _ _); refine GS.ev_var rfl ?_)
    | with_reducible refine GS.ev_op ?_
    | with_reducible refine GS.ev_cb ?_
    | with_reducible refine GS.ev_un ?_
    | with_reducible refine GS.ev_tup ?_
    | with_reducible refine GS.ev_lst ?_
    | with_reducible refine GS.ev_if ?_
    | with_reducible refine GS.ev_andV ?_
    | with_reducible refine GS.ev_orV ?_
    | with_reducible refine GS.ev_notV ?_
    | with_reducible refine GS.ev_sl ?_
    | with_reducible refine GS.ev_fmtS ?_
    | with_reducible refine GS.ev_fmtL ?_
    | with_reducible refine GS.ev_joined ?_
    | with_reducible refine GS.ev_m1 ?_)
  | ((with_reducible show GS.E2 _ _ _ _ _); first
    | with_reducible refine GS.e2_I0 ?_
    | with_reducible refine GS.e2_I ?_
    | ((with_reducible refine GS.e2_eq ?_ ?_); exact rfl)
    | ((with_reducible refine GS.e2_ne ?_ ?_); exact rfl)
    | with_reducible refine GS.e2_isN ?_
    | with_reducible refine GS.e2_notN ?_
    | ((with_reducible show GS.E2 _ (L2.rIxL _) _ _ _); refine GS.e2_ixL rfl ?_)
    | ((with_reducible show GS.E2 _ (L2.rIxT _) _ _ _); refine GS.e2_ixT rfl ?_)
    | ((with_reducible show GS.E2 _ (L2.rIx _) (GS.Sh.lst _) _ _); refine GS.e2_ix_l rfl ?_)
    | ((with_reducible show GS.E2 _ (L2.rIx _) (GS.Sh.tup _) _ _); refine GS.e2_ix_t rfl ?_)
    | with_reducible refine GS.e2_cat ?_
    | with_reducible refine GS.e2_addS ?_
    | with_reducible refine GS.e2_inSign ?_)
  | ((with_reducible show GS.Ea _ _ _ _); first
    | with_reducible refine GS.ea_cons ?_
    | with_reducible refine GS.ea_nil ?_)
  | ((with_reducible show GS.Et _ _ _ _); first
    | with_reducible refine GS.et_B ?_
    | with_reducible refine GS.et_test ?_
    | with_reducible refine GS.et_not ?_
    | with_reducible refine GS.et_and ?_
    | with_reducible refine GS.et_or ?_
    | with_reducible refine GS.et_yes ?_
    | with_reducible refine GS.et_tru ?_)
  | ((with_reducible show GS.B _ _ _ _ _ _ _); first
    | with_reducible refine GS.b_seq ?_
    | with_reducible refine GS.b_if ?_
    | with_reducible refine GS.b_ret ?_
    | with_reducible refine GS.b_asg ?_
    | with_reducible refine GS.b_drop ?_
    | with_reducible refine GS.b_next ?_
    | with_reducible refine GS.b_par ?_
    | with_reducible refine GS.b_raise (fun _ => rfl) ?_)
  | with_reducible refine GS.eg_name ?_
  | with_reducible refine GS.egs_cons ?_
  | with_reducible refine GS.egs_nil ?_
  | ((with_reducible refine GS.eg_tup ?_ ?_); exact rfl)
  | with_reducible refine GS.e1_U ?_
  | ((with_reducible show GS.En _ _ _ _); first
    | with_reducible refine GS.en_len_l ?_
    | with_reducible refine GS.en_len_t ?_
    | with_reducible refine GS.en_len_str ?_
    | with_reducible refine GS.en_int ?_
    | with_reducible refine GS.en_bool ?_
    | with_reducible refine GS.en_abs ?_
    | with_reducible refine GS.en_str ?_
    | with_reducible refine GS.en_strL ?_
    | with_reducible refine GS.en_gcd ?_
    | with_reducible refine GS.en_list_l ?_
    | with_reducible refine GS.en_list_t ?_
    | with_reducible refine GS.en_tuple_l ?_)
  | with_reducible refine GS.ex_bl ?_
  | with_reducible refine GS.ex_str ?_
  | with_reducible refine GS.ex_int ?_
  | with_reducible refine GS.ex_v ?_
  | with_reducible refine GS.ex_two ?_
  | with_reducible refine GS.ex_lst ?_
  | with_reducible refine GS.ex_tup ?_
  | with_reducible refine GS.ex_lst1 ?_
  | with_reducible refine GS.ex_truS ?_
  | ((with_reducible show ∃ _, GS.TruS _ _ ∧ _); refine GS.ex_tru rfl ?_)
  | with_reducible refine GS.eo_no ?_
  | with_reducible refine GS.eo_yes ?_
  | with_reducible refine GS.e3_list ?_
  | with_reducible refine GS.e3_str ?_
  | with_reducible refine GS.ej_cons ?_
  | with_reducible refine GS.ej_nil ?_
  | with_reducible refine GS.em_split ?_
  | with_reducible refine GS.em_starts ?_
  | ((with_reducible show GS.Ei _ _ _ _); first
    | with_reducible refine GS.ei_list ?_
    | with_reducible refine GS.ei_tup ?_
    | with_reducible refine GS.ei_str ?_
    | with_reducible refine GS.ei_enum ?_
    | with_reducible refine GS.ei_zip ?_
    | with_reducible refine GS.ei_range1 ?_
    | with_reducible refine GS.ei_range2 ?_)
  | ((with_reducible show _ ∧ _); first
    | ((with_reducible refine And.intro ?_ ?_); (with_reducible assumption))
    | ((with_reducible refine GS.sz_and ?_ ?_); exact rfl)
    | ((with_reducible refine GS.cnd_t ?_ ?_); exact rfl)
    | ((with_reducible refine GS.cnd_f ?_ ?_); exact rfl))))

/-! ### _law_fails(lambda: .., ..) -/
/-- what _law_fails leans on -/
structure Fl (P : Program) (w : World) (K : PySem.W.Frag) (mg : Str → Option Value) (base : Heap) (C Co fo : Addr) : Prop where
  T : Tx P K mg C Co fo
  ex : ∃ (ad : Nat → Addr) (ft fe ff : Addr) (fdt fde fdf : FuncData), Er K mg Co ad ∧ Fun K "_law_try" "_law_try" s__law_try ft fdt ∧ L2.Binds K fdt ["deed"] [] ∧ Fun K "_law_error" "_law_error" s__law_error fe fde ∧ L2.Binds K fde ["e"] [] ∧
    mg "_law_error" = some (.ref fe) ∧ mg "_law_try" = some (.ref ft) ∧ Fun K "_law_fails" "_law_fails" s__law_fails ff fdf ∧ L2.Binds K fdf ["deed", "due"] [] ∧ mg "_law_fails" = some (.ref ff)
  same : Df P w K mg base CX0 3 "_law_same" [] (SpS fsSame1)
section
variable {P : Program} {w : World} {K : PySem.W.Frag} {mg : Str → Option Value} {base : Heap} {C Co fo : Addr} {j : J} {q : Sh → Prop} {x : Sh} {a : Ty0} {ex : Addr → List (Str × V) → Prop}
theorem pe_fails {X : Cx} {T : List (Addr × Str)} {c P : Addr} {k : Nat} {params : Arguments} {body e : Expr} {te : TE} {scope : Scope} {t : XK → TE} {p lpos pos : Pos} (L : Fl X.prog X.w X.K X.mg X.base C Co fo) (hs : X.stack = X.env :: X.outer) (hfm : X.env.frame = some X.env.locals) (hg : Gl X "_law_fails")
    (TB : TabB X.base X.mg c P) (hcode : X.env.code = .ref c) (hmT : (P, X.env.qual ++ "<lambda>") ∈ T) (hu : ∀ p ∈ T, p.1 = P → p.2 = X.env.qual ++ "<lambda>") (LS : LamS X.env.scope scope) (hdef : defaultsOf params X.env = ([], []))
    (hbind : ∀ (q : Str) (cl : List (Str × Addr)) (pm cv ctv : Value), bindArgs (PySem.W.kla_fn "<lambda>" q params body scope cl pm cv ctv) ⟨[], []⟩ = pure []) (hr : Room (k + 4) X.A)
    (hbody : ∀ (A : Around) (outer : List Env) (s : Shared) (H : Hp) (E : XK) (f c' : Addr), Room (k + 1) (A.deeper (lamEnv X scope s.heap.objs.size f c')) → PE (lamCx X A outer s H E scope f c') body (t E)) (he : PE X e te)
    (hst : starEach [e] X.env = (false, eval e X.env) :: starEach [] X.env := by rfl) (hpl : (backTo pos (starEach [e] X.env)).any (·.1) = false := by rfl) :
    PE X (.Call (.Name "_law_fails" p) [.Lambda params body scope lpos, e] [] pos) (tLam2 T (X.env.qual ++ "<lambda>") t te (TTf Co outN outT)) := by
  obtain ⟨ad, ft, fe, ff, fdt, fde, fdf, R, Ft, bt, Fe, be, ge, gt, Ff, bf, gf⟩ := L.ex
  exact pe_lamcall2 (k := k + 1) hs hfm hg gf Ff.kp (fun f c' s H u v Q tl act e0 ru hc ht => run_fails L.T R Ft bt Fe be ge gt Ff bf L.same (Nat.succ_pos _) hr f c' s H u v Q tl act e0 ru hc ht) TB hcode hmT hu LS hdef hbind hbody he (by decide) hst hpl
theorem use_overX {r t : Rat} {y : Sh} {ex : Addr → List (Str × V) → Prop} (hy : Num C y t) (hr : SzR 4000 r) (ht : t = 0) (k : ex Co outN) : Callx j (fsOver C Co) [Rt C r, y] q ex := callx_of ⟨r, y, t, rfl, hy, hr, (by subst ht; exact szI (n := 0) (Nat.two_pow_pos _)), .inr ⟨ht, k⟩⟩
theorem ev_methX {ss : SS} {to : TE} {tA : TA} {m : Str} {fs : Fs} {E : XK} {x : Addr → List (Str × V) → Prop} (hx : XOk j E x) (hm : (["top", "bottom"] : List Str).contains m = false) (h : Ev j to ss fun o => (∃ r, o = Rt C r) ∧ Ea j tA ss fun l => Callx j fs (o :: l) q x) : Ev j (tMeth C m (SpS fs) [] E to tA) ss q :=
  ev_meth hx (h.mono fun o ⟨⟨r, e⟩, k⟩ => by
    subst e
    exact ⟨_, _, rfl, hm, k⟩)
theorem use_rightE {r s : Rat} (e : r = s) (hs : SzR 14000 r) (k : q (.bl true)) : Callx j (fsRight C) ([Rt C r, Pr s] ++ List.map Sh.v []) q ex := by
  subst e
  exact use_right hs k
theorem use_plusN1 {r t : Rat} (h1 : SzR 4000 r) (h2 : SzR 4000 t) (k : q (Pr (-t + r))) : Callx j (fsArP (· + ·)) ([.tup [.int (0 - t.num), .int (t.den : Int)], Pr r] ++ List.map Sh.v []) q ex := by
  rw [pr_neg]
  exact callx_of ⟨-t, r, rfl, h2.neg, h1, k⟩
theorem use_right01 {r : Rat} (e : r = 0) (k : q (.bl true)) : Callx j (fsRight C) ([Rt C r, .tup [.int 0, .int 1]] ++ List.map Sh.v []) q ex := by
  subst e
  exact use_right (r := 0) ((szI (n := 0) (Nat.two_pow_pos _)).mono (by decide)) k
local macro_rules | `(tactic| walk_at "k") => `(tactic| repeat (first
  | ((with_reducible show GS.Ev _ _ _ _); first
    | with_reducible refine GS.ev_c ?_
    | ((with_reducible show GS.Ev _ (L2.tVar _) _ _); refine GS.ev_var rfl ?_)
    | with_reducible refine GS.ev_op ?_
    | with_reducible refine GS.ev_cb ?_
    | with_reducible refine GS.ev_un ?_
    | with_reducible refine GS.ev_tup ?_
    | with_reducible refine GS.ev_lst ?_
    | with_reducible refine GS.ev_if ?_
    | with_reducible refine GS.ev_andV ?_
    | with_reducible refine GS.ev_orV ?_
    | with_reducible refine GS.ev_notV ?_
    | with_reducible refine GS.ev_sl ?_
    | with_reducible refine GS.ev_fmtS ?_
    | with_reducible refine GS.ev_fmtL ?_
    | with_reducible refine GS.ev_joined ?_
    | with_reducible refine GS.ev_m1 ?_)
  | ((with_reducible show GS.E2 _ _ _ _ _); first
    | with_reducible refine GS.e2_I0 ?_
    | with_reducible refine GS.e2_I ?_
    | ((with_reducible refine GS.e2_eq ?_ ?_); exact rfl)
    | ((with_reducible refine GS.e2_ne ?_ ?_); exact rfl)
    | with_reducible refine GS.e2_isN ?_
    | with_reducible refine GS.e2_notN ?_
    | ((with_reducible show GS.E2 _ (L2.rIxL _) _ _ _); refine GS.e2_ixL rfl ?_)
    | ((with_reducible show GS.E2 _ (L2.rIxT _) _ _ _); refine GS.e2_ixT rfl ?_)
    | ((with_reducible show GS.E2 _ (L2.rIx _) (GS.Sh.lst _) _ _); refine GS.e2_ix_l rfl ?_)
    | ((with_reducible show GS.E2 _ (L2.rIx _) (GS.Sh.tup _) _ _); refine GS.e2_ix_t rfl ?_)
    | with_reducible refine GS.e2_cat ?_
    | with_reducible refine GS.e2_addS ?_
    | with_reducible refine GS.e2_inSign ?_)
  | ((with_reducible show GS.Ea _ _ _ _); first
    | with_reducible refine GS.ea_cons ?_
    | with_reducible refine GS.ea_nil ?_)
  | ((with_reducible show GS.Et _ _ _ _); first
    | with_reducible refine GS.et_B ?_
    | with_reducible refine GS.et_test ?_
    | with_reducible refine GS.et_not ?_
    | with_reducible refine GS.et_and ?_
    | with_reducible refine GS.et_or ?_
    | with_reducible refine GS.et_yes ?_
    | with_reducible refine GS.et_tru ?_)
  | ((with_reducible show GS.B _ _ _ _ _ _ _); first
    | with_reducible refine GS.b_seq ?_
    | with_reducible refine GS.b_if ?_
    | with_reducible refine GS.b_ret ?_
    | with_reducible refine GS.b_asg ?_
    | with_reducible refine GS.b_drop ?_
    | with_reducible refine GS.b_next ?_
    | with_reducible refine GS.b_par ?_
    | with_reducible refine GS.b_raise (fun _ => rfl) ?_)
  | with_reducible refine GS.eg_name ?_
  | with_reducible refine GS.egs_cons ?_
  | with_reducible refine GS.egs_nil ?_
  | ((with_reducible refine GS.eg_tup ?_ ?_); exact rfl)
  | ((with_reducible refine GS.eg_unl ?_ ?_); exact rfl)
  | with_reducible refine GS.e1_U ?_
  | ((with_reducible show GS.En _ _ _ _); first
    | with_reducible refine GS.en_len_l ?_
    | with_reducible refine GS.en_len_t ?_
    | with_reducible refine GS.en_len_str ?_
    | with_reducible refine GS.en_int ?_
    | with_reducible refine GS.en_bool ?_
    | with_reducible refine GS.en_abs ?_
    | with_reducible refine GS.en_str ?_
    | with_reducible refine GS.en_strL ?_
    | with_reducible refine GS.en_gcd ?_
    | with_reducible refine GS.en_list_l ?_
    | with_reducible refine GS.en_list_t ?_
    | with_reducible refine GS.en_tuple_l ?_)
  | with_reducible refine GS.ex_bl ?_
  | with_reducible refine GS.ex_str ?_
  | with_reducible refine GS.ex_int ?_
  | with_reducible refine GS.ex_v ?_
  | with_reducible refine GS.ex_two ?_
  | with_reducible refine GS.ex_lst ?_
  | with_reducible refine GS.ex_tup ?_
  | with_reducible refine GS.ex_lst1 ?_
  | with_reducible refine GS.ex_truS ?_
  | ((with_reducible show ∃ _, GS.TruS _ _ ∧ _); refine GS.ex_tru rfl ?_)
  | with_reducible refine GS.eo_no ?_
  | with_reducible refine GS.eo_yes ?_
  | with_reducible refine GS.e3_list ?_
  | with_reducible refine GS.e3_str ?_
  | with_reducible refine GS.ej_cons ?_
  | with_reducible refine GS.ej_nil ?_
  | with_reducible refine GS.em_split ?_
  | with_reducible refine GS.em_starts ?_
  | ((with_reducible show GS.Ei _ _ _ _); first
    | with_reducible refine GS.ei_list ?_
    | with_reducible refine GS.ei_tup ?_
    | with_reducible refine GS.ei_str ?_
    | with_reducible refine GS.ei_enum ?_
    | with_reducible refine GS.ei_zip ?_
    | with_reducible refine GS.ei_range1 ?_
    | with_reducible refine GS.ei_range2 ?_)
  | ((with_reducible show _ ∧ _); first
    | ((with_reducible refine And.intro ?_ ?_); (with_reducible assumption))
    | ((with_reducible refine GS.sz_and ?_ ?_); exact rfl)
    | ((with_reducible refine GS.cnd_t ?_ ?_); exact rfl)
    | ((with_reducible refine GS.cnd_f ?_ ?_); exact rfl))
  | ((with_reducible show GS.En _ (L2.rIsi _) _ _); first
    | ((with_reducible apply isi_int (by with_reducible assumption)); (first | with_reducible assumption | exact knd_int | exact knd_bl | exact knd_str | exact knd_non | exact knd_lst | exact knd_tup | exact knd_rat (by assumption)))
    | ((with_reducible apply isi_bool (by with_reducible assumption)); (first | with_reducible assumption | exact knd_int | exact knd_bl | exact knd_str | exact knd_non | exact knd_lst | exact knd_tup | exact knd_rat (by assumption)))
    | ((with_reducible apply isi_str (by with_reducible assumption)); (first | with_reducible assumption | exact knd_int | exact knd_bl | exact knd_str | exact knd_non | exact knd_lst | exact knd_tup | exact knd_rat (by assumption)))
    | ((with_reducible apply isi_tuple (by with_reducible assumption)); (first | with_reducible assumption | exact knd_int | exact knd_bl | exact knd_str | exact knd_non | exact knd_lst | exact knd_tup | exact knd_rat (by assumption)))
    | ((with_reducible apply isi_list (by with_reducible assumption)); (first | with_reducible assumption | exact knd_int | exact knd_bl | exact knd_str | exact knd_non | exact knd_lst | exact knd_tup | exact knd_rat (by assumption)))
    | ((with_reducible apply isi_rat (by with_reducible assumption)); (first | with_reducible assumption | exact knd_int | exact knd_bl | exact knd_str | exact knd_non | exact knd_lst | exact knd_tup | exact knd_rat (by assumption))))
  | (with_reducible refine ev_top (by with_reducible assumption) ?_)
  | (with_reducible refine ev_bot (by with_reducible assumption) ?_)
  | with_reducible refine ex_rat ?_
  | with_reducible refine GS.ev_call (E := L2.E0) GS.XOk.no ?_
  | with_reducible refine GS.ev_call GS.XOk.own ?_
  | ((with_reducible show GS.Callx _ _ _ _ _); first
    | ((with_reducible apply use_integral); (first | with_reducible assumption | exact knd_int | exact knd_bl | exact knd_str | exact knd_non | exact knd_lst | exact knd_tup | exact knd_rat (by assumption)))
    | ((with_reducible apply use_parts); first | with_reducible assumption | exact num_rat | exact num_int)
    | ((with_reducible refine use_digits ?_ ?_); with_reducible assumption)
    | ((with_reducible refine use_intof ?_ ?_); with_reducible assumption)
    | ((with_reducible refine use_frac ?_ ?_); with_reducible assumption)
    | with_reducible refine use_gcd ?_
    | with_reducible refine use_isR ?_
    | ((with_reducible apply use_repr); (with_reducible assumption))
    | with_reducible refine use_bool ?_
    | ((with_reducible apply use_num); (with_reducible assumption))
    | ((with_reducible apply use_text); (with_reducible assumption))
    | with_reducible refine use_same_str ?_
    | with_reducible refine use_same_bl ?_
    | with_reducible refine use_same_l3 ?_
    | with_reducible refine use_same_t2 ?_
    | ((with_reducible apply use_right); (with_reducible assumption))
    | ((with_reducible apply use_low); (with_reducible assumption); (with_reducible assumption)))
  | with_reducible refine GS.ev_make (E := L2.E0) GS.XOk.no ?_
  | with_reducible refine GS.ev_make GS.XOk.own ?_
  | ((with_reducible show L2.CMulW _ _ ∧ _); refine And.intro (cmw (by with_reducible assumption) (by with_reducible assumption)) ?_)
  | ((with_reducible refine use_init ?_ ?_ ?_); (with_reducible assumption); (with_reducible assumption))
  | with_reducible refine ex_insR ?_
  | ((with_reducible apply use_plusI); (with_reducible assumption); (with_reducible assumption))
  | ((with_reducible apply use_rightI); (with_reducible assumption))
  | ((with_reducible apply use_mk2); (with_reducible assumption))
  | ((with_reducible apply use_mk1); (with_reducible assumption))
  | ((with_reducible apply e2_add); (with_reducible assumption); (with_reducible assumption))
  | ((with_reducible apply e2_sub); (with_reducible assumption); (with_reducible assumption))
  | ((with_reducible apply e2_mul); (with_reducible assumption); (with_reducible assumption))
  | ((with_reducible apply e2_addI); (with_reducible assumption); (with_reducible assumption))
  | ((with_reducible apply e2_subI); (with_reducible assumption); (with_reducible assumption))
  | ((with_reducible apply e2_mulI); (with_reducible assumption); (with_reducible assumption))
  | ((with_reducible apply e1_neg); (with_reducible assumption))
  | ((with_reducible apply use_plus); (with_reducible assumption); (with_reducible assumption))
  | ((with_reducible apply use_plusN); (with_reducible assumption); (with_reducible assumption))
  | ((with_reducible apply use_times); (with_reducible assumption); (with_reducible assumption))
  | ((with_reducible apply use_over); (with_reducible assumption); (with_reducible assumption); (with_reducible assumption))
  | ((with_reducible apply use_overI); (with_reducible assumption); (with_reducible assumption); (with_reducible assumption))
  | ((with_reducible apply use_read); (with_reducible assumption); (with_reducible assumption))
  | with_reducible refine ev_readR ?_
  | with_reducible refine cr_and ?_
  | ((with_reducible refine egPr ?_ ?_); exact rfl)
  | ((with_reducible refine ev_methR ?_ ?_); (with_unfolding_all decide))
  | with_reducible refine exR_and ?_
  | with_reducible refine e2_eqR (by with_reducible assumption) ?_
  | with_reducible refine e2_eqI (by with_reducible assumption) ?_
  | with_reducible refine ixPr0 ?_
  | with_reducible refine ixPr1 ?_
  | with_reducible refine GS.en_ownReprG GS.XOk.no insRt ?_
  | with_reducible refine GS.en_ownBoolG GS.XOk.no insRt ?_
  | ((with_reducible show (0 : Int) < _ ∧ _); (refine And.intro ?_ ?_); (first | decide | assumption | omega))
  | ((with_reducible show L2.CPow _ _ ∧ _); refine And.intro ⟨by decide, by decide, by decide⟩ ?_)
  | ((with_reducible show L2.CMul _ _ ∧ _); (refine And.intro ?_ ?_); first | exact .inr ⟨by decide, by decide⟩ | exact .inl ⟨by decide, by decide⟩ | exact .inr ⟨by omega, by omega⟩ | exact .inl ⟨by omega, by omega⟩)
  | with_reducible refine GS.ev_prop GS.XOk.no ?_))

/-! ### reckoning -/
abbrev lamT (P1 P2 : Addr) : List (Addr × Str) := [(P1, "_law_reckoned_right.<locals>.<lambda>"), (P2, "_law_refused.<locals>.<lambda>")]
def fsReck (C : Addr) (TT : List (Addr × Str)) : Fs := fun M l S => M.tab = TT ∧ ∃ r t u, l = [.lst [Rt C r, Rt C t, Rt C u], .lst [Pr r, Pr t, Pr u]] ∧ SzR 100 r ∧ SzR 100 t ∧ SzR 100 u ∧ S (.ret (.bl true))
theorem ok_reck {f c1 P1 P2 : Addr} {fd : FuncData} (F : FunL K "_law_reckoned_right" "_law_reckoned_right" s__law_reckoned_right f fd c1) (L : Fl P w K mg base C Co fo) (TB : TabB base mg c1 P1) (hP : P1 ≠ P2) (T : Tx P K mg C Co fo)
    (d__law_plus : Df P w K mg base CX0 3 "_law_plus" [] (SpS (fsArP (· + ·)))) (d__law_times : Df P w K mg base CX0 3 "_law_times" [] (SpS (fsArP (· * ·)))) (d__law_low : Df P w K mg base CX0 2 "_law_low" [] (SpS fsLow)) (d__law_right : Df P w K mg base CX0 8 "_law_right" [] (SpS (fsRight C)))
    (d_add : DfO P w K mg base CX0 6 C "__add__" (SpS (fsArith C (· + ·)))) (d_sub : DfO P w K mg base CX0 6 C "__sub__" (SpS (fsArith C (· - ·)))) (d_mul : DfO P w K mg base CX0 6 C "__mul__" (SpS (fsArith C (· * ·)))) (d_neg : DfO P w K mg base CX0 6 C "__neg__" (SpS (fsNeg C))) (d_over : DfM P w K mg base (L2.CX P w) 6 C "over" (SpS (fsOver C Co))) :
    FnOk P w K mg base CX0 20 f fd ["xs", "fractions"] (SpS (fsReck C (lamT P1 P2))) := by
  have hmT : (P1, (("_law_reckoned_right.<locals>.<lambda>" : String) : Str)) ∈ lamT P1 P2 := List.mem_cons_self
  have hu : ∀ p ∈ lamT P1 P2, p.1 = P1 → p.2 = (("_law_reckoned_right.<locals>.<lambda>" : String) : Str) := fun p hp e => by
    rcases List.mem_cons.mp hp with rfl | hp
    · rfl
    · rw [List.mem_singleton.mp hp] at e
      exact absurd e.symm hP
  refine fun_okL F sc__law_reckoned_right (fun M l S ⟨_, _, _, _, e, _⟩ => e ▸ rfl) fun A outer s H E hr => ?_
  refine ⟨_, (pss_cons (ps_asg (pv 0) (pg_unl (by rfl) (pgs_cons (pg_name (i := 2) sc__law_reckoned_right.nd rfl (Or.inr rfl)) (pgs_cons (pg_name (i := 3) sc__law_reckoned_right.nd rfl (Or.inr rfl)) (pgs_cons (pg_name (i := 4) sc__law_reckoned_right.nd rfl (Or.inl rfl)) pgs_nil)))))
      (pss_cons (ps_asg (pv 1) (pg_unl (by rfl) (pgs_cons (pg_name (i := 5) sc__law_reckoned_right.nd rfl (Or.inl rfl)) (pgs_cons (pg_name (i := 6) sc__law_reckoned_right.nd rfl (Or.inl rfl)) (pgs_cons (pg_name (i := 7) sc__law_reckoned_right.nd rfl (Or.inl rfl)) pgs_nil)))))
      (pss_cons (ps_set (i := 8) sc__law_reckoned_right.nd rfl (Or.inl rfl) (pe_df d__law_plus hr (by decide) pass0 (pa_cons (pv 6) (pa_cons (pv 7) pa_nil))))
      (pss_cons (ps_if (PW.pt (pw_or (pt_not (pt_val (pe_df d__law_right hr (by decide) pass0 (pa_cons (pe_op (op_dfB d_mul T.oi_Mult T.sf hr (by decide) pass0) (pv 2) (pe_op (op_dfB d_add T.oi_Add T.sf hr (by decide) pass0) (pv 3) (pv 4))) (pa_cons (pe_df d__law_times hr (by decide) pass0 (pa_cons (pv 5) (pa_cons (pv 8) pa_nil))) pa_nil))))) (pw_or1 (pt_not (pt_val (pe_df d__law_right hr (by decide) pass0 (pa_cons (pe_op (op_dfB d_add T.oi_Add T.sf hr (by decide) pass0) (pe_op (op_dfB d_mul T.oi_Mult T.sf hr (by decide) pass0) (pv 2) (pv 3)) (pe_op (op_dfB d_mul T.oi_Mult T.sf hr (by decide) pass0) (pv 2) (pv 4))) (pa_cons (pe_df d__law_times hr (by decide) pass0 (pa_cons (pv 5) (pa_cons (pv 8) pa_nil))) pa_nil)))))))) (pss_one (ps_ret pe_bl)) pss_nil)
      (pss_cons (ps_if (PW.pt (pw_or (pt_not (pt_val (pe_df d__law_right hr (by decide) pass0 (pa_cons (pe_op (op_dfB d_add T.oi_Add T.sf hr (by decide) pass0) (pe_op (op_dfB d_sub T.oi_Sub T.sf hr (by decide) pass0) (pv 2) (pv 3)) (pv 3)) (pa_cons (pv 5) pa_nil))))) (pw_or1 (pt_not (pt_val (pe_df d__law_right hr (by decide) pass0 (pa_cons (pe_op (op_dfB d_sub T.oi_Sub T.sf hr (by decide) pass0) (pv 2) (pe_op (op_dfB d_sub T.oi_Sub T.sf hr (by decide) pass0) (pv 3) (pv 4))) (pa_cons (pe_df d__law_plus hr (by decide) pass0 (pa_cons (pv 5) (pa_cons (pe_df d__law_plus hr (by decide) pass0 (pa_cons (pe_tup (pa_cons (pe_op op_sub pe_int (pe_ix (r := rIxT K) ix_tup (pv 6) pe_int (fun _ _ => rfl))) (pa_cons (pe_ix (r := rIxT K) ix_tup (pv 6) pe_int (fun _ _ => rfl)) pa_nil))) (pa_cons (pv 7) pa_nil))) pa_nil))) pa_nil)))))))) (pss_one (ps_ret pe_bl)) pss_nil)
      (pss_cons (ps_if (PW.pt (pw_or (pt_not (pt_val (pe_df d__law_right hr (by decide) pass0 (pa_cons (pe_un (un_dfNeg d_neg hr (by decide) pass0) (pe_op (op_dfB d_sub T.oi_Sub T.sf hr (by decide) pass0) (pv 2) (pv 3))) (pa_cons (pe_df d__law_plus hr (by decide) pass0 (pa_cons (pv 6) (pa_cons (pe_tup (pa_cons (pe_op op_sub pe_int (pe_ix (r := rIxT K) ix_tup (pv 5) pe_int (fun _ _ => rfl))) (pa_cons (pe_ix (r := rIxT K) ix_tup (pv 5) pe_int (fun _ _ => rfl)) pa_nil))) pa_nil))) pa_nil))))) (pw_or1 (pt_not (pt_val (pe_df d__law_right hr (by decide) pass0 (pa_cons (pe_op (op_dfB d_sub T.oi_Sub T.sf hr (by decide) pass0) (pv 2) (pv 2)) (pa_cons (pe_tup (pa_cons pe_int (pa_cons pe_int pa_nil))) pa_nil)))))))) (pss_one (ps_ret pe_bl)) pss_nil)
      (pss_cons (ps_if (pt_cmpR op_eq (pe_ix (r := rIxT K) ix_tup (pv 6) pe_int (fun _ _ => rfl)) pe_int (nomark _)) (pss_one (ps_ret (pe_fails (k := 12) L rfl rfl rfl TB rfl hmT hu (lamS_by (sc := defScope s__law_reckoned_right) (by decide +kernel)) rfl (fun _ _ _ _ _ => rfl) (hr.mono (by decide)) (fun A outer s H E f c' hr => (pe_dfM d_over hr (by decide) lamPass (pv 2) (pa_cons (pv 3) pa_nil))) (pe_tup (pa_cons pe_str (pa_cons pe_str pa_nil)))))) pss_nil)
      (pss_one (ps_ret (pe_and (pe_df d__law_right hr (by decide) pass0 (pa_cons (pe_op (op_dfB d_mul T.oi_Mult T.sf hr (by decide) pass0) (pe_dfM d_over hr (by decide) passL (pv 2) (pa_cons (pv 3) pa_nil)) (pv 3)) (pa_cons (pv 5) pa_nil))) (pe_one (pe_df d__law_right hr (by decide) pass0 (pa_cons (pe_dfM d_over hr (by decide) passL (pv 2) (pa_cons (pv 3) pa_nil)) (pa_cons (pe_df d__law_low hr (by decide) pass0 (pa_cons (pe_op op_mulW (pe_ix (r := rIxT K) ix_tup (pv 5) pe_int (fun _ _ => rfl)) (pe_ix (r := rIxT K) ix_tup (pv 6) pe_int (fun _ _ => rfl))) (pa_cons (pe_op op_mulW (pe_ix (r := rIxT K) ix_tup (pv 5) pe_int (fun _ _ => rfl)) (pe_ix (r := rIxT K) ix_tup (pv 6) pe_int (fun _ _ => rfl))) pa_nil))) pa_nil)))))))))))))), ?_⟩
  rintro M l S ⟨hM, r, t, u, rfl, hr, ht, hu, k⟩
  show B _ _ _ _ _ _ _
  try simp only [cxK, cxKn]
  have hr4 := hr.mono (m := 4000) (by decide)
  have ht4 := ht.mono (m := 4000) (by decide)
  have hu4 := hu.mono (m := 4000) (by decide)
  have tu4 := (ht.add hu (k := 300) (by decide))
  have rt4 := (hr.mul ht (k := 300) (by decide))
  have ru4 := (hr.mul hu (k := 300) (by decide))
  have rst4 := (hr.sub ht (k := 300) (by decide))
  have tsu4 := (ht.sub hu (k := 300) (by decide))
  have z1 := hr.mul tu4 (k := 14000) (by decide)
  have z2 := rt4.add ru4 (k := 14000) (by decide)
  have z3 := rst4.add ht (k := 14000) (by decide)
  have z4 := hr.sub tsu4 (k := 14000) (by decide)
  have z5 := rst4.neg.mono (m := 14000) (by decide)
  have z6 := ((ht.neg).add hu (k := 4000) (by decide))
  have tu4 := tu4.mono (m := 4000) (by decide)
  have rt4 := rt4.mono (m := 4000) (by decide)
  have ru4 := ru4.mono (m := 4000) (by decide)
  have rst4 := rst4.mono (m := 4000) (by decide)
  have tsu4 := tsu4.mono (m := 4000) (by decide)
  walk_at "k"
  refine use_rightE (by grind) z2 ?_
  walk_at "k"
  refine use_rightE (by grind) z3 ?_
  walk_at "k"
  refine use_plusN1 hu4 ht4 ?_
  walk_at "k"
  refine use_rightE (by grind) z4 ?_
  walk_at "k"
  refine use_rightE (by grind) z5 ?_
  walk_at "k"
  refine use_right01 (by grind) ?_
  walk_at "k"
  have z0 : t = 0 ↔ t.num = 0 := Rat.num_eq_zero.symm
  refine cnd (c := t = 0) (by rw [z0, decide_eq_true_iff]; exact ⟨fun e => V.int.inj e, fun e => by rw [e]⟩) (fun ht0 => ?_) (fun ht0 => ?_)
  · walk_at "k"
    refine ev_lam hM ?_
    walk_at "k"
    refine ⟨rfl, fun E => ?_, k⟩
    refine ev_methX XOk.own (by with_unfolding_all decide) ?_
    walk_at "k"
    exact use_overX num_rat hr4 ht0 ⟨rfl, rfl⟩
  · have hn : t.num ≠ 0 := fun e => ht0 (z0.mpr e)
    have hd : (r.den : Int) * t.num ≠ 0 := Int.mul_ne_zero (den_ne r) hn
    have hz : Sz 9000 ((r.den : Int) * t.num) := (hr4.2.mul ht4.1).mono (by decide)
    have m1 := hr4.1
    have m2 := hr4.2
    have m3 := ht4.1
    have m4 := ht4.2
    have rd : SzR 200 (r / t) := by
      rw [← div_eq]
      exact SzR.of_div hd (hr.1.mul ht.2) (hr.2.mul ht.1) (Nat.le_refl _) (Nat.le_refl _)
    have rd4 := rd.mono (m := 4000) (by decide)
    have rd14 := rd.mono (m := 14000) (by decide)
    have rdt := rd.mul ht (k := 14000) (by decide)
    walk_at "k"
    refine use_rightE (Rat.div_mul_cancel ht0) rdt ?_
    walk_at "k"
    refine use_rightE (div_eq r t).symm rd14 k
end
end KP

/-! K12Y -/
set_option Elab.async false
set_option Elab.async false
set_option linter.all false
set_option maxRecDepth 100000
set_option maxHeartbeats 4000000
/-! Words that are no numbers. -/
namespace KP
open PySem PySem.Spec PyProof.Rows L2 GM GS TL
theorem spl47 {acc r : List Nat} {c : Nat} : spl [47] 0 acc (c :: r) = if c = 47 then acc :: spl [47] 0 [] r else spl [47] 0 (acc ++ [c]) r := by
  by_cases h : c = 47
  · subst h
    rw [if_pos rfl]
    exact spl_hit rfl
  · rw [if_neg h]
    refine spl_miss ?_
    show ([c] == [47]) = false
    exact beq_eq_false_iff_ne.mpr fun e => h (List.cons.inj e).1
theorem spl47_len : ∀ (l acc : List Nat), (spl [47] 0 acc l).length = l.count 47 + 1
  | [], acc => by rw [spl_nil]; rfl
  | c :: r, acc => by
    rw [spl47]
    by_cases h : c = 47
    · subst h
      rw [if_pos rfl, List.length_cons, spl47_len r, List.count_cons_self]
    · rw [if_neg h, spl47_len r, List.count_cons_of_ne (by exact fun e => h e)]
theorem spl47_mem {c : Nat} (hc : c ≠ 47) : ∀ (l acc : List Nat), (c ∈ l ∨ c ∈ acc) → ∃ p ∈ spl [47] 0 acc l, c ∈ p
  | [], acc, h => by
    rw [spl_nil]
    exact ⟨acc, List.mem_singleton.mpr rfl, h.resolve_left (by simp)⟩
  | d :: r, acc, h => by
    rw [spl47]
    by_cases hd : d = 47
    · subst hd
      rw [if_pos rfl]
      rcases h with h | h
      · rcases List.mem_cons.mp h with e | h
        · exact absurd e hc
        · obtain ⟨p, hp, q⟩ := spl47_mem hc r [] (.inl h)
          exact ⟨p, List.mem_cons_of_mem _ hp, q⟩
      · exact ⟨acc, List.mem_cons_self, h⟩
    · rw [if_neg hd]
      refine spl47_mem hc r _ ?_
      rcases h with h | h
      · rcases List.mem_cons.mp h with e | h
        · exact .inr (by rw [e]; simp)
        · exact .inl h
      · exact .inr (List.mem_append_left _ h)
theorem isDig_bad {l : List Nat} {c : Nat} (h : c ∈ l) (hc : isd c = false) : isDigL l = false := by
  unfold isDigL
  rw [Bool.and_eq_false_iff]
  refine .inr ?_
  rw [List.all_eq_false]
  exact ⟨c, h, by rw [hc]; simp⟩
theorem intOf_bad {l : List Nat} {c : Nat} (h : c ∈ l) (h45 : c ≠ 45) (hc : isd c = false) : intOfL l = none := by
  unfold intOfL
  by_cases h0 : l.head? = some 45
  · rw [if_pos h0, isDig_bad (l := l.drop 1) (c := c) ?_ hc]
    · rfl
    · cases l with
      | nil => cases h
      | cons d r =>
        rcases List.mem_cons.mp h with e | h
        · subst e
          exact absurd (Option.some.inj h0) h45
        · exact h
  · rw [if_neg h0, isDig_bad h hc]
    rfl
theorem frac_bad {l : List Nat} {c : Nat} (h : c ∈ l) (h47 : c ≠ 47) (h45 : c ≠ 45) (hc : isd c = false) : fracL l = none := by
  obtain ⟨p, hp, q⟩ := spl47_mem h47 l [] (.inl h)
  unfold fracL
  match e : spl [47] 0 [] l with
  | [] => rfl
  | [a] =>
    rw [e, List.mem_singleton] at hp
    subst hp
    show (intOfL p).map _ = none
    rw [intOf_bad q h45 hc]
    rfl
  | [a, b] =>
    rw [e] at hp
    show (intOfL a).bind (fun t => (intOfL b).bind fun u => _) = none
    rcases List.mem_cons.mp hp with e | hp
    · subst e
      rw [intOf_bad q h45 hc]
      rfl
    · rw [List.mem_singleton] at hp
      subst hp
      rw [intOf_bad q h45 hc]
      cases intOfL a <;> rfl
  | _ :: _ :: _ :: _ => rfl
theorem frac_many {l : List Nat} (h : 2 ≤ l.count 47) : fracL l = none := by
  have z := spl47_len l []
  unfold fracL
  match e : spl [47] 0 [] l with
  | [] => rfl
  | [a] => rw [e] at z; simp at z; omega
  | [a, b] => rw [e] at z; simp at z; omega
  | _ :: _ :: _ :: _ => rfl
theorem intOf_zero {l : List Nat} (h : l ≠ []) : intOfL (48 :: l) = none := by
  unfold intOfL
  rw [if_neg (by simp)]
  have e : isDigL (48 :: l) = false := by
    cases l with
    | nil => exact absurd rfl h
    | cons d r =>
      unfold isDigL
      simp
  rw [e]
  rfl
theorem nt_ne {i : Int} : tl (nt i) ≠ [] := by
  cases i with
  | ofNat n =>
    rw [show tl (nt (Int.ofNat n)) = numL n from tl_nt_nat n]
    exact numL_ne n
  | negSucc m =>
    rw [tl_nt_neg]
    simp
/-- the parts of a fraction's text with more in front or behind -/
theorem spl_free47 {p rest acc : List Nat} (h : 47 ∉ p) : spl [47] 0 acc (p ++ 47 :: rest) = (acc ++ p) :: spl [47] 0 [] rest := by
  induction p generalizing acc with
  | nil => rw [List.nil_append, spl47, if_pos rfl, List.append_nil]
  | cons c p ih =>
    rw [List.mem_cons, not_or] at h
    rw [List.cons_append, spl47, if_neg (fun e => h.1 e.symm), ih h.2, List.append_assoc]
    rfl
theorem spl_last47 {p acc : List Nat} (h : 47 ∉ p) : spl [47] 0 acc p = [acc ++ p] := by
  induction p generalizing acc with
  | nil => rw [spl_nil, List.append_nil]
  | cons c p ih =>
    rw [List.mem_cons, not_or] at h
    rw [spl47, if_neg (fun e => h.1 e.symm), ih h.2, List.append_assoc]
    rfl
theorem frac_behind1 {r : Rat} : fracL (tl (txt r) ++ [47, 49]) = none := by
  by_cases h : r.den = 1
  · rw [tl_txt1 h]
    unfold fracL
    rw [spl_free47 nt_free, spl_last47 (by decide)]
    show (intOfL ([] ++ tl (nt r.num))).bind (fun t => (intOfL [49]).bind fun u => _) = none
    have e : intOfL [49] = some 1 := by decide +kernel
    rw [e]
    cases intOfL ([] ++ tl (nt r.num)) with
    | none => rfl
    | some t =>
      show (if (1 : Int) < 2 ∨ Nat.gcd t.natAbs (1 : Int).natAbs ≠ 1 then none else some (t, (1 : Int))) = none
      exact if_pos (.inl (by decide))
  · refine frac_many ?_
    rw [tl_txt2 h, List.count_append, List.count_append, List.count_append]
    have e1 : List.count 47 [47] = 1 := rfl
    have e2 : List.count 47 [47, 49] = 1 := rfl
    omega
theorem frac_slash {r : Rat} : fracL (tl (txt r) ++ [47]) = none := by
  by_cases h : r.den = 1
  · rw [tl_txt1 h]
    unfold fracL
    rw [spl_free47 nt_free, spl_nil]
    show (intOfL ([] ++ tl (nt r.num))).bind (fun t => (intOfL []).bind fun u => _) = none
    have e : intOfL [] = none := by decide +kernel
    rw [e]
    cases intOfL ([] ++ tl (nt r.num)) <;> rfl
  · refine frac_many ?_
    rw [tl_txt2 h, List.count_append, List.count_append, List.count_append]
    have e1 : List.count 47 [47] = 1 := rfl
    omega
theorem frac_zero {r : Rat} : fracL (48 :: tl (txt r)) = none := by
  by_cases h : r.den = 1
  · rw [tl_txt1 h]
    unfold fracL
    rw [spl_last47 (by rw [List.mem_cons, not_or]; exact ⟨by decide, nt_free⟩)]
    show (intOfL ([] ++ 48 :: tl (nt r.num))).map _ = none
    rw [List.nil_append, intOf_zero nt_ne]
    rfl
  · rw [tl_txt2 h]
    unfold fracL
    rw [show 48 :: (tl (nt r.num) ++ ([47] ++ tl (nt (r.den : Int)))) = (48 :: tl (nt r.num)) ++ 47 :: tl (nt (r.den : Int)) from rfl,
      spl_free47 (by rw [List.mem_cons, not_or]; exact ⟨by decide, nt_free⟩), spl_last47 nt_free]
    show (intOfL ([] ++ 48 :: tl (nt r.num))).bind _ = none
    rw [List.nil_append, intOf_zero nt_ne]
    rfl
/-- no number word -/
def NoW (w : Str) : Prop := w.length ≤ 100000 ∧ fracL w.cps.toList = none
theorem noW_lit {w : Str} (h : (decide (w.length ≤ 100000) && decide (fracL w.cps.toList = none)) = true) : NoW w := by
  rw [Bool.and_eq_true, decide_eq_true_iff, decide_eq_true_iff] at h
  exact h
theorem noW_app {a b : Str} (ha : a.length ≤ 10000) (hb : b.length ≤ 10000) (h : fracL (tl a ++ tl b) = none) : NoW (a ++ b) := ⟨by rw [str_len]; omega, by rw [← tl_append] at h; exact h⟩
theorem rep_len : (Txt.mul ⟨#[48]⟩ 1000).cps.toList = List.replicate 1000 48 := mul_tl (n := 1000) (by decide)
theorem noW_big1 : NoW (Str.ofString "1" ++ Txt.mul ⟨#[48]⟩ 1000) := by
  have e : tl (Txt.mul ⟨#[48]⟩ 1000) = List.replicate 1000 48 := rep_len
  have e1 : tl (Str.ofString "1") = [49] := by decide +kernel
  refine noW_app (by decide +kernel) ?_ ?_
  · rw [len_tl, e, List.length_replicate]
    decide
  · rw [e, e1]
    decide +kernel
theorem noW_big2 : NoW (Str.ofString "1/1" ++ Txt.mul ⟨#[48]⟩ 1000) := by
  have e : tl (Txt.mul ⟨#[48]⟩ 1000) = List.replicate 1000 48 := rep_len
  have e1 : tl (Str.ofString "1/1") = [49, 47, 49] := by decide +kernel
  refine noW_app (by decide +kernel) ?_ ?_
  · rw [len_tl, e, List.length_replicate]
    decide
  · rw [e, e1]
    decide +kernel
theorem noW_suf {r : Rat} {b : Str} (hs : SzR 14000 r) {c : Nat} (hb : tl b = [c]) (h47 : c ≠ 47) (h45 : c ≠ 45) (hc : isd c = false) : NoW (txt r ++ b) :=
  noW_app (txt_len hs) (by rw [len_tl, hb]; exact (by decide : 1 ≤ 10000)) (by rw [hb]; exact frac_bad (c := c) (by simp) h47 h45 hc)
theorem noW_pre {r : Rat} {b : Str} (hs : SzR 14000 r) {c : Nat} (hb : tl b = [c]) (h47 : c ≠ 47) (h45 : c ≠ 45) (hc : isd c = false) : NoW (b ++ txt r) :=
  noW_app (by rw [len_tl, hb]; exact (by decide : 1 ≤ 10000)) (txt_len hs) (by rw [hb]; exact frac_bad (c := c) (by simp) h47 h45 hc)
theorem noW_one {r : Rat} {b : Str} (hs : SzR 14000 r) (hb : tl b = [47, 49]) : NoW (txt r ++ b) := noW_app (txt_len hs) (by rw [len_tl, hb]; decide) (by rw [hb]; exact frac_behind1)
theorem noW_slash {r : Rat} {b : Str} (hs : SzR 14000 r) (hb : tl b = [47]) : NoW (txt r ++ b) := noW_app (txt_len hs) (by rw [len_tl, hb]; decide) (by rw [hb]; exact frac_slash)
theorem noW_zero {r : Rat} {b : Str} (hs : SzR 14000 r) (hb : tl b = [48]) : NoW (b ++ txt r) := noW_app (by rw [len_tl, hb]; decide) (txt_len hs) (by rw [hb]; exact frac_zero)
end KP

/-! K12H -/
set_option Elab.async false
set_option Elab.async false
set_option linter.all false
set_option maxRecDepth 100000
set_option maxHeartbeats 4000000
namespace KP
open PySem PySem.Spec PyProof.Rows L2 GM GS L2H LamX
local macro_rules | `(tactic| walk_at "sh") => `(tactic| repeat (first
  | ((with_reducible show GS.Ev _ _ _ _); first
    | with_reducible refine GS.ev_c ?_
    | ((with_reducible show GS.Ev _ (L2.tVar _) _ _); refine GS.ev_var rfl ?_)
    | with_reducible refine GS.ev_op ?_
    | with_reducible refine GS.ev_cb ?_
    | with_reducible refine GS.ev_un ?_
    | with_reducible refine GS.ev_tup ?_
    | with_reducible refine GS.ev_lst ?_
    | with_reducible refine GS.ev_if ?_
    | with_reducible refine GS.ev_andV ?_
    | with_reducible refine GS.ev_orV ?_
    | with_reducible refine GS.ev_notV ?_
    | with_reducible refine GS.ev_sl ?_
    | with_reducible refine GS.ev_fmtS ?_
    | with_reducible refine GS.ev_fmtL ?_
    | with_reducible refine GS.ev_joined ?_
    | with_reducible refine GS.ev_m1 ?_)
  | ((with_reducible show GS.E2 _ _ _ _ _); first
    | with_reducible refine GS.e2_I0 ?_
    | with_reducible refine GS.e2_I ?_
    | ((with_reducible refine GS.e2_eq ?_ ?_); exact rfl)
    | ((with_reducible refine GS.e2_ne ?_ ?_); exact rfl)
    | with_reducible refine GS.e2_isN ?_
    | with_reducible refine GS.e2_notN ?_
    | ((with_reducible show GS.E2 _ (L2.rIxL _) _ _ _); refine GS.e2_ixL rfl ?_)
    | ((with_reducible show GS.E2 _ (L2.rIxT _) _ _ _); refine GS.e2_ixT rfl ?_)
    | ((with_reducible show GS.E2 _ (L2.rIx _) (GS.Sh.lst _) _ _); refine GS.e2_ix_l rfl ?_)
    | ((with_reducible show GS.E2 _ (L2.rIx _) (GS.Sh.tup _) _ _); refine GS.e2_ix_t rfl ?_)
    | with_reducible refine GS.e2_cat ?_
    | with_reducible refine GS.e2_addS ?_
    | with_reducible refine GS.e2_inSign ?_)
  | ((with_reducible show GS.Ea _ _ _ _); first
    | with_reducible refine GS.ea_cons ?_
    | with_reducible refine GS.ea_nil ?_)
  | ((with_reducible show GS.Et _ _ _ _); first
    | with_reducible refine GS.et_B ?_
    | with_reducible refine GS.et_test ?_
    | with_reducible refine GS.et_not ?_
    | with_reducible refine GS.et_and ?_
    | with_reducible refine GS.et_or ?_
    | with_reducible refine GS.et_yes ?_
    | with_reducible refine GS.et_tru ?_)
  | ((with_reducible show GS.B _ _ _ _ _ _ _); first
    | with_reducible refine GS.b_seq ?_
    | with_reducible refine GS.b_if ?_
    | with_reducible refine GS.b_ret ?_
    | with_reducible refine GS.b_asg ?_
    | with_reducible refine GS.b_drop ?_
    | with_reducible refine GS.b_next ?_
    | with_reducible refine GS.b_par ?_
    | with_reducible refine GS.b_raise (fun _ => rfl) ?_)
  | with_reducible refine GS.eg_name ?_
  | with_reducible refine GS.egs_cons ?_
  | with_reducible refine GS.egs_nil ?_
  | ((with_reducible refine GS.eg_tup ?_ ?_); exact rfl)
  | with_reducible refine GS.e1_U ?_
  | ((with_reducible show GS.En _ _ _ _); first
    | with_reducible refine GS.en_len_l ?_
    | with_reducible refine GS.en_len_t ?_
    | with_reducible refine GS.en_len_str ?_
    | with_reducible refine GS.en_int ?_
    | with_reducible refine GS.en_bool ?_
    | with_reducible refine GS.en_abs ?_
    | with_reducible refine GS.en_str ?_
    | with_reducible refine GS.en_strL ?_
    | with_reducible refine GS.en_gcd ?_
    | with_reducible refine GS.en_list_l ?_
    | with_reducible refine GS.en_list_t ?_
    | with_reducible refine GS.en_tuple_l ?_)
  | with_reducible refine GS.ex_bl ?_
  | with_reducible refine GS.ex_str ?_
  | with_reducible refine GS.ex_int ?_
  | with_reducible refine GS.ex_v ?_
  | with_reducible refine GS.ex_two ?_
  | with_reducible refine GS.ex_lst ?_
  | with_reducible refine GS.ex_tup ?_
  | with_reducible refine GS.ex_lst1 ?_
  | with_reducible refine GS.ex_truS ?_
  | ((with_reducible show ∃ _, GS.TruS _ _ ∧ _); refine GS.ex_tru rfl ?_)
  | with_reducible refine GS.eo_no ?_
  | with_reducible refine GS.eo_yes ?_
  | with_reducible refine GS.e3_list ?_
  | with_reducible refine GS.e3_str ?_
  | with_reducible refine GS.ej_cons ?_
  | with_reducible refine GS.ej_nil ?_
  | with_reducible refine GS.em_split ?_
  | with_reducible refine GS.em_starts ?_
  | ((with_reducible show GS.Ei _ _ _ _); first
    | with_reducible refine GS.ei_list ?_
    | with_reducible refine GS.ei_tup ?_
    | with_reducible refine GS.ei_str ?_
    | with_reducible refine GS.ei_enum ?_
    | with_reducible refine GS.ei_zip ?_
    | with_reducible refine GS.ei_range1 ?_
    | with_reducible refine GS.ei_range2 ?_)
  | ((with_reducible show _ ∧ _); first
    | ((with_reducible refine And.intro ?_ ?_); (with_reducible assumption))
    | ((with_reducible refine GS.sz_and ?_ ?_); exact rfl)
    | ((with_reducible refine GS.cnd_t ?_ ?_); exact rfl)
    | ((with_reducible refine GS.cnd_f ?_ ?_); exact rfl))))

section
variable {P : Program} {w : World} {K : PySem.W.Frag} {mg : Str → Option Value} {base : Heap} {C Co fo : Addr} {j : J} {q : Sh → Prop} {x : Sh} {a : Ty0} {ex : Addr → List (Str × V) → Prop}
local macro_rules | `(tactic| walk_at "k") => `(tactic| repeat (first
  | ((with_reducible show GS.Ev _ _ _ _); first
    | with_reducible refine GS.ev_c ?_
    | ((with_reducible show GS.Ev _ (L2.tVar _) _ _); refine GS.ev_var rfl ?_)
    | with_reducible refine GS.ev_op ?_
    | with_reducible refine GS.ev_cb ?_
    | with_reducible refine GS.ev_un ?_
    | with_reducible refine GS.ev_tup ?_
    | with_reducible refine GS.ev_lst ?_
    | with_reducible refine GS.ev_if ?_
    | with_reducible refine GS.ev_andV ?_
    | with_reducible refine GS.ev_orV ?_
    | with_reducible refine GS.ev_notV ?_
    | with_reducible refine GS.ev_sl ?_
    | with_reducible refine GS.ev_fmtS ?_
    | with_reducible refine GS.ev_fmtL ?_
    | with_reducible refine GS.ev_joined ?_
    | with_reducible refine GS.ev_m1 ?_)
  | ((with_reducible show GS.E2 _ _ _ _ _); first
    | with_reducible refine GS.e2_I0 ?_
    | with_reducible refine GS.e2_I ?_
    | ((with_reducible refine GS.e2_eq ?_ ?_); exact rfl)
    | ((with_reducible refine GS.e2_ne ?_ ?_); exact rfl)
    | with_reducible refine GS.e2_isN ?_
    | with_reducible refine GS.e2_notN ?_
    | ((with_reducible show GS.E2 _ (L2.rIxL _) _ _ _); refine GS.e2_ixL rfl ?_)
    | ((with_reducible show GS.E2 _ (L2.rIxT _) _ _ _); refine GS.e2_ixT rfl ?_)
    | ((with_reducible show GS.E2 _ (L2.rIx _) (GS.Sh.lst _) _ _); refine GS.e2_ix_l rfl ?_)
    | ((with_reducible show GS.E2 _ (L2.rIx _) (GS.Sh.tup _) _ _); refine GS.e2_ix_t rfl ?_)
    | with_reducible refine GS.e2_cat ?_
    | with_reducible refine GS.e2_addS ?_
    | with_reducible refine GS.e2_inSign ?_)
  | ((with_reducible show GS.Ea _ _ _ _); first
    | with_reducible refine GS.ea_cons ?_
    | with_reducible refine GS.ea_nil ?_)
  | ((with_reducible show GS.Et _ _ _ _); first
    | with_reducible refine GS.et_B ?_
    | with_reducible refine GS.et_test ?_
    | with_reducible refine GS.et_not ?_
    | with_reducible refine GS.et_and ?_
    | with_reducible refine GS.et_or ?_
    | with_reducible refine GS.et_yes ?_
    | with_reducible refine GS.et_tru ?_)
  | ((with_reducible show GS.B _ _ _ _ _ _ _); first
    | with_reducible refine GS.b_seq ?_
    | with_reducible refine GS.b_if ?_
    | with_reducible refine GS.b_ret ?_
    | with_reducible refine GS.b_asg ?_
    | with_reducible refine GS.b_drop ?_
    | with_reducible refine GS.b_next ?_
    | with_reducible refine GS.b_par ?_
    | with_reducible refine GS.b_raise (fun _ => rfl) ?_)
  | with_reducible refine GS.eg_name ?_
  | with_reducible refine GS.egs_cons ?_
  | with_reducible refine GS.egs_nil ?_
  | ((with_reducible refine GS.eg_tup ?_ ?_); exact rfl)
  | ((with_reducible refine GS.eg_unl ?_ ?_); exact rfl)
  | with_reducible refine GS.e1_U ?_
  | ((with_reducible show GS.En _ _ _ _); first
    | with_reducible refine GS.en_len_l ?_
    | with_reducible refine GS.en_len_t ?_
    | with_reducible refine GS.en_len_str ?_
    | with_reducible refine GS.en_int ?_
    | with_reducible refine GS.en_bool ?_
    | with_reducible refine GS.en_abs ?_
    | with_reducible refine GS.en_str ?_
    | with_reducible refine GS.en_strL ?_
    | with_reducible refine GS.en_gcd ?_
    | with_reducible refine GS.en_list_l ?_
    | with_reducible refine GS.en_list_t ?_
    | with_reducible refine GS.en_tuple_l ?_)
  | with_reducible refine GS.ex_bl ?_
  | with_reducible refine GS.ex_str ?_
  | with_reducible refine GS.ex_int ?_
  | with_reducible refine GS.ex_v ?_
  | with_reducible refine GS.ex_two ?_
  | with_reducible refine GS.ex_lst ?_
  | with_reducible refine GS.ex_tup ?_
  | with_reducible refine GS.ex_lst1 ?_
  | with_reducible refine GS.ex_truS ?_
  | ((with_reducible show ∃ _, GS.TruS _ _ ∧ _); refine GS.ex_tru rfl ?_)
  | with_reducible refine GS.eo_no ?_
  | with_reducible refine GS.eo_yes ?_
  | with_reducible refine GS.e3_list ?_
  | with_reducible refine GS.e3_str ?_
  | with_reducible refine GS.ej_cons ?_
  | with_reducible refine GS.ej_nil ?_
  | with_reducible refine GS.em_split ?_
  | with_reducible refine GS.em_starts ?_
  | ((with_reducible show GS.Ei _ _ _ _); first
    | with_reducible refine GS.ei_list ?_
    | with_reducible refine GS.ei_tup ?_
    | with_reducible refine GS.ei_str ?_
    | with_reducible refine GS.ei_enum ?_
    | with_reducible refine GS.ei_zip ?_
    | with_reducible refine GS.ei_range1 ?_
    | with_reducible refine GS.ei_range2 ?_)
  | ((with_reducible show _ ∧ _); first
    | ((with_reducible refine And.intro ?_ ?_); (with_reducible assumption))
    | ((with_reducible refine GS.sz_and ?_ ?_); exact rfl)
    | ((with_reducible refine GS.cnd_t ?_ ?_); exact rfl)
    | ((with_reducible refine GS.cnd_f ?_ ?_); exact rfl))
  | ((with_reducible show GS.En _ (L2.rIsi _) _ _); first
    | ((with_reducible apply isi_int (by with_reducible assumption)); (first | with_reducible assumption | exact knd_int | exact knd_bl | exact knd_str | exact knd_non | exact knd_lst | exact knd_tup | exact knd_rat (by assumption)))
    | ((with_reducible apply isi_bool (by with_reducible assumption)); (first | with_reducible assumption | exact knd_int | exact knd_bl | exact knd_str | exact knd_non | exact knd_lst | exact knd_tup | exact knd_rat (by assumption)))
    | ((with_reducible apply isi_str (by with_reducible assumption)); (first | with_reducible assumption | exact knd_int | exact knd_bl | exact knd_str | exact knd_non | exact knd_lst | exact knd_tup | exact knd_rat (by assumption)))
    | ((with_reducible apply isi_tuple (by with_reducible assumption)); (first | with_reducible assumption | exact knd_int | exact knd_bl | exact knd_str | exact knd_non | exact knd_lst | exact knd_tup | exact knd_rat (by assumption)))
    | ((with_reducible apply isi_list (by with_reducible assumption)); (first | with_reducible assumption | exact knd_int | exact knd_bl | exact knd_str | exact knd_non | exact knd_lst | exact knd_tup | exact knd_rat (by assumption)))
    | ((with_reducible apply isi_rat (by with_reducible assumption)); (first | with_reducible assumption | exact knd_int | exact knd_bl | exact knd_str | exact knd_non | exact knd_lst | exact knd_tup | exact knd_rat (by assumption))))
  | (with_reducible refine ev_top (by with_reducible assumption) ?_)
  | (with_reducible refine ev_bot (by with_reducible assumption) ?_)
  | with_reducible refine ex_rat ?_
  | with_reducible refine GS.ev_call (E := L2.E0) GS.XOk.no ?_
  | with_reducible refine GS.ev_call GS.XOk.own ?_
  | ((with_reducible show GS.Callx _ _ _ _ _); first
    | ((with_reducible apply use_integral); (first | with_reducible assumption | exact knd_int | exact knd_bl | exact knd_str | exact knd_non | exact knd_lst | exact knd_tup | exact knd_rat (by assumption)))
    | ((with_reducible apply use_parts); first | with_reducible assumption | exact num_rat | exact num_int)
    | ((with_reducible refine use_digits ?_ ?_); with_reducible assumption)
    | ((with_reducible refine use_intof ?_ ?_); with_reducible assumption)
    | ((with_reducible refine use_frac ?_ ?_); with_reducible assumption)
    | with_reducible refine use_gcd ?_
    | with_reducible refine use_isR ?_
    | ((with_reducible apply use_repr); (with_reducible assumption))
    | with_reducible refine use_bool ?_
    | ((with_reducible apply use_num); (with_reducible assumption))
    | ((with_reducible apply use_text); (with_reducible assumption))
    | with_reducible refine use_same_str ?_
    | with_reducible refine use_same_bl ?_
    | with_reducible refine use_same_l3 ?_
    | with_reducible refine use_same_t2 ?_
    | ((with_reducible apply use_right); (with_reducible assumption))
    | ((with_reducible apply use_low); (with_reducible assumption); (with_reducible assumption)))
  | with_reducible refine GS.ev_make (E := L2.E0) GS.XOk.no ?_
  | with_reducible refine GS.ev_make GS.XOk.own ?_
  | ((with_reducible show L2.CMulW _ _ ∧ _); refine And.intro (cmw (by with_reducible assumption) (by with_reducible assumption)) ?_)
  | ((with_reducible refine use_init ?_ ?_ ?_); (with_reducible assumption); (with_reducible assumption))
  | with_reducible refine ex_insR ?_
  | ((with_reducible apply use_plusI); (with_reducible assumption); (with_reducible assumption))
  | ((with_reducible apply use_rightI); (with_reducible assumption))
  | ((with_reducible apply use_mk2); (with_reducible assumption))
  | ((with_reducible apply use_mk1); (with_reducible assumption))
  | ((with_reducible apply e2_add); (with_reducible assumption); (with_reducible assumption))
  | ((with_reducible apply e2_sub); (with_reducible assumption); (with_reducible assumption))
  | ((with_reducible apply e2_mul); (with_reducible assumption); (with_reducible assumption))
  | ((with_reducible apply e2_addI); (with_reducible assumption); (with_reducible assumption))
  | ((with_reducible apply e2_subI); (with_reducible assumption); (with_reducible assumption))
  | ((with_reducible apply e2_mulI); (with_reducible assumption); (with_reducible assumption))
  | ((with_reducible apply e1_neg); (with_reducible assumption))
  | ((with_reducible apply use_plus); (with_reducible assumption); (with_reducible assumption))
  | ((with_reducible apply use_plusN); (with_reducible assumption); (with_reducible assumption))
  | ((with_reducible apply use_times); (with_reducible assumption); (with_reducible assumption))
  | ((with_reducible apply use_over); (with_reducible assumption); (with_reducible assumption); (with_reducible assumption))
  | ((with_reducible apply use_overI); (with_reducible assumption); (with_reducible assumption); (with_reducible assumption))
  | ((with_reducible apply use_read); (with_reducible assumption); (with_reducible assumption))
  | with_reducible refine ev_readR ?_
  | with_reducible refine cr_and ?_
  | ((with_reducible refine egPr ?_ ?_); exact rfl)
  | ((with_reducible refine ev_methR ?_ ?_); (with_unfolding_all decide))
  | with_reducible refine exR_and ?_
  | with_reducible refine e2_eqR (by with_reducible assumption) ?_
  | with_reducible refine e2_eqI (by with_reducible assumption) ?_
  | with_reducible refine ixPr0 ?_
  | with_reducible refine ixPr1 ?_
  | with_reducible refine GS.en_ownReprG GS.XOk.no insRt ?_
  | with_reducible refine GS.en_ownBoolG GS.XOk.no insRt ?_
  | ((with_reducible show (0 : Int) < _ ∧ _); (refine And.intro ?_ ?_); (first | decide | assumption | omega))
  | ((with_reducible show L2.CPow _ _ ∧ _); refine And.intro ⟨by decide, by decide, by decide⟩ ?_)
  | ((with_reducible show L2.CMul _ _ ∧ _); (refine And.intro ?_ ?_); first | exact .inr ⟨by decide, by decide⟩ | exact .inl ⟨by decide, by decide⟩ | exact .inr ⟨by omega, by omega⟩ | exact .inl ⟨by omega, by omega⟩)
  | with_reducible refine GS.ev_prop GS.XOk.no ?_))

/-- what read refuses -/
def BadR (K : PySem.W.Frag) (C : Addr) (s : Sh) : Prop := (∃ w, s = .str w ∧ NoW w) ∨ ∃ a, Knd K C s a ∧ a ≠ .str
theorem eg_gen {g : TG} {ss : SS} {qs : SS → Prop} {l : List Sh} (P : List Sh → Prop) (h : P l) (k : ∀ n, P n → Eg j g (.lst n) ss qs) : Eg j g (.lst l) ss qs := k l h
theorem use_readX {s : Sh} (h : BadR K C s) (k : ex Co outN) : Callx j (fsRead K C Co) [s] q ex := by
  rcases h with ⟨w, rfl, h1, h2⟩ | ⟨a, h1, h2⟩
  · exact callx_of (.inl ⟨w, rfl, h1, .inr ⟨h2, k⟩⟩)
  · exact callx_of (.inr ⟨s, a, rfl, h1, h2, k⟩)
def fsRef (C : Addr) (TT : List (Addr × Str)) : Fs := fun M l S => M.tab = TT ∧ M.out = false ∧ ∃ r, l = [.bag, Rt C r, Pr r] ∧ SzR 100 r ∧ S (.ret (.bl true))
theorem ok_ref {f c2 P1 P2 : Addr} {fd : FuncData} (F : FunL K "_law_refused" "_law_refused" s__law_refused f fd c2) (L : Fl P w K mg base C Co fo) (TB : TabB base mg c2 P2) (hP : P1 ≠ P2) (T : Tx P K mg C Co fo)
    (d__law_of : Df P w K mg base CX0 2 "_law_of" [] (SpS fsOf)) (d__law_number : Df P w K mg base CX0 2 "_law_number" [] (SpS fsNum)) (d__law_same : Df P w K mg base CX0 2 "_law_same" [] (SpS fsSame0))
    (d_Ratio2 : DfC P w K mg base (L2.CX P w) 4 "Ratio" C [] (SpI C (fsInit K C Co))) (d_Ratio1 : DfC P w K mg base (L2.CX P w) 4 "Ratio" C [.int 1] (SpI C (fsInit K C Co))) (d_read : DfS P w K mg base (L2.CX P w) 6 C "read" (SpS (fsRead K C Co))) (d_over : DfM P w K mg base (L2.CX P w) 6 C "over" (SpS (fsOver C Co)))
    (d_sub : DfO P w K mg base CX0 6 C "__sub__" (SpS (fsArith C (· - ·)))) (d_eq : DfO P w K mg base CX0 1 C "__eq__" (SpS (fsEq K C))) :
    FnOk P w K mg base CX0 20 f fd ["bag", "x", "p"] (SpS (fsRef C (lamT P1 P2))) := by
  have hmT : (P2, (("_law_refused.<locals>.<lambda>" : String) : Str)) ∈ lamT P1 P2 := List.mem_cons_of_mem _ List.mem_cons_self
  have hu : ∀ p ∈ lamT P1 P2, p.1 = P2 → p.2 = (("_law_refused.<locals>.<lambda>" : String) : Str) := fun p hp e => by
    rcases List.mem_cons.mp hp with rfl | hp
    · exact absurd e hP
    · rw [List.mem_singleton.mp hp]
  refine fun_okL F sc__law_refused (fun M l S ⟨_, _, _, e, _⟩ => e ▸ rfl) fun A outer s H E hr => ?_
  refine ⟨_, (pss_cons (ps_for PassesOwn.never rfl (pi_list (pe_lst (pa_cons pe_int (pa_cons (pe_dfC d_Ratio1 hr (by decide) passL (pa_cons pe_int pa_nil)) (pa_cons (pe_dfC d_Ratio2 hr (by decide) passL (pa_cons pe_int (pa_cons (pe_un un_neg pe_int) pa_nil))) (pa_cons (pe_op (op_dfB d_sub T.oi_Sub T.sf hr (by decide) pass0) (pv 1) (pv 1)) pa_nil)))))) (pg_name (i := 3) sc__law_refused.nd rfl (Or.inr rfl)) (pss_one (ps_if (pt_not (pt_val (pe_fails (k := 12) L rfl rfl rfl TB rfl hmT hu (lamS_by (sc := defScope s__law_refused) (by decide +kernel)) rfl (fun _ _ _ _ _ => rfl) (hr.mono (by decide)) (fun A outer s H E f c' hr => (pe_dfM d_over hr (by decide) lamPass (pv 1) (pa_cons (pv 3) pa_nil))) (pe_tup (pa_cons pe_str (pa_cons pe_str pa_nil)))))) (pss_one (ps_ret pe_bl)) pss_nil)))
      (pss_cons (ps_set (i := 4) sc__law_refused.nd rfl (Or.inl rfl) (pe_df d__law_number hr (by decide) pass0 (pa_cons (pv 2) pa_nil)))
      (pss_cons (ps_set (i := 5) sc__law_refused.nd rfl (Or.inl rfl) (pe_lst (pa_cons pe_str (pa_cons pe_str (pa_cons pe_str (pa_cons pe_str (pa_cons pe_str (pa_cons pe_str (pa_cons pe_str (pa_cons pe_str (pa_cons pe_str (pa_cons pe_str (pa_cons pe_str (pa_cons pe_str (pa_cons pe_str (pa_cons pe_str (pa_cons pe_str (pa_cons pe_str (pa_cons pe_str (pa_cons pe_str (pa_cons pe_str (pa_cons pe_str (pa_cons pe_str (pa_cons pe_str (pa_cons pe_str (pa_cons pe_str pa_nil))))))))))))))))))))))))))
      (pss_cons (ps_set (i := 5) sc__law_refused.nd rfl (Or.inl rfl) (pe_op op_cat (pv 5) (pe_lst (pa_cons (pe_op op_add_str (pv 4) pe_str) (pa_cons (pe_op op_add_str pe_str (pv 4)) (pa_cons (pe_op op_add_str (pv 4) pe_str) (pa_cons (pe_op op_add_str (pv 4) pe_str) (pa_cons (pe_op op_add_str pe_str (pv 4)) (pa_cons (pe_op op_add_str pe_str (pv 4)) (pa_cons (pe_op op_add_str (pv 4) pe_str) (pa_cons (pe_op op_add_str pe_str (pe_op op_mulS pe_str pe_int)) (pa_cons (pe_op op_add_str pe_str (pe_op op_mulS pe_str pe_int)) (pa_cons pe_non (pa_cons pe_int (pa_cons pe_bl (pa_cons (pe_lst (pa_cons pe_str pa_nil)) (pa_cons (pe_tup (pa_cons pe_str pa_nil)) (pa_cons (pv 1) (pa_cons (pe_disp (pps_cons pe_str pe_int pps_nil) (by rfl) (by rfl) (fun z => by cases z) (by decide)) pa_nil)))))))))))))))))))
      (pss_cons (ps_for PassesOwn.never rfl (pi_range1 rfl T.n_range (pa_cons pe_int pa_nil)) (pg_name (i := 6) sc__law_refused.nd rfl (Or.inl rfl)) (pss_cons (ps_set (i := 3) sc__law_refused.nd rfl (Or.inr rfl) (pe_df d__law_of hr (by decide) pass0 (pa_cons (pv 0) (pa_cons (pv 5) pa_nil))))
      (pss_one (ps_if (pt_not (pt_val (pe_fails (k := 12) L rfl rfl rfl TB rfl hmT hu (lamS_by (sc := defScope s__law_refused) (by decide +kernel)) rfl (fun _ _ _ _ _ => rfl) (hr.mono (by decide)) (fun A outer s H E f c' hr => (pe_dfS d_read hr (by decide) lamPass (pe_glob (v := .ref C) (by rfl) T.g_Ratio rfl) (pa_cons (pv 3) pa_nil))) (pe_tup (pa_cons pe_str (pa_cons pe_str pa_nil)))))) (pss_one (ps_ret pe_bl)) pss_nil))))
      (pss_cons (ps_set (i := 7) sc__law_refused.nd rfl (Or.inr rfl) (pe_df d__law_of hr (by decide) pass0 (pa_cons (pv 0) (pa_cons (pe_lst (pa_cons pe_bl (pa_cons pe_bl (pa_cons pe_non (pa_cons pe_str (pa_cons (pe_lst (pa_cons pe_int pa_nil)) (pa_cons (pe_tup (pa_cons pe_int pa_nil)) (pa_cons (pv 1) (pa_cons (pe_dfC d_Ratio1 hr (by decide) passL (pa_cons pe_int pa_nil)) (pa_cons pe_dnewK (pa_cons pe_str (pa_cons (pe_lst (pa_cons pe_str pa_nil)) pa_nil)))))))))))) pa_nil))))
      (pss_cons (ps_if (pt_not (pt_val (pe_fails (k := 12) L rfl rfl rfl TB rfl hmT hu (lamS_by (sc := defScope s__law_refused) (by decide +kernel)) rfl (fun _ _ _ _ _ => rfl) (hr.mono (by decide)) (fun A outer s H E f c' hr => (pe_dfC d_Ratio1 hr (by decide) lamPass (pa_cons (pv 7) pa_nil))) (pe_tup (pa_cons pe_str (pa_cons pe_str pa_nil)))))) (pss_one (ps_ret pe_bl)) pss_nil)
      (pss_cons (ps_for PassesOwn.never rfl (pi_list (pe_lst (pa_cons (pv 7) (pa_cons pe_int pa_nil)))) (pg_name (i := 8) sc__law_refused.nd rfl (Or.inr rfl)) (pss_one (ps_for PassesOwn.never rfl (pi_list (pe_lst (pa_cons (pe_ix (r := rIxT K) ix_tup (pv 2) pe_int (fun _ _ => rfl)) (pa_cons (pv 7) pa_nil)))) (pg_name (i := 9) sc__law_refused.nd rfl (Or.inr rfl)) (pss_one (ps_if (pt_not (pt_val (pe_fails (k := 12) L rfl rfl rfl TB rfl hmT hu (lamS_by (sc := defScope s__law_refused) (by decide +kernel)) rfl (fun _ _ _ _ _ => rfl) (hr.mono (by decide)) (fun A outer s H E f c' hr => (pe_dfC d_Ratio2 hr (by decide) lamPass (pa_cons (pv 9) (pa_cons (pv 8) pa_nil)))) (pe_tup (pa_cons pe_str (pa_cons pe_str pa_nil)))))) (pss_one (ps_ret pe_bl)) pss_nil)))))
      (pss_cons (ps_for PassesOwn.never rfl (pi_list (pe_lst (pa_cons (pv 2) (pa_cons (pe_tup (pa_cons (pe_ix (r := rIxT K) ix_tup (pv 2) pe_int (fun _ _ => rfl)) (pa_cons (pe_ix (r := rIxT K) ix_tup (pv 2) pe_int (fun _ _ => rfl)) pa_nil))) (pa_cons (pe_lst (pa_cons (pe_ix (r := rIxT K) ix_tup (pv 2) pe_int (fun _ _ => rfl)) (pa_cons (pe_ix (r := rIxT K) ix_tup (pv 2) pe_int (fun _ _ => rfl)) pa_nil))) (pa_cons (pv 4) (pa_cons (pe_ix (r := rIxT K) ix_tup (pv 2) pe_int (fun _ _ => rfl)) (pa_cons pe_non (pa_cons pe_bl (pa_cons pe_bl (pa_cons (pe_op op_add_str (pe_op op_add_str pe_str (pv 4)) pe_str) pa_nil))))))))))) (pg_name (i := 10) sc__law_refused.nd rfl (Or.inl rfl)) (pss_one (ps_if (pt_not (pt_val (pe_df d__law_same hr (by decide) pass0 (pa_cons (pe_cmpR (op_dfEq d_eq hr (by decide) pass0) (pv 1) (pv 10) (nomark _)) (pa_cons pe_bl pa_nil))))) (pss_one (ps_ret pe_bl)) pss_nil)))
      (pss_one (ps_ret pe_bl))))))))))), ?_⟩
  rintro M l S ⟨hM, ho, r, rfl, hr, k⟩
  show B _ _ _ _ _ _ _
  try simp only [cxK, cxKn]
  have hr4 := hr.mono (m := 4000) (by decide)
  have hr14 := hr.mono (m := 14000) (by decide)
  have mk0 : Mk1 0 1 0 := ⟨by decide, Nat.one_lt_two_pow (by decide), rfl⟩
  have mk5 : Mk1 0 (-5) 0 := ⟨by decide, (by decide +kernel : (5 : Nat) < 2 ^ 9000), rfl⟩
  have mk1 : Mk1 1 1 1 := ⟨by decide, Nat.one_lt_two_pow (by decide), rfl⟩
  refine b_seq (b_for ?_)
  walk_at "k"
  refine ⟨fun _ ss => ∃ o, ss = [some .bag, some (Rt C r), some (Pr r), o, none, none, none, none, none, none, none], ⟨none, rfl⟩, ?_, ?_⟩
  · rintro i s ss1 hi ⟨o, rfl⟩
    obtain ⟨t, hy, ht⟩ : ∃ t, Num C s t ∧ t = 0 := by
      have hi4 : i < 4 := by
        have z := (List.getElem?_eq_some_iff.mp hi).1
        simpa using z
      match i, hi4 with
      | 0, _ => cases hi; exact ⟨_, num_int, rfl⟩
      | 1, _ => cases hi; exact ⟨_, num_rat, rfl⟩
      | 2, _ => cases hi; exact ⟨_, num_rat, rfl⟩
      | 3, _ => cases hi; exact ⟨_, num_rat, by grind⟩
    walk_at "k"
    refine ev_lam hM ?_
    walk_at "k"
    refine ⟨rfl, fun E => ?_, ?_⟩
    · refine ev_methX XOk.own (by with_unfolding_all decide) ?_
      walk_at "k"
      exact use_overX hy hr4 ht ⟨rfl, rfl⟩
    walk_at "k"
    exact ⟨_, rfl⟩
  rintro ss1 ⟨o, rfl⟩
  walk_at "k"
  have w1 := txt_len hr14
  have c1 : (Str.ofString " ").length = 1 := by decide +kernel
  have c2 : (Str.ofString "\n").length = 1 := by decide +kernel
  have c3 : (Str.ofString "/1").length = 2 := by decide +kernel
  have c4 : (Str.ofString "0").length = 1 := by decide +kernel
  have c5 : (Str.ofString "+").length = 1 := by decide +kernel
  have c6 : (Str.ofString "/").length = 1 := by decide +kernel
  have c7 : (Str.ofString "1").length = 1 := by decide +kernel
  have c8 : (Str.ofString "1/1").length = 3 := by decide +kernel
  have c9 : (Txt.mul ⟨#[48]⟩ 1000).length = 1000 := by
    rw [TL.len_tl]
    show (Txt.mul ⟨#[48]⟩ 1000).cps.toList.length = 1000
    rw [rep_len, List.length_replicate]
  have e0 : Str.ofString "0" = ⟨#[48]⟩ := by decide +kernel
  refine ⟨le_line (by omega), ?_⟩
  walk_at "k"
  refine ⟨le_line (by omega), ?_⟩
  walk_at "k"
  refine ⟨le_line (by omega), ?_⟩
  walk_at "k"
  refine ⟨le_line (by omega), ?_⟩
  walk_at "k"
  refine ⟨le_line (by omega), ?_⟩
  walk_at "k"
  refine ⟨le_line (by omega), ?_⟩
  walk_at "k"
  refine ⟨le_line (by omega), ?_⟩
  walk_at "k"
  rw [e0]
  refine e2_mulS ⟨mulOk1 (by decide) (by decide), ?_⟩
  walk_at "k"
  refine ⟨le_line (by omega), ?_⟩
  walk_at "k"
  refine e2_mulS ⟨mulOk1 (by decide) (by decide), ?_⟩
  walk_at "k"
  refine ⟨le_line (by omega), ?_⟩
  walk_at "k"
  refine ev_disp1 ?_
  walk_at "k"
  refine ⟨le_line (by simp), eg_gen (fun l => (∀ s ∈ l, BadR K C s) ∧ 0 < l.length ∧ l.length < 100) ⟨?_, by simp, by simp⟩ fun near ⟨hnear, hn0, hn1⟩ => ?_⟩
  · intro s hs
    simp only [List.cons_append, List.nil_append, List.mem_cons, List.not_mem_nil, or_false] at hs
    rcases hs with rfl | rfl | rfl | rfl | rfl | rfl | rfl | rfl | rfl | rfl | rfl | rfl | rfl | rfl | rfl | rfl | rfl | rfl | rfl | rfl | rfl | rfl | rfl | rfl | rfl | rfl | rfl | rfl | rfl | rfl | rfl | rfl | rfl | rfl | rfl | rfl | rfl | rfl | rfl | rfl
    · exact .inl ⟨_, rfl, noW_lit (by decide +kernel)⟩
    · exact .inl ⟨_, rfl, noW_lit (by decide +kernel)⟩
    · exact .inl ⟨_, rfl, noW_lit (by decide +kernel)⟩
    · exact .inl ⟨_, rfl, noW_lit (by decide +kernel)⟩
    · exact .inl ⟨_, rfl, noW_lit (by decide +kernel)⟩
    · exact .inl ⟨_, rfl, noW_lit (by decide +kernel)⟩
    · exact .inl ⟨_, rfl, noW_lit (by decide +kernel)⟩
    · exact .inl ⟨_, rfl, noW_lit (by decide +kernel)⟩
    · exact .inl ⟨_, rfl, noW_lit (by decide +kernel)⟩
    · exact .inl ⟨_, rfl, noW_lit (by decide +kernel)⟩
    · exact .inl ⟨_, rfl, noW_lit (by decide +kernel)⟩
    · exact .inl ⟨_, rfl, noW_lit (by decide +kernel)⟩
    · exact .inl ⟨_, rfl, noW_lit (by decide +kernel)⟩
    · exact .inl ⟨_, rfl, noW_lit (by decide +kernel)⟩
    · exact .inl ⟨_, rfl, noW_lit (by decide +kernel)⟩
    · exact .inl ⟨_, rfl, noW_lit (by decide +kernel)⟩
    · exact .inl ⟨_, rfl, noW_lit (by decide +kernel)⟩
    · exact .inl ⟨_, rfl, noW_lit (by decide +kernel)⟩
    · exact .inl ⟨_, rfl, noW_lit (by decide +kernel)⟩
    · exact .inl ⟨_, rfl, noW_lit (by decide +kernel)⟩
    · exact .inl ⟨_, rfl, noW_lit (by decide +kernel)⟩
    · exact .inl ⟨_, rfl, noW_lit (by decide +kernel)⟩
    · exact .inl ⟨_, rfl, noW_lit (by decide +kernel)⟩
    · exact .inl ⟨_, rfl, noW_lit (by decide +kernel)⟩
    · exact .inl ⟨_, rfl, noW_suf hr14 (c := 32) (by decide +kernel) (by decide) (by decide) (by decide +kernel)⟩
    · exact .inl ⟨_, rfl, noW_pre hr14 (c := 32) (by decide +kernel) (by decide) (by decide) (by decide +kernel)⟩
    · exact .inl ⟨_, rfl, noW_suf hr14 (c := 10) (by decide +kernel) (by decide) (by decide) (by decide +kernel)⟩
    · exact .inl ⟨_, rfl, noW_one hr14 (by decide +kernel)⟩
    · exact .inl ⟨_, rfl, noW_zero hr14 (by decide +kernel)⟩
    · exact .inl ⟨_, rfl, noW_pre hr14 (c := 43) (by decide +kernel) (by decide) (by decide) (by decide +kernel)⟩
    · exact .inl ⟨_, rfl, noW_slash hr14 (by decide +kernel)⟩
    · exact .inl ⟨_, rfl, noW_big1⟩
    · exact .inl ⟨_, rfl, noW_big2⟩
    · exact .inr ⟨_, knd_non, by decide⟩
    · exact .inr ⟨_, knd_int, by decide⟩
    · exact .inr ⟨_, knd_bl, by decide⟩
    · exact .inr ⟨_, knd_lst, by decide⟩
    · exact .inr ⟨_, knd_tup, by decide⟩
    · exact .inr ⟨_, knd_rat T, by decide⟩
    · exact .inr ⟨_, knd_dct, by decide⟩
  walk_at "k"
  refine b_for ?_
  walk_at "k"
  refine ⟨6, rfl, by decide, by decide, ?_⟩
  refine ⟨fun _ ss => ∃ o t, ss = [some .bag, some (Rt C r), some (Pr r), o, some (.str (txt r)), some (.lst near), t, none, none, none, none], ⟨_, none, rfl⟩, ?_, ?_⟩
  · rintro i s ss1 hi ⟨o, t, rfl⟩
    walk_at "k"
    refine use_of ho hn0 (Nat.lt_trans hn1 (by decide)) fun s hs => ?_
    walk_at "k"
    refine ev_lam hM ?_
    walk_at "k"
    refine ⟨rfl, fun E => ?_, ?_⟩
    · refine ev_smeth XOk.own ?_
      walk_at "k"
      exact use_readX (hnear s hs) ⟨rfl, rfl⟩
    walk_at "k"
    exact ⟨_, _, rfl⟩
  rintro ss1 ⟨o, t, rfl⟩
  walk_at "k"
  refine ev_dnewK ?_
  walk_at "k"
  refine use_of ho (by simp) (by simp) fun wr hwr => ?_
  obtain ⟨aw, kw, hw⟩ : ∃ a, Knd K C wr a ∧ a ≠ .int := by
    simp only [List.mem_cons, List.not_mem_nil, or_false] at hwr
    rcases hwr with rfl | rfl | rfl | rfl | rfl | rfl | rfl | rfl | rfl | rfl | rfl
    · exact ⟨_, knd_bl, by decide⟩
    · exact ⟨_, knd_bl, by decide⟩
    · exact ⟨_, knd_non, by decide⟩
    · exact ⟨_, knd_str, by decide⟩
    · exact ⟨_, knd_lst, by decide⟩
    · exact ⟨_, knd_tup, by decide⟩
    · exact ⟨_, knd_rat T, by decide⟩
    · exact ⟨_, knd_rat T, by decide⟩
    · exact ⟨_, knd_dct, by decide⟩
    · exact ⟨_, knd_str, by decide⟩
    · exact ⟨_, knd_lst, by decide⟩
  walk_at "k"
  refine ev_lam hM ?_
  walk_at "k"
  refine ⟨rfl, fun E => ?_, ?_⟩
  · refine ev_make XOk.own ?_
    walk_at "k"
    exact .inr ⟨_, _, _, _, rfl, kw, knd_int, .inl hw, And.intro (fun r z => nomatch z) ⟨rfl, rfl⟩⟩
  walk_at "k"
  refine b_for ?_
  walk_at "k"
  refine ⟨fun _ ss => ∃ o t lo hi, ss = [some .bag, some (Rt C r), some (Pr r), o, some (.str (txt r)), some (.lst near), t, some wr, lo, hi, none], ⟨_, _, none, none, rfl⟩, ?_, ?_⟩
  · rintro i lo ss1 hi ⟨o, t, lo0, hi0, rfl⟩
    obtain ⟨al, kl, hl⟩ : ∃ a, Knd K C lo a ∧ (a ≠ .int ∨ lo = .int 0) := by
      have hi2 : i < 2 := by
        have z := (List.getElem?_eq_some_iff.mp hi).1
        simpa using z
      match i, hi2 with
      | 0, _ => cases hi; exact ⟨_, kw, .inl hw⟩
      | 1, _ => cases hi; exact ⟨_, knd_int, .inr rfl⟩
    walk_at "k"
    refine b_for ?_
    walk_at "k"
    refine ⟨fun _ ss => ∃ o t hi, ss = [some .bag, some (Rt C r), some (Pr r), o, some (.str (txt r)), some (.lst near), t, some wr, some lo, hi, none], ⟨_, _, _, rfl⟩, ?_, ?_⟩
    · rintro i2 hg ss2 hi2 ⟨o, t, hi0, rfl⟩
      obtain ⟨ah, kh⟩ : ∃ a, Knd K C hg a := by
        have hi3 : i2 < 2 := by
          have z := (List.getElem?_eq_some_iff.mp hi2).1
          simpa using z
        match i2, hi3 with
        | 0, _ => cases hi2; exact ⟨_, knd_int⟩
        | 1, _ => cases hi2; exact ⟨_, kw⟩
      walk_at "k"
      refine ev_lam hM ?_
      walk_at "k"
      refine ⟨rfl, fun E => ?_, ?_⟩
      · refine ev_make XOk.own ?_
        walk_at "k"
        exact .inr ⟨_, _, _, _, rfl, kh, kl, .inr hl, And.intro (fun r z => nomatch z) ⟨rfl, rfl⟩⟩
      walk_at "k"
      exact ⟨_, _, _, rfl⟩
    · rintro ss2 ⟨o, t, hi0, rfl⟩
      exact ⟨_, _, _, _, rfl⟩
  rintro ss1 ⟨o, t, lo, hi, rfl⟩
  walk_at "k"
  refine b_for ?_
  walk_at "k"
  have d1 : (Str.ofString "Ratio(").length = 6 := by decide +kernel
  have d2 : (Str.ofString ")").length = 1 := by decide +kernel
  refine ⟨le_line (by omega), ?_⟩
  walk_at "k"
  refine ⟨le_line (by rw [str_len]; omega), ?_⟩
  walk_at "k"
  refine ⟨fun _ ss => ∃ o t lo hi ot, ss = [some .bag, some (Rt C r), some (Pr r), o, some (.str (txt r)), some (.lst near), t, some wr, lo, hi, ot], ⟨_, _, _, _, none, rfl⟩, ?_, ?_⟩
  · rintro i s ss1 hi ⟨o, t, lo, hi0, ot, rfl⟩
    obtain ⟨a, ka, hn⟩ : ∃ a, Knd K C s a ∧ a ≠ .rat := by
      have hi9 : i < 9 := by
        have z := (List.getElem?_eq_some_iff.mp hi).1
        simpa using z
      match i, hi9 with
      | 0, _ => cases hi; exact ⟨_, knd_tup, by decide⟩
      | 1, _ => cases hi; exact ⟨_, knd_tup, by decide⟩
      | 2, _ => cases hi; exact ⟨_, knd_lst, by decide⟩
      | 3, _ => cases hi; exact ⟨_, knd_str, by decide⟩
      | 4, _ => cases hi; exact ⟨_, knd_int, by decide⟩
      | 5, _ => cases hi; exact ⟨_, knd_non, by decide⟩
      | 6, _ => cases hi; exact ⟨_, knd_bl, by decide⟩
      | 7, _ => cases hi; exact ⟨_, knd_bl, by decide⟩
      | 8, _ => cases hi; exact ⟨_, knd_str, by decide⟩
    walk_at "k"
    refine e2_eqK T ka hn ?_
    walk_at "k"
    exact ⟨_, _, _, _, _, rfl⟩
  · rintro ss1 ⟨o, t, lo, hi0, ot, rfl⟩
    walk_at "k"
    exact k
end
end KP

/-! K12I -/
set_option Elab.async false
set_option Elab.async false
set_option linter.all false
set_option maxRecDepth 100000
set_option maxHeartbeats 4000000
namespace KP
open PySem PySem.Spec PyProof.Rows L2 GM GS L2H LamX
local macro_rules | `(tactic| walk_at "sh") => `(tactic| repeat (first
  | ((with_reducible show GS.Ev _ _ _ _); first
    | with_reducible refine GS.ev_c ?_
    | ((with_reducible show GS.Ev _ (L2.tVar _) _ _); refine GS.ev_var rfl ?_)
    | with_reducible refine GS.ev_op ?_
    | with_reducible refine GS.ev_cb ?_
    | with_reducible refine GS.ev_un ?_
    | with_reducible refine GS.ev_tup ?_
    | with_reducible refine GS.ev_lst ?_
    | with_reducible refine GS.ev_if ?_
    | with_reducible refine GS.ev_andV ?_
    | with_reducible refine GS.ev_orV ?_
    | with_reducible refine GS.ev_notV ?_
    | with_reducible refine GS.ev_sl ?_
    | with_reducible refine GS.ev_fmtS ?_
    | with_reducible refine GS.ev_fmtL ?_
    | with_reducible refine GS.ev_joined ?_
    | with_reducible refine GS.ev_m1 ?_)
  | ((with_reducible show GS.E2 _ _ _ _ _); first
    | with_reducible refine GS.e2_I0 ?_
    | with_reducible refine GS.e2_I ?_
    | ((with_reducible refine GS.e2_eq ?_ ?_); exact rfl)
    | ((with_reducible refine GS.e2_ne ?_ ?_); exact rfl)
    | with_reducible refine GS.e2_isN ?_
    | with_reducible refine GS.e2_notN ?_
    | ((with_reducible show GS.E2 _ (L2.rIxL _) _ _ _); refine GS.e2_ixL rfl ?_)
    | ((with_reducible show GS.E2 _ (L2.rIxT _) _ _ _); refine GS.e2_ixT rfl ?_)
    | ((with_reducible show GS.E2 _ (L2.rIx _) (GS.Sh.lst _) _ _); refine GS.e2_ix_l rfl ?_)
    | ((with_reducible show GS.E2 _ (L2.rIx _) (GS.Sh.tup _) _ _); refine GS.e2_ix_t rfl ?_)
    | with_reducible refine GS.e2_cat ?_
    | with_reducible refine GS.e2_addS ?_
    | with_reducible refine GS.e2_inSign ?_)
  | ((with_reducible show GS.Ea _ _ _ _); first
    | with_reducible refine GS.ea_cons ?_
    | with_reducible refine GS.ea_nil ?_)
  | ((with_reducible show GS.Et _ _ _ _); first
    | with_reducible refine GS.et_B ?_
    | with_reducible refine GS.et_test ?_
    | with_reducible refine GS.et_not ?_
    | with_reducible refine GS.et_and ?_
    | with_reducible refine GS.et_or ?_
    | with_reducible refine GS.et_yes ?_
    | with_reducible refine GS.et_tru ?_)
  | ((with_reducible show GS.B _ _ _ _ _ _ _); first
    | with_reducible refine GS.b_seq ?_
    | with_reducible refine GS.b_if ?_
    | with_reducible refine GS.b_ret ?_
    | with_reducible refine GS.b_asg ?_
    | with_reducible refine GS.b_drop ?_
    | with_reducible refine GS.b_next ?_
    | with_reducible refine GS.b_par ?_
    | with_reducible refine GS.b_raise (fun _ => rfl) ?_)
  | with_reducible refine GS.eg_name ?_
  | with_reducible refine GS.egs_cons ?_
  | with_reducible refine GS.egs_nil ?_
  | ((with_reducible refine GS.eg_tup ?_ ?_); exact rfl)
  | with_reducible refine GS.e1_U ?_
  | ((with_reducible show GS.En _ _ _ _); first
    | with_reducible refine GS.en_len_l ?_
    | with_reducible refine GS.en_len_t ?_
    | with_reducible refine GS.en_len_str ?_
    | with_reducible refine GS.en_int ?_
    | with_reducible refine GS.en_bool ?_
    | with_reducible refine GS.en_abs ?_
    | with_reducible refine GS.en_str ?_
    | with_reducible refine GS.en_strL ?_
    | with_reducible refine GS.en_gcd ?_
    | with_reducible refine GS.en_list_l ?_
    | with_reducible refine GS.en_list_t ?_
    | with_reducible refine GS.en_tuple_l ?_)
  | with_reducible refine GS.ex_bl ?_
  | with_reducible refine GS.ex_str ?_
  | with_reducible refine GS.ex_int ?_
  | with_reducible refine GS.ex_v ?_
  | with_reducible refine GS.ex_two ?_
  | with_reducible refine GS.ex_lst ?_
  | with_reducible refine GS.ex_tup ?_
  | with_reducible refine GS.ex_lst1 ?_
  | with_reducible refine GS.ex_truS ?_
  | ((with_reducible show ∃ _, GS.TruS _ _ ∧ _); refine GS.ex_tru rfl ?_)
  | with_reducible refine GS.eo_no ?_
  | with_reducible refine GS.eo_yes ?_
  | with_reducible refine GS.e3_list ?_
  | with_reducible refine GS.e3_str ?_
  | with_reducible refine GS.ej_cons ?_
  | with_reducible refine GS.ej_nil ?_
  | with_reducible refine GS.em_split ?_
  | with_reducible refine GS.em_starts ?_
  | ((with_reducible show GS.Ei _ _ _ _); first
    | with_reducible refine GS.ei_list ?_
    | with_reducible refine GS.ei_tup ?_
    | with_reducible refine GS.ei_str ?_
    | with_reducible refine GS.ei_enum ?_
    | with_reducible refine GS.ei_zip ?_
    | with_reducible refine GS.ei_range1 ?_
    | with_reducible refine GS.ei_range2 ?_)
  | ((with_reducible show _ ∧ _); first
    | ((with_reducible refine And.intro ?_ ?_); (with_reducible assumption))
    | ((with_reducible refine GS.sz_and ?_ ?_); exact rfl)
    | ((with_reducible refine GS.cnd_t ?_ ?_); exact rfl)
    | ((with_reducible refine GS.cnd_f ?_ ?_); exact rfl))))

section
variable {P : Program} {w : World} {K : PySem.W.Frag} {mg : Str → Option Value} {base : Heap} {C Co fo : Addr} {j : J} {q : Sh → Prop} {x : Sh} {a : Ty0} {ex : Addr → List (Str × V) → Prop}
local macro_rules | `(tactic| walk_at "k") => `(tactic| repeat (first
  | ((with_reducible show GS.Ev _ _ _ _); first
    | with_reducible refine GS.ev_c ?_
    | ((with_reducible show GS.Ev _ (L2.tVar _) _ _); refine GS.ev_var rfl ?_)
    | with_reducible refine GS.ev_op ?_
    | with_reducible refine GS.ev_cb ?_
    | with_reducible refine GS.ev_un ?_
    | with_reducible refine GS.ev_tup ?_
    | with_reducible refine GS.ev_lst ?_
    | with_reducible refine GS.ev_if ?_
    | with_reducible refine GS.ev_andV ?_
    | with_reducible refine GS.ev_orV ?_
    | with_reducible refine GS.ev_notV ?_
    | with_reducible refine GS.ev_sl ?_
    | with_reducible refine GS.ev_fmtS ?_
    | with_reducible refine GS.ev_fmtL ?_
    | with_reducible refine GS.ev_joined ?_
    | with_reducible refine GS.ev_m1 ?_)
  | ((with_reducible show GS.E2 _ _ _ _ _); first
    | with_reducible refine GS.e2_I0 ?_
    | with_reducible refine GS.e2_I ?_
    | ((with_reducible refine GS.e2_eq ?_ ?_); exact rfl)
    | ((with_reducible refine GS.e2_ne ?_ ?_); exact rfl)
    | with_reducible refine GS.e2_isN ?_
    | with_reducible refine GS.e2_notN ?_
    | ((with_reducible show GS.E2 _ (L2.rIxL _) _ _ _); refine GS.e2_ixL rfl ?_)
    | ((with_reducible show GS.E2 _ (L2.rIxT _) _ _ _); refine GS.e2_ixT rfl ?_)
    | ((with_reducible show GS.E2 _ (L2.rIx _) (GS.Sh.lst _) _ _); refine GS.e2_ix_l rfl ?_)
    | ((with_reducible show GS.E2 _ (L2.rIx _) (GS.Sh.tup _) _ _); refine GS.e2_ix_t rfl ?_)
    | with_reducible refine GS.e2_cat ?_
    | with_reducible refine GS.e2_addS ?_
    | with_reducible refine GS.e2_inSign ?_)
  | ((with_reducible show GS.Ea _ _ _ _); first
    | with_reducible refine GS.ea_cons ?_
    | with_reducible refine GS.ea_nil ?_)
  | ((with_reducible show GS.Et _ _ _ _); first
    | with_reducible refine GS.et_B ?_
    | with_reducible refine GS.et_test ?_
    | with_reducible refine GS.et_not ?_
    | with_reducible refine GS.et_and ?_
    | with_reducible refine GS.et_or ?_
    | with_reducible refine GS.et_yes ?_
    | with_reducible refine GS.et_tru ?_)
  | ((with_reducible show GS.B _ _ _ _ _ _ _); first
    | with_reducible refine GS.b_seq ?_
    | with_reducible refine GS.b_if ?_
    | with_reducible refine GS.b_ret ?_
    | with_reducible refine GS.b_asg ?_
    | with_reducible refine GS.b_drop ?_
    | with_reducible refine GS.b_next ?_
    | with_reducible refine GS.b_par ?_
    | with_reducible refine GS.b_raise (fun _ => rfl) ?_)
  | with_reducible refine GS.eg_name ?_
  | with_reducible refine GS.egs_cons ?_
  | with_reducible refine GS.egs_nil ?_
  | ((with_reducible refine GS.eg_tup ?_ ?_); exact rfl)
  | ((with_reducible refine GS.eg_unl ?_ ?_); exact rfl)
  | with_reducible refine GS.e1_U ?_
  | ((with_reducible show GS.En _ _ _ _); first
    | with_reducible refine GS.en_len_l ?_
    | with_reducible refine GS.en_len_t ?_
    | with_reducible refine GS.en_len_str ?_
    | with_reducible refine GS.en_int ?_
    | with_reducible refine GS.en_bool ?_
    | with_reducible refine GS.en_abs ?_
    | with_reducible refine GS.en_str ?_
    | with_reducible refine GS.en_strL ?_
    | with_reducible refine GS.en_gcd ?_
    | with_reducible refine GS.en_list_l ?_
    | with_reducible refine GS.en_list_t ?_
    | with_reducible refine GS.en_tuple_l ?_)
  | with_reducible refine GS.ex_bl ?_
  | with_reducible refine GS.ex_str ?_
  | with_reducible refine GS.ex_int ?_
  | with_reducible refine GS.ex_v ?_
  | with_reducible refine GS.ex_two ?_
  | with_reducible refine GS.ex_lst ?_
  | with_reducible refine GS.ex_tup ?_
  | with_reducible refine GS.ex_lst1 ?_
  | with_reducible refine GS.ex_truS ?_
  | ((with_reducible show ∃ _, GS.TruS _ _ ∧ _); refine GS.ex_tru rfl ?_)
  | with_reducible refine GS.eo_no ?_
  | with_reducible refine GS.eo_yes ?_
  | with_reducible refine GS.e3_list ?_
  | with_reducible refine GS.e3_str ?_
  | with_reducible refine GS.ej_cons ?_
  | with_reducible refine GS.ej_nil ?_
  | with_reducible refine GS.em_split ?_
  | with_reducible refine GS.em_starts ?_
  | ((with_reducible show GS.Ei _ _ _ _); first
    | with_reducible refine GS.ei_list ?_
    | with_reducible refine GS.ei_tup ?_
    | with_reducible refine GS.ei_str ?_
    | with_reducible refine GS.ei_enum ?_
    | with_reducible refine GS.ei_zip ?_
    | with_reducible refine GS.ei_range1 ?_
    | with_reducible refine GS.ei_range2 ?_)
  | ((with_reducible show _ ∧ _); first
    | ((with_reducible refine And.intro ?_ ?_); (with_reducible assumption))
    | ((with_reducible refine GS.sz_and ?_ ?_); exact rfl)
    | ((with_reducible refine GS.cnd_t ?_ ?_); exact rfl)
    | ((with_reducible refine GS.cnd_f ?_ ?_); exact rfl))
  | ((with_reducible show GS.En _ (L2.rIsi _) _ _); first
    | ((with_reducible apply isi_int (by with_reducible assumption)); (first | with_reducible assumption | exact knd_int | exact knd_bl | exact knd_str | exact knd_non | exact knd_lst | exact knd_tup | exact knd_rat (by assumption)))
    | ((with_reducible apply isi_bool (by with_reducible assumption)); (first | with_reducible assumption | exact knd_int | exact knd_bl | exact knd_str | exact knd_non | exact knd_lst | exact knd_tup | exact knd_rat (by assumption)))
    | ((with_reducible apply isi_str (by with_reducible assumption)); (first | with_reducible assumption | exact knd_int | exact knd_bl | exact knd_str | exact knd_non | exact knd_lst | exact knd_tup | exact knd_rat (by assumption)))
    | ((with_reducible apply isi_tuple (by with_reducible assumption)); (first | with_reducible assumption | exact knd_int | exact knd_bl | exact knd_str | exact knd_non | exact knd_lst | exact knd_tup | exact knd_rat (by assumption)))
    | ((with_reducible apply isi_list (by with_reducible assumption)); (first | with_reducible assumption | exact knd_int | exact knd_bl | exact knd_str | exact knd_non | exact knd_lst | exact knd_tup | exact knd_rat (by assumption)))
    | ((with_reducible apply isi_rat (by with_reducible assumption)); (first | with_reducible assumption | exact knd_int | exact knd_bl | exact knd_str | exact knd_non | exact knd_lst | exact knd_tup | exact knd_rat (by assumption))))
  | (with_reducible refine ev_top (by with_reducible assumption) ?_)
  | (with_reducible refine ev_bot (by with_reducible assumption) ?_)
  | with_reducible refine ex_rat ?_
  | with_reducible refine GS.ev_call (E := L2.E0) GS.XOk.no ?_
  | with_reducible refine GS.ev_call GS.XOk.own ?_
  | ((with_reducible show GS.Callx _ _ _ _ _); first
    | ((with_reducible apply use_integral); (first | with_reducible assumption | exact knd_int | exact knd_bl | exact knd_str | exact knd_non | exact knd_lst | exact knd_tup | exact knd_rat (by assumption)))
    | ((with_reducible apply use_parts); first | with_reducible assumption | exact num_rat | exact num_int)
    | ((with_reducible refine use_digits ?_ ?_); with_reducible assumption)
    | ((with_reducible refine use_intof ?_ ?_); with_reducible assumption)
    | ((with_reducible refine use_frac ?_ ?_); with_reducible assumption)
    | with_reducible refine use_gcd ?_
    | with_reducible refine use_isR ?_
    | ((with_reducible apply use_repr); (with_reducible assumption))
    | with_reducible refine use_bool ?_
    | ((with_reducible apply use_num); (with_reducible assumption))
    | ((with_reducible apply use_text); (with_reducible assumption))
    | with_reducible refine use_same_str ?_
    | with_reducible refine use_same_bl ?_
    | with_reducible refine use_same_l3 ?_
    | with_reducible refine use_same_t2 ?_
    | ((with_reducible apply use_right); (with_reducible assumption))
    | ((with_reducible apply use_low); (with_reducible assumption); (with_reducible assumption)))
  | with_reducible refine GS.ev_make (E := L2.E0) GS.XOk.no ?_
  | with_reducible refine GS.ev_make GS.XOk.own ?_
  | ((with_reducible show L2.CMulW _ _ ∧ _); refine And.intro (cmw (by with_reducible assumption) (by with_reducible assumption)) ?_)
  | ((with_reducible refine use_init ?_ ?_ ?_); (with_reducible assumption); (with_reducible assumption))
  | with_reducible refine ex_insR ?_
  | ((with_reducible apply use_plusI); (with_reducible assumption); (with_reducible assumption))
  | ((with_reducible apply use_rightI); (with_reducible assumption))
  | ((with_reducible apply use_mk2); (with_reducible assumption))
  | ((with_reducible apply use_mk1); (with_reducible assumption))
  | ((with_reducible apply e2_add); (with_reducible assumption); (with_reducible assumption))
  | ((with_reducible apply e2_sub); (with_reducible assumption); (with_reducible assumption))
  | ((with_reducible apply e2_mul); (with_reducible assumption); (with_reducible assumption))
  | ((with_reducible apply e2_addI); (with_reducible assumption); (with_reducible assumption))
  | ((with_reducible apply e2_subI); (with_reducible assumption); (with_reducible assumption))
  | ((with_reducible apply e2_mulI); (with_reducible assumption); (with_reducible assumption))
  | ((with_reducible apply e1_neg); (with_reducible assumption))
  | ((with_reducible apply use_plus); (with_reducible assumption); (with_reducible assumption))
  | ((with_reducible apply use_plusN); (with_reducible assumption); (with_reducible assumption))
  | ((with_reducible apply use_times); (with_reducible assumption); (with_reducible assumption))
  | ((with_reducible apply use_over); (with_reducible assumption); (with_reducible assumption); (with_reducible assumption))
  | ((with_reducible apply use_overI); (with_reducible assumption); (with_reducible assumption); (with_reducible assumption))
  | ((with_reducible apply use_read); (with_reducible assumption); (with_reducible assumption))
  | with_reducible refine ev_readR ?_
  | with_reducible refine cr_and ?_
  | ((with_reducible refine egPr ?_ ?_); exact rfl)
  | ((with_reducible refine ev_methR ?_ ?_); (with_unfolding_all decide))
  | with_reducible refine exR_and ?_
  | with_reducible refine e2_eqR (by with_reducible assumption) ?_
  | with_reducible refine e2_eqI (by with_reducible assumption) ?_
  | with_reducible refine ixPr0 ?_
  | with_reducible refine ixPr1 ?_
  | with_reducible refine GS.en_ownReprG GS.XOk.no insRt ?_
  | with_reducible refine GS.en_ownBoolG GS.XOk.no insRt ?_
  | ((with_reducible show (0 : Int) < _ ∧ _); (refine And.intro ?_ ?_); (first | decide | assumption | omega))
  | ((with_reducible show L2.CPow _ _ ∧ _); refine And.intro ⟨by decide, by decide, by decide⟩ ?_)
  | ((with_reducible show L2.CMul _ _ ∧ _); (refine And.intro ?_ ?_); first | exact .inr ⟨by decide, by decide⟩ | exact .inl ⟨by decide, by decide⟩ | exact .inr ⟨by omega, by omega⟩ | exact .inl ⟨by omega, by omega⟩)
  | with_reducible refine GS.ev_prop GS.XOk.no ?_))

/-! ### the law -/
theorem bm_b {m : JM} {ts : TS} {ss : SS} {rt : Hs → Sh → Prop} {nx bk ct : Hs → SS → Prop} (h : B (m.j []) ts ss (rt []) (nx []) (bk []) (ct [])) : Bm m [] ts ss rt nx bk ct := fun ok D σ H st kp se gd =>
  h D σ H st JM.xg se ⟨fun r hr v H' s i => gd.rt [] r v H' hr ok s.st (kp.step ok s) i, fun ss' k σ' H' s se' => gd.nx [] ss' σ' H' k ok s.st (kp.step ok s) se', fun ss' k σ' H' s se' => gd.bk [] ss' σ' H' k ok s.st (kp.step ok s) se', fun ss' k σ' H' s se' => gd.ct [] ss' σ' H' k ok s.st (kp.step ok s) se'⟩
abbrev lawM (P1 P2 : Addr) : Mode := ⟨none, false, lamT P1 P2, []⟩
abbrev lawMB (P1 P2 β : Addr) (ys : List Int) : Mode := ⟨some (β, ys), false, lamT P1 P2, []⟩
def spLaw (K : PySem.W.Frag) (P1 P2 : Addr) : Sp := fun vs H Q E => ∃ (a : Addr) (xs : List Int), vs = [.ref a] ∧ SqL K H a (xs.map V.int) ∧ H P1 = some (.tbl #[]) ∧ H P2 = some (.tbl #[]) ∧ ∀ H', Q (.bl true) H'
/-- the script's shape -/
theorem scr_of {M : Mode} {H : Hp} {a : Addr} {xs : List Int} (h : SqL K H a (xs.map V.int)) (av : Av M a) : ∃ s, Scr K s xs ∧ Is M H s (.ref a) := by
  rcases h with (h | ⟨o, h⟩) | ⟨o, its, n, hk, hc, hd, hs, hz, r⟩
  · exact ⟨_, scr_lst, .lst av h IsL.ints⟩
  · exact ⟨_, scr_frz, .scr av h⟩
  · exact ⟨_, scr_ref fun H => .inr ⟨o, its, n, hk, hc, hd, hs, hz, r⟩, .v _⟩
/-- behind the first statement the bag is laid -/
theorem lay_bag {ts us : TS} {D : Ends} {H : Hp} {a P1 P2 : Addr} {xs : List Int} {n : Nat} (h : SqL K H a (xs.map V.int)) (t1 : H P1 = some (.tbl #[])) (t2 : H P2 = some (.tbl #[])) (hQ : ∀ H', D.rt (.bl true) H')
    (h1 : ∀ s, Scr K s xs → B ⟨lawM P1 P2, fun _ _ _ => False, fun _ _ => False⟩ ts (some s :: none :: List.replicate n none) (fun _ => False) (fun ss => ∃ (ys : List Int) (d : Int), 0 ≤ d ∧ d < 2147483587 ∧ ss = some s :: some (.lst [.lst (ys.map Sh.int), .int 0, .int 0, .int d, .int 0]) :: List.replicate n none) (fun _ => False) (fun _ => False))
    (h2 : ∀ β ys H, Bm ⟨lawMB P1 P2 β ys, H, fun _ => False⟩ [] us (none :: some .bag :: List.replicate n none) (fun _ r => r = .bl true) (fun _ _ => False) (fun _ _ => False) (fun _ _ => False)) :
    tSeq ts us D (some (.ref a) :: none :: List.replicate n none) H := by
  have st0 : St (lawM P1 P2) H := ⟨fun x z => (by cases z), fun x z => (by cases z), fun p hp => by
    rcases List.mem_cons.mp hp with rfl | hp
    · exact TabS.nil t1
    · rw [List.mem_singleton.mp hp]
      exact TabS.nil t2, fun p hp => (by cases hp), List.nodup_nil⟩
  have av0 : ∀ b, Av (lawM P1 P2) b := fun b => ⟨fun x z => (by cases z), fun p hp => (by cases hp)⟩
  obtain ⟨s, hs, is⟩ := scr_of (M := lawM P1 P2) h (av0 a)
  have rest : ∀ n, SE (lawM P1 P2) H (List.replicate n none) (List.replicate n none) := fun n => by
    induction n with
    | zero => exact .nil
    | succ n ih => exact .no ih
  refine h1 s hs _ _ H st0 (fun _ _ z => z.elim) (.yes is (.no (rest n))) ⟨fun _ z => z.elim, fun ss ⟨ys, d, d0, d1, e⟩ σ H' s1 se => ?_, fun _ z => z.elim, fun _ z => z.elim⟩
  subst e
  show us D σ H'
  cases se with
  | yes i0 se =>
    cases se with
    | yes i1 se =>
      cases i1 with
      | lst avb hb il =>
        rename_i v0 σ β vs
        cases il with
        | cons k0 il =>
          cases il with
          | cons k1 il =>
            cases il with
            | cons k2 il =>
              cases il with
              | cons k3 il =>
                cases il with
                | cons k4 il =>
                  cases il
                  cases k1
                  cases k2
                  cases k3
                  cases k4
                  cases k0 with
                  | lst avc hc il0 =>
                    rename_i c vs0
                    cases il0.of_ints
                    have ne : β ≠ c := fun z => by
                      rw [z, hc] at hb
                      have e := HO.lst.inj (Option.some.inj hb)
                      cases ys with
                      | nil => cases e
                      | cons y ys => cases e
                    have stB : St (lawMB P1 P2 β ys) H' := ⟨fun x hx _ => by
                      cases hx
                      exact ⟨⟨c, 0, 0, d, 0, by decide, d0, d1, ⟨fun x hx => by cases hx; exact ne, fun p hp => by cases hp⟩, hc, hb⟩, fun p hp => by cases hp⟩, fun x _ z => (by cases z), s1.st.tab, fun p hp => (by cases hp), List.nodup_nil⟩
                    have rest2 : ∀ {n : Nat} {σ : L2.St}, SE (lawM P1 P2) H' (List.replicate n none) σ → SE (lawMB P1 P2 β ys) H' (List.replicate n none) σ := fun {n} => by
                      induction n with
                      | zero => intro σ h; cases h; exact .nil
                      | succ n ih =>
                        intro σ h
                        cases h with
                        | no h => exact .no (ih h)
                    exact h2 β ys H' (fun p hp => by cases hp) D _ H' stB (fun _ _ _ _ _ e => e) (.no (.yes (.bag rfl) (rest2 se))) ⟨fun hs r v H2 hr _ _ _ i => by
                      subst hr
                      cases i
                      exact hQ H2, fun _ _ _ _ z => z.elim, fun _ _ _ _ z => z.elim, fun _ _ _ _ z => z.elim⟩
def lcScope : Expr → Scope
  | .ListComp _ _ sc _ => sc
  | .Call _ (.ListComp _ _ sc _ :: _) _ _ => sc
  | _ => { kind := .function, names := [], isGenerator := false, isCoroutine := false }
def lastRet (s : Stmt) : Expr := match (defBody s).getLast? with
  | some (.Return (some e) _) => e
  | _ => .Name "x" ⟨0, 0, 0, 0⟩
def lcElt : Expr → Expr
  | .Call _ (.ListComp e _ _ _ :: _) _ _ => e
  | e => e
abbrev scT : Scope := { kind := .function, names := [(".0", .local), ("t", .cell), ("all", .globalImplicit), ("fractions", .cell), ("made", .cell)], isGenerator := false, isCoroutine := false }
/-- what _law_roads hands back -/
abbrev Ul (C : Addr) (r : Rat) (m : Nat) : Sh := .lst (Rt C r :: List.replicate m (Rt C r))
theorem use_roads {r t : Rat} (ho : j.M.out = false) (hr : SzR 100 r) (ht : SzR 100 t) (k : ∀ m, m < 1000 → q (Ul C r m)) : Callx j (fsRoads C) ([.bag, Pr r, Pr t] ++ List.map Sh.v []) q ex := callx_of ⟨ho, r, t, rfl, hr, ht, fun u hu hl hs => by
  cases u with
  | nil => exact absurd rfl hu
  | cons x u =>
    have e : x = Rt C r := hs x List.mem_cons_self
    have e2 : u = List.replicate u.length (Rt C r) := List.eq_replicate_of_mem fun b hb => hs b (List.mem_cons_of_mem _ hb)
    rw [e, e2]
    exact k _ (by rw [List.length_cons] at hl; omega)⟩
theorem eq_next (r : Rat) : r = Rat.divInt r.num (r.den + 1) ↔ r.num = 0 := by
  have dp := den_pos r
  constructor
  · intro e
    have e2 : Rat.divInt r.num r.den = Rat.divInt r.num (r.den + 1) := by rw [Rat.num_divInt_den]; exact e
    rw [Rat.divInt_eq_divInt_iff (by omega) (by omega)] at e2
    grind
  · intro e
    rw [e, Rat.zero_divInt]
    exact Rat.num_eq_zero.mp e
theorem eq_neg0 (r : Rat) : r = -r ↔ r.num = 0 := by
  rw [Rat.num_eq_zero]
  constructor
  · intro e
    grind
  · intro e
    rw [e]
    rfl
theorem e2_ix0 {l : List Sh} {y : Sh} (k : q y) : E2 j (rIxL K) (.lst (y :: l)) (.v (.int 0)) q := e2_ixL (s := y) (L2.atI_nat (xs := y :: l) (j := 0) rfl) k
theorem mem_ul {r : Rat} {m : Nat} {s : Sh} (h : s ∈ Rt C r :: List.replicate m (Rt C r)) : s = Rt C r := by
  rcases List.mem_cons.mp h with e | h
  · exact e
  · exact List.eq_of_mem_replicate h
theorem use_sameU {a b : Bool} (e : a = b) (k : q (.bl true)) : Callx j (fun M l S => fsSame0 M l S ∨ fsSame1 M l S) ([.bl a, .bl b] ++ List.map Sh.v []) q ex := by
  subst e
  exact callx_of (.inl ⟨.bl a, rfl, trivial, k⟩)
theorem use_sameU3 {a b c a' b' c' : Bool} (e : a = a') (e2 : b = b') (e3 : c = c') (k : q (.bl true)) : Callx j (fun M l S => fsSame0 M l S ∨ fsSame1 M l S) ([.lst [.bl a, .bl b, .bl c], .lst [.bl a', .bl b', .bl c']] ++ List.map Sh.v []) q ex := by
  subst e
  subst e2
  subst e3
  exact callx_of (.inr ⟨.inl ⟨a, b, c, rfl⟩, k⟩)
theorem use_ord {r t : Rat} (hr : SzR 100 r) (ht : SzR 100 t) (k : q (.bl true)) : Callx j (fsOrd C) ([Rt C r, Rt C t, Pr r, Pr t] ++ List.map Sh.v []) q ex := callx_of ⟨r, t, rfl, hr, ht, k⟩
theorem use_reck {TT : List (Addr × Str)} {r t u : Rat} (hM : j.M.tab = TT) (hr : SzR 100 r) (ht : SzR 100 t) (hu : SzR 100 u) (k : q (.bl true)) : Callx j (fsReck C TT) ([.lst [Rt C r, Rt C t, Rt C u], .lst [Pr r, Pr t, Pr u]] ++ List.map Sh.v []) q ex := callx_of ⟨hM, r, t, u, rfl, hr, ht, hu, k⟩
theorem use_ref {TT : List (Addr × Str)} {r : Rat} (hM : j.M.tab = TT) (ho : j.M.out = false) (hr : SzR 100 r) (k : q (.bl true)) : Callx j (fsRef C TT) ([.bag, Rt C r, Pr r] ++ List.map Sh.v []) q ex := callx_of ⟨hM, ho, r, rfl, hr, k⟩
theorem use_great (ho : j.M.out = false) (k : q (.bl true)) : Callx j fsGreat ([.bag] ++ List.map Sh.v []) q ex := callx_of ⟨ho, rfl, k⟩
theorem ok_law {f P1 P2 : Addr} {fd : FuncData} (F : Fun K "law" "law" s_law f fd) (T : Tx P K mg C Co fo) (d__law_open : Df P w K mg base CX0 1 "_law_open" [] (SpS (fsOpen K))) (d__law_fraction : Df P w K mg base CX0 3 "_law_fraction" [] (SpS fsFra)) (d__law_pick : Df P w K mg base CX0 1 "_law_pick" [] (SpS fsPick))
    (d__law_roads : Df P w K mg base CX0 8 "_law_roads" [] (SpS (fsRoads C))) (d__law_right : Df P w K mg base CX0 8 "_law_right" [] (SpS (fsRight C))) (d__law_same : Df P w K mg base CX0 3 "_law_same" [] (SpS fun M l S => fsSame0 M l S ∨ fsSame1 M l S)) (d__law_of : Df P w K mg base CX0 2 "_law_of" [] (SpS fsOf))
    (d__law_order_right : Df P w K mg base CX0 8 "_law_order_right" [] (SpS (fsOrd C))) (d__law_reckoned_right : Df P w K mg base CX0 20 "_law_reckoned_right" [] (SpS (fsReck C (lamT P1 P2)))) (d__law_refused : Df P w K mg base CX0 20 "_law_refused" [] (SpS (fsRef C (lamT P1 P2))))
    (d__law_great_right : Df P w K mg base CX0 9 "_law_great_right" [] (SpS fsGreat)) (d_Ratio2 : DfC P w K mg base (L2.CX P w) 4 "Ratio" C [] (SpI C (fsInit K C Co))) (d_eq : DfO P w K mg base CX0 1 C "__eq__" (SpS (fsEq K C))) :
    FnOk P w K mg base CX0 22 f fd ["script"] (spLaw K P1 P2) := by
  refine L2.Fun.ok F sc_law (fun vs H Q E ⟨_, _, e, _⟩ => by rw [e]; rfl) fun cdv A outer s H vs Q E hr h => ?_
  refine ⟨_, (pss_cons (ps_set (i := 1) sc_law.nd rfl (Or.inr rfl) (pe_df d__law_open hr (by decide) pass0 (pa_cons (pv 0) pa_nil)))
      (pss_cons (ps_set (i := 2) sc_law.nd rfl (Or.inr rfl) (pe_lc (own := [("t", 4)]) (g := gName 4) (tt := tYes) rfl sc_law.nd (pi_range1 rfl T.n_range (pa_cons pe_int pa_nil)) (blkOk_by (N := ["script", "bag", "fractions", "made", "t", "p", "x", "other", "xs", "i", "y"]) (sc := defScope s_law) (by decide +kernel)) (fun _ _ _ _ _ => (pg_name (i := 4) sc_law.nd rfl (Or.inl rfl))) (fun _ _ _ _ _ => pts_nil) (fun _ _ _ _ _ => (pe_df d__law_fraction hr (by decide) pass0 (pa_cons (pv 1) pa_nil)))))
      (pss_cons (ps_if (pt_cmpR op_eq (pe_df d__law_pick hr (by decide) pass0 (pa_cons (pv 1) (pa_cons pe_int pa_nil))) pe_int (nomark _)) (pss_one (ps_asg (pe_ix (r := rIxL K) ix_list (pv 2) pe_int (fun _ _ => rfl)) (pg_sub (pv 2) (pe_df d__law_pick hr (by decide) pass0 (pa_cons (pv 1) (pa_cons pe_int pa_nil))) set_list))) pss_nil)
      (pss_cons (ps_set (i := 3) sc_law.nd rfl (Or.inr rfl) (pe_lc (own := [("t", 4)]) (g := gName 4) (tt := tYes) rfl sc_law.nd (pi_range1 rfl T.n_range (pa_cons pe_int pa_nil)) (blkOk_by (N := ["script", "bag", "fractions", "made", "t", "p", "x", "other", "xs", "i", "y"]) (sc := defScope s_law) (by decide +kernel)) (fun _ _ _ _ _ => (pg_name (i := 4) sc_law.nd rfl (Or.inl rfl))) (fun _ _ _ _ _ => pts_nil) (fun _ _ _ _ _ => (pe_df d__law_roads hr (by decide) pass0 (pa_cons (pv 1) (pa_cons (pe_ix (r := rIxL K) ix_list (pv 2) (pv 4) (fun _ _ => rfl)) (pa_cons (pe_ix (r := rIxL K) ix_list (pv 2) (pe_op op_mod (pe_callTy call_int1 (by rfl) T.n_int (by decide +kernel) (pa_cons (pe_op op_add (pv 4) pe_int) pa_nil)) pe_int) (fun _ _ => rfl)) pa_nil)))))))
      (pss_cons (ps_for PassesOwn.never rfl (pi_range1 rfl T.n_range (pa_cons pe_int pa_nil)) (pg_name (i := 4) sc_law.nd rfl (Or.inl rfl)) (pss_cons (ps_set (i := 5) sc_law.nd rfl (Or.inl rfl) (pe_ix (r := rIxL K) ix_list (pv 2) (pv 4) (fun _ _ => rfl)))
      (pss_one (ps_for PassesOwn.never rfl (pi_list (pe_ix (r := rIxL K) ix_list (pv 3) (pv 4) (fun _ _ => rfl))) (pg_name (i := 6) sc_law.nd rfl (Or.inr rfl)) (pss_cons (ps_if (PW.pt (pw_or (pt_not (pt_val (pe_df d__law_right hr (by decide) pass0 (pa_cons (pv 6) (pa_cons (pv 5) pa_nil))))) (pw_or (pt_not (pt_val (pe_df d__law_same hr (by decide) pass0 (pa_cons (pe_cmpR (op_dfEq d_eq hr (by decide) pass0) (pv 6) (pe_ix (r := rIxL K) ix_list (pe_ix (r := rIxL K) ix_list (pv 3) (pv 4) (fun _ _ => rfl)) pe_int (fun _ _ => rfl)) (nomark _)) (pa_cons pe_bl pa_nil))))) (pw_or1 (pt_not (pt_val (pe_df d__law_same hr (by decide) pass0 (pa_cons (pe_cmpR (op_dfEq d_eq hr (by decide) pass0) (pe_ix (r := rIxL K) ix_list (pe_ix (r := rIxL K) ix_list (pv 3) (pv 4) (fun _ _ => rfl)) pe_int (fun _ _ => rfl)) (pv 6) (nomark _)) (pa_cons pe_bl pa_nil))))))))) (pss_one (ps_ret pe_bl)) pss_nil)
      (pss_cons (ps_set (i := 7) sc_law.nd rfl (Or.inl rfl) (pe_lst (pa_cons (pe_dfC d_Ratio2 hr (by decide) passL (pa_cons (pe_op op_add (pe_ix (r := rIxT K) ix_tup (pv 5) pe_int (fun _ _ => rfl)) (pe_ix (r := rIxT K) ix_tup (pv 5) pe_int (fun _ _ => rfl))) (pa_cons (pe_ix (r := rIxT K) ix_tup (pv 5) pe_int (fun _ _ => rfl)) pa_nil))) (pa_cons (pe_dfC d_Ratio2 hr (by decide) passL (pa_cons (pe_ix (r := rIxT K) ix_tup (pv 5) pe_int (fun _ _ => rfl)) (pa_cons (pe_op op_add (pe_ix (r := rIxT K) ix_tup (pv 5) pe_int (fun _ _ => rfl)) pe_int) pa_nil))) (pa_cons (pe_dfC d_Ratio2 hr (by decide) passL (pa_cons (pe_op op_sub pe_int (pe_ix (r := rIxT K) ix_tup (pv 5) pe_int (fun _ _ => rfl))) (pa_cons (pe_ix (r := rIxT K) ix_tup (pv 5) pe_int (fun _ _ => rfl)) pa_nil))) pa_nil)))))
      (pss_one (ps_if (pt_not (pt_val (pe_df d__law_same hr (by decide) pass0 (pa_cons (pe_lc (own := [("y", 10)]) (g := gName 10) (tt := tYes) rfl sc_law.nd (pi_list (pv 7)) (blkOk_by (N := ["script", "bag", "fractions", "made", "t", "p", "x", "other", "xs", "i", "y"]) (sc := defScope s_law) (by decide +kernel)) (fun _ _ _ _ _ => (pg_name (i := 10) sc_law.nd rfl (Or.inl rfl))) (fun _ _ _ _ _ => pts_nil) (fun _ _ _ _ _ => (pe_cmpR (r := rOwnEq K C (SpS (fsEq K C)) E0) (op_dfEq (k := 1) (j := 21) d_eq hr (by decide) pass0) (pv 6) (pv 10) (nomark _)))) (pa_cons (pe_lst (pa_cons pe_bl (pa_cons (pe_cmpR op_eq (pe_ix (r := rIxT K) ix_tup (pv 5) pe_int (fun _ _ => rfl)) pe_int (nomark _)) (pa_cons (pe_cmpR op_eq (pe_ix (r := rIxT K) ix_tup (pv 5) pe_int (fun _ _ => rfl)) pe_int (nomark _)) pa_nil)))) pa_nil))))) (pss_one (ps_ret pe_bl)) pss_nil))))))))
      (pss_cons (ps_for PassesOwn.never rfl (pi_range1 rfl T.n_range (pa_cons pe_int pa_nil)) (pg_name (i := 4) sc_law.nd rfl (Or.inl rfl)) (pss_cons (ps_setLc (i := 8) (own := [("i", 9)]) (g := gName 9) (tt := tYes) rfl sc_law.nd rfl rfl (sw_true rfl rfl rfl (by decide +kernel)) (pi_range1 rfl T.n_range (pa_cons pe_int pa_nil)) (blkOk_by (N := ["script", "bag", "fractions", "made", "t", "p", "x", "other", "xs", "i", "y"]) (sc := defScope s_law) (by decide +kernel)) (fun _ _ _ _ _ => (pg_name (i := 9) sc_law.nd rfl (Or.inl rfl))) (fun _ _ _ _ _ => pts_nil) (fun _ _ _ _ _ => (pe_df d__law_of hr (by decide) pass0 (pa_cons (pv 1) (pa_cons (pe_ix (r := rIxL K) ix_list (pv 3) (pv 9) (fun _ _ => rfl)) pa_nil)))))
      (pss_cons (ps_for PassesOwn.never rfl (pi_range1 rfl T.n_range (pa_cons pe_int pa_nil)) (pg_name (i := 9) sc_law.nd rfl (Or.inl rfl)) (pss_one (ps_if (pt_not (pt_val (pe_df d__law_order_right hr (by decide) pass0 (pa_cons (pe_ix (r := rIxL K) ix_list (pv 8) (pv 9) (fun _ _ => rfl)) (pa_cons (pe_ix (r := rIxL K) ix_list (pv 8) (pe_op op_mod (pe_callTy call_int1 (by rfl) T.n_int (by decide +kernel) (pa_cons (pe_op op_add (pv 9) pe_int) pa_nil)) pe_int) (fun _ _ => rfl)) (pa_cons (pe_ix (r := rIxL K) ix_list (pv 2) (pv 9) (fun _ _ => rfl)) (pa_cons (pe_ix (r := rIxL K) ix_list (pv 2) (pe_op op_mod (pe_callTy call_int1 (by rfl) T.n_int (by decide +kernel) (pa_cons (pe_op op_add (pv 9) pe_int) pa_nil)) pe_int) (fun _ _ => rfl)) pa_nil))))))) (pss_one (ps_ret pe_bl)) pss_nil)))
      (pss_one (ps_if (PW.pt (pw_or (pt_not (pt_val (pe_df d__law_reckoned_right hr (by decide) pass0 (pa_cons (pv 8) (pa_cons (pv 2) pa_nil))))) (pw_or1 (pt_not (pt_val (pe_df d__law_refused hr (by decide) pass0 (pa_cons (pv 1) (pa_cons (pe_ix (r := rIxL K) ix_list (pv 8) pe_int (fun _ _ => rfl)) (pa_cons (pe_ix (r := rIxL K) ix_list (pv 2) pe_int (fun _ _ => rfl)) pa_nil))))))))) (pss_one (ps_ret pe_bl)) pss_nil)))))
      (pss_cons (ps_if (PW.pt (pw_and (pt_cmpR op_eq (pe_df d__law_pick hr (by decide) pass0 (pa_cons (pv 1) (pa_cons pe_int pa_nil))) pe_int (nomark _)) (pw_and1 (pt_not (pt_val (pe_df d__law_great_right hr (by decide) pass0 (pa_cons (pv 1) pa_nil))))))) (pss_one (ps_ret pe_bl)) pss_nil)
      (pss_one (ps_ret (pe_callB (r := rAll K) (cr_all rfl) (by rfl) T.n_all (by decide +kernel) (pa_cons (pe_lc (own := [("t", 4)]) (g := gName 4) (tt := tYes) rfl sc_law.nd (pi_range1 rfl T.n_range (pa_cons pe_int pa_nil)) (blkOk_by (N := ["script", "bag", "fractions", "made", "t", "p", "x", "other", "xs", "i", "y"]) (sc := defScope s_law) (by decide +kernel)) (fun _ _ _ _ _ => (pg_name (i := 4) sc_law.nd rfl (Or.inr rfl))) (fun _ _ _ _ _ => pts_nil) (fun _ _ _ _ _ => (pe_callB (r := rAll K) (cr_all rfl) (by rfl) T.n_all (by decide +kernel) (pa_cons (pe_lc (own := [("x", 6)]) (g := gName 6) (tt := tYes) rfl sc_law.nd (pi_list (pe_ix (r := rIxL K) ix_list (pv 3) (pv 4) (fun _ _ => rfl)) : PI _ _ _ (iList K _)) (blkOk_by (N := ["script", "bag", "fractions", "made", "t", "p", "x", "other", "xs", "i", "y"]) (sc := scT) (scope := lcScope (lcElt (lastRet s_law))) (own := [("x", 6)]) (by decide +kernel)) (fun _ _ _ _ _ => (pg_name (i := 6) sc_law.nd rfl (Or.inl rfl))) (fun _ _ _ _ _ => pts_nil) (fun _ _ _ _ _ => (pe_df d__law_right hr (by decide) pass0 (pa_cons (pv 6) (pa_cons (pe_ix (r := rIxL K) ix_list (pv 2) (pv 4) (fun _ _ => rfl)) pa_nil))))) pa_nil)))) pa_nil))))))))))), ?_⟩
  obtain ⟨a, xs, rfl, hs, t1, t2, hQ⟩ := h
  refine lay_bag (n := 9) hs t1 t2 hQ (fun sc hsc => ?_) (fun β ys H => ?_)
  · try simp only [cxK, cxKn]
    walk_at "k"
    exact callx_of ⟨sc, xs, rfl, hsc, fun ys d h0 h1 => eg_name ⟨ys, d, h0, h1, rfl⟩⟩
  · try simp only [cxK, cxKn]
    refine bm_seq (bm_asgNew (nw_lc (tg_name (by decide)) ?_))
    walk_at "k"
    refine ⟨3, rfl, by decide, by decide, le_line (by simp), fun i acc => ∃ rs : List Rat, rs.length = i ∧ acc = rs.map Pr ∧ ∀ r ∈ rs, SzR 100 r, ⟨[], rfl, rfl, fun r h => by cases h⟩, fun D i s acc hi ⟨rs, h1, h2, h3⟩ => ?_, ?_⟩
    · walk_at "k"
      refine callx_of ?_
      refine ⟨rfl, rfl, fun r hr => ⟨rs ++ [r], by rw [List.length_append, h1]; rfl, by rw [h2, List.map_append]; rfl, fun t ht => ?_⟩⟩
      rcases List.mem_append.mp ht with h | h
      · exact h3 t h
      · rw [List.mem_singleton.mp h]
        exact hr
    rintro acc ⟨rs, h1, rfl, h3⟩ a
    have h1 : rs.length = 3 := by rw [h1]; simp
    match rs, h1, h3 with
    | [r0, r1, r2], _, h3 =>
    have g0 : SzR 100 r0 := h3 r0 (by simp)
    have g1 : SzR 100 r1 := h3 r1 (by simp)
    have g2 : SzR 100 r2 := h3 r2 (by simp)
    clear h3
    refine bm_mid (fun hs1 ss1 => ∃ r0 r1 r2, SzR 100 r0 ∧ SzR 100 r1 ∧ SzR 100 r2 ∧ hs1 = [(a, .lst [Pr r0, Pr r1, Pr r2])] ∧ ss1 = [none, some .bag, some (.v (.ref a)), none, none, none, none, none, none, none, none]) (bm_if ?_) ?_
    · walk_at "k"
      refine use_pick (by rfl) (by decide) (by decide) fun n hn0 hn1 => ?_
      walk_at "k"
      refine cnd (c := n = 0) (by simp) (fun _ => ?_) (fun _ => bm_next ⟨r0, r1, r2, g0, g1, g2, rfl, rfl⟩)
      refine bm_setL 0 rfl ?_
      walk_at "k"
      refine e2_ixH 0 rfl rfl ?_
      walk_at "k"
      refine use_pick (by rfl) (by decide) (by decide) fun n hn0 hn1 => ?_
      have hn : n = 0 ∨ n = 1 ∨ n = 2 := by omega
      rcases hn with rfl | rfl | rfl
      · exact ⟨0, 0, rfl, rfl, r0, r1, r2, g0, g1, g2, rfl, rfl⟩
      · exact ⟨1, 1, rfl, rfl, r0, r0, r2, g0, g0, g2, rfl, rfl⟩
      · exact ⟨2, 2, rfl, rfl, r0, r1, r0, g0, g1, g0, rfl, rfl⟩
    rintro hs1 ss1 ⟨r0, r1, r2, g0, g1, g2, rfl, rfl⟩
    refine bm_rel (x := 2) rfl (fun _ _ => rfl) (bm_b ?_)
    have hM : ∀ m : JM, m.M.tab = lamT P1 P2 → (m.j []).M.tab = lamT P1 P2 := fun m h => h
    have hM := hM ⟨lawMB P1 P2 β ys, H, fun _ => False⟩ rfl
    have ho : (JM.j ⟨lawMB P1 P2 β ys, H, fun _ => False⟩ []).M.out = false := rfl
    generalize JM.j ⟨lawMB P1 P2 β ys, H, fun _ => False⟩ [] = j at hM ho
    refine b_seq (b_asg (ev_lc (tg_name (by decide)) ?_))
    walk_at "k"
    refine ⟨3, rfl, by decide, by decide, le_line (by simp), fun i acc => match i with | 0 => acc = [] | 1 => ∃ a, a < 1000 ∧ acc = [Ul C r0 a] | 2 => ∃ a b, a < 1000 ∧ b < 1000 ∧ acc = [Ul C r0 a, Ul C r1 b] | _ => ∃ a b c, a < 1000 ∧ b < 1000 ∧ c < 1000 ∧ acc = [Ul C r0 a, Ul C r1 b, Ul C r2 c], rfl, fun D i s acc hi hW => ?_, ?_⟩
    · have hi3 : i < 3 := by
        have z := (List.getElem?_eq_some_iff.mp hi).1
        simpa using z
      match i, hi3 with
      | 0, _ =>
        cases hi
        have hW : acc = [] := hW
        subst hW
        walk_at "k"
        exact use_roads ho g0 g1 fun m hm => ⟨m, hm, rfl⟩
      | 1, _ =>
        cases hi
        obtain ⟨a, ha, rfl⟩ := hW
        walk_at "k"
        exact use_roads ho g1 g2 fun m hm => ⟨a, m, ha, hm, rfl⟩
      | 2, _ =>
        cases hi
        obtain ⟨a, b, ha, hb, rfl⟩ := hW
        walk_at "k"
        exact use_roads ho g2 g0 fun m hm => ⟨a, b, m, ha, hb, hm, rfl⟩
    rintro acc ⟨m0, m1, m2, hm0, hm1, hm2, rfl⟩
    walk_at "k"
    refine b_for ?_
    walk_at "k"
    refine ⟨3, rfl, by decide, by decide, fun _ ss => ∃ o4 o5 o6 o7 o8 o9 o10, ss = [none, some .bag, some (.lst [Pr r0, Pr r1, Pr r2]), some (.lst [Ul C r0 m0, Ul C r1 m1, Ul C r2 m2]), o4, o5, o6, o7, o8, o9, o10], ⟨_, _, _, _, _, _, _, rfl⟩, ?_, ?_⟩
    · rintro i s ss1 hi ⟨o4, o5, o6, o7, o8, o9, o10, rfl⟩
      obtain ⟨r, m, gr, hm, rfl, a1, a2⟩ : ∃ r m, SzR 100 r ∧ m < 1000 ∧ s = .int (i : Int) ∧ L2.atI [Pr r0, Pr r1, Pr r2] (i : Int) = some (Pr r) ∧ L2.atI [Ul C r0 m0, Ul C r1 m1, Ul C r2 m2] (i : Int) = some (Ul C r m) := by
        have hi3 : i < 3 := by
          have z := (List.getElem?_eq_some_iff.mp hi).1
          simpa using z
        match i, hi3 with
        | 0, _ => cases hi; exact ⟨r0, m0, g0, hm0, rfl, rfl, rfl⟩
        | 1, _ => cases hi; exact ⟨r1, m1, g1, hm1, rfl, rfl, rfl⟩
        | 2, _ => cases hi; exact ⟨r2, m2, g2, hm2, rfl, rfl, rfl⟩
      have g14 := gr.mono (m := 14000) (by decide)
      have dn := den_ne r
      have dp := den_pos r
      have z1 : Mk1 (r.num + r.den) r.den (r + 1) := ⟨dn, gr.2.mono (by decide), by
        have e := add_eq r 1
        rw [← e]
        show Rat.divInt (r.num + r.den) r.den = Rat.divInt (r.num * (1 : Int) + 1 * (r.den : Int)) ((r.den : Int) * (1 : Int))
        rw [Int.mul_one, Int.mul_one, Int.one_mul]⟩
      have z2 : Mk1 r.num (r.den + 1) (Rat.divInt r.num (r.den + 1)) := ⟨by omega, (gr.2.add (n := 100) (m := 100) (k := 101) (j := 1) (Nat.one_lt_two_pow (by decide)) (by decide) (by decide)).mono (by decide), rfl⟩
      have z3 : Mk1 (0 - r.num) r.den (-r) := ⟨dn, gr.2.mono (by decide), by rw [Int.zero_sub, neg_eq]⟩
      walk_at "k"
      refine e2_ixL a1 ?_
      walk_at "k"
      refine b_for ?_
      walk_at "k"
      refine e2_ixL a2 ?_
      walk_at "k"
      refine ⟨fun _ ss => ∃ o6 o7 o10, ss = [none, some .bag, some (.lst [Pr r0, Pr r1, Pr r2]), some (.lst [Ul C r0 m0, Ul C r1 m1, Ul C r2 m2]), some (.int (i : Int)), some (Pr r), o6, o7, o8, o9, o10], ⟨_, _, _, rfl⟩, ?_, ?_⟩
      · rintro i2 x ss2 hx ⟨o6, o7, o10, rfl⟩
        have e := mem_ul (List.mem_of_getElem? hx)
        subst e
        walk_at "k"
        refine e2_ixL a2 ?_
        walk_at "k"
        refine e2_ix0 ?_
        walk_at "k"
        refine use_sameU (decide_eq_true rfl) ?_
        walk_at "k"
        refine e2_ixL a2 ?_
        walk_at "k"
        refine e2_ix0 ?_
        walk_at "k"
        refine use_sameU (decide_eq_true rfl) ?_
        walk_at "k"
        refine ev_lcMap (fun i _ => .bl ([decide (r = r + 1), decide (r = Rat.divInt r.num (r.den + 1)), decide (r = -r)].getD i false)) (tg_name (by decide)) ?_
        walk_at "k"
        refine ⟨fun D acc i3 y hy => ?_, ?_⟩
        · have hi3 : i3 < 3 := by
            have z := (List.getElem?_eq_some_iff.mp hy).1
            simpa using z
          match i3, hi3 with
          | 0, _ => cases hy; walk_at "k"; rfl
          | 1, _ => cases hy; walk_at "k"; rfl
          | 2, _ => cases hy; walk_at "k"; rfl
        rw [show List.mapIdx (fun i (_ : Sh) => Sh.bl ([decide (r = r + 1), decide (r = Rat.divInt r.num (r.den + 1)), decide (r = -r)].getD i false)) [Rt C (r + 1), Rt C (Rat.divInt r.num (r.den + 1)), Rt C (-r)] = [Sh.bl (decide (r = r + 1)), Sh.bl (decide (r = Rat.divInt r.num (r.den + 1))), Sh.bl (decide (r = -r))] from rfl]
        walk_at "k"
        refine use_sameU3 (decide_eq_false (by grind)) ?_ ?_ ?_
        · rw [Bool.eq_iff_iff, decide_eq_true_iff, decide_eq_true_iff]
          exact (eq_next r).trans ⟨fun e => by rw [e], fun e => V.int.inj e⟩
        · rw [Bool.eq_iff_iff, decide_eq_true_iff, decide_eq_true_iff]
          exact (eq_neg0 r).trans ⟨fun e => by rw [e], fun e => V.int.inj e⟩
        walk_at "k"
        exact ⟨_, _, _, rfl⟩
      · rintro ss2 ⟨o6, o7, o10, rfl⟩
        exact ⟨_, _, _, _, _, _, _, rfl⟩
    rintro ss1 ⟨o4, o5, o6, o7, o8, o9, o10, rfl⟩
    walk_at "k"
    have r14_0 := g0.mono (m := 14000) (by decide)
    have r14_1 := g1.mono (m := 14000) (by decide)
    have r14_2 := g2.mono (m := 14000) (by decide)
    have len : ∀ {r : Rat} {m : Nat}, m < 1000 → 0 < (Rt C r :: List.replicate m (Rt C r)).length ∧ (Rt C r :: List.replicate m (Rt C r)).length < 2 ^ 24 := fun {r m} h => by
      rw [List.length_cons, List.length_replicate]
      omega
    refine b_for ?_
    walk_at "k"
    refine ⟨4, rfl, by decide, by decide, fun _ ss => ∃ o4 o5 o6 o7 o8 o9 o10, ss = [none, some .bag, some (.lst [Pr r0, Pr r1, Pr r2]), some (.lst [Ul C r0 m0, Ul C r1 m1, Ul C r2 m2]), o4, o5, o6, o7, o8, o9, o10], ⟨_, _, _, _, _, _, _, rfl⟩, ?_, ?_⟩
    · rintro i s ss1 hi ⟨o4, o5, o6, o7, o8, o9, o10, rfl⟩
      walk_at "k"
      refine ev_lcMap (fun i _ => [Rt C r0, Rt C r1, Rt C r2].getD i .bag) (tg_name (by decide)) ?_
      walk_at "k"
      refine ⟨3, rfl, by decide, by decide, le_line (by simp), fun D acc i3 y hy => ?_, ?_⟩
      · have hi3 : i3 < 3 := by
          have z := (List.getElem?_eq_some_iff.mp hy).1
          simpa using z
        match i3, hi3 with
        | 0, _ => cases hy; walk_at "k"; exact use_of ho (len hm0).1 (len hm0).2 fun s hs => mem_ul hs
        | 1, _ => cases hy; walk_at "k"; exact use_of ho (len hm1).1 (len hm1).2 fun s hs => mem_ul hs
        | 2, _ => cases hy; walk_at "k"; exact use_of ho (len hm2).1 (len hm2).2 fun s hs => mem_ul hs
      refine (show Eg j (gName 8) (.lst [Rt C r0, Rt C r1, Rt C r2]) _ _ from ?_)
      walk_at "k"
      refine b_for ?_
      walk_at "k"
      refine ⟨3, rfl, by decide, by decide, fun _ ss => ∃ o4 o5 o6 o7 o9 o10, ss = [none, some .bag, some (.lst [Pr r0, Pr r1, Pr r2]), some (.lst [Ul C r0 m0, Ul C r1 m1, Ul C r2 m2]), o4, o5, o6, o7, some (.lst [Rt C r0, Rt C r1, Rt C r2]), o9, o10], ⟨_, _, _, _, _, _, rfl⟩, ?_, ?_⟩
      · rintro i s ss1 hi ⟨o4, o5, o6, o7, o9, o10, rfl⟩
        have hi3 : i < 3 := by
          have z := (List.getElem?_eq_some_iff.mp hi).1
          simpa using z
        match i, hi3 with
        | 0, _ =>
          cases hi
          walk_at "k"
          refine use_ord g0 g1 ?_
          walk_at "k"
          exact ⟨_, _, _, _, _, _, rfl⟩
        | 1, _ =>
          cases hi
          walk_at "k"
          refine use_ord g1 g2 ?_
          walk_at "k"
          exact ⟨_, _, _, _, _, _, rfl⟩
        | 2, _ =>
          cases hi
          walk_at "k"
          refine use_ord g2 g0 ?_
          walk_at "k"
          exact ⟨_, _, _, _, _, _, rfl⟩
      rintro ss1 ⟨o4, o5, o6, o7, o9, o10, rfl⟩
      walk_at "k"
      refine use_reck hM g0 g1 g2 ?_
      walk_at "k"
      refine use_ref hM ho g0 ?_
      walk_at "k"
      exact ⟨_, _, _, _, _, _, _, rfl⟩
    rintro ss1 ⟨o4, o5, o6, o7, o8, o9, o10, rfl⟩
    have fin : Ev j (tLc (iRng1 (tCons (tC (V.int 3)) tNil)) (gName 4) tYes (tCB (rAll K) (tCons (tLc (iList K (tOp (rIxL K) (tVar 3) (tVar 4))) (gName 6) tYes (tCall (SpS (fsRight C)) [] E0 (tCons (tVar 6) (tCons (tOp (rIxL K) (tVar 2) (tVar 4)) tNil))) [6]) tNil)) [4])
        [none, some .bag, some (.lst [Pr r0, Pr r1, Pr r2]), some (.lst [Ul C r0 m0, Ul C r1 m1, Ul C r2 m2]), o4, o5, o6, o7, o8, o9, o10] fun x => Ea j tNil [none, some .bag, some (.lst [Pr r0, Pr r1, Pr r2]), some (.lst [Ul C r0 m0, Ul C r1 m1, Ul C r2 m2]), o4, o5, o6, o7, o8, o9, o10] fun l => En j (rAll K) (x :: l) fun r => r = Sh.bl true := by
      refine ev_lcMap (fun _ _ => .bl true) (tg_name (by decide)) ?_
      walk_at "k"
      refine ⟨3, rfl, by decide, by decide, le_line (by simp), fun D acc i s hi => ?_, ?_⟩
      · obtain ⟨r, m, gr, hm, rfl, a1, a2⟩ : ∃ r m, SzR 100 r ∧ m < 1000 ∧ s = .int (i : Int) ∧ L2.atI [Pr r0, Pr r1, Pr r2] (i : Int) = some (Pr r) ∧ L2.atI [Ul C r0 m0, Ul C r1 m1, Ul C r2 m2] (i : Int) = some (Ul C r m) := by
          have hi3 : i < 3 := by
            have z := (List.getElem?_eq_some_iff.mp hi).1
            simpa using z
          match i, hi3 with
          | 0, _ => cases hi; exact ⟨r0, m0, g0, hm0, rfl, rfl, rfl⟩
          | 1, _ => cases hi; exact ⟨r1, m1, g1, hm1, rfl, rfl, rfl⟩
          | 2, _ => cases hi; exact ⟨r2, m2, g2, hm2, rfl, rfl, rfl⟩
        have g14 := gr.mono (m := 14000) (by decide)
        walk_at "k"
        refine ev_lcMap (fun _ _ => .bl true) (tg_name (by decide)) ?_
        walk_at "k"
        refine e2_ixL a2 ?_
        walk_at "k"
        refine ⟨le_line (by rw [List.length_cons, List.length_replicate]; omega), fun D acc i2 y hy => ?_, ?_⟩
        · have e := mem_ul (List.mem_of_getElem? hy)
          subst e
          walk_at "k"
          refine e2_ixL a1 ?_
          walk_at "k"
          rfl
        · walk_at "k"
          refine en_all (bs := List.replicate (m + 1) true) ?_ ?_
          · rw [List.map_replicate]
            refine List.eq_replicate_iff.mpr ⟨by simp, fun b hb => ?_⟩
            obtain ⟨i, h, e⟩ := List.mem_mapIdx.mp hb
            exact e.symm
          · rw [List.all_replicate]
            simp
      · walk_at "k"
        exact en_all (bs := [true, true, true]) rfl rfl
    walk_at "k"
    refine use_pick ho (by decide) (by decide) fun n hn0 hn1 => ?_
    walk_at "k"
    refine cnd (c := n = 0) (by simp) (fun _ => ?_) (fun _ => ?_)
    · walk_at "k"
      refine use_great ho ?_
      walk_at "k"
      exact fin
    · walk_at "k"
      exact fin
end
end KP

/-! K12J -/
set_option Elab.async false
set_option Elab.async false
set_option linter.all false
set_option maxRecDepth 100000
set_option maxHeartbeats 4000000
namespace KP
open PySem PySem.Spec PyProof.Rows L2 GM GS L2H LamX
/-! ### what the top has left, joined -/
section
variable {P : Program} {w : World} {K : PySem.W.Frag} {mg : Str → Option Value} {base : Heap} {CX : CXT} {k : Nat} {C : Addr} {x m : Str} {st : Stmt} {f : Addr} {fd : FuncData} {ps : List Str} {sp : Sp}
theorem df_of (F : Fun K x x st f fd) (g : mg x = some (.ref f)) (b : L2.Binds K fd ps []) (ok : FnOk P w K mg base CX k f fd ps sp) : Df P w K mg base CX k x [] sp := ⟨⟨f, fd, ps, [], ok, g, F.kp, b, .nil⟩⟩
theorem dfO_of (o : Own K C f m) (ok : FnOk P w K mg base CX k f fd ps sp) (b : L2.Binds K fd ps []) : DfO P w K mg base CX k C m sp := ⟨⟨f, fd, ps, o, ok, b⟩⟩
theorem dfM_of (cl : Cls K C) (o : Meth K C m f) (ok : FnOk P w K mg base CX k f fd ps sp) (b : L2.Binds K fd ps []) : DfM P w K mg base CX k C m sp := ⟨⟨f, fd, ps, cl, o, ok, b⟩⟩
theorem exm_of {C : Addr} {cls : Value} {b : Bool} (h1 : PySem.W.subIn K (.ref C) (.type "BaseException") = some true) (h2 : PySem.W.isClsIn K C = true) (h3 : PySem.W.typeIn K (.ref C) = some (.type "type")) (h4 : PySem.W.subIn K cls (.ref C) = some b) : PySem.W.exmOne K cls (.ref C) = some b := by
  have e1 : (PySem.W.subIn K (.ref C) (.type "BaseException") == some true) = true := by rw [h1] <;> rfl
  have e2 : ((PySem.W.clsIn K C).isSome && PySem.W.typeIn K (.ref C) == some (.type "type")) = true := by
    have h2' : (PySem.W.clsIn K C).isSome = true := h2
    rw [h2', h3] <;> rfl
  show (if (PySem.W.subIn K (.ref C) (.type "BaseException") == some true) = true then (if ((PySem.W.clsIn K C).isSome && PySem.W.typeIn K (.ref C) == some (.type "type")) = true then PySem.W.subIn K cls (.ref C) else none) else none) = some b
  rw [if_pos e1, if_pos e2]
  exact h4
theorem exm3 {cls a b c : Value} (h1 : PySem.W.exmOne K cls a = some true) (h2 : PySem.W.exmOne K cls b = some false) (h3 : PySem.W.exmOne K cls c = some false) : PySem.W.exmAny K cls [a, b, c] = some true := by
  unfold PySem.W.exmAny PySem.W.exmAny PySem.W.exmAny PySem.W.exmAny
  rw [h1, h2, h3]
  rfl
end
theorem all_k12 {l : PySem.W.OpenLaw} {w : World} {K : PySem.W.Frag} {mg : Str → Option Value} {h : Heap} {fa : Addr} {C f_integral f_is_digits f_integer_of f_fraction_of f_parts_of f_law_open f_law_pick f_law_of f_law_shuffled f_law_is_ratio f_law_same f_law_error f_law_try f_law_fails f_law_gcd f_law_low f_law_plus f_law_times f_law_number f_law_fraction f_law_right f_law_roads f_law_order_right c1 f_law_reckoned_right c2 f_law_refused f_law_great_right f_law f_text p_text f_read p_read f_over f_below f_add f_sub f_mul f_neg f_eq f_bool f_repr T0 f_init e0 e1 e2 e3 e4 e5 e6 e8 e9 e10 e11 e12 Co fo cdE ccE NE P1 P2 : Addr} {oc_integral kV_integral dc_integral pm_integral ct_integral cd_integral oc_is_digits kV_is_digits dc_is_digits pm_is_digits ct_is_digits cd_is_digits oc_integer_of kV_integer_of dc_integer_of pm_integer_of ct_integer_of cd_integer_of oc_fraction_of kV_fraction_of dc_fraction_of pm_fraction_of ct_fraction_of cd_fraction_of oc_parts_of kV_parts_of dc_parts_of pm_parts_of ct_parts_of cd_parts_of oc_law_open kV_law_open dc_law_open pm_law_open ct_law_open cd_law_open oc_law_pick kV_law_pick dc_law_pick pm_law_pick ct_law_pick cd_law_pick oc_law_of kV_law_of dc_law_of pm_law_of ct_law_of cd_law_of oc_law_shuffled kV_law_shuffled dc_law_shuffled pm_law_shuffled ct_law_shuffled cd_law_shuffled oc_law_is_ratio kV_law_is_ratio dc_law_is_ratio pm_law_is_ratio ct_law_is_ratio cd_law_is_ratio oc_law_same kV_law_same dc_law_same pm_law_same ct_law_same cd_law_same oc_law_error kV_law_error dc_law_error pm_law_error ct_law_error cd_law_error oc_law_try kV_law_try dc_law_try pm_law_try ct_law_try cd_law_try oc_law_fails kV_law_fails dc_law_fails pm_law_fails ct_law_fails cd_law_fails oc_law_gcd kV_law_gcd dc_law_gcd pm_law_gcd ct_law_gcd cd_law_gcd oc_law_low kV_law_low dc_law_low pm_law_low ct_law_low cd_law_low oc_law_plus kV_law_plus dc_law_plus pm_law_plus ct_law_plus cd_law_plus oc_law_times kV_law_times dc_law_times pm_law_times ct_law_times cd_law_times oc_law_number kV_law_number dc_law_number pm_law_number ct_law_number cd_law_number oc_law_fraction kV_law_fraction dc_law_fraction pm_law_fraction ct_law_fraction cd_law_fraction oc_law_right kV_law_right dc_law_right pm_law_right ct_law_right cd_law_right oc_law_roads kV_law_roads dc_law_roads pm_law_roads ct_law_roads cd_law_roads oc_law_order_right kV_law_order_right dc_law_order_right pm_law_order_right ct_law_order_right cd_law_order_right oc_law_reckoned_right kV_law_reckoned_right dc_law_reckoned_right pm_law_reckoned_right ct_law_reckoned_right oc_law_refused kV_law_refused dc_law_refused pm_law_refused ct_law_refused oc_law_great_right kV_law_great_right dc_law_great_right pm_law_great_right ct_law_great_right cd_law_great_right oc_law kV_law dc_law pm_law ct_law cd_law oc_text kV_text dc_text pm_text ct_text cd_text oc_read kV_read dc_read pm_read ct_read cd_read oc_over kV_over dc_over pm_over ct_over cd_over oc_below kV_below dc_below pm_below ct_below cd_below oc_add kV_add dc_add pm_add ct_add cd_add oc_sub kV_sub dc_sub pm_sub ct_sub cd_sub oc_mul kV_mul dc_mul pm_mul ct_mul cd_mul oc_neg kV_neg dc_neg pm_neg ct_neg cd_neg oc_eq kV_eq dc_eq pm_eq ct_eq cd_eq oc_bool kV_bool dc_bool pm_bool ct_bool cd_bool oc_repr kV_repr dc_repr pm_repr ct_repr cd_repr ocT oc_init kV_init dc_init pm_init ct_init cd_init uMD uDG ocE dcE pmE ctE cclE clE : Value} {od_integral an_integral od_is_digits an_is_digits od_integer_of an_integer_of od_fraction_of an_fraction_of od_parts_of an_parts_of od_law_open an_law_open od_law_pick an_law_pick od_law_of an_law_of od_law_shuffled an_law_shuffled od_law_is_ratio an_law_is_ratio od_law_same an_law_same od_law_error an_law_error od_law_try an_law_try od_law_fails an_law_fails od_law_gcd an_law_gcd od_law_low an_law_low od_law_plus an_law_plus od_law_times an_law_times od_law_number an_law_number od_law_fraction an_law_fraction od_law_right an_law_right od_law_roads an_law_roads od_law_order_right an_law_order_right od_law_reckoned_right an_law_reckoned_right od_law_refused an_law_refused od_law_great_right an_law_great_right od_law an_law od_text an_text od_read an_read od_over an_over od_below an_below od_add an_add od_sub an_sub od_mul an_mul od_neg an_neg od_eq an_eq od_bool an_bool od_repr an_repr odT od_init an_init odE anE cddE cldE ddE : Option Addr} {sl_integral sl_is_digits sl_integer_of sl_fraction_of sl_parts_of sl_law_open sl_law_pick sl_law_of sl_law_shuffled sl_law_is_ratio sl_law_same sl_law_error sl_law_try sl_law_fails sl_law_gcd sl_law_low sl_law_plus sl_law_times sl_law_number sl_law_fraction sl_law_right sl_law_roads sl_law_order_right sl_law_reckoned_right sl_law_refused sl_law_great_right sl_law sl_text sl_read sl_over sl_below sl_add sl_sub sl_mul sl_neg sl_eq sl_bool sl_repr slT sl_init slE ccsE cslE : Array (Option Value)} {itT : Array Value} {nT : Nat}
    {rest_text rest_read : List Value} {fo_t1add fo_t1sub fo_t1mul fo_t2add fo_t2sub fo_t2mul : Option Value} {nmE qE : Str} {bsE bmE : List Value} {snE : List Str} {subE : List Value} {abE : Bool} {colE : Option Bool} {m0 m1 m2 m3 m5 : Option Value} {pE1 pE2 qE0 qE1 qE2 qE3 qE4 qE5 qE6 qE7 qE8 qE9 : Pos} {vsE : Array Value} {fileE : Str} {tfE : Tok}
    (X : K.In h) (G : h.Ns mainGlobals mg) (hfa : mg "law" = some (.ref fa)) (hP : P1 ≠ P2) (tb1 : h.get? P1 = some { cls := .none, data := .fields #[] }) (tb2 : h.get? P2 = some { cls := .none, data := .fields #[] }) (hT : Vals [V.int 1] itT.toList) (rMD : L2.RelV (.int 1000) uMD) (rDG : L2.RelV (.str "0123456789") uDG)
    (x_ref : PySem.HandSPX.refsVE bmE = true) (x_f : vsE[2]? = some (.str fileE tfE)) (x_file : ((l.prog.main.file : Str) == fileE) = true) (x_top : (l.prog.main.scope.names.lookup ("super" : Str)).isSome = false)
    (x_form : ∀ L : Addr, PySem.GX.CallForm (PySem.W.ksEnv "OutOf.__init__" (PySem.GX.oS "what") L fo (.ref cdE) ccE) (.Call (.Name "super" qE0) [] [] qE1) "__init__" qE2 qE4 [.Constant (.str "a value is not of the kind that is needed") 0 qE3])
    (a_Ratio : PySem.W.nsIn K mainGlobals "Ratio" = some (some (.ref C)))
    (a_integral : PySem.W.nsIn K mainGlobals "integral" = some (some (.ref f_integral)))
    (l_integral : K.lookup f_integral = some ⟨oc_integral, od_integral, .func (PySem.W.fnOf "integral" "integral" (defArgs s_integral) (defBody s_integral) (defScope s_integral) .none kV_integral dc_integral pm_integral an_integral cd_integral ct_integral), sl_integral⟩)
    (c_integral : PySem.W.codeIn K cd_integral "integral" = true)
    (k_integral : PySem.W.keepIn K (.ref f_integral) = true)
    (a_is_digits : PySem.W.nsIn K mainGlobals "is_digits" = some (some (.ref f_is_digits)))
    (l_is_digits : K.lookup f_is_digits = some ⟨oc_is_digits, od_is_digits, .func (PySem.W.fnOf "is_digits" "is_digits" (defArgs s_is_digits) (defBody s_is_digits) (defScope s_is_digits) .none kV_is_digits dc_is_digits pm_is_digits an_is_digits cd_is_digits ct_is_digits), sl_is_digits⟩)
    (c_is_digits : PySem.W.codeIn K cd_is_digits "is_digits" = true)
    (k_is_digits : PySem.W.keepIn K (.ref f_is_digits) = true)
    (a_integer_of : PySem.W.nsIn K mainGlobals "integer_of" = some (some (.ref f_integer_of)))
    (l_integer_of : K.lookup f_integer_of = some ⟨oc_integer_of, od_integer_of, .func (PySem.W.fnOf "integer_of" "integer_of" (defArgs s_integer_of) (defBody s_integer_of) (defScope s_integer_of) .none kV_integer_of dc_integer_of pm_integer_of an_integer_of cd_integer_of ct_integer_of), sl_integer_of⟩)
    (c_integer_of : PySem.W.codeIn K cd_integer_of "integer_of" = true)
    (k_integer_of : PySem.W.keepIn K (.ref f_integer_of) = true)
    (a_fraction_of : PySem.W.nsIn K mainGlobals "fraction_of" = some (some (.ref f_fraction_of)))
    (l_fraction_of : K.lookup f_fraction_of = some ⟨oc_fraction_of, od_fraction_of, .func (PySem.W.fnOf "fraction_of" "fraction_of" (defArgs s_fraction_of) (defBody s_fraction_of) (defScope s_fraction_of) .none kV_fraction_of dc_fraction_of pm_fraction_of an_fraction_of cd_fraction_of ct_fraction_of), sl_fraction_of⟩)
    (c_fraction_of : PySem.W.codeIn K cd_fraction_of "fraction_of" = true)
    (k_fraction_of : PySem.W.keepIn K (.ref f_fraction_of) = true)
    (a_parts_of : PySem.W.nsIn K mainGlobals "parts_of" = some (some (.ref f_parts_of)))
    (l_parts_of : K.lookup f_parts_of = some ⟨oc_parts_of, od_parts_of, .func (PySem.W.fnOf "parts_of" "parts_of" (defArgs s_parts_of) (defBody s_parts_of) (defScope s_parts_of) .none kV_parts_of dc_parts_of pm_parts_of an_parts_of cd_parts_of ct_parts_of), sl_parts_of⟩)
    (c_parts_of : PySem.W.codeIn K cd_parts_of "parts_of" = true)
    (k_parts_of : PySem.W.keepIn K (.ref f_parts_of) = true)
    (a_law_open : PySem.W.nsIn K mainGlobals "_law_open" = some (some (.ref f_law_open)))
    (l_law_open : K.lookup f_law_open = some ⟨oc_law_open, od_law_open, .func (PySem.W.fnOf "_law_open" "_law_open" (defArgs s__law_open) (defBody s__law_open) (defScope s__law_open) .none kV_law_open dc_law_open pm_law_open an_law_open cd_law_open ct_law_open), sl_law_open⟩)
    (c_law_open : PySem.W.codeIn K cd_law_open "_law_open" = true)
    (k_law_open : PySem.W.keepIn K (.ref f_law_open) = true)
    (a_law_pick : PySem.W.nsIn K mainGlobals "_law_pick" = some (some (.ref f_law_pick)))
    (l_law_pick : K.lookup f_law_pick = some ⟨oc_law_pick, od_law_pick, .func (PySem.W.fnOf "_law_pick" "_law_pick" (defArgs s__law_pick) (defBody s__law_pick) (defScope s__law_pick) .none kV_law_pick dc_law_pick pm_law_pick an_law_pick cd_law_pick ct_law_pick), sl_law_pick⟩)
    (c_law_pick : PySem.W.codeIn K cd_law_pick "_law_pick" = true)
    (k_law_pick : PySem.W.keepIn K (.ref f_law_pick) = true)
    (a_law_of : PySem.W.nsIn K mainGlobals "_law_of" = some (some (.ref f_law_of)))
    (l_law_of : K.lookup f_law_of = some ⟨oc_law_of, od_law_of, .func (PySem.W.fnOf "_law_of" "_law_of" (defArgs s__law_of) (defBody s__law_of) (defScope s__law_of) .none kV_law_of dc_law_of pm_law_of an_law_of cd_law_of ct_law_of), sl_law_of⟩)
    (c_law_of : PySem.W.codeIn K cd_law_of "_law_of" = true)
    (k_law_of : PySem.W.keepIn K (.ref f_law_of) = true)
    (a_law_shuffled : PySem.W.nsIn K mainGlobals "_law_shuffled" = some (some (.ref f_law_shuffled)))
    (l_law_shuffled : K.lookup f_law_shuffled = some ⟨oc_law_shuffled, od_law_shuffled, .func (PySem.W.fnOf "_law_shuffled" "_law_shuffled" (defArgs s__law_shuffled) (defBody s__law_shuffled) (defScope s__law_shuffled) .none kV_law_shuffled dc_law_shuffled pm_law_shuffled an_law_shuffled cd_law_shuffled ct_law_shuffled), sl_law_shuffled⟩)
    (c_law_shuffled : PySem.W.codeIn K cd_law_shuffled "_law_shuffled" = true)
    (k_law_shuffled : PySem.W.keepIn K (.ref f_law_shuffled) = true)
    (a_law_is_ratio : PySem.W.nsIn K mainGlobals "_law_is_ratio" = some (some (.ref f_law_is_ratio)))
    (l_law_is_ratio : K.lookup f_law_is_ratio = some ⟨oc_law_is_ratio, od_law_is_ratio, .func (PySem.W.fnOf "_law_is_ratio" "_law_is_ratio" (defArgs s__law_is_ratio) (defBody s__law_is_ratio) (defScope s__law_is_ratio) .none kV_law_is_ratio dc_law_is_ratio pm_law_is_ratio an_law_is_ratio cd_law_is_ratio ct_law_is_ratio), sl_law_is_ratio⟩)
    (c_law_is_ratio : PySem.W.codeIn K cd_law_is_ratio "_law_is_ratio" = true)
    (k_law_is_ratio : PySem.W.keepIn K (.ref f_law_is_ratio) = true)
    (a_law_same : PySem.W.nsIn K mainGlobals "_law_same" = some (some (.ref f_law_same)))
    (l_law_same : K.lookup f_law_same = some ⟨oc_law_same, od_law_same, .func (PySem.W.fnOf "_law_same" "_law_same" (defArgs s__law_same) (defBody s__law_same) (defScope s__law_same) .none kV_law_same dc_law_same pm_law_same an_law_same cd_law_same ct_law_same), sl_law_same⟩)
    (c_law_same : PySem.W.codeIn K cd_law_same "_law_same" = true)
    (k_law_same : PySem.W.keepIn K (.ref f_law_same) = true)
    (a_law_error : PySem.W.nsIn K mainGlobals "_law_error" = some (some (.ref f_law_error)))
    (l_law_error : K.lookup f_law_error = some ⟨oc_law_error, od_law_error, .func (PySem.W.fnOf "_law_error" "_law_error" (defArgs s__law_error) (defBody s__law_error) (defScope s__law_error) .none kV_law_error dc_law_error pm_law_error an_law_error cd_law_error ct_law_error), sl_law_error⟩)
    (c_law_error : PySem.W.codeIn K cd_law_error "_law_error" = true)
    (k_law_error : PySem.W.keepIn K (.ref f_law_error) = true)
    (a_law_try : PySem.W.nsIn K mainGlobals "_law_try" = some (some (.ref f_law_try)))
    (l_law_try : K.lookup f_law_try = some ⟨oc_law_try, od_law_try, .func (PySem.W.fnOf "_law_try" "_law_try" (defArgs s__law_try) (defBody s__law_try) (defScope s__law_try) .none kV_law_try dc_law_try pm_law_try an_law_try cd_law_try ct_law_try), sl_law_try⟩)
    (c_law_try : PySem.W.codeIn K cd_law_try "_law_try" = true)
    (k_law_try : PySem.W.keepIn K (.ref f_law_try) = true)
    (a_law_fails : PySem.W.nsIn K mainGlobals "_law_fails" = some (some (.ref f_law_fails)))
    (l_law_fails : K.lookup f_law_fails = some ⟨oc_law_fails, od_law_fails, .func (PySem.W.fnOf "_law_fails" "_law_fails" (defArgs s__law_fails) (defBody s__law_fails) (defScope s__law_fails) .none kV_law_fails dc_law_fails pm_law_fails an_law_fails cd_law_fails ct_law_fails), sl_law_fails⟩)
    (c_law_fails : PySem.W.codeIn K cd_law_fails "_law_fails" = true)
    (k_law_fails : PySem.W.keepIn K (.ref f_law_fails) = true)
    (a_law_gcd : PySem.W.nsIn K mainGlobals "_law_gcd" = some (some (.ref f_law_gcd)))
    (l_law_gcd : K.lookup f_law_gcd = some ⟨oc_law_gcd, od_law_gcd, .func (PySem.W.fnOf "_law_gcd" "_law_gcd" (defArgs s__law_gcd) (defBody s__law_gcd) (defScope s__law_gcd) .none kV_law_gcd dc_law_gcd pm_law_gcd an_law_gcd cd_law_gcd ct_law_gcd), sl_law_gcd⟩)
    (c_law_gcd : PySem.W.codeIn K cd_law_gcd "_law_gcd" = true)
    (k_law_gcd : PySem.W.keepIn K (.ref f_law_gcd) = true)
    (a_law_low : PySem.W.nsIn K mainGlobals "_law_low" = some (some (.ref f_law_low)))
    (l_law_low : K.lookup f_law_low = some ⟨oc_law_low, od_law_low, .func (PySem.W.fnOf "_law_low" "_law_low" (defArgs s__law_low) (defBody s__law_low) (defScope s__law_low) .none kV_law_low dc_law_low pm_law_low an_law_low cd_law_low ct_law_low), sl_law_low⟩)
    (c_law_low : PySem.W.codeIn K cd_law_low "_law_low" = true)
    (k_law_low : PySem.W.keepIn K (.ref f_law_low) = true)
    (a_law_plus : PySem.W.nsIn K mainGlobals "_law_plus" = some (some (.ref f_law_plus)))
    (l_law_plus : K.lookup f_law_plus = some ⟨oc_law_plus, od_law_plus, .func (PySem.W.fnOf "_law_plus" "_law_plus" (defArgs s__law_plus) (defBody s__law_plus) (defScope s__law_plus) .none kV_law_plus dc_law_plus pm_law_plus an_law_plus cd_law_plus ct_law_plus), sl_law_plus⟩)
    (c_law_plus : PySem.W.codeIn K cd_law_plus "_law_plus" = true)
    (k_law_plus : PySem.W.keepIn K (.ref f_law_plus) = true)
    (a_law_times : PySem.W.nsIn K mainGlobals "_law_times" = some (some (.ref f_law_times)))
    (l_law_times : K.lookup f_law_times = some ⟨oc_law_times, od_law_times, .func (PySem.W.fnOf "_law_times" "_law_times" (defArgs s__law_times) (defBody s__law_times) (defScope s__law_times) .none kV_law_times dc_law_times pm_law_times an_law_times cd_law_times ct_law_times), sl_law_times⟩)
    (c_law_times : PySem.W.codeIn K cd_law_times "_law_times" = true)
    (k_law_times : PySem.W.keepIn K (.ref f_law_times) = true)
    (a_law_number : PySem.W.nsIn K mainGlobals "_law_number" = some (some (.ref f_law_number)))
    (l_law_number : K.lookup f_law_number = some ⟨oc_law_number, od_law_number, .func (PySem.W.fnOf "_law_number" "_law_number" (defArgs s__law_number) (defBody s__law_number) (defScope s__law_number) .none kV_law_number dc_law_number pm_law_number an_law_number cd_law_number ct_law_number), sl_law_number⟩)
    (c_law_number : PySem.W.codeIn K cd_law_number "_law_number" = true)
    (k_law_number : PySem.W.keepIn K (.ref f_law_number) = true)
    (a_law_fraction : PySem.W.nsIn K mainGlobals "_law_fraction" = some (some (.ref f_law_fraction)))
    (l_law_fraction : K.lookup f_law_fraction = some ⟨oc_law_fraction, od_law_fraction, .func (PySem.W.fnOf "_law_fraction" "_law_fraction" (defArgs s__law_fraction) (defBody s__law_fraction) (defScope s__law_fraction) .none kV_law_fraction dc_law_fraction pm_law_fraction an_law_fraction cd_law_fraction ct_law_fraction), sl_law_fraction⟩)
    (c_law_fraction : PySem.W.codeIn K cd_law_fraction "_law_fraction" = true)
    (k_law_fraction : PySem.W.keepIn K (.ref f_law_fraction) = true)
    (a_law_right : PySem.W.nsIn K mainGlobals "_law_right" = some (some (.ref f_law_right)))
    (l_law_right : K.lookup f_law_right = some ⟨oc_law_right, od_law_right, .func (PySem.W.fnOf "_law_right" "_law_right" (defArgs s__law_right) (defBody s__law_right) (defScope s__law_right) .none kV_law_right dc_law_right pm_law_right an_law_right cd_law_right ct_law_right), sl_law_right⟩)
    (c_law_right : PySem.W.codeIn K cd_law_right "_law_right" = true)
    (k_law_right : PySem.W.keepIn K (.ref f_law_right) = true)
    (a_law_roads : PySem.W.nsIn K mainGlobals "_law_roads" = some (some (.ref f_law_roads)))
    (l_law_roads : K.lookup f_law_roads = some ⟨oc_law_roads, od_law_roads, .func (PySem.W.fnOf "_law_roads" "_law_roads" (defArgs s__law_roads) (defBody s__law_roads) (defScope s__law_roads) .none kV_law_roads dc_law_roads pm_law_roads an_law_roads cd_law_roads ct_law_roads), sl_law_roads⟩)
    (c_law_roads : PySem.W.codeIn K cd_law_roads "_law_roads" = true)
    (k_law_roads : PySem.W.keepIn K (.ref f_law_roads) = true)
    (a_law_order_right : PySem.W.nsIn K mainGlobals "_law_order_right" = some (some (.ref f_law_order_right)))
    (l_law_order_right : K.lookup f_law_order_right = some ⟨oc_law_order_right, od_law_order_right, .func (PySem.W.fnOf "_law_order_right" "_law_order_right" (defArgs s__law_order_right) (defBody s__law_order_right) (defScope s__law_order_right) .none kV_law_order_right dc_law_order_right pm_law_order_right an_law_order_right cd_law_order_right ct_law_order_right), sl_law_order_right⟩)
    (c_law_order_right : PySem.W.codeIn K cd_law_order_right "_law_order_right" = true)
    (k_law_order_right : PySem.W.keepIn K (.ref f_law_order_right) = true)
    (a_law_reckoned_right : PySem.W.nsIn K mainGlobals "_law_reckoned_right" = some (some (.ref f_law_reckoned_right)))
    (l_law_reckoned_right : K.lookup f_law_reckoned_right = some ⟨oc_law_reckoned_right, od_law_reckoned_right, .func (PySem.W.fnOf "_law_reckoned_right" "_law_reckoned_right" (defArgs s__law_reckoned_right) (defBody s__law_reckoned_right) (defScope s__law_reckoned_right) .none kV_law_reckoned_right dc_law_reckoned_right pm_law_reckoned_right an_law_reckoned_right (.ref c1) ct_law_reckoned_right), sl_law_reckoned_right⟩)
    (c_law_reckoned_right : PySem.W.codeIn K (.ref c1) "_law_reckoned_right" = true)
    (k_law_reckoned_right : PySem.W.keepIn K (.ref f_law_reckoned_right) = true)
    (a_law_refused : PySem.W.nsIn K mainGlobals "_law_refused" = some (some (.ref f_law_refused)))
    (l_law_refused : K.lookup f_law_refused = some ⟨oc_law_refused, od_law_refused, .func (PySem.W.fnOf "_law_refused" "_law_refused" (defArgs s__law_refused) (defBody s__law_refused) (defScope s__law_refused) .none kV_law_refused dc_law_refused pm_law_refused an_law_refused (.ref c2) ct_law_refused), sl_law_refused⟩)
    (c_law_refused : PySem.W.codeIn K (.ref c2) "_law_refused" = true)
    (k_law_refused : PySem.W.keepIn K (.ref f_law_refused) = true)
    (a_law_great_right : PySem.W.nsIn K mainGlobals "_law_great_right" = some (some (.ref f_law_great_right)))
    (l_law_great_right : K.lookup f_law_great_right = some ⟨oc_law_great_right, od_law_great_right, .func (PySem.W.fnOf "_law_great_right" "_law_great_right" (defArgs s__law_great_right) (defBody s__law_great_right) (defScope s__law_great_right) .none kV_law_great_right dc_law_great_right pm_law_great_right an_law_great_right cd_law_great_right ct_law_great_right), sl_law_great_right⟩)
    (c_law_great_right : PySem.W.codeIn K cd_law_great_right "_law_great_right" = true)
    (k_law_great_right : PySem.W.keepIn K (.ref f_law_great_right) = true)
    (a_law : PySem.W.nsIn K mainGlobals "law" = some (some (.ref f_law)))
    (l_law : K.lookup f_law = some ⟨oc_law, od_law, .func (PySem.W.fnOf "law" "law" (defArgs s_law) (defBody s_law) (defScope s_law) .none kV_law dc_law pm_law an_law cd_law ct_law), sl_law⟩)
    (c_law : PySem.W.codeIn K cd_law "law" = true)
    (k_law : PySem.W.keepIn K (.ref f_law) = true)
    (l_text : K.lookup f_text = some ⟨oc_text, od_text, .func (PySem.W.fnOf "text" "Ratio.text" (defArgs s_Ratio_text) (defBody s_Ratio_text) (defScope s_Ratio_text) .none kV_text dc_text pm_text an_text cd_text ct_text), sl_text⟩)
    (c_text : PySem.W.codeIn K cd_text "Ratio.text" = true)
    (k_text : PySem.W.keepIn K (.ref f_text) = true)
    (m_text : PySem.W.findIn K (.ref C) "text" = some (some (.ref p_text)))
    (pg_text : PySem.W.specialIn K (.ref p_text) "__get__" = some (some (.builtin "property.__get__")))
    (pt_text : PySem.W.takesIn K (.ref p_text) = some true)
    (pr_text : PySem.W.recIn K p_text "property" = some (.ref f_text :: rest_text))
    (l_read : K.lookup f_read = some ⟨oc_read, od_read, .func (PySem.W.fnOf "read" "Ratio.read" (defArgs s_Ratio_read) (defBody s_Ratio_read) (defScope s_Ratio_read) .none kV_read dc_read pm_read an_read cd_read ct_read), sl_read⟩)
    (c_read : PySem.W.codeIn K cd_read "Ratio.read" = true)
    (k_read : PySem.W.keepIn K (.ref f_read) = true)
    (rd_read : PySem.W.readsIn K C (.type "type") = true)
    (rg_read : PySem.W.specialIn K (.ref C) "__getattribute__" = some (some (.builtin "type.__getattribute__")))
    (ra_read : PySem.W.findCls K (.ref C) (.type "type") "read" = some (.get (.builtin "staticmethod.__get__") (.ref p_read) .none (.ref C)))
    (rr_read : PySem.W.recIn K p_read "staticmethod" = some (.ref f_read :: rest_read))
    (l_over : K.lookup f_over = some ⟨oc_over, od_over, .func (PySem.W.fnOf "over" "Ratio.over" (defArgs s_Ratio_over) (defBody s_Ratio_over) (defScope s_Ratio_over) .none kV_over dc_over pm_over an_over cd_over ct_over), sl_over⟩)
    (c_over : PySem.W.codeIn K cd_over "Ratio.over" = true)
    (k_over : PySem.W.keepIn K (.ref f_over) = true)
    (m_over : PySem.W.findIn K (.ref C) "over" = some (some (.ref f_over)))
    (fn_over : PySem.W.isFn K (.ref f_over) = true)
    (l_below : K.lookup f_below = some ⟨oc_below, od_below, .func (PySem.W.fnOf "below" "Ratio.below" (defArgs s_Ratio_below) (defBody s_Ratio_below) (defScope s_Ratio_below) .none kV_below dc_below pm_below an_below cd_below ct_below), sl_below⟩)
    (c_below : PySem.W.codeIn K cd_below "Ratio.below" = true)
    (k_below : PySem.W.keepIn K (.ref f_below) = true)
    (m_below : PySem.W.findIn K (.ref C) "below" = some (some (.ref f_below)))
    (fn_below : PySem.W.isFn K (.ref f_below) = true)
    (l_add : K.lookup f_add = some ⟨oc_add, od_add, .func (PySem.W.fnOf "__add__" "Ratio.__add__" (defArgs s_Ratio___add__) (defBody s_Ratio___add__) (defScope s_Ratio___add__) .none kV_add dc_add pm_add an_add cd_add ct_add), sl_add⟩)
    (c_add : PySem.W.codeIn K cd_add "Ratio.__add__" = true)
    (k_add : PySem.W.keepIn K (.ref f_add) = true)
    (m_add : PySem.W.findIn K (.ref C) "__add__" = some (some (.ref f_add)))
    (fn_add : PySem.W.isFn K (.ref f_add) = true)
    (l_sub : K.lookup f_sub = some ⟨oc_sub, od_sub, .func (PySem.W.fnOf "__sub__" "Ratio.__sub__" (defArgs s_Ratio___sub__) (defBody s_Ratio___sub__) (defScope s_Ratio___sub__) .none kV_sub dc_sub pm_sub an_sub cd_sub ct_sub), sl_sub⟩)
    (c_sub : PySem.W.codeIn K cd_sub "Ratio.__sub__" = true)
    (k_sub : PySem.W.keepIn K (.ref f_sub) = true)
    (m_sub : PySem.W.findIn K (.ref C) "__sub__" = some (some (.ref f_sub)))
    (fn_sub : PySem.W.isFn K (.ref f_sub) = true)
    (l_mul : K.lookup f_mul = some ⟨oc_mul, od_mul, .func (PySem.W.fnOf "__mul__" "Ratio.__mul__" (defArgs s_Ratio___mul__) (defBody s_Ratio___mul__) (defScope s_Ratio___mul__) .none kV_mul dc_mul pm_mul an_mul cd_mul ct_mul), sl_mul⟩)
    (c_mul : PySem.W.codeIn K cd_mul "Ratio.__mul__" = true)
    (k_mul : PySem.W.keepIn K (.ref f_mul) = true)
    (m_mul : PySem.W.findIn K (.ref C) "__mul__" = some (some (.ref f_mul)))
    (fn_mul : PySem.W.isFn K (.ref f_mul) = true)
    (l_neg : K.lookup f_neg = some ⟨oc_neg, od_neg, .func (PySem.W.fnOf "__neg__" "Ratio.__neg__" (defArgs s_Ratio___neg__) (defBody s_Ratio___neg__) (defScope s_Ratio___neg__) .none kV_neg dc_neg pm_neg an_neg cd_neg ct_neg), sl_neg⟩)
    (c_neg : PySem.W.codeIn K cd_neg "Ratio.__neg__" = true)
    (k_neg : PySem.W.keepIn K (.ref f_neg) = true)
    (m_neg : PySem.W.findIn K (.ref C) "__neg__" = some (some (.ref f_neg)))
    (fn_neg : PySem.W.isFn K (.ref f_neg) = true)
    (l_eq : K.lookup f_eq = some ⟨oc_eq, od_eq, .func (PySem.W.fnOf "__eq__" "Ratio.__eq__" (defArgs s_Ratio___eq__) (defBody s_Ratio___eq__) (defScope s_Ratio___eq__) .none kV_eq dc_eq pm_eq an_eq cd_eq ct_eq), sl_eq⟩)
    (c_eq : PySem.W.codeIn K cd_eq "Ratio.__eq__" = true)
    (k_eq : PySem.W.keepIn K (.ref f_eq) = true)
    (m_eq : PySem.W.findIn K (.ref C) "__eq__" = some (some (.ref f_eq)))
    (fn_eq : PySem.W.isFn K (.ref f_eq) = true)
    (l_bool : K.lookup f_bool = some ⟨oc_bool, od_bool, .func (PySem.W.fnOf "__bool__" "Ratio.__bool__" (defArgs s_Ratio___bool__) (defBody s_Ratio___bool__) (defScope s_Ratio___bool__) .none kV_bool dc_bool pm_bool an_bool cd_bool ct_bool), sl_bool⟩)
    (c_bool : PySem.W.codeIn K cd_bool "Ratio.__bool__" = true)
    (k_bool : PySem.W.keepIn K (.ref f_bool) = true)
    (m_bool : PySem.W.findIn K (.ref C) "__bool__" = some (some (.ref f_bool)))
    (fn_bool : PySem.W.isFn K (.ref f_bool) = true)
    (l_repr : K.lookup f_repr = some ⟨oc_repr, od_repr, .func (PySem.W.fnOf "__repr__" "Ratio.__repr__" (defArgs s_Ratio___repr__) (defBody s_Ratio___repr__) (defScope s_Ratio___repr__) .none kV_repr dc_repr pm_repr an_repr cd_repr ct_repr), sl_repr⟩)
    (c_repr : PySem.W.codeIn K cd_repr "Ratio.__repr__" = true)
    (k_repr : PySem.W.keepIn K (.ref f_repr) = true)
    (m_repr : PySem.W.findIn K (.ref C) "__repr__" = some (some (.ref f_repr)))
    (fn_repr : PySem.W.isFn K (.ref f_repr) = true)
    (l_init : K.lookup f_init = some ⟨oc_init, od_init, .func (PySem.W.fnOf "__init__" "Ratio.__init__" (defArgs s_Ratio___init__) (defBody s_Ratio___init__) (defScope s_Ratio___init__) (.ref T0) kV_init dc_init pm_init an_init cd_init ct_init), sl_init⟩)
    (c_init : PySem.W.codeIn K cd_init "Ratio.__init__" = true)
    (k_init : PySem.W.keepIn K (.ref f_init) = true)
    (lT : K.lookup T0 = some ⟨ocT, odT, .seq itT nT, slT⟩)
    (m_init : PySem.W.findIn K (.ref C) "__init__" = some (some (.ref f_init)))
    (fn_init : PySem.W.isFn K (.ref f_init) = true)
    (C_pg : PySem.W.plainGet K C Str.empty = true)
    (C_hd : PySem.W.hasDictIn K C = true)
    (C_po : PySem.W.plainOver K C = true)
    (C_sa : PySem.W.findIn K (.ref C) "__setattr__" = some (some (.builtin "object.__setattr__")))
    (C_a1 : PySem.W.findIn K (.ref C) "__class__" = some (some (.builtin "object.__class__")))
    (C_a2 : PySem.W.specialIn K (.builtin "object.__class__") "__get__" = some (some (.builtin "getset_descriptor.__get__")))
    (C_a3 : PySem.W.takesIn K (.builtin "object.__class__") = some true)
    (C_a4 : PySem.W.mroIn K C (.type "object") = some true)
    (C_nT : PySem.W.findIn K (.ref C) "top" = some none)
    (C_nB : PySem.W.findIn K (.ref C) "bottom" = some none)
    (C_mk : PySem.W.makesIn K C = true)
    (C_kp : PySem.W.keepIn K (.ref C) = true)
    (C_sf : PySem.W.selfFirst K C = true)
    (oi_radd : PySem.W.findIn K (.ref C) "__radd__" = some none)
    (oi_t1add : PySem.W.findIn K (.type "int") "__add__" = some fo_t1add)
    (oi_t2add : PySem.W.findIn K (.type "int") "__radd__" = some fo_t2add)
    (oi_rsub : PySem.W.findIn K (.ref C) "__rsub__" = some none)
    (oi_t1sub : PySem.W.findIn K (.type "int") "__sub__" = some fo_t1sub)
    (oi_t2sub : PySem.W.findIn K (.type "int") "__rsub__" = some fo_t2sub)
    (oi_rmul : PySem.W.findIn K (.ref C) "__rmul__" = some none)
    (oi_t1mul : PySem.W.findIn K (.type "int") "__mul__" = some fo_t1mul)
    (oi_t2mul : PySem.W.findIn K (.type "int") "__rmul__" = some fo_t2mul)
    (oi_sub : PySem.W.subIn K (.type "int") (.ref C) = some false)
    (nf_non : PySem.W.notFirst K C (.type "NoneType") = true)
    (nf_bl : PySem.W.notFirst K C (.type "bool") = true)
    (nf_int : PySem.W.notFirst K C (.type "int") = true)
    (nf_str : PySem.W.notFirst K C (.type "str") = true)
    (nf_lst : PySem.W.notFirst K C (.type "list") = true)
    (nf_tup : PySem.W.notFirst K C (.type "tuple") = true)
    (nf_dct : PySem.W.notFirst K C (.type "dict") = true)
    (nf_rat : PySem.W.notFirst K C (.ref C) = true)
    (ia_non : PySem.W.kitOne K (.type "NoneType") (.ref C) = some false)
    (ia_bl : PySem.W.kitOne K (.type "bool") (.ref C) = some false)
    (ib_bl : PySem.W.kitOne K (.ref C) (.type "bool") = some false)
    (ia_int : PySem.W.kitOne K (.type "int") (.ref C) = some false)
    (ib_int : PySem.W.kitOne K (.ref C) (.type "int") = some false)
    (ia_str : PySem.W.kitOne K (.type "str") (.ref C) = some false)
    (ib_str : PySem.W.kitOne K (.ref C) (.type "str") = some false)
    (ia_lst : PySem.W.kitOne K (.type "list") (.ref C) = some false)
    (ib_lst : PySem.W.kitOne K (.ref C) (.type "list") = some false)
    (ia_tup : PySem.W.kitOne K (.type "tuple") (.ref C) = some false)
    (ib_tup : PySem.W.kitOne K (.ref C) (.type "tuple") = some false)
    (ia_dct : PySem.W.kitOne K (.type "dict") (.ref C) = some false)
    (ib_dct : PySem.W.kitOne K (.ref C) (.type "dict") = some false)
    (ic : PySem.W.kitOne K (.ref C) (.ref C) = some true)
    (nd : PySem.W.nsIn K cStatics "sys.int_max_str_digits" = some none)
    (n_isinstance : PySem.W.nsIn K mainGlobals "isinstance" = some none)
    (n_int : PySem.W.nsIn K mainGlobals "int" = some none)
    (n_bool : PySem.W.nsIn K mainGlobals "bool" = some none)
    (n_str : PySem.W.nsIn K mainGlobals "str" = some none)
    (n_len : PySem.W.nsIn K mainGlobals "len" = some none)
    (n_all : PySem.W.nsIn K mainGlobals "all" = some none)
    (n_any : PySem.W.nsIn K mainGlobals "any" = some none)
    (n_list : PySem.W.nsIn K mainGlobals "list" = some none)
    (n_range : PySem.W.nsIn K mainGlobals "range" = some none)
    (n_abs : PySem.W.nsIn K mainGlobals "abs" = some none)
    (n_tuple : PySem.W.nsIn K mainGlobals "tuple" = some none)
    (n_repr : PySem.W.nsIn K mainGlobals "repr" = some none)
    (n_super : PySem.W.nsIn K mainGlobals "super" = some none)
    (n_KeyError : PySem.W.nsIn K mainGlobals "KeyError" = some none)
    (n_IndexError : PySem.W.nsIn K mainGlobals "IndexError" = some none)
    (n_ValueError : PySem.W.nsIn K mainGlobals "ValueError" = some none)
    (n_LookupError : PySem.W.nsIn K mainGlobals "LookupError" = some none)
    (n_RuntimeError : PySem.W.nsIn K mainGlobals "RuntimeError" = some none)
    (a_gcd : PySem.W.nsIn K mainGlobals "gcd" = some (some (.builtin "math.gcd")))
    (a_MD : PySem.W.nsIn K mainGlobals "MOST_DIGITS" = some (some uMD))
    (a_DG : PySem.W.nsIn K mainGlobals "DIGITS" = some (some uDG))
    (ga_0 : PySem.W.nsIn K mainGlobals "BadRule" = some (some (.ref e0)))
    (ga_1 : PySem.W.nsIn K mainGlobals "BadScatter" = some (some (.ref e1)))
    (ga_2 : PySem.W.nsIn K mainGlobals "BadBook" = some (some (.ref e2)))
    (ga_3 : PySem.W.nsIn K mainGlobals "BadPaper" = some (some (.ref e3)))
    (ga_4 : PySem.W.nsIn K mainGlobals "BadClock" = some (some (.ref e4)))
    (ga_5 : PySem.W.nsIn K mainGlobals "BadScript" = some (some (.ref e5)))
    (ga_6 : PySem.W.nsIn K mainGlobals "NotWhole" = some (some (.ref e6)))
    (ga_7 : PySem.W.nsIn K mainGlobals "OutOf" = some (some (.ref Co)))
    (ga_8 : PySem.W.nsIn K mainGlobals "Unlike" = some (some (.ref e8)))
    (ga_9 : PySem.W.nsIn K mainGlobals "TooMany" = some (some (.ref e9)))
    (ga_10 : PySem.W.nsIn K mainGlobals "NoSuch" = some (some (.ref e10)))
    (ga_11 : PySem.W.nsIn K mainGlobals "Ended" = some (some (.ref e11)))
    (ga_12 : PySem.W.nsIn K mainGlobals "GlintError" = some (some (.ref e12)))
    (is_0 : PySem.W.kitOne K (.ref Co) (.ref e0) = some false)
    (is_1 : PySem.W.kitOne K (.ref Co) (.ref e1) = some false)
    (is_2 : PySem.W.kitOne K (.ref Co) (.ref e2) = some false)
    (is_3 : PySem.W.kitOne K (.ref Co) (.ref e3) = some false)
    (is_4 : PySem.W.kitOne K (.ref Co) (.ref e4) = some false)
    (is_5 : PySem.W.kitOne K (.ref Co) (.ref e5) = some false)
    (is_6 : PySem.W.kitOne K (.ref Co) (.ref e6) = some false)
    (is_7 : PySem.W.kitOne K (.ref Co) (.ref Co) = some true)
    (is_8 : PySem.W.kitOne K (.ref Co) (.ref e8) = some false)
    (is_9 : PySem.W.kitOne K (.ref Co) (.ref e9) = some false)
    (is_10 : PySem.W.kitOne K (.ref Co) (.ref e10) = some false)
    (is_11 : PySem.W.kitOne K (.ref Co) (.ref e11) = some false)
    (is_12 : PySem.W.kitOne K (.ref Co) (.ref e12) = some true)
    (isb_KeyError : PySem.W.kitOne K (.ref Co) (.type "KeyError") = some false)
    (isb_IndexError : PySem.W.kitOne K (.ref Co) (.type "IndexError") = some false)
    (isb_ValueError : PySem.W.kitOne K (.ref Co) (.type "ValueError") = some true)
    (isb_LookupError : PySem.W.kitOne K (.ref Co) (.type "LookupError") = some false)
    (isb_RuntimeError : PySem.W.kitOne K (.ref Co) (.type "RuntimeError") = some false)
    (xb_12 : PySem.W.subIn K (.ref e12) (.type "BaseException") = some true)
    (xi_12 : PySem.W.isClsIn K e12 = true)
    (xt_12 : PySem.W.typeIn K (.ref e12) = some (.type "type"))
    (xs_12 : PySem.W.subIn K (.ref Co) (.ref e12) = some true)
    (xb_10 : PySem.W.subIn K (.ref e10) (.type "BaseException") = some true)
    (xi_10 : PySem.W.isClsIn K e10 = true)
    (xt_10 : PySem.W.typeIn K (.ref e10) = some (.type "type"))
    (xs_10 : PySem.W.subIn K (.ref Co) (.ref e10) = some false)
    (xb_11 : PySem.W.subIn K (.ref e11) (.type "BaseException") = some true)
    (xi_11 : PySem.W.isClsIn K e11 = true)
    (xt_11 : PySem.W.typeIn K (.ref e11) = some (.type "type"))
    (xs_11 : PySem.W.subIn K (.ref Co) (.ref e11) = some false)
    (x_ga : PySem.W.findIn K (.ref Co) "__getattribute__" = some (some (.builtin "BaseException.__getattribute__")))
    (x_gg : PySem.W.findIn K (.ref Co) "__getattr__" = some none)
    (x_sub : PySem.W.subIn K (.ref Co) (.type "BaseException") = some true)
    (x_hd : PySem.W.hasDictIn K Co = true)
    (x_a1 : PySem.W.findIn K (.ref Co) "__class__" = some (some (.builtin "object.__class__")))
    (x_a4 : PySem.W.mroIn K Co (.type "object") = some true)
    (x_noW : PySem.W.findIn K (.ref Co) "what" = some none)
    (x_cls : K.lookup Co = some (excClassObj nmE qE Co NE bsE bmE true snE subE abE colE ddE m0 m1 m2 m3 m5 "ValueError.__new__"))
    (x_sa : PySem.W.findIn K (.ref Co) "__setattr__" = some (some (.builtin "object.__setattr__")))
    (x_iC : PySem.W.findIn K (.ref Co) "__init__" = some (some (.ref fo)))
    (x_tC : PySem.W.typeIn K (.ref fo) = some (.type "function"))
    (x_kC : PySem.W.keepIn K (.ref Co) = true)
    (x_tyC : PySem.W.typeIn K (.ref Co) = some (.type "type"))
    (x_mro : PySem.W.mroIn K Co (.ref Co) = some true)
    (x_up : PySem.W.ks_superIn K Co Co "__init__" = some (some (.builtin "ValueError.__init__")))
    (x_ve : PySem.W.subIn K (.ref Co) (.type "ValueError") = some true)
    (x_opq : PySem.W.nsIn K cStatics "thirdparty.any" = some none)
    (x_l : K.lookup fo = some ⟨ocE, odE, .func (PySem.W.ksFn "__init__" "OutOf.__init__" (PySem.GX.oA "what" pE1 pE2) (PySem.GX.oB "what" "a value is not of the kind that is needed" qE0 qE1 qE2 qE3 qE4 qE5 qE6 qE7 qE8 qE9) (PySem.GX.oS "what") .none .none dcE pmE anE (.ref cdE) ctE ccE), slE⟩)
    (x_c : PySem.W.codeIn K (.ref cdE) "OutOf.__init__" = true)
    (x_lc : K.lookup cdE = some ⟨cclE, cddE, .fields vsE, ccsE⟩)
    (x_lcc : K.lookup ccE = some ⟨clE, cldE, .cell (some (.ref Co)), cslE⟩)
    (t_1 : PySem.W.codeHdIn K c1 P1 = true)
    (t_2 : PySem.W.codeHdIn K c2 P2 = true)
    (t_n1 : K.lookup P1 = none)
    (t_n2 : K.lookup P2 = none) :
    LamX.LawAtS l w K L2.CX0 22 63 "script" mg fa h := by
  have out : PySem.GX.OutTxt l.prog K mg "OutOf" "a value is not of the kind that is needed" Co fo :=
    { gC := PySem.W.mg_of X G ga_7, cls := ⟨_, _, _, _, _, _, _, _, _, _, _, _, _, _, _, x_cls, x_ref⟩, sa := x_sa, noN := x_noW, iC := x_iC, tC := x_tC, kC := x_kC, exC := x_sub, tyC := x_tyC, hdC := x_hd, sub := x_mro, up := x_up, veC := x_ve, opq := x_opq, gs := PySem.W.mg_none_of X G n_super, top := x_top,
      fn := ⟨_, _, _, _, _, _, _, _, _, _, _, _, _, _, _, _, _, _, _, _, _, _, _, _, _, _, _, _, _, _, _, x_l, x_c, x_lc, x_f, x_file, x_lcc, x_form⟩ }
  have cl : Cls K C := ⟨C_pg, C_hd, C_po, C_sa⟩
  have T : Tx l.prog K mg C Co fo :=
    { n_isinstance := PySem.W.mg_none_of X G n_isinstance, n_int := PySem.W.mg_none_of X G n_int, n_bool := PySem.W.mg_none_of X G n_bool, n_str := PySem.W.mg_none_of X G n_str, n_len := PySem.W.mg_none_of X G n_len, n_all := PySem.W.mg_none_of X G n_all, g_gcd := PySem.W.mg_of X G a_gcd, g_Ratio := PySem.W.mg_of X G a_Ratio,
      isT := fun a b hb => by
        cases b with
        | non => exact absurd rfl hb
        | rat => cases a <;> first | exact ic | exact ia_non | exact ia_bl | exact ia_int | exact ia_str | exact ia_lst | exact ia_tup | exact ia_dct
        | bl => cases a <;> first | exact ib_bl | exact kit_ty (by decide +kernel)
        | int => cases a <;> first | exact ib_int | exact kit_ty (by decide +kernel)
        | str => cases a <;> first | exact ib_str | exact kit_ty (by decide +kernel)
        | lst => cases a <;> first | exact ib_lst | exact kit_ty (by decide +kernel)
        | tup => cases a <;> first | exact ib_tup | exact kit_ty (by decide +kernel)
        | dct => cases a <;> first | exact ib_dct | exact kit_ty (by decide +kernel)
      cl := ⟨cl, C_a1, C_a2, C_a3, C_a4⟩, nT := C_nT, nB := C_nB, sf := C_sf, oi_Add := ⟨oi_radd, ⟨_, oi_t1add⟩, ⟨_, oi_t2add⟩, oi_sub⟩, oi_Sub := ⟨oi_rsub, ⟨_, oi_t1sub⟩, ⟨_, oi_t2sub⟩, oi_sub⟩, oi_Mult := ⟨oi_rmul, ⟨_, oi_t1mul⟩, ⟨_, oi_t2mul⟩, oi_sub⟩,
      nf := fun a => by cases a <;> assumption
      nd := nd, n_any := PySem.W.mg_none_of X G n_any, n_list := PySem.W.mg_none_of X G n_list, n_range := PySem.W.mg_none_of X G n_range, n_abs := PySem.W.mg_none_of X G n_abs, n_tuple := PySem.W.mg_none_of X G n_tuple, n_repr := PySem.W.mg_none_of X G n_repr, g_MOST_DIGITS := ⟨_, PySem.W.mg_of X G a_MD, rMD⟩, g_DIGITS := ⟨_, PySem.W.mg_of X G a_DG, rDG⟩, out_OutOf := out }
  have R : Er K mg Co (fun i => [e0, e1, e2, e3, e4, e5, e6, Co, e8, e9, e10, e11, e12].getD i 0) :=
    { g0 := PySem.W.mg_of X G ga_0, is0 := is_0, g1 := PySem.W.mg_of X G ga_1, is1 := is_1, g2 := PySem.W.mg_of X G ga_2, is2 := is_2, g3 := PySem.W.mg_of X G ga_3, is3 := is_3, g4 := PySem.W.mg_of X G ga_4, is4 := is_4, g5 := PySem.W.mg_of X G ga_5, is5 := is_5, g6 := PySem.W.mg_of X G ga_6, is6 := is_6, g7 := PySem.W.mg_of X G ga_7, is7 := is_7, g8 := PySem.W.mg_of X G ga_8, is8 := is_8, g9 := PySem.W.mg_of X G ga_9, is9 := is_9, g10 := PySem.W.mg_of X G ga_10, is10 := is_10, g11 := PySem.W.mg_of X G ga_11, is11 := is_11, g12 := PySem.W.mg_of X G ga_12, is12 := is_12, n_KeyError := PySem.W.mg_none_of X G n_KeyError, is_KeyError := isb_KeyError, n_IndexError := PySem.W.mg_none_of X G n_IndexError, is_IndexError := isb_IndexError, n_ValueError := PySem.W.mg_none_of X G n_ValueError, is_ValueError := isb_ValueError, n_LookupError := PySem.W.mg_none_of X G n_LookupError, is_LookupError := isb_LookupError, n_RuntimeError := PySem.W.mg_none_of X G n_RuntimeError, is_RuntimeError := isb_RuntimeError,
      exc := ⟨x_ga, x_gg, x_sub, x_hd, x_a1, C_a2, C_a3, x_a4⟩, xf := ⟨x_ga, x_gg, x_sub, x_hd⟩, noW := x_noW,
      exm := exm3 (exm_of xb_12 xi_12 xt_12 xs_12) (exm_of xb_10 xi_10 xt_10 xs_10) (exm_of xb_11 xi_11 xt_11 xs_11) }
  have F_integral := fun_mk (st := s_integral) l_integral c_integral k_integral
  have b_integral := F_integral.binds (ps := ["value"]) fun _ _ _ _ _ _ us hl => match us, hl with | [_], _ => rfl
  have g_integral := PySem.W.mg_of X G a_integral
  have F_is_digits := fun_mk (st := s_is_digits) l_is_digits c_is_digits k_is_digits
  have b_is_digits := F_is_digits.binds (ps := ["word"]) fun _ _ _ _ _ _ us hl => match us, hl with | [_], _ => rfl
  have g_is_digits := PySem.W.mg_of X G a_is_digits
  have F_integer_of := fun_mk (st := s_integer_of) l_integer_of c_integer_of k_integer_of
  have b_integer_of := F_integer_of.binds (ps := ["word"]) fun _ _ _ _ _ _ us hl => match us, hl with | [_], _ => rfl
  have g_integer_of := PySem.W.mg_of X G a_integer_of
  have F_fraction_of := fun_mk (st := s_fraction_of) l_fraction_of c_fraction_of k_fraction_of
  have b_fraction_of := F_fraction_of.binds (ps := ["word"]) fun _ _ _ _ _ _ us hl => match us, hl with | [_], _ => rfl
  have g_fraction_of := PySem.W.mg_of X G a_fraction_of
  have F_parts_of := fun_mk (st := s_parts_of) l_parts_of c_parts_of k_parts_of
  have b_parts_of := F_parts_of.binds (ps := ["value"]) fun _ _ _ _ _ _ us hl => match us, hl with | [_], _ => rfl
  have g_parts_of := PySem.W.mg_of X G a_parts_of
  have F_law_open := fun_mk (st := s__law_open) l_law_open c_law_open k_law_open
  have b_law_open := F_law_open.binds (ps := ["script"]) fun _ _ _ _ _ _ us hl => match us, hl with | [_], _ => rfl
  have g_law_open := PySem.W.mg_of X G a_law_open
  have F_law_pick := fun_mk (st := s__law_pick) l_law_pick c_law_pick k_law_pick
  have b_law_pick := F_law_pick.binds (ps := ["bag", "limit"]) fun _ _ _ _ _ _ us hl => match us, hl with | [_, _], _ => rfl
  have g_law_pick := PySem.W.mg_of X G a_law_pick
  have F_law_of := fun_mk (st := s__law_of) l_law_of c_law_of k_law_of
  have b_law_of := F_law_of.binds (ps := ["bag", "things"]) fun _ _ _ _ _ _ us hl => match us, hl with | [_, _], _ => rfl
  have g_law_of := PySem.W.mg_of X G a_law_of
  have F_law_shuffled := fun_mk (st := s__law_shuffled) l_law_shuffled c_law_shuffled k_law_shuffled
  have b_law_shuffled := F_law_shuffled.binds (ps := ["bag", "things"]) fun _ _ _ _ _ _ us hl => match us, hl with | [_, _], _ => rfl
  have g_law_shuffled := PySem.W.mg_of X G a_law_shuffled
  have F_law_is_ratio := fun_mk (st := s__law_is_ratio) l_law_is_ratio c_law_is_ratio k_law_is_ratio
  have b_law_is_ratio := F_law_is_ratio.binds (ps := ["told", "due"]) fun _ _ _ _ _ _ us hl => match us, hl with | [_, _], _ => rfl
  have g_law_is_ratio := PySem.W.mg_of X G a_law_is_ratio
  have F_law_same := fun_mk (st := s__law_same) l_law_same c_law_same k_law_same
  have b_law_same := F_law_same.binds (ps := ["told", "due"]) fun _ _ _ _ _ _ us hl => match us, hl with | [_, _], _ => rfl
  have g_law_same := PySem.W.mg_of X G a_law_same
  have F_law_error := fun_mk (st := s__law_error) l_law_error c_law_error k_law_error
  have b_law_error := F_law_error.binds (ps := ["e"]) fun _ _ _ _ _ _ us hl => match us, hl with | [_], _ => rfl
  have g_law_error := PySem.W.mg_of X G a_law_error
  have F_law_try := fun_mk (st := s__law_try) l_law_try c_law_try k_law_try
  have b_law_try := F_law_try.binds (ps := ["deed"]) fun _ _ _ _ _ _ us hl => match us, hl with | [_], _ => rfl
  have g_law_try := PySem.W.mg_of X G a_law_try
  have F_law_fails := fun_mk (st := s__law_fails) l_law_fails c_law_fails k_law_fails
  have b_law_fails := F_law_fails.binds (ps := ["deed", "due"]) fun _ _ _ _ _ _ us hl => match us, hl with | [_, _], _ => rfl
  have g_law_fails := PySem.W.mg_of X G a_law_fails
  have F_law_gcd := fun_mk (st := s__law_gcd) l_law_gcd c_law_gcd k_law_gcd
  have b_law_gcd := F_law_gcd.binds (ps := ["a", "b"]) fun _ _ _ _ _ _ us hl => match us, hl with | [_, _], _ => rfl
  have g_law_gcd := PySem.W.mg_of X G a_law_gcd
  have F_law_low := fun_mk (st := s__law_low) l_law_low c_law_low k_law_low
  have b_law_low := F_law_low.binds (ps := ["top", "bottom"]) fun _ _ _ _ _ _ us hl => match us, hl with | [_, _], _ => rfl
  have g_law_low := PySem.W.mg_of X G a_law_low
  have F_law_plus := fun_mk (st := s__law_plus) l_law_plus c_law_plus k_law_plus
  have b_law_plus := F_law_plus.binds (ps := ["p", "q"]) fun _ _ _ _ _ _ us hl => match us, hl with | [_, _], _ => rfl
  have g_law_plus := PySem.W.mg_of X G a_law_plus
  have F_law_times := fun_mk (st := s__law_times) l_law_times c_law_times k_law_times
  have b_law_times := F_law_times.binds (ps := ["p", "q"]) fun _ _ _ _ _ _ us hl => match us, hl with | [_, _], _ => rfl
  have g_law_times := PySem.W.mg_of X G a_law_times
  have F_law_number := fun_mk (st := s__law_number) l_law_number c_law_number k_law_number
  have b_law_number := F_law_number.binds (ps := ["p"]) fun _ _ _ _ _ _ us hl => match us, hl with | [_], _ => rfl
  have g_law_number := PySem.W.mg_of X G a_law_number
  have F_law_fraction := fun_mk (st := s__law_fraction) l_law_fraction c_law_fraction k_law_fraction
  have b_law_fraction := F_law_fraction.binds (ps := ["bag"]) fun _ _ _ _ _ _ us hl => match us, hl with | [_], _ => rfl
  have g_law_fraction := PySem.W.mg_of X G a_law_fraction
  have F_law_right := fun_mk (st := s__law_right) l_law_right c_law_right k_law_right
  have b_law_right := F_law_right.binds (ps := ["x", "p"]) fun _ _ _ _ _ _ us hl => match us, hl with | [_, _], _ => rfl
  have g_law_right := PySem.W.mg_of X G a_law_right
  have F_law_roads := fun_mk (st := s__law_roads) l_law_roads c_law_roads k_law_roads
  have b_law_roads := F_law_roads.binds (ps := ["bag", "p", "q"]) fun _ _ _ _ _ _ us hl => match us, hl with | [_, _, _], _ => rfl
  have g_law_roads := PySem.W.mg_of X G a_law_roads
  have F_law_order_right := fun_mk (st := s__law_order_right) l_law_order_right c_law_order_right k_law_order_right
  have b_law_order_right := F_law_order_right.binds (ps := ["x", "y", "p", "q"]) fun _ _ _ _ _ _ us hl => match us, hl with | [_, _, _, _], _ => rfl
  have g_law_order_right := PySem.W.mg_of X G a_law_order_right
  have F_law_reckoned_right : FunL K "_law_reckoned_right" "_law_reckoned_right" s__law_reckoned_right f_law_reckoned_right _ c1 := ⟨⟨_, _, _, _, _, _, _, _, rfl, l_law_reckoned_right, c_law_reckoned_right⟩, k_law_reckoned_right⟩
  have b_law_reckoned_right := F_law_reckoned_right.fun.binds (ps := ["xs", "fractions"]) fun _ _ _ _ _ _ us hl => match us, hl with | [_, _], _ => rfl
  have g_law_reckoned_right := PySem.W.mg_of X G a_law_reckoned_right
  have F_law_refused : FunL K "_law_refused" "_law_refused" s__law_refused f_law_refused _ c2 := ⟨⟨_, _, _, _, _, _, _, _, rfl, l_law_refused, c_law_refused⟩, k_law_refused⟩
  have b_law_refused := F_law_refused.fun.binds (ps := ["bag", "x", "p"]) fun _ _ _ _ _ _ us hl => match us, hl with | [_, _, _], _ => rfl
  have g_law_refused := PySem.W.mg_of X G a_law_refused
  have F_law_great_right := fun_mk (st := s__law_great_right) l_law_great_right c_law_great_right k_law_great_right
  have b_law_great_right := F_law_great_right.binds (ps := ["bag"]) fun _ _ _ _ _ _ us hl => match us, hl with | [_], _ => rfl
  have g_law_great_right := PySem.W.mg_of X G a_law_great_right
  have F_law := fun_mk (st := s_law) l_law c_law k_law
  have b_law := F_law.binds (ps := ["script"]) fun _ _ _ _ _ _ us hl => match us, hl with | [_], _ => rfl
  have g_law := PySem.W.mg_of X G a_law
  have F_text := fun_mk (st := s_Ratio_text) l_text c_text k_text
  have b_text := F_text.binds (ps := ["self"]) fun _ _ _ _ _ _ us hl => match us, hl with | [_], _ => rfl
  have F_read := fun_mk (st := s_Ratio_read) l_read c_read k_read
  have b_read := F_read.binds (ps := ["text"]) fun _ _ _ _ _ _ us hl => match us, hl with | [_], _ => rfl
  have F_over := fun_mk (st := s_Ratio_over) l_over c_over k_over
  have b_over := F_over.binds (ps := ["self", "other"]) fun _ _ _ _ _ _ us hl => match us, hl with | [_, _], _ => rfl
  have F_below := fun_mk (st := s_Ratio_below) l_below c_below k_below
  have b_below := F_below.binds (ps := ["self", "other"]) fun _ _ _ _ _ _ us hl => match us, hl with | [_, _], _ => rfl
  have F_add := fun_mk (st := s_Ratio___add__) l_add c_add k_add
  have b_add := F_add.binds (ps := ["self", "other"]) fun _ _ _ _ _ _ us hl => match us, hl with | [_, _], _ => rfl
  have F_sub := fun_mk (st := s_Ratio___sub__) l_sub c_sub k_sub
  have b_sub := F_sub.binds (ps := ["self", "other"]) fun _ _ _ _ _ _ us hl => match us, hl with | [_, _], _ => rfl
  have F_mul := fun_mk (st := s_Ratio___mul__) l_mul c_mul k_mul
  have b_mul := F_mul.binds (ps := ["self", "other"]) fun _ _ _ _ _ _ us hl => match us, hl with | [_, _], _ => rfl
  have F_neg := fun_mk (st := s_Ratio___neg__) l_neg c_neg k_neg
  have b_neg := F_neg.binds (ps := ["self"]) fun _ _ _ _ _ _ us hl => match us, hl with | [_], _ => rfl
  have F_eq := fun_mk (st := s_Ratio___eq__) l_eq c_eq k_eq
  have b_eq := F_eq.binds (ps := ["self", "other"]) fun _ _ _ _ _ _ us hl => match us, hl with | [_, _], _ => rfl
  have F_bool := fun_mk (st := s_Ratio___bool__) l_bool c_bool k_bool
  have b_bool := F_bool.binds (ps := ["self"]) fun _ _ _ _ _ _ us hl => match us, hl with | [_], _ => rfl
  have F_repr := fun_mk (st := s_Ratio___repr__) l_repr c_repr k_repr
  have b_repr := F_repr.binds (ps := ["self"]) fun _ _ _ _ _ _ us hl => match us, hl with | [_], _ => rfl
  have F_init : FunD K "__init__" "Ratio.__init__" (defArgs s_Ratio___init__) (defBody s_Ratio___init__) (defScope s_Ratio___init__) [.int 1] [] f_init _ := ⟨⟨_, _, _, _, _, _, _, _, _, _, rfl, l_init, c_init, .inr ⟨by simp, T0, _, itT.toList, nT, rfl, lT, by simp, hT⟩, .inl rfl⟩, k_init⟩
  obtain ⟨ds2, v2, b2⟩ := F_init.binds1 (ps := ["self", "top", "bottom"]) 3 1 (by simp) rfl fun _ _ _ _ _ _ _ us its hl hi => match us, its, hl, hi with | [_, _, _], [_], _, _ => ⟨_, rfl, rfl⟩
  obtain ⟨ds1, v1, b1⟩ := F_init.binds1 (ps := ["self", "top", "bottom"]) 2 0 (by simp) rfl fun _ _ _ _ _ _ _ us its hl hi => match us, its, hl, hi with | [_, _], [_], _, _ => ⟨_, rfl, rfl⟩
  have e := hfa.symm.trans g_law
  cases e
  refine ⟨PySem.W.fnOf "law" "law" (defArgs s_law) (defBody s_law) (defScope s_law) .none kV_law dc_law pm_law an_law cd_law ct_law, [(c1, P1), (c2, P2)], spLaw K P1 P2, fun p hp => ?_, fun p hp => ?_, fun p hp => ?_, fun s u => ?_, fun H a ns _ _ hH hS => ⟨a, ns, rfl, hS, hH (c1, P1) List.mem_cons_self, hH (c2, P2) (List.mem_cons_of_mem _ List.mem_cons_self), fun _ => rfl⟩, fun base KB GB TB => ?_⟩
  · rcases List.mem_cons.mp hp with rfl | hp
    · exact tb1
    · rw [List.mem_singleton.mp hp]
      exact tb2
  · rcases List.mem_cons.mp hp with rfl | hp
    · exact t_n1
    · rw [List.mem_singleton.mp hp]
      exact t_n2
  · rcases List.mem_cons.mp hp with rfl | hp
    · exact PySem.W.codeHd_of_K X t_1
    · rw [List.mem_singleton.mp hp]
      exact PySem.W.codeHd_of_K X t_2
  · exact .of_eq rfl
  have TB1 : TabB base mg c1 P1 := TB (c1, P1) List.mem_cons_self
  have TB2 : TabB base mg c2 P2 := TB (c2, P2) (List.mem_cons_of_mem _ List.mem_cons_self)
  have d_integral := df_of (P := l.prog) (w := w) (base := base) F_integral g_integral b_integral (ok_integral F_integral T)
  have d_parts_of := df_of (P := l.prog) (w := w) (base := base) F_parts_of g_parts_of b_parts_of (ok_parts F_parts_of T d_integral)
  have Ri := ok_init (P := l.prog) (w := w) (base := base) F_init T d_integral
  have mk : Mk K C f_init := ⟨C_mk, m_init, fn_init, C_kp⟩
  have d_R2 : DfC l.prog w K mg base (L2.CX l.prog w) 4 "Ratio" C [] (SpI C (fsInit K C Co)) := ⟨⟨_, _, _, ds2, mk, Ri, PySem.W.mg_of X G a_Ratio, b2, v2⟩⟩
  have d_R1 : DfC l.prog w K mg base (L2.CX l.prog w) 4 "Ratio" C [.int 1] (SpI C (fsInit K C Co)) := ⟨⟨_, _, _, ds1, mk, Ri, PySem.W.mg_of X G a_Ratio, b1, v1⟩⟩
  have d_is_digits := df_of (P := l.prog) (w := w) (base := base) F_is_digits g_is_digits b_is_digits (ok_digits F_is_digits T)
  have d_integer_of := df_of (P := l.prog) (w := w) (base := base) F_integer_of g_integer_of b_integer_of (ok_intof F_integer_of T d_is_digits)
  have d_fraction_of := df_of (P := l.prog) (w := w) (base := base) F_fraction_of g_fraction_of b_fraction_of (ok_frac F_fraction_of T d_integer_of)
  have d_text : DfP l.prog w K mg base CX0 1 C "text" (SpS (fsText C)) := ⟨⟨_, _, _, _, cl, ⟨m_text, pg_text, pt_text, _, pr_text⟩, ok_text F_text T, b_text⟩⟩
  have d_repr := dfO_of (P := l.prog) (w := w) (mg := mg) (base := base) (show Own K C f_repr "__repr__" from ⟨m_repr, fn_repr⟩) (ok_repr F_repr T d_text) b_repr
  have d_add := dfO_of (P := l.prog) (w := w) (mg := mg) (base := base) (show Own K C f_add "__add__" from ⟨m_add, fn_add⟩) (ok_add F_add T d_parts_of d_R2) b_add
  have d_sub := dfO_of (P := l.prog) (w := w) (mg := mg) (base := base) (show Own K C f_sub "__sub__" from ⟨m_sub, fn_sub⟩) (ok_sub F_sub T d_parts_of d_R2) b_sub
  have d_mul := dfO_of (P := l.prog) (w := w) (mg := mg) (base := base) (show Own K C f_mul "__mul__" from ⟨m_mul, fn_mul⟩) (ok_mul F_mul T d_parts_of d_R2) b_mul
  have d_neg := dfO_of (P := l.prog) (w := w) (mg := mg) (base := base) (show Own K C f_neg "__neg__" from ⟨m_neg, fn_neg⟩) (ok_neg F_neg T d_R2) b_neg
  have d_eq := dfO_of (P := l.prog) (w := w) (mg := mg) (base := base) (show Own K C f_eq "__eq__" from ⟨m_eq, fn_eq⟩) (ok_eq F_eq T) b_eq
  have d_bool := dfO_of (P := l.prog) (w := w) (mg := mg) (base := base) (show Own K C f_bool "__bool__" from ⟨m_bool, fn_bool⟩) (ok_bool F_bool T) b_bool
  have d_over := dfM_of (P := l.prog) (w := w) (mg := mg) (base := base) cl (show Meth K C "over" f_over from ⟨m_over, fn_over, k_over⟩) (ok_over F_over T d_parts_of d_R2) b_over
  have d_below := dfM_of (P := l.prog) (w := w) (mg := mg) (base := base) cl (show Meth K C "below" f_below from ⟨m_below, fn_below, k_below⟩) (ok_below F_below T d_parts_of) b_below
  have d_read : DfS l.prog w K mg base (L2.CX l.prog w) 6 C "read" (SpS (fsRead K C Co)) := ⟨⟨_, _, _, _, _, ⟨rd_read, rg_read, ra_read, ⟨_, rr_read⟩, k_read⟩, ok_read F_read T d_fraction_of d_R2, b_read⟩⟩
  have d_law_pick := df_of (P := l.prog) (w := w) (base := base) F_law_pick g_law_pick b_law_pick (ok_pick F_law_pick T)
  have d_law_of := df_of (P := l.prog) (w := w) (base := base) F_law_of g_law_of b_law_of (ok_of F_law_of T d_law_pick)
  have d_law_shuffled := df_of (P := l.prog) (w := w) (base := base) F_law_shuffled g_law_shuffled b_law_shuffled (ok_shuf F_law_shuffled T d_law_pick)
  have d_law_is_ratio := df_of (P := l.prog) (w := w) (base := base) F_law_is_ratio g_law_is_ratio b_law_is_ratio (ok_isR F_law_is_ratio T)
  have d_law_gcd := df_of (P := l.prog) (w := w) (base := base) F_law_gcd g_law_gcd b_law_gcd (ok_gcd F_law_gcd T)
  have d_law_low := df_of (P := l.prog) (w := w) (base := base) F_law_low g_law_low b_law_low (ok_low F_law_low T d_law_gcd)
  have d_law_plus := df_of (P := l.prog) (w := w) (base := base) F_law_plus g_law_plus b_law_plus (ok_plus F_law_plus T d_law_low)
  have d_law_times := df_of (P := l.prog) (w := w) (base := base) F_law_times g_law_times b_law_times (ok_times F_law_times T d_law_low)
  have d_law_number := df_of (P := l.prog) (w := w) (base := base) F_law_number g_law_number b_law_number (ok_number F_law_number T)
  have d_s : Df l.prog w K mg base CX0 1 "_law_same" [] (SpS fsNo) := df_of F_law_same g_law_same b_law_same ⟨fun _ _ _ _ h => by obtain ⟨_, _, _, h, _⟩ := h; exact h.elim, fun _ _ _ _ _ _ _ _ _ _ _ _ _ h => by obtain ⟨_, _, _, h, _⟩ := h; exact h.elim⟩
  have o_s0 := ok_same0 (P := l.prog) (w := w) (base := base) F_law_same T d_law_is_ratio d_s
  have d_s0 := df_of F_law_same g_law_same b_law_same o_s0
  have o_s1 := ok_same1 (P := l.prog) (w := w) (base := base) F_law_same T d_law_is_ratio d_s0
  have d_s1 := df_of F_law_same g_law_same b_law_same o_s1
  have d_sU := df_of F_law_same g_law_same b_law_same (fnok_or (o_s0.mono (by decide : 2 ≤ 3)) o_s1)
  have d_law_fraction := df_of (P := l.prog) (w := w) (base := base) F_law_fraction g_law_fraction b_law_fraction (ok_fraction F_law_fraction T d_law_pick d_law_of d_law_low)
  have d_law_right := df_of (P := l.prog) (w := w) (base := base) F_law_right g_law_right b_law_right (ok_right F_law_right T d_law_is_ratio d_s0 d_law_number d_text d_repr d_bool)
  have d_law_order_right := df_of (P := l.prog) (w := w) (base := base) F_law_order_right g_law_order_right b_law_order_right (ok_order F_law_order_right T d_s0 d_below d_eq)
  have d_law_roads := df_of (P := l.prog) (w := w) (base := base) F_law_roads g_law_roads b_law_roads (ok_roads F_law_roads T d_law_of d_law_plus d_law_times d_law_low d_law_number d_law_shuffled d_R2 d_R1 d_read d_over d_add d_sub d_mul d_neg)
  have d_law_great_right := df_of (P := l.prog) (w := w) (base := base) F_law_great_right g_law_great_right b_law_great_right (ok_great F_law_great_right T d_law_pick d_law_of d_law_plus d_law_times d_law_low d_law_right d_R2 d_read d_over d_add d_mul)
  have d_law_open := df_of (P := l.prog) (w := w) (base := base) F_law_open g_law_open b_law_open (ok_open F_law_open T)
  have L : Fl l.prog w K mg base C Co fo := ⟨T, ⟨_, _, _, _, _, _, _, R, F_law_try, b_law_try, F_law_error, b_law_error, g_law_error, g_law_try, F_law_fails, b_law_fails, g_law_fails⟩, d_s1⟩
  have d_reck := df_of (P := l.prog) (w := w) (base := base) F_law_reckoned_right.fun g_law_reckoned_right b_law_reckoned_right (ok_reck F_law_reckoned_right L TB1 hP T d_law_plus d_law_times d_law_low d_law_right d_add d_sub d_mul d_neg d_over)
  have d_ref := df_of (P := l.prog) (w := w) (base := base) F_law_refused.fun g_law_refused b_law_refused (ok_ref (P1 := P1) F_law_refused L TB2 hP T d_law_of d_law_number d_s0 d_R2 d_R1 d_read d_over d_sub d_eq)
  exact ok_law F_law T d_law_open d_law_fraction d_law_pick d_law_roads d_law_right d_sU d_law_of d_law_order_right d_reck d_ref d_law_great_right d_R2 d_eq
end KP

/-! HdA -/
set_option Elab.async false
open PySem PySem.W PyProof.Rows
set_option Elab.async false
set_option maxRecDepth 100000
set_option maxHeartbeats 0
open_top hd for PySem.Challenge.rw_glintkinds_k12_ratios_by_every_road

/-! EndT -/
set_option Elab.async false
open PySem PySem.W PyProof.Rows
set_option Elab.async false
set_option linter.all false
set_option maxRecDepth 100000
set_option maxHeartbeats 0
theorem PySem.Challenge.cw_glintkinds_k12_ratios_by_every_road_holds : PySem.Challenge.rw_glintkinds_k12_ratios_by_every_road.Holds := by
  refine hd ?_
  k_fill
  refine LamX.walk_ofTs (n := 63) (k := 22) (x := "script") (CX := fun _ => L2.CX0) rfl (by decide) rfl ⟨rfl, by decide, by decide⟩ (fun w h Y => PySem.W.km_in_of Y) ?F (fun _ _ _ _ _ z => z)
  case F =>
    intro w mg fa h Y KX G hmg
    have tabs := PySem.W.km_tabs_of Y
    refine' KP.all_k12 KX G hmg (P1 := 569) (P2 := 576) (by decide) (tabs _ (by decide)) (tabs _ (by decide)) ?hT ?rMD ?rDG ?x_ref ?x_f ?x_file ?x_top ?x_form ?a_Ratio ?a_integral ?l_integral ?c_integral ?k_integral ?a_is_digits ?l_is_digits ?c_is_digits ?k_is_digits ?a_integer_of ?l_integer_of ?c_integer_of ?k_integer_of ?a_fraction_of ?l_fraction_of ?c_fraction_of ?k_fraction_of ?a_parts_of ?l_parts_of ?c_parts_of ?k_parts_of ?a_law_open ?l_law_open ?c_law_open ?k_law_open ?a_law_pick ?l_law_pick ?c_law_pick ?k_law_pick ?a_law_of ?l_law_of ?c_law_of ?k_law_of ?a_law_shuffled ?l_law_shuffled ?c_law_shuffled ?k_law_shuffled ?a_law_is_ratio ?l_law_is_ratio ?c_law_is_ratio ?k_law_is_ratio ?a_law_same ?l_law_same ?c_law_same ?k_law_same ?a_law_error ?l_law_error ?c_law_error ?k_law_error ?a_law_try ?l_law_try ?c_law_try ?k_law_try ?a_law_fails ?l_law_fails ?c_law_fails ?k_law_fails ?a_law_gcd ?l_law_gcd ?c_law_gcd ?k_law_gcd ?a_law_low ?l_law_low ?c_law_low ?k_law_low ?a_law_plus ?l_law_plus ?c_law_plus ?k_law_plus ?a_law_times ?l_law_times ?c_law_times ?k_law_times ?a_law_number ?l_law_number ?c_law_number ?k_law_number ?a_law_fraction ?l_law_fraction ?c_law_fraction ?k_law_fraction ?a_law_right ?l_law_right ?c_law_right ?k_law_right ?a_law_roads ?l_law_roads ?c_law_roads ?k_law_roads ?a_law_order_right ?l_law_order_right ?c_law_order_right ?k_law_order_right ?a_law_reckoned_right ?l_law_reckoned_right ?c_law_reckoned_right ?k_law_reckoned_right ?a_law_refused ?l_law_refused ?c_law_refused ?k_law_refused ?a_law_great_right ?l_law_great_right ?c_law_great_right ?k_law_great_right ?a_law ?l_law ?c_law ?k_law ?l_text ?c_text ?k_text ?m_text ?pg_text ?pt_text ?pr_text ?l_read ?c_read ?k_read ?rd_read ?rg_read ?ra_read ?rr_read ?l_over ?c_over ?k_over ?m_over ?fn_over ?l_below ?c_below ?k_below ?m_below ?fn_below ?l_add ?c_add ?k_add ?m_add ?fn_add ?l_sub ?c_sub ?k_sub ?m_sub ?fn_sub ?l_mul ?c_mul ?k_mul ?m_mul ?fn_mul ?l_neg ?c_neg ?k_neg ?m_neg ?fn_neg ?l_eq ?c_eq ?k_eq ?m_eq ?fn_eq ?l_bool ?c_bool ?k_bool ?m_bool ?fn_bool ?l_repr ?c_repr ?k_repr ?m_repr ?fn_repr ?l_init ?c_init ?k_init ?lT ?m_init ?fn_init ?C_pg ?C_hd ?C_po ?C_sa ?C_a1 ?C_a2 ?C_a3 ?C_a4 ?C_nT ?C_nB ?C_mk ?C_kp ?C_sf ?oi_radd ?oi_t1add ?oi_t2add ?oi_rsub ?oi_t1sub ?oi_t2sub ?oi_rmul ?oi_t1mul ?oi_t2mul ?oi_sub ?nf_non ?nf_bl ?nf_int ?nf_str ?nf_lst ?nf_tup ?nf_dct ?nf_rat ?ia_non ?ia_bl ?ib_bl ?ia_int ?ib_int ?ia_str ?ib_str ?ia_lst ?ib_lst ?ia_tup ?ib_tup ?ia_dct ?ib_dct ?ic ?nd ?n_isinstance ?n_int ?n_bool ?n_str ?n_len ?n_all ?n_any ?n_list ?n_range ?n_abs ?n_tuple ?n_repr ?n_super ?n_KeyError ?n_IndexError ?n_ValueError ?n_LookupError ?n_RuntimeError ?a_gcd ?a_MD ?a_DG ?ga_0 ?ga_1 ?ga_2 ?ga_3 ?ga_4 ?ga_5 ?ga_6 ?ga_7 ?ga_8 ?ga_9 ?ga_10 ?ga_11 ?ga_12 ?is_0 ?is_1 ?is_2 ?is_3 ?is_4 ?is_5 ?is_6 ?is_7 ?is_8 ?is_9 ?is_10 ?is_11 ?is_12 ?isb_KeyError ?isb_IndexError ?isb_ValueError ?isb_LookupError ?isb_RuntimeError ?xb_12 ?xi_12 ?xt_12 ?xs_12 ?xb_10 ?xi_10 ?xt_10 ?xs_10 ?xb_11 ?xi_11 ?xt_11 ?xs_11 ?x_ga ?x_gg ?x_sub ?x_hd ?x_a1 ?x_a4 ?x_noW ?x_cls ?x_sa ?x_iC ?x_tC ?x_kC ?x_tyC ?x_mro ?x_up ?x_ve ?x_opq ?x_l ?x_c ?x_lc ?x_lcc ?t_1 ?t_2 ?t_n1 ?t_n2
    (case a_Ratio => k_is)
    (case m_text => k_is)
    (case pg_text => k_is)
    (case pt_text => k_is)
    (case pr_text => k_is)
    (case rd_read => k_is)
    (case rg_read => k_is)
    (case ra_read => k_is)
    (case rr_read => k_is)
    (case m_over => k_is)
    (case m_below => k_is)
    (case m_add => k_is)
    (case m_sub => k_is)
    (case m_mul => k_is)
    (case m_neg => k_is)
    (case m_eq => k_is)
    (case m_bool => k_is)
    (case m_repr => k_is)
    (case m_init => k_is)
    (case a_integral => k_is)
    (case l_integral => k_is)
    (case c_integral => k_is)
    (case k_integral => k_is)
    (case a_is_digits => k_is)
    (case l_is_digits => k_is)
    (case c_is_digits => k_is)
    (case k_is_digits => k_is)
    (case a_integer_of => k_is)
    (case l_integer_of => k_is)
    (case c_integer_of => k_is)
    (case k_integer_of => k_is)
    (case a_fraction_of => k_is)
    (case l_fraction_of => k_is)
    (case c_fraction_of => k_is)
    (case k_fraction_of => k_is)
    (case a_parts_of => k_is)
    (case l_parts_of => k_is)
    (case c_parts_of => k_is)
    (case k_parts_of => k_is)
    (case a_law_open => k_is)
    (case l_law_open => k_is)
    (case c_law_open => k_is)
    (case k_law_open => k_is)
    (case a_law_pick => k_is)
    (case l_law_pick => k_is)
    (case c_law_pick => k_is)
    (case k_law_pick => k_is)
    (case a_law_of => k_is)
    (case l_law_of => k_is)
    (case c_law_of => k_is)
    (case k_law_of => k_is)
    (case a_law_shuffled => k_is)
    (case l_law_shuffled => k_is)
    (case c_law_shuffled => k_is)
    (case k_law_shuffled => k_is)
    (case a_law_is_ratio => k_is)
    (case l_law_is_ratio => k_is)
    (case c_law_is_ratio => k_is)
    (case k_law_is_ratio => k_is)
    (case a_law_same => k_is)
    (case l_law_same => k_is)
    (case c_law_same => k_is)
    (case k_law_same => k_is)
    (case a_law_error => k_is)
    (case l_law_error => k_is)
    (case c_law_error => k_is)
    (case k_law_error => k_is)
    (case a_law_try => k_is)
    (case l_law_try => k_is)
    (case c_law_try => k_is)
    (case k_law_try => k_is)
    (case a_law_fails => k_is)
    (case l_law_fails => k_is)
    (case c_law_fails => k_is)
    (case k_law_fails => k_is)
    (case a_law_gcd => k_is)
    (case l_law_gcd => k_is)
    (case c_law_gcd => k_is)
    (case k_law_gcd => k_is)
    (case a_law_low => k_is)
    (case l_law_low => k_is)
    (case c_law_low => k_is)
    (case k_law_low => k_is)
    (case a_law_plus => k_is)
    (case l_law_plus => k_is)
    (case c_law_plus => k_is)
    (case k_law_plus => k_is)
    (case a_law_times => k_is)
    (case l_law_times => k_is)
    (case c_law_times => k_is)
    (case k_law_times => k_is)
    (case a_law_number => k_is)
    (case l_law_number => k_is)
    (case c_law_number => k_is)
    (case k_law_number => k_is)
    (case a_law_fraction => k_is)
    (case l_law_fraction => k_is)
    (case c_law_fraction => k_is)
    (case k_law_fraction => k_is)
    (case a_law_right => k_is)
    (case l_law_right => k_is)
    (case c_law_right => k_is)
    (case k_law_right => k_is)
    (case a_law_roads => k_is)
    (case l_law_roads => k_is)
    (case c_law_roads => k_is)
    (case k_law_roads => k_is)
    (case a_law_order_right => k_is)
    (case l_law_order_right => k_is)
    (case c_law_order_right => k_is)
    (case k_law_order_right => k_is)
    (case a_law_reckoned_right => k_is)
    (case l_law_reckoned_right => k_is)
    (case c_law_reckoned_right => k_is)
    (case k_law_reckoned_right => k_is)
    (case a_law_refused => k_is)
    (case l_law_refused => k_is)
    (case c_law_refused => k_is)
    (case k_law_refused => k_is)
    (case a_law_great_right => k_is)
    (case l_law_great_right => k_is)
    (case c_law_great_right => k_is)
    (case k_law_great_right => k_is)
    (case a_law => k_is)
    (case l_law => k_is)
    (case c_law => k_is)
    (case k_law => k_is)
    (case l_text => k_is)
    (case c_text => k_is)
    (case k_text => k_is)
    (case l_read => k_is)
    (case c_read => k_is)
    (case k_read => k_is)
    (case l_over => k_is)
    (case c_over => k_is)
    (case k_over => k_is)
    (case fn_over => k_is)
    (case l_below => k_is)
    (case c_below => k_is)
    (case k_below => k_is)
    (case fn_below => k_is)
    (case l_add => k_is)
    (case c_add => k_is)
    (case k_add => k_is)
    (case fn_add => k_is)
    (case l_sub => k_is)
    (case c_sub => k_is)
    (case k_sub => k_is)
    (case fn_sub => k_is)
    (case l_mul => k_is)
    (case c_mul => k_is)
    (case k_mul => k_is)
    (case fn_mul => k_is)
    (case l_neg => k_is)
    (case c_neg => k_is)
    (case k_neg => k_is)
    (case fn_neg => k_is)
    (case l_eq => k_is)
    (case c_eq => k_is)
    (case k_eq => k_is)
    (case fn_eq => k_is)
    (case l_bool => k_is)
    (case c_bool => k_is)
    (case k_bool => k_is)
    (case fn_bool => k_is)
    (case l_repr => k_is)
    (case c_repr => k_is)
    (case k_repr => k_is)
    (case fn_repr => k_is)
    (case l_init => k_is)
    (case c_init => k_is)
    (case k_init => k_is)
    (case lT => k_is)
    (case fn_init => k_is)
    (case C_pg => k_is)
    (case C_hd => k_is)
    (case C_po => k_is)
    (case C_sa => k_is)
    (case C_a1 => k_is)
    (case C_a2 => k_is)
    (case C_a3 => k_is)
    (case C_a4 => k_is)
    (case C_nT => k_is)
    (case C_nB => k_is)
    (case C_mk => k_is)
    (case C_kp => k_is)
    (case C_sf => k_is)
    (case oi_radd => k_is)
    (case oi_t1add => k_is)
    (case oi_t2add => k_is)
    (case oi_rsub => k_is)
    (case oi_t1sub => k_is)
    (case oi_t2sub => k_is)
    (case oi_rmul => k_is)
    (case oi_t1mul => k_is)
    (case oi_t2mul => k_is)
    (case oi_sub => k_is)
    (case nf_non => k_is)
    (case nf_bl => k_is)
    (case nf_int => k_is)
    (case nf_str => k_is)
    (case nf_lst => k_is)
    (case nf_tup => k_is)
    (case nf_dct => k_is)
    (case nf_rat => k_is)
    (case ia_non => kit_is)
    (case ia_bl => kit_is)
    (case ib_bl => kit_is)
    (case ia_int => kit_is)
    (case ib_int => kit_is)
    (case ia_str => kit_is)
    (case ib_str => kit_is)
    (case ia_lst => kit_is)
    (case ib_lst => kit_is)
    (case ia_tup => kit_is)
    (case ib_tup => kit_is)
    (case ia_dct => kit_is)
    (case ib_dct => kit_is)
    (case ic => kit_is)
    (case nd => k_is)
    (case n_isinstance => k_is)
    (case n_int => k_is)
    (case n_bool => k_is)
    (case n_str => k_is)
    (case n_len => k_is)
    (case n_all => k_is)
    (case n_any => k_is)
    (case n_list => k_is)
    (case n_range => k_is)
    (case n_abs => k_is)
    (case n_tuple => k_is)
    (case n_repr => k_is)
    (case n_super => k_is)
    (case n_KeyError => k_is)
    (case n_IndexError => k_is)
    (case n_ValueError => k_is)
    (case n_LookupError => k_is)
    (case n_RuntimeError => k_is)
    (case a_gcd => k_is)
    (case a_MD => k_is)
    (case a_DG => k_is)
    (case ga_0 => k_is)
    (case ga_1 => k_is)
    (case ga_2 => k_is)
    (case ga_3 => k_is)
    (case ga_4 => k_is)
    (case ga_5 => k_is)
    (case ga_6 => k_is)
    (case ga_7 => k_is)
    (case ga_8 => k_is)
    (case ga_9 => k_is)
    (case ga_10 => k_is)
    (case ga_11 => k_is)
    (case ga_12 => k_is)
    (case is_0 => kit_is)
    (case is_1 => kit_is)
    (case is_2 => kit_is)
    (case is_3 => kit_is)
    (case is_4 => kit_is)
    (case is_5 => kit_is)
    (case is_6 => kit_is)
    (case is_7 => kit_is)
    (case is_8 => kit_is)
    (case is_9 => kit_is)
    (case is_10 => kit_is)
    (case is_11 => kit_is)
    (case is_12 => kit_is)
    (case isb_KeyError => kit_is)
    (case isb_IndexError => kit_is)
    (case isb_ValueError => kit_is)
    (case isb_LookupError => kit_is)
    (case isb_RuntimeError => kit_is)
    (case xb_12 => k_is)
    (case xi_12 => k_is)
    (case xt_12 => k_is)
    (case xs_12 => k_is)
    (case xb_10 => k_is)
    (case xi_10 => k_is)
    (case xt_10 => k_is)
    (case xs_10 => k_is)
    (case xb_11 => k_is)
    (case xi_11 => k_is)
    (case xt_11 => k_is)
    (case xs_11 => k_is)
    (case x_ga => k_is)
    (case x_gg => k_is)
    (case x_sub => k_is)
    (case x_hd => k_is)
    (case x_a1 => k_is)
    (case x_a4 => k_is)
    (case x_noW => k_is)
    (case x_cls => k_is)
    (case x_sa => k_is)
    (case x_iC => k_is)
    (case x_tC => k_is)
    (case x_kC => k_is)
    (case x_tyC => k_is)
    (case x_mro => k_is)
    (case x_up => ks_is)
    (case x_ve => k_is)
    (case x_opq => k_is)
    (case x_l => k_is)
    (case x_c => k_is)
    (case x_lc => k_is)
    (case x_lcc => k_is)
    (case t_1 => rfl)
    (case t_2 => rfl)
    (case t_n1 => rfl)
    (case t_n2 => rfl)
    (case hT => exact .cons ⟨_, rfl⟩ .nil)
    (case rMD => exact ⟨_, rfl⟩)
    (case rDG => exact ⟨_, rfl⟩)
    (case x_ref => decide +kernel)
    (case x_f => rfl)
    (case x_file => decide +kernel)
    (case x_top => decide +kernel)
    (case x_form => exact fun L => ⟨_, rfl⟩)
