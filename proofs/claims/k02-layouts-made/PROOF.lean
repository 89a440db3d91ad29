import PyProof.Rows.All
import Wide.All
import OpenK.AllK
import Wide.FinOn
import KE.KStateDown
import KE.KExcSuper
import Lean
import HandS.ForMost
import HandS.ForExc
import HandS.ExcField
import HandS.More
import HandS.Defaults
import HandS.IsInst
import HandS.Wide
import HandS.Evl
import HandS.StrMore
import HandS.HeadEnd
import HandS.CallSlots
import PyProof.ReprRoads
import HandS.Head0
import HandS.Head1
import HandS.Head2
import HandS.HeadHook1
import HandS.HeadHook2
import HandS.HeadNt
import HandS.ClsMeth
import HandS.Codes
import HandS.Walk
import PyProof.ReprLen
import HandS.ExcInit
import KE.KExcIs
import HandS.Strs
import KE.GoesEnum
import HandS.TupAny
import HandS.Flow
import HandS.Star
import HandS.TryMany
import HandS.MakeKwOnly
import HandS.Deep
import HandS.Style
import KE.KOpsOwn
import HandS.SlotsOwn
import HandS.Property
import HandS.OwnEq
import KE.KUnpackStar
import HandS.Conv
import HandS.HotCalls
import PySem.Challenge.RW_whichmatch_k02_layouts_made
set_option Elab.async false
set_option linter.all false
set_option maxRecDepth 100000
set_option maxHeartbeats 4000000
namespace PySem
namespace WErr
open PySem.W PySem.Calls PyProof.Rows PySem.HandSPX
/-! an own error of the package: its __init__ calls super().__init__(text) and keeps one field -/
structure PsE where
  (a1 a2 a3 a5 a6 a7 q1 q2 q3 q4 : Pos) (k : Nat) (txt : Str)
def eB (fl : Str) (p : PsE) : List Stmt :=
  [.Expr (.Call (.Attribute (.Call (.Name "super" p.a1) [] [] p.a2) "__init__" p.a3) [.Constant (.str p.txt) p.k p.a5] [] p.a6) p.a7,
   .Assign [.Attribute (.Name "self" p.q1) fl p.q2] (.Name fl p.q3) p.q4]
def eS (fl : Str) : Scope := { kind := .function, names := [("self", .local), (fl, .local), ("__class__", .free), ("super", .globalImplicit)], isGenerator := false, isCoroutine := false, more := [] }
/-- what the written part says of the class at C and of its __init__ at fI -/
structure ErrTxt (prog : Program) (K : Frag) (mg : Str → Option Value) (x fl : Str) (C fI : Addr) : Prop where
  gC : mg x = some (.ref C)
  cls : ∃ nm q N bs bm sn sub ab col dd k0 k1 k2 k3 k5, K.lookup C = some (excClassObj nm q C N bs bm true sn sub ab col dd k0 k1 k2 k3 k5 "ValueError.__new__") ∧ refsVE bm = true
  sa : findIn K (.ref C) "__setattr__" = some (some (.builtin "object.__setattr__"))
  xf : L2.XfC K C
  noF : findIn K (.ref C) fl = some none
  iC : findIn K (.ref C) "__init__" = some (some (.ref fI))
  tC : typeIn K (.ref fI) = some (.type "function")
  kC : keepIn K (.ref C) = true
  exC : subIn K (.ref C) (.type "BaseException") = some true
  tyC : typeIn K (.ref C) = some (.type "type")
  sup : ks_superIn K C C "__init__" = some (some (.builtin "ValueError.__init__"))
  ve : subIn K (.ref C) (.type "ValueError") = some true
  any : nsIn K cStatics "thirdparty.any" = some none
  own : mroIn K C (.ref C) = some true
  gS : mg "super" = none
  htop : (prog.main.scope.names.lookup ("super" : Str)).isSome = false
  fn : ∃ (oc : Value) (od : Option Addr) (qual : Str) (params : Arguments) (doc pm kV : Value) (an : Option Addr) (cda cc : Addr) (ct : Value) (osl : Array (Option Value)) (p : PsE) (ar : Arg),
    K.lookup fI = some ⟨oc, od, .func (ksFn "__init__" qual params (eB fl p) (eS fl) .none kV doc pm an (.ref cda) ct cc), osl⟩ ∧ codeIn K (.ref cda) qual = true ∧
    (params.posonlyargs ++ params.args).head? = some ar ∧ ar.arg = "self" ∧
    (∃ ccl cdd vs ccs file tf, K.lookup cda = some ⟨ccl, cdd, .fields vs, ccs⟩ ∧ vs[2]? = some (.str file tf) ∧ ((prog.main.file : Str) == file) = true) ∧
    (∃ cl cld csl, K.lookup cc = some ⟨cl, cld, .cell (some (.ref C)), csl⟩) ∧
    (eS fl).names.lookup ("super" : Str) = some .globalImplicit ∧ (eS fl).names.lookup ("__class__" : Str) = some .free ∧ (eS fl).names.lookup ("self" : Str) = some .local ∧ (eS fl).names.lookup fl = some .local ∧
    fl ≠ "self" ∧ (fl == ("__debug__" : Str)) = false ∧ (fl == ("__class__" : Str)) = false ∧
    (∀ L f : Addr, ∃ pl : Sem Bool, eval (.Call (.Attribute (.Call (.Name "super" p.a1) [] [] p.a2) "__init__" p.a3) [.Constant (.str p.txt) p.k p.a5] [] p.a6) (ksEnv qual (eS fl) L f (.ref cda) cc) = (do
      let ov ← attributeBase (.Call (.Name "super" p.a1) [] [] p.a2) "__init__" (ksEnv qual (eS fl) L f (.ref cda) cc) (eval (.Call (.Name "super" p.a1) [] [] p.a2) (ksEnv qual (eS fl) L f (.ref cda) cc))
      standAt p.a3.atName
      let (f1, first) ← holding [ov] (getMethod ov "__init__" pl)
      callWith p.a6 f1 first (backTo p.a6 (starEach [.Constant (.str p.txt) p.k p.a5] (ksEnv qual (eS fl) L f (.ref cda) cc))) [])) ∧
    (∀ (a b : Value), bindArgs (ksFn "__init__" qual params (eB fl p) (eS fl) .none kV doc pm an (.ref cda) ct cc) ⟨[a, b], []⟩ = pure [(("self" : Str), a), (fl, b)])
/-- what __init__ leaves of a fresh exception at x -/
structure InitEnd (h h' : Heap) (x C dx t1 : Addr) (fl : Str) (v : Value) : Prop where
  keep : ∀ b o, b ≠ x → h.get? b = some o → h'.get? b = some o
  obj : h'.get? x = some { cls := .ref C, dict := some dx, data := .fields #[.ref t1, .none, .none, .none, .bool false, .none] }
  dbig : h.objs.size ≤ dx
  dne : dx ≠ x
  ns : h'.Ns1 dx (fun y => if y = fl then some v else none)
theorem one_size (v : Value) : [v].length ≤ sizeLine := by
  rw [sizeLine_eq]
  exact (by decide : 1 ≤ 16777216)
section
variable {prog : Program} {w : World} {A : Around} {E : Value → Shared → Prop} {R : Result → Shared → Prop} {s : Shared} {K : Frag} {mg mb : Str → Option Value} {x0 fl : Str} {C fI : Addr}
theorem ldK {M : Model} {s : Shared} {env : Env} {m : Str → Option Value} {x : Str} {pos : Pos} {v : Value} {Q : Value → Shared → Prop} {A : Around} {E : Value → Shared → Prop} (hk : env.scope.kind = .function) (hl : env.kindOf x = some .local) (hn : s.heap.Ns env.locals m) (hv : m x = some v) (h : Q v s)
    (hd : (x == ("__debug__" : Str)) = false) : wpAny M A (eval (.Name x pos) env) Q E s := wpAny_Name (wpAny_loadName_local hk hl hn hv h) hd
theorem err_init (T : ErrTxt prog K mg x0 fl C fI) {x t0 : Addr} {v : Value} (X : K.In s.heap) (hlim : s.heap.NoLimit) (hg : s.heap.Ns mainGlobals mg) (hb : s.heap.Ns builtinsNs mb) (hbb : ∀ x : Str, x ≠ "__name__" → mb x = bootBuiltins x)
    (hx : s.heap.get? x = some (excO C t0)) (hnx : K.lookup x = none) (hroom : A.depth < recursionLimit)
    (hq : ∀ h' tk dx t1, InitEnd s.heap h' x C dx t1 fl v → R (.ok (.ret .none)) { s with heap := h', toks := tk }) :
    codeAny (model prog w) A (.call (.ref fI) ⟨[.ref x, v], []⟩) R s := by
  obtain ⟨oc, od, qual, params, doc, pm, kV, an, cda, cc, ct, osl, p, ar, ho, hcd, hp, har, ⟨ccl, cdd, vs, ccs, file, tf, hcode, hvs, hfile⟩, ⟨cl, cld, csl, hcell⟩, hks, hkc, hka, hkF, hFs, hFd, hFc, hev, hbind⟩ := T.fn
  obtain ⟨nm, q, N, bs, bm, sn, sub, ab, col, dd, k0, k1, k2, k3, k5, hC, hbm⟩ := T.cls
  have hcl : clsIn K C = some { name := nm, bases := bs, mro := .ref C :: bm, ns := N, qualname := q, hasDict := true, slotNames := sn, subclasses := sub, abstract := ab, collection := col, hasDel := false } := by unfold clsIn; rw [hC] <;> rfl
  refine ks_codeAny_call_defAt (fd := ksFn "__init__" qual params (eB fl p) (eS fl) .none kV doc pm an (.ref cda) ct cc) (body := eB fl p) (binds := [(("self" : Str), .ref x), (fl, v)]) hroom (X _ _ ho) rfl hlim (codeRec_of X hcd) rfl (BindsTo.of_eq (hbind _ _)) ?hnc ?_ (fun h₁ hns hk₁ => ?_) rfl rfl rfl
  case hnc =>
    intro y hy
    simp only [eS, List.mem_cons, List.not_mem_nil, or_false] at hy
    rcases hy with rfl | rfl | rfl | rfl <;> (intro z; cases z)
  · intro y hy
    rcases List.mem_cons.mp hy with rfl | hy
    · exact hka
    · rcases List.mem_cons.mp hy with rfl | hy
      · exact hkF
      · cases hy
  have hk : (eS fl).kind = .function := rfl
  have X₁ : K.In h₁ := X.keeps hk₁
  have hx₁ := hk₁ _ _ hx
  have I₁ : InstAt h₁ x (excO C t0) C none := ⟨hx₁, rfl, rfl, trivial⟩
  have hmS : (fun y => List.lookup y (List.reverse [((("self" : Str)), Value.ref x), (fl, v)])) "self" = some (.ref x) := by
    show List.lookup ("self" : Str) [(fl, v), (("self" : Str), Value.ref x)] = _
    have : (("self" : Str) == fl) = false := by
      have : ("self" : Str) ≠ fl := fun e => hFs e.symm
      simpa using this
    simp [List.lookup, this]
  have hmF : (fun y => List.lookup y (List.reverse [((("self" : Str)), Value.ref x), (fl, v)])) fl = some v := by
    show List.lookup fl [(fl, v), (("self" : Str), Value.ref x)] = _
    simp [List.lookup]
  have hCo₁ := X₁ _ _ hC
  -- super().__init__(text)
  obtain ⟨pl, hev1⟩ := hev s.heap.objs.size fI
  show _root_.PySem.wpAt _ _ _ (execs (_ :: _ :: []) _) _ _ _
  refine ks_wpAt_execs_cons (ks_wpAt_Expr_any (ks_wpAt_MethodCall ?_ hev1) (by rfl) (by rfl))
  refine ks_wpAt_super_base (env := ksEnv qual (eS fl) s.heap.objs.size fI (.ref cda) cc) hks hkc (by decide) rfl (X₁ _ _ ho) rfl hp rfl (X₁ _ _ hcode) rfl hvs hfile T.htop ?_
  refine ks_loadName_global hk hks (loadGlobal_builtin (env := ksEnv qual (eS fl) s.heap.objs.size fI (.ref cda) cc) (hg.keeps hk₁) T.gS (hb.keeps hk₁) ((hbb _ (by decide +kernel)).trans Boot.«super») ⟨rfl, ?_⟩)
  refine wpAny_loadName_free hk hkc rfl ⟨_, X₁ _ _ hcell, rfl⟩ ?_
  rw [har]
  refine wpAny_loadName_local hk hka hns hmS ?_
  refine ks_wpAny_isType_cls hCo₁ rfl ⟨rfl, ?_⟩
  refine ks_wpAny_call_super hCo₁ rfl hx₁ rfl (fun c e => by cases e) (looks_mroIn X₁ T.own) (fun h₂ hso k₂ => ?_)
  have X₂ : K.In h₂ := X₁.keeps k₂
  have hx₂ := k₂ _ _ hx₁
  have I₂ : InstAt h₂ x (excO C t0) C none := ⟨hx₂, rfl, rfl, trivial⟩
  have hsup := T.sup
  unfold ks_superIn at hsup
  rw [hcl] at hsup
  refine kxs_getMethod kxs_ValueError hso (looks_opaque X₂ T.any) (l₀ := .ref C :: bm) ?_ rfl X₂ hsup (I₂.type.andThen (looks_subIn X₂ T.ve)) (ks_ne X₂ I₂ hcl) (by decide) ?_
  · exact fun A Q E s k q => wpAny_bind ((looks_clsIn X₂ hcl) A _ E s k (wpAny_pure q))
  show wpAny _ _ (callWith p.a6 (.ref h₂.objs.size) [] (backTo p.a6 (starEach [_] _)) []) _ _ _
  refine kxs_callWith (i := "ValueError.__init__") (x := x) (by rfl) (evalArgs_plain ?_)
  show wpAny _ _ (spliced [(false, eval (.Constant (.str p.txt) p.k p.a5) _)]) _ _ _
  refine Calls.spliced_cons (Calls.Constant_str (Calls.spliced_nil ?_))
  have hu : (h₂.push (kxs_mw "ValueError.__init__" x)).get? h₂.objs.size = some (kxs_mw "ValueError.__init__" x) := Heap.get?_push_at rfl rfl
  have k₃ : ∀ b o, h₂.get? b = some o → (h₂.push (kxs_mw "ValueError.__init__" x)).get? b = some o := fun b o e => Heap.get?_push_of_some _ e
  refine ⟨hu, ?_⟩
  have X₃ : K.In (h₂.push (kxs_mw "ValueError.__init__" x)) := X₂.keeps k₃
  have hx₃ := k₃ _ _ hx₂
  show wpAny _ _ (call (.ref h₂.objs.size) [_] []) _ _ _
  refine wpAny_call (codeAny_of_tree ?_)
  show wpAny _ _ (callAny (.ref h₂.objs.size) ⟨[_], []⟩) _ _ _
  simp only [callAny]
  refine wpAny_bind (wpAny_load hu ?_)
  simp only [kxs_mw, show (Value.type "method-wrapper" == Value.type "method" || Value.type "method-wrapper" == Value.type "builtin_function_or_method" || Value.type "method-wrapper" == Value.type "method-wrapper") = true by decide, if_true]
  refine KFB.if_so (by decide) ?_
  refine wpAny_bind (check_bound_init F.excBase_ValueError.toExcCallFacts (X₃ _ _ hC) hx₃ rfl ?_)
  refine wpAny_bind (wpAny_pure (wpAny_pure ?_))
  refine ⟨plainId_quiet F.excBase_ValueError.init.plain _, codeAny_builtin F.excBase_ValueError.initEntry ?_⟩
  refine exc_init_tree (cls := .ref C) (t0 := t0) (dv := none) (c2 := .none) (c3 := .none) (b4 := .bool false) hx₃ (one_size _) fun h₄ k₄ hx₄ _ => ?_
  have nx : s.heap.objs.size ≠ x := Nat.ne_of_gt (Heap.lt_size hx)
  have hns₃ : (h₂.push (kxs_mw "ValueError.__init__" x)).Ns s.heap.objs.size _ := (hns.keeps k₂).keeps k₃
  have hns₄ : h₄.Ns s.heap.objs.size (fun y => List.lookup y (List.reverse [((("self" : Str)), Value.ref x), (fl, v)])) := by
    obtain ⟨oL, es, ep, hL, r⟩ := hns₃
    exact ⟨oL, es, ep, k₄ _ _ nx hL, r⟩
  have all₄ : ∀ b o, b ≠ x → s.heap.get? b = some o → h₄.get? b = some o := fun b o hb' e => k₄ b o hb' (k₃ b o (k₂ b o (hk₁ b o e)))
  have X₄ : K.In h₄ := by
    intro b o e
    have hbx : b ≠ x := fun z => by rw [z, hnx] at e; cases e
    exact all₄ b o hbx (X _ _ e)
  -- self.fl = fl
  show _root_.PySem.wpAt _ _ _ (execs (_ :: []) _) _ _ _
  refine ks_wpAt_execs_cons (wpAt_of_wpAny (plainObj_wpAny_Assign_Attribute ?_ (by rfl)))
  refine ldK (v := v) (m := fun y => List.lookup y (List.reverse [((("self" : Str)), Value.ref x), (fl, v)])) hk hkF hns₄ hmF (ldK (v := .ref x) (m := fun y => List.lookup y (List.reverse [((("self" : Str)), Value.ref x), (fl, v)])) hk hka hns₄ hmS ?_ (by decide)) hFd
  refine set_plain X₄ (ox := excO C (h₂.push (kxs_mw "ValueError.__init__" x)).objs.size) (od := none) ⟨hx₄, rfl, rfl, trivial⟩ T.sa ?_
  refine exc_osa X₄ hx₄ hcl (show refsVE (.ref C :: bm) = true from hbm) rfl T.noF (fun h₅ tk₅ dx k₅ dn dne hx₅ hn₅ => ?_)
  show _root_.PySem.wpAt _ _ _ (execs [] _) _ _ _
  have z : s.heap.objs.size < h₄.objs.size := hns₄.lt
  exact wpAt_of_wpAny (wpAny_execs_nil (hq h₅ tk₅ dx _ ⟨fun b o hb' e => k₅ b o hb' (all₄ b o hb' e), hx₅, Nat.le_of_lt (Nat.lt_of_lt_of_le z dn), dne, hn₅⟩))
/-- a made error -/
structure OwnMade (h h' : Heap) (e C d : Addr) (fl : Str) (v : Value) : Prop where
  keep : ∀ b o, h.get? b = some o → h'.get? b = some o
  new : h.objs.size ≤ e
  obj : ∃ oe vs, h'.get? e = some oe ∧ oe.cls = .ref C ∧ oe.dict = some d ∧ oe.data = .fields vs ∧ vs[1]? = some .none ∧ vs[2]? = some .none ∧ 4 < vs.size
  dbig : h.objs.size ≤ d
  dne : d ≠ e
  ns : h'.Ns1 d (fun y => if y = fl then some v else none)
theorem err_made (T : ErrTxt prog K mg x0 fl C fI) {v : Value} (X : K.In s.heap) (hlim : s.heap.NoLimit) (hg : s.heap.Ns mainGlobals mg) (hb : s.heap.Ns builtinsNs mb) (hbb : ∀ x : Str, x ≠ "__name__" → mb x = bootBuiltins x) (hroom : A.depth + 1 < recursionLimit)
    (hq : ∀ h' tk e d, OwnMade s.heap h' e C d fl v → R (.ok (.ret (.ref e))) { s with heap := h', toks := tk }) :
    codeAny (model prog w) A (.call (.ref C) ⟨[v], []⟩) R s := by
  obtain ⟨nm, q, N, bs, bm, sn, sub, ab, col, dd, k0, k1, k2, k3, k5, hC, hbm⟩ := T.cls
  obtain ⟨hp, g, dr, tk, os⟩ := s
  have k : ∀ b o, hp.get? b = some o → ((hp.push (kdv_tup [v])).push (excO C hp.objs.size)).get? b = some o := fun b o e => Heap.get?_push_of_some _ (Heap.get?_push_of_some _ e)
  have hget : ((hp.push (kdv_tup [v])).push (excO C hp.objs.size)).get? (hp.objs.size + 1) = some (excO C hp.objs.size) := by heap_get
  have hnx : K.lookup (hp.objs.size + 1) = none := by
    cases e : K.lookup (hp.objs.size + 1) with
    | none => rfl
    | some o =>
      have z : hp.get? (hp.objs.size + 1) = some o := X _ _ e
      exact absurd (Nat.lt_of_succ_lt (Heap.lt_size z)) (Nat.lt_irrefl _)
  refine call_own F.excBase_ValueError (fun X => refsVE_contains X bm hbm) (X _ _ hC) (looks_findIn X T.iC) (fun self => bind_fn X self T.tC) (one_size v) ?_
  refine err_init (s := ⟨(hp.push (kdv_tup [v])).push (excO C hp.objs.size), g, dr, tk, os⟩) T (X.keeps k) (hlim.keeps k) (hg.keeps k) (hb.keeps k) hbb hget hnx ?_ fun h' tk' dx t1 ⟨k', hx, dn, dne, hns⟩ => ?_
  · show A.depth + 1 < recursionLimit
    exact hroom
  · have old : ∀ b o, hp.get? b = some o → h'.get? b = some o := fun b o e => k' b o (Nat.ne_of_lt (Nat.lt_succ_of_lt (Heap.lt_size e))) (k b o e)
    have z : hp.objs.size + 1 + 1 ≤ dx := by
      first
        | (simpa only [Heap.size_push] using dn)
        | exact dn
        | (have q := dn; rw [Heap.size_push, Heap.size_push] at q; exact q)
    exact ⟨rfl, hq h' tk' (hp.objs.size + 1) dx ⟨old, Nat.le_succ _, ⟨_, _, hx, rfl, rfl, rfl, rfl, rfl, (by show 4 < 6; decide)⟩, Nat.le_trans (Nat.le_trans (Nat.le_succ _) (Nat.le_succ _)) z, dne, hns⟩⟩
end
end WErr
end PySem
namespace L2
open PySem PySem.Spec PyProof.Rows
theorem relO_err {fl : Str} {v : V} {v' : Value} (r : RelV v v') (f : Str) : RelO (List.lookup f [(fl, v)]) (if f = fl then some v' else none) := by
  by_cases hw : f = fl
  · subst hw
    rw [if_pos rfl]
    have q : List.lookup f [(f, v)] = some v := by simp [List.lookup]
    rw [q]
    exact r
  · rw [if_neg hw]
    have qw : (f == fl) = false := by simpa using hw
    have q2 : List.lookup f [(fl, v)] = none := by simp [List.lookup, qw]
    rw [q2]
    trivial
section
variable {X : Cx} {C fI : Addr} {x fl : Str}
/-- X(e), X an error of the package -/
def tMkErr (C : Addr) (fl : Str) (ta : TA) : St → Hp → XK → Prop := fun σ H Q => ta σ H fun vs H1 => ∃ v, vs = [v] ∧ ∀ d, H1 d = none → Q (.ref C) (some d) (upd H1 d (.xd [(fl, v)]))
theorem pmk_err {a : Expr} {ta : TA} {p pos : Pos} {k : Nat} (T : PySem.WErr.ErrTxt X.prog X.K X.mg x fl C fI) (hr : Room k X.A) (ha : PA X [a] ta) (hg : Gl X x := by rfl) (hdb : (x == ("__debug__" : Str)) = false := by decide)
    (he : starEach (a :: []) X.env = (false, eval a X.env) :: starEach [] X.env := by rfl) (hpl : (backTo pos (starEach [] X.env)).any (·.1) = false := by rfl) :
    PMk X (.Call (.Name x p) [a] [] pos) (tMkErr C fl ta) := by
  intro pins s σ H Q I h
  refine wpAny_Call_Name_kw (ld_glob I hg T.gC ?_ hdb)
  refine PySem.W.callWith_K (h₀ := X.base) I.ok.mod.kin T.kC (thn (ha.run pos pins s σ H _ I h) fun us s1 hh => ?_) he hpl
  obtain ⟨vs, H1, I1, r1, v, ev, q1⟩ := hh
  subst ev
  refine ⟨I1.kIn, ?_⟩
  cases r1 with
  | cons rv rn =>
    rename_i v' us'
    cases rn
    show wpAny _ _ (call (.ref C) [v']) _ _ _
    have hlim := I1.nolimit
    obtain ⟨mb, hmb, hbb⟩ := I1.mod.blt
    have hG := I1.mod.glob.keeps I1.bk
    have hB := hmb.keeps I1.bk
    obtain ⟨hp, g, dr, tk, os⟩ := s1
    refine wpAny_call (PySem.WErr.err_made T I1.kIn hlim hG hB hbb (by have := hr.dp; omega) fun h' tk' e d M => ?_)
    show MkP X pins σ Q (.ref e) ⟨h', g, dr, tk', os⟩
    obtain ⟨oe, fv, hoe, hc, hd, hdat, h1, _⟩ := M.obj
    have hns := M.ns
    obtain ⟨G', g1, g2⟩ := restrict h' fun b => decide (b ≠ e)
    have gk : ∀ b, b ≠ e → G'.get? b = h'.get? b := fun b hb => g1 b (decide_eq_true hb)
    have ge : G'.get? e = none := g2 e (by simp)
    have old : ∀ b o, hp.get? b = some o → G'.get? b = some o := fun b o q => (gk b (Nat.ne_of_lt (Nat.lt_of_lt_of_le (Heap.lt_size q) M.new))).trans (M.keep b o q)
    have ob : ObjOk X.prog X.w (upd H1 d (.xd [(fl, v)])) G' d (.xd [(fl, v)]) :=
      ⟨_, hns.at (fun o q => (gk d M.dne).trans q), fun f => relO_err rv f⟩
    have J : Inv X pins σ (upd H1 d (.xd [(fl, v)])) ⟨G', g, dr, tk', os⟩ := I1.laid (t' := tk') old M.dbig ob
    refine ⟨e, oe, fv, ⟨G', g, dr, tk', os⟩, _, .ref C, some d, rfl, J, fun b o q => ?_, ge, hoe, ⟨hc, hd⟩, hdat, h1, ?_, rfl, I1.bare, raises_own T.exC T.tyC, q1 d (I1.hok.fresh M.dbig)⟩
    · by_cases hb : b = e
      · have q' : G'.get? b = some o := q
        rw [hb, ge] at q'; cases q'
      · exact (gk b hb).symm.trans q
    · rw [upd_ne (Ne.symm M.dne)]
      exact I1.hok.fresh M.new
/-- raise X(e) -/
def tRaiseErr (C : Addr) (fl : Str) (W : WX) (ta : TA) : TS := fun _ σ H => tMkErr C fl ta σ H fun cls d H' => W cls d σ H'
theorem ps_raiseErr {a : Expr} {ta : TA} {W : WX} {p pos pos2 : Pos} {k : Nat} (hc : X.calm = true) (T : PySem.WErr.ErrTxt X.prog X.K X.mg x fl C fI) (hr : Room k X.A) (tk : Takes X W) (ha : PA X [a] ta) (hg : Gl X x := by rfl) (hdb : (x == ("__debug__" : Str)) = false := by decide)
    (he : starEach (a :: []) X.env = (false, eval a X.env) :: starEach [] X.env := by rfl) (hpl : (backTo pos (starEach [] X.env)).any (·.1) = false := by rfl) :
    PS X (.Raise (some (.Call (.Name x p) [a] [] pos)) none pos2) (tRaiseErr C fl W ta) := ps_raise hc tk (pmk_err T hr ha hg hdb he hpl)
end
end L2
set_option Elab.async false
set_option linter.all false
set_option maxRecDepth 100000
set_option maxHeartbeats 4000000
namespace L2
open PySem PySem.Spec PyProof.Rows
/-! ### promises that hold where no repr is under way (for defs that ask repr, and their callers) -/
structure FnG (P : Program) (w : World) (K : PySem.W.Frag) (mg : Str → Option Value) (base : Heap) (CX : CXT) (k : Nat) (f : Addr) (fd : FuncData) (ps : List Str) (sp : Sp) : Prop where
  len : ∀ vs H Q E, sp vs H Q E → vs.length = ps.length
  run : ∀ (A : Around), A.guards = some [] → ∀ (outer : List Env) (s : Shared) (H : Hp) (args : Args) (us : List Value) (vs : List V) (Q : VK) (E : XK), Room k A → Env0 P w K mg base A outer s H → BindsTo s fd args (ps.zip us) → Vals vs us → sp vs H Q E →
    codeAny (model P w) A (.call (.ref f) args) (CR CX outer P w H s Q E) s
section
variable {P : Program} {w : World} {K : PySem.W.Frag} {mg : Str → Option Value} {base : Heap} {CX : CXT} {k : Nat} {f : Addr} {fd : FuncData} {ps : List Str} {sp : Sp}
theorem FnOk.g (F : FnOk P w K mg base CX k f fd ps sp) : FnG P w K mg base CX k f fd ps sp := ⟨F.len, fun A _ => F.run A⟩
theorem FnG.mono {j : Nat} (F : FnG P w K mg base CX j f fd ps sp) (h : j ≤ k) : FnG P w K mg base CX k f fd ps sp :=
  ⟨F.len, fun A hA outer s H args us vs Q E hr => F.run A hA outer s H args us vs Q E (hr.mono h)⟩
/-- a def by its body, where no repr is under way -/
theorem fnG_of {name qual : Str} {params : Arguments} {body : List Stmt} {scope : Scope} {dV kV doc pm cdv ct oc : Value} {an od : Option Addr}
    {osl : Array (Option Value)} {N : List Str} (lk : K.lookup f = some ⟨oc, od, .func (PySem.W.fnOf name qual params body scope dV kV doc pm an cdv ct), osl⟩) (hcd : PySem.W.codeIn K cdv qual = true) (S : FnScope N ps scope)
    (len : ∀ vs H Q E, sp vs H Q E → vs.length = ps.length)
    (hbody : ∀ (A : Around) (outer : List Env) (s : Shared) (H : Hp) (vs : List V) (Q : VK) (E : XK), (A.deeper (envOfC qual scope s.heap.objs.size f cdv)).guards = some [] → Room k (A.deeper (envOfC qual scope s.heap.objs.size f cdv)) → sp vs H Q E →
      ∃ t, PSs (cxOf CX P w K mg base N qual scope f cdv A outer s H E) body t ∧ t { nx := fun _ H' => Q .non H', rt := Q } (start N vs) H) :
    FnG P w K mg base CX (k + 1) f (PySem.W.fnOf name qual params body scope dV kV doc pm an cdv ct) ps sp := by
  refine ⟨len, fun A hA => ?_⟩
  -- fn_of asks the body of every around: here it is asked of one, by a promise that speaks of nothing else
  refine fun outer s H args us vs Q E hr e0 hb r hsp => ?_
  have KX : K.In s.heap := e0.mod.kin.keeps fun b o e => (e0.bs b o e).1
  have lim : s.heap.NoLimit := e0.mod.nolimit.keeps fun b o e => (e0.bs b o e).1
  refine codeAny_call_function hr.depth (KX _ _ lk) rfl S.co S.gen rfl (PySem.W.codeRec_of KX hcd) (hb _ _ _ _ (wpAny_newFunctionEnv_cells S.kind ?_ fun env he s1 x => ?_))
  · intro y hy
    have h1 := (List.of_mem_zip (show (y.1, y.2) ∈ ps.zip us from hy)).1
    rcases S.par y.1 h1 with q | q
    · exact Or.inl q
    · exact Or.inr ⟨q, PySem.W.cellsFrom_some _ _ _ (Or.inl q)⟩
  subst he
  obtain ⟨t, ht, hq⟩ := hbody A outer s H vs Q E hA (hr.deeper _) hsp
  refine ⟨lim.keeps x.toInCall.keep, codeAny_func (wpAny_mono (ht.run [] s1 (start N vs) H _ (inv_start S hr.hd e0 (len _ _ _ _ hsp) r x) hq) (fun fl s' hs => ?_) fun e s' hs => hs)⟩
  cases fl with
  | ret u =>
    obtain ⟨v, σ', H', J, rv, q⟩ := hs
    exact ⟨v, H', J.os, J.bare, J.base, J.hok, rv, q⟩
  | next =>
    obtain ⟨σ', H', J, q⟩ := hs
    exact ⟨V.non, H', J.os, J.bare, J.base, J.hok, rfl, q⟩
  | brk => exact (hs.choose_spec.choose_spec.2).elim
  | cont => exact (hs.choose_spec.choose_spec.2).elim
end
section
variable {X : Cx} {CX : CXT} {k : Nat} {f : Addr} {fd : FuncData} {ps : List Str} {sp : Sp} {dvs : List V} {ds : List Value} {E : XK} {x : Str} {p pos : Pos} {e : Expr} {es : List Expr} {t : TA}
theorem pe_callG (hA : X.A.guards = some []) (F : FnG X.prog X.w X.K X.mg X.base CX k f fd ps sp) (hr : Room k X.A) (hg : Gl X x) (hm : X.mg x = some (.ref f)) (hk : PySem.W.keepIn X.K (.ref f) = true) (hb : Binds X.K fd ps ds) (hd : Vals dvs ds) (hx : Passes CX X E)
    (ha : PA X (e :: es) t) (hdb : (x == ("__debug__" : Str)) = false := by decide) (he : starEach (e :: es) X.env = (false, eval e X.env) :: starEach es X.env := by rfl) (hpl : (backTo pos (starEach es X.env)).any (·.1) = false := by rfl) :
    PE X (.Call (.Name x p) (e :: es) [] pos) (tCall sp dvs E t) := by
  refine ⟨fun pins s σ H Q I h => wpAny_Call_Name_kw (ld_glob I hg hm ?_ hdb)⟩
  refine PySem.W.callWith_K (h₀ := X.base) I.ok.mod.kin hk (thn (ha.run pos pins s σ H _ I h) fun us s1 ⟨vs, H1, I1, r, q⟩ => ⟨I1.kIn, ?_⟩) he hpl
  have r2 : Vals (vs ++ dvs) (us ++ ds) := r.append hd
  have hl : (us ++ ds).length = ps.length := by rw [← r2.length]; exact F.len _ _ _ _ q
  refine wpAny_call (codeAny_mono (F.run X.A hA X.stack s1 H1 ⟨us, []⟩ (us ++ ds) (vs ++ dvs) Q E hr I1.env0 (hb s1 us I1.kIn hl) r2 q) fun r s' hq => ?_)
  match r, hq with
  | .error e, hq => exact hx pins σ H1 s1 e s' I1 hq
  | .ok (.ret u), hq => exact I1.after hq
  | .ok .next, hq => exact False.elim hq
  | .ok .brk, hq => exact False.elim hq
  | .ok .cont, hq => exact False.elim hq
/-- repr(x) of data -/
theorem call_reprD (hA : X.A.guards = some []) (hu : X.A.units + 64 < cLine) : CallR X (.builtin "repr") (fun xs H Q => ∃ v d, xs = [v] ∧ Dp X.K H v d ∧ d.showable = true ∧ d.hasDict = false ∧ d.depth ≤ 60 ∧ d.shown.length ≤ sizeLine ∧ Q (.str d.shown) H) := by
  intro pins s σ H xs us Q I r h
  obtain ⟨v, d, rfl, hd, hs, hn, hdp, hz, q⟩ := h
  obtain ⟨u, rfl, ru⟩ := vals1 r
  obtain ⟨as, rd⟩ := Dp.reads I d v u hd ru
  cases rd with
  | none => exact PySem.P.repr_of_none ⟨.str _, H, I.tok _, ⟨_, rfl⟩, q⟩
  | bool b => exact PySem.P.repr_of_bool ⟨.str _, H, I.tok _, ⟨_, by cases b <;> rfl⟩, q⟩
  | int i t => exact PySem.P.repr_of_int (of_decide_eq_true hs) ⟨.str _, H, I.tok _, ⟨_, rfl⟩, q⟩
  | str x t => exact PySem.P.repr_of_str ⟨.str _, H, I.tok _, ⟨_, rfl⟩, q⟩ hz
  | list h1 h2 h3 h4 => exact repr_of_reads' (.list h1 h2 h3 h4) hs (fun z => by rw [hn] at z; cases z) hA (by omega) (fun _ _ e => e) (fun h' u tk hk => ⟨.str _, H, I.kept hk, ⟨_, rfl⟩, q⟩) hz
  | tuple h1 h2 h3 h4 => exact repr_of_reads' (.tuple h1 h2 h3 h4) hs (fun z => by rw [hn] at z; cases z) hA (by omega) (fun _ _ e => e) (fun h' u tk hk => ⟨.str _, H, I.kept hk, ⟨_, rfl⟩, q⟩) hz
  | dict h1 h2 h3 h4 h5 => exact absurd hn (by simp [PyData.hasDict])
end
end L2
set_option Elab.async false
set_option linter.all false
set_option maxRecDepth 100000
set_option maxHeartbeats 4000000
namespace L2
open PySem PySem.Spec PyProof.Rows
/-- the law's call, its promise kept where no repr is under way -/
theorem lawG {P : Program} {w : World} {K : PySem.W.Frag} {mg mb : Str → Option Value} {CX : CXT} {k : Nat} {fa a : Addr} {fd : FuncData} {x : Str} {sp : Sp} {s₁ : Shared} {vs : List Value} {ns : List Int}
    (KX : K.In s₁.heap) (hns : s₁.heap.Ns mainGlobals mg) (hb : s₁.heap.Ns builtinsNs mb) (hbb : ∀ x : Str, x ≠ "__name__" → mb x = bootBuiltins x) (hlim : s₁.heap.NoLimit) (hg : s₁.gens = #[])
    (ha : s₁.heap.get? a = some { cls := .type "list", data := .seq vs.toArray }) (hi : IntsAre vs ns) (hl : ns.length ≤ sizeLine) (hr : Room k callerA)
    (F : ∀ base : Heap, K.In base → base.Ns mainGlobals mg → FnG P w K mg base CX k fa fd [x] sp) (hbind : ∀ (s : Shared) (u : Value), BindsTo s fd ⟨[u], []⟩ [(x, u)])
    (hsp : ∀ H : Hp, Only H → SqL K H a (ns.map V.int) → sp [.ref a] H (fun v _ => v = .bl true) fun _ _ _ => False)
    (hCX : ∀ H e s', CX [] H s₁ (fun _ _ _ => False) e s' → False) :
    codeAny (model P w) callerA (.call (.ref fa) ⟨[.ref a], []⟩) (fun r s' => r = .ok (.ret (.bool true)) ∧ OldK s₁.heap s'.heap ∧ s'.os = s₁.os ∧ AllBare s'.gens) s₁ := by
  have rv := vals_ints hi
  have lenV := hi.length
  have main : ∀ H : Hp, Only H → SqL K H a (ns.map V.int) → HOk P w H s₁.heap → (∀ b, H b ≠ none → b = a) → (H a ≠ none → K.lookup a = none) →
      codeAny (model P w) callerA (.call (.ref fa) ⟨[.ref a], []⟩) (fun r s' => r = .ok (.ret (.bool true)) ∧ OldK s₁.heap s'.heap ∧ s'.os = s₁.os ∧ AllBare s'.gens) s₁ := by
    intro H hO hS hok hA hK
    have dictFree : ∀ {b : Addr} {o : Obj} {es : Array DictEntry} {ep : Nat}, s₁.heap.get? b = some o → o.data = .dict es ep → H b = none := by
      intro b o es ep e d
      by_cases q : H b = none
      · exact q
      · obtain rfl := hA b q
        rw [ha] at e
        cases e
        cases d
    have nsK : ∀ {b : Addr} {m : Str → Option Value}, s₁.heap.Ns b m → (hidT s₁.heap H).Ns b m := by
      rintro b m ⟨o, es, ep, e, d, r⟩
      exact ⟨o, es, ep, hidT_get e (dictFree e d), d, r⟩
    have hKb : K.In (hidT s₁.heap H) := by
      intro b o e
      refine hidT_get (KX b o e) ?_
      by_cases q : H b = none
      · exact q
      · obtain rfl := hA b q
        rw [hK q] at e
        cases e
    have hM : Mod K mg (hidT s₁.heap H) := by
      obtain ⟨mc, h1, h2⟩ := hlim
      exact ⟨hKb, nsK hns, ⟨mb, nsK hb, hbb⟩, ⟨mc, nsK h1, h2⟩⟩
    have e0 : Env0 P w K mg (hidT s₁.heap H) callerA [] s₁ H :=
      { frames := rfl, mod := hM, bs := fun b o e => of_hidT e, bsz := Nat.le_of_eq (hidT_size _ _), funs := trivial, frf := fun b hb => (nomatch (show b ∈ ([] : List Addr) from hb)), hok := hok, bare := .of_eq hg }
    refine codeAny_mono ((F _ hKb (nsK hns)).run callerA rfl [] s₁ H ⟨[.ref a], []⟩ [.ref a] [.ref a] _ _ hr e0 (hbind s₁ (.ref a)) (.cons rfl .nil) (hsp H hO hS)) fun r s' h => ?_
    match r, h with
    | .error e, h => exact (hCX H e s' h).elim
    | .ok .next, h => exact False.elim h
    | .ok .brk, h => exact False.elim h
    | .ok .cont, h => exact False.elim h
    | .ok (.ret u), h =>
      obtain ⟨v, H', os, bare, un, hok', r', q⟩ := h
      obtain rfl : v = .bl true := q
      obtain rfl : u = Value.bool true := r'
      refine ⟨rfl, OldK.of_keep fun b o e => ?_, os, bare⟩
      rcases hO b with z | ⟨ob, xs, z⟩
      · exact un.keep b o e z (fun y => (nomatch (show b ∈ ([] : List Addr) from y))) (fun y => (nomatch y))
      · have e1 := (hok b _ z).1
        rw [e] at e1
        cases e1
        exact (hok' b _ (un.frzs b _ _ z)).1
  by_cases hk : K.lookup a = none
  · refine main (fun b => if b = a then some (.frz { cls := .type "list", data := .seq vs.toArray } (.lst (ns.map V.int))) else none) (fun b => ?_) (.inl (.inr ⟨_, if_pos rfl⟩)) (fun b u z => ?_) (fun b z => ?_) fun _ => hk
    · by_cases hb : b = a
      · exact .inr ⟨_, _, if_pos hb⟩
      · exact .inl (if_neg hb)
    · by_cases hb : b = a
      · subst hb
        have z' := (if_pos rfl).symm.trans z
        cases z'
        exact ⟨ha, by rw [List.length_map]; exact hl, vs, _, rv, ha⟩
      · exact nomatch (if_neg hb).symm.trans z
    · by_cases hb : b = a
      · exact hb
      · exact absurd (if_neg hb) z
  · obtain ⟨o, hk⟩ := Option.ne_none_iff_exists'.mp hk
    have e := KX a o hk
    rw [ha] at e
    cases e
    exact main (fun _ => none) (fun _ => .inl rfl) (.inr ⟨_, vs.toArray, _, hk, rfl, rfl, rfl, by rw [List.size_toArray, lenV]; exact hl, by simpa using rv⟩) (fun b u z => nomatch (show (none : Option HO) = some u from z)) (fun b z => absurd rfl z) fun z => absurd rfl z
theorem walkG {l : PySem.W.OpenLaw} {n k : Nat} {q : Program} {loose : List Str} {XP : (Str → Option Value) → Heap → Prop} {YP : World → Heap → Prop} {d : DefRec} {CX : CXT} {x : Str}
    (hn : l.most = some n) (hn2 : n ≤ sizeLine) (hdf : d.params.defaults = []) (hr : Room k callerA)
    (F : ∀ (w : World) (mg : Str → Option Value) (fa : Addr) (h : Heap), YP w h → h.Ns mainGlobals mg → mg d.name = some (.ref fa) →
      ∃ (K : PySem.W.Frag) (fd : FuncData) (sp : Sp), K.In h ∧ (∀ (s : Shared) (u : Value), BindsTo s fd ⟨[u], []⟩ [(x, u)]) ∧
        (∀ (H : Hp) (a : Addr) (ns : List Int), ns.length ≤ n → Only H → SqL K H a (ns.map V.int) → sp [.ref a] H (fun v _ => v = .bl true) fun _ _ _ => False) ∧
        ∀ base : Heap, K.In base → base.Ns mainGlobals mg → FnG l.prog w K mg base CX k fa fd [x] sp)
    (hCX : ∀ (H : Hp) (s : Shared) (e : Value) (s' : Shared), CX [] H s (fun _ _ _ => False) e s' → False) :
    PySem.W.WalkO q loose XP YP l.row.toRowW d [] (fun f vs => PySem.call f vs) :=
  Att.attach_call hn hdf fun w s₀ s₁ mg mb fa o pm cd doc a vs ns G Y ho hd hcd hmg hobj hints hlen hg =>
    have ⟨K, fd, sp, KX, hb, hsp, hF⟩ := F w mg fa _ Y G.T.g hmg
    lawG KX G.T.g G.T.b G.T.builtins G.T.nolimit hg hobj hints (Nat.le_trans hlen hn2) hr hF hb (fun H hO hS => hsp H a ns hlen hO hS) fun H e s' => hCX H s₁ e s'
end L2
set_option Elab.async false
set_option linter.all false
set_option maxRecDepth 100000
set_option maxHeartbeats 4000000
namespace WH
open PySem PySem.Spec PyProof.Rows L2
open He (ga ma ba eqO eqO_ok)
abbrev Frag := PySem.W.Frag
/-! ### an error class of the text: its name, its field, its __init__ -/
structure ErD where
  x : Str
  fl : Str
  st : Stmt
abbrev FnE : Type := Option (Str × Str × Arguments × FuncBody × Scope × Addr × List Str × Addr)
def iAd (K : Frag) (x : Str) : Addr := ma K (ga K x) "__init__"
def fnE (K : Frag) (x : Str) : FnE := match K.lookup (iAd K x) with
  | some ⟨_, _, .func fd, _⟩ => some (fd.name, fd.qualname, fd.params, fd.body, fd.scope, fd.globals, fd.closure.map (·.1), fd.builtins)
  | _ => none
def ErD.val (e : ErD) : FnE := some ("__init__", e.x ++ ".__init__", defArgs e.st, .stmts (defBody e.st), defScope e.st, mainGlobals, ["__class__"], builtinsNs)
/-- the class object of an own error over ValueError -/
def veB (K : Frag) (C : Addr) : Bool := match K.lookup C with
  | some ⟨.type "type", _, .cls cd, sl⟩ => (match cd.mro, sl.toList with
    | .ref C' :: bm, [_, _, _, _, some (.builtin n), _] => decide (C' = C) && (decide (n = "ValueError.__new__") && (!cd.hasDel && (cd.hasDict && PySem.HandSPX.refsVE bm)))
    | _, _ => false)
  | _ => false
theorem veB_ok {K : Frag} {C : Addr} (h : veB K C = true) : ∃ nm q N bs bm sn sub ab col dd k0 k1 k2 k3 k5, K.lookup C = some (excClassObj nm q C N bs bm true sn sub ab col dd k0 k1 k2 k3 k5 "ValueError.__new__") ∧ PySem.HandSPX.refsVE bm = true := by
  unfold veB at h
  split at h
  · rename_i dd cd sl ho
    split at h
    · rename_i C' bm k0 k1 k2 k3 n k5 hm hs
      obtain ⟨h1, h⟩ := ba h
      obtain ⟨h2, h⟩ := ba h
      obtain ⟨h3, h⟩ := ba h
      obtain ⟨h4, h5⟩ := ba h
      obtain rfl := of_decide_eq_true h1
      obtain rfl := of_decide_eq_true h2
      obtain ⟨nm, bs, mro, ns, qn, hd, sn, sub, ab, col, del⟩ := cd
      dsimp only at hm h3 h4
      subst hm
      subst h4
      have hdel : del = false := by cases del <;> simp_all
      subst hdel
      have hsl : sl = #[k0, k1, k2, k3, some (.builtin "ValueError.__new__"), k5] := by
        obtain ⟨l⟩ := sl
        simp only at hs
        rw [hs]
      subst hsl
      exact ⟨nm, qn, ns, bs, bm, sn, sub, ab, col, dd, k0, k1, k2, k3, k5, ho, h5⟩
    · cases h
  · cases h
/-- its __init__: code of the main file, a cell that holds the class, no defaults -/
def inB (prog : Program) (K : Frag) (C fI : Addr) (qual : Str) : Bool := match K.lookup fI with
  | some ⟨_, _, .func fd, _⟩ => (match fd.defaults, fd.code, fd.closure with
    | .none, .ref cda, [(_, cc)] => PySem.W.codeIn K (.ref cda) qual && ((match K.lookup cda with
      | some ⟨_, _, .fields vs, _⟩ => (match (vs : Array Value)[2]? with
        | some (Value.str file _) => (prog.main.file : Str) == file
        | _ => false)
      | _ => false) && (match K.lookup cc with
      | some ⟨_, _, .cell (some (.ref D)), _⟩ => decide (D = C)
      | _ => false))
    | _, _, _ => false)
  | _ => false
def ErD.ok (prog : Program) (K : Frag) (e : ErD) : Bool :=
  eqO (PySem.W.nsIn K mainGlobals e.x) (some (some (.ref (ga K e.x)))) && (veB K (ga K e.x) && (eqO (PySem.W.findIn K (.ref (ga K e.x)) "__setattr__") (some (some (.builtin "object.__setattr__"))) &&
  (xfB K (ga K e.x) && (eqO (PySem.W.findIn K (.ref (ga K e.x)) e.fl) (some none) && (eqO (PySem.W.findIn K (.ref (ga K e.x)) "__init__") (some (some (.ref (iAd K e.x)))) &&
  (decide (PySem.W.typeIn K (.ref (iAd K e.x)) = some (.type "function")) && (PySem.W.keepIn K (.ref (ga K e.x)) && (decide (PySem.W.subIn K (.ref (ga K e.x)) (.type "BaseException") = some true) &&
  (decide (PySem.W.typeIn K (.ref (ga K e.x)) = some (.type "type")) && (eqO (PySem.W.ks_superIn K (ga K e.x) (ga K e.x) "__init__") (some (some (.builtin "ValueError.__init__"))) &&
  (decide (PySem.W.subIn K (.ref (ga K e.x)) (.type "ValueError") = some true) && (eqO (PySem.W.nsIn K cStatics "thirdparty.any") (some none) && (decide (PySem.W.mroIn K (ga K e.x) (.ref (ga K e.x)) = some true) &&
  (eqO (PySem.W.nsIn K mainGlobals "super") (some none) && (!(prog.main.scope.names.lookup ("super" : Str)).isSome && inB prog K (ga K e.x) (iAd K e.x) (e.x ++ ".__init__"))))))))))))))))
theorem ErD.txt {prog : Program} {K : Frag} {h : Heap} {mg : Str → Option Value} {e : ErD} {p : PySem.WErr.PsE} {ar : Arg} (X : K.In h) (G : h.Ns mainGlobals mg) (c : e.ok prog K = true) (v : fnE K e.x = e.val)
    (hB : defBody e.st = PySem.WErr.eB e.fl p) (hS : defScope e.st = PySem.WErr.eS e.fl) (hP : ((defArgs e.st).posonlyargs ++ (defArgs e.st).args).head? = some ar) (hA : ar.arg = "self")
    (h1 : (PySem.WErr.eS e.fl).names.lookup ("super" : Str) = some .globalImplicit) (h2 : (PySem.WErr.eS e.fl).names.lookup ("__class__" : Str) = some .free) (h3 : (PySem.WErr.eS e.fl).names.lookup ("self" : Str) = some .local) (h4 : (PySem.WErr.eS e.fl).names.lookup e.fl = some .local)
    (h5 : e.fl ≠ "self") (h6 : (e.fl == ("__debug__" : Str)) = false) (h7 : (e.fl == ("__class__" : Str)) = false)
    (h8 : ∀ cda cc L f : Addr, ∃ pl : Sem Bool, eval (.Call (.Attribute (.Call (.Name "super" p.a1) [] [] p.a2) "__init__" p.a3) [.Constant (.str p.txt) p.k p.a5] [] p.a6) (PySem.W.ksEnv (e.x ++ ".__init__") (PySem.WErr.eS e.fl) L f (.ref cda) cc) = (do
      let ov ← attributeBase (.Call (.Name "super" p.a1) [] [] p.a2) "__init__" (PySem.W.ksEnv (e.x ++ ".__init__") (PySem.WErr.eS e.fl) L f (.ref cda) cc) (eval (.Call (.Name "super" p.a1) [] [] p.a2) (PySem.W.ksEnv (e.x ++ ".__init__") (PySem.WErr.eS e.fl) L f (.ref cda) cc))
      standAt p.a3.atName
      let (f1, first) ← holding [ov] (getMethod ov "__init__" pl)
      callWith p.a6 f1 first (backTo p.a6 (starEach [.Constant (.str p.txt) p.k p.a5] (PySem.W.ksEnv (e.x ++ ".__init__") (PySem.WErr.eS e.fl) L f (.ref cda) cc))) []))
    (h9 : ∀ (kV doc pm : Value) (an : Option Addr) (cda cc : Addr) (ct a b : Value), bindArgs (PySem.W.ksFn "__init__" (e.x ++ ".__init__") (defArgs e.st) (PySem.WErr.eB e.fl p) (PySem.WErr.eS e.fl) .none kV doc pm an (.ref cda) ct cc) ⟨[a, b], []⟩ = pure [(("self" : Str), a), (e.fl, b)]) :
    PySem.WErr.ErrTxt prog K mg e.x e.fl (ga K e.x) (iAd K e.x) := by
  obtain ⟨c1, c⟩ := ba c
  obtain ⟨c2, c⟩ := ba c
  obtain ⟨c3, c⟩ := ba c
  obtain ⟨c4, c⟩ := ba c
  obtain ⟨c5, c⟩ := ba c
  obtain ⟨c6, c⟩ := ba c
  obtain ⟨c7, c⟩ := ba c
  obtain ⟨c8, c⟩ := ba c
  obtain ⟨c9, c⟩ := ba c
  obtain ⟨c10, c⟩ := ba c
  obtain ⟨c11, c⟩ := ba c
  obtain ⟨c12, c⟩ := ba c
  obtain ⟨c13, c⟩ := ba c
  obtain ⟨c14, c⟩ := ba c
  obtain ⟨c15, c⟩ := ba c
  obtain ⟨c16, c17⟩ := ba c
  refine ⟨PySem.W.mg_of X G (eqO_ok c1), veB_ok c2, eqO_ok c3, xfB_ok c4, eqO_ok c5, eqO_ok c6, of_decide_eq_true c7, c8, of_decide_eq_true c9, of_decide_eq_true c10, eqO_ok c11, of_decide_eq_true c12, eqO_ok c13, of_decide_eq_true c14, PySem.W.mg_none_of X G (eqO_ok c15), by simpa using c16, ?_⟩
  unfold fnE at v
  unfold inB at c17
  cases q : K.lookup (iAd K e.x) with
  | none => rw [q] at v; cases v
  | some o =>
    obtain ⟨oc, od, dt, osl⟩ := o
    rw [q] at v c17
    cases dt with
    | func fd =>
      obtain ⟨n1, n2, n3, n4, n5, n6, n7, n8, n9, n10, n11, n12, n13, n14, n15⟩ := fd
      have e2 : (some (n1, n2, n3, n4, n5, n6, n7.map (·.1), n15) : FnE) = e.val := v
      unfold ErD.val at e2
      simp only [Option.some.injEq, Prod.mk.injEq] at e2
      obtain ⟨g1, g2, g3, g4, g5, g6, g7, g8⟩ := e2
      subst g1 g2 g3 g4 g5 g6 g8
      dsimp only at c17
      split at c17
      · rename_i cda nm cc
        obtain ⟨d1, d⟩ := ba c17
        obtain ⟨d2, d3⟩ := ba d
        have hnm : nm = ("__class__" : Str) := by simpa using g7
        subst hnm
        rw [hB, hS]
        refine ⟨oc, od, _, _, _, _, _, _, cda, cc, _, osl, p, ar, rfl, d1, hP, hA, ?_, ?_, h1, h2, h3, h4, h5, h6, h7, h8 cda cc, h9 _ _ _ _ cda cc _⟩
        · split at d2
          · rename_i z1 z2 vs z3 hl
            split at d2
            · rename_i file tf hv
              exact ⟨_, _, vs, _, file, tf, hl, hv, d2⟩
            · cases d2
          · cases d2
        · split at d3
          · rename_i z1 z2 D z3 hl
            obtain rfl := of_decide_eq_true d3
            exact ⟨_, _, _, hl⟩
          · cases d3
      · cases c17
    | _ => cases c17
/-! ### the hook -/
abbrev Chk := Frag → Bool
abbrev AlW : Type := Bool × List He.FnW × List FnE
def obsW (prog : Program) (fa : List Chk) (fn : List He5.DefA) (er : List ErD) (K : Frag) : AlW :=
  ((fa.all fun f => f K) && ((fn.all fun d => d.ok K) && er.all fun e => e.ok prog K), fn.map (fun d => He5.fnA K (d.at_ K)), er.map fun e => fnE K e.x)
def valW (fn : List He5.DefA) (er : List ErD) : AlW := (true, fn.map He5.DefA.val, er.map ErD.val)
def SaysW (prog : Program) (fa : List Chk) (fn : List He5.DefA) (er : List ErD) (K : Frag) : Prop := obsW prog fa fn er K = valW fn er
def obsWG (prog : Program) (n : Nat) (fa : List Chk) (fn : List He5.DefA) (er : List ErD) (g : Addr → Option Obj) : AlW := obsW prog fa fn er (He.frG g (He5.asA g n))
def hookW (prog : Program) (n : Nat) (fa : List Chk) (fn : List He5.DefA) (er : List ErD) : PySem.W.Hook where
  α := AlW
  obs := fun s => obsWG prog n fa fn er s.heap.get?
  val := fun _ => valW fn er
  says := fun _ h => ∃ K : Frag, K.In h ∧ SaysW prog fa fn er K
  of := fun _ _ e => ⟨_, He.frG_in, e⟩
  keeps := fun _ _ _ ⟨K, hK, c⟩ k => ⟨K, PySem.W.Frag.In.keeps hK k, c⟩
theorem obsWG_eq {prog : Program} {n : Nat} {fa : List Chk} {fn : List He5.DefA} {er : List ErD} {g : Addr → Option Obj} {s : Shared} (h : ∀ a, g a = s.heap.get? a) : obsWG prog n fa fn er g = (hookW prog n fa fn er).obs s := by
  have e : g = s.heap.get? := funext h
  subst e
  rfl
section
variable {prog : Program} {fa : List Chk} {fn : List He5.DefA} {er : List ErD} {K : Frag}
theorem SaysW.fact (c : SaysW prog fa fn er K) (i : Nat) {f : Chk} (h : fa[i]? = some f := by rfl) : f K = true :=
  List.all_eq_true.mp (ba (congrArg (fun z : AlW => z.1) c)).1 f (List.mem_of_getElem? h)
theorem SaysW.def_ (c : SaysW prog fa fn er K) (i : Nat) {d : He5.DefA} (h : fn[i]? = some d := by rfl) : ∃ fd, L2.FunD K d.name d.qual d.params d.body d.scope (d.dvs K) (d.kws K) (d.at_ K) fd := by
  have e : fn.map (fun d => He5.fnA K (d.at_ K)) = fn.map He5.DefA.val := congrArg (fun z : AlW => z.2.1) c
  have e2 := congrArg (fun l => l[i]?) e
  simp only [List.getElem?_map, h] at e2
  exact He5.DefA.funD (Option.some.inj e2) (List.all_eq_true.mp (ba (ba (congrArg (fun z : AlW => z.1) c)).2).1 d (List.mem_of_getElem? h))
theorem SaysW.err (c : SaysW prog fa fn er K) (i : Nat) {e : ErD} (h : er[i]? = some e := by rfl) : e.ok prog K = true ∧ fnE K e.x = e.val := by
  have e1 : er.map (fun e => fnE K e.x) = er.map ErD.val := congrArg (fun z : AlW => z.2.2) c
  have e2 := congrArg (fun l => l[i]?) e1
  simp only [List.getElem?_map, h] at e2
  exact ⟨List.all_eq_true.mp (ba (ba (congrArg (fun z : AlW => z.1) c)).2).2 e (List.mem_of_getElem? h), Option.some.inj e2⟩
end
/-! ### facts -/
def cGlo (x : Str) : Chk := fun K => eqO (PySem.W.nsIn K mainGlobals x) (some (some (.ref (ga K x))))
def cFree (x : Str) : Chk := fun K => eqO (PySem.W.nsIn K mainGlobals x) (some none)
def cFa (f : He.Fa) : Chk := fun K => f.ok K
theorem glo_ok {K : Frag} {h : Heap} {mg : Str → Option Value} (X : K.In h) (G : h.Ns mainGlobals mg) {x : Str} (c : cGlo x K = true) : mg x = some (.ref (ga K x)) := PySem.W.mg_of X G (eqO_ok c)
theorem free_ok {K : Frag} {h : Heap} {mg : Str → Option Value} (X : K.In h) (G : h.Ns mainGlobals mg) {x : Str} (c : cFree x K = true) : mg x = none := PySem.W.mg_none_of X G (eqO_ok c)
end WH
set_option Elab.async false
set_option linter.all false
set_option maxRecDepth 100000
set_option maxHeartbeats 4000000
namespace L2
open PySem PySem.Spec PyProof.Rows
open He (ga ma)
/-! ### a def of the module by its name: what it is, what it promises -/
def FnF (K : PySem.W.Frag) (mg : Str → Option Value) (x : Str) (st : Stmt) : Prop := ∃ fd, Fun K x x st (ga K x) fd ∧ mg x = some (.ref (ga K x))
def FnK (P : Program) (w : World) (K : PySem.W.Frag) (mg : Str → Option Value) (base : Heap) (CX : CXT) (k : Nat) (x : Str) (ps : List Str) (sp : Sp) : Prop :=
  ∃ fd, FnOk P w K mg base CX k (ga K x) fd ps sp ∧ Binds K fd ps [] ∧ PySem.W.keepIn K (.ref (ga K x)) = true ∧ mg x = some (.ref (ga K x))
def FnKG (P : Program) (w : World) (K : PySem.W.Frag) (mg : Str → Option Value) (base : Heap) (CX : CXT) (k : Nat) (x : Str) (ps : List Str) (sp : Sp) : Prop :=
  ∃ fd, FnG P w K mg base CX k (ga K x) fd ps sp ∧ Binds K fd ps [] ∧ PySem.W.keepIn K (.ref (ga K x)) = true ∧ mg x = some (.ref (ga K x))
abbrev BindRow (x : Str) (st : Stmt) (ps : List Str) : Prop := ∀ (kV doc pm : Value) (an : Option Addr) (cdv ct : Value) (us : List Value), us.length = ps.length → bindArgs (PySem.W.fnOf x x (defArgs st) (defBody st) (defScope st) .none kV doc pm an cdv ct) ⟨us, []⟩ = pure (ps.zip us)
section
variable {P : Program} {w : World} {K : PySem.W.Frag} {mg : Str → Option Value} {base : Heap} {CX : CXT} {j k : Nat} {x : Str} {st : Stmt} {N ps : List Str} {sp : Sp}
theorem FnK.mono (F : FnK P w K mg base CX j x ps sp) (h : j ≤ k) : FnK P w K mg base CX k x ps sp := let ⟨fd, a, b⟩ := F; ⟨fd, a.mono h, b⟩
theorem FnKG.mono (F : FnKG P w K mg base CX j x ps sp) (h : j ≤ k) : FnKG P w K mg base CX k x ps sp := let ⟨fd, a, b⟩ := F; ⟨fd, a.mono h, b⟩
theorem FnK.g (F : FnK P w K mg base CX k x ps sp) : FnKG P w K mg base CX k x ps sp := let ⟨fd, a, b⟩ := F; ⟨fd, a.g, b⟩
theorem FnF.ok (F : FnF K mg x st) (S : FnScope N ps (defScope st)) (hb : BindRow x st ps) (len : ∀ vs H Q E, sp vs H Q E → vs.length = ps.length)
    (hbody : ∀ (cdv : Value) (A : Around) (outer : List Env) (s : Shared) (H : Hp) (vs : List V) (Q : VK) (E : XK), Room k (A.deeper (envOfC x (defScope st) s.heap.objs.size (ga K x) cdv)) → sp vs H Q E →
      ∃ t, PSs (cxOf CX0 P w K mg base N x (defScope st) (ga K x) cdv A outer s H E).nox (defBody st) t ∧ t { nx := fun _ H' => Q .non H', rt := Q } (start N vs) H) : FnK P w K mg base CX0 (k + 1) x ps sp := by
  obtain ⟨fd, F, hm⟩ := F
  exact ⟨fd, F.ok S len hbody, F.binds hb, F.kp, hm⟩
theorem FnF.okX (F : FnF K mg x st) (S : FnScope N ps (defScope st)) (hb : BindRow x st ps) (len : ∀ vs H Q E, sp vs H Q E → vs.length = ps.length)
    (hbody : ∀ (cdv : Value) (A : Around) (outer : List Env) (s : Shared) (H : Hp) (vs : List V) (Q : VK) (E : XK), Room k (A.deeper (envOfC x (defScope st) s.heap.objs.size (ga K x) cdv)) → sp vs H Q E →
      ∃ t, PSs (cxOf (L2.CX P w) P w K mg base N x (defScope st) (ga K x) cdv A outer s H E) (defBody st) t ∧ t { nx := fun _ H' => Q .non H', rt := Q } (start N vs) H) : FnK P w K mg base (L2.CX P w) (k + 1) x ps sp := by
  obtain ⟨fd, F, hm⟩ := F
  exact ⟨fd, F.okX S len hbody, F.binds hb, F.kp, hm⟩
theorem FnF.okG (F : FnF K mg x st) (S : FnScope N ps (defScope st)) (hb : BindRow x st ps) (len : ∀ vs H Q E, sp vs H Q E → vs.length = ps.length)
    (hbody : ∀ (cdv : Value) (A : Around) (outer : List Env) (s : Shared) (H : Hp) (vs : List V) (Q : VK) (E : XK), (A.deeper (envOfC x (defScope st) s.heap.objs.size (ga K x) cdv)).guards = some [] → Room k (A.deeper (envOfC x (defScope st) s.heap.objs.size (ga K x) cdv)) → sp vs H Q E →
      ∃ t, PSs (cxOf CX0 P w K mg base N x (defScope st) (ga K x) cdv A outer s H E).nox (defBody st) t ∧ t { nx := fun _ H' => Q .non H', rt := Q } (start N vs) H) : FnKG P w K mg base CX0 (k + 1) x ps sp := by
  obtain ⟨fd, F, hm⟩ := F
  have hB := F.binds hb
  have hP := F.kp
  obtain ⟨oc, od, kV, doc, pm, an, cdv, ct, osl, rfl, lk, hcd⟩ := F.ex
  refine ⟨_, fnG_of lk hcd S len fun A outer s H vs Q E hA hr hsp => ?_, hB, hP, hm⟩
  obtain ⟨t, h, q⟩ := hbody cdv A outer s H vs Q E hA hr hsp
  exact ⟨t, h.nox, q⟩
end
section
variable {X : Cx} {CX : CXT} {k : Nat} {ps : List Str} {sp : Sp} {E : XK} {x : Str} {p pos : Pos} {e : Expr} {es : List Expr} {t : TA}
/-- f(e, ..) -/
theorem pe_callF (F : FnK X.prog X.w X.K X.mg X.base CX k x ps sp) (hr : Room k X.A) (hx : Passes CX X E) (ha : PA X (e :: es) t) (hg : Gl X x := by rfl) (hdb : (x == ("__debug__" : Str)) = false := by decide)
    (he : starEach (e :: es) X.env = (false, eval e X.env) :: starEach es X.env := by rfl) (hpl : (backTo pos (starEach es X.env)).any (·.1) = false := by rfl) : PE X (.Call (.Name x p) (e :: es) [] pos) (tCall sp [] E t) :=
  let ⟨_, a, b, c, d⟩ := F; pe_call a hr hg d c b .nil hx ha hdb he hpl
theorem pe_callFG (hA : X.A.guards = some []) (F : FnKG X.prog X.w X.K X.mg X.base CX k x ps sp) (hr : Room k X.A) (hx : Passes CX X E) (ha : PA X (e :: es) t) (hg : Gl X x := by rfl) (hdb : (x == ("__debug__" : Str)) = false := by decide)
    (he : starEach (e :: es) X.env = (false, eval e X.env) :: starEach es X.env := by rfl) (hpl : (backTo pos (starEach es X.env)).any (·.1) = false := by rfl) : PE X (.Call (.Name x p) (e :: es) [] pos) (tCall sp [] E t) :=
  let ⟨_, a, b, c, d⟩ := F; pe_callG hA a hr hg d c b .nil hx ha hdb he hpl
/-- f(e, ..), f may raise; E by the caller's slots -/
theorem pe_callFS {E : St → XK} (F : FnK X.prog X.w X.K X.mg X.base CX k x ps sp) (hr : Room k X.A) (hx : ∀ σ, PassesAt CX X σ (E σ)) (ha : PA X (e :: es) t) (hg : Gl X x := by rfl) (hdb : (x == ("__debug__" : Str)) = false := by decide)
    (he : starEach (e :: es) X.env = (false, eval e X.env) :: starEach es X.env := by rfl) (hpl : (backTo pos (starEach es X.env)).any (·.1) = false := by rfl) : PE X (.Call (.Name x p) (e :: es) [] pos) (tCallS sp E t) :=
  let ⟨_, a, b, c, d⟩ := F; pe_callS a hr hg d c b hx ha hdb he hpl
end
end L2
set_option Elab.async false
set_option linter.all false
set_option maxRecDepth 100000
set_option maxHeartbeats 4000000
namespace L2
open PySem PySem.Spec PyProof.Rows
open Evl (Ex Ev EvA EvT EvL EvU)
open TL (tl)
/-! ### the bag of the draws; G: the heap of what never changes -/
def BagOk (xs : List V) : Prop := ∃ d m c : Int, xs = [.int d, .int m, .int c] ∧ 0 ≤ d ∧ 0 ≤ m ∧ m < 2 ^ 63
structure Stt (b : Addr) (G H : Hp) : Prop where
  sub : Ex G H
  nb : G b = none
  bag : ∃ xs, H b = some (.lst xs) ∧ BagOk xs
theorem Ex.none_of {G H : Hp} {p : Addr} (e : Ex G H) (h : H p = none) : G p = none := by
  cases q : G p with
  | none => rfl
  | some o => rw [e p o q] at h; cases h
theorem Stt.ex {b : Addr} {G H H' : Hp} (s : Stt b G H) (e : Ex H H') : Stt b G H' := by
  obtain ⟨xs, h, k⟩ := s.bag
  exact ⟨s.sub.trans e, s.nb, xs, e _ _ h, k⟩
theorem Stt.new {b p : Addr} {G H : Hp} {o : HO} (s : Stt b G H) (hp : H p = none) : Stt b (upd G p o) (upd H p o) := by
  obtain ⟨xs, h, k⟩ := s.bag
  have hb : b ≠ p := ne_of_none h hp
  refine ⟨fun a u e => ?_, ?_, xs, ?_, k⟩
  · by_cases ha : a = p
    · subst ha; rw [upd_same] at e ⊢; exact e
    · rw [upd_ne ha] at e ⊢; exact s.sub a u e
  · rw [upd_ne hb]; exact s.nb
  · rw [upd_ne hb]; exact h
theorem Stt.exN {b p : Addr} {G H : Hp} {o : HO} (s : Stt b G H) (hp : H p = none) : Ex G (upd G p o) := Ex.new (Ex.none_of s.sub hp)
theorem Stt.less {b : Addr} {G G' H : Hp} (s : Stt b G' H) (e : Ex G G') : Stt b G H := ⟨e.trans s.sub, Ex.none_of e s.nb, s.bag⟩
theorem Stt.put {b : Addr} {G H : Hp} {xs : List V} (s : Stt b G H) (k : BagOk xs) : Stt b G (upd H b (.lst xs)) := by
  refine ⟨fun a u e => ?_, s.nb, xs, upd_same, k⟩
  have ha : a ≠ b := ne_of_none e s.nb
  rw [upd_ne ha]
  exact s.sub a u e
/-- x = e, e one of several values; the heap stays -/
theorem asg_or {te : TE} {i : Nat} {D : Ends} {σ : St} {H : Hp} (Pv : V → Prop) (h : ∀ Q : VK, (∀ v, Pv v → Q v H) → te σ H Q) (k : ∀ v, Pv v → D.nx (σ.set i (some v)) H) : tAsg te (gName i) D σ H := h _ k
theorem asg_orH {te : TE} {i : Nat} {D : Ends} {σ : St} {H : Hp} (Pv : V → Hp → Prop) (h : ∀ Q : VK, (∀ v H', Pv v H' → Q v H') → te σ H Q) (k : ∀ v H', Pv v H' → D.nx (σ.set i (some v)) H') : tAsg te (gName i) D σ H := h _ k
/-- if c: .., c's answer by a word; the heap stays -/
theorem ifS_or {c : TT} {t1 t2 : TS} {D : Ends} {σ : St} {H : Hp} (Pb : Bool → Prop) (h : ∀ Q : Bool → Hp → Prop, (∀ b, Pb b → Q b H) → c σ H Q) (h1 : Pb true → t1 D σ H) (h2 : Pb false → t2 D σ H) : tIfS c t1 t2 D σ H := by
  refine h _ fun b hb => ?_
  cases b with
  | true => exact iteT (h1 hb)
  | false => exact iteF (h2 hb)
theorem yesT {σ : St} {H : Hp} {F G : Hp → Prop} (h : F H) : tYes σ H (fun b H3 => if b = true then F H3 else G H3) := by
  show (if true = true then F H else G H)
  exact iteT h
/-- _law_take(bag, many) -/
def spTake : Sp := fun vs H Q _ => ∃ (b : Addr) (many : Int) (G : Hp), vs = [.ref b, .int many] ∧ 0 < many ∧ many ≤ 10 ^ 60 ∧ Stt b G H ∧ ∀ (r : Int) (H' : Hp), 0 ≤ r → r < many → Stt b G H' → Q (.int r) H'
/-- _law_of(bag, some): a list, a text -/
def spOf (K : PySem.W.Frag) : Sp := fun vs H Q _ => ∃ (b : Addr) (G : Hp) (x : V), vs = [.ref b, x] ∧ Stt b G H ∧
  ((∃ (a : Addr) (xs : List V), x = .ref a ∧ SqL K G a xs ∧ xs ≠ [] ∧ xs.length ≤ 1000 ∧ ∀ (v : V) (H' : Hp), v ∈ xs → Stt b G H' → Q v H') ∨
   (∃ z : Str, x = .str z ∧ tl z ≠ [] ∧ z.length ≤ 1000 ∧ ∀ (c : Nat) (H' : Hp), c ∈ tl z → Stt b G H' → Q (.str ⟨#[c]⟩) H'))
theorem sz10 {n : Nat} (h : n ≤ 1000) : n ≤ sizeLine := Nat.le_trans h (by decide)
theorem mod_small {a b : Int} (h0 : 0 < b) (h : b ≤ 2 ^ 63) : -(2 ^ 64) < a % b ∧ a % b < 2 ^ 64 := by
  have h1 := Int.emod_nonneg a (show b ≠ 0 by omega)
  have h2 := Int.emod_lt_of_pos a h0
  omega
theorem pow_small {a m : Int} (hm : 0 ≤ m) (hm2 : m < 2 ^ 63) : CPow (a % 2305843009213693951 / 64 + m) 2 := by
  have h1 := Int.emod_nonneg a (show (2305843009213693951 : Int) ≠ 0 by decide)
  have h2 := Int.emod_lt_of_pos a (show (0 : Int) < 2305843009213693951 by decide)
  exact ⟨by decide, by decide, by omega⟩
theorem div_ok {i j : Int} (h0 : 0 < j) (h : j ≤ 10 ^ 60) : CDivW i j := by
  refine wide_div (b := 200) h0 ?_ (by decide) (by decide)
  have h1 : (10 : Int) ^ 60 < 2 ^ 200 := by decide
  have h2 : j < 2 ^ 200 := by omega
  have h3 : (j.natAbs : Int) = j := Int.natAbs_of_nonneg (by omega)
  have h4 : ((2 ^ 200 : Nat) : Int) = (2 : Int) ^ 200 := by decide
  omega
end L2
set_option Elab.async false
set_option linter.all false
set_option maxRecDepth 100000
set_option maxHeartbeats 4000000
namespace L2
open PySem PySem.Spec PyProof.Rows
open Evl (Ex Ev EvA EvT EvL EvU)
open TL (tl)
/-! ### names -/
def NameL (l : List Nat) : Prop := 1 ≤ l.length ∧ l.length ≤ 8 ∧ ∀ c ∈ l, 97 ≤ c ∧ c ≤ 122
abbrev NameS (z : Str) : Prop := NameL (tl z)
def abc : Str := "abcdefghijklmnopqrstuvwxyz"
theorem abc_tl : tl abc = (List.range 26).map (97 + ·) := by decide +kernel
theorem abc_len : abc.length = 26 := by decide +kernel
theorem abc_mem {c : Nat} (h : c ∈ tl abc) : 97 ≤ c ∧ c ≤ 122 := by
  rw [abc_tl] at h
  obtain ⟨i, hi, rfl⟩ := List.mem_map.mp h
  have := List.mem_range.mp hi
  omega
theorem abc_in {c : Nat} (h : 97 ≤ c ∧ c ≤ 122) : c ∈ tl abc := by
  rw [abc_tl]
  exact List.mem_map.mpr ⟨c - 97, List.mem_range.mpr (by omega), by omega⟩
theorem abc_at {i : Nat} (h : i < 26) : atI (tl abc) (i : Int) = some (97 + i) := by
  refine atI_nat ?_
  rw [abc_tl, List.getElem?_map, List.getElem?_range h]
  rfl
theorem inV_str (z : Str) (l : List Str) : inV (.str z) (l.map V.str) = decide (z ∈ l) := by
  unfold inV
  rw [List.any_map]
  induction l with
  | nil => rfl
  | cons y r ih =>
    rw [List.any_cons, ih]
    have e : ((fun y => eqV y (V.str z)) ∘ V.str) y = (y == z) := rfl
    rw [e]
    by_cases h : y = z
    · subst h; simp
    · have h1 : (y == z) = false := by simpa using h
      have h2 : z ≠ y := fun e => h e.symm
      rw [h1]
      simp [h2]
theorem w_flat_strs (l : List Str) : (l.map V.str).all flatV = true := by
  rw [List.all_map]
  exact List.all_eq_true.mpr fun _ _ => rfl
/-! ### slices -/
theorem tl_cut_to (z : Str) {i : Nat} (h : i ≤ (tl z).length) : tl (cutS z none (some (i : Int))) = (tl z).take i := by
  show ((tl z).drop (HT.sIx z.length 0 none)).take _ = _
  rw [HT.sIx_none, HT.sIx_nat, TL.len_tl z, Nat.min_eq_left h]
  rfl
theorem tl_cut_from (z : Str) {i : Nat} (h : i ≤ (tl z).length) : tl (cutS z (some (i : Int)) none) = (tl z).drop i := by
  show ((tl z).drop (HT.sIx z.length 0 (some (i : Int)))).take _ = _
  rw [HT.sIx_none, HT.sIx_nat, TL.len_tl z, Nat.min_eq_left h]
  exact List.take_of_length_le (by rw [List.length_drop]; omega)
theorem set_cut {l : List Nat} {i c : Nat} (h : i < l.length) : l.take i ++ [c] ++ l.drop (i + 1) = l.set i c := by
  rw [List.set_eq_take_append_cons_drop, if_pos h]
  simp
theorem NameL.set {l : List Nat} {i c : Nat} (n : NameL l) (hc : 97 ≤ c ∧ c ≤ 122) : NameL (l.set i c) := by
  obtain ⟨a, b, d⟩ := n
  refine ⟨by rw [List.length_set]; exact a, by rw [List.length_set]; exact b, fun x hx => ?_⟩
  rcases List.mem_or_eq_of_mem_set hx with h | h
  · exact d x h
  · subst h; exact hc
/-! ### pigeons -/
theorem nodup_len {α : Type} [DecidableEq α] : ∀ {l m : List α}, l.Nodup → (∀ x ∈ l, x ∈ m) → l.length ≤ m.length
  | [], _, _, _ => Nat.zero_le _
  | a :: l, m, nd, h => by
    have h1 : a ∈ m := h a List.mem_cons_self
    have nd' := List.nodup_cons.mp nd
    have ih := nodup_len (l := l) (m := m.erase a) nd'.2 fun x hx => by
      have hne : x ≠ a := by rintro rfl; exact nd'.1 hx
      exact (List.mem_erase_of_ne hne).mpr (h x (List.mem_cons_of_mem _ hx))
    rw [List.length_erase_of_mem h1] at ih
    have := List.length_pos_of_mem h1
    rw [List.length_cons]
    omega
/-- the word with another letter at a place -/
def wordAt (l : List Nat) (sp f j : Nat) : Str := ⟨(l.set sp (97 + (f + j) % 26)).toArray⟩
theorem wordAt_inj {l : List Nat} {sp f i j : Nat} (hs : sp < l.length) (hi : i < 26) (hj : j < 26) (e : wordAt l sp f i = wordAt l sp f j) : i = j := by
  have e1 : l.set sp (97 + (f + i) % 26) = l.set sp (97 + (f + j) % 26) := congrArg tl e
  have e2 := congrArg (fun m => m[sp]?) e1
  simp only [List.getElem?_set_self hs] at e2
  have e3 := Option.some.inj e2
  omega
theorem words_many {l : List Nat} {sp f : Nat} {taken : List Str} (hs : sp < l.length) (h : ∀ j < 26, wordAt l sp f j ∈ taken) : 26 ≤ taken.length := by
  have h1 : ((List.range 26).map (wordAt l sp f)).Nodup := by
    refine List.pairwise_map.mpr (List.Pairwise.imp_of_mem ?_ List.nodup_range)
    intro a b ha hb hne e
    exact hne (wordAt_inj hs (List.mem_range.mp ha) (List.mem_range.mp hb) e)
  have h2 := nodup_len h1 fun x hx => by
    obtain ⟨j, hj, rfl⟩ := List.mem_map.mp hx
    exact h j (List.mem_range.mp hj)
  simpa using h2
/-! ### texts joined -/
theorem tl_join0 (ys : List Str) : tl (Txt.join Str.empty ys) = (ys.map tl).flatten := by
  rw [TL.join_eq, TL.tl_join]
  show TL.joinL [] (ys.map tl) = _
  generalize ys.map tl = l
  induction l with
  | nil => rfl
  | cons p r ih =>
    cases r with
    | nil => simp [TL.joinL]
    | cons q r => show p ++ ([] ++ TL.joinL [] (q :: r)) = _; rw [ih]; simp
/-! ### the state with an object more, or a list that grows -/
theorem Stt.with {b p : Addr} {G H : Hp} {o : HO} (s : Stt b G H) (hp : H p = some o) (hb : p ≠ b) : Stt b (upd G p o) H := by
  refine ⟨fun a u e => ?_, ?_, s.bag⟩
  · by_cases ha : a = p
    · subst ha; rw [upd_same] at e; rw [hp]; exact e
    · rw [upd_ne ha] at e; exact s.sub a u e
  · rw [upd_ne hb.symm]; exact s.nb
theorem Stt.exW {b p : Addr} {G H : Hp} {o : HO} (s : Stt b G H) (hp : H p = some o) : Ex G (upd G p o) := fun a u e => by
  by_cases ha : a = p
  · subst ha; rw [upd_same, ← hp]; exact s.sub _ _ e
  · rw [upd_ne ha]; exact e
theorem Stt.mut {b p : Addr} {G H : Hp} {o : HO} (s : Stt b G H) (hp : G p = none) (hb : p ≠ b) : Stt b G (upd H p o) := by
  obtain ⟨xs, h, k⟩ := s.bag
  refine ⟨fun a u e => ?_, s.nb, xs, ?_, k⟩
  · rw [upd_ne (ne_of_none e hp)]; exact s.sub a u e
  · rw [upd_ne hb.symm]; exact h
theorem Stt.free {b p : Addr} {G H : Hp} (s : Stt b G H) (hp : H p = none) : G p = none ∧ p ≠ b := by
  obtain ⟨xs, h, k⟩ := s.bag
  exact ⟨Ex.none_of s.sub hp, (ne_of_none h hp).symm⟩
end L2
set_option Elab.async false
set_option linter.all false
set_option maxRecDepth 100000
set_option maxHeartbeats 4000000
namespace L2
open PySem PySem.Spec PyProof.Rows
open Evl (Ex Ev EvA EvT EvL EvU)
open TL (tl)
theorem sz5 {n : Nat} (h : n ≤ 100000) : n ≤ sizeLine := Nat.le_trans h (by decide)
theorem sz5l {n : Nat} (h : n < 100000) : n < sizeLine := Nat.lt_of_lt_of_le h (by decide)
/-- [e for x in ..], e pure: the new list holds f 0, f 1, .. -/
theorem lc_name {J : It} {n : Nat} {G : Hp → Prop} {Y : Nat → Hp → V → Hp → Prop} (wk : Walk J n G Y) {te : TE} {vs : List Nat} {σ : St} {H1 : Hp} {D : Addr} {Qd : Hp → Prop} {j : Nat} (f : Nat → V)
    (hD : H1 D = none) (hG : ∀ H, Ex H1 H → G H) (hn : n ≤ 100000) (hw : ∀ x, wipe (List.set (wipe σ vs) j (some x)) vs = wipe σ vs)
    (hs : ∀ i x H H', i < n → Ex H1 H → Y i H x H' → H' = H ∧ ∀ Qe : VK, (∀ H'', Ex H H'' → Qe (f i) H'') → te (List.set (wipe σ vs) j (some x)) H Qe)
    (hd : ∀ H, Ex H1 H → H D = some (.lst ((List.range n).map f)) → Qd H) :
    ∃ W : Nat → Nat → Hp → Prop, (∃ m, W 0 m (upd H1 D (.lst []))) ∧ ∀ i m H, W i m H →
      (J.stop i H ∧ Qd H) ∨ (J.go i H ∧ ∃ Nx : Hp → Prop, (∀ H', Nx H' → ∃ m', m' < m ∧ W (i + 1) m' H') ∧ ∀ x H', J.yld i H x H' → gName j x (wipe σ vs) H' fun σ2 H2 => wipe σ2 vs = wipe σ vs ∧ tYes σ2 H2 fun b H3 =>
        if b = true then te σ2 H3 fun y H4 => ∃ acc, H4 D = some (.lst acc) ∧ acc.length < sizeLine ∧ Nx (upd H4 D (.lst (acc ++ [y]))) else Nx H3) := by
  refine lc_it wk (fun i H => Ex H1 H ∧ H D = some (.lst ((List.range i).map f))) ⟨Ex.new hD, upd_same⟩ (fun i H _ h => hG H h.1) ?_ (fun H h => hd H h.1 h.2)
  rintro i x H H' hi ⟨e1, e2⟩ y
  obtain ⟨rfl, h⟩ := hs i x H H' hi e1 y
  refine ⟨hw x, yesT (h _ fun H'' ex => ?_)⟩
  refine ⟨_, ex _ _ e2, sz5l (by rw [List.length_map, List.length_range]; omega), Ex.mut (e1.trans ex) hD, ?_⟩
  rw [upd_same, List.range_succ, List.map_append]
  rfl
/-- texts, sign by sign -/
theorem str_at {z : Str} {i : Nat} {c : Nat} (h : z.cps[i]? = some c) : (tl z)[i]? = some c := by
  rw [← h]
  simp [tl]
theorem range_tl {α : Type} (z : Str) (g : Nat → α) (f : Nat → α) (h : ∀ i c, (tl z)[i]? = some c → f i = g c) : (List.range (tl z).length).map f = (tl z).map g := by
  apply List.ext_getElem?
  intro i
  rw [List.getElem?_map, List.getElem?_map]
  by_cases hi : i < (tl z).length
  · rw [List.getElem?_range hi, List.getElem?_eq_getElem hi]
    show some (f i) = some (g (tl z)[i])
    rw [h i _ (List.getElem?_eq_getElem hi)]
  · rw [List.getElem?_eq_none (by rw [List.length_range]; omega), List.getElem?_eq_none (by omega)]
    rfl
theorem range_list {α β : Type} (xs : List β) (g : β → α) (f : Nat → α) (h : ∀ i x, xs[i]? = some x → f i = g x) : (List.range xs.length).map f = xs.map g := by
  apply List.ext_getElem?
  intro i
  rw [List.getElem?_map, List.getElem?_map]
  by_cases hi : i < xs.length
  · rw [List.getElem?_range hi, List.getElem?_eq_getElem hi]
    show some (f i) = some (g xs[i])
    rw [h i _ (List.getElem?_eq_getElem hi)]
  · rw [List.getElem?_eq_none (by rw [List.length_range]; omega), List.getElem?_eq_none (by omega)]
    rfl
theorem size_tl (z : Str) : z.cps.size = (tl z).length := by simp [tl]
/-- a module's constant -/
theorem pe_gv {X : Cx} {x : Str} {v : V} {pos : Pos} (h : ∃ u, X.mg x = some u ∧ RelV v u) (hg : Gl X x := by rfl) (hd : (x == ("__debug__" : Str)) = false := by decide) : PE X (.Name x pos) (tC v) :=
  let ⟨_, a, r⟩ := h; pe_glob hg a r hd
/-! ### data -/
abbrev BoolD (b : Bool) : V := .bl b
/-- a value's type -/
def tyD : PyData → String
  | .none => "NoneType"
  | .bool _ => "bool"
  | .int _ => "int"
  | .str _ => "str"
  | .list _ => "list"
  | .tuple _ => "tuple"
  | .dict _ => "dict"
theorem tyx_of {K : PySem.W.Frag} {H : Hp} {v : V} {d : PyData} (h : Dp K H v d) : TyX K H v (.type (tyD d)) := by
  cases h with
  | non => exact .base .non
  | bl b => exact .base (.bl b)
  | int i => exact .base (.int i)
  | str x => exact .base (.str x)
  | @lst a xs ds h1 _ =>
    rcases h1 with (h1 | ⟨o, h1⟩) | ⟨o, its, n, h1, h2, _⟩
    · exact .base (.lst h1)
    · exact .base (.frz h1)
    · exact .kList h1 h2
  | @tup a xs ds h1 _ =>
    rcases h1 with (h1 | ⟨o, h1⟩) | ⟨o, its, n, h1, h2, _⟩
    · exact .base (.tup h1)
    · exact .fTuple h1
    · exact .kTuple h1 h2
def isInt : PyData → Bool
  | .int _ => true
  | .bool _ => true
  | _ => false
def isBool : PyData → Bool
  | .bool _ => true
  | _ => false
def isStr : PyData → Bool
  | .str _ => true
  | _ => false
def isTup : PyData → Bool
  | .tuple _ => true
  | _ => false
theorem kit_int {K : PySem.W.Frag} : ∀ d : PyData, PySem.W.kitOne K (.type (tyD d)) (.type "int") = some (isInt d)
  | .none => kit_ty (show kitB "NoneType" "int" = some false by decide +kernel)
  | .bool _ => kit_ty (show kitB "bool" "int" = some true by decide +kernel)
  | .int _ => kit_ty (show kitB "int" "int" = some true by decide +kernel)
  | .str _ => kit_ty (show kitB "str" "int" = some false by decide +kernel)
  | .list _ => kit_ty (show kitB "list" "int" = some false by decide +kernel)
  | .tuple _ => kit_ty (show kitB "tuple" "int" = some false by decide +kernel)
  | .dict _ => kit_ty (show kitB "dict" "int" = some false by decide +kernel)
theorem kit_bool {K : PySem.W.Frag} : ∀ d : PyData, PySem.W.kitOne K (.type (tyD d)) (.type "bool") = some (isBool d)
  | .none => kit_ty (show kitB "NoneType" "bool" = some false by decide +kernel)
  | .bool _ => kit_ty (show kitB "bool" "bool" = some true by decide +kernel)
  | .int _ => kit_ty (show kitB "int" "bool" = some false by decide +kernel)
  | .str _ => kit_ty (show kitB "str" "bool" = some false by decide +kernel)
  | .list _ => kit_ty (show kitB "list" "bool" = some false by decide +kernel)
  | .tuple _ => kit_ty (show kitB "tuple" "bool" = some false by decide +kernel)
  | .dict _ => kit_ty (show kitB "dict" "bool" = some false by decide +kernel)
theorem kit_str {K : PySem.W.Frag} : ∀ d : PyData, PySem.W.kitOne K (.type (tyD d)) (.type "str") = some (isStr d)
  | .none => kit_ty (show kitB "NoneType" "str" = some false by decide +kernel)
  | .bool _ => kit_ty (show kitB "bool" "str" = some false by decide +kernel)
  | .int _ => kit_ty (show kitB "int" "str" = some false by decide +kernel)
  | .str _ => kit_ty (show kitB "str" "str" = some true by decide +kernel)
  | .list _ => kit_ty (show kitB "list" "str" = some false by decide +kernel)
  | .tuple _ => kit_ty (show kitB "tuple" "str" = some false by decide +kernel)
  | .dict _ => kit_ty (show kitB "dict" "str" = some false by decide +kernel)
theorem kit_tup {K : PySem.W.Frag} : ∀ d : PyData, PySem.W.kitOne K (.type (tyD d)) (.type "tuple") = some (isTup d)
  | .none => kit_ty (show kitB "NoneType" "tuple" = some false by decide +kernel)
  | .bool _ => kit_ty (show kitB "bool" "tuple" = some false by decide +kernel)
  | .int _ => kit_ty (show kitB "int" "tuple" = some false by decide +kernel)
  | .str _ => kit_ty (show kitB "str" "tuple" = some false by decide +kernel)
  | .list _ => kit_ty (show kitB "list" "tuple" = some false by decide +kernel)
  | .tuple _ => kit_ty (show kitB "tuple" "tuple" = some true by decide +kernel)
  | .dict _ => kit_ty (show kitB "dict" "tuple" = some false by decide +kernel)
mutual
theorem Dp.ex {K : PySem.W.Frag} {H H' : Hp} (e : Ex H H') : ∀ {d : PyData} {v : V}, Dp K H v d → Dp K H' v d
  | _, _, .non => .non
  | _, _, .bl b => .bl b
  | _, _, .int i => .int i
  | _, _, .str x => .str x
  | _, _, .lst h1 h2 => .lst (Evl.ex_l e h1) (DpAll.ex e h2)
  | _, _, .tup h1 h2 => .tup (Evl.ex_t e h1) (DpAll.ex e h2)
theorem DpAll.ex {K : PySem.W.Frag} {H H' : Hp} (e : Ex H H') : ∀ {ds : List PyData} {vs : List V}, DpAll K H vs ds → DpAll K H' vs ds
  | _, _, .nil => .nil
  | _, _, .cons h1 h2 => .cons (Dp.ex e h1) (DpAll.ex e h2)
end
end L2
set_option Elab.async false
set_option linter.all false
set_option maxRecDepth 100000
set_option maxHeartbeats 4000000
namespace L2
open PySem PySem.Spec PyProof.Rows
/-- C.m is a staticmethod: its record at p, its def at g -/
structure SMet (K : PySem.W.Frag) (C : Addr) (m : Str) (p g : Addr) : Prop where
  rd : ClX.CRead K C (.type "type")
  at_ : PySem.W.findCls K (.ref C) (.type "type") m = some (.get (.builtin "staticmethod.__get__") (.ref p) .none (.ref C))
  rc : ∃ rest, PySem.W.recIn K p "staticmethod" = some (.ref g :: rest)
/-- C.m(..) -/
def tSMeth (C : Addr) (sp : Sp) (E : St → XK) (ta : TE) (t : TA) : TE := fun σ H Q => ta σ H fun x H1 => x = .ref C ∧ t σ H1 fun vs H2 => sp vs H2 Q (E σ)
section
variable {X : Cx} {CX : CXT} {k : Nat} {C p g : Addr} {fd : FuncData} {ps : List Str} {sp : Sp} {E : St → XK} {o e : Expr} {es : List Expr} {m : Str} {pos apos : Pos} {ta : TE} {t : TA} {pl : Sem Bool}
theorem pe_smeth (he : PE X o ta) (c : SMet X.K C m p g) (F : FnOk X.prog X.w X.K X.mg X.base CX k g fd ps sp) (hr : Room k X.A) (hk : PySem.W.keepIn X.K (.ref g) = true) (hb : Binds X.K fd ps []) (hx : ∀ σ, PassesAt CX X σ (E σ)) (ha : PA X (e :: es) t)
    (hst : starEach (e :: es) X.env = (false, eval e X.env) :: starEach es X.env := by rfl) (hpl : (backTo pos (starEach es X.env)).any (·.1) = false := by rfl)
    (ht : eval (.Call (.Attribute o m apos) (e :: es) [] pos) X.env = (do
      let ov ← eval o X.env
      standAt apos.atName
      let (f, first) ← holding [ov] (getMethod ov m pl)
      callWith pos f first (backTo pos (starEach (e :: es) X.env)) (backToKw pos (keywordEach [] X.env))) := by rfl) :
    PE X (.Call (.Attribute o m apos) (e :: es) [] pos) (tSMeth C sp E ta t) := by
  refine ⟨fun pins s σ H Q I h => ?_⟩
  refine PySem.W.methodCall_KW (pl := pl) (thn (he.run pins s σ H _ I h) fun u s1 ⟨x, H1, I1, rx, ex, q⟩ => ?_) ht
  subst ex
  obtain rfl : u = Value.ref C := rx
  obtain ⟨rest, hp⟩ := c.rc
  refine PySem.W.method_cls I1.kIn c.rd.ga (PySem.W.cls_bind I1.kIn c.rd.rd c.at_ ?_)
  refine wpAny_call (PySem.W.sm_get (s := { s1 with toks := s1.toks + 1 }) I1.kIn hp (PySem.W.handed_on rfl ?_))
  have I2 : Inv X pins σ H1 { s1 with toks := s1.toks + 1 } := I1.tok _
  refine PySem.W.callWith_K (first := []) (h₀ := X.base) I.ok.mod.kin hk (thn (ha.run pos pins _ σ H1 _ I2 q) fun us s3 ⟨vs, H2, I3, rv, q2⟩ => ⟨I3.kIn, ?_⟩) hst hpl
  exact run_fnS F hr hb (hx σ) I3 rv q2
end
/-- an error of the class is what «except C» names -/
theorem _root_.PySem.WErr.ErrTxt.te {prog : Program} {K : PySem.W.Frag} {mg : Str → Option Value} {x fl : Str} {C fI : Addr} (T : PySem.WErr.ErrTxt prog K mg x fl C fI) : PySem.W.exmOne K (.ref C) (.ref C) = some true := by
  obtain ⟨nm, q, N, bs, bm, sn, sub, ab, col, dd, k0, k1, k2, k3, k5, hC, hbm⟩ := T.cls
  have h2 : (PySem.W.clsIn K C).isSome = true := by unfold PySem.W.clsIn; rw [hC]; rfl
  have e1 : (PySem.W.subIn K (.ref C) (.type "BaseException") == some true) = true := by rw [T.exC]; rfl
  have e2 : ((PySem.W.clsIn K C).isSome && PySem.W.typeIn K (.ref C) == some (.type "type")) = true := by rw [h2, T.tyC]; rfl
  show (if (PySem.W.subIn K (.ref C) (.type "BaseException") == some true) = true then (if ((PySem.W.clsIn K C).isSome && PySem.W.typeIn K (.ref C) == some (.type "type")) = true then PySem.W.subIn K (.ref C) (.ref C) else none) else none) = some true
  rw [if_pos e1, if_pos e2]
  exact T.own
/-- if c: .., by a word of the answer and the heap -/
theorem ifS_orH {c : TT} {t1 t2 : TS} {D : Ends} {σ : St} {H : Hp} (Pb : Bool → Hp → Prop) (h : ∀ Q : Bool → Hp → Prop, (∀ b H', Pb b H' → Q b H') → c σ H Q) (h1 : ∀ H', Pb true H' → t1 D σ H') (h2 : ∀ H', Pb false H' → t2 D σ H') : tIfS c t1 t2 D σ H := by
  refine h _ fun b H' hb => ?_
  cases b with
  | true => exact iteT (h1 H' hb)
  | false => exact iteF (h2 H' hb)
/-! ### a def at any address (a method, a staticmethod): what it is, what it promises -/
def MtF (K : PySem.W.Frag) (x qual : Str) (st : Stmt) (f : Addr) : Prop := ∃ fd, Fun K x qual st f fd
def MtK (P : Program) (w : World) (K : PySem.W.Frag) (mg : Str → Option Value) (base : Heap) (CX : CXT) (k : Nat) (f : Addr) (ps : List Str) (sp : Sp) : Prop :=
  ∃ fd, FnOk P w K mg base CX k f fd ps sp ∧ Binds K fd ps [] ∧ PySem.W.keepIn K (.ref f) = true
abbrev BindRowQ (x qual : Str) (st : Stmt) (ps : List Str) : Prop := ∀ (kV doc pm : Value) (an : Option Addr) (cdv ct : Value) (us : List Value), us.length = ps.length → bindArgs (PySem.W.fnOf x qual (defArgs st) (defBody st) (defScope st) .none kV doc pm an cdv ct) ⟨us, []⟩ = pure (ps.zip us)
section
variable {P : Program} {w : World} {K : PySem.W.Frag} {mg : Str → Option Value} {base : Heap} {CX : CXT} {j k : Nat} {x qual : Str} {st : Stmt} {f : Addr} {N ps : List Str} {sp : Sp}
theorem MtK.mono (F : MtK P w K mg base CX j f ps sp) (h : j ≤ k) : MtK P w K mg base CX k f ps sp := let ⟨fd, a, b⟩ := F; ⟨fd, a.mono h, b⟩
theorem MtF.ok (F : MtF K x qual st f) (S : FnScope N ps (defScope st)) (hb : BindRowQ x qual st ps) (len : ∀ vs H Q E, sp vs H Q E → vs.length = ps.length)
    (hbody : ∀ (cdv : Value) (A : Around) (outer : List Env) (s : Shared) (H : Hp) (vs : List V) (Q : VK) (E : XK), Room k (A.deeper (envOfC qual (defScope st) s.heap.objs.size f cdv)) → sp vs H Q E →
      ∃ t, PSs (cxOf CX0 P w K mg base N qual (defScope st) f cdv A outer s H E).nox (defBody st) t ∧ t { nx := fun _ H' => Q .non H', rt := Q } (start N vs) H) : MtK P w K mg base CX0 (k + 1) f ps sp := by
  obtain ⟨fd, F⟩ := F
  exact ⟨fd, F.ok S len hbody, F.binds hb, F.kp⟩
theorem MtF.okX (F : MtF K x qual st f) (S : FnScope N ps (defScope st)) (hb : BindRowQ x qual st ps) (len : ∀ vs H Q E, sp vs H Q E → vs.length = ps.length)
    (hbody : ∀ (cdv : Value) (A : Around) (outer : List Env) (s : Shared) (H : Hp) (vs : List V) (Q : VK) (E : XK), Room k (A.deeper (envOfC qual (defScope st) s.heap.objs.size f cdv)) → sp vs H Q E →
      ∃ t, PSs (cxOf (L2.CX P w) P w K mg base N qual (defScope st) f cdv A outer s H E) (defBody st) t ∧ t { nx := fun _ H' => Q .non H', rt := Q } (start N vs) H) : MtK P w K mg base (L2.CX P w) (k + 1) f ps sp := by
  obtain ⟨fd, F⟩ := F
  exact ⟨fd, F.okX S len hbody, F.binds hb, F.kp⟩
end
theorem pe_smethF {X : Cx} {CX : CXT} {k : Nat} {C p g : Addr} {ps : List Str} {sp : Sp} {E : St → XK} {o e : Expr} {es : List Expr} {m : Str} {pos apos : Pos} {ta : TE} {t : TA} {pl : Sem Bool} (he : PE X o ta) (c : SMet X.K C m p g) (F : MtK X.prog X.w X.K X.mg X.base CX k g ps sp) (hr : Room k X.A) (hx : ∀ σ, PassesAt CX X σ (E σ)) (ha : PA X (e :: es) t)
    (hst : starEach (e :: es) X.env = (false, eval e X.env) :: starEach es X.env := by rfl) (hpl : (backTo pos (starEach es X.env)).any (·.1) = false := by rfl)
    (ht : eval (.Call (.Attribute o m apos) (e :: es) [] pos) X.env = (do
      let ov ← eval o X.env
      standAt apos.atName
      let (f, first) ← holding [ov] (getMethod ov m pl)
      callWith pos f first (backTo pos (starEach (e :: es) X.env)) (backToKw pos (keywordEach [] X.env))) := by rfl) :
    PE X (.Call (.Attribute o m apos) (e :: es) [] pos) (tSMeth C sp E ta t) :=
  let ⟨_, a, b, c'⟩ := F; pe_smeth he c a hr c' b hx ha hst hpl ht
end L2

namespace WH
open PySem PySem.Spec PyProof.Rows L2
open He (ga ma ba eqO eqO_ok)
def mkD (x : Str) (st : Stmt) : He5.DefA := ⟨fun K => ga K x, x, x, defArgs st, defBody st, defScope st, [], []⟩
def mkS (C m q : Str) (st : Stmt) : He5.DefA := ⟨fun K => He5.wf K (ga K C) "staticmethod" m, m, q, defArgs st, defBody st, defScope st, [], []⟩
/-- a staticmethod of a class, read off the class -/
def cSm (C m : Str) : Chk := fun K => He5.wrapB K (ga K C) "staticmethod" "staticmethod.__get__" m && (PySem.W.readsIn K (ga K C) (.type "type") && eqO (PySem.W.specialIn K (.ref (ga K C)) "__getattribute__") (some (some (.builtin "type.__getattribute__"))))
theorem smet_ok {K : Frag} {C m : Str} (c : cSm C m K = true) : SMet K (ga K C) m (ma K (ga K C) m) (He5.wf K (ga K C) "staticmethod" m) := by
  obtain ⟨c1, c2⟩ := ba c
  obtain ⟨c2, c3⟩ := ba c2
  obtain ⟨h1, h2⟩ := He5.wrapB_ok c1
  exact ⟨⟨c2, eqO_ok c3⟩, h1, h2⟩
end WH
set_option Elab.async false
set_option linter.all false
set_option maxRecDepth 100000
set_option maxHeartbeats 4000000
namespace L2
open PySem PySem.Spec PyProof.Rows
open TL (tl)
/-! ### data that may be compared and shown -/
mutual
/-- ints below 10^100, texts of plain signs, no dicts -/
def gd : PyData → Bool
  | .none => true
  | .bool _ => true
  | .int i => decide (i.natAbs < 10 ^ 100)
  | .str x => (tl x).all fun c => decide (c < 128)
  | .list xs => gdAll xs
  | .tuple xs => gdAll xs
  | .dict _ => false
def gdAll : List PyData → Bool
  | [] => true
  | x :: xs => gd x && gdAll xs
end
mutual
/-- a bound of the signs that show it -/
def wt : PyData → Nat
  | .none => 4
  | .bool _ => 5
  | .int _ => 101
  | .str x => 10 * x.length + 2
  | .list xs => wtAll xs + 3
  | .tuple xs => wtAll xs + 3
  | .dict _ => 0
def wtAll : List PyData → Nat
  | [] => 0
  | x :: xs => wt x + 2 + wtAll xs
end
set_option exponentiation.threshold 3000 in
theorem log2_small {n : Nat} (h : n < 10 ^ 100) : n.log2 < 1920 := by
  by_cases h0 : n = 0
  · subst h0; decide
  · exact (Nat.log2_lt h0).mpr (Nat.lt_of_lt_of_le h (by decide))
mutual
theorem gd_can : ∀ d : PyData, gd d = true → d.canLay0 = true
  | .none, _ => rfl
  | .bool _, _ => rfl
  | .int _, _ => rfl
  | .str x, h => by
    have h1 : (tl x).all (fun c => decide (c < 128)) = true := by simpa [gd] using h
    simp only [PyData.canLay0, PyData.strOk]
    rw [← Array.all_toList]
    refine List.all_eq_true.mpr fun c hc => ?_
    have h2 : c < 128 := of_decide_eq_true (List.all_eq_true.mp h1 c hc)
    simp
    omega
  | .list xs, h => by
    simp only [PyData.canLay0]
    exact gd_canAll xs (by simpa [gd] using h)
  | .tuple xs, h => by
    simp only [PyData.canLay0]
    exact gd_canAll xs (by simpa [gd] using h)
  | .dict _, h => by simp [gd] at h
theorem gd_canAll : ∀ xs : List PyData, gdAll xs = true → PyData.canLayAll0 xs = true
  | [], _ => rfl
  | x :: xs, h => by
    have h' : gd x = true ∧ gdAll xs = true := by simpa [gdAll] using h
    simp only [PyData.canLayAll0, gd_can x h'.1, gd_canAll xs h'.2, Bool.and_self]
end
mutual
theorem gd_showable : ∀ d : PyData, gd d = true → d.showable = true
  | .none, _ => rfl
  | .bool _, _ => rfl
  | .int i, h => by
    simp only [PyData.showable]
    exact decide_eq_true (log2_small (of_decide_eq_true (by simpa [gd] using h)))
  | .str _, _ => rfl
  | .list xs, h => by
    simp only [PyData.showable]
    exact gd_showableAll xs (by simpa [gd] using h)
  | .tuple xs, h => by
    simp only [PyData.showable]
    exact gd_showableAll xs (by simpa [gd] using h)
  | .dict _, h => by simp [gd] at h
theorem gd_showableAll : ∀ xs : List PyData, gdAll xs = true → PyData.showableAll xs = true
  | [], _ => rfl
  | x :: xs, h => by
    have h' : gd x = true ∧ gdAll xs = true := by simpa [gdAll] using h
    simp only [PyData.showableAll, gd_showable x h'.1, gd_showableAll xs h'.2, Bool.and_self]
end
mutual
theorem gd_nodict : ∀ d : PyData, gd d = true → d.hasDict = false
  | .none, _ => rfl
  | .bool _, _ => rfl
  | .int _, _ => rfl
  | .str _, _ => rfl
  | .list xs, h => by
    simp only [PyData.hasDict]
    exact gd_nodictAll xs (by simpa [gd] using h)
  | .tuple xs, h => by
    simp only [PyData.hasDict]
    exact gd_nodictAll xs (by simpa [gd] using h)
  | .dict _, h => by simp [gd] at h
theorem gd_nodictAll : ∀ xs : List PyData, gdAll xs = true → PyData.hasDictAll xs = false
  | [], _ => rfl
  | x :: xs, h => by
    have h' : gd x = true ∧ gdAll xs = true := by simpa [gdAll] using h
    simp only [PyData.hasDictAll, gd_nodict x h'.1, gd_nodictAll xs h'.2, Bool.or_self]
end
mutual
theorem gd_len : ∀ d : PyData, gd d = true → d.shown.length ≤ wt d
  | .none, _ => by simp only [PyData.shown, wt]; decide
  | .bool b, _ => by cases b <;> (simp only [PyData.shown, wt]; decide)
  | .int i, h => by
    simp only [PyData.shown, wt]
    have h1 : i.natAbs < 10 ^ 100 := of_decide_eq_true (by simpa [gd] using h)
    have h2 := int_text_length_le10 (k := 100) (by decide) h1
    have h3 : (Str.ofString (toString i)).length = (toString i).length := by
      rw [TL.len_tl, TL.tl_ofString, List.length_map]
      exact String.length_toList
    rw [show ((toString i : String) : Str) = Str.ofString (toString i) from rfl, h3]
    exact h2
  | .str x, h => by
    simp only [PyData.shown, wt]
    refine StrLaws.reprText_len x fun c hc => ?_
    have h1 : (tl x).all (fun c => decide (c < 128)) = true := by simpa [gd] using h
    have h2 : c < 128 := of_decide_eq_true (List.all_eq_true.mp h1 c hc)
    exact Nat.lt_trans h2 (by decide)
  | .list xs, h => by
    simp only [PyData.shown, wt]
    have h1 := gd_lenAll xs (by simpa [gd] using h)
    have h2 := listText_len_le (PyData.shownAll xs)
    omega
  | .tuple xs, h => by
    simp only [PyData.shown, wt]
    have h1 := gd_lenAll xs (by simpa [gd] using h)
    have h2 := tupleText_len_le (PyData.shownAll xs)
    omega
  | .dict _, h => by simp [gd] at h
theorem gd_lenAll : ∀ xs : List PyData, gdAll xs = true → ((PyData.shownAll xs).map (·.length)).sum + 2 * (PyData.shownAll xs).length ≤ wtAll xs
  | [], _ => by simp [PyData.shownAll, wtAll]
  | x :: xs, h => by
    have h' : gd x = true ∧ gdAll xs = true := by simpa [gdAll] using h
    have h1 := gd_len x h'.1
    have h2 := gd_lenAll xs h'.2
    simp only [PyData.shownAll, wtAll, List.map_cons, List.sum_cons, List.length_cons]
    omega
end
/-- what repr and == ask -/
structure Gd (d : PyData) : Prop where
  g : gd d = true
  w : wt d ≤ 10000000
  dp : d.depth ≤ 60
theorem Gd.shaped {d : PyData} (h : Gd d) : SeqAt.shaped d = true := by
  unfold SeqAt.shaped
  rw [gd_can d h.g, decide_eq_true (Nat.le_trans h.dp (by decide))]
  rfl
theorem Gd.shown {d : PyData} (h : Gd d) : d.shown.length ≤ sizeLine := Nat.le_trans (gd_len d h.g) (Nat.le_trans h.w (by rw [sizeLine_eq]; decide))
theorem Gd.refl {d : PyData} (h : Gd d) : PyData.eqv d d = true := SeqAt.eqv_refl d (gd_can d h.g)
/-- _law_same(one, other), of the same data -/
def spSame (K : PySem.W.Frag) : Sp := fun vs H Q _ => ∃ (x y : V) (d e : PyData), vs = [x, y] ∧ Dp K H x d ∧ Dp K H y e ∧ Gd d ∧ Gd e ∧ Q (.bl (PyData.eqv d e && decide (d.shown = e.shown))) H
end L2
set_option Elab.async false
set_option linter.all false
set_option maxRecDepth 100000
set_option maxHeartbeats 4000000
namespace L2
open PySem PySem.Spec PyProof.Rows
open He (ga ma)
/-- the law's call, its promise kept where no repr is under way -/
theorem lawK {P : Program} {w : World} {K : PySem.W.Frag} {mg mb : Str → Option Value} {CX : CXT} {k : Nat} {fa a : Addr} {x : Str} {sp : Sp} {s₁ : Shared} {vs : List Value} {ns : List Int}
    (KX : K.In s₁.heap) (hns : s₁.heap.Ns mainGlobals mg) (hb : s₁.heap.Ns builtinsNs mb) (hbb : ∀ x : Str, x ≠ "__name__" → mb x = bootBuiltins x) (hlim : s₁.heap.NoLimit) (hg : s₁.gens = #[])
    (ha : s₁.heap.get? a = some { cls := .type "list", data := .seq vs.toArray }) (hi : IntsAre vs ns) (hl : ns.length ≤ sizeLine) (hr : Room k callerA)
    (F : ∀ base : Heap, K.In base → base.Ns mainGlobals mg → ∃ fd, FnG P w K mg base CX k fa fd [x] sp ∧ Binds K fd [x] [])
    (hsp : ∀ H : Hp, Only H → SqL K H a (ns.map V.int) → sp [.ref a] H (fun v _ => v = .bl true) fun _ _ _ => False)
    (hCX : ∀ H e s', CX [] H s₁ (fun _ _ _ => False) e s' → False) :
    codeAny (model P w) callerA (.call (.ref fa) ⟨[.ref a], []⟩) (fun r s' => r = .ok (.ret (.bool true)) ∧ OldK s₁.heap s'.heap ∧ s'.os = s₁.os ∧ AllBare s'.gens) s₁ := by
  have rv := vals_ints hi
  have lenV := hi.length
  have main : ∀ H : Hp, Only H → SqL K H a (ns.map V.int) → HOk P w H s₁.heap → (∀ b, H b ≠ none → b = a) → (H a ≠ none → K.lookup a = none) →
      codeAny (model P w) callerA (.call (.ref fa) ⟨[.ref a], []⟩) (fun r s' => r = .ok (.ret (.bool true)) ∧ OldK s₁.heap s'.heap ∧ s'.os = s₁.os ∧ AllBare s'.gens) s₁ := by
    intro H hO hS hok hA hK
    have dictFree : ∀ {b : Addr} {o : Obj} {es : Array DictEntry} {ep : Nat}, s₁.heap.get? b = some o → o.data = .dict es ep → H b = none := by
      intro b o es ep e d
      by_cases q : H b = none
      · exact q
      · obtain rfl := hA b q
        rw [ha] at e
        cases e
        cases d
    have nsK : ∀ {b : Addr} {m : Str → Option Value}, s₁.heap.Ns b m → (hidT s₁.heap H).Ns b m := by
      rintro b m ⟨o, es, ep, e, d, r⟩
      exact ⟨o, es, ep, hidT_get e (dictFree e d), d, r⟩
    have hKb : K.In (hidT s₁.heap H) := by
      intro b o e
      refine hidT_get (KX b o e) ?_
      by_cases q : H b = none
      · exact q
      · obtain rfl := hA b q
        rw [hK q] at e
        cases e
    have hM : Mod K mg (hidT s₁.heap H) := by
      obtain ⟨mc, h1, h2⟩ := hlim
      exact ⟨hKb, nsK hns, ⟨mb, nsK hb, hbb⟩, ⟨mc, nsK h1, h2⟩⟩
    have e0 : Env0 P w K mg (hidT s₁.heap H) callerA [] s₁ H :=
      { frames := rfl, mod := hM, bs := fun b o e => of_hidT e, bsz := Nat.le_of_eq (hidT_size _ _), funs := trivial, frf := fun b hb => (nomatch (show b ∈ ([] : List Addr) from hb)), hok := hok, bare := .of_eq hg }
    obtain ⟨fd, hFF, hbind⟩ := F _ hKb (nsK hns)
    refine codeAny_mono (hFF.run callerA rfl [] s₁ H ⟨[.ref a], []⟩ [.ref a] [.ref a] _ _ hr e0 (hbind s₁ [.ref a] KX rfl) (.cons rfl .nil) (hsp H hO hS)) fun r s' h => ?_
    match r, h with
    | .error e, h => exact (hCX H e s' h).elim
    | .ok .next, h => exact False.elim h
    | .ok .brk, h => exact False.elim h
    | .ok .cont, h => exact False.elim h
    | .ok (.ret u), h =>
      obtain ⟨v, H', os, bare, un, hok', r', q⟩ := h
      obtain rfl : v = .bl true := q
      obtain rfl : u = Value.bool true := r'
      refine ⟨rfl, OldK.of_keep fun b o e => ?_, os, bare⟩
      rcases hO b with z | ⟨ob, xs, z⟩
      · exact un.keep b o e z (fun y => (nomatch (show b ∈ ([] : List Addr) from y))) (fun y => (nomatch y))
      · have e1 := (hok b _ z).1
        rw [e] at e1
        cases e1
        exact (hok' b _ (un.frzs b _ _ z)).1
  by_cases hk : K.lookup a = none
  · refine main (fun b => if b = a then some (.frz { cls := .type "list", data := .seq vs.toArray } (.lst (ns.map V.int))) else none) (fun b => ?_) (.inl (.inr ⟨_, if_pos rfl⟩)) (fun b u z => ?_) (fun b z => ?_) fun _ => hk
    · by_cases hb : b = a
      · exact .inr ⟨_, _, if_pos hb⟩
      · exact .inl (if_neg hb)
    · by_cases hb : b = a
      · subst hb
        have z' := (if_pos rfl).symm.trans z
        cases z'
        exact ⟨ha, by rw [List.length_map]; exact hl, vs, _, rv, ha⟩
      · exact nomatch (if_neg hb).symm.trans z
    · by_cases hb : b = a
      · exact hb
      · exact absurd (if_neg hb) z
  · obtain ⟨o, hk⟩ := Option.ne_none_iff_exists'.mp hk
    have e := KX a o hk
    rw [ha] at e
    cases e
    exact main (fun _ => none) (fun _ => .inl rfl) (.inr ⟨_, vs.toArray, _, hk, rfl, rfl, rfl, by rw [List.size_toArray, lenV]; exact hl, by simpa using rv⟩) (fun b u z => nomatch (show (none : Option HO) = some u from z)) (fun b z => absurd rfl z) fun z => absurd rfl z
theorem walkK {l : PySem.W.OpenLaw} {n k : Nat} {q : Program} {loose : List Str} {XP : (Str → Option Value) → Heap → Prop} {YP : World → Heap → Prop} {d : DefRec} {CX : CXT} {x : Str}
    (hn : l.most = some n) (hn2 : n ≤ sizeLine) (hdf : d.params.defaults = []) (hr : Room k callerA) (hname : d.name = ("law" : Str))
    (F : ∀ (w : World) (mg : Str → Option Value) (h : Heap), YP w h → h.Ns mainGlobals mg →
      ∃ (K : PySem.W.Frag) (sp : Sp), K.In h ∧ (∀ (H : Hp) (a : Addr) (ns : List Int), ns.length ≤ n → Only H → SqL K H a (ns.map V.int) → sp [.ref a] H (fun v _ => v = .bl true) fun _ _ _ => False) ∧
        ∀ base : Heap, FnKG l.prog w K mg base CX k "law" [x] sp)
    (hCX : ∀ (H : Hp) (s : Shared) (e : Value) (s' : Shared), CX [] H s (fun _ _ _ => False) e s' → False) :
    PySem.W.WalkO q loose XP YP l.row.toRowW d [] (fun f vs => PySem.call f vs) :=
  Att.attach_call hn hdf fun w s₀ s₁ mg mb fa o pm cd doc a vs ns G Y ho hd hcd hmg hobj hints hlen hg => by
    obtain ⟨K, sp, KX, hsp, hF⟩ := F w mg _ Y G.T.g
    rw [hname] at hmg
    refine lawK (x := x) KX G.T.g G.T.b G.T.builtins G.T.nolimit hg hobj hints (Nat.le_trans hlen hn2) hr (fun base _ _ => ?_) (fun H hO hS => hsp H a ns hlen hO hS) fun H e s' => hCX H s₁ e s'
    obtain ⟨fd, f1, f2, _, f3⟩ := hF base
    have e := hmg.symm.trans f3
    obtain rfl : fa = ga K "law" := by cases e; rfl
    exact ⟨fd, f1, f2⟩
end L2
set_option Elab.async false
set_option linter.all false
set_option maxRecDepth 100000
set_option maxHeartbeats 4000000
namespace PySem
namespace WErr
open PySem.W PySem.Calls PyProof.Rows PySem.HandSPX
/-! an own error of the package with none, one or two fields -/
structure PsN where
  (a1 a2 a3 a5 a6 a7 : Pos) (k : Nat) (txt : Str) (qs : List (Pos × Pos × Pos × Pos))
def asN (f : Str) (q : Pos × Pos × Pos × Pos) : Stmt := .Assign [.Attribute (.Name "self" q.1) f q.2.1] (.Name f q.2.2.1) q.2.2.2
def eBN (fls : List Str) (p : PsN) : List Stmt :=
  .Expr (.Call (.Attribute (.Call (.Name "super" p.a1) [] [] p.a2) "__init__" p.a3) [.Constant (.str p.txt) p.k p.a5] [] p.a6) p.a7 :: List.zipWith asN fls p.qs
def eSN (fls : List Str) : Scope := { kind := .function, names := (("self" : Str), NameKind.local) :: (fls.map (fun f => (f, NameKind.local)) ++ [(("__class__" : Str), NameKind.free), (("super" : Str), NameKind.globalImplicit)]), isGenerator := false, isCoroutine := false, more := [] }
structure ErrTxtN (prog : Program) (K : Frag) (mg : Str → Option Value) (x : Str) (fls : List Str) (C fI : Addr) : Prop where
  gC : mg x = some (.ref C)
  cls : ∃ nm q N bs bm sn sub ab col dd k0 k1 k2 k3 k5, K.lookup C = some (excClassObj nm q C N bs bm true sn sub ab col dd k0 k1 k2 k3 k5 "ValueError.__new__") ∧ refsVE bm = true
  sa : findIn K (.ref C) "__setattr__" = some (some (.builtin "object.__setattr__"))
  xf : L2.XfC K C
  noF : ∀ f ∈ fls, findIn K (.ref C) f = some none
  iC : findIn K (.ref C) "__init__" = some (some (.ref fI))
  tC : typeIn K (.ref fI) = some (.type "function")
  kC : keepIn K (.ref C) = true
  exC : subIn K (.ref C) (.type "BaseException") = some true
  tyC : typeIn K (.ref C) = some (.type "type")
  sup : ks_superIn K C C "__init__" = some (some (.builtin "ValueError.__init__"))
  ve : subIn K (.ref C) (.type "ValueError") = some true
  any : nsIn K cStatics "thirdparty.any" = some none
  own : mroIn K C (.ref C) = some true
  gS : mg "super" = none
  htop : (prog.main.scope.names.lookup ("super" : Str)).isSome = false
  few : fls = [] ∨ (∃ f, fls = [f]) ∨ ∃ f g, fls = [f, g] ∧ f ≠ g
  fn : ∃ (oc : Value) (od : Option Addr) (qual : Str) (params : Arguments) (doc pm kV : Value) (an : Option Addr) (cda cc : Addr) (ct : Value) (osl : Array (Option Value)) (p : PsN) (ar : Arg),
    K.lookup fI = some ⟨oc, od, .func (ksFn "__init__" qual params (eBN fls p) (eSN fls) .none kV doc pm an (.ref cda) ct cc), osl⟩ ∧ codeIn K (.ref cda) qual = true ∧ p.qs.length = fls.length ∧
    (params.posonlyargs ++ params.args).head? = some ar ∧ ar.arg = "self" ∧
    (∃ ccl cdd vs ccs file tf, K.lookup cda = some ⟨ccl, cdd, .fields vs, ccs⟩ ∧ vs[2]? = some (.str file tf) ∧ ((prog.main.file : Str) == file) = true) ∧
    (∃ cl cld csl, K.lookup cc = some ⟨cl, cld, .cell (some (.ref C)), csl⟩) ∧
    (eSN fls).names.lookup ("super" : Str) = some .globalImplicit ∧ (eSN fls).names.lookup ("__class__" : Str) = some .free ∧ (eSN fls).names.lookup ("self" : Str) = some .local ∧ (∀ f ∈ fls, (eSN fls).names.lookup f = some .local) ∧
    (∀ f ∈ fls, f ≠ "self" ∧ (f == ("__debug__" : Str)) = false) ∧
    (∀ L f : Addr, ∃ pl : Sem Bool, eval (.Call (.Attribute (.Call (.Name "super" p.a1) [] [] p.a2) "__init__" p.a3) [.Constant (.str p.txt) p.k p.a5] [] p.a6) (ksEnv qual (eSN fls) L f (.ref cda) cc) = (do
      let ov ← attributeBase (.Call (.Name "super" p.a1) [] [] p.a2) "__init__" (ksEnv qual (eSN fls) L f (.ref cda) cc) (eval (.Call (.Name "super" p.a1) [] [] p.a2) (ksEnv qual (eSN fls) L f (.ref cda) cc))
      standAt p.a3.atName
      let (f1, first) ← holding [ov] (getMethod ov "__init__" pl)
      callWith p.a6 f1 first (backTo p.a6 (starEach [.Constant (.str p.txt) p.k p.a5] (ksEnv qual (eSN fls) L f (.ref cda) cc))) [])) ∧
    (∀ (a : Value) (us : List Value), us.length = fls.length → bindArgs (ksFn "__init__" qual params (eBN fls p) (eSN fls) .none kV doc pm an (.ref cda) ct cc) ⟨a :: us, []⟩ = pure ((("self" : Str), a) :: fls.zip us))
theorem len_two {α : Type} {l : List α} (h : l.length = 2) : ∃ a b, l = [a, b] := by
  match l, h with
  | [a, b], _ => exact ⟨a, b, rfl⟩
def mOf : List (Str × Value) → Str → Option Value
  | [] => fun _ => none
  | (f, v) :: r => fun y => if y = f then some v else mOf r y
/-- what __init__ leaves of a fresh exception at x -/
structure InitEndN (h h' : Heap) (x C t1 : Addr) (od : Option Addr) (fs : List (Str × Value)) : Prop where
  keep : ∀ b o, b ≠ x → h.get? b = some o → h'.get? b = some o
  obj : h'.get? x = some { cls := .ref C, dict := od, data := .fields #[.ref t1, .none, .none, .none, .bool false, .none] }
  dict : (od = none ∧ fs = []) ∨ ∃ dx, od = some dx ∧ h.objs.size ≤ dx ∧ dx ≠ x ∧ h'.Ns1 dx (mOf fs)
section
variable {prog : Program} {w : World} {A : Around} {E : Value → Shared → Prop} {R : Result → Shared → Prop} {s : Shared} {K : Frag} {mg mb : Str → Option Value} {x0 : Str} {fls : List Str} {C fI : Addr}
theorem err_initN (T : ErrTxtN prog K mg x0 fls C fI) {x t0 : Addr} {us : List Value} (hus : us.length = fls.length) (X : K.In s.heap) (hlim : s.heap.NoLimit) (hg : s.heap.Ns mainGlobals mg) (hb : s.heap.Ns builtinsNs mb) (hbb : ∀ x : Str, x ≠ "__name__" → mb x = bootBuiltins x)
    (hx : s.heap.get? x = some (excO C t0)) (hnx : K.lookup x = none) (hroom : A.depth < recursionLimit)
    (hq : ∀ h' tk t1 od, InitEndN s.heap h' x C t1 od (fls.zip us).reverse → R (.ok (.ret .none)) { s with heap := h', toks := tk }) :
    codeAny (model prog w) A (.call (.ref fI) ⟨.ref x :: us, []⟩) R s := by
  obtain ⟨oc, od, qual, params, doc, pm, kV, an, cda, cc, ct, osl, p, ar, ho, hcd, hpq, hp, har, ⟨ccl, cdd, vs, ccs, file, tf, hcode, hvs, hfile⟩, ⟨cl, cld, csl, hcell⟩, hks, hkc, hka, hkF, hFs, hev, hbind⟩ := T.fn
  obtain ⟨nm, q, N, bs, bm, sn, sub, ab, col, dd, k0, k1, k2, k3, k5, hC, hbm⟩ := T.cls
  have hcl : clsIn K C = some { name := nm, bases := bs, mro := .ref C :: bm, ns := N, qualname := q, hasDict := true, slotNames := sn, subclasses := sub, abstract := ab, collection := col, hasDel := false } := by unfold clsIn; rw [hC] <;> rfl
  refine ks_codeAny_call_defAt (fd := ksFn "__init__" qual params (eBN fls p) (eSN fls) .none kV doc pm an (.ref cda) ct cc) (body := eBN fls p) (binds := (("self" : Str), .ref x) :: fls.zip us) hroom (X _ _ ho) rfl hlim (codeRec_of X hcd) rfl (BindsTo.of_eq (hbind _ _ hus)) ?hnc ?_ (fun h₁ hns hk₁ => ?_) rfl rfl rfl
  case hnc =>
    intro y hy
    simp only [eSN, List.mem_cons, List.mem_append, List.mem_map, List.not_mem_nil, or_false] at hy
    rcases hy with rfl | ⟨f, _, rfl⟩ | rfl | rfl <;> (intro z; cases z)
  · intro y hy
    rcases List.mem_cons.mp hy with rfl | hy
    · exact hka
    · exact hkF y.1 (List.of_mem_zip (show (y.1, y.2) ∈ fls.zip us from hy)).1
  have hk : (eSN fls).kind = .function := rfl
  have X₁ : K.In h₁ := X.keeps hk₁
  have hx₁ := hk₁ _ _ hx
  have I₁ : InstAt h₁ x (excO C t0) C none := ⟨hx₁, rfl, rfl, trivial⟩
  have hmS : (fun y => List.lookup y (List.reverse ((("self" : Str), Value.ref x) :: fls.zip us))) "self" = some (.ref x) := by
    show List.lookup ("self" : Str) (List.reverse ((("self" : Str), Value.ref x) :: fls.zip us)) = _
    rw [List.reverse_cons]
    have hno : ∀ l : List (Str × Value), (∀ p ∈ l, p.1 ≠ ("self" : Str)) → List.lookup ("self" : Str) (l ++ [(("self" : Str), Value.ref x)]) = some (Value.ref x) := by
      intro l hl
      induction l with
      | nil => simp [List.lookup]
      | cons p r ih =>
        have h1 := hl p List.mem_cons_self
        have h2 : (("self" : Str) == p.1) = false := by
          have : ("self" : Str) ≠ p.1 := fun e => h1 e.symm
          simpa using this
        rw [List.cons_append, List.lookup_cons, h2]
        exact ih fun z hz => hl z (List.mem_cons_of_mem _ hz)
    refine hno _ fun p hp => ?_
    exact (hFs p.1 (List.of_mem_zip (show (p.1, p.2) ∈ fls.zip us from List.mem_reverse.mp hp)).1).1
  have hCo₁ := X₁ _ _ hC
  -- super().__init__(text)
  obtain ⟨pl, hev1⟩ := hev s.heap.objs.size fI
  show _root_.PySem.wpAt _ _ _ (execs (_ :: List.zipWith asN fls p.qs) _) _ _ _
  refine ks_wpAt_execs_cons (ks_wpAt_Expr_any (ks_wpAt_MethodCall ?_ hev1) (by rfl) (by rfl))
  refine ks_wpAt_super_base (env := ksEnv qual (eSN fls) s.heap.objs.size fI (.ref cda) cc) hks hkc (by decide) rfl (X₁ _ _ ho) rfl hp rfl (X₁ _ _ hcode) rfl hvs hfile T.htop ?_
  refine ks_loadName_global hk hks (loadGlobal_builtin (env := ksEnv qual (eSN fls) s.heap.objs.size fI (.ref cda) cc) (hg.keeps hk₁) T.gS (hb.keeps hk₁) ((hbb _ (by decide +kernel)).trans Boot.«super») ⟨rfl, ?_⟩)
  refine wpAny_loadName_free hk hkc rfl ⟨_, X₁ _ _ hcell, rfl⟩ ?_
  rw [har]
  refine wpAny_loadName_local hk hka hns hmS ?_
  refine ks_wpAny_isType_cls hCo₁ rfl ⟨rfl, ?_⟩
  refine ks_wpAny_call_super hCo₁ rfl hx₁ rfl (fun c e => by cases e) (looks_mroIn X₁ T.own) (fun h₂ hso k₂ => ?_)
  have X₂ : K.In h₂ := X₁.keeps k₂
  have hx₂ := k₂ _ _ hx₁
  have I₂ : InstAt h₂ x (excO C t0) C none := ⟨hx₂, rfl, rfl, trivial⟩
  have hsup := T.sup
  unfold ks_superIn at hsup
  rw [hcl] at hsup
  refine kxs_getMethod kxs_ValueError hso (looks_opaque X₂ T.any) (l₀ := .ref C :: bm) ?_ rfl X₂ hsup (I₂.type.andThen (looks_subIn X₂ T.ve)) (ks_ne X₂ I₂ hcl) (by decide) ?_
  · exact fun A Q E s k q => wpAny_bind ((looks_clsIn X₂ hcl) A _ E s k (wpAny_pure q))
  show wpAny _ _ (callWith p.a6 (.ref h₂.objs.size) [] (backTo p.a6 (starEach [_] _)) []) _ _ _
  refine kxs_callWith (i := "ValueError.__init__") (x := x) (by rfl) (evalArgs_plain ?_)
  show wpAny _ _ (spliced [(false, eval (.Constant (.str p.txt) p.k p.a5) _)]) _ _ _
  refine Calls.spliced_cons (Calls.Constant_str (Calls.spliced_nil ?_))
  have hu : (h₂.push (kxs_mw "ValueError.__init__" x)).get? h₂.objs.size = some (kxs_mw "ValueError.__init__" x) := Heap.get?_push_at rfl rfl
  have k₃ : ∀ b o, h₂.get? b = some o → (h₂.push (kxs_mw "ValueError.__init__" x)).get? b = some o := fun b o e => Heap.get?_push_of_some _ e
  refine ⟨hu, ?_⟩
  have X₃ : K.In (h₂.push (kxs_mw "ValueError.__init__" x)) := X₂.keeps k₃
  have hx₃ := k₃ _ _ hx₂
  show wpAny _ _ (call (.ref h₂.objs.size) [_] []) _ _ _
  refine wpAny_call (codeAny_of_tree ?_)
  show wpAny _ _ (callAny (.ref h₂.objs.size) ⟨[_], []⟩) _ _ _
  simp only [callAny]
  refine wpAny_bind (wpAny_load hu ?_)
  simp only [kxs_mw, show (Value.type "method-wrapper" == Value.type "method" || Value.type "method-wrapper" == Value.type "builtin_function_or_method" || Value.type "method-wrapper" == Value.type "method-wrapper") = true by decide, if_true]
  refine KFB.if_so (by decide) ?_
  refine wpAny_bind (check_bound_init F.excBase_ValueError.toExcCallFacts (X₃ _ _ hC) hx₃ rfl ?_)
  refine wpAny_bind (wpAny_pure (wpAny_pure ?_))
  refine ⟨plainId_quiet F.excBase_ValueError.init.plain _, codeAny_builtin F.excBase_ValueError.initEntry ?_⟩
  refine exc_init_tree (cls := .ref C) (t0 := t0) (dv := none) (c2 := .none) (c3 := .none) (b4 := .bool false) hx₃ (one_size _) fun h₄ k₄ hx₄ _ => ?_
  have nx : s.heap.objs.size ≠ x := Nat.ne_of_gt (Heap.lt_size hx)
  have hns₃ : (h₂.push (kxs_mw "ValueError.__init__" x)).Ns s.heap.objs.size _ := (hns.keeps k₂).keeps k₃
  have hns₄ : h₄.Ns s.heap.objs.size (fun y => List.lookup y (List.reverse ((("self" : Str), Value.ref x) :: fls.zip us))) := by
    obtain ⟨oL, es, ep, hL, r⟩ := hns₃
    exact ⟨oL, es, ep, k₄ _ _ nx hL, r⟩
  have all₄ : ∀ b o, b ≠ x → s.heap.get? b = some o → h₄.get? b = some o := fun b o hb' e => k₄ b o hb' (k₃ b o (k₂ b o (hk₁ b o e)))
  have X₄ : K.In h₄ := by
    intro b o e
    have hbx : b ≠ x := fun z => by rw [z, hnx] at e; cases e
    exact all₄ b o hbx (X _ _ e)
  show _root_.PySem.wpAt _ _ _ (execs (List.zipWith asN fls p.qs) _) _ _ _
  have z : s.heap.objs.size < h₄.objs.size := hns₄.lt
  rcases T.few with rfl | ⟨f, rfl⟩ | ⟨f1, f2, rfl, hne⟩
  · obtain rfl := List.length_eq_zero_iff.mp hus
    show _root_.PySem.wpAt _ _ _ (execs [] _) _ _ _
    exact wpAt_of_wpAny (wpAny_execs_nil (hq h₄ _ _ none ⟨all₄, hx₄, .inl ⟨rfl, rfl⟩⟩))
  · obtain ⟨v, rfl⟩ := List.length_eq_one_iff.mp hus
    obtain ⟨q1, hq1⟩ := List.length_eq_one_iff.mp hpq
    rw [hq1]
    have hmF : (fun y => List.lookup y (List.reverse ((("self" : Str), Value.ref x) :: [f].zip [v]))) f = some v := by
      show List.lookup f [(f, v), (("self" : Str), Value.ref x)] = _
      simp [List.lookup]
    have hFd := (hFs f List.mem_cons_self).2
    have hkF1 := hkF f List.mem_cons_self
    show _root_.PySem.wpAt _ _ _ (execs (_ :: []) _) _ _ _
    refine ks_wpAt_execs_cons (wpAt_of_wpAny (plainObj_wpAny_Assign_Attribute ?_ (by rfl)))
    refine ldK (v := v) hk hkF1 hns₄ hmF (ldK (v := .ref x) hk hka hns₄ hmS ?_ (by decide)) hFd
    refine set_plain X₄ (ox := excO C (h₂.push (kxs_mw "ValueError.__init__" x)).objs.size) (od := none) ⟨hx₄, rfl, rfl, trivial⟩ T.sa ?_
    refine exc_osa X₄ hx₄ hcl (show refsVE (.ref C :: bm) = true from hbm) rfl (T.noF f List.mem_cons_self) (fun h₅ tk₅ dx k₅ dn dne hx₅ hn₅ => ?_)
    show _root_.PySem.wpAt _ _ _ (execs [] _) _ _ _
    exact wpAt_of_wpAny (wpAny_execs_nil (hq h₅ tk₅ _ (some dx) ⟨fun b o hb' e => k₅ b o hb' (all₄ b o hb' e), hx₅, .inr ⟨dx, rfl, Nat.le_of_lt (Nat.lt_of_lt_of_le z dn), dne, hn₅⟩⟩))
  · obtain ⟨v1, v2, rfl⟩ := len_two hus
    obtain ⟨q1, q2, hq1⟩ := len_two hpq
    rw [hq1]
    have m2 : f2 ∈ [f1, f2] := List.mem_cons_of_mem _ List.mem_cons_self
    have hne' : (f1 == f2) = false := by simpa using hne
    have hmF1 : (fun y => List.lookup y (List.reverse ((("self" : Str), Value.ref x) :: [f1, f2].zip [v1, v2]))) f1 = some v1 := by
      show List.lookup f1 [(f2, v2), (f1, v1), (("self" : Str), Value.ref x)] = _
      simp [List.lookup, hne']
    have hmF2 : (fun y => List.lookup y (List.reverse ((("self" : Str), Value.ref x) :: [f1, f2].zip [v1, v2]))) f2 = some v2 := by
      show List.lookup f2 [(f2, v2), (f1, v1), (("self" : Str), Value.ref x)] = _
      simp [List.lookup]
    show _root_.PySem.wpAt _ _ _ (execs (_ :: _ :: []) _) _ _ _
    refine ks_wpAt_execs_cons (wpAt_of_wpAny (plainObj_wpAny_Assign_Attribute ?_ (by rfl)))
    refine ldK (v := v1) hk (hkF f1 List.mem_cons_self) hns₄ hmF1 (ldK (v := .ref x) hk hka hns₄ hmS ?_ (by decide)) (hFs f1 List.mem_cons_self).2
    refine set_plain X₄ (ox := excO C (h₂.push (kxs_mw "ValueError.__init__" x)).objs.size) (od := none) ⟨hx₄, rfl, rfl, trivial⟩ T.sa ?_
    refine exc_osa X₄ hx₄ hcl (show refsVE (.ref C :: bm) = true from hbm) rfl (T.noF f1 List.mem_cons_self) (fun h₅ tk₅ dx k₅ dn dne hx₅ hn₅ => ?_)
    have X₅ : K.In h₅ := by
      intro b o e
      have hbx : b ≠ x := fun z => by rw [z, hnx] at e; cases e
      exact k₅ b o hbx (X₄ _ _ e)
    have hns₅ : h₅.Ns s.heap.objs.size (fun y => List.lookup y (List.reverse ((("self" : Str), Value.ref x) :: [f1, f2].zip [v1, v2]))) := by
      obtain ⟨oL, es, ep, hL, r⟩ := hns₄
      exact ⟨oL, es, ep, k₅ _ _ nx hL, r⟩
    have hw : Within (fun y => if y = f1 then some v1 else none) [f1] := fun y hy => by
      by_cases e : y = f1
      · rw [e]; exact List.mem_cons_self
      · exact absurd (if_neg e) hy
    obtain ⟨oD, esD, epD, hoD, _, _⟩ := hn₅.count hw
    refine ks_wpAt_execs_cons (wpAt_of_wpAny (plainObj_wpAny_Assign_Attribute ?_ (by rfl)))
    refine ldK (v := v2) hk (hkF f2 m2) hns₅ hmF2 (ldK (v := .ref x) hk hka hns₅ hmS ?_ (by decide)) (hFs f2 m2).2
    refine set_plain X₅ (ox := { cls := .ref C, dict := some dx, data := .fields #[.ref (h₂.push (kxs_mw "ValueError.__init__" x)).objs.size, .none, .none, .none, .bool false, .none] }) (od := some oD) ⟨hx₅, rfl, rfl, hoD⟩ T.sa ?_
    refine PySem.OEX.osa_old X₅ hx₅ hn₅ hw (by simp) hcl (show refsVE (.ref C :: bm) = true from hbm) rfl (T.noF f2 m2) (fun h₆ tk₆ k₆ hn₆ => ?_)
    show _root_.PySem.wpAt _ _ _ (execs [] _) _ _ _
    have hdl : ∀ b o, h₄.get? b = some o → b ≠ dx := fun b o e => Nat.ne_of_lt (Nat.lt_of_lt_of_le (Heap.lt_size e) dn)
    exact wpAt_of_wpAny (wpAny_execs_nil (hq h₆ tk₆ _ (some dx) ⟨fun b o hb' e => k₆ b o (hdl b o (all₄ b o hb' e)) (k₅ b o hb' (all₄ b o hb' e)), k₆ _ _ (Ne.symm dne) hx₅, .inr ⟨dx, rfl, Nat.le_of_lt (Nat.lt_of_lt_of_le z dn), dne, hn₆⟩⟩))
/-- a made error -/
structure OwnMadeN (h h' : Heap) (e C : Addr) (od : Option Addr) (fs : List (Str × Value)) : Prop where
  keep : ∀ b o, h.get? b = some o → h'.get? b = some o
  new : h.objs.size ≤ e
  obj : ∃ oe vs, h'.get? e = some oe ∧ oe.cls = .ref C ∧ oe.dict = od ∧ oe.data = .fields vs ∧ vs[1]? = some .none ∧ vs[2]? = some .none ∧ 4 < vs.size
  dict : (od = none ∧ fs = []) ∨ ∃ dx, od = some dx ∧ h.objs.size ≤ dx ∧ dx ≠ e ∧ h'.Ns1 dx (mOf fs)
theorem err_madeN (T : ErrTxtN prog K mg x0 fls C fI) {us : List Value} (hus : us.length = fls.length) (X : K.In s.heap) (hlim : s.heap.NoLimit) (hg : s.heap.Ns mainGlobals mg) (hb : s.heap.Ns builtinsNs mb) (hbb : ∀ x : Str, x ≠ "__name__" → mb x = bootBuiltins x) (hroom : A.depth + 1 < recursionLimit)
    (hq : ∀ h' tk e od, OwnMadeN s.heap h' e C od (fls.zip us).reverse → R (.ok (.ret (.ref e))) { s with heap := h', toks := tk }) :
    codeAny (model prog w) A (.call (.ref C) ⟨us, []⟩) R s := by
  obtain ⟨nm, q, N, bs, bm, sn, sub, ab, col, dd, k0, k1, k2, k3, k5, hC, hbm⟩ := T.cls
  obtain ⟨hp, g, dr, tk, os⟩ := s
  have k : ∀ b o, hp.get? b = some o → ((hp.push (kdv_tup us)).push (excO C hp.objs.size)).get? b = some o := fun b o e => Heap.get?_push_of_some _ (Heap.get?_push_of_some _ e)
  have hget : ((hp.push (kdv_tup us)).push (excO C hp.objs.size)).get? (hp.objs.size + 1) = some (excO C hp.objs.size) := by heap_get
  have hnx : K.lookup (hp.objs.size + 1) = none := by
    cases e : K.lookup (hp.objs.size + 1) with
    | none => rfl
    | some o =>
      have z : hp.get? (hp.objs.size + 1) = some o := X _ _ e
      exact absurd (Nat.lt_of_succ_lt (Heap.lt_size z)) (Nat.lt_irrefl _)
  have hsz : us.length ≤ sizeLine := by
    rw [hus, sizeLine_eq]
    rcases T.few with rfl | ⟨f, rfl⟩ | ⟨f1, f2, rfl, _⟩ <;> simp
  refine call_own F.excBase_ValueError (fun X => refsVE_contains X bm hbm) (X _ _ hC) (looks_findIn X T.iC) (fun self => bind_fn X self T.tC) hsz ?_
  refine err_initN (s := ⟨(hp.push (kdv_tup us)).push (excO C hp.objs.size), g, dr, tk, os⟩) T hus (X.keeps k) (hlim.keeps k) (hg.keeps k) (hb.keeps k) hbb hget hnx ?_ fun h' tk' t1 od ⟨k', hx, hd⟩ => ?_
  · show A.depth + 1 < recursionLimit
    exact hroom
  · have old : ∀ b o, hp.get? b = some o → h'.get? b = some o := fun b o e => k' b o (Nat.ne_of_lt (Nat.lt_succ_of_lt (Heap.lt_size e))) (k b o e)
    refine ⟨rfl, hq h' tk' (hp.objs.size + 1) od ⟨old, Nat.le_succ _, ⟨_, _, hx, rfl, rfl, rfl, rfl, rfl, (by show 4 < 6; decide)⟩, ?_⟩⟩
    rcases hd with h | ⟨dx, e, dn, dne, hns⟩
    · exact .inl h
    · have z : hp.objs.size + 1 + 1 ≤ dx := by
        first
          | (simpa only [Heap.size_push] using dn)
          | exact dn
          | (have q := dn; rw [Heap.size_push, Heap.size_push] at q; exact q)
      exact .inr ⟨dx, e, Nat.le_trans (Nat.le_trans (Nat.le_succ _) (Nat.le_succ _)) z, dne, hns⟩
end
end WErr
end PySem
set_option Elab.async false
set_option linter.all false
set_option maxRecDepth 100000
set_option maxHeartbeats 4000000
namespace L2
open PySem PySem.Spec PyProof.Rows
open Evl (Ex Ev EvA EvT EvL EvU)
/-! ### errors as values -/
def ErO (a C : Addr) (od : Option Addr) : HO := .ext fun h => ∃ oe vs, h.get? a = some oe ∧ oe.cls = .ref C ∧ oe.dict = od ∧ oe.data = .fields vs
theorem ErO_ok {P : Program} {w : World} {H : Hp} {h : Heap} {a C : Addr} {od : Option Addr} (x : ∃ oe vs, h.get? a = some oe ∧ oe.cls = .ref C ∧ oe.dict = od ∧ oe.data = .fields vs) : ObjOk P w H h a (ErO a C od) := by
  refine ⟨x, ?_, ?_⟩
  · obtain ⟨oe, vs, e, _⟩ := x
    exact ⟨oe, e⟩
  · rintro h1 h2 ⟨oe, vs, e, r⟩ k
    exact ⟨oe, vs, k _ e, r⟩
theorem ErO_at {P : Program} {w : World} {H : Hp} {h : Heap} {a C : Addr} {od : Option Addr} (x : HOk P w H h) (e : H a = some (ErO a C od)) : ∃ oe vs, h.get? a = some oe ∧ oe.cls = .ref C ∧ oe.dict = od ∧ oe.data = .fields vs := (x a _ e).1
/-- an error at a: its class, its fields -/
def EV (H : Hp) (a C : Addr) (fs : List (Str × V)) : Prop := (H a = some (ErO a C none) ∧ fs = []) ∨ ∃ d, H a = some (ErO a C (some d)) ∧ H d = some (.xd fs)
theorem EV.ex {H H' : Hp} {a C : Addr} {fs : List (Str × V)} (h : EV H a C fs) (e : Ex H H') : EV H' a C fs := by
  rcases h with ⟨h, r⟩ | ⟨d, h1, h2⟩
  · exact .inl ⟨e _ _ h, r⟩
  · exact .inr ⟨d, e _ _ h1, e _ _ h2⟩
theorem relO_mOf : ∀ {fls : List Str} {vs : List V} {us : List Value}, Vals vs us → ∀ f, RelO (List.lookup f (fls.zip vs).reverse) (PySem.WErr.mOf (fls.zip us).reverse f) := by
  intro fls vs us r f
  have key : ∀ (l1 : List (Str × V)) (l2 : List (Str × Value)), Paired (fun (p : Str × V) (q : Str × Value) => p.1 = q.1 ∧ RelV p.2 q.2) l1 l2 → RelO (List.lookup f l1) (PySem.WErr.mOf l2 f) := by
    intro l1 l2 h
    induction h with
    | nil => trivial
    | cons c t ih =>
      rename_i p q l1 l2
      obtain ⟨p1, p2⟩ := p
      obtain ⟨q1, q2⟩ := q
      obtain ⟨e, rv⟩ := c
      dsimp only at e rv
      subst e
      rw [List.lookup_cons]
      show RelO _ (if f = p1 then some q2 else PySem.WErr.mOf l2 f)
      by_cases hf : f = p1
      · rw [if_pos hf, beq_iff_eq.mpr hf]; exact rv
      · have : (f == p1) = false := by simpa using hf
        rw [if_neg hf, this]; exact ih
  have zp : ∀ (fls : List Str) (vs : List V) (us : List Value), Vals vs us → Paired (fun (p : Str × V) (q : Str × Value) => p.1 = q.1 ∧ RelV p.2 q.2) (fls.zip vs) (fls.zip us) := by
    intro fls
    induction fls with
    | nil => intro vs us _; exact .nil
    | cons g gs ih =>
      intro vs us r
      cases r with
      | nil => exact .nil
      | cons a b => exact .cons ⟨rfl, a⟩ (ih _ _ b)
  have rev : ∀ {α β : Type} {F : α → β → Prop} {l1 : List α} {l2 : List β}, Paired F l1 l2 → Paired F l1.reverse l2.reverse := by
    intro α β F l1 l2 h
    have app : ∀ {m1 : List α} {m2 : List β} {n1 : List α} {n2 : List β}, Paired F m1 m2 → Paired F n1 n2 → Paired F (m1 ++ n1) (m2 ++ n2) := by
      intro m1 m2 n1 n2 h1 h2
      induction h1 with
      | nil => exact h2
      | cons c t ih => exact .cons c ih
    induction h with
    | nil => exact .nil
    | cons c t ih => rw [List.reverse_cons, List.reverse_cons]; exact app ih (.cons c .nil)
  exact key _ _ (rev (zp fls vs us r))
section
variable {X : Cx} {C fI : Addr} {x : Str} {fls : List Str} {k : Nat} {p pos : Pos}
/-- what an error's making leaves -/
def rErrV (C : Addr) (fls : List Str) (vs : List V) (H1 : Hp) (Q : VK) : Prop := vs.length = fls.length ∧ ∀ a H2, Ex H1 H2 → EV H2 a C (fls.zip vs).reverse → Q (.ref a) H2
theorem run_errV {pins : List (Addr × Obj)} {s : Shared} {σ : St} {H : Hp} {Q : VK} {vs : List V} {us : List Value} (T : PySem.WErr.ErrTxtN X.prog X.K X.mg x fls C fI) (hr : Room k X.A) (I : Inv X pins σ H s) (r : Vals vs us) (q : rErrV C fls vs H Q) :
    wpAny (model X.prog X.w) X.A (call (.ref C) us) (EP X pins σ Q) X.xe s := by
  obtain ⟨hl, q⟩ := q
  have hlim := I.nolimit
  obtain ⟨mb, hmb, hbb⟩ := I.mod.blt
  have hG := I.mod.glob.keeps I.bk
  have hB := hmb.keeps I.bk
  obtain ⟨hp, g, dr, tk, os⟩ := s
  refine wpAny_call (PySem.WErr.err_madeN T (by rw [← r.length]; exact hl) I.kIn hlim hG hB hbb (by have := hr.dp; omega) fun h' tk' e od M => ?_)
  obtain ⟨oe, fv, hoe, hc, hd, hdat, _⟩ := M.obj
  have hne : H e = none := I.hok.fresh M.new
  have old : ∀ {b : Addr} {o : Obj}, hp.get? b = some o → b ≠ e := fun {b o} q => Nat.ne_of_lt (Nat.lt_of_lt_of_le (Heap.lt_size q) M.new)
  rcases M.dict with ⟨rfl, hfs⟩ | ⟨d, rfl, dn, dne, hns⟩
  · have hfl : fls = [] := by
      have h1 := r.length
      cases fls with
      | nil => rfl
      | cons f fs =>
        cases us with
        | nil => rw [hl] at h1; simp at h1
        | cons u us => simp at hfs
    have U : Un X.fs [] H (upd H e (ErO e C none)) hp h' := {
      keep := fun b o q _ _ _ => M.keep b o q
      slot := fun b o q _ _ _ => ⟨o.slots, M.keep b o q⟩
      free := fun b o q n _ => by rw [upd_ne (old q)]; exact n
      there := fun b o q _ => ⟨o, M.keep b o q⟩
      tups := fun b xs q => by rw [upd_ne (ne_of_none q hne)]; exact q
      frzs := fun b o v q => by rw [upd_ne (ne_of_none q hne)]; exact q
      tbls := fun b ps q => ⟨#[], by rw [upd_ne (ne_of_none q hne), q]; simp⟩ }
    refine ⟨.ref e, _, I.un (t' := tk') U fun b o q => ?_, rfl, q e _ (Ex.new hne) (.inl ⟨upd_same, by subst hfl; rfl⟩)⟩
    by_cases hb : b = e
    · subst hb
      rw [upd_same] at q
      cases q
      exact ErO_ok ⟨oe, fv, hoe, hc, hd, hdat⟩
    · rw [upd_ne hb] at q
      exact (I.hok b o q).stay (fun c v _ z => M.keep c v z) (fun c hc => by rw [upd_ne (ne_of_none hc hne)]; exact hc) (fun c xs hc => by rw [upd_ne (ne_of_none hc hne)]; exact hc)
  · have hnd : H d = none := I.hok.fresh dn
    have oldd : ∀ {b : Addr} {o : Obj}, hp.get? b = some o → b ≠ d := fun {b o} q => Nat.ne_of_lt (Nat.lt_of_lt_of_le (Heap.lt_size q) dn)
    have U : Un X.fs [] H (upd (upd H d (.xd (fls.zip vs).reverse)) e (ErO e C (some d))) hp h' := {
      keep := fun b o q _ _ _ => M.keep b o q
      slot := fun b o q _ _ _ => ⟨o.slots, M.keep b o q⟩
      free := fun b o q n _ => by rw [upd_ne (old q), upd_ne (oldd q)]; exact n
      there := fun b o q _ => ⟨o, M.keep b o q⟩
      tups := fun b xs q => by rw [upd_ne (ne_of_none q hne), upd_ne (ne_of_none q hnd)]; exact q
      frzs := fun b o v q => by rw [upd_ne (ne_of_none q hne), upd_ne (ne_of_none q hnd)]; exact q
      tbls := fun b ps q => ⟨#[], by rw [upd_ne (ne_of_none q hne), upd_ne (ne_of_none q hnd), q]; simp⟩ }
    refine ⟨.ref e, _, I.un (t' := tk') U fun b o q => ?_, rfl, q e _ ((Ex.new hnd).trans (Ex.new (by rw [upd_ne (Ne.symm dne)]; exact hne))) (.inr ⟨d, upd_same, by rw [upd_ne dne]; exact upd_same⟩)⟩
    by_cases hb : b = e
    · subst hb
      rw [upd_same] at q
      cases q
      exact ErO_ok ⟨oe, fv, hoe, hc, hd, hdat⟩
    · rw [upd_ne hb] at q
      by_cases hbd : b = d
      · subst hbd
        rw [upd_same] at q
        cases q
        exact ⟨_, hns, relO_mOf r⟩
      · rw [upd_ne hbd] at q
        exact (I.hok b o q).stay (fun c v _ z => M.keep c v z) (fun c hc => by rw [upd_ne (ne_of_none hc hne), upd_ne (ne_of_none hc hnd)]; exact hc) (fun c xs hc => by rw [upd_ne (ne_of_none hc hne), upd_ne (ne_of_none hc hnd)]; exact hc)
def tErrV (C : Addr) (fls : List Str) (ta : TA) : TE := fun σ H Q => ta σ H fun vs H1 => rErrV C fls vs H1 Q
/-- X(e, ..), the error kept as a value -/
theorem pe_errV {e : Expr} {es : List Expr} {ta : TA} (T : PySem.WErr.ErrTxtN X.prog X.K X.mg x fls C fI) (hr : Room k X.A) (ha : PA X (e :: es) ta) (hg : Gl X x := by rfl) (hdb : (x == ("__debug__" : Str)) = false := by decide)
    (he : starEach (e :: es) X.env = (false, eval e X.env) :: starEach es X.env := by rfl) (hpl : (backTo pos (starEach es X.env)).any (·.1) = false := by rfl) :
    PE X (.Call (.Name x p) (e :: es) [] pos) (tErrV C fls ta) := by
  refine ⟨fun pins s σ H Q I h => wpAny_Call_Name_kw (ld_glob I hg T.gC ?_ hdb)⟩
  exact PySem.W.callWith_K (h₀ := X.base) I.ok.mod.kin T.kC (thn (ha.run pos pins s σ H _ I h) fun us s1 ⟨vs, H1, I1, r, q⟩ => ⟨I1.kIn, run_errV T hr I1 r q⟩) he hpl
theorem pe_errV0 (T : PySem.WErr.ErrTxtN X.prog X.K X.mg x fls C fI) (hr : Room k X.A) (hg : Gl X x := by rfl) (hdb : (x == ("__debug__" : Str)) = false := by decide) : PE X (.Call (.Name x p) [] [] pos) (tErrV C fls tNil) := by
  refine ⟨fun pins s σ H Q I h => wpAny_Call_Name_kw (ld_glob I hg T.gC ?_ hdb)⟩
  exact PySem.W.callWith_K0 I.kIn T.kC (run_errV (us := []) T hr I .nil h)
end
/-- what isinstance asks of an error's class -/
structure IsE (K : PySem.W.Frag) (C : Addr) : Prop where
  cl : (PySem.W.clsIn K C).isSome = true
  xf : XfC K C
  at_ : PySem.W.findIn K (.ref C) "__class__" = some (some (.builtin "object.__class__"))
  sp : PySem.W.specialIn K (.builtin "object.__class__") "__get__" = some (some (.builtin "getset_descriptor.__get__"))
  tk : PySem.W.takesIn K (.builtin "object.__class__") = some true
  mr : PySem.W.mroIn K C (.type "object") = some true
def isE (K : PySem.W.Frag) (C : Addr) : Bool := (PySem.W.clsIn K C).isSome && (xfB K C && (He.eqO (PySem.W.findIn K (.ref C) "__class__") (some (some (.builtin "object.__class__"))) && (He.eqO (PySem.W.specialIn K (.builtin "object.__class__") "__get__") (some (some (.builtin "getset_descriptor.__get__"))) &&
  (decide (PySem.W.takesIn K (.builtin "object.__class__") = some true) && decide (PySem.W.mroIn K C (.type "object") = some true)))))
theorem isE_ok {K : PySem.W.Frag} {C : Addr} (h : isE K C = true) : IsE K C := by
  obtain ⟨h1, h⟩ := He.ba h
  obtain ⟨h2, h⟩ := He.ba h
  obtain ⟨h3, h⟩ := He.ba h
  obtain ⟨h4, h⟩ := He.ba h
  obtain ⟨h5, h6⟩ := He.ba h
  exact ⟨h1, xfB_ok h2, He.eqO_ok h3, He.eqO_ok h4, of_decide_eq_true h5, of_decide_eq_true h6⟩
theorem EV.inst {X : Cx} {pins : List (Addr × Obj)} {σ : St} {H : Hp} {s : Shared} {a C : Addr} {fs : List (Str × V)} (I : Inv X pins σ H s) (h : EV H a C fs) : ∃ oe od, PySem.W.InstAt s.heap a oe C od := by
  rcases h with ⟨h, _⟩ | ⟨d, h1, h2⟩
  · obtain ⟨oe, vs, e, c, dn, dt⟩ := ErO_at I.hok h
    exact ⟨oe, none, e, c, by unfold PySem.W.notCls; rw [dt] <;> rfl, by rw [dn]; trivial⟩
  · obtain ⟨oe, vs, e, c, dn, dt⟩ := ErO_at I.hok h1
    have hx : ObjOk X.prog X.w H s.heap d (.xd fs) := I.hok d _ h2
    obtain ⟨mA, hns, hr⟩ := hx
    obtain ⟨od, ho, hl⟩ := lookIn_ns hns
    exact ⟨oe, some od, e, c, by unfold PySem.W.notCls; rw [dt] <;> rfl, by rw [dn]; exact ho⟩
/-- isinstance(error, c) -/
theorem call_isiE {X : Cx} : CallR X (.builtin "isinstance") (fun xs H Q => ∃ (a : Addr) (c : V) (C : Addr) (fs : List (Str × V)) (u : Value) (b : Bool), xs = [.ref a, c] ∧ ClsV c u ∧ EV H a C fs ∧ IsE X.K C ∧ PySem.W.kitOne X.K (.ref C) u = some b ∧ Q (.bl b) H) := by
  intro pins s σ H xs us Q I r h
  obtain ⟨a, c, C, fs, u, b, rfl, k, ev, ie, e, q⟩ := h
  obtain ⟨u1, u2, rfl, r1, r2⟩ := vals2 r
  have e2 := k.eq r2
  subst e2
  cases (show u1 = Value.ref a from r1)
  obtain ⟨oe, od, J⟩ := ev.inst I
  exact PySem.W.kia_one (PySem.W.kitx_exc (gt := none) ie.cl ie.xf.ga ie.xf.gg ie.xf.exC ie.at_ ie.sp ie.tk ie.mr) I.kIn J e (fun z => nomatch z) fun tk => ⟨.bl b, H, I.tok tk, rfl, q⟩
/-- err.f -/
def tXv (K : PySem.W.Frag) (n : Str) (te : TE) : TE := fun σ H Q => te σ H fun x H1 => ∃ (a C : Addr) (fs : List (Str × V)) (v : V), x = .ref a ∧ EV H1 a C fs ∧ XfC K C ∧ PySem.W.findIn K (.ref C) n = some none ∧ fs.lookup n = some v ∧ Q v H1
theorem pe_xv {X : Cx} {e : Expr} {te : TE} {pos : Pos} {n : Str} (he : PE X e te) (hb : attributeBase e n X.env (eval e X.env) = eval e X.env := by rfl) : PE X (.Attribute e n pos) (tXv X.K n te) := by
  refine ⟨fun pins s σ H Q I h => ?_⟩
  refine attr_of hb (thn (he.run pins s σ H _ I h) fun u s1 hh => ?_)
  obtain ⟨x, H1, I1, rx, a, C, fs, v, ex, ev, T, hno, l, q⟩ := hh
  subst ex
  obtain rfl : u = Value.ref a := rx
  rcases ev with ⟨_, rfl⟩ | ⟨d, h1, h2⟩
  · cases l
  · obtain ⟨oe, vs, ho, c, dn, dt⟩ := ErO_at I1.hok h1
    have hx : ObjOk X.prog X.w H1 s1.heap d (.xd fs) := I1.hok d _ h2
    obtain ⟨mA, hns, hr⟩ := hx
    obtain ⟨od, hod, hl⟩ := lookIn_ns hns
    obtain ⟨u, hu, ru⟩ := RelO.some_of (v := v) (o := mA n) (by rw [← l]; exact hr n)
    have J : PySem.W.InstAt s1.heap a oe C (some od) := ⟨ho, c, by unfold PySem.W.notCls; rw [dt] <;> rfl, by rw [dn]; exact hod⟩
    exact HandSPX.exc_get I1.kIn J T.ga T.gg T.exC (PySem.W.findObj_own T.hdC hno rfl (by rw [hl, hu])) (handed_of ru) ⟨v, H1, I1.tok _, ru, q⟩
end L2
set_option Elab.async false
set_option linter.all false
set_option maxRecDepth 100000
set_option maxHeartbeats 4000000
namespace WH
open PySem PySem.Spec PyProof.Rows L2
open He (ga ma ba eqO eqO_ok)
/-! ### errors of none, one or two fields -/
structure ErN where
  x : Str
  fls : List Str
  st : Stmt
def ErN.val (e : ErN) : FnE := some ("__init__", e.x ++ ".__init__", defArgs e.st, .stmts (defBody e.st), defScope e.st, mainGlobals, ["__class__"], builtinsNs)
def ErN.ok (prog : Program) (K : Frag) (e : ErN) : Bool :=
  eqO (PySem.W.nsIn K mainGlobals e.x) (some (some (.ref (ga K e.x)))) && (veB K (ga K e.x) && (eqO (PySem.W.findIn K (.ref (ga K e.x)) "__setattr__") (some (some (.builtin "object.__setattr__"))) &&
  (xfB K (ga K e.x) && ((e.fls.all fun f => eqO (PySem.W.findIn K (.ref (ga K e.x)) f) (some none)) && (eqO (PySem.W.findIn K (.ref (ga K e.x)) "__init__") (some (some (.ref (iAd K e.x)))) &&
  (decide (PySem.W.typeIn K (.ref (iAd K e.x)) = some (.type "function")) && (PySem.W.keepIn K (.ref (ga K e.x)) && (decide (PySem.W.subIn K (.ref (ga K e.x)) (.type "BaseException") = some true) &&
  (decide (PySem.W.typeIn K (.ref (ga K e.x)) = some (.type "type")) && (eqO (PySem.W.ks_superIn K (ga K e.x) (ga K e.x) "__init__") (some (some (.builtin "ValueError.__init__"))) &&
  (decide (PySem.W.subIn K (.ref (ga K e.x)) (.type "ValueError") = some true) && (eqO (PySem.W.nsIn K cStatics "thirdparty.any") (some none) && (decide (PySem.W.mroIn K (ga K e.x) (.ref (ga K e.x)) = some true) &&
  (eqO (PySem.W.nsIn K mainGlobals "super") (some none) && (!(prog.main.scope.names.lookup ("super" : Str)).isSome && inB prog K (ga K e.x) (iAd K e.x) (e.x ++ ".__init__"))))))))))))))))
theorem ErN.txt {prog : Program} {K : Frag} {h : Heap} {mg : Str → Option Value} {e : ErN} {p : PySem.WErr.PsN} {ar : Arg} (X : K.In h) (G : h.Ns mainGlobals mg) (c : e.ok prog K = true) (v : fnE K e.x = e.val)
    (hB : defBody e.st = PySem.WErr.eBN e.fls p) (hS : defScope e.st = PySem.WErr.eSN e.fls) (hP : ((defArgs e.st).posonlyargs ++ (defArgs e.st).args).head? = some ar) (hA : ar.arg = "self")
    (h1 : (PySem.WErr.eSN e.fls).names.lookup ("super" : Str) = some .globalImplicit) (h2 : (PySem.WErr.eSN e.fls).names.lookup ("__class__" : Str) = some .free) (h3 : (PySem.WErr.eSN e.fls).names.lookup ("self" : Str) = some .local) (h4 : ∀ f ∈ e.fls, (PySem.WErr.eSN e.fls).names.lookup f = some .local)
    (h5 : ∀ f ∈ e.fls, f ≠ "self" ∧ (f == ("__debug__" : Str)) = false) (h6 : e.fls = [] ∨ (∃ f, e.fls = [f]) ∨ ∃ f g, e.fls = [f, g] ∧ f ≠ g) (h7 : p.qs.length = e.fls.length)
    (h8 : ∀ cda cc L f : Addr, ∃ pl : Sem Bool, eval (.Call (.Attribute (.Call (.Name "super" p.a1) [] [] p.a2) "__init__" p.a3) [.Constant (.str p.txt) p.k p.a5] [] p.a6) (PySem.W.ksEnv (e.x ++ ".__init__") (PySem.WErr.eSN e.fls) L f (.ref cda) cc) = (do
      let ov ← attributeBase (.Call (.Name "super" p.a1) [] [] p.a2) "__init__" (PySem.W.ksEnv (e.x ++ ".__init__") (PySem.WErr.eSN e.fls) L f (.ref cda) cc) (eval (.Call (.Name "super" p.a1) [] [] p.a2) (PySem.W.ksEnv (e.x ++ ".__init__") (PySem.WErr.eSN e.fls) L f (.ref cda) cc))
      standAt p.a3.atName
      let (f1, first) ← holding [ov] (getMethod ov "__init__" pl)
      callWith p.a6 f1 first (backTo p.a6 (starEach [.Constant (.str p.txt) p.k p.a5] (PySem.W.ksEnv (e.x ++ ".__init__") (PySem.WErr.eSN e.fls) L f (.ref cda) cc))) []))
    (h9 : ∀ (kV doc pm : Value) (an : Option Addr) (cda cc : Addr) (ct a : Value) (us : List Value), us.length = e.fls.length → bindArgs (PySem.W.ksFn "__init__" (e.x ++ ".__init__") (defArgs e.st) (PySem.WErr.eBN e.fls p) (PySem.WErr.eSN e.fls) .none kV doc pm an (.ref cda) ct cc) ⟨a :: us, []⟩ = pure ((("self" : Str), a) :: e.fls.zip us)) :
    PySem.WErr.ErrTxtN prog K mg e.x e.fls (ga K e.x) (iAd K e.x) := by
  obtain ⟨c1, c⟩ := ba c
  obtain ⟨c2, c⟩ := ba c
  obtain ⟨c3, c⟩ := ba c
  obtain ⟨c4, c⟩ := ba c
  obtain ⟨c5, c⟩ := ba c
  obtain ⟨c6, c⟩ := ba c
  obtain ⟨c7, c⟩ := ba c
  obtain ⟨c8, c⟩ := ba c
  obtain ⟨c9, c⟩ := ba c
  obtain ⟨c10, c⟩ := ba c
  obtain ⟨c11, c⟩ := ba c
  obtain ⟨c12, c⟩ := ba c
  obtain ⟨c13, c⟩ := ba c
  obtain ⟨c14, c⟩ := ba c
  obtain ⟨c15, c⟩ := ba c
  obtain ⟨c16, c17⟩ := ba c
  refine ⟨PySem.W.mg_of X G (eqO_ok c1), veB_ok c2, eqO_ok c3, xfB_ok c4, (fun f hf => eqO_ok (List.all_eq_true.mp c5 f hf)), eqO_ok c6, of_decide_eq_true c7, c8, of_decide_eq_true c9, of_decide_eq_true c10, eqO_ok c11, of_decide_eq_true c12, eqO_ok c13, of_decide_eq_true c14, PySem.W.mg_none_of X G (eqO_ok c15), by simpa using c16, h6, ?_⟩
  unfold fnE at v
  unfold inB at c17
  cases q : K.lookup (iAd K e.x) with
  | none => rw [q] at v; cases v
  | some o =>
    obtain ⟨oc, od, dt, osl⟩ := o
    rw [q] at v c17
    cases dt with
    | func fd =>
      obtain ⟨n1, n2, n3, n4, n5, n6, n7, n8, n9, n10, n11, n12, n13, n14, n15⟩ := fd
      have e2 : (some (n1, n2, n3, n4, n5, n6, n7.map (·.1), n15) : FnE) = e.val := v
      unfold ErN.val at e2
      simp only [Option.some.injEq, Prod.mk.injEq] at e2
      obtain ⟨g1, g2, g3, g4, g5, g6, g7, g8⟩ := e2
      subst g1 g2 g3 g4 g5 g6 g8
      dsimp only at c17
      split at c17
      · rename_i cda nm cc
        obtain ⟨d1, d⟩ := ba c17
        obtain ⟨d2, d3⟩ := ba d
        have hnm : nm = ("__class__" : Str) := by simpa using g7
        subst hnm
        rw [hB, hS]
        refine ⟨oc, od, _, _, _, _, _, _, cda, cc, _, osl, p, ar, rfl, d1, h7, hP, hA, ?_, ?_, h1, h2, h3, h4, h5, h8 cda cc, h9 _ _ _ _ cda cc _⟩
        · split at d2
          · rename_i z1 z2 vs z3 hl
            split at d2
            · rename_i file tf hv
              exact ⟨_, _, vs, _, file, tf, hl, hv, d2⟩
            · cases d2
          · cases d2
        · split at d3
          · rename_i z1 z2 D z3 hl
            obtain rfl := of_decide_eq_true d3
            exact ⟨_, _, _, hl⟩
          · cases d3
      · cases c17
    | _ => cases c17
/-! ### the hook -/
abbrev AlN : Type := Bool × List He.FnW × List FnE
def obsN (prog : Program) (fa : List Chk) (fn : List He5.DefA) (er : List ErN) (K : Frag) : AlN :=
  ((fa.all fun f => f K) && ((fn.all fun d => d.ok K) && er.all fun e => e.ok prog K), fn.map (fun d => He5.fnA K (d.at_ K)), er.map fun e => fnE K e.x)
def valN (fn : List He5.DefA) (er : List ErN) : AlN := (true, fn.map He5.DefA.val, er.map ErN.val)
def SaysN (prog : Program) (fa : List Chk) (fn : List He5.DefA) (er : List ErN) (K : Frag) : Prop := obsN prog fa fn er K = valN fn er
def obsNG (prog : Program) (n : Nat) (fa : List Chk) (fn : List He5.DefA) (er : List ErN) (g : Addr → Option Obj) : AlN := obsN prog fa fn er (He.frG g (He5.asA g n))
def hookN (prog : Program) (n : Nat) (fa : List Chk) (fn : List He5.DefA) (er : List ErN) : PySem.W.Hook where
  α := AlN
  obs := fun s => obsNG prog n fa fn er s.heap.get?
  val := fun _ => valN fn er
  says := fun _ h => ∃ K : Frag, K.In h ∧ SaysN prog fa fn er K
  of := fun _ _ e => ⟨_, He.frG_in, e⟩
  keeps := fun _ _ _ ⟨K, hK, c⟩ k => ⟨K, PySem.W.Frag.In.keeps hK k, c⟩
theorem obsNG_eq {prog : Program} {n : Nat} {fa : List Chk} {fn : List He5.DefA} {er : List ErN} {g : Addr → Option Obj} {s : Shared} (h : ∀ a, g a = s.heap.get? a) : obsNG prog n fa fn er g = (hookN prog n fa fn er).obs s := by
  have e : g = s.heap.get? := funext h
  subst e
  rfl
section
variable {prog : Program} {fa : List Chk} {fn : List He5.DefA} {er : List ErN} {K : Frag}
theorem SaysN.fact (c : SaysN prog fa fn er K) (i : Nat) {f : Chk} (h : fa[i]? = some f := by rfl) : f K = true :=
  List.all_eq_true.mp (ba (congrArg (fun z : AlN => z.1) c)).1 f (List.mem_of_getElem? h)
theorem SaysN.def_ (c : SaysN prog fa fn er K) (i : Nat) {d : He5.DefA} (h : fn[i]? = some d := by rfl) : ∃ fd, L2.FunD K d.name d.qual d.params d.body d.scope (d.dvs K) (d.kws K) (d.at_ K) fd := by
  have e : fn.map (fun d => He5.fnA K (d.at_ K)) = fn.map He5.DefA.val := congrArg (fun z : AlN => z.2.1) c
  have e2 := congrArg (fun l => l[i]?) e
  simp only [List.getElem?_map, h] at e2
  exact He5.DefA.funD (Option.some.inj e2) (List.all_eq_true.mp (ba (ba (congrArg (fun z : AlN => z.1) c)).2).1 d (List.mem_of_getElem? h))
theorem SaysN.err (c : SaysN prog fa fn er K) (i : Nat) {e : ErN} (h : er[i]? = some e := by rfl) : e.ok prog K = true ∧ fnE K e.x = e.val := by
  have e1 : er.map (fun e => fnE K e.x) = er.map ErN.val := congrArg (fun z : AlN => z.2.2) c
  have e2 := congrArg (fun l => l[i]?) e1
  simp only [List.getElem?_map, h] at e2
  exact ⟨List.all_eq_true.mp (ba (ba (congrArg (fun z : AlN => z.1) c)).2).2 e (List.mem_of_getElem? h), Option.some.inj e2⟩
end
theorem one_of {prog : Program} {K : Frag} {mg : Str → Option Value} {x f : Str} {C fI : Addr} (T : PySem.WErr.ErrTxtN prog K mg x [f] C fI) (hc : (f == ("__class__" : Str)) = false) : PySem.WErr.ErrTxt prog K mg x f C fI := by
  obtain ⟨oc, od, qual, params, doc, pm, kV, an, cda, cc, ct, osl, p, ar, ho, hcd, hpq, hp, har, g1, g2, h1, h2, h3, h4, h5, hev, hb⟩ := T.fn
  obtain ⟨a1, a2, a3, a5, a6, a7, kk, txt, qs⟩ := p
  obtain ⟨q1, hq1⟩ := List.length_eq_one_iff.mp hpq
  dsimp only at hq1
  subst hq1
  obtain ⟨q1, q2, q3, q4⟩ := q1
  exact ⟨T.gC, T.cls, T.sa, T.xf, T.noF f List.mem_cons_self, T.iC, T.tC, T.kC, T.exC, T.tyC, T.sup, T.ve, T.any, T.own, T.gS, T.htop,
    oc, od, qual, params, doc, pm, kV, an, cda, cc, ct, osl, ⟨a1, a2, a3, a5, a6, a7, q1, q2, q3, q4, kk, txt⟩, ar, ho, hcd, hp, har, g1, g2, h1, h2, h3, h4 f List.mem_cons_self, (h5 f List.mem_cons_self).1, (h5 f List.mem_cons_self).2, hc, hev, fun a b => hb a [b] rfl⟩
end WH
namespace WH
open PySem PySem.Spec PyProof.Rows L2
open He (ga ma ba eqO eqO_ok)
/-! ### errors as values: isinstance of them -/
def cIse (l : List Str) : Chk := fun K => l.all fun x => isE K (ga K x)
theorem ise_ok {K : Frag} {l : List Str} (c : cIse l K = true) (x : Str) (h : x ∈ l) : IsE K (ga K x) := isE_ok (List.all_eq_true.mp c x h)
/-- the class data of errors over WhichError: names, orders -/
def mroE (K : Frag) (x : Str) : List Value := [.ref (ga K x), .ref (ga K "WhichError"), .type "ValueError", .type "Exception", .type "BaseException", .type "object"]
def cMro (l : List Str) : Chk := fun K => (l.all fun x => (match PySem.W.clsIn K (ga K x) with | some cd => decide (cd.name = x) && decide (cd.mro = mroE K x) | none => false) && decide (PySem.W.typeIn K (.ref (ga K x)) = some (.type "type"))) &&
  ((match PySem.W.clsIn K (ga K "WhichError") with | some cd => decide (cd.name = "WhichError") | none => false) && decide (PySem.W.typeIn K (.ref (ga K "WhichError")) = some (.type "type")))
structure MroE (K : Frag) (x : Str) : Prop where
  cl : ∃ cd, PySem.W.clsIn K (ga K x) = some cd ∧ cd.name = x ∧ cd.mro = mroE K x
  ty : PySem.W.typeIn K (.ref (ga K x)) = some (.type "type")
theorem mro_ok {K : Frag} {l : List Str} (c : cMro l K = true) : (∀ x ∈ l, MroE K x) ∧ (∃ cd, PySem.W.clsIn K (ga K "WhichError") = some cd ∧ cd.name = "WhichError") ∧ PySem.W.typeIn K (.ref (ga K "WhichError")) = some (.type "type") := by
  obtain ⟨c1, c2⟩ := ba c
  obtain ⟨c2, c3⟩ := ba c2
  refine ⟨fun x hx => ?_, ?_, of_decide_eq_true c3⟩
  · obtain ⟨d1, d2⟩ := ba (List.all_eq_true.mp c1 x hx)
    refine ⟨?_, of_decide_eq_true d2⟩
    split at d1
    · rename_i cd hc
      obtain ⟨e1, e2⟩ := ba d1
      exact ⟨cd, hc, of_decide_eq_true e1, of_decide_eq_true e2⟩
    · cases d1
  · split at c2
    · rename_i cd hc
      exact ⟨cd, hc, of_decide_eq_true c2⟩
    · cases c2
theorem sub_of {K : Frag} {x : Str} (h : MroE K x) (u : Value) : PySem.W.subIn K (.ref (ga K x)) u = some ((mroE K x).contains u) := by
  obtain ⟨cd, e, _, em⟩ := h.cl
  show PySem.W.mroIn K (ga K x) u = _
  unfold PySem.W.mroIn
  rw [e, Option.bind_some, em]
  rfl
theorem kit_ok {K : Frag} {l : List Str} (c : cMro l K = true) (hw : ∀ x ∈ l, x ≠ "WhichError") (x : Str) (h : x ∈ l) (y : Str) (g : y ∈ l) : PySem.W.kitOne K (.ref (ga K x)) (.ref (ga K y)) = some (x == y) := by
  obtain ⟨hm, ⟨cw, ew, nw⟩, _⟩ := mro_ok c
  by_cases e : x = y
  · subst e
    unfold PySem.W.kitOne
    rw [if_pos (by simp)]
    simp
  · obtain ⟨cx, ex, nx, _⟩ := (hm x h).cl
    obtain ⟨cy, ey, ny, _⟩ := (hm y g).cl
    have hne : ga K x ≠ ga K y := fun z => by
      rw [z, ey] at ex
      cases ex
      exact e (nx.symm.trans ny)
    have hnw : ga K "WhichError" ≠ ga K y := fun z => by
      rw [z, ey] at ew
      cases ew
      exact hw y g (ny.symm.trans nw)
    have hb : (x == y) = false := by simpa using e
    unfold PySem.W.kitOne
    rw [if_neg (by simpa using hne), hb]
    unfold PySem.W.kitCls
    dsimp only
    rw [ey, (hm y g).ty]
    show (if ((some cy).isSome && (some (Value.type "type") == some (Value.type "type"))) = true then _ else _) = _
    rw [if_pos (by simp), sub_of (hm x h)]
    unfold mroE
    simp [Ne.symm hne, Ne.symm hnw]
theorem kitW_ok {K : Frag} {l : List Str} (c : cMro l K = true) (x : Str) (h : x ∈ l) : PySem.W.kitOne K (.ref (ga K x)) (.ref (ga K "WhichError")) = some true := by
  obtain ⟨hm, ⟨cw, ew, nw⟩, tw⟩ := mro_ok c
  unfold PySem.W.kitOne
  by_cases e : (Value.ref (ga K x) == Value.ref (ga K "WhichError")) = true
  · rw [if_pos e]
  · rw [if_neg e]
    unfold PySem.W.kitCls
    dsimp only
    rw [ew, tw]
    show (if ((some cw).isSome && (some (Value.type "type") == some (Value.type "type"))) = true then _ else _) = _
    rw [if_pos (by simp), sub_of (hm x h)]
    unfold mroE
    simp
theorem kitE_ok {K : Frag} {l : List Str} (c : cMro l K = true) (x : Str) (h : x ∈ l) : PySem.W.kitOne K (.ref (ga K x)) (.type "ValueError") = some true := by
  obtain ⟨hm, _⟩ := mro_ok c
  unfold PySem.W.kitOne
  rw [if_neg (by simp)]
  unfold PySem.W.kitCls
  show (if PySem.W.kitMeta "ValueError" = true then _ else _) = _
  rw [if_pos (by decide +kernel), sub_of (hm x h)]
  unfold mroE
  simp
end WH
set_option Elab.async false
set_option linter.all false
set_option maxRecDepth 100000
set_option maxHeartbeats 4000000
namespace WH
open PySem PySem.Spec PyProof.Rows L2
open He (ga ma ba eqO eqO_ok)
/-! ### classes of one's own: __init__ with keyword-only defaults, methods -/
/-- the keyword-only default x of C.__init__, if it is an object -/
def kwAt (C x : Str) (K : Frag) : Addr := match K.lookup (ma K (ga K C) "__init__") with
  | some ⟨_, _, .func fd, _⟩ => (match fd.kwdefaults with
    | .ref D => (match PySem.W.nsIn K D x with
      | some (some (.ref a)) => a
      | _ => 0)
    | _ => 0)
  | _ => 0
def mkI (C : Str) (st : Stmt) (kw : List Str) : He5.DefA := ⟨fun K => ma K (ga K C) "__init__", "__init__", C ++ ".__init__", defArgs st, defBody st, defScope st, [], kw.map fun k => (k, He.Dv.adr (kwAt C k))⟩
def mkM (C m q : Str) (st : Stmt) : He5.DefA := ⟨fun K => ma K (ga K C) m, m, q, defArgs st, defBody st, defScope st, [], []⟩
def psOf (st : Stmt) : PySem.WErr.PsN := match defBody st with
  | .Expr (.Call (.Attribute (.Call (.Name _ a1) _ _ a2) _ a3) [.Constant (.str txt) k a5] _ a6) a7 :: r =>
    ⟨a1, a2, a3, a5, a6, a7, k, txt, r.map fun s => match s with
      | .Assign [.Attribute (.Name _ q1) _ q2] (.Name _ q3) q4 => (q1, q2, q3, q4)
      | _ => (a1, a1, a1, a1)⟩
  | _ => ⟨⟨0, 0, 0, 0⟩, ⟨0, 0, 0, 0⟩, ⟨0, 0, 0, 0⟩, ⟨0, 0, 0, 0⟩, ⟨0, 0, 0, 0⟩, ⟨0, 0, 0, 0⟩, 0, "", []⟩
def argsN (as : List Arg) : Arguments := ⟨[], as, none, [], [], none, []⟩
theorem sup_eval (p : PySem.WErr.PsN) (hline : (p.a3.endLine == p.a6.line) = true) (qual : Str) (sc : Scope) (cda cc L f : Addr) : ∃ pl : Sem Bool, eval (.Call (.Attribute (.Call (.Name "super" p.a1) [] [] p.a2) "__init__" p.a3) [.Constant (.str p.txt) p.k p.a5] [] p.a6) (PySem.W.ksEnv qual sc L f (.ref cda) cc) = (do
      let ov ← attributeBase (.Call (.Name "super" p.a1) [] [] p.a2) "__init__" (PySem.W.ksEnv qual sc L f (.ref cda) cc) (eval (.Call (.Name "super" p.a1) [] [] p.a2) (PySem.W.ksEnv qual sc L f (.ref cda) cc))
      standAt p.a3.atName
      let (f1, first) ← holding [ov] (getMethod ov "__init__" pl)
      callWith p.a6 f1 first (backTo p.a6 (starEach [.Constant (.str p.txt) p.k p.a5] (PySem.W.ksEnv qual sc L f (.ref cda) cc))) []) := by
  generalize (PySem.W.ksEnv qual sc L f (.ref cda) cc) = env
  refine ⟨(do return (← importBound (.Call (.Name "super" p.a1) [] [] p.a2) env).getD true), ?_⟩
  have hpos : methodCallPos true (.Call (.Name "super" p.a1) [] [] p.a2) env p.a3 p.a6 = pure p.a6 := by unfold methodCallPos; simp [hline]
  have hform : methodCallForm 1 (backTo p.a6 (starEach [.Constant (.str p.txt) p.k p.a5] env)) (backToKw p.a6 (keywordEach [] env)) = true := rfl
  rw [arm_eval_Call]
  show (do
    let ov ← attributeBase (.Call (.Name "super" p.a1) [] [] p.a2) "__init__" env (eval (.Call (.Name "super" p.a1) [] [] p.a2) env)
    standAt p.a3.atName
    methodCall (.Call (.Name "super" p.a1) [] [] p.a2) "__init__" p.a3 p.a6 env ov 1 (backTo p.a6 (starEach [.Constant (.str p.txt) p.k p.a5] env)) (backToKw p.a6 (keywordEach [] env))) = _
  unfold methodCall
  rw [hform, hpos]
  rfl
structure StOk (fls : List Str) (st : Stmt) : Prop where
  b : defBody st = PySem.WErr.eBN fls (psOf st)
  s : defScope st = PySem.WErr.eSN fls
  l : ((psOf st).a3.endLine == (psOf st).a6.line) = true
  q : (psOf st).qs.length = fls.length
  a : ∃ q0 qs, qs.length = fls.length ∧ defArgs st = argsN (⟨"self", none, q0⟩ :: List.zipWith (fun f q => ⟨f, none, q⟩) fls qs)
def a0 (st : Stmt) : Pos := ((defArgs st).args.map (·.pos)).headD ⟨0, 0, 0, 0⟩
def aqs (st : Stmt) : List Pos := ((defArgs st).args.map (·.pos)).tail
def FlOk (fls : List Str) : Prop := (fls = [] ∨ (∃ f, fls = [f]) ∨ ∃ f g, fls = [f, g] ∧ f ≠ g) ∧
  (PySem.WErr.eSN fls).names.lookup ("super" : Str) = some .globalImplicit ∧ (PySem.WErr.eSN fls).names.lookup ("__class__" : Str) = some .free ∧ (PySem.WErr.eSN fls).names.lookup ("self" : Str) = some .local ∧ (∀ f ∈ fls, (PySem.WErr.eSN fls).names.lookup f = some .local) ∧
  (∀ f ∈ fls, f ≠ "self" ∧ (f == ("__debug__" : Str)) = false) ∧
  ∀ (q0 : Pos) (qs : List Pos), qs.length = fls.length → ∀ (qual : Str) (b : List Stmt) (sc : Scope) (kV doc pm : Value) (an : Option Addr) (cda cc : Addr) (ct a : Value) (us : List Value), us.length = fls.length →
    bindArgs (PySem.W.ksFn "__init__" qual (argsN (⟨"self", none, q0⟩ :: List.zipWith (fun f q => ⟨f, none, q⟩) fls qs)) b sc .none kV doc pm an (.ref cda) ct cc) ⟨a :: us, []⟩ = pure ((("self" : Str), a) :: fls.zip us)
theorem ErN.txt2 {prog : Program} {K : Frag} {h : Heap} {mg : Str → Option Value} {e : ErN} (X : K.In h) (G : h.Ns mainGlobals mg) (c : e.ok prog K = true ∧ fnE K e.x = e.val) (S : StOk e.fls e.st) (F : FlOk e.fls) : PySem.WErr.ErrTxtN prog K mg e.x e.fls (ga K e.x) (iAd K e.x) := by
  obtain ⟨f1, f2, f3, f4, f5, f6, f7⟩ := F
  obtain ⟨q0, qs, hl, ha⟩ := S.a
  refine ErN.txt (p := psOf e.st) (ar := ⟨"self", none, q0⟩) X G c.1 c.2 S.b S.s (by rw [ha]; rfl) rfl f2 f3 f4 f5 f6 f1 S.q (fun cda cc L f => sup_eval _ S.l _ _ cda cc L f) (fun kV doc pm an cda cc ct a us hu => ?_)
  rw [ha]
  exact f7 q0 qs hl _ _ _ _ _ _ _ _ _ _ _ us hu
end WH
set_option Elab.async false
set_option linter.all false
set_option maxRecDepth 100000
set_option maxHeartbeats 4000000
namespace WT
open PySem PySem.Spec PyProof.Rows L2
/-! ### sorted(t), t a tuple of texts -/
section
variable {prog : Program} {w : World} {A : Around} {E : Value → Shared → Prop} {s : Shared}
theorem collect_tuple {l : Addr} {vs : List Value} {Q : List Value → Shared → Prop} (hl : s.heap.IsTuple l vs.toArray)
    (h : Q vs { s with heap := (s.heap.push (seqObj "list" #[] 0)).update s.heap.objs.size (Obj.mapSeq (· ++ vs.toArray)) }) (hsz : vs.length ≤ sizeLine) :
    wpAny (model prog w) A (collect (.ref l)) Q E s := by
  obtain ⟨o, ho, hc, n, hd⟩ := id hl
  have ho' : (s.heap.push (seqObj "list" #[] 0)).get? l = some o := Heap.get?_push_of_some _ ho
  unfold collect
  refine wpAny_bind (wpAny_runValue (codeAny_builtin entry_proto_collect' ?_))
  show wpAny _ _ (do again (.builtin "list.__iadd__" ⟨[← newList [], .ref l], []⟩)) _ _ s
  refine wpAny_bind (wpAny_newList (wpAny_pure ⟨Code.quiet_builtin _ (by decide +kernel), codeAny_builtin entry_list_iadd' ?_⟩))
  show wpAny _ _ (Builtin.List.listExtendWith (.ref s.heap.objs.size) (.ref l) (.ref s.heap.objs.size)) _ _ { s with heap := s.heap.push (seqObj "list" #[] 0) }
  unfold Builtin.List.listExtendWith
  refine wpAny_bind (wpAny_typeOf (T := "tuple") ⟨o, ho', hc⟩ ?_)
  have ht : (Value.type "tuple" == Value.type "tuple") = true := by rfl
  rw [if_pos (by rw [ht]; simp)]
  refine wpAny_bind (listItems_at ho' hd (wpAny_bind (listItems_at (xs := #[]) (n := 0) (Heap.get?_push_size _ rfl) rfl ?_)))
  rw [if_neg (by simp)]
  refine wpAny_bind (listUpdate_at (xs := #[]) (n := 0) (Heap.get?_push_size _ rfl) rfl ?_ (Nat.zero_le _) (by show (#[] ++ vs.toArray).size ≤ sizeLine + 1; simp only [Array.size_append, List.size_toArray, List.length_nil]; omega))
  refine wpAny_pure ?_
  show wpAny (model prog w) A (do
      let o ← load s.heap.objs.size
      match o.data with
      | .seq xs _ => pure xs.toList
      | _ => unsupported "internal:collect") Q E { s with heap := (s.heap.push (seqObj "list" #[] 0)).update s.heap.objs.size (Obj.mapSeq (· ++ vs.toArray)) }
  refine wpAny_bind (wpAny_load (get?_update_seq (Heap.get?_push_size _ rfl) _) ?_)
  show wpAny _ _ (pure ((#[] : Array Value) ++ vs.toArray).toList) Q E _
  rw [show ((#[] : Array Value) ++ vs.toArray).toList = vs by simp]
  exact wpAny_pure h
theorem sorted_strsT {l : Addr} {vs : List Value} {ss : List Str} {Q : Value → Shared → Prop} (hl : s.heap.IsTuple l vs.toArray) (hS : StrsAre vs ss) (h64 : vs.length < 64)
    (h : ∀ (out : Array Value) (ss' : List Str), StrsAre out.toList ss' → ss'.Perm ss → sortedS ss' = true → Q (.ref (s.heap.objs.size + 1)) { s with heap := sortedAll s.heap vs out }) :
    wpAny (model prog w) A (call (.builtin "sorted") [.ref l]) Q E s := by
  refine Calls.call_function_entry kind_sorted plain_sorted entry_sorted (args_sorted1 _) ?_
  unfold Builtin.«sorted»
  refine wpAny_bind (m := checkCount "sorted" 1 1 _) (wpAny_pure (wpAny_bind (collect_tuple hl (wpAny_bind (wpAny_newList ?_)) (by rw [sizeLine_eq]; omega))))
  have hsz : ((s.heap.push (seqObj "list" #[] 0)).update s.heap.objs.size (Obj.mapSeq (· ++ vs.toArray))).objs.size = s.heap.objs.size + 1 := by
    rw [Heap.size_update, size_push']
  have hoL : (((s.heap.push (seqObj "list" #[] 0)).update s.heap.objs.size (Obj.mapSeq (· ++ vs.toArray))).push (seqObj "list" vs.toArray 0)).get? (s.heap.objs.size + 1) = some (seqObj "list" vs.toArray 0) := by
    rw [← hsz]; exact Heap.get?_push_size _ rfl
  show wpAny _ _ _ _ _ { s with heap := ((s.heap.push (seqObj "list" #[] 0)).update s.heap.objs.size (Obj.mapSeq (· ++ vs.toArray))).push (seqObj "list" vs.toArray 0) }
  rw [hsz]
  refine wpAny_bind (wpAny_holding (wpAny_call_entry slot_list_sort ⟨_, hoL, rfl⟩ entry_list_sort (list_sort_treeK strKind_oneLt hoL hS.keysOf (fun v₁ v₂ rest e => keyKind_strs (by rw [← e]; exact hS)) h64 fun st' hp hs => ⟨_, rfl, ?_⟩) (args_list_sort _)))
  obtain ⟨ss', h1, h2, h3⟩ := sorted_out_str hS hp hs
  exact wpAny_pure ⟨_, rfl, h _ ss' h1 h2 h3⟩
end
end WT
namespace L2
open PySem PySem.Spec PyProof.Rows
/-- sorted(xs), a list or a tuple of texts -/
def rSortedLT (K : PySem.W.Frag) : List V → Hp → VK → Prop := fun vs H Q => ∃ (a : Addr) (xs : List Str), vs = [V.ref a] ∧ (SqL K H a (xs.map V.str) ∨ SqT K H a (xs.map V.str)) ∧ xs.length < 64 ∧
  ∀ (ys : List Str) (p : Addr), ys.Perm xs → sortedS ys = true → H p = none → Q (.ref p) (upd H p (.lst (ys.map V.str)))
theorem cr_sortedLT {X : Cx} : CallR X (.builtin "sorted") (rSortedLT X.K) := by
  intro pins s σ H vs us Q I r h
  obtain ⟨a, xs, rfl, hs, h64, q⟩ := h
  rcases hs with hs | hs
  · exact cr_sortedS pins s σ H _ us Q I r ⟨a, xs, rfl, hs, h64, q⟩
  · obtain ⟨its, rv, hl, _⟩ := I.tuple hs
    rw [Vals.ref1 r]
    have hlen0 := rv.length
    rw [List.length_map] at hlen0
    refine WT.sorted_strsT hl rv.strs (by rw [← hlen0]; exact h64) fun out ys h1 h2 h3 => ?_
    obtain ⟨ep, he'⟩ := PyProof.Rows.sortedAll_at s.heap its out
    have hlen : (ys.map V.str).length ≤ sizeLine := by rw [List.length_map, h2.length_eq]; exact small64 h64
    exact ⟨.ref _, upd H (s.heap.objs.size + 1) (.lst (ys.map V.str)), I.laid (t' := s.toks) (fun _ _ => PyProof.Rows.sortedAll_old) (Nat.le_succ _) ⟨hlen, out.toList, ep, vals_of_strs h1, he'⟩, rfl, q ys _ h2 h3 (I.hok.fresh (Nat.le_succ _))⟩
end L2
set_option Elab.async false
set_option linter.all false
set_option maxRecDepth 100000
set_option maxHeartbeats 4000000
namespace WT
open PySem PySem.Spec PyProof.Rows L2 SS
/-! ### len(set(t)), t a tuple of texts: how many unlike ones -/
/-- the unlike ones among the first i -/
def dcn (xs : List Str) : Nat → Nat
  | 0 => 0
  | i + 1 => if decide (xs.getD i Str.empty ∈ xs.take i) = true then dcn xs i else dcn xs i + 1
theorem dcn_le (xs : List Str) : ∀ i, dcn xs i ≤ i
  | 0 => Nat.le_refl 0
  | i + 1 => by
    have := dcn_le xs i
    unfold dcn
    split <;> omega
theorem dcn_iff (xs : List Str) : ∀ i, i ≤ xs.length → (dcn xs i = i ↔ (xs.take i).Nodup)
  | 0, _ => by simp [dcn]
  | i + 1, h => by
    have ih := dcn_iff xs i (by omega)
    have hle := dcn_le xs i
    have hi : i < xs.length := by omega
    have hg : xs.getD i Str.empty = xs[i] := by rw [List.getD_eq_getElem?_getD, List.getElem?_eq_getElem hi]; rfl
    rw [← List.take_append_getElem hi, List.nodup_append]
    unfold dcn
    rw [hg]
    by_cases hm : xs[i] ∈ xs.take i
    · rw [if_pos (decide_eq_true hm)]
      constructor
      · intro h; omega
      · rintro ⟨_, _, h3⟩
        exact absurd rfl (h3 _ hm _ (List.mem_singleton.mpr rfl))
    · rw [if_neg (by simpa using hm)]
      constructor
      · intro h
        refine ⟨ih.mp (by omega), by simp, fun a ha b hb e => ?_⟩
        obtain rfl := List.mem_singleton.mp hb
        subst e
        exact hm ha
      · rintro ⟨h1, _, _⟩
        rw [ih.mpr h1]
section
variable {prog : Program} {w : World} {A : Around} {E : Value → Shared → Prop} {s : Shared}
theorem upd_strs {I : Addr} {fp wr : List Addr} {G : Array GenState → Array GenState → Prop} {n : Nat} {Pv : Nat → Value → Prop} {St : Nat → Shared → Prop} {R : Result → Shared → Prop}
    (W : WalksS prog w A.in1 I fp wr G n Pv St) (S : Addr) (hSf : S ∉ fp) (xs : List Str) (hsz : xs.length = n) (hb : n + 1 < scanBound) (hval : ∀ i v, Pv i v → ∃ t, v = .str (xs.getD i Str.empty) t) :
    ∀ (k i : Nat) (s : Shared), n - i = k → i ≤ n → St i s → s.heap.SetOf (PySem.strKind prog w) S (fun z => decide (z ∈ xs.take i)) (dcn xs i) →
      (∀ s', Moved (S :: wr) G s s' → s'.heap.SetOf (PySem.strKind prog w) S (fun z => decide (z ∈ xs.take n)) (dcn xs n) → R (.ok (.ret .none)) s') →
      codeAny (model prog w) A (.builtin "set.update.loop" ⟨[.ref S, .ref I], []⟩) R s := by
  have nw : S ∉ wr := fun h => hSf (W.sub _ h)
  have more : ∀ b ∈ wr, b ∈ S :: wr := fun b hb => List.mem_cons_of_mem _ hb
  have carry : ∀ {s s' : Shared} {f : Str → Bool} {c : Nat}, Moved wr G s s' → s.heap.SetOf (PySem.strKind prog w) S f c → s'.heap.SetOf (PySem.strKind prog w) S f c := fun hm ⟨o, es, ep, t, ho, rest⟩ => ⟨o, es, ep, t, hm.heap S _ nw ho, rest⟩
  intro k
  induction k with
  | zero =>
    intro i s hk hi hst hS hR
    obtain rfl : i = n := by omega
    refine codeAny_builtin PyProof.Rows.F.entry_set_update_loop ?_
    rw [Around.under_plainId PyProof.Rows.F.plain_set_update_loop _]
    show wpAny _ A.in1 (pyNext (.ref I) >>= _) _ _ s
    refine wpAny_bind (W.done s _ _ hst fun s' hm => ?_)
    show wpAny _ A.in1 (ret Value.none) _ _ s'
    exact wpAny_pure (hR s' (hm.mono more) (carry hm hS))
  | succ k ih =>
    intro i s hk hi hst hS hR
    have hlt : i < n := by omega
    refine codeAny_builtin PyProof.Rows.F.entry_set_update_loop ?_
    rw [Around.under_plainId PyProof.Rows.F.plain_set_update_loop _]
    show wpAny _ A.in1 (pyNext (.ref I) >>= _) _ _ s
    refine wpAny_bind (W.item i s _ _ hlt hst fun v s' hP hst' hm => ?_)
    obtain ⟨t, rfl⟩ := hval i v hP
    have hS' := carry hm hS
    have hle := dcn_le xs i
    show wpAny _ A.in1 (holding [Value.str (xs.getD i Str.empty) t] (setAdd S (.str (xs.getD i Str.empty) t)) >>= _) _ _ s'
    refine wpAny_bind (wpAny_holding ?_)
    unfold setAdd
    refine wpAny_holding (wpAny_bind ((PySem.strKind prog w).pyHash (k := xs.getD i Str.empty) (strKind_is _ _ _ _) ?_))
    refine wpAny_setAddHashed_of (knd := PySem.strKind prog w) (s := { s' with toks := s'.toks + 1 }) (strKind_is _ _ _ _) rfl hS' (by omega) fun h' hsb hS2 => ?_
    have hS3 : h'.SetOf (PySem.strKind prog w) S (fun z => decide (z ∈ xs.take (i + 1))) (dcn xs (i + 1)) := by
      refine SetOf_congr hS2 (fun z => ?_) rfl
      have hi' : i < xs.length := by omega
      have hg : xs.getD i Str.empty = xs[i] := by rw [List.getD_eq_getElem?_getD, List.getElem?_eq_getElem hi']; rfl
      rw [List.take_add_one, List.getElem?_eq_getElem hi', hg]
      show (decide (z ∈ xs.take i) || decide (z = xs[i])) = decide (z ∈ xs.take i ++ [xs[i]])
      generalize xs.take i = l
      generalize xs[i] = y
      by_cases h1 : z ∈ l <;> by_cases h2 : z = y <;> simp [List.mem_append, h1, h2]
    refine wpAny_pure ⟨plainId_quiet PyProof.Rows.F.plain_set_update_loop _, ih (i + 1) _ (by omega) hlt (W.frame _ s' _ _ hst' (Nat.le_succ _) fun b hb o e => ?_) hS3 fun s'' hm'' hS'' => ?_⟩
    · rw [hsb.2 b (fun h : b = S => hSf (by rw [← h]; exact hb))]; exact e
    · refine hR s'' (Moved.trans W.gtrans ((hm.mono more).then_heap (Nat.le_succ _) fun b o hb e => ?_) hm'') hS''
      rw [hsb.2 b (fun h : b = S => hb (by rw [h]; exact List.mem_cons_self))]; exact e
abbrev setNew (led : Bool) : Obj := { cls := .type "set", dict := none, data := .set #[] 0 (.fresh 0 0 led) }
set_option maxHeartbeats 3200000 in
theorem set_tupS {l : Addr} {items : Array Value} {xs : List Str} {Q : Value → Shared → Prop} (hh : A.handled = none) (hl : s.heap.IsTuple l items) (hi : StrsAre items.toList xs) (hn : xs.length ≤ 1000)
    (h : ∀ (h' : Heap) (tk : Nat), h'.SetOf (PySem.strKind prog w) s.heap.objs.size (fun z => decide (z ∈ xs)) (dcn xs xs.length) → (∀ b o, s.heap.get? b = some o → h'.get? b = some o) → Q (.ref s.heap.objs.size) { s with heap := h', toks := tk }) :
    wpAny (model prog w) A (call (.type "set") [.ref l]) Q E s := by
  have hsz : xs.length = items.size := by rw [← StrsAre.len_eq hi, Array.length_toList]
  obtain ⟨c, tl, hmro⟩ := PySem.F.called_set.mro
  have hmade := PySem.F.called_set.made
  have hsub := PySem.F.called_set.sub
  refine wpAny_call (codeAny_of_tree ?_)
  show wpAny _ _ (callAny (.type "set") _) _ _ _
  refine wpAny_pure ⟨Code.quiet_builtin _ (by decide +kernel), codeAny_builtin PySem.F.entry_type_call ?_⟩
  rw [Around.under_plain (weight_type_call_type "set" [.ref l] []) rfl]
  have h1 := PySem.F.called_set.notType
  have h2 := PySem.F.called_set.canCreate
  have hct := PySem.F.typeCall_set_1 (.ref l)
  repeat (any_goals (first | assumption | wp_step))
  refine codeAny_mono (code_set_new_1 (.ref l) (E := E) (Q₁ := fun obj s₁ => ∃ led : Bool, obj = .ref s.heap.objs.size ∧ s₁ = { s with heap := s.heap.push (setNew led) }) fun led => ⟨led, rfl, rfl⟩) fun r s₁ hr => ?_
  cases r with
  | error e => exact hr
  | ok fl =>
    cases fl with
    | ret obj =>
      obtain ⟨led, rfl, rfl⟩ := hr
      have hS : (s.heap.push (setNew led)).get? s.heap.objs.size = some (setNew led) := Heap.get?_push_size _ rfl
      have hT : Shared.TypeIs { s with heap := s.heap.push (setNew led) } (.ref s.heap.objs.size) "set" := ⟨_, hS, rfl⟩
      have hli := PySem.F.called_set.init.lookup
      have hbi := PySem.F.called_set.init.bind (.ref s.heap.objs.size)
      repeat (any_goals (first | assumption | wp_step))
      refine codeAny_mono (codeAny_call_builtin (R := wants (fun r s₂ => r = .none ∧ ∃ h' tk, s₂ = { s with heap := h', toks := tk } ∧ h'.SetOf (PySem.strKind prog w) s.heap.objs.size (fun z => decide (z ∈ xs)) (dcn xs xs.length) ∧
          (∀ b o, s.heap.get? b = some o → h'.get? b = some o)) E) PySem.F.called_set.init.plain PySem.F.entry_set_init (check_set_init_1 hT ?_)) fun r₂ s₂ hr₂ => ?_
      · obtain ⟨ol, hol, hcl, nl, hdl⟩ := hl
        obtain ⟨ocls, odict, odata, oslots⟩ := ol
        simp only at hcl hdl
        subst hcl; subst hdl
        have hol' : (s.heap.push (setNew led)).get? l = some { cls := .type "tuple", dict := odict, data := .seq items nl, slots := oslots } := Heap.get?_push_of_some _ hol
        have hsls := PySem.F.sub_tuple_set
        have hslf := PySem.F.sub_tuple_frozenset
        have hne : (Value.type "tuple" == Value.type "dict") = false := by decide
        have hl1 : (s.heap.push (setNew led)).IsTuple l items := ⟨_, hol', rfl, nl, rfl⟩
        unfold Builtin.«set.__init__» noKeywords Builtin.Frozenset.updateFrom
        generalize hPI : pyIter = PI
        wp_walk
        subst hPI
        refine wpAny_pyIter_tuple hl1 (wpAny_bind (wpAny_runValue ?_))
        have hlS : l < s.heap.objs.size := Heap.lt_size hol
        have hneI : l ≠ (s.heap.push (setNew led)).objs.size := by
          rw [Heap.size_push]; exact Nat.ne_of_lt (Nat.lt_succ_of_lt hlS)
        have hSf : s.heap.objs.size ∉ [(s.heap.push (setNew led)).objs.size, l] := by
          rw [Heap.size_push]; simp only [List.mem_cons, List.mem_singleton, List.not_mem_nil, or_false, not_or]
          exact ⟨Nat.ne_of_lt (Nat.lt_succ_self _), Nat.ne_of_gt hlS⟩
        have hval : ∀ (i : Nat) (v : Value), items[i]? = some v → ∃ t, v = .str (xs.getD i Str.empty) t := fun i v hv => strs_at hi i v (by rw [Array.getElem?_toList]; exact hv)
        refine upd_strs ((Walks.tuple (by simp [hh]) _ l hneI items).toS) s.heap.objs.size hSf xs hsz (by unfold scanBound; omega) hval (items.size - 0) 0 _ (by omega) (Nat.zero_le _)
          ⟨⟨_, Heap.get?_push_size _ rfl, rfl, rfl⟩, (hl1.push _)⟩ ?hS0 ?hR
        case hS0 =>
          have hget : ((s.heap.push (setNew led)).push { cls := .type "tuple_iterator", data := .fields #[.ref l, .int 0 0] }).get? s.heap.objs.size = some (setNew led) := Heap.get?_push_of_some _ hS
          exact SetOf_congr ((setObjOf_fresh (knd := PySem.strKind prog w) led).setOf hget (by unfold scanBound; omega)) (fun _ => by simp) rfl
        case hR =>
          intro s' hm hS'
          obtain ⟨h', g', d', tk', os'⟩ := s'
          have eg : g' = s.gens := hm.gens
          have ed : d' = s.drawn := hm.drawn
          have eo : os' = s.os := hm.os
          subst eg; subst ed; subst eo
          show wpAny _ _ _ _ _ _
          refine wpAny_pure ?_
          show wpAny _ _ (ret Value.none) _ _ _
          rw [← hsz, List.take_length] at hS'
          refine wpAny_pure ⟨rfl, h', tk', rfl, hS', fun b o e => ?_⟩
          have hb := Heap.lt_size e
          exact hm.heap b o (by rw [Heap.size_push]; simp only [List.mem_cons, List.mem_singleton, List.not_mem_nil, or_false, not_or]; exact ⟨Nat.ne_of_lt hb, Nat.ne_of_lt (Nat.lt_succ_of_lt hb)⟩) (Heap.get?_push_of_some _ (Heap.get?_push_of_some _ e))
      · cases r₂ with
        | error e => exact hr₂
        | ok fl₂ =>
          cases fl₂ with
          | ret r =>
            obtain ⟨rfl, h', tk, rfl, hS', hk'⟩ := hr₂
            repeat (any_goals (first | assumption | wp_step))
            exact h _ _ hS' hk'
          | _ => exact hr₂.elim
    | _ => exact hr.elim
end
end WT
namespace L2
open PySem PySem.Spec PyProof.Rows
def tLenSetT (K : PySem.W.Frag) (ta : TE) : TE := fun σ H Q => ta σ H fun x H1 => ∃ l, ∃ xs : List Str, x = .ref l ∧ SqT K H1 l (xs.map V.str) ∧ xs.length ≤ 1000 ∧ Q (.int (WT.dcn xs xs.length : Nat)) H1
theorem pe_lenSetT {X : Cx} {a : Expr} {ta : TE} {p p2 q pos : Pos} (hc : X.calm = true) (hg : Gl X "len") (hm : X.mg "len" = none) (hg2 : Gl X "set") (hm2 : X.mg "set" = none) (ha : PE X a ta)
    (na : starEach [a] X.env = (false, eval a X.env) :: starEach [] X.env := by rfl) : PE X (.Call (.Name "len" p) [.Call (.Name "set" p2) [a] [] q] [] pos) (tLenSetT X.K ta) := by
  refine ⟨fun pins s σ H Q I h => ?_⟩
  refine Call_ (ld_blt I hg hm boot_len ?_)
  refine PyProof.Rows.callWith_builtin1 (PyProof.Rows.args_cons ?_ rfl) rfl rfl
  refine Call_ (ld_blt I hg2 hm2 boot_set ?_)
  refine PyProof.Rows.callWith_type1 (PyProof.Rows.args_cons (thn (ha.run pins s σ H _ I h) fun v s1 ⟨x, H1, I1, r1, q1⟩ => PyProof.Rows.args_nil ?_) na) na rfl
  obtain ⟨l, xs, rfl, hq, h1, q1⟩ := q1
  cases r1
  obtain ⟨its, r, pl, hz⟩ := I1.tuple hq
  refine WT.set_tupS (I1.ok.hd hc) pl (by simpa using strsAre_of r) h1 fun h' tk hS hk => ?_
  refine PyProof.Rows.args_nil ?_
  have hle := WT.dcn_le xs xs.length
  obtain ⟨o, es, ep, t, ho, hex, hd, _, _, _, hf, hn⟩ := hS
  have I2 : Inv X pins σ H1 { s1 with heap := h', toks := tk } := I1.kept hk
  exact call_len_set ho hex hd hf (by rw [hn]; omega) ⟨.int (WT.dcn xs xs.length : Nat), H1, I2.tok _, ⟨_, by rw [hn]⟩, q1⟩
end L2
set_option Elab.async false
set_option linter.all false
set_option maxRecDepth 100000
set_option maxHeartbeats 4000000
namespace WE
open PySem PySem.Spec PyProof.Rows L2
/-! ### enumerate(v), v by what its iterator draws -/
theorem meets_enum1 {v : Value} {o : Obj} {H : Heap → Prop} (B : Begins v o H) :
    Meets (Builtin.«enumerate.__new__» ⟨[.type "enumerate", v], []⟩) (fun _ R s => H s.heap ∧
      R (.ok (.ret (.ref (s.heap.push o).objs.size))) { s with heap := (s.heap.push o).push { cls := .type "enumerate", data := .fields #[.none, .bool false, .ref s.heap.objs.size, rawInt 0, .none, .none] } }) :=
  .of_wp fun prog w A R s h => by
    obtain ⟨hp, g, d, tk, os⟩ := s
    obtain ⟨h1, h⟩ := h
    have hsub := sub_enumerate
    have q1 : ∀ {A' : Around} {E : Value → Shared → Prop} {Q : Value → Shared → Prop}, Q (.ref hp.objs.size) ⟨hp.push o, g, d, tk, os⟩ → wpAny (model prog w) A' (pyIter v) Q E ⟨hp, g, d, tk, os⟩ :=
      fun q => B.iter prog w _ _ ⟨hp, g, d, tk, os⟩ _ h1 q
    wp_walk using q1
    refine wpAny_stack_any fun st => wpAny_pure ?_
    split
    · rename_i c _ _ _ _ _
      cases (c == Value.type "enumerate")
      · wp_walk using q1
        exact ⟨_, rfl, h⟩
      · wp_walk using q1
        exact ⟨_, rfl, h⟩
    · wp_walk using q1
      exact ⟨_, rfl, h⟩
theorem call_enum1 {prog : Program} {w : World} {A : Around} {E : Value → Shared → Prop} {s : Shared} {v : Value} {o : Obj} {H : Heap → Prop} {Q : Value → Shared → Prop} (B : Begins v o H) (h1 : H s.heap)
    (h : ∀ h', IsEnum h' (s.heap.objs.size + 1) s.heap.objs.size 0 .none → h'.get? s.heap.objs.size = some o → (∀ b o, s.heap.get? b = some o → h'.get? b = some o) → Q (.ref (s.heap.objs.size + 1)) { s with heap := h' }) :
    wpAny (model prog w) A (call (.type "enumerate") [v]) Q E s := by
  refine callType_new F.called_enumerate (by decide) (F.typeCall_enumerate_1 _) (F.newCall_enumerate_1 _) (fun obj => F.args_object_init_2 obj _) F.entry_enumerate_new (meets_enum1 B) ⟨h1, ?_⟩
  have hz : (s.heap.push o).objs.size = s.heap.objs.size + 1 := Heap.size_push ..
  show _ ∧ _
  rw [hz]
  have he : IsEnum ((s.heap.push o).push { cls := .type "enumerate", data := .fields #[.none, .bool false, .ref s.heap.objs.size, rawInt 0, .none, .none] }) (s.heap.objs.size + 1) s.heap.objs.size 0 .none := by
    have := Heap.get?_push_size (s.heap.push o) (o := { cls := .type "enumerate", data := .fields #[.none, .bool false, .ref s.heap.objs.size, rawInt 0, .none, .none] }) rfl
    rw [hz] at this
    exact this
  exact ⟨⟨_, he, rfl⟩, h _ he (Heap.get?_push_of_some _ (Heap.get?_push_size _ B.free)) fun b o x => Heap.get?_push_of_some _ (Heap.get?_push_of_some _ x)⟩
end WE
namespace L2
open PySem PySem.Spec PyProof.Rows
/-- the tuple at a, each item in a new pair with its index -/
def Itet (K : PySem.W.Frag) (a : Addr) : It :=
  ⟨fun i H => ∃ (xs : List V) (x : V), SqT K H a xs ∧ xs[i]? = some x, fun i H v H' => ∃ T x, v = .ref T ∧ H T = none ∧ H' = upd H T (.tup [.int (i : Nat), x]) ∧ ∀ xs, SqT K H a xs → xs[i]? = some x, fun i H => ∃ xs : List V, SqT K H a xs ∧ xs.length = i⟩
theorem turn_enumT {P : Program} {w : World} {K : PySem.W.Frag} {elts : List Expr} {kk : Nat} {tpos : Pos} (a e it : Addr) (hae : a ≠ e) (hai : a ≠ it) :
    Turn P w K (.Tuple elts kk tpos) (Itet K a) [e, it] e (fun i h => (∃ old, IsEnum h e it ((i : Nat) : Int) old) ∧ h.IsTupleIter it a i ∧ e ≠ it) where
  mem := by simp
  obj := fun i h st b hb => by
    obtain ⟨⟨old, he⟩, ⟨o, ho, hc, hd⟩, _⟩ := st
    have e' : b = e ∨ b = it := by simpa using hb
    rcases e' with z | z
    · rw [z]; exact ⟨_, he, fun v q => nomatch q⟩
    · rw [z]; exact ⟨o, ho, fun v q => by rw [hd] at q; cases q⟩
  keep := fun i h h' st k => let ⟨⟨old, he⟩, hi, hne⟩ := st; ⟨⟨old, k e (by simp) _ he⟩, hi.at fun o q => k it (by simp) o q, hne⟩
  item := by
    intro X hP hw hK hc i pins s σ H E I hf st hg
    subst hP hw hK
    obtain ⟨⟨old, he⟩, hit, hne⟩ := st
    obtain ⟨xs, x, hq, hx⟩ := hg
    obtain ⟨its, rv, p, hz⟩ := I.tuple hq
    obtain ⟨u, hu, ru⟩ := rv.get hx
    have hel : e < s.heap.objs.size := Heap.lt_size he
    have hil : it < s.heap.objs.size := by obtain ⟨_, q, _⟩ := hit; exact Heap.lt_size q
    have hlt : i < its.toArray.size := by
      have := (List.getElem?_eq_some_iff.mp hu).1
      simpa using this
    have D := Draws.tuple (prog := X.prog) (w := X.w) (A := X.A.in1) (by simp [I.ok.hd hc]) it a hai its.toArray
    refine wpAny_pyNext_enum_itemD D he ⟨hit, p⟩ hlt hne (by simp [hne, Ne.symm hae]) fun y h' tk hy ho hst' hT hsz hk => ?_
    obtain rfl : y = u := by
      have h1 : its.toArray[i]? = some y := hy
      rw [List.getElem?_toArray, hu] at h1
      exact (Option.some.inj h1).symm
    refine ⟨_, rfl, wpAny_letOwnedTupleGo_enum (s := { s with heap := h', toks := tk + 1 }) ho fun h'' he' sb => ?_⟩
    have hT2 : h''.get? s.heap.objs.size = some { cls := .type "tuple", data := .seq #[.int i tk, y] } := (sb.2 _ (Nat.ne_of_gt hel)).trans hT
    have new : ObjOk X.prog X.w (upd H s.heap.objs.size (.tup [.int (i : Nat), x])) h'' s.heap.objs.size (.tup [.int (i : Nat), x]) :=
      ⟨by show 2 ≤ sizeLine; decide, [.int i tk, y], .cons ⟨_, rfl⟩ (.cons ru .nil), ⟨_, hT2, rfl, _, rfl⟩⟩
    have I1 : Inv X pins σ (upd H s.heap.objs.size (.tup [.int (i : Nat), x])) { s with heap := h'', toks := tk + 1 } :=
      I.turnedNew (ch := [e, it]) (fun b ob hb q => (sb.2 b (fun z => hb (by simp [z]))).trans (hk b ob (fun z => hb (by simp [z])) (fun z => hb (by simp [z])) q)) hf (Nat.le_refl _) new
    refine ⟨.ref s.heap.objs.size, _, I1, rfl, ⟨_, x, rfl, I.hok.fresh (Nat.le_refl _), rfl, fun ys hy => ?_⟩, ⟨⟨y, ?_⟩, hst'.1.at fun o q => (sb.2 it (Ne.symm hne)).trans q, hne⟩, fun b hb => ?_⟩
    · rw [I.tuple_inj hy hq]; exact hx
    · have e1 : ((i + 1 : Nat) : Int) = (i : Int) + 1 := by omega
      rw [e1]; exact he'
    · have hb' : b < s.heap.objs.size := by
        have e' : b = e ∨ b = it := by simpa using hb
        rcases e' with z | z
        · rw [z]; exact hel
        · rw [z]; exact hil
      rw [upd_ne (Nat.ne_of_lt hb')]
      exact (hf b hb).1
  done := by
    intro X hP hw hK hc i pins s σ H E I hf st hg
    subst hP hw hK
    obtain ⟨⟨old, he⟩, hit, hne⟩ := st
    obtain ⟨xs, hq, hx⟩ := hg
    obtain ⟨its, rv, p, hz⟩ := I.tuple hq
    obtain ⟨f0, f1, f2, f3, f4, f5⟩ := hf it (by simp)
    have hl := rv.length
    have D := Draws.tuple (prog := X.prog) (w := X.w) (A := X.A.in1) (by simp [I.ok.hd hc]) it a hai its.toArray
    have hsz : its.toArray.size = i := by rw [List.size_toArray, ← hl, hx]
    rw [← hsz] at hit
    exact wpAny_pyNext_enum_endD D he ⟨hit, p⟩ fun h' eb => ⟨rfl, I.turned (t' := s.toks) (fun b o hb q => eb b o hb q) f0 f1 f3 f4 f5⟩
  self := fun A i s Q E st h => let ⟨⟨_, he⟩, _⟩ := st; wpAny_pyIter_enum he h
theorem walk_enumT {K : PySem.W.Frag} {a : Addr} {xs : List V} : Walk (Itet K a) xs.length (fun H => SqT K H a xs) (YPair (fun i => some (.int (i : Nat))) (fun i => xs[i]?)) := by
  refine ⟨fun i _ hi q => ⟨xs, xs[i], q, by simp [hi]⟩, fun _ q => ⟨xs, q, rfl⟩, fun i H v H' _ q y => ?_⟩
  obtain ⟨T, x, h1, h2, h3, h4⟩ := y
  exact ⟨T, .int (i : Nat), x, h1, h2, h3, rfl, h4 xs q⟩
/-- a list (b) or a tuple -/
def SqB (K : PySem.W.Frag) (b : Bool) (H : Hp) (a : Addr) (xs : List V) : Prop := if b = true then SqL K H a xs else SqT K H a xs
theorem SqB.of {K : PySem.W.Frag} {H : Hp} {a : Addr} {xs : List V} (h : SqL K H a xs ∨ SqT K H a xs) : ∃ b, SqB K b H a xs := h.elim (fun h => ⟨true, h⟩) (fun h => ⟨false, h⟩)
theorem SqB.ex {K : PySem.W.Frag} {b : Bool} {H H' : Hp} {a : Addr} {xs : List V} (e : Evl.Ex H H') (h : SqB K b H a xs) : SqB K b H' a xs := by
  cases b
  · exact Evl.ex_t e h
  · exact Evl.ex_l e h
theorem SqB.or {K : PySem.W.Frag} {b : Bool} {H : Hp} {a : Addr} {xs : List V} (h : SqB K b H a xs) : SqL K H a xs ∨ SqT K H a xs := by
  cases b
  · exact .inr h
  · exact .inl h
/-- enumerate(xs), a list or a tuple -/
def iEnumLT (K : PySem.W.Frag) (ta : TA) : TI := fun σ H R => ta σ H fun vs H1 => ∃ a xs b, vs = [.ref a] ∧ SqB K b H1 a xs ∧ ∀ (J : It) (G : Hp → Prop), (∀ H', SqB K b H' a xs → G H') → Walk J xs.length G (YPair (fun i => some (.int (i : Nat))) (fun i => xs[i]?)) → R J H1
theorem pi_enumLT {X : Cx} {e : Expr} {ta : TA} {p pos tpos : Pos} {elts : List Expr} {kk : Nat} (hg : Gl X "enumerate") (hm : X.mg "enumerate" = none) (ha : PA X [e] ta) (hs : starEach [e] X.env = [(false, eval e X.env)] := by rfl) :
    PI X (.Tuple elts kk tpos) (.Call (.Name "enumerate" p) [e] [] pos) (iEnumLT X.K ta) := by
  refine ⟨fun pins s σ H R I h => ?_⟩
  refine Call_ (ld_blt I hg hm boot_enumerate (PyProof.Rows.callWith_type1 (thn (ha.run pos pins s σ H _ I h) fun us s1 ⟨vs, H1, I1, r1, q1⟩ => ?_) hs rfl))
  obtain ⟨a, xs, b, ex, hq, q⟩ := q1
  subst ex
  cases r1 with
  | cons r rr =>
    cases rr
    cases r
    cases b
    rotate_left
    · replace q := q (Ite X.K a) _ (fun H' h => h) walk_enum
      obtain ⟨its, rv, p', hz⟩ := I1.list hq
      refine call_enumerate_list p'.isList fun h' he hit hsz hk => wpAny_pyIter_enum he ?_
      have I2 : Inv X pins σ H1 { s1 with heap := h' } := I1.kept (t' := s1.toks) hk
      refine ⟨s1.heap.objs.size + 1, [s1.heap.objs.size + 1, s1.heap.objs.size], _, _, H1, rfl, I2, turn_enum a (s1.heap.objs.size + 1) s1.heap.objs.size, ⟨⟨.none, he⟩, hit, Nat.succ_ne_self _⟩, fun b hb => ?_, q⟩
      have e' : b = s1.heap.objs.size + 1 ∨ b = s1.heap.objs.size := by simpa using hb
      have hle : s1.heap.objs.size ≤ b := by
        rcases e' with z | z
        · rw [z]; exact Nat.le_add_right _ _
        · rw [z]; exact Nat.le_refl _
      exact I1.fpOk hle (I1.hok.fresh hle)
    · replace q := q (Itet X.K a) _ (fun H' h => h) walk_enumT
      obtain ⟨its, rv, p', hz⟩ := I1.tuple hq
      have hlt : a < s1.heap.objs.size := by obtain ⟨o, ho, _⟩ := p'; exact Heap.lt_size ho
      refine WE.call_enum1 (begins_tuple a its.toArray) p' fun h' he hit hk => wpAny_pyIter_enum he ?_
      have I2 : Inv X pins σ H1 { s1 with heap := h' } := I1.kept (t' := s1.toks) hk
      refine ⟨s1.heap.objs.size + 1, [s1.heap.objs.size + 1, s1.heap.objs.size], _, _, H1, rfl, I2, turn_enumT a (s1.heap.objs.size + 1) s1.heap.objs.size (Nat.ne_of_lt (Nat.lt_succ_of_lt hlt)) (Nat.ne_of_lt hlt), ⟨⟨.none, he⟩, ⟨_, hit, rfl, rfl⟩, Nat.succ_ne_self _⟩, fun b hb => ?_, q⟩
      have e' : b = s1.heap.objs.size + 1 ∨ b = s1.heap.objs.size := by simpa using hb
      have hle : s1.heap.objs.size ≤ b := by
        rcases e' with z | z
        · rw [z]; exact Nat.le_add_right _ _
        · rw [z]; exact Nat.le_refl _
      exact I1.fpOk hle (I1.hok.fresh hle)
/-- xs[lo:hi], a list or a tuple -/
def rSlLT (K : PySem.W.Frag) : V → Option Int → Option Int → Hp → VK → Prop := fun x lo hi H Q => rSlL K x lo hi H Q ∨ rSlA K x lo hi H Q
theorem sl_LT {X : Cx} : SlR X (rSlLT X.K) := SlR.or sl_list sl_tupA
end L2
set_option Elab.async false
set_option linter.all false
set_option maxRecDepth 100000
set_option maxHeartbeats 4000000
namespace L2
open PySem PySem.Spec PyProof.Rows
open TL (tl)
/-! ### sorted texts: one arrangement -/
theorem ge_of_rising : ∀ (p : Str) (l : List Str), risingS p l = true → ∀ x ∈ l, tl p ≤ tl x
  | p, [], _, x, h => nomatch h
  | p, y :: r, h, x, hx => by
    have h' : (!ltCps y.cps.toList p.cps.toList && risingS y r) = true := h
    rw [Bool.and_eq_true, Bool.not_eq_true', ltCps_eq] at h'
    have hpy : tl p ≤ tl y := of_decide_eq_false h'.1
    rcases List.mem_cons.mp hx with rfl | hx
    · exact hpy
    · exact List.le_trans hpy (ge_of_rising y r h'.2 x hx)
theorem pairwise_of_sortedS : ∀ l : List Str, sortedS l = true → l.Pairwise fun a b => tl a ≤ tl b
  | [], _ => .nil
  | x :: r, h => by
    refine .cons (ge_of_rising x r h) ?_
    cases r with
    | nil => exact .nil
    | cons y r =>
      have h' : (!ltCps y.cps.toList x.cps.toList && risingS y r) = true := h
      rw [Bool.and_eq_true] at h'
      exact pairwise_of_sortedS (y :: r) h'.2
theorem sorted_one {xs ys : List Str} (hx : sortedS xs = true) (hy : sortedS ys = true) (hp : xs.Perm ys) : xs = ys :=
  List.Perm.eq_of_pairwise (le := fun a b => tl a ≤ tl b) (fun a b _ _ h1 h2 => TL.ext_tl (List.le_antisymm h1 h2)) (pairwise_of_sortedS xs hx) (pairwise_of_sortedS ys hy) hp
/-- two sorted lists are equal where what they sort is a rearrangement -/
theorem sorted_iff {as bs xs ys : List Str} (ha : xs.Perm as) (hx : sortedS xs = true) (hb : ys.Perm bs) (hy : sortedS ys = true) : xs = ys ↔ as.Perm bs :=
  ⟨fun e => (ha.symm.trans (e ▸ List.Perm.refl xs)).trans hb, fun h => sorted_one hx hy ((ha.trans h).trans hb.symm)⟩
/-- texts as data: equal as data where equal -/
theorem eqvAll_strs : ∀ xs ys : List Str, PyData.eqvAll (xs.map .str) (ys.map .str) = decide (xs = ys)
  | [], [] => rfl
  | [], _ :: _ => by simp [PyData.eqvAll]
  | _ :: _, [] => by simp [PyData.eqvAll]
  | x :: xs, y :: ys => by
    show (PyData.eqv (.str x) (.str y) && PyData.eqvAll (xs.map .str) (ys.map .str)) = _
    rw [eqvAll_strs xs ys]
    have e : PyData.eqv (.str x) (.str y) = decide (x = y) := by
      show (x == y) = _
      by_cases h : x = y <;> simp [h]
    rw [e]
    by_cases h1 : x = y <;> by_cases h2 : xs = ys <;> simp [h1, h2]
theorem eqv_strs (xs ys : List Str) : PyData.eqv (.list (xs.map .str)) (.list (ys.map .str)) = decide (xs = ys) := eqvAll_strs xs ys
/-- tuple(xs), a list or a tuple: some tuple of the same -/
def rTupLT (K : PySem.W.Frag) : List V → Hp → VK → Prop := fun xs H Q => ∃ p ys, xs = [V.ref p] ∧ (SqL K H p ys ∨ SqT K H p ys) ∧ ∀ c H', Evl.Ex H H' → SqT K H' c ys → Q (.ref c) H'
theorem call_tupleLT {X : Cx} : CallR X (.type "tuple") (rTupLT X.K) := by
  intro pins s σ H xs us Q I r h
  obtain ⟨p, ys, e, sq, q⟩ := h
  refine call_tuple_of pins s σ H xs us Q I r ⟨p, ys, e, ?_⟩
  rcases sq with sq | sq
  · exact .inl ⟨sq, fun l hl => q l _ (Evl.Ex.new hl) (SqT.of upd_same)⟩
  · exact .inr ⟨sq, q p H (Evl.Ex.refl H) sq⟩
end L2
set_option Elab.async false
set_option linter.all false
set_option maxRecDepth 100000
set_option maxHeartbeats 4000000
/-! ### the data layer: what defs compute, over plain data and a store of what changes -/
namespace DL
open PySem PySem.Spec PyProof.Rows L2
open He (ga ma)
open Evl (Ex)
inductive D where
  | non | bl (b : Bool) | int (i : Int) | str (z : Str) | tup (ds : List D) | lst (ds : List D) | obj (c : Str) (fs : List (Str × D)) | ty (n : String) | cls (c : Str)
inductive U where
  | d (x : D) | r (n : Nat)
inductive Cell where
  | lst (us : List U) | obj (c : Str) (fs : List (Str × U)) | frz (x : D)
abbrev Store := List Cell
abbrev Env := List (Option U)
inductive Res (α : Type) where
  | ok (a : α) (S : Store) | err (c : Str) (fs : List (Str × D)) (S : Store) | bad
def Res.bind {α β : Type} (r : Res α) (k : α → Store → Res β) : Res β := match r with
  | .ok a S => k a S
  | .err c fs S => .err c fs S
  | .bad => .bad
theorem rd_sq {K : PySem.W.Frag} {H : Hp} {a : Addr} {xs : List V} (h : Rd H a (.lst xs)) : SqL K H a xs := .inl h
mutual
inductive Rv (K : PySem.W.Frag) (G : Hp) : V → D → Prop
  | non : Rv K G .non .non
  | bl (b : Bool) : Rv K G (.bl b) (.bl b)
  | int (i : Int) : Rv K G (.int i) (.int i)
  | str (z : Str) : Rv K G (.str z) (.str z)
  | tup {a : Addr} {xs : List V} {ds : List D} : SqT K G a xs → RvAll K G xs ds → Rv K G (.ref a) (.tup ds)
  | lst {a : Addr} {xs : List V} {ds : List D} : SqL K G a xs → RvAll K G xs ds → Rv K G (.ref a) (.lst ds)
  | obj {a dx : Addr} {c : Str} {vs : List (Str × V)} {fs : List (Str × D)} : G a = some (.ins (ga K c) dx vs) → RvF K G vs fs → Rv K G (.ref a) (.obj c fs)
  | ty (n : String) : Rv K G (.ty n) (.ty n)
  | cls (c : Str) : Rv K G (.ref (ga K c)) (.cls c)
inductive RvAll (K : PySem.W.Frag) (G : Hp) : List V → List D → Prop
  | nil : RvAll K G [] []
  | cons {v : V} {vs : List V} {d : D} {ds : List D} : Rv K G v d → RvAll K G vs ds → RvAll K G (v :: vs) (d :: ds)
inductive RvF (K : PySem.W.Frag) (G : Hp) : List (Str × V) → List (Str × D) → Prop
  | nil : RvF K G [] []
  | cons {f : Str} {v : V} {vs : List (Str × V)} {d : D} {ds : List (Str × D)} : Rv K G v d → RvF K G vs ds → RvF K G ((f, v) :: vs) ((f, d) :: ds)
end
mutual
theorem Rv.ex {K : PySem.W.Frag} {G G' : Hp} (e : Ex G G') : ∀ {v : V} {d : D}, Rv K G v d → Rv K G' v d
  | _, _, .non => .non
  | _, _, .bl b => .bl b
  | _, _, .int i => .int i
  | _, _, .str z => .str z
  | _, _, .tup h1 h2 => .tup (Evl.ex_t e h1) (RvAll.ex e h2)
  | _, _, .lst h1 h2 => .lst (Evl.ex_l e h1) (RvAll.ex e h2)
  | _, _, .obj h1 h2 => .obj (e _ _ h1) (RvF.ex e h2)
  | _, _, .ty n => .ty n
  | _, _, .cls c => .cls c
theorem RvAll.ex {K : PySem.W.Frag} {G G' : Hp} (e : Ex G G') : ∀ {vs : List V} {ds : List D}, RvAll K G vs ds → RvAll K G' vs ds
  | _, _, .nil => .nil
  | _, _, .cons h1 h2 => .cons (Rv.ex e h1) (RvAll.ex e h2)
theorem RvF.ex {K : PySem.W.Frag} {G G' : Hp} (e : Ex G G') : ∀ {vs : List (Str × V)} {ds : List (Str × D)}, RvF K G vs ds → RvF K G' vs ds
  | _, _, .nil => .nil
  | _, _, .cons h1 h2 => .cons (Rv.ex e h1) (RvF.ex e h2)
end
def RU (K : PySem.W.Frag) (ι : List Addr) (G : Hp) (v : V) : U → Prop
  | .d x => Rv K G v x
  | .r n => ∃ a, ι[n]? = some a ∧ v = .ref a
abbrev RUs (K : PySem.W.Frag) (ι : List Addr) (G : Hp) : List V → List U → Prop := Paired (RU K ι G)
abbrev RUf (K : PySem.W.Frag) (ι : List Addr) (G : Hp) : List (Str × V) → List (Str × U) → Prop := Paired fun p q => p.1 = q.1 ∧ RU K ι G p.2 q.2
def RO (K : PySem.W.Frag) (ι : List Addr) (G : Hp) : Option V → Option U → Prop
  | none, none => True
  | some v, some u => RU K ι G v u
  | _, _ => False
abbrev RelE (K : PySem.W.Frag) (ι : List Addr) (G : Hp) : L2.St → Env → Prop := Paired (RO K ι G)
section
variable {K : PySem.W.Frag} {ι ι' : List Addr} {G G' H : Hp}
theorem pre_get {n : Nat} {a : Addr} (p : ι <+: ι') (h : ι[n]? = some a) : ι'[n]? = some a := by
  obtain ⟨t, rfl⟩ := p
  rw [List.getElem?_append_left (List.getElem?_eq_some_iff.mp h).1]
  exact h
theorem RU.up {v : V} (p : ι <+: ι') (e : Ex G G') : ∀ {u : U}, RU K ι G v u → RU K ι' G' v u
  | .d x, h => Rv.ex e h
  | .r n, ⟨a, h, hv⟩ => ⟨a, pre_get p h, hv⟩
theorem RUs.up {vs : List V} {us : List U} (p : ι <+: ι') (e : Ex G G') (h : RUs K ι G vs us) : RUs K ι' G' vs us := Paired.mapP h fun _ _ h => h.up p e
theorem RUf.up {vs : List (Str × V)} {us : List (Str × U)} (p : ι <+: ι') (e : Ex G G') (h : RUf K ι G vs us) : RUf K ι' G' vs us := Paired.mapP h fun _ _ h => ⟨h.1, h.2.up p e⟩
theorem RO.up (p : ι <+: ι') (e : Ex G G') : ∀ {v : Option V} {u : Option U}, RO K ι G v u → RO K ι' G' v u
  | none, none, _ => trivial
  | some _, some _, h => RU.up p e h
theorem RelE.up {σ : L2.St} {ρ : Env} (p : ι <+: ι') (e : Ex G G') (h : RelE K ι G σ ρ) : RelE K ι' G' σ ρ := Paired.mapP h fun _ _ h => h.up p e
theorem paired_get {α β : Type} {F : α → β → Prop} : ∀ {l1 : List α} {l2 : List β}, Paired F l1 l2 → ∀ {i : Nat} {b : β}, l2[i]? = some b → ∃ a, l1[i]? = some a ∧ F a b
  | _, _, .nil, _, _, h => by simp at h
  | _, _, .cons f t, 0, b, h => by
    simp only [List.getElem?_cons_zero, Option.some.injEq] at h
    subst h
    exact ⟨_, rfl, f⟩
  | _, _, .cons f t, i + 1, b, h => by
    simp only [List.getElem?_cons_succ] at h ⊢
    exact paired_get t h
theorem paired_get' {α β : Type} {F : α → β → Prop} : ∀ {l1 : List α} {l2 : List β}, Paired F l1 l2 → ∀ {i : Nat} {a : α}, l1[i]? = some a → ∃ b, l2[i]? = some b ∧ F a b
  | _, _, .nil, _, _, h => by simp at h
  | _, _, .cons f t, 0, b, h => by
    simp only [List.getElem?_cons_zero, Option.some.injEq] at h
    subst h
    exact ⟨_, rfl, f⟩
  | _, _, .cons f t, i + 1, b, h => by
    simp only [List.getElem?_cons_succ] at h ⊢
    exact paired_get' t h
theorem paired_len {α β : Type} {F : α → β → Prop} : ∀ {l1 : List α} {l2 : List β}, Paired F l1 l2 → l1.length = l2.length
  | _, _, .nil => rfl
  | _, _, .cons _ t => by rw [List.length_cons, List.length_cons, paired_len t]
theorem paired_set {α β : Type} {F : α → β → Prop} {a : α} {b : β} (f : F a b) : ∀ {l1 : List α} {l2 : List β} (i : Nat), Paired F l1 l2 → Paired F (l1.set i a) (l2.set i b)
  | _, _, _, .nil => .nil
  | _, _, 0, .cons _ t => .cons f t
  | _, _, i + 1, .cons g t => .cons g (paired_set f i t)
theorem paired_app {α β : Type} {F : α → β → Prop} : ∀ {l1 m1 : List α} {l2 m2 : List β}, Paired F l1 l2 → Paired F m1 m2 → Paired F (l1 ++ m1) (l2 ++ m2)
  | _, _, _, _, .nil, h => h
  | _, _, _, _, .cons f t, h => .cons f (paired_app t h)
theorem RvAll.pair {vs : List V} {ds : List D} : RvAll K G vs ds → Paired (Rv K G) vs ds
  | .nil => .nil
  | .cons h t => .cons h t.pair
theorem RvAll.of {vs : List V} : ∀ {ds : List D}, Paired (Rv K G) vs ds → RvAll K G vs ds
  | _, .nil => .nil
  | _, .cons h t => .cons h (RvAll.of t)
theorem RvAll.us {vs : List V} {ds : List D} : RvAll K G vs ds → RUs K ι G vs (ds.map .d)
  | .nil => .nil
  | .cons h t => .cons h t.us
/-- all of them data -/
def allD : List U → Option (List D)
  | [] => some []
  | .d x :: t => (allD t).map (x :: ·)
  | .r _ :: _ => none
theorem allD_map (ds : List D) : allD (ds.map .d) = some ds := by
  induction ds with
  | nil => rfl
  | cons x t ih => rw [List.map_cons]; show (allD (t.map .d)).map (x :: ·) = _; rw [ih]; rfl
theorem allD_eq : ∀ {us : List U} {ds : List D}, allD us = some ds → us = ds.map .d
  | [], ds, h => by cases h; rfl
  | .d x :: t, ds, h => by
    cases e : allD t with
    | none => simp [allD, e] at h
    | some l =>
      simp [allD, e] at h
      subst h
      rw [allD_eq e]; rfl
  | .r _ :: _, ds, h => by cases h
theorem RUs.all {vs : List V} {us : List U} {ds : List D} (h : RUs K ι G vs us) (e : allD us = some ds) : RvAll K G vs ds := by
  rw [allD_eq e] at h
  clear e
  induction ds generalizing vs with
  | nil => cases h; exact .nil
  | cons x t ih => cases h with
    | cons a b => exact .cons a (ih b)
end
/-! ### the state -/
def CellAt (K : PySem.W.Frag) (ι : List Addr) (G H : Hp) (a : Addr) : Cell → Prop
  | .lst us => G a = none ∧ ∃ vs, H a = some (.lst vs) ∧ RUs K ι G vs us
  | .obj c fs => G a = none ∧ ∃ dx vs, H a = some (.ins (ga K c) dx vs) ∧ RUf K ι G vs fs
  | .frz x => Rv K G (.ref a) x
structure Sr (K : PySem.W.Frag) (P : Hp) (ι : List Addr) (G : Hp) (S : Store) (H : Hp) : Prop where
  ex : Ex G H
  len : ι.length = S.length
  nd : ι.Nodup
  at_ : ∀ (n : Nat) c a, S[n]? = some c → ι[n]? = some a → CellAt K ι G H a c
  out : ∀ (n : Nat) a, ι[n]? = some a → ∃ o, H a = some o
  pin : ∀ a o, P a = some o → H a = some o ∧ G a = none ∧ ∀ n : Nat, ι[n]? ≠ some a
section
variable {K : PySem.W.Frag} {P : Hp} {ι ι' : List Addr} {G G' H H' : Hp} {S : Store}
theorem CellAt.up {a : Addr} (p : ι <+: ι') (e : Ex G G') (hg : G' a = none ∨ ∃ o, G a = some o) (hh : ∀ o, H a = some o → H' a = some o) : ∀ {c : Cell}, CellAt K ι G H a c → CellAt K ι' G' H' a c
  | .lst us, ⟨h0, vs, h1, h2⟩ => by
    refine ⟨?_, vs, hh _ h1, h2.up p e⟩
    rcases hg with h | ⟨o, h⟩
    · exact h
    · rw [h0] at h; cases h
  | .obj c fs, ⟨h0, dx, vs, h1, h2⟩ => by
    refine ⟨?_, dx, vs, hh _ h1, h2.up p e⟩
    rcases hg with h | ⟨o, h⟩
    · exact h
    · rw [h0] at h; cases h
  | .frz x, h => Rv.ex e h
theorem Sr.here (s : Sr K P ι G S H) {n : Nat} {c : Cell} (h : S[n]? = some c) : ∃ a, ι[n]? = some a ∧ CellAt K ι G H a c := by
  have hn : n < S.length := (List.getElem?_eq_some_iff.mp h).1
  have hi : n < ι.length := by rw [s.len]; exact hn
  exact ⟨ι[n], List.getElem?_eq_getElem hi, s.at_ n c _ h (List.getElem?_eq_getElem hi)⟩
theorem Sr.ne (s : Sr K P ι G S H) {n : Nat} {a p : Addr} (h : ι[n]? = some a) (hp : H p = none) : a ≠ p := by
  obtain ⟨o, ho⟩ := s.out n a h
  exact ne_of_none ho hp
/-- a new object that nobody tracks -/
theorem Sr.tmp (s : Sr K P ι G S H) {p : Addr} {o : HO} (hp : H p = none) : Sr K P ι G S (upd H p o) := by
  refine ⟨s.ex.trans (Ex.new hp), s.len, s.nd, fun n c a h1 h2 => ?_, fun n a h => ?_, fun a u h => ?_⟩
  · refine (s.at_ n c a h1 h2).up (List.prefix_refl ι) (Ex.refl G) ?_ fun o h => ?_
    · cases hg : G a with
      | none => exact .inl rfl
      | some o => exact .inr ⟨o, rfl⟩
    · rw [upd_ne (s.ne h2 hp)]; exact h
  · obtain ⟨o, ho⟩ := s.out n a h
    exact ⟨o, by rw [upd_ne (s.ne h hp)]; exact ho⟩
  · obtain ⟨h1, h2, h3⟩ := s.pin a u h
    exact ⟨by rw [upd_ne (ne_of_none h1 hp)]; exact h1, h2, h3⟩
/-- a pinned object changes, by its pin -/
theorem Sr.repin (s : Sr K P ι G S H) {p : Addr} {o o' : HO} (hp : P p = some o') : Sr K (upd P p o) ι G S (upd H p o) := by
  obtain ⟨h1, h2, h3⟩ := s.pin p o' hp
  have hne : ∀ (n : Nat) a, ι[n]? = some a → a ≠ p := fun n a h e => h3 n (by rw [h, e])
  refine ⟨Ex.mut s.ex h2, s.len, s.nd, fun n c a h1 h2 => ?_, fun n a h => ?_, fun a u h => ?_⟩
  · refine (s.at_ n c a h1 h2).up (List.prefix_refl ι) (Ex.refl G) ?_ fun o h => ?_
    · cases hg : G a with
      | none => exact .inl rfl
      | some o => exact .inr ⟨o, rfl⟩
    · rw [upd_ne (hne n a h2)]; exact h
  · obtain ⟨o, ho⟩ := s.out n a h
    exact ⟨o, by rw [upd_ne (hne n a h)]; exact ho⟩
  · by_cases ha : a = p
    · subst ha
      rw [upd_same] at h ⊢
      exact ⟨h, h2, h3⟩
    · rw [upd_ne ha] at h ⊢
      exact s.pin a u h
/-- a new object is pinned -/
theorem Sr.pinned (s : Sr K P ι G S H) {p : Addr} {o : HO} (h : H p = some o) (hg : G p = none) (hi : ∀ n : Nat, ι[n]? ≠ some p) : Sr K (upd P p o) ι G S H := by
  refine ⟨s.ex, s.len, s.nd, s.at_, s.out, fun a u e => ?_⟩
  by_cases ha : a = p
  · subst ha; rw [upd_same] at e; exact ⟨by rw [h]; exact e, hg, hi⟩
  · rw [upd_ne ha] at e; exact s.pin a u e
theorem Sr.unpin (s : Sr K P ι G S H) {P' : Hp} (e : Ex P' P) : Sr K P' ι G S H := ⟨s.ex, s.len, s.nd, s.at_, s.out, fun a u h => s.pin a u (e a u h)⟩
/-- what nobody tracks is data from now on -/
theorem Sr.own (s : Sr K P ι G S H) {p : Addr} {o : HO} (h : H p = some o) (hg : G p = none) (hi : ∀ n : Nat, ι[n]? ≠ some p) (hP : P p = none) : Sr K P ι (upd G p o) S H := by
  have hne : ∀ (n : Nat) a, ι[n]? = some a → a ≠ p := fun n a h e => hi n (by rw [h, e])
  refine ⟨fun a u e => ?_, s.len, s.nd, fun n c a h1 h2 => ?_, s.out, fun a u e => ?_⟩
  · by_cases ha : a = p
    · subst ha; rw [upd_same] at e; rw [h]; exact e
    · rw [upd_ne ha] at e; exact s.ex a u e
  · refine (s.at_ n c a h1 h2).up (List.prefix_refl ι) (Ex.new hg) ?_ fun o h => h
    rw [upd_ne (hne n a h2)]
    cases hg : G a with
    | none => exact .inl rfl
    | some o => exact .inr ⟨o, rfl⟩
  · obtain ⟨h1, h2, h3⟩ := s.pin a u e
    exact ⟨h1, by rw [upd_ne (ne_of_none e hP)]; exact h2, h3⟩
theorem Sr.fresh (s : Sr K P ι G S H) {p : Addr} (hp : H p = none) : G p = none ∧ ∀ n : Nat, ι[n]? ≠ some p := by
  refine ⟨Evl.fresh_back s.ex hp, fun n h => ?_⟩
  obtain ⟨o, ho⟩ := s.out n p h
  rw [hp] at ho; cases ho
theorem Sr.noPin (s : Sr K P ι G S H) {p : Addr} (hp : H p = none) : P p = none := by
  cases h : P p with
  | none => rfl
  | some o => rw [(s.pin p o h).1] at hp; cases hp
/-- a new object, data -/
theorem Sr.new (s : Sr K P ι G S H) {p : Addr} {o : HO} (hp : H p = none) : Sr K P ι (upd G p o) S (upd H p o) :=
  (s.tmp hp).own upd_same (s.fresh hp).1 (s.fresh hp).2 (s.noPin hp)
theorem Sr.exN (s : Sr K P ι G S H) {p : Addr} {o : HO} (hp : H p = none) : Ex G (upd G p o) := Ex.new (s.fresh hp).1
/-- a new cell -/
theorem Sr.cell (s : Sr K P ι G S H) {p : Addr} {o : HO} {c : Cell} (hp : H p = none) (hc : CellAt K (ι ++ [p]) G (upd H p o) p c) : Sr K P (ι ++ [p]) G (S ++ [c]) (upd H p o) := by
  have t := s.tmp (o := o) hp
  have up : ι <+: ι ++ [p] := List.prefix_append ι [p]
  refine ⟨t.ex, by rw [List.length_append, List.length_append, s.len]; rfl, ?_, fun n c' a h1 h2 => ?_, fun n a h => ?_, fun a u e => ?_⟩
  · rw [List.nodup_append]
    refine ⟨s.nd, by simp, fun a ha b hb e => ?_⟩
    obtain rfl := List.mem_singleton.mp hb
    subst e
    obtain ⟨n, hn, hh⟩ := List.getElem_of_mem ha
    exact (s.fresh hp).2 n (by rw [List.getElem?_eq_getElem hn, hh])
  · by_cases hn : n < S.length
    · rw [List.getElem?_append_left hn] at h1
      rw [List.getElem?_append_left (by rw [s.len]; exact hn)] at h2
      refine (t.at_ n c' a h1 h2).up up (Ex.refl G) ?_ fun o h => h
      cases hg : G a with
      | none => exact .inl rfl
      | some o => exact .inr ⟨o, rfl⟩
    · have hn2 : n < S.length + 1 := by
        have := (List.getElem?_eq_some_iff.mp h1).1
        rw [List.length_append] at this
        exact this
      obtain rfl : n = S.length := by omega
      rw [List.getElem?_append_right (Nat.le_refl _), Nat.sub_self] at h1
      obtain rfl : c = c' := Option.some.inj h1
      rw [← s.len, List.getElem?_append_right (Nat.le_refl _), Nat.sub_self] at h2
      obtain rfl : p = a := Option.some.inj h2
      exact hc
  · by_cases hn : n < ι.length
    · rw [List.getElem?_append_left hn] at h
      exact t.out n a h
    · have hn2 : n < ι.length + 1 := by
        have := (List.getElem?_eq_some_iff.mp h).1
        rw [List.length_append] at this
        exact this
      obtain rfl : n = ι.length := by omega
      rw [List.getElem?_append_right (Nat.le_refl _), Nat.sub_self] at h
      obtain rfl : p = a := Option.some.inj h
      exact ⟨o, upd_same⟩
  · obtain ⟨h1, h2, h3⟩ := t.pin a u e
    refine ⟨h1, h2, fun n hn => ?_⟩
    by_cases hl : n < ι.length
    · rw [List.getElem?_append_left hl] at hn
      exact h3 n hn
    · rw [List.getElem?_append_right (by omega)] at hn
      have h4 : n - ι.length = 0 := by
        have := (List.getElem?_eq_some_iff.mp hn).1
        simp at this
        omega
      rw [h4] at hn
      obtain rfl : p = a := Option.some.inj hn
      rw [s.noPin hp] at e; cases e
theorem nodup_at {l : List Addr} (nd : l.Nodup) {i j : Nat} {a : Addr} (h1 : l[i]? = some a) (h2 : l[j]? = some a) : i = j := by
  have hi := (List.getElem?_eq_some_iff.mp h1)
  have hj := (List.getElem?_eq_some_iff.mp h2)
  obtain ⟨hi, e1⟩ := hi
  obtain ⟨hj, e2⟩ := hj
  have pw := List.pairwise_iff_getElem.mp nd
  rcases Nat.lt_trichotomy i j with h | h | h
  · exact absurd (e1.trans e2.symm) (pw i j hi hj h)
  · exact h
  · exact absurd (e2.trans e1.symm) (pw j i hj hi h)
/-- a cell changes -/
theorem Sr.put (s : Sr K P ι G S H) {n : Nat} {a : Addr} {o : HO} {c0 c : Cell} (h0 : S[n]? = some c0) (hn : ι[n]? = some a) (hg : G a = none) (hc : CellAt K ι G (upd H a o) a c) : Sr K P ι G (S.set n c) (upd H a o) := by
  refine ⟨Ex.mut s.ex hg, by rw [List.length_set]; exact s.len, s.nd, fun m c' b h1 h2 => ?_, fun m b h => ?_, fun b u e => ?_⟩
  · by_cases hm : m = n
    · subst hm
      rw [hn] at h2
      obtain rfl : a = b := Option.some.inj h2
      rw [List.getElem?_set_self (List.getElem?_eq_some_iff.mp h0).1] at h1
      obtain rfl : c = c' := Option.some.inj h1
      exact hc
    · rw [List.getElem?_set_ne (Ne.symm hm)] at h1
      have hne : b ≠ a := fun e => hm (nodup_at s.nd h2 (e ▸ hn))
      refine (s.at_ m c' b h1 h2).up (List.prefix_refl ι) (Ex.refl G) ?_ fun o h => by rw [upd_ne hne]; exact h
      cases hg : G b with
      | none => exact .inl rfl
      | some o => exact .inr ⟨o, rfl⟩
  · by_cases hb : b = a
    · subst hb; exact ⟨o, upd_same⟩
    · obtain ⟨o', ho⟩ := s.out m b h
      exact ⟨o', by rw [upd_ne hb]; exact ho⟩
  · obtain ⟨h1, h2, h3⟩ := s.pin b u e
    have hb : b ≠ a := fun z => h3 n (by rw [hn, z])
    exact ⟨by rw [upd_ne hb]; exact h1, h2, h3⟩
/-- a cell is data from now on -/
theorem Sr.frz (s : Sr K P ι G S H) {n : Nat} {a : Addr} {o : HO} {x : D} {c0 : Cell} (h0 : S[n]? = some c0) (hn : ι[n]? = some a) (hg : G a = none) (ho : H a = some o) (hx : Rv K (upd G a o) (.ref a) x) : Sr K P ι (upd G a o) (S.set n (.frz x)) H := by
  refine ⟨fun b u e => ?_, by rw [List.length_set]; exact s.len, s.nd, fun m c' b h1 h2 => ?_, s.out, fun b u e => ?_⟩
  · by_cases hb : b = a
    · subst hb; rw [upd_same] at e; rw [ho]; exact e
    · rw [upd_ne hb] at e; exact s.ex b u e
  · by_cases hm : m = n
    · subst hm
      rw [hn] at h2
      obtain rfl : a = b := Option.some.inj h2
      rw [List.getElem?_set_self (List.getElem?_eq_some_iff.mp h0).1] at h1
      obtain rfl : Cell.frz x = c' := Option.some.inj h1
      exact hx
    · rw [List.getElem?_set_ne (Ne.symm hm)] at h1
      have hne : b ≠ a := fun e => hm (nodup_at s.nd h2 (e ▸ hn))
      refine (s.at_ m c' b h1 h2).up (List.prefix_refl ι) (Ex.new hg) ?_ fun o h => h
      rw [upd_ne hne]
      cases hg : G b with
      | none => exact .inl rfl
      | some o => exact .inr ⟨o, rfl⟩
  · obtain ⟨h1, h2, h3⟩ := s.pin b u e
    exact ⟨h1, by rw [upd_ne (fun z => h3 n (by rw [hn, z]))]; exact h2, h3⟩
end
/-! ### what is asked of what comes out -/
def ErrAt (K : PySem.W.Frag) (G : Hp) (od : Option Addr) (fs : List (Str × D)) : Prop := (fs = [] ∧ od = none) ∨ ∃ dd vs, od = some dd ∧ G dd = some (.xd vs) ∧ RvF K G vs fs
theorem ErrAt.ex {K : PySem.W.Frag} {G G' : Hp} {od : Option Addr} {fs : List (Str × D)} (e : Ex G G') (h : ErrAt K G od fs) : ErrAt K G' od fs := by
  rcases h with h | ⟨dd, vs, h1, h2, h3⟩
  · exact .inl h
  · exact .inr ⟨dd, vs, h1, e _ _ h2, h3.ex e⟩
abbrev Rel (α β : Type) := List Addr → Hp → β → α → Prop
def Post {α β : Type} (R : Rel α β) (K : PySem.W.Frag) (Wx : WX) (P : Hp) (ι : List Addr) (G : Hp) (σ : L2.St) (Q : β → Hp → Prop) : Res α → Prop
  | .ok a S' => ∀ ι' G' H' v, ι <+: ι' → Ex G G' → Sr K P ι' G' S' H' → R ι' G' v a → Q v H'
  | .err c fs S' => ∀ ι' G' H' od, ι <+: ι' → Ex G G' → Sr K P ι' G' S' H' → ErrAt K G' od fs → Wx (.ref (ga K c)) od σ H'
  | .bad => False
section
variable {α β γ δ : Type} {R : Rel α β} {R2 : Rel γ δ} {K : PySem.W.Frag} {Wx : WX} {P : Hp} {ι ι' : List Addr} {G G' : Hp} {σ : L2.St} {Q : β → Hp → Prop} {Q2 : δ → Hp → Prop}
theorem Post.up (p : ι <+: ι') (e : Ex G G') : ∀ {r : Res α}, Post R K Wx P ι G σ Q r → Post R K Wx P ι' G' σ Q r
  | .ok a S', h => fun ι1 G1 H1 v p1 e1 s r => h ι1 G1 H1 v (p.trans p1) (e.trans e1) s r
  | .err c fs S', h => fun ι1 G1 H1 od p1 e1 s r => h ι1 G1 H1 od (p.trans p1) (e.trans e1) s r
  | .bad, h => h
theorem Post.bind {r : Res α} {k : α → Store → Res γ} (h : Post R2 K Wx P ι G σ Q2 (r.bind k))
    (f : ∀ a S' ι' G' H' v, ι <+: ι' → Ex G G' → Sr K P ι' G' S' H' → R ι' G' v a → Post R2 K Wx P ι' G' σ Q2 (k a S') → Q v H') : Post R K Wx P ι G σ Q r := by
  cases r with
  | ok a S' => exact fun ι1 G1 H1 v p1 e1 s r => f a S' ι1 G1 H1 v p1 e1 s r (Post.up p1 e1 h)
  | err c fs S' => exact h
  | bad => exact h
theorem Post.ok {a : α} {S' : Store} {H' : Hp} {v : β} (h : Post R K Wx P ι G σ Q (.ok a S')) (s : Sr K P ι G S' H') (r : R ι G v a) : Q v H' := h ι G H' v (List.prefix_refl ι) (Ex.refl G) s r
end
def DG {α β : Type} (R : Rel α β) (K : PySem.W.Frag) (Wx : WX) (t : L2.St → Hp → (β → Hp → Prop) → Prop) (F : Env → Store → Res α) : Prop :=
  ∀ P ι G σ S H ρ Q, Sr K P ι G S H → RelE K ι G σ ρ → Post R K Wx P ι G σ Q (F ρ S) → t σ H Q
def RB : Rel Bool Bool := fun _ _ b c => b = c
/-- an expression, arguments, a test, and what they compute -/
def PD (X : Cx) (Wx : WX) (e : Expr) (F : Env → Store → Res U) : Prop := ∃ t, PE X e t ∧ DG (RU X.K) X.K Wx t F
def PDA (X : Cx) (Wx : WX) (es : List Expr) (F : Env → Store → Res (List U)) : Prop := ∃ t, PA X es t ∧ DG (RUs X.K) X.K Wx t F
def PDK (X : Cx) (Wx : WX) (ks : List Keyword) (F : Env → Store → Res (List U)) : Prop := ∃ t, PK X ks t ∧ DG (RUs X.K) X.K Wx t F
def PDT (X : Cx) (Wx : WX) (e : Expr) (F : Env → Store → Res Bool) : Prop := ∃ t, PT X e t ∧ DG RB X.K Wx t F
def PDW (X : Cx) (Wx : WX) (e : Expr) (F : Env → Store → Res Bool) : Prop := ∃ t, PW X e t ∧ DG RB X.K Wx t F
/-! ### statements -/
inductive Fl where
  | nx (ρ : Env) (S : Store) | rt (u : U) (S : Store) | bk (ρ : Env) (S : Store) | ct (ρ : Env) (S : Store) | err (c : Str) (fs : List (Str × D)) (ρ : Env) (S : Store) | bad
def Res.fl {α : Type} (r : Res α) (ρ : Env) (k : α → Store → Fl) : Fl := match r with
  | .ok a S => k a S
  | .err c fs S => .err c fs ρ S
  | .bad => .bad
def PostS (K : PySem.W.Frag) (Wx : WX) (P : Hp) (ι : List Addr) (G : Hp) (E : Ends) : Fl → Prop
  | .nx ρ S => ∀ ι' G' σ' H', ι <+: ι' → Ex G G' → Sr K P ι' G' S H' → RelE K ι' G' σ' ρ → E.nx σ' H'
  | .bk ρ S => ∀ ι' G' σ' H', ι <+: ι' → Ex G G' → Sr K P ι' G' S H' → RelE K ι' G' σ' ρ → E.bk σ' H'
  | .ct ρ S => ∀ ι' G' σ' H', ι <+: ι' → Ex G G' → Sr K P ι' G' S H' → RelE K ι' G' σ' ρ → E.ct σ' H'
  | .rt u S => ∀ ι' G' H' v, ι <+: ι' → Ex G G' → Sr K P ι' G' S H' → RU K ι' G' v u → E.rt v H'
  | .err c fs ρ S => ∀ ι' G' σ' H' od, ι <+: ι' → Ex G G' → Sr K P ι' G' S H' → RelE K ι' G' σ' ρ → ErrAt K G' od fs → Wx (.ref (ga K c)) od σ' H'
  | .bad => False
def DS (K : PySem.W.Frag) (Wx : WX) (t : TS) (F : Env → Store → Fl) : Prop := ∀ P ι G σ S H ρ E, Sr K P ι G S H → RelE K ι G σ ρ → PostS K Wx P ι G E (F ρ S) → t E σ H
def PDS (X : Cx) (Wx : WX) (st : Stmt) (F : Env → Store → Fl) : Prop := ∃ t, PS X st t ∧ DS X.K Wx t F
def PDSs (X : Cx) (Wx : WX) (sts : List Stmt) (F : Env → Store → Fl) : Prop := ∃ t, PSs X sts t ∧ DS X.K Wx t F
section
variable {α β : Type} {R : Rel α β} {K : PySem.W.Frag} {Wx : WX} {P : Hp} {ι ι' : List Addr} {G G' : Hp} {σ : L2.St} {ρ : Env} {E : Ends}
theorem PostS.up (p : ι <+: ι') (e : Ex G G') : ∀ {r : Fl}, PostS K Wx P ι G E r → PostS K Wx P ι' G' E r
  | .nx _ _, h => fun ι1 G1 s1 H1 p1 e1 => h ι1 G1 s1 H1 (p.trans p1) (e.trans e1)
  | .bk _ _, h => fun ι1 G1 s1 H1 p1 e1 => h ι1 G1 s1 H1 (p.trans p1) (e.trans e1)
  | .ct _ _, h => fun ι1 G1 s1 H1 p1 e1 => h ι1 G1 s1 H1 (p.trans p1) (e.trans e1)
  | .rt _ _, h => fun ι1 G1 s1 H1 p1 e1 => h ι1 G1 s1 H1 (p.trans p1) (e.trans e1)
  | .err _ _ _ _, h => fun ι1 G1 s1 H1 od p1 e1 => h ι1 G1 s1 H1 od (p.trans p1) (e.trans e1)
  | .bad, h => h
/-- an expression ahead of a statement's end -/
theorem Post.fl {r : Res α} {k : α → Store → Fl} {Q : β → Hp → Prop} (hρ : RelE K ι G σ ρ) (h : PostS K Wx P ι G E (r.fl ρ k))
    (f : ∀ a S' ι' G' H' v, ι <+: ι' → Ex G G' → Sr K P ι' G' S' H' → R ι' G' v a → RelE K ι' G' σ ρ → PostS K Wx P ι' G' E (k a S') → Q v H') : Post R K Wx P ι G σ Q r := by
  cases r with
  | ok a S' => exact fun ι1 G1 H1 v p1 e1 s r => f a S' ι1 G1 H1 v p1 e1 s r (hρ.up p1 e1) (PostS.up p1 e1 h)
  | err c fs S' => exact fun ι1 G1 H1 od p1 e1 s r => h ι1 G1 σ H1 od p1 e1 s (hρ.up p1 e1) r
  | bad => exact h
end
end DL
set_option Elab.async false
set_option linter.all false
set_option maxRecDepth 100000
set_option maxHeartbeats 4000000
/-! ### rules of the data layer: expressions, tests, statements -/
namespace DL
open PySem PySem.Spec PyProof.Rows L2
open He (ga ma)
open Evl (Ex)
/-- what a name's value is: a frozen cell is data -/
def norm (S : Store) : U → U
  | .d x => .d x
  | .r n => match S[n]? with
    | some (.frz x) => .d x
    | _ => .r n
theorem norm_ok {K : PySem.W.Frag} {P : Hp} {ι : List Addr} {G H : Hp} {S : Store} {v : V} (s : Sr K P ι G S H) : ∀ {u : U}, RU K ι G v u → RU K ι G v (norm S u)
  | .d x, h => h
  | .r n, ⟨a, h, hv⟩ => by
    show RU K ι G v (match S[n]? with | some (.frz x) => .d x | _ => .r n)
    split
    · rename_i x e
      have := s.at_ n _ a e h
      rw [hv]
      exact this
    · exact ⟨a, h, hv⟩
def rdV (ρ : Env) (i : Nat) (S : Store) : Res U := match ρ[i]? with
  | some (some u) => .ok (norm S u) S
  | _ => .bad
def asB (u : U) (S : Store) : Res Bool := match u with
  | .d (.bl b) => .ok b S
  | _ => .bad
def OpD (X : Cx) (f : Value → Value → Sem Value) (g : U → U → Store → Res U) : Prop := ∃ r, OpR X f r ∧
  ∀ Wx P ι G S H v1 v2 u1 u2 σ Q, Sr X.K P ι G S H → RU X.K ι G v1 u1 → RU X.K ι G v2 u2 → Post (RU X.K) X.K Wx P ι G σ Q (g u1 u2 S) → r v1 v2 H Q
def IxD (X : Cx) (g : U → U → Store → Res U) : Prop := ∃ r, IxR X r ∧
  ∀ Wx P ι G S H v1 v2 u1 u2 σ Q, Sr X.K P ι G S H → RU X.K ι G v1 u1 → RU X.K ι G v2 u2 → Post (RU X.K) X.K Wx P ι G σ Q (g u1 u2 S) → r v1 v2 H Q
def UnD (X : Cx) (f : Value → Sem Value) (g : U → Store → Res U) : Prop := ∃ r, UnR X f r ∧
  ∀ Wx P ι G S H v u σ Q, Sr X.K P ι G S H → RU X.K ι G v u → Post (RU X.K) X.K Wx P ι G σ Q (g u S) → r v H Q
def SlD (X : Cx) (g : U → Option Int → Option Int → Store → Res U) : Prop := ∃ r, SlR X r ∧
  ∀ Wx P ι G S H v u lo hi σ Q, Sr X.K P ι G S H → RU X.K ι G v u → Post (RU X.K) X.K Wx P ι G σ Q (g u lo hi S) → r v lo hi H Q
def CallD (X : Cx) (f : Value) (g : List U → Store → Res U) : Prop := ∃ r, CallR X f r ∧
  ∀ Wx P ι G S H vs us σ Q, Sr X.K P ι G S H → RUs X.K ι G vs us → Post (RU X.K) X.K Wx P ι G σ Q (g us S) → r vs H Q
def MtD (X : Cx) (id : String) (g : U → List U → Store → Res U) : Prop := ∃ r, MtR X id r ∧
  ∀ Wx P ι G S H v vs u us σ Q, Sr X.K P ι G S H → RU X.K ι G v u → RUs X.K ι G vs us → Post (RU X.K) X.K Wx P ι G σ Q (g u us S) → r v vs H Q
section
variable {X : Cx} {Wx : WX} {P : Hp} {a b c e : Expr} {es : List Expr} {A B C : Env → Store → Res U} {As : Env → Store → Res (List U)} {At Bt : Env → Store → Res Bool} {pos : Pos}
theorem pd_of {x : D} {v : V} {t : TE} (h : PE X e t) (ht : t = tC v) (r : ∀ G, Rv X.K G v x) : PD X Wx e (fun _ S => .ok (.d x) S) := by
  subst ht
  exact ⟨_, h, fun P ι G σ S H ρ Q s _ post => post.ok s (r G)⟩
theorem pd_int {i : Int} {j : Nat} : PD X Wx (.Constant (.int i) j pos) (fun _ S => .ok (.d (.int i)) S) := pd_of pe_int rfl fun _ => .int i
theorem pd_bl {i : Bool} {j : Nat} : PD X Wx (.Constant (.bool i) j pos) (fun _ S => .ok (.d (.bl i)) S) := pd_of pe_bl rfl fun _ => .bl i
theorem pd_non {j : Nat} : PD X Wx (.Constant .none j pos) (fun _ S => .ok (.d .non) S) := pd_of pe_non rfl fun _ => .non
theorem pd_str {i : Str} {j : Nat} : PD X Wx (.Constant (.str i) j pos) (fun _ S => .ok (.d (.str i)) S) := pd_of pe_str rfl fun _ => .str i
/-- a constant of the module -/
theorem pd_gv {x : Str} {v : V} {d : D} (h : ∃ u, X.mg x = some u ∧ RelV v u) (r : ∀ G, Rv X.K G v d) (hg : Gl X x := by rfl) (hd : (x == ("__debug__" : Str)) = false := by decide) : PD X Wx (.Name x pos) (fun _ S => .ok (.d d) S) := pd_of (pe_gv h hg hd) rfl r
theorem pd_pv {x : Str} (i : Nat) (h : PE X (.Name x pos) (tVar i)) : PD X Wx (.Name x pos) (fun ρ S => rdV ρ i S) := by
  refine ⟨_, h, fun P ι G σ S H ρ Q s e post => ?_⟩
  have post' : Post (RU X.K) X.K Wx P ι G σ Q (match ρ[i]? with | some (some u) => Res.ok (norm S u) S | _ => Res.bad) := post
  split at post'
  · rename_i u hu
    obtain ⟨o, ho, r⟩ := paired_get e hu
    cases o with
    | none => exact r.elim
    | some v => exact ⟨v, ho, post'.ok s (norm_ok s r)⟩
  · exact post'.elim
theorem pd_op {op : Operator} {g : U → U → Store → Res U} (ho : OpD X (binaryOp op) g) (ha : PD X Wx a A) (hb : PD X Wx b B) : PD X Wx (.BinOp a op b pos) (fun ρ S => (A ρ S).bind fun x S => (B ρ S).bind fun y S => g x y S) := by
  obtain ⟨r, hr, h⟩ := ho
  obtain ⟨ta, pa, da⟩ := ha
  obtain ⟨tb, pb, db⟩ := hb
  refine ⟨_, pe_op hr pa pb, fun P ι G σ S H ρ Q s e post => ?_⟩
  refine da P ι G σ S H ρ _ s e (post.bind fun x S1 ι1 G1 H1 v p1 e1 s1 rv post1 => ?_)
  refine db P ι1 G1 σ S1 H1 ρ _ s1 (e.up p1 e1) (post1.bind fun y S2 ι2 G2 H2 v2 p2 e2 s2 rv2 post2 => ?_)
  exact h Wx P ι2 G2 S2 H2 v v2 x y σ Q s2 (rv.up p2 e2) rv2 post2
theorem pd_un {op : UnaryOp} {g : U → Store → Res U} (ho : UnD X (unaryOp op) g) (ha : PD X Wx a A) : PD X Wx (.UnaryOp op a pos) (fun ρ S => (A ρ S).bind fun x S => g x S) := by
  obtain ⟨r, hr, h⟩ := ho
  obtain ⟨ta, pa, da⟩ := ha
  refine ⟨_, pe_un hr pa, fun P ι G σ S H ρ Q s e post => ?_⟩
  refine da P ι G σ S H ρ _ s e (post.bind fun x S1 ι1 G1 H1 v p1 e1 s1 rv post1 => ?_)
  exact h Wx P ι1 G1 S1 H1 v x σ Q s1 rv post1
theorem pd_ix {g : U → U → Store → Res U} (ho : IxD X g) (ha : PD X Wx a A) (hb : PD X Wx b B) (hs : PlainIx b := by exact fun _ _ => rfl) : PD X Wx (.Subscript a b pos) (fun ρ S => (A ρ S).bind fun x S => (B ρ S).bind fun y S => g x y S) := by
  obtain ⟨r, hr, h⟩ := ho
  obtain ⟨ta, pa, da⟩ := ha
  obtain ⟨tb, pb, db⟩ := hb
  refine ⟨_, pe_ix hr pa pb hs, fun P ι G σ S H ρ Q s e post => ?_⟩
  refine da P ι G σ S H ρ _ s e (post.bind fun x S1 ι1 G1 H1 v p1 e1 s1 rv post1 => ?_)
  refine db P ι1 G1 σ S1 H1 ρ _ s1 (e.up p1 e1) (post1.bind fun y S2 ι2 G2 H2 v2 p2 e2 s2 rv2 post2 => ?_)
  exact h Wx P ι2 G2 S2 H2 v v2 x y σ Q s2 (rv.up p2 e2) rv2 post2
theorem pd_cmp {op : CmpOp} {g : U → U → Store → Res U} (ho : OpD X (compareOp op) g) (ha : PD X Wx a A) (hb : PD X Wx b B) (hm : behindInMarks op b = false) : PD X Wx (.Compare a [op] [b] pos) (fun ρ S => (A ρ S).bind fun x S => (B ρ S).bind fun y S => g x y S) := by
  obtain ⟨r, hr, h⟩ := ho
  obtain ⟨ta, pa, da⟩ := ha
  obtain ⟨tb, pb, db⟩ := hb
  refine ⟨_, pe_cmpR hr pa pb hm, fun P ι G σ S H ρ Q s e post => ?_⟩
  refine da P ι G σ S H ρ _ s e (post.bind fun x S1 ι1 G1 H1 v p1 e1 s1 rv post1 => ?_)
  refine db P ι1 G1 σ S1 H1 ρ _ s1 (e.up p1 e1) (post1.bind fun y S2 ι2 G2 H2 v2 p2 e2 s2 rv2 post2 => ?_)
  exact h Wx P ι2 G2 S2 H2 v v2 x y σ Q s2 (rv.up p2 e2) rv2 post2
theorem asB_post {α β : Type} {R : Rel α β} {ι : List Addr} {G : Hp} {S : Store} {σ : L2.St} {u : U} {v : V} {Q : β → Hp → Prop} {k : Bool → Store → Res α} (r : RU X.K ι G v u) (post : Post R X.K Wx P ι G σ Q ((asB u S).bind k)) : ∃ b, v = .bl b ∧ Post R X.K Wx P ι G σ Q (k b S) := by
  match u, r, post with
  | .d (.bl b), r, post =>
    cases r
    exact ⟨b, rfl, post⟩
theorem asB_ok {ι : List Addr} {G H : Hp} {S : Store} {σ : L2.St} {u : U} {v : V} {Q : Bool → Hp → Prop} (s : Sr X.K P ι G S H) (r : RU X.K ι G v u) (post : Post RB X.K Wx P ι G σ Q (asB u S)) : ∃ k, v = .bl k ∧ Q k H := by
  match u, r, post with
  | .d (.bl b), r, post =>
    cases r
    exact ⟨b, rfl, post.ok s rfl⟩
theorem pdt_cmp {op : CmpOp} {g : U → U → Store → Res U} (ho : OpD X (compareOp op) g) (ha : PD X Wx a A) (hb : PD X Wx b B) (hm : behindInMarks op b = false) : PDT X Wx (.Compare a [op] [b] pos) (fun ρ S => (A ρ S).bind fun x S => (B ρ S).bind fun y S => (g x y S).bind asB) := by
  obtain ⟨r, hr, h⟩ := ho
  obtain ⟨ta, pa, da⟩ := ha
  obtain ⟨tb, pb, db⟩ := hb
  refine ⟨_, pt_cmpR hr pa pb hm, fun P ι G σ S H ρ Q s e post => ?_⟩
  refine da P ι G σ S H ρ _ s e (post.bind fun x S1 ι1 G1 H1 v p1 e1 s1 rv post1 => ?_)
  refine db P ι1 G1 σ S1 H1 ρ _ s1 (e.up p1 e1) (post1.bind fun y S2 ι2 G2 H2 v2 p2 e2 s2 rv2 post2 => ?_)
  refine h Wx P ι2 G2 S2 H2 v v2 x y σ _ s2 (rv.up p2 e2) rv2 (post2.bind fun z S3 ι3 G3 H3 v3 p3 e3 s3 rv3 post3 => ?_)
  exact asB_ok s3 rv3 post3
theorem pd_chain {op op' : CmpOp} {g g' : U → U → Store → Res U} (ho : OpD X (compareOp op) g) (ho' : OpD X (compareOp op') g') (ha : PD X Wx a A) (hb : PD X Wx b B) (hc : PD X Wx c C) (hm : lastMarks [op, op'] [b, c] = false := by rfl) :
    PD X Wx (.Compare a [op, op'] [b, c] pos) (fun ρ S => (A ρ S).bind fun x S => (B ρ S).bind fun y S => (g x y S).bind fun z S => (asB z S).bind fun k S => if k = true then (C ρ S).bind fun z S => g' y z S else .ok (.d (.bl false)) S) := by
  obtain ⟨r, hr, h⟩ := ho
  obtain ⟨r', hr', h'⟩ := ho'
  obtain ⟨ta, pa, da⟩ := ha
  obtain ⟨tb, pb, db⟩ := hb
  obtain ⟨tc, pc, dc⟩ := hc
  refine ⟨_, pe_chain hr hr' pa pb pc hm, fun P ι G σ S H ρ Q s e post => ?_⟩
  refine da P ι G σ S H ρ _ s e (post.bind fun x S1 ι1 G1 H1 v p1 e1 s1 rv post1 => ?_)
  refine db P ι1 G1 σ S1 H1 ρ _ s1 (e.up p1 e1) (post1.bind fun y S2 ι2 G2 H2 v2 p2 e2 s2 rv2 post2 => ?_)
  refine h Wx P ι2 G2 S2 H2 v v2 x y σ _ s2 (rv.up p2 e2) rv2 (post2.bind fun z S3 ι3 G3 H3 v3 p3 e3 s3 rv3 post3 => ?_)
  obtain ⟨k, rfl, post4⟩ := asB_post rv3 post3
  refine ⟨k, rfl, ?_⟩
  cases k with
  | true =>
    rw [if_pos rfl] at post4 ⊢
    refine dc P ι3 G3 σ S3 H3 ρ _ s3 (((e.up p1 e1).up p2 e2).up p3 e3) (post4.bind fun z S5 ι5 G5 H5 v5 p5 e5 s5 rv5 post5 => ?_)
    exact h' Wx P ι5 G5 S5 H5 v2 v5 y z σ Q s5 ((rv2.up p3 e3).up p5 e5) rv5 post5
  | false =>
    rw [if_neg Bool.false_ne_true] at post4 ⊢
    exact post4.ok s3 (.bl false)
theorem pdt_chain {op op' : CmpOp} {g g' : U → U → Store → Res U} (ho : OpD X (compareOp op) g) (ho' : OpD X (compareOp op') g') (ha : PD X Wx a A) (hb : PD X Wx b B) (hc : PD X Wx c C) (hm : lastMarks [op, op'] [b, c] = false := by rfl) :
    PDT X Wx (.Compare a [op, op'] [b, c] pos) (fun ρ S => (A ρ S).bind fun x S => (B ρ S).bind fun y S => (g x y S).bind fun z S => (asB z S).bind fun k S => if k = true then (C ρ S).bind fun z S => (g' y z S).bind asB else .ok false S) := by
  obtain ⟨r, hr, h⟩ := ho
  obtain ⟨r', hr', h'⟩ := ho'
  obtain ⟨ta, pa, da⟩ := ha
  obtain ⟨tb, pb, db⟩ := hb
  obtain ⟨tc, pc, dc⟩ := hc
  refine ⟨_, pt_chain hr hr' pa pb pc hm, fun P ι G σ S H ρ Q s e post => ?_⟩
  refine da P ι G σ S H ρ _ s e (post.bind fun x S1 ι1 G1 H1 v p1 e1 s1 rv post1 => ?_)
  refine db P ι1 G1 σ S1 H1 ρ _ s1 (e.up p1 e1) (post1.bind fun y S2 ι2 G2 H2 v2 p2 e2 s2 rv2 post2 => ?_)
  refine h Wx P ι2 G2 S2 H2 v v2 x y σ _ s2 (rv.up p2 e2) rv2 (post2.bind fun z S3 ι3 G3 H3 v3 p3 e3 s3 rv3 post3 => ?_)
  obtain ⟨k, rfl, post4⟩ := asB_post rv3 post3
  refine ⟨k, rfl, ?_⟩
  cases k with
  | true =>
    rw [if_pos rfl] at post4 ⊢
    refine dc P ι3 G3 σ S3 H3 ρ _ s3 (((e.up p1 e1).up p2 e2).up p3 e3) (post4.bind fun z S5 ι5 G5 H5 v5 p5 e5 s5 rv5 post5 => ?_)
    refine h' Wx P ι5 G5 S5 H5 v2 v5 y z σ _ s5 ((rv2.up p3 e3).up p5 e5) rv5 (post5.bind fun z S6 ι6 G6 H6 v6 p6 e6 s6 rv6 post6 => ?_)
    exact asB_ok s6 rv6 post6
  | false =>
    rw [if_neg Bool.false_ne_true] at post4 ⊢
    exact ⟨false, rfl, post4.ok s3 rfl⟩
/-! truth -/
def truU (u : U) (S : Store) : Res Bool := match u with
  | .d .non => .ok false S
  | .d (.bl b) => .ok b S
  | .d (.int i) => .ok (i != 0) S
  | .d (.str z) => if z.length ≤ sizeLine then .ok ((z.length : Int) != 0) S else .bad
  | .d (.tup ds) => .ok (!ds.isEmpty) S
  | .d (.lst ds) => .ok (!ds.isEmpty) S
  | .d _ => .bad
  | .r n => match S[n]? with
    | some (.lst us) => .ok (!us.isEmpty) S
    | _ => .bad
theorem empty_pair {α β : Type} {F : α → β → Prop} {l1 : List α} {l2 : List β} (h : Paired F l1 l2) : l1.isEmpty = l2.isEmpty := by cases h <;> rfl
theorem tru_post {α β : Type} {R : Rel α β} {ι : List Addr} {G H : Hp} {S : Store} {σ : L2.St} {u : U} {v : V} {Q : β → Hp → Prop} {k : Bool → Store → Res α} (s : Sr X.K P ι G S H) (r : RU X.K ι G v u) (post : Post R X.K Wx P ι G σ Q ((truU u S).bind k)) : ∃ b, TruV X.K v H b ∧ Post R X.K Wx P ι G σ Q (k b S) := by
  match u, r, post with
  | .d .non, r, post => cases r; exact ⟨false, rfl, post⟩
  | .d (.bl b), r, post => cases r; exact ⟨b, rfl, post⟩
  | .d (.int i), r, post => cases r; exact ⟨_, rfl, post⟩
  | .d (.str z), r, post =>
    cases r
    simp only [truU] at post
    split at post
    · rename_i hz
      exact ⟨_, ⟨hz, rfl⟩, post⟩
    · exact post.elim
  | .d (.tup ds), r, post =>
    cases r with
    | tup h1 h2 => exact ⟨_, .inr (.inl ⟨_, Evl.ex_t s.ex h1, rfl⟩), by rw [empty_pair h2.pair]; exact post⟩
  | .d (.lst ds), r, post =>
    cases r with
    | lst h1 h2 => exact ⟨_, .inl ⟨_, Evl.ex_l s.ex h1, rfl⟩, by rw [empty_pair h2.pair]; exact post⟩
  | .r n, ⟨p, hn, hv⟩, post =>
    subst hv
    simp only [truU] at post
    split at post
    · rename_i us hc
      obtain ⟨_, vs, h1, h2⟩ := s.at_ n _ p hc hn
      exact ⟨_, .inl ⟨_, SqL.of h1, rfl⟩, by rw [empty_pair h2]; exact post⟩
    · exact post.elim
theorem Res.bind_ok {α : Type} (r : Res α) : r.bind .ok = r := by cases r <;> rfl
theorem tru_ok {ι : List Addr} {G H : Hp} {S : Store} {σ : L2.St} {u : U} {v : V} {Q : Bool → Hp → Prop} (s : Sr X.K P ι G S H) (r : RU X.K ι G v u) (post : Post RB X.K Wx P ι G σ Q (truU u S)) : ∃ k, TruV X.K v H k ∧ Q k H := by
  rw [← Res.bind_ok (truU u S)] at post
  obtain ⟨b, h, post⟩ := tru_post s r post
  exact ⟨b, h, post.ok s rfl⟩
theorem pdt_truth (ha : PD X Wx a A) (he : ∀ whole, isTrue a X.env whole = (do let v ← whole; standAt a.pos; holding [v] (truthy v)) := by intro _; rfl) : PDT X Wx a (fun ρ S => (A ρ S).bind truU) := by
  obtain ⟨ta, pa, da⟩ := ha
  refine ⟨_, pt_truth pa he, fun P ι G σ S H ρ Q s e post => ?_⟩
  exact da P ι G σ S H ρ _ s e (post.bind fun x S1 ι1 G1 H1 v p1 e1 s1 rv post1 => tru_ok s1 rv post1)
theorem pdt_not (ha : PDT X Wx a At) : PDT X Wx (.UnaryOp .Not a pos) (fun ρ S => (At ρ S).bind fun k S => .ok (!k) S) := by
  obtain ⟨ta, pa, da⟩ := ha
  refine ⟨_, pt_not pa, fun P ι G σ S H ρ Q s e post => ?_⟩
  refine da P ι G σ S H ρ _ s e (post.bind fun x S1 ι1 G1 H1 v p1 e1 s1 rv post1 => ?_)
  cases rv
  exact post1.ok s1 rfl
theorem pdw_and1 (ha : PDT X Wx a At) : PDW X Wx (.BoolOp .And [a] pos) At := by
  obtain ⟨ta, pa, da⟩ := ha
  exact ⟨_, pw_and1 pa, da⟩
theorem pdw_or1 (ha : PDT X Wx a At) : PDW X Wx (.BoolOp .Or [a] pos) At := by
  obtain ⟨ta, pa, da⟩ := ha
  exact ⟨_, pw_or1 pa, da⟩
theorem pdw_and (ha : PDT X Wx a At) (hb : PDW X Wx (.BoolOp .And (b :: es) pos) Bt) : PDW X Wx (.BoolOp .And (a :: b :: es) pos) (fun ρ S => (At ρ S).bind fun k S => if k = true then Bt ρ S else .ok false S) := by
  obtain ⟨ta, pa, da⟩ := ha
  obtain ⟨tb, pb, db⟩ := hb
  refine ⟨_, pw_and pa pb, fun P ι G σ S H ρ Q s e post => ?_⟩
  refine da P ι G σ S H ρ _ s e (post.bind fun x S1 ι1 G1 H1 v p1 e1 s1 rv post1 => ?_)
  cases rv
  cases x with
  | true => rw [if_pos rfl] at post1 ⊢; exact db P ι1 G1 σ S1 H1 ρ _ s1 (e.up p1 e1) post1
  | false => rw [if_neg Bool.false_ne_true] at post1 ⊢; exact post1.ok s1 rfl
theorem pdw_or (ha : PDT X Wx a At) (hb : PDW X Wx (.BoolOp .Or (b :: es) pos) Bt) : PDW X Wx (.BoolOp .Or (a :: b :: es) pos) (fun ρ S => (At ρ S).bind fun k S => if k = true then .ok true S else Bt ρ S) := by
  obtain ⟨ta, pa, da⟩ := ha
  obtain ⟨tb, pb, db⟩ := hb
  refine ⟨_, pw_or pa pb, fun P ι G σ S H ρ Q s e post => ?_⟩
  refine da P ι G σ S H ρ _ s e (post.bind fun x S1 ι1 G1 H1 v p1 e1 s1 rv post1 => ?_)
  cases rv
  cases x with
  | true => rw [if_pos rfl] at post1 ⊢; exact post1.ok s1 rfl
  | false => rw [if_neg Bool.false_ne_true] at post1 ⊢; exact db P ι1 G1 σ S1 H1 ρ _ s1 (e.up p1 e1) post1
theorem PDW.pt (h : PDW X Wx a At) : PDT X Wx a At := by
  obtain ⟨ta, pa, da⟩ := h
  exact ⟨_, pa.pt, da⟩
/-! and, or, not as values -/
theorem pd_one {op : BoolOp} (h : PD X Wx a A) : PD X Wx (.BoolOp op [a] pos) A := by
  obtain ⟨ta, pa, da⟩ := h
  exact ⟨_, pe_one pa, da⟩
theorem pd_and (ha : PD X Wx a A) (hb : PD X Wx (.BoolOp .And (b :: es) pos) B) : PD X Wx (.BoolOp .And (a :: b :: es) pos) (fun ρ S => (A ρ S).bind fun u S => (truU u S).bind fun k S => if k = true then B ρ S else .ok u S) := by
  obtain ⟨ta, pa, da⟩ := ha
  obtain ⟨tb, pb, db⟩ := hb
  refine ⟨_, pe_andT pa pb, fun P ι G σ S H ρ Q s e post => ?_⟩
  refine da P ι G σ S H ρ _ s e (post.bind fun x S1 ι1 G1 H1 v p1 e1 s1 rv post1 => ?_)
  obtain ⟨k, hk, post2⟩ := tru_post s1 rv post1
  refine ⟨k, hk, ?_⟩
  cases k with
  | true => rw [if_pos rfl] at post2 ⊢; exact db P ι1 G1 σ S1 H1 ρ _ s1 (e.up p1 e1) post2
  | false => rw [if_neg Bool.false_ne_true] at post2 ⊢; exact post2.ok s1 rv
theorem pd_or (ha : PD X Wx a A) (hb : PD X Wx (.BoolOp .Or (b :: es) pos) B) : PD X Wx (.BoolOp .Or (a :: b :: es) pos) (fun ρ S => (A ρ S).bind fun u S => (truU u S).bind fun k S => if k = true then .ok u S else B ρ S) := by
  obtain ⟨ta, pa, da⟩ := ha
  obtain ⟨tb, pb, db⟩ := hb
  refine ⟨_, pe_orT pa pb, fun P ι G σ S H ρ Q s e post => ?_⟩
  refine da P ι G σ S H ρ _ s e (post.bind fun x S1 ι1 G1 H1 v p1 e1 s1 rv post1 => ?_)
  obtain ⟨k, hk, post2⟩ := tru_post s1 rv post1
  refine ⟨k, hk, ?_⟩
  cases k with
  | true => rw [if_pos rfl] at post2 ⊢; exact post2.ok s1 rv
  | false => rw [if_neg Bool.false_ne_true] at post2 ⊢; exact db P ι1 G1 σ S1 H1 ρ _ s1 (e.up p1 e1) post2
theorem pd_not (ha : PD X Wx a A) : PD X Wx (.UnaryOp .Not a pos) (fun ρ S => (A ρ S).bind fun u S => (truU u S).bind fun k S => .ok (.d (.bl (!k))) S) := by
  obtain ⟨ta, pa, da⟩ := ha
  refine ⟨_, pe_notT pa, fun P ι G σ S H ρ Q s e post => ?_⟩
  refine da P ι G σ S H ρ _ s e (post.bind fun x S1 ι1 G1 H1 v p1 e1 s1 rv post1 => ?_)
  obtain ⟨k, hk, post2⟩ := tru_post s1 rv post1
  exact ⟨k, hk, post2.ok s1 (.bl _)⟩
theorem pd_if (hc : PDT X Wx c At) (ha : PD X Wx a A) (hb : PD X Wx b B) : PD X Wx (.IfExp c a b pos) (fun ρ S => (At ρ S).bind fun k S => if k = true then A ρ S else B ρ S) := by
  obtain ⟨tc, pc, dc⟩ := hc
  obtain ⟨ta, pa, da⟩ := ha
  obtain ⟨tb, pb, db⟩ := hb
  refine ⟨_, pe_ifExp pc pa pb, fun P ι G σ S H ρ Q s e post => ?_⟩
  refine dc P ι G σ S H ρ _ s e (post.bind fun x S1 ι1 G1 H1 v p1 e1 s1 rv post1 => ?_)
  cases rv
  cases x with
  | true => rw [if_pos rfl] at post1 ⊢; exact da P ι1 G1 σ S1 H1 ρ _ s1 (e.up p1 e1) post1
  | false => rw [if_neg Bool.false_ne_true] at post1 ⊢; exact db P ι1 G1 σ S1 H1 ρ _ s1 (e.up p1 e1) post1
/-! arguments, displays -/
theorem pda_nil : PDA X Wx [] (fun _ S => .ok [] S) := ⟨_, pa_nil, fun P ι G σ S H ρ Q s _ post => post.ok s .nil⟩
theorem pda_cons (ha : PD X Wx a A) (hr : PDA X Wx es As) (hs : starEach (a :: es) X.env = (false, eval a X.env) :: starEach es X.env := by rfl) : PDA X Wx (a :: es) (fun ρ S => (A ρ S).bind fun x S => (As ρ S).bind fun xs S => .ok (x :: xs) S) := by
  obtain ⟨ta, pa, da⟩ := ha
  obtain ⟨tb, pb, db⟩ := hr
  refine ⟨_, pa_cons pa pb hs, fun P ι G σ S H ρ Q s e post => ?_⟩
  refine da P ι G σ S H ρ _ s e (post.bind fun x S1 ι1 G1 H1 v p1 e1 s1 rv post1 => ?_)
  refine db P ι1 G1 σ S1 H1 ρ _ s1 (e.up p1 e1) (post1.bind fun y S2 ι2 G2 H2 v2 p2 e2 s2 rv2 post2 => ?_)
  exact post2.ok s2 (.cons (rv.up p2 e2) rv2)
/-- what a list or a tuple holds -/
def seqU (u : U) (S : Store) : Res (List U) := match u with
  | .d (.tup ds) => .ok (ds.map .d) S
  | .d (.lst ds) => .ok (ds.map .d) S
  | .r n => match S[n]? with
    | some (.lst us) => .ok us S
    | _ => .bad
  | _ => .bad
theorem seq_post {α β : Type} {R : Rel α β} {ι : List Addr} {G H : Hp} {S : Store} {σ : L2.St} {u : U} {v : V} {Q : β → Hp → Prop} {k : List U → Store → Res α} (s : Sr X.K P ι G S H) (r : RU X.K ι G v u) (post : Post R X.K Wx P ι G σ Q ((seqU u S).bind k)) :
    ∃ a xs us, v = .ref a ∧ (SqT X.K H a xs ∨ SqL X.K H a xs) ∧ RUs X.K ι G xs us ∧ Post R X.K Wx P ι G σ Q (k us S) := by
  match u, r, post with
  | .d (.tup ds), r, post =>
    cases r with
    | tup h1 h2 => exact ⟨_, _, _, rfl, .inl (Evl.ex_t s.ex h1), h2.us, post⟩
  | .d (.lst ds), r, post =>
    cases r with
    | lst h1 h2 => exact ⟨_, _, _, rfl, .inr (Evl.ex_l s.ex h1), h2.us, post⟩
  | .r n, ⟨p, hn, hv⟩, post =>
    subst hv
    simp only [seqU] at post
    split at post
    · rename_i us hc
      obtain ⟨_, vs, h1, h2⟩ := s.at_ n _ p hc hn
      exact ⟨_, _, _, rfl, .inr (SqL.of h1), h2, post⟩
    · exact post.elim
theorem pda_star {p : Pos} (ha : PD X Wx a A) (hr : PDA X Wx es As) (hs : starEach (.Starred a p :: es) X.env = (true, eval a X.env) :: starEach es X.env := by rfl) : PDA X Wx (.Starred a p :: es) (fun ρ S => (A ρ S).bind fun x S => (seqU x S).bind fun us S => (As ρ S).bind fun xs S => .ok (us ++ xs) S) := by
  obtain ⟨ta, pa, da⟩ := ha
  obtain ⟨tb, pb, db⟩ := hr
  refine ⟨_, StX.pa_star pa pb hs, fun P ι G σ S H ρ Q s e post => ?_⟩
  refine da P ι G σ S H ρ _ s e (post.bind fun x S1 ι1 G1 H1 v p1 e1 s1 rv post1 => ?_)
  obtain ⟨q, xs, us, rfl, hq, rv2, post2⟩ := seq_post s1 rv post1
  refine ⟨q, xs, rfl, hq, ?_⟩
  refine db P ι1 G1 σ S1 H1 ρ _ s1 (e.up p1 e1) (post2.bind fun y S3 ι3 G3 H3 v3 p3 e3 s3 rv3 post3 => ?_)
  exact post3.ok s3 (paired_app (rv2.up p3 e3) rv3)
def mkT (us : List U) (S : Store) : Res U := match allD us with
  | some ds => if ds.length ≤ sizeLine then .ok (.d (.tup ds)) S else .bad
  | none => .bad
def mkL (us : List U) (S : Store) : Res U := match allD us with
  | some ds => if ds.length ≤ sizeLine then .ok (.d (.lst ds)) S else .bad
  | none => .bad
/-- a new list that will change -/
def mkM (us : List U) (S : Store) : Res U := if us.length ≤ sizeLine then .ok (.r S.length) (S ++ [.lst us]) else .bad
theorem allD_len {us : List U} {ds : List D} (h : allD us = some ds) : us.length = ds.length := by rw [allD_eq h, List.length_map]
theorem pd_tup {x1} (h : PDA X Wx es As) : PD X Wx (.Tuple es x1 pos) (fun ρ S => (As ρ S).bind mkT) := by
  obtain ⟨ta, pa, da⟩ := h
  refine ⟨_, pe_tup pa, fun P ι G σ S H ρ Q s e post => ?_⟩
  refine da P ι G σ S H ρ _ s e (post.bind fun us S1 ι1 G1 H1 vs p1 e1 s1 rv post1 => ?_)
  unfold mkT at post1
  split at post1
  · rename_i ds hd
    split at post1
    · rename_i hz
      have hl := paired_len rv
      rw [allD_len hd] at hl
      refine ⟨by rw [hl]; exact hz, fun p hp => ?_⟩
      exact post1 ι1 _ _ (.ref p) (List.prefix_refl _) (s1.exN hp) (s1.new hp) (.tup (SqT.of upd_same) ((rv.all hd).ex (s1.exN hp)))
    · exact post1.elim
  · exact post1.elim
theorem pd_lst (h : PDA X Wx es As) : PD X Wx (.List es pos) (fun ρ S => (As ρ S).bind mkL) := by
  obtain ⟨ta, pa, da⟩ := h
  refine ⟨_, pe_lst pa, fun P ι G σ S H ρ Q s e post => ?_⟩
  refine da P ι G σ S H ρ _ s e (post.bind fun us S1 ι1 G1 H1 vs p1 e1 s1 rv post1 => ?_)
  unfold mkL at post1
  split at post1
  · rename_i ds hd
    split at post1
    · rename_i hz
      have hl := paired_len rv
      rw [allD_len hd] at hl
      refine ⟨by rw [hl]; exact hz, fun p hp => ?_⟩
      exact post1 ι1 _ _ (.ref p) (List.prefix_refl _) (s1.exN hp) (s1.new hp) (.lst (SqL.of upd_same) ((rv.all hd).ex (s1.exN hp)))
    · exact post1.elim
  · exact post1.elim
theorem newM {ι : List Addr} {G H : Hp} {S : Store} {us : List U} {vs : List V} {p : Addr} {Q : VK} {σ : L2.St} (s : Sr X.K P ι G S H) (hp : H p = none) (rv : RUs X.K ι G vs us) (post : Post (RU X.K) X.K Wx P ι G σ Q (.ok (.r S.length) (S ++ [.lst us]))) : Q (.ref p) (upd H p (.lst vs)) := by
  have up : ι <+: ι ++ [p] := List.prefix_append ι [p]
  refine post (ι ++ [p]) G _ (.ref p) up (Ex.refl G) (s.cell hp ⟨(s.fresh hp).1, vs, upd_same, rv.up up (Ex.refl G)⟩) ⟨p, ?_, rfl⟩
  rw [← s.len, List.getElem?_append_right (Nat.le_refl _), Nat.sub_self]
  rfl
theorem pd_lstM (h : PDA X Wx es As) : PD X Wx (.List es pos) (fun ρ S => (As ρ S).bind mkM) := by
  obtain ⟨ta, pa, da⟩ := h
  refine ⟨_, pe_lst pa, fun P ι G σ S H ρ Q s e post => ?_⟩
  refine da P ι G σ S H ρ _ s e (post.bind fun us S1 ι1 G1 H1 vs p1 e1 s1 rv post1 => ?_)
  unfold mkM at post1
  split at post1
  · rename_i hz
    have hl := paired_len rv
    exact ⟨by rw [hl]; exact hz, fun p hp => newM s1 hp rv post1⟩
  · exact post1.elim
/-! slices -/
def PDO (X : Cx) (Wx : WX) (e : Option Expr) (F : Env → Store → Res (Option Int)) : Prop := ∃ t, PO X e t ∧ DG (fun _ _ a b => a = b) X.K Wx t F
def asI (u : U) (S : Store) : Res (Option Int) := match u with
  | .d (.int i) => .ok (some i) S
  | _ => .bad
theorem pdo_none : PDO X Wx none (fun _ S => .ok none S) := ⟨_, po_none, fun P ι G σ S H ρ Q s _ post => post.ok s rfl⟩
theorem pdo_some (ha : PD X Wx a A) : PDO X Wx (some a) (fun ρ S => (A ρ S).bind asI) := by
  obtain ⟨ta, pa, da⟩ := ha
  refine ⟨_, po_some pa, fun P ι G σ S H ρ Q s e post => ?_⟩
  refine da P ι G σ S H ρ _ s e (post.bind fun x S1 ι1 G1 H1 v p1 e1 s1 rv post1 => ?_)
  match x, rv, post1 with
  | .d (.int i), rv, post1 =>
    cases rv
    exact ⟨i, rfl, post1.ok s1 rfl⟩
theorem pd_sl {g : U → Option Int → Option Int → Store → Res U} {lo hi : Option Expr} {L Hh : Env → Store → Res (Option Int)} {p2 : Pos} (ho : SlD X g) (ha : PD X Wx a A) (hl : PDO X Wx lo L) (hh : PDO X Wx hi Hh) : PD X Wx (.Subscript a (.Slice lo hi none p2) pos) (fun ρ S => (A ρ S).bind fun x S => (L ρ S).bind fun l S => (Hh ρ S).bind fun h S => g x l h S) := by
  obtain ⟨r, hr, h⟩ := ho
  obtain ⟨ta, pa, da⟩ := ha
  obtain ⟨tb, pb, db⟩ := hl
  obtain ⟨tc, pc, dc⟩ := hh
  refine ⟨_, pe_slice hr pa pb pc, fun P ι G σ S H ρ Q s e post => ?_⟩
  refine da P ι G σ S H ρ _ s e (post.bind fun x S1 ι1 G1 H1 v p1 e1 s1 rv post1 => ?_)
  refine db P ι1 G1 σ S1 H1 ρ _ s1 (e.up p1 e1) (post1.bind fun y S2 ι2 G2 H2 v2 p2 e2 s2 rv2 post2 => ?_)
  refine dc P ι2 G2 σ S2 H2 ρ _ s2 ((e.up p1 e1).up p2 e2) (post2.bind fun z S3 ι3 G3 H3 v3 p3 e3 s3 rv3 post3 => ?_)
  cases rv2
  cases rv3
  exact h Wx P ι3 G3 S3 H3 v x _ _ σ Q s3 ((rv.up p2 e2).up p3 e3) post3
/-! calls of built-ins -/
theorem pd_callB {id : String} {x : Str} {p : Pos} {g : List U → Store → Res U} (hc : CallD X (.builtin id) g) (hm : X.mg x = none) (ha : PDA X Wx (e :: es) As) (hg : Gl X x := by rfl) (hv : bootBuiltins x = some (.builtin id) := by decide +kernel) (hn : x ≠ "__name__" := by decide) (hdb : (x == ("__debug__" : Str)) = false := by decide)
    (he : starEach (e :: es) X.env = (false, eval e X.env) :: starEach es X.env := by rfl) (hpl : (backTo pos (starEach es X.env)).any (·.1) = false := by rfl) : PD X Wx (.Call (.Name x p) (e :: es) [] pos) (fun ρ S => (As ρ S).bind g) := by
  obtain ⟨r, hr, h⟩ := hc
  obtain ⟨ta, pa, da⟩ := ha
  refine ⟨_, pe_callB hr hg hm hv pa hn hdb he hpl, fun P ι G σ S H ρ Q s e post => ?_⟩
  exact da P ι G σ S H ρ _ s e (post.bind fun us S1 ι1 G1 H1 vs p1 e1 s1 rv post1 => h Wx P ι1 G1 S1 H1 vs us σ Q s1 rv post1)
theorem pd_callTy {T : String} {x : Str} {p : Pos} {g : List U → Store → Res U} (hc : CallD X (.type T) g) (hm : X.mg x = none) (ha : PDA X Wx (e :: es) As) (hg : Gl X x := by rfl) (hv : bootBuiltins x = some (.type T) := by decide +kernel) (hn : x ≠ "__name__" := by decide) (hdb : (x == ("__debug__" : Str)) = false := by decide)
    (he : starEach (e :: es) X.env = (false, eval e X.env) :: starEach es X.env := by rfl) (hpl : (backTo pos (starEach es X.env)).any (·.1) = false := by rfl) : PD X Wx (.Call (.Name x p) (e :: es) [] pos) (fun ρ S => (As ρ S).bind g) := by
  obtain ⟨r, hr, h⟩ := hc
  obtain ⟨ta, pa, da⟩ := ha
  refine ⟨_, pe_callTy hr hg hm hv pa hn hdb he hpl, fun P ι G σ S H ρ Q s e post => ?_⟩
  exact da P ι G σ S H ρ _ s e (post.bind fun us S1 ι1 G1 H1 vs p1 e1 s1 rv post1 => h Wx P ι1 G1 S1 H1 vs us σ Q s1 rv post1)
end
end DL
set_option Elab.async false
set_option linter.all false
set_option maxRecDepth 100000
set_option maxHeartbeats 4000000
/-! ### rules of the data layer: targets, statements, loops, comprehensions -/
namespace DL
open PySem PySem.Spec PyProof.Rows L2
open He (ga ma)
open Evl (Ex)
open TL (tl)
/-! targets -/
def RT (K : PySem.W.Frag) (sl : List Nat) (σ : L2.St) : Rel Env L2.St := fun ι G σ' ρ' => RelE K ι G σ' ρ' ∧ σ'.length = σ.length ∧ ∀ i, i ∉ sl → σ'[i]? = σ[i]?
def DTg (K : PySem.W.Frag) (Wx : WX) (sl : List Nat) (g : TG) (T : U → Env → Store → Res Env) : Prop :=
  ∀ P ι G σ S H ρ v u Q, Sr K P ι G S H → RelE K ι G σ ρ → RU K ι G v u → Post (RT K sl σ) K Wx P ι G σ Q (T u ρ S) → g v σ H Q
def DTgs (K : PySem.W.Frag) (Wx : WX) (sl : List Nat) (g : TGs) (T : List U → Env → Store → Res Env) : Prop :=
  ∀ P ι G σ S H ρ vs us Q, Sr K P ι G S H → RelE K ι G σ ρ → RUs K ι G vs us → Post (RT K sl σ) K Wx P ι G σ Q (T us ρ S) → g vs σ H Q
/-- in Wx the slots do not matter -/
def NoSlot (Wx : WX) : Prop := ∀ c d σ σ' H, Wx c d σ H → Wx c d σ' H
def PDG (X : Cx) (Wx : WX) (tg : Expr) (sl : List Nat) (T : U → Env → Store → Res Env) : Prop := ∃ g, PG X tg g ∧ DTg X.K Wx sl g T
def PDGs (X : Cx) (Wx : WX) (tgs : List Expr) (sl : List Nat) (T : List U → Env → Store → Res Env) : Prop := ∃ g, PGs X tgs g ∧ DTgs X.K Wx sl g T
def tuple? (u : U) (S : Store) : Res (List U) := match u with
  | .d (.tup ds) => .ok (ds.map .d) S
  | _ => .bad
section
variable {X : Cx} {Wx : WX} {P : Hp} {pos : Pos}
theorem RT.refl {K : PySem.W.Frag} {ι : List Addr} {G : Hp} {σ : L2.St} {ρ : Env} {sl : List Nat} (h : RelE K ι G σ ρ) : RT K sl σ ι G σ ρ := ⟨h, rfl, fun _ _ => rfl⟩
theorem pdg_name {i : Nat} {x : Str} (hN : X.N.Nodup) (hi : X.N[i]? = some x) (hx : Loc X.env.scope x) (hf : X.fn x = true ∨ X.env.scope.names.lookup x = some .local := by first | exact .inl rfl | exact .inr rfl | assumption) : PDG X Wx (.Name x pos) [i] (fun u ρ S => .ok (ρ.set i (some u)) S) := by
  refine ⟨_, pg_name hN hi hx hf, fun P ι G σ S H ρ v u Q s e r post => ?_⟩
  refine post.ok s ⟨paired_set (show RO X.K ι G (some v) (some u) from r) i e, List.length_set, fun j hj => ?_⟩
  rw [List.getElem?_set_ne (by intro z; subst z; exact hj List.mem_cons_self)]
theorem pdgs_nil : PDGs X Wx [] [] (fun us ρ S => match us with | [] => .ok ρ S | _ => .bad) := by
  refine ⟨_, pgs_nil, fun P ι G σ S H ρ vs us Q s e r post => ?_⟩
  cases r with
  | nil => exact ⟨rfl, post.ok s (RT.refl e)⟩
  | cons _ _ => exact post.elim
theorem pdgs_cons {e : Expr} {es : List Expr} {sl sl' : List Nat} {T : U → Env → Store → Res Env} {Ts : List U → Env → Store → Res Env} (hw : NoSlot Wx) (h1 : PDG X Wx e sl T) (h2 : PDGs X Wx es sl' Ts) (hs : (assignEach (e :: es) X.env).map (·.2) = assign e X.env :: (assignEach es X.env).map (·.2) := by rfl) :
    PDGs X Wx (e :: es) (sl ++ sl') (fun us ρ S => match us with | [] => .bad | u :: r => (T u ρ S).bind fun ρ S => Ts r ρ S) := by
  obtain ⟨g, pg, dg⟩ := h1
  obtain ⟨gs, pgs, dgs⟩ := h2
  refine ⟨_, pgs_cons pg pgs hs, fun P ι G σ S H ρ vs us Q s e r post => ?_⟩
  cases r with
  | nil => exact post.elim
  | cons r1 rr =>
    refine ⟨_, _, rfl, dg P ι G σ S H ρ _ _ _ s e r1 ?_⟩
    refine post.bind fun ρ1 S1 ι1 G1 H1 σ1 p1 e1 s1 rt post1 => ?_
    refine dgs P ι1 G1 σ1 S1 H1 ρ1 _ _ _ s1 rt.1 (RUs.up p1 e1 rr) ?_
    -- the slots of the end
    have : ∀ {r : Res Env}, Post (RT X.K (sl ++ sl') σ) X.K Wx P ι1 G1 σ Q r → Post (RT X.K sl' σ1) X.K Wx P ι1 G1 σ1 Q r := by
      intro r h
      cases r with
      | ok a S2 =>
        intro ι2 G2 H2 σ2 p2 e2 s2 rt2
        refine h ι2 G2 H2 σ2 p2 e2 s2 ⟨rt2.1, rt2.2.1.trans rt.2.1, fun i hi => ?_⟩
        rw [rt2.2.2 i fun z => hi (List.mem_append_right _ z), rt.2.2 i fun z => hi (List.mem_append_left _ z)]
      | err c fs S2 => exact fun ι2 G2 H2 od p2 e2 s2 ea => hw _ _ _ _ _ (h ι2 G2 H2 od p2 e2 s2 ea)
      | bad => exact h
    exact this post1
theorem pdg_tup {es : List Expr} {k : Nat} {n : Nat} {sl : List Nat} {Ts : List U → Env → Store → Res Env} (hc : X.calm = true) (h : PDGs X Wx es sl Ts) (hn : (assignEach es X.env).length = n := by rfl) (hst : (assignEach es X.env).findIdx? (·.1) = none := by rfl) :
    PDG X Wx (.Tuple es k pos) sl (fun u ρ S => (tuple? u S).bind fun us S => if us.length = n then Ts us ρ S else .bad) := by
  obtain ⟨g, pg, dg⟩ := h
  refine ⟨_, pg_tup hc pg hn hst, fun P ι G σ S H ρ v u Q s e r post => ?_⟩
  match u, r, post with
  | .d (.tup ds), r, post =>
    cases r with
    | tup h1 h2 =>
      have h3 := h2.us (ι := ι)
      have post' : Post (RT X.K sl σ) X.K Wx P ι G σ Q (if (ds.map U.d).length = n then Ts (ds.map .d) ρ S else .bad) := post
      split at post'
      · rename_i hl
        exact ⟨_, _, rfl, Evl.ex_t s.ex h1, by rw [paired_len h3]; exact hl, dg P ι G σ S H ρ _ _ _ s e h3 post'⟩
      · exact post'.elim
/-! statements -/
def Fl.seq (f : Fl) (k : Env → Store → Fl) : Fl := match f with
  | .nx ρ S => k ρ S
  | f => f
variable {e c : Expr} {A : Env → Store → Res U} {At : Env → Store → Res Bool} {st : Stmt} {sts sts' : List Stmt} {B B' : Env → Store → Fl}
theorem pdss_nil : PDSs X Wx [] (fun ρ S => .nx ρ S) := ⟨_, pss_nil, fun P ι G σ S H ρ E s e post => post ι G σ H (List.prefix_refl _) (Ex.refl _) s e⟩
theorem pdss_one (h : PDS X Wx st B) : PDSs X Wx [st] B := by
  obtain ⟨t, p, d⟩ := h
  exact ⟨_, pss_one p, d⟩
theorem seq_ok {K : PySem.W.Frag} {t u : TS} (d1 : DS K Wx t B) (d2 : DS K Wx u B') : DS K Wx (tSeq t u) (fun ρ S => (B ρ S).seq B') := by
  intro P ι G σ S H ρ E s e post
  refine d1 P ι G σ S H ρ _ s e ?_
  have : ∀ {f : Fl}, PostS K Wx P ι G E (f.seq B') → PostS K Wx P ι G { E with nx := u E } f := by
    intro f h
    cases f with
    | nx ρ1 S1 => exact fun ι1 G1 σ1 H1 p1 e1 s1 r1 => d2 P ι1 G1 σ1 S1 H1 ρ1 E s1 r1 (PostS.up p1 e1 h)
    | rt _ _ => exact h
    | bk _ _ => exact h
    | ct _ _ => exact h
    | err _ _ _ _ => exact h
    | bad => exact h
  exact this post
theorem pdss_cons (h1 : PDS X Wx st B) (h2 : PDSs X Wx sts B') : PDSs X Wx (st :: sts) (fun ρ S => (B ρ S).seq B') := by
  obtain ⟨t, p, d⟩ := h1
  obtain ⟨u, q, d2⟩ := h2
  exact ⟨_, pss_cons p q, seq_ok d d2⟩
theorem pds_pass : PDS X Wx (.Pass pos) (fun ρ S => .nx ρ S) := ⟨_, ps_pass, fun P ι G σ S H ρ E s e post => post ι G σ H (List.prefix_refl _) (Ex.refl _) s e⟩
theorem pds_break : PDS X Wx (.Break pos) (fun ρ S => .bk ρ S) := ⟨_, ps_break, fun P ι G σ S H ρ E s e post => post ι G σ H (List.prefix_refl _) (Ex.refl _) s e⟩
theorem pds_continue : PDS X Wx (.Continue pos) (fun ρ S => .ct ρ S) := ⟨_, ps_continue, fun P ι G σ S H ρ E s e post => post ι G σ H (List.prefix_refl _) (Ex.refl _) s e⟩
theorem pds_expr (h : PD X Wx e A) (hs : swapsWith e none pos.line X.env = pure false := by rfl) : PDS X Wx (.Expr e pos) (fun ρ S => (A ρ S).fl ρ fun _ S => .nx ρ S) := by
  obtain ⟨t, p, d⟩ := h
  refine ⟨_, ps_expr p hs, fun P ι G σ S H ρ E s e post => ?_⟩
  exact d P ι G σ S H ρ _ s e (Post.fl e post fun u S1 ι1 G1 H1 v p1 e1 s1 rv r1 post1 => post1 ι1 G1 σ H1 (List.prefix_refl _) (Ex.refl _) s1 r1)
theorem pds_doc {x : Str} {j : Nat} {pos' : Pos} : PDS X Wx (.Expr (.Constant (.str x) j pos) pos') (fun ρ S => .nx ρ S) := ⟨_, ps_doc, fun P ι G σ S H ρ E s e post => post ι G σ H (List.prefix_refl _) (Ex.refl _) s e⟩
theorem pds_ret (h : PD X Wx e A) : PDS X Wx (.Return (some e) pos) (fun ρ S => (A ρ S).fl ρ fun u S => .rt u S) := by
  obtain ⟨t, p, d⟩ := h
  refine ⟨_, ps_ret p, fun P ι G σ S H ρ E s e post => ?_⟩
  exact d P ι G σ S H ρ _ s e (Post.fl e post fun u S1 ι1 G1 H1 v p1 e1 s1 rv r1 post1 => post1 ι1 G1 H1 v (List.prefix_refl _) (Ex.refl _) s1 rv)
theorem pds_retN : PDS X Wx (.Return none pos) (fun ρ S => .rt (.d .non) S) := ⟨_, ps_retN, fun P ι G σ S H ρ E s e post => post ι G H .non (List.prefix_refl _) (Ex.refl _) s .non⟩
theorem pds_if (hc : PDT X Wx c At) (ha : PDSs X Wx sts B) (hb : PDSs X Wx sts' B') : PDS X Wx (.If c sts sts' pos) (fun ρ S => (At ρ S).fl ρ fun k S => if k = true then B ρ S else B' ρ S) := by
  obtain ⟨tc, pc, dc⟩ := hc
  obtain ⟨ta, pa, da⟩ := ha
  obtain ⟨tb, pb, db⟩ := hb
  refine ⟨_, ps_if pc pa pb, fun P ι G σ S H ρ E s e post => ?_⟩
  refine dc P ι G σ S H ρ _ s e (Post.fl e post fun k S1 ι1 G1 H1 v p1 e1 s1 rv r1 post1 => ?_)
  cases rv
  cases k with
  | true => rw [if_pos rfl] at post1 ⊢; exact da P ι1 G1 σ S1 H1 ρ E s1 r1 post1
  | false => rw [if_neg Bool.false_ne_true] at post1 ⊢; exact db P ι1 G1 σ S1 H1 ρ E s1 r1 post1
theorem tg_fl {K : PySem.W.Frag} {sl : List Nat} {ι : List Addr} {G : Hp} {σ : L2.St} {ρ : Env} {E : Ends} {r : Res Env} {k : Env → Store → Fl} {Q : L2.St → Hp → Prop} (hρ : RelE K ι G σ ρ) (h : PostS K Wx P ι G E (r.fl ρ k))
    (f : ∀ ρ1 S1 ι1 G1 H1 σ1, ι <+: ι1 → Ex G G1 → Sr K P ι1 G1 S1 H1 → RelE K ι1 G1 σ1 ρ1 → PostS K Wx P ι1 G1 E (k ρ1 S1) → Q σ1 H1) : Post (RT K sl σ) K Wx P ι G σ Q r :=
  Post.fl hρ h fun ρ1 S1 ι1 G1 H1 σ1 p1 e1 s1 rt r1 post1 => f ρ1 S1 ι1 G1 H1 σ1 p1 e1 s1 rt.1 post1
theorem pds_asg {tg : Expr} {sl : List Nat} {T : U → Env → Store → Res Env} (he : PD X Wx e A) (hg : PDG X Wx tg sl T) (hs : swapsWithSole [tg] e pos.line X.env = pure false := by rfl) (hw : swappedStores [tg] e X.env = pure none := by rfl)
    (h1 : (assignEach [tg] X.env).map (·.2) = [assign tg X.env] := by rfl) : PDS X Wx (.Assign [tg] e pos) (fun ρ S => (A ρ S).fl ρ fun u S => (T u ρ S).fl ρ fun ρ S => .nx ρ S) := by
  obtain ⟨t, p, d⟩ := he
  obtain ⟨g, pg, dg⟩ := hg
  refine ⟨_, ps_asg p pg hs hw h1, fun P ι G σ S H ρ E s e post => ?_⟩
  refine d P ι G σ S H ρ _ s e (Post.fl e post fun u S1 ι1 G1 H1 v p1 e1 s1 rv r1 post1 => ?_)
  exact dg P ι1 G1 σ S1 H1 ρ v u _ s1 r1 rv (tg_fl r1 post1 fun ρ2 S2 ι2 G2 H2 σ2 p2 e2 s2 r2 post2 => post2 ι2 G2 σ2 H2 (List.prefix_refl _) (Ex.refl _) s2 r2)
theorem pds_set {i : Nat} {x : Str} {pos' : Pos} (hN : X.N.Nodup) (hi : X.N[i]? = some x) (hx : Loc X.env.scope x) (he : PD X Wx e A) (hs : swapsWith e (some (.Name x pos')) pos.line X.env = pure false := by rfl) (hf : X.fn x = true ∨ X.env.scope.names.lookup x = some .local := by first | exact .inl rfl | exact .inr rfl | assumption) :
    PDS X Wx (.Assign [.Name x pos'] e pos) (fun ρ S => (A ρ S).fl ρ fun u S => .nx (ρ.set i (some u)) S) := by
  obtain ⟨t, p, d⟩ := he
  refine ⟨_, ps_set hN hi hx p hs hf, fun P ι G σ S H ρ E s e post => ?_⟩
  exact d P ι G σ S H ρ _ s e (Post.fl e post fun u S1 ι1 G1 H1 v p1 e1 s1 rv r1 post1 => post1 ι1 G1 _ H1 (List.prefix_refl _) (Ex.refl _) s1 (paired_set (show RO X.K ι1 G1 (some v) (some u) from rv) i r1))
theorem pds_par {i j : Nat} {x y : Str} {a b : Expr} {As : Env → Store → Res (List U)} {px py pt : Pos} {kt k2 pt2} (hc : X.calm = true) (hN : X.N.Nodup) (hi : X.N[i]? = some x) (hj : X.N[j]? = some y) (hij : i ≠ j) (hx : X.env.scope.names.lookup x = some .local) (hy : X.env.scope.names.lookup y = some .local)
    (ha : PDA X Wx [a, b] As) (h : ∀ {t : TA}, PA X [a, b] t → PS X (.Assign [.Tuple [.Name x px, .Name y py] kt pt] (.Tuple [a, b] k2 pt2) pos) (tPar i j t)) :
    PDS X Wx (.Assign [.Tuple [.Name x px, .Name y py] kt pt] (.Tuple [a, b] k2 pt2) pos) (fun ρ S => (As ρ S).fl ρ fun us S => match us with | [u, w] => .nx ((ρ.set i (some u)).set j (some w)) S | _ => .bad) := by
  obtain ⟨t, p, d⟩ := ha
  refine ⟨_, h p, fun P ι G σ S H ρ E s e post => ?_⟩
  refine d P ι G σ S H ρ _ s e (Post.fl e post fun us S1 ι1 G1 H1 vs p1 e1 s1 rv r1 post1 => ?_)
  cases rv with
  | nil => exact post1.elim
  | cons ra rr => cases rr with
    | nil => exact post1.elim
    | cons rb rr => cases rr with
      | nil => exact ⟨_, _, rfl, post1 ι1 G1 _ H1 (List.prefix_refl _) (Ex.refl _) s1 (paired_set (show RO X.K ι1 G1 (some _) (some _) from rb) j (paired_set (show RO X.K ι1 G1 (some _) (some _) from ra) i r1))⟩
      | cons _ _ => exact post1.elim
end
/-! what is walked -/
structure Iter where
  us : List U
  g : Option (Nat × List U)
def gOk (S : Store) : Option (Nat × List U) → Prop
  | none => True
  | some (n, us) => S[n]? = some (.lst us)
def GW (K : PySem.W.Frag) (ι : List Addr) (G : Hp) (J : It) (it : Iter) : Prop := ∃ (Gd : Hp → Prop) (Y : Nat → Hp → V → Hp → Prop), Walk J it.us.length Gd Y ∧
  (∀ P' ι' G' S' H', ι <+: ι' → Ex G G' → Sr K P' ι' G' S' H' → gOk S' it.g → Gd H') ∧
  (∀ i H x H', i < it.us.length → Y i H x H' → ∀ P' ι' G' S', ι <+: ι' → Ex G G' → Sr K P' ι' G' S' H → gOk S' it.g → ∃ G'' u, Ex G' G'' ∧ Sr K P' ι' G'' S' H' ∧ it.us[i]? = some u ∧ RU K ι' G'' x u)
def RI (K : PySem.W.Frag) : Rel Iter It := fun ι G J it => GW K ι G J it
def PDI (X : Cx) (Wx : WX) (tg iter : Expr) (F : Env → Store → Res Iter) : Prop := ∃ w, PI X tg iter w ∧ DG (RI X.K) X.K Wx w F
def iterU (u : U) (S : Store) : Res Iter := match u with
  | .d (.tup ds) => .ok ⟨ds.map .d, none⟩ S
  | .d (.lst ds) => .ok ⟨ds.map .d, none⟩ S
  | .d (.str z) => .ok ⟨(tl z).map fun c => .d (.str ⟨#[c]⟩), none⟩ S
  | .r n => match S[n]? with
    | some (.lst us) => .ok ⟨us, some (n, us)⟩ S
    | _ => .bad
  | _ => .bad
def enumF (ds : List D) : List U := ds.zipIdx.map fun p => .d (.tup [.int (p.2 : Nat), p.1])
def enumU (u : U) (S : Store) : Res Iter := match u with
  | .d (.tup ds) => .ok ⟨enumF ds, none⟩ S
  | .d (.lst ds) => .ok ⟨enumF ds, none⟩ S
  | .r n => match S[n]? with
    | some (.lst us) => match allD us with
      | some ds => .ok ⟨enumF ds, some (n, us)⟩ S
      | none => .bad
    | _ => .bad
  | _ => .bad
def rangeF (lo : Int) (n : Nat) : List U := (List.range n).map fun i => .d (.int (lo + (i : Nat)))
def range1 (us : List U) (S : Store) : Res Iter := match us with
  | [.d (.int j)] => if -(2 ^ 62) ≤ j ∧ j < 2 ^ 62 then .ok ⟨rangeF 0 j.toNat, none⟩ S else .bad
  | _ => .bad
def range2 (us : List U) (S : Store) : Res Iter := match us with
  | [.d (.int i), .d (.int j)] => if -(2 ^ 62) ≤ i ∧ i < 2 ^ 62 ∧ -(2 ^ 62) ≤ j ∧ j < 2 ^ 62 then .ok ⟨rangeF i (j - i).toNat, none⟩ S else .bad
  | _ => .bad
section
variable {X : Cx} {Wx : WX} {P : Hp} {pos : Pos} {tg a b : Expr} {A : Env → Store → Res U} {As : Env → Store → Res (List U)}
def iAny (K : PySem.W.Frag) (te : TE) : TI := fun σ H R => te σ H fun x H1 => (∃ a, x = .ref a ∧ (∃ xs, SqL K H1 a xs) ∧ R (Itl K a) H1) ∨ (∃ a, x = .ref a ∧ (∃ xs, SqT K H1 a xs) ∧ R (Itt K a) H1) ∨ (∃ z, x = .str z ∧ R (Its z) H1)
theorem pi_any {l : Expr} {tl : TE} (hl : PE X l tl) : PI X tg l (iAny X.K tl) := by
  refine ⟨fun pins s σ H R I h => ?_⟩
  refine thn (hl.run pins s σ H _ I h) fun v s1 ⟨x, H1, I1, r1, q1⟩ => ?_
  rcases q1 with ⟨a, e, ⟨xs, hq⟩, q⟩ | ⟨a, e, ⟨xs, hq⟩, q⟩ | ⟨z, e, q⟩
  · subst e
    cases r1
    obtain ⟨its, rv, p, hz⟩ := I1.list hq
    exact wpAny_pyIter_list p.isList (pi_one (tk := s1.toks) I1 _ (turn_list a _) ⟨_, Heap.get?_push_size _ rfl, rfl, rfl⟩ q)
  · subst e
    cases r1
    obtain ⟨its, rv, p, hz⟩ := I1.tuple hq
    exact wpAny_pyIter_tuple (show s1.heap.IsTuple a its.toArray from p) (pi_one (tk := s1.toks) I1 _ (turn_tuple a _) ⟨_, Heap.get?_push_size _ rfl, rfl, rfl⟩ q)
  · subst e
    obtain ⟨t, rfl⟩ := r1
    cases ha : z.cps.all (· < 128)
    · exact wpAny_pyIter_wide ha (pi_one (tk := s1.toks) I1 _ (turn_str _ z t "str_iterator" (.inr rfl)) ⟨_, Heap.get?_push_size _ rfl, rfl, rfl⟩ q)
    · exact wpAny_pyIter_ascii ha (pi_one (tk := s1.toks) I1 _ (turn_str _ z t "str_ascii_iterator" (.inl rfl)) ⟨_, Heap.get?_push_size _ rfl, rfl, rfl⟩ q)
theorem gw_list {K : PySem.W.Frag} {ι : List Addr} {G : Hp} {a : Addr} {xs : List V} {us : List U} (h : SqL K G a xs) (r : RUs K ι G xs us) : GW K ι G (Itl K a) ⟨us, none⟩ := by
  refine ⟨_, _, (paired_len r ▸ walk_list (xs := xs)), fun P' ι' G' S' H' p e s _ => Evl.ex_l (e.trans s.ex) h, ?_⟩
  rintro i H x H' hi ⟨rfl, hx⟩ P' ι' G' S' p e s _
  obtain ⟨u, hu, ru⟩ := paired_get' r hx
  exact ⟨G', u, Ex.refl _, s, hu, ru.up p e⟩
theorem gw_tup {K : PySem.W.Frag} {ι : List Addr} {G : Hp} {a : Addr} {xs : List V} {us : List U} (h : SqT K G a xs) (r : RUs K ι G xs us) : GW K ι G (Itt K a) ⟨us, none⟩ := by
  refine ⟨_, _, (paired_len r ▸ walk_tup (xs := xs)), fun P' ι' G' S' H' p e s _ => Evl.ex_t (e.trans s.ex) h, ?_⟩
  rintro i H x H' hi ⟨rfl, hx⟩ P' ι' G' S' p e s _
  obtain ⟨u, hu, ru⟩ := paired_get' r hx
  exact ⟨G', u, Ex.refl _, s, hu, ru.up p e⟩
theorem gw_cell {K : PySem.W.Frag} {ι : List Addr} {G : Hp} {n : Nat} {a : Addr} {us : List U} {xs : List V} (hn : ι[n]? = some a) (r : RUs K ι G xs us) (h0 : ∀ P' ι' G' S' H', ι <+: ι' → Ex G G' → Sr K P' ι' G' S' H' → S'[n]? = some (.lst us) → ∃ ys, H' a = some (.lst ys) ∧ RUs K ι' G' ys us) : GW K ι G (Itl K a) ⟨us, some (n, us)⟩ := by
  refine ⟨fun H => ∃ ys : List V, SqL K H a ys ∧ ys.length = us.length, fun i H x H' => H' = H ∧ ∀ ys, SqL K H a ys → ys[i]? = some x, ⟨?_, ?_, ?_⟩, ?_, ?_⟩
  · rintro i H hi ⟨ys, hq, hl⟩
    have hi' : i < ys.length := by rw [hl]; exact hi
    exact ⟨ys, ys[i], hq, List.getElem?_eq_getElem hi'⟩
  · rintro H ⟨ys, hq, hl⟩
    exact ⟨ys, hq, by rw [hl]; exact Nat.le_refl _⟩
  · rintro i H x H' _ _ y
    exact y
  · intro P' ι' G' S' H' p e s g
    obtain ⟨ys, h1, h2⟩ := h0 P' ι' G' S' H' p e s g
    exact ⟨ys, SqL.of h1, paired_len h2⟩
  · rintro i H x H' hi ⟨rfl, hx⟩ P' ι' G' S' p e s g
    obtain ⟨ys, h1, h2⟩ := h0 P' ι' G' S' _ p e s g
    obtain ⟨u, hu, ru⟩ := paired_get' h2 (hx ys (SqL.of h1))
    exact ⟨G', u, Ex.refl _, s, hu, ru⟩
theorem gw_str {K : PySem.W.Frag} {ι : List Addr} {G : Hp} (z : Str) : GW K ι G (Its z) ⟨(tl z).map fun c => .d (.str ⟨#[c]⟩), none⟩ := by
  refine ⟨fun _ => True, (fun i H v H' => H' = H ∧ ∃ c, z.cps[i]? = some c ∧ v = .str ⟨#[c]⟩), ?_, fun _ _ _ _ _ _ _ _ _ => trivial, ?_⟩
  · have hl : ((tl z).map fun c => U.d (.str ⟨#[c]⟩)).length = z.cps.size := by rw [List.length_map, size_tl]
    show Walk (Its z) ((tl z).map fun c => U.d (.str ⟨#[c]⟩)).length _ _
    rw [hl]
    exact walk_str
  · rintro i H x H' hi ⟨rfl, c, hc, rfl⟩ P' ι' G' S' p e s _
    refine ⟨G', .d (.str ⟨#[c]⟩), Ex.refl _, s, ?_, Rv.str _⟩
    show ((tl z).map fun c => U.d (.str ⟨#[c]⟩))[i]? = _
    rw [List.getElem?_map, str_at hc]
    rfl
theorem pdi_any (ha : PD X Wx a A) : PDI X Wx tg a (fun ρ S => (A ρ S).bind iterU) := by
  obtain ⟨ta, pa, da⟩ := ha
  refine ⟨_, pi_any pa, fun P ι G σ S H ρ Q s e post => ?_⟩
  refine da P ι G σ S H ρ _ s e (post.bind fun x S1 ι1 G1 H1 v p1 e1 s1 rv post1 => ?_)
  match x, rv, post1 with
  | .d (.tup ds), rv, post1 =>
    cases rv with
    | tup h1 h2 => exact .inr (.inl ⟨_, rfl, ⟨_, Evl.ex_t s1.ex h1⟩, post1.ok s1 (gw_tup h1 h2.us)⟩)
  | .d (.lst ds), rv, post1 =>
    cases rv with
    | lst h1 h2 => exact .inl ⟨_, rfl, ⟨_, Evl.ex_l s1.ex h1⟩, post1.ok s1 (gw_list h1 h2.us)⟩
  | .d (.str z), rv, post1 =>
    cases rv
    exact .inr (.inr ⟨z, rfl, post1.ok s1 (gw_str z)⟩)
  | .r n, ⟨p, hn, hv⟩, post1 =>
    subst hv
    simp only [iterU] at post1
    split at post1
    · rename_i us hc
      obtain ⟨_, vs, h1, h2⟩ := s1.at_ n _ p hc hn
      refine .inl ⟨_, rfl, ⟨_, SqL.of h1⟩, post1.ok s1 (gw_cell hn h2 fun P' ι' G' S' H' pp e' s' g => ?_)⟩
      obtain ⟨_, ys, h3, h4⟩ := s'.at_ n _ p g (pre_get pp hn)
      exact ⟨ys, h3, h4⟩
    · exact post1.elim
  | .d .non, _, post1 => exact post1.elim
  | .d (.bl _), _, post1 => exact post1.elim
  | .d (.int _), _, post1 => exact post1.elim
  | .d (.obj _ _), _, post1 => exact post1.elim
theorem gw_range {K : PySem.W.Frag} {ι : List Addr} {G : Hp} (lo : Int) (n : Nat) : GW K ι G (Itr lo n) ⟨rangeF lo n, none⟩ := by
  refine ⟨fun _ => True, YFn fun i => .int (lo + i), ?_, fun _ _ _ _ _ _ _ _ _ => trivial, ?_⟩
  · show Walk (Itr lo n) (rangeF lo n).length _ _
    unfold rangeF
    rw [List.length_map, List.length_range]
    exact walk_range
  · rintro i H x H' hi ⟨rfl, rfl⟩ P' ι' G' S' p e s _
    refine ⟨G', .d (.int (lo + (i : Nat))), Ex.refl _, s, ?_, Rv.int _⟩
    have hi' : i < n := by
      have : i < (rangeF lo n).length := hi
      unfold rangeF at this
      rw [List.length_map, List.length_range] at this
      exact this
    show (rangeF lo n)[i]? = _
    unfold rangeF
    rw [List.getElem?_map, List.getElem?_range hi']
    rfl
theorem pdi_range1 {p : Pos} (hm : X.mg "range" = none) (ha : PDA X Wx [a] As) (hg : Gl X "range" := by rfl) (hs : starEach [a] X.env = [(false, eval a X.env)] := by rfl) : PDI X Wx tg (.Call (.Name "range" p) [a] [] pos) (fun ρ S => (As ρ S).bind range1) := by
  obtain ⟨ta, pa, da⟩ := ha
  refine ⟨_, pi_range1 hg hm pa hs, fun P ι G σ S H ρ Q s e post => ?_⟩
  refine da P ι G σ S H ρ _ s e (post.bind fun us S1 ι1 G1 H1 vs p1 e1 s1 rv post1 => ?_)
  match us, rv, post1 with
  | [.d (.int j)], rv, post1 =>
    cases rv with
    | cons r1 rr =>
      cases rr
      cases r1
      simp only [range1] at post1
      split at post1
      · rename_i hj
        exact ⟨j, rfl, hj.1, hj.2, post1.ok s1 (gw_range 0 _)⟩
      · exact post1.elim
theorem pdi_range2 {p : Pos} (hm : X.mg "range" = none) (ha : PDA X Wx [a, b] As) (hg : Gl X "range" := by rfl) (hs : starEach [a, b] X.env = [(false, eval a X.env), (false, eval b X.env)] := by rfl) (hs2 : starEach [b] X.env = [(false, eval b X.env)] := by rfl) : PDI X Wx tg (.Call (.Name "range" p) [a, b] [] pos) (fun ρ S => (As ρ S).bind range2) := by
  obtain ⟨ta, pa, da⟩ := ha
  refine ⟨_, pi_range2 hg hm pa hs hs2, fun P ι G σ S H ρ Q s e post => ?_⟩
  refine da P ι G σ S H ρ _ s e (post.bind fun us S1 ι1 G1 H1 vs p1 e1 s1 rv post1 => ?_)
  match us, rv, post1 with
  | [.d (.int i), .d (.int j)], rv, post1 =>
    cases rv with
    | cons r1 rr =>
      cases rr with
      | cons r2 rr =>
        cases rr
        cases r1
        cases r2
        simp only [range2] at post1
        split at post1
        · rename_i hj
          exact ⟨i, j, rfl, hj, post1.ok s1 (gw_range i _)⟩
        · exact post1.elim
theorem enum_at {ds : List D} {i : Nat} {d : D} (h : ds[i]? = some d) : (enumF ds)[i]? = some (.d (.tup [.int (i : Nat), d])) := by
  unfold enumF
  rw [List.getElem?_map, List.getElem?_zipIdx, h]
  simp
theorem gw_enum {K : PySem.W.Frag} {ι : List Addr} {G : Hp} {J : It} {Gd : Hp → Prop} {xs : List V} {ds : List D} {g : Option (Nat × List U)} (wk : Walk J xs.length Gd (YPair (fun i => some (.int (i : Nat))) (fun i => xs[i]?))) (r : RvAll K G xs ds)
    (hg : ∀ P' ι' G' S' H', ι <+: ι' → Ex G G' → Sr K P' ι' G' S' H' → gOk S' g → Gd H') : GW K ι G J ⟨enumF ds, g⟩ := by
  have hl : (enumF ds).length = xs.length := by
    unfold enumF
    rw [List.length_map, List.length_zipIdx, paired_len r.pair]
  refine ⟨Gd, YPair (fun i => some (.int (i : Nat))) (fun i => xs[i]?), ?_, hg, ?_⟩
  · show Walk J (enumF ds).length Gd _
    rw [hl]
    exact wk
  · rintro i H v H' hi ⟨T, x, y, rfl, hT, rfl, h1, h2⟩ P' ι' G' S' p e s _
    obtain rfl := Option.some.inj h1
    obtain ⟨d, hd, rd⟩ := paired_get' r.pair h2
    exact ⟨_, _, s.exN hT, s.new hT, enum_at hd, .tup (SqT.of upd_same) (.cons (.int _) (.cons (rd.ex (e.trans (s.exN hT))) .nil))⟩
theorem gw_enumC {K : PySem.W.Frag} {ι : List Addr} {G : Hp} {n : Nat} {a : Addr} {ds : List D} (h0 : ∀ P' ι' G' S' H', ι <+: ι' → Ex G G' → Sr K P' ι' G' S' H' → S'[n]? = some (.lst (ds.map .d)) → ∃ ys, H' a = some (.lst ys) ∧ RUs K ι' G' ys (ds.map .d)) : GW K ι G (Ite K a) ⟨enumF ds, some (n, ds.map .d)⟩ := by
  have hl : (enumF ds).length = ds.length := by unfold enumF; rw [List.length_map, List.length_zipIdx]
  refine ⟨fun H => ∃ ys : List V, SqL K H a ys ∧ ys.length = ds.length, fun i H v H' => ∃ T x, v = .ref T ∧ H T = none ∧ H' = upd H T (.tup [.int (i : Nat), x]) ∧ ∀ xs, SqL K H a xs → xs[i]? = some x, ⟨?_, ?_, ?_⟩, ?_, ?_⟩
  · rintro i H hi ⟨ys, hq, hy⟩
    have hi' : i < ys.length := by rw [hy, ← hl]; exact hi
    exact ⟨ys, ys[i], hq, List.getElem?_eq_getElem hi'⟩
  · rintro H ⟨ys, hq, hy⟩
    exact ⟨ys, hq, by rw [hy]; exact Nat.le_of_eq hl.symm⟩
  · rintro i H x H' _ _ y
    exact y
  · intro P' ι' G' S' H' p e s g
    obtain ⟨ys, h1, h2⟩ := h0 P' ι' G' S' H' p e s g
    exact ⟨ys, SqL.of h1, by rw [paired_len h2, List.length_map]⟩
  · rintro i H x H' hi ⟨T, y, rfl, hT, rfl, hy⟩ P' ι' G' S' p e s g
    obtain ⟨ys, h1, h2⟩ := h0 P' ι' G' S' _ p e s g
    obtain ⟨u, hu, ru⟩ := paired_get' h2 (hy ys (SqL.of h1))
    rw [List.getElem?_map] at hu
    cases hd : ds[i]? with
    | none => rw [hd] at hu; cases hu
    | some d =>
      rw [hd] at hu
      obtain rfl := Option.some.inj hu
      exact ⟨_, _, s.exN hT, s.new hT, enum_at hd, .tup (SqT.of upd_same) (.cons (.int _) (.cons (ru.ex (s.exN hT)) .nil))⟩
def iEnumC (K : PySem.W.Frag) (ta : TA) : TI := fun σ H R => ta σ H fun vs H1 => (∃ a xs b, vs = [.ref a] ∧ SqB K b H1 a xs ∧ ∀ (J : It) (G : Hp → Prop), (∀ H', SqB K b H' a xs → G H') → Walk J xs.length G (YPair (fun i => some (.int (i : Nat))) (fun i => xs[i]?)) → R J H1) ∨ ∃ a xs, vs = [.ref a] ∧ SqL K H1 a xs ∧ R (Ite K a) H1
theorem pi_enumC {X : Cx} {e : Expr} {ta : TA} {p pos tpos : Pos} {elts : List Expr} {kk : Nat} (hg : Gl X "enumerate") (hm : X.mg "enumerate" = none) (ha : PA X [e] ta) (hs : starEach [e] X.env = [(false, eval e X.env)] := by rfl) :
    PI X (.Tuple elts kk tpos) (.Call (.Name "enumerate" p) [e] [] pos) (iEnumC X.K ta) := by
  refine ⟨fun pins s σ H R I h => ?_⟩
  refine Call_ (ld_blt I hg hm boot_enumerate (PyProof.Rows.callWith_type1 (thn (ha.run pos pins s σ H _ I h) fun us s1 ⟨vs, H1, I1, r1, q1⟩ => ?_) hs rfl))
  have low : ∀ b, b ∈ [s1.heap.objs.size + 1, s1.heap.objs.size] → s1.heap.objs.size ≤ b := fun b hb => by
    have e' : b = s1.heap.objs.size + 1 ∨ b = s1.heap.objs.size := by simpa using hb
    rcases e' with z | z <;> rw [z] <;> omega
  have lists : ∀ (a : Addr) (v : Value) (xs : List V), RelV (.ref a) v → SqL X.K H1 a xs → R (Ite X.K a) H1 → wpAny (model X.prog X.w) X.A (call (.type "enumerate") [v]) (fun v s => wpAny (model X.prog X.w) X.A (pyIter v) (PIE X pins σ (.Tuple elts kk tpos) R) X.xe s) X.xe s1 := fun a v xs r hq q => by
    cases (show v = Value.ref a from r)
    obtain ⟨its, rv, p', hz⟩ := I1.list hq
    refine call_enumerate_list p'.isList fun h' he hit hsz hk => wpAny_pyIter_enum he ?_
    have I2 : Inv X pins σ H1 { s1 with heap := h' } := I1.kept (t' := s1.toks) hk
    exact ⟨s1.heap.objs.size + 1, [s1.heap.objs.size + 1, s1.heap.objs.size], _, _, H1, rfl, I2, turn_enum a (s1.heap.objs.size + 1) s1.heap.objs.size, ⟨⟨.none, he⟩, hit, Nat.succ_ne_self _⟩, fun b hb => I1.fpOk (low b hb) (I1.hok.fresh (low b hb)), q⟩
  rcases q1 with ⟨a, xs, b, ex, hq, q⟩ | ⟨a, xs, ex, hq, q⟩
  · subst ex
    cases r1 with
    | cons r rr =>
      cases rr
      cases b
      rotate_left
      · exact lists a _ xs r hq (q (Ite X.K a) _ (fun H' h => h) walk_enum)
      · cases r
        replace q := q (Itet X.K a) _ (fun H' h => h) walk_enumT
        obtain ⟨its, rv, p', hz⟩ := I1.tuple hq
        have hlt : a < s1.heap.objs.size := by obtain ⟨o, ho, _⟩ := p'; exact Heap.lt_size ho
        refine WE.call_enum1 (begins_tuple a its.toArray) p' fun h' he hit hk => wpAny_pyIter_enum he ?_
        have I2 : Inv X pins σ H1 { s1 with heap := h' } := I1.kept (t' := s1.toks) hk
        exact ⟨s1.heap.objs.size + 1, [s1.heap.objs.size + 1, s1.heap.objs.size], _, _, H1, rfl, I2, turn_enumT a (s1.heap.objs.size + 1) s1.heap.objs.size (Nat.ne_of_lt (Nat.lt_succ_of_lt hlt)) (Nat.ne_of_lt hlt), ⟨⟨.none, he⟩, ⟨_, hit, rfl, rfl⟩, Nat.succ_ne_self _⟩, fun b hb => I1.fpOk (low b hb) (I1.hok.fresh (low b hb)), q⟩
  · subst ex
    cases r1 with
    | cons r rr =>
      cases rr
      exact lists a _ xs r hq q
def enumA (us : List U) (S : Store) : Res Iter := match us with
  | [u] => enumU u S
  | _ => .bad
theorem pdi_enum {p tpos : Pos} {elts : List Expr} {kk : Nat} (hm : X.mg "enumerate" = none) (ha : PDA X Wx [a] As) (hg : Gl X "enumerate" := by rfl) (hs : starEach [a] X.env = [(false, eval a X.env)] := by rfl) :
    PDI X Wx (.Tuple elts kk tpos) (.Call (.Name "enumerate" p) [a] [] pos) (fun ρ S => (As ρ S).bind enumA) := by
  obtain ⟨ta, pa, da⟩ := ha
  refine ⟨_, pi_enumC hg hm pa hs, fun P ι G σ S H ρ Q s e post => ?_⟩
  refine da P ι G σ S H ρ _ s e (post.bind fun us S1 ι1 G1 H1 vs p1 e1 s1 rv post1 => ?_)
  match us, rv, post1 with
  | [x], rv, post1 =>
    cases rv with
    | cons r1 rr =>
      cases rr
      match x, r1, post1 with
      | .d (.tup ds), r1, post1 =>
        cases r1 with
        | tup h1 h2 => exact .inl ⟨_, _, false, rfl, Evl.ex_t s1.ex h1, fun J G' hG wk => post1.ok s1 (gw_enum wk h2 fun P' ι' G2 S' H' p e s _ => hG H' (Evl.ex_t (e.trans s.ex) h1))⟩
      | .d (.lst ds), r1, post1 =>
        cases r1 with
        | lst h1 h2 => exact .inl ⟨_, _, true, rfl, Evl.ex_l s1.ex h1, fun J G' hG wk => post1.ok s1 (gw_enum wk h2 fun P' ι' G2 S' H' p e s _ => hG H' (Evl.ex_l (e.trans s.ex) h1))⟩
      | .d .non, _, post1 => exact post1.elim
      | .d (.bl _), _, post1 => exact post1.elim
      | .d (.int _), _, post1 => exact post1.elim
      | .d (.str _), _, post1 => exact post1.elim
      | .d (.obj _ _), _, post1 => exact post1.elim
      | .r n, ⟨p, hn, hv⟩, post1 =>
        subst hv
        simp only [enumA, enumU] at post1
        split at post1
        · rename_i us hc
          split at post1
          · rename_i ds hd
            obtain rfl := allD_eq hd
            obtain ⟨_, vs, h1, h2⟩ := s1.at_ n _ p hc hn
            refine .inr ⟨_, _, rfl, SqL.of h1, post1.ok s1 (gw_enumC fun P' ι' G' S' H' pp e' s' g => ?_)⟩
            obtain ⟨_, ys, h3, h4⟩ := s'.at_ n _ p g (pre_get pp hn)
            exact ⟨ys, h3, h4⟩
          · exact post1.elim
        · exact post1.elim
end
end DL
set_option Elab.async false
set_option linter.all false
set_option maxRecDepth 100000
set_option maxHeartbeats 4000000
/-! ### rules of the data layer: for, comprehensions, freezing -/
namespace DL
open PySem PySem.Spec PyProof.Rows L2
open He (ga ma)
open Evl (Ex)
open TL (tl)
open Classical in
noncomputable def gFl (g : Option (Nat × List U)) (S : Store) (x : Fl) : Fl := match g with
  | none => x
  | some (n, us) => if S[n]? = some (.lst us) then x else .bad
open Classical in
noncomputable def gRs {α : Type} (g : Option (Nat × List U)) (S : Store) (x : Res α) : Res α := match g with
  | none => x
  | some (n, us) => if S[n]? = some (.lst us) then x else .bad
noncomputable def forU (g : Option (Nat × List U)) (T : U → Env → Store → Res Env) (B : Env → Store → Fl) : List U → Env → Store → Fl
  | [], ρ, S => gFl g S (.nx ρ S)
  | u :: r, ρ, S => gFl g S ((T u ρ S).fl ρ fun ρ1 S1 => match B ρ1 S1 with
    | .nx ρ2 S2 => forU g T B r ρ2 S2
    | .ct ρ2 S2 => forU g T B r ρ2 S2
    | .bk ρ2 S2 => .nx ρ2 S2
    | f => f)
section
variable {X : Cx} {Wx : WX} {P : Hp} {pos : Pos}
theorem gFl_post {K : PySem.W.Frag} {ι : List Addr} {G : Hp} {E : Ends} {g : Option (Nat × List U)} {S : Store} {x : Fl} (h : PostS K Wx P ι G E (gFl g S x)) : gOk S g ∧ PostS K Wx P ι G E x := by
  unfold gFl at h
  split at h
  · exact ⟨trivial, h⟩
  · split at h
    · rename_i hc
      exact ⟨hc, h⟩
    · exact h.elim
theorem gRs_post {α β : Type} {R : Rel α β} {K : PySem.W.Frag} {ι : List Addr} {G : Hp} {σ : L2.St} {Q : β → Hp → Prop} {g : Option (Nat × List U)} {S : Store} {x : Res α} (h : Post R K Wx P ι G σ Q (gRs g S x)) : gOk S g ∧ Post R K Wx P ι G σ Q x := by
  unfold gRs at h
  split at h
  · exact ⟨trivial, h⟩
  · split at h
    · rename_i hc
      exact ⟨hc, h⟩
    · exact h.elim
theorem forU_ok {g : Option (Nat × List U)} {T : U → Env → Store → Res Env} {B : Env → Store → Fl} {us : List U} {ρ : Env} {S : Store} {K : PySem.W.Frag} {ι : List Addr} {G : Hp} {E : Ends} (h : PostS K Wx P ι G E (forU g T B us ρ S)) : gOk S g := by
  cases us with
  | nil => unfold forU at h; exact (gFl_post h).1
  | cons u r => unfold forU at h; exact (gFl_post h).1
theorem pds_for {tg iter : Expr} {body : List Stmt} {I : Env → Store → Res Iter} {sl : List Nat} {T : U → Env → Store → Res Env} {B : Env → Store → Fl} (hp : PassesOwn (model X.prog X.w) X.A X.env X.xe) (hc : X.calm = true) (hi : PDI X Wx tg iter I) (hg : PDG X Wx tg sl T) (hb : PDSs X Wx body B)
    (hs : ∀ x, foldedSetIterable iter X.env x = pure x := by intro _; rfl) : PDS X Wx (.For tg iter body [] pos) (fun ρ S => (I ρ S).fl ρ fun it S => forU it.g T B it.us ρ S) := by
  obtain ⟨w, pi, di⟩ := hi
  obtain ⟨g, pg, dg⟩ := hg
  obtain ⟨tb, pb, db⟩ := hb
  refine ⟨_, ps_for hp hc pi pg pb hs, fun P ι G σ S H ρ E s e post => ?_⟩
  refine di P ι G σ S H ρ _ s e (Post.fl e post fun it S1 ι1 G1 H1 J p1 e1 s1 gw r1 post1 => ?_)
  obtain ⟨Gd, Y, wk, hG, hY⟩ := gw
  refine for_it wk (fun i σ' H' => ∃ ι' G' S' ρ', ι1 <+: ι' ∧ Ex G1 G' ∧ Sr X.K P ι' G' S' H' ∧ RelE X.K ι' G' σ' ρ' ∧ PostS X.K Wx P ι' G' E (forU it.g T B (it.us.drop i) ρ' S')) ?_ ?_ ?_ ?_
  · exact ⟨ι1, G1, S1, ρ, List.prefix_refl _, Ex.refl _, s1, r1, post1⟩
  · rintro i σ' H' _ ⟨ι', G', S', ρ', p, e, s', r', post'⟩
    exact hG P ι' G' S' H' p e s' (forU_ok post')
  · rintro i x σ' H' H'' hi ⟨ι', G', S', ρ', p, e, s', r', post'⟩ y
    obtain ⟨G2, u, e2, s2, hu, ru⟩ := hY i H' x H'' hi y P ι' G' S' p e s' (forU_ok post')
    obtain ⟨hl, hu'⟩ := List.getElem?_eq_some_iff.mp hu
    rw [List.drop_eq_getElem_cons hl, hu'] at post'
    unfold forU at post'
    have post2 := PostS.up (List.prefix_refl _) e2 (gFl_post post').2
    have r2 := r'.up (List.prefix_refl _) e2
    refine dg P ι' G2 σ' S' H'' ρ' x u _ s2 r2 ru (tg_fl r2 post2 fun ρ3 S3 ι3 G3 H3 σ3 p3 e3 s3 r3 post3 => ?_)
    refine db P ι3 G3 σ3 S3 H3 ρ3 _ s3 r3 ?_
    have pp := p.trans p3
    have ee := (e.trans e2).trans e3
    generalize B ρ3 S3 = f at post3
    cases f with
    | nx ρ4 S4 => exact fun ι5 G5 σ5 H5 p5 e5 s5 r5 => ⟨ι5, G5, S4, ρ4, pp.trans p5, ee.trans e5, s5, r5, PostS.up p5 e5 post3⟩
    | ct ρ4 S4 => exact fun ι5 G5 σ5 H5 p5 e5 s5 r5 => ⟨ι5, G5, S4, ρ4, pp.trans p5, ee.trans e5, s5, r5, PostS.up p5 e5 post3⟩
    | bk ρ4 S4 => exact post3
    | rt _ _ => exact post3
    | err _ _ _ _ => exact post3
    | bad => exact post3
  · rintro σ' H' ⟨ι', G', S', ρ', p, e, s', r', post'⟩
    rw [List.drop_length] at post'
    unfold forU at post'
    exact (gFl_post post').2 ι' G' σ' H' (List.prefix_refl _) (Ex.refl _) s' r'
/-! while -/
/-- a while, by so many turns at most -/
def whileU (C : Env → Store → Res Bool) (B : Env → Store → Fl) : Nat → Env → Store → Fl
  | 0, _, _ => .bad
  | n + 1, ρ, S => (C ρ S).fl ρ fun k S => if k = true then (match B ρ S with
    | .nx ρ2 S2 => whileU C B n ρ2 S2
    | .ct ρ2 S2 => whileU C B n ρ2 S2
    | .bk ρ2 S2 => .nx ρ2 S2
    | f => f) else .nx ρ S
/-! comprehensions -/
def wipeE (ρ : Env) : List Nat → Env
  | [] => ρ
  | v :: vs => (wipeE ρ vs).set v none
theorem wipe_rel {K : PySem.W.Frag} {ι : List Addr} {G : Hp} {σ : L2.St} {ρ : Env} (h : RelE K ι G σ ρ) : ∀ vs : List Nat, RelE K ι G (wipe σ vs) (wipeE ρ vs)
  | [] => h
  | v :: vs => paired_set (show RO K ι G none none from trivial) v (wipe_rel h vs)
theorem wipe_at (σ : L2.St) : ∀ (vs : List Nat) (i : Nat), (wipe σ vs)[i]? = if i ∈ vs then (if i < σ.length then some none else none) else σ[i]?
  | [], i => by simp [wipe]
  | v :: vs, i => by
    show ((wipe σ vs).set v none)[i]? = _
    by_cases h : i = v
    · subst h
      rw [if_pos List.mem_cons_self]
      by_cases hl : i < σ.length
      · rw [if_pos hl, List.getElem?_set_self (by rw [wipe_length]; exact hl)]
      · rw [if_neg hl, List.getElem?_eq_none (by rw [List.length_set, wipe_length]; omega)]
    · rw [List.getElem?_set_ne (Ne.symm h), wipe_at σ vs i]
      by_cases hm : i ∈ vs
      · rw [if_pos hm, if_pos (List.mem_cons_of_mem _ hm)]
      · rw [if_neg hm, if_neg (by intro z; rcases List.mem_cons.mp z with z | z; exact h z; exact hm z)]
theorem wipe_eq {σ σ' : L2.St} {vs sl : List Nat} (hs : ∀ i ∈ sl, i ∈ vs) (hl : σ'.length = σ.length) (h : ∀ i, i ∉ sl → σ'[i]? = (wipe σ vs)[i]?) : wipe σ' vs = wipe σ vs := by
  apply List.ext_getElem?
  intro i
  rw [wipe_at]
  by_cases hm : i ∈ vs
  · rw [if_pos hm, wipe_at, if_pos hm, hl]
  · rw [if_neg hm, h i fun z => hm (hs i z)]
/-- the readings, by what is computed -/
def tOf {α β : Type} (R : Rel α β) (K : PySem.W.Frag) (Wx : WX) (F : Env → Store → Res α) : L2.St → Hp → (β → Hp → Prop) → Prop := fun σ H Q => ∃ P ι G S ρ, Sr K P ι G S H ∧ RelE K ι G σ ρ ∧ Post R K Wx P ι G σ Q (F ρ S)
def gOf (K : PySem.W.Frag) (Wx : WX) (sl : List Nat) (T : U → Env → Store → Res Env) : TG := fun v σ H Q => ∃ P ι G S ρ u, Sr K P ι G S H ∧ RelE K ι G σ ρ ∧ RU K ι G v u ∧ Post (RT K sl σ) K Wx P ι G σ Q (T u ρ S)
theorem PD.pe {e : Expr} {F : Env → Store → Res U} (h : PD X Wx e F) : PE X e (tOf (RU X.K) X.K Wx F) := by
  obtain ⟨t, p, d⟩ := h
  exact ⟨fun pins s σ H Q I ⟨P, ι, G, S, ρ, h1, h2, h3⟩ => p.run pins s σ H Q I (d P ι G σ S H ρ Q h1 h2 h3)⟩
theorem PDT.pt {e : Expr} {F : Env → Store → Res Bool} (h : PDT X Wx e F) : PT X e (tOf RB X.K Wx F) := by
  obtain ⟨t, p, d⟩ := h
  exact ⟨fun pins s σ H Q I ⟨P, ι, G, S, ρ, h1, h2, h3⟩ => p.run pins s σ H Q I (d P ι G σ S H ρ Q h1 h2 h3)⟩
theorem PDG.pg {e : Expr} {sl : List Nat} {T : U → Env → Store → Res Env} (h : PDG X Wx e sl T) : PG X e (gOf X.K Wx sl T) := by
  obtain ⟨t, p, d⟩ := h
  exact ⟨fun pins s σ H v u Q I r ⟨P, ι, G, S, ρ, u', h1, h2, h3, h4⟩ => p.run pins s σ H v u Q I r (d P ι G σ S H ρ v u' Q h1 h2 h3 h4)⟩
/-- tests of a comprehension -/
def PDTs (X : Cx) (Wx : WX) (ifs : List Expr) (F : Env → Store → Res Bool) : Prop := ∃ t, PTs X ifs t ∧ DG RB X.K Wx t F
theorem pdts_nil : PDTs X Wx [] (fun _ S => .ok true S) := ⟨_, pts_nil, fun P ι G σ S H ρ Q s _ post => post.ok s rfl⟩
theorem pdts_one {c : Expr} {F : Env → Store → Res Bool} (h : PDT X Wx c F) : PDTs X Wx [c] F := by
  obtain ⟨t, p, d⟩ := h
  exact ⟨_, pts_one p, d⟩
theorem PDTs.pts {es : List Expr} {F : Env → Store → Res Bool} (h : PDTs X Wx es F) : PTs X es (tOf RB X.K Wx F) := by
  obtain ⟨t, p, d⟩ := h
  exact ⟨fun pins s σ H Q I ⟨P, ι, G, S, ρ, h1, h2, h3⟩ => p.run pins s σ H Q I (d P ι G σ S H ρ Q h1 h2 h3)⟩
/-- an error cannot leave a comprehension -/
def Res.ne {α : Type} : Res α → Res α
  | .err _ _ _ => .bad
  | r => r
noncomputable def lcU (g : Option (Nat × List U)) (T : U → Env → Store → Res Env) (C : Env → Store → Res Bool) (El : Env → Store → Res U) (ρ : Env) : List U → List U → Store → Res (List U)
  | [], acc, S => gRs g S (.ok acc S)
  | u :: r, acc, S => gRs g S ((T u ρ S).ne.bind fun ρ1 S => (C ρ1 S).ne.bind fun k S => if k = true then (El ρ1 S).ne.bind fun y S => if acc.length < sizeLine then lcU g T C El ρ r (acc ++ [y]) S else .bad else lcU g T C El ρ r acc S)
theorem lcU_ok {α β : Type} {R : Rel α β} {g : Option (Nat × List U)} {T : U → Env → Store → Res Env} {C : Env → Store → Res Bool} {El : Env → Store → Res U} {us acc : List U} {ρ : Env} {S : Store} {K : PySem.W.Frag} {ι : List Addr} {G : Hp} {σ : L2.St} {Q : β → Hp → Prop} {k : List U → Store → Res α}
    (h : Post R K Wx P ι G σ Q ((lcU g T C El ρ us acc S).bind k)) : gOk S g := by
  cases us with
  | nil =>
    unfold lcU at h
    cases g with
    | none => trivial
    | some p =>
      unfold gRs at h
      simp only at h
      split at h
      · rename_i hc; exact hc
      · exact h.elim
  | cons u r =>
    unfold lcU at h
    cases g with
    | none => trivial
    | some p =>
      unfold gRs at h
      simp only at h
      split at h
      · rename_i hc; exact hc
      · exact h.elim
theorem gRs_bind {α γ δ : Type} {R : Rel γ δ} {K : PySem.W.Frag} {ι : List Addr} {G : Hp} {σ : L2.St} {Q : δ → Hp → Prop} {g : Option (Nat × List U)} {S : Store} {x : Res α} {k : α → Store → Res γ} (h : Post R K Wx P ι G σ Q ((gRs g S x).bind k)) : Post R K Wx P ι G σ Q (x.bind k) := by
  cases g with
  | none => exact h
  | some p =>
    unfold gRs at h
    simp only at h
    split at h
    · exact h
    · exact h.elim
def Wbot : WX := fun _ _ _ _ => False
theorem bind_assoc {α β γ : Type} (r : Res α) (k : α → Store → Res β) (l : β → Store → Res γ) : (r.bind k).bind l = r.bind fun a S => (k a S).bind l := by cases r <;> rfl
theorem Post.ne {α β γ δ : Type} {R : Rel α β} {R2 : Rel γ δ} {K : PySem.W.Frag} {Wx' : WX} {P' : Hp} {ι : List Addr} {G : Hp} {σ σ' : L2.St} {Q : β → Hp → Prop} {Q2 : δ → Hp → Prop} {r : Res α} {k : α → Store → Res γ} (h : Post R2 K Wx P ι G σ Q2 (r.ne.bind k))
    (f : ∀ a S' ι' G' H' v, ι <+: ι' → Ex G G' → Sr K P' ι' G' S' H' → R ι' G' v a → Post R2 K Wx P ι' G' σ Q2 (k a S') → Q v H') : Post R K Wx' P' ι G σ' Q r := by
  cases r with
  | ok a S' => exact fun ι1 G1 H1 v p1 e1 s r => f a S' ι1 G1 H1 v p1 e1 s r (Post.up p1 e1 h)
  | err c fs S' => exact h.elim
  | bad => exact h
/-- a comprehension: what its new list holds, then k -/
theorem lc_post {K : PySem.W.Frag} {R : Rel U V} {J : It} {it : Iter} {sl vs : List Nat} {T : U → Env → Store → Res Env} {C : Env → Store → Res Bool} {El : Env → Store → Res U} {k : List U → Store → Res U} {ι : List Addr} {G H1 : Hp} {σ : L2.St} {ρ : Env} {S : Store} {Q : VK} {Dd : Addr}
    (hsl : ∀ i ∈ sl, i ∈ vs) (gw : GW K ι G J it) (s : Sr K P ι G S H1) (e : RelE K ι G σ ρ) (hD : H1 Dd = none)
    (post : Post R K Wx P ι G σ Q ((lcU it.g T C El (wipeE ρ vs) it.us [] S).bind k))
    (fin : ∀ ι' G' H' S' xs us, ι <+: ι' → Ex G G' → Sr K (upd P Dd (.lst xs)) ι' G' S' H' → RUs K ι' G' xs us → Post R K Wx P ι' G' σ Q (k us S') → Q (.ref Dd) H') :
    ∃ W : Nat → Nat → Hp → Prop, (∃ m, W 0 m (upd H1 Dd (.lst []))) ∧ ∀ i m H, W i m H →
      (J.stop i H ∧ Q (.ref Dd) H) ∨ (J.go i H ∧ ∃ Nx : Hp → Prop, (∀ H', Nx H' → ∃ m', m' < m ∧ W (i + 1) m' H') ∧ ∀ x H', J.yld i H x H' → gOf K Wbot sl T x (wipe σ vs) H' fun σ2 H2 => wipe σ2 vs = wipe σ vs ∧ tOf RB K Wbot C σ2 H2 fun b H3 =>
        if b = true then tOf (RU K) K Wbot El σ2 H3 fun y H4 => ∃ acc, H4 Dd = some (.lst acc) ∧ acc.length < sizeLine ∧ Nx (upd H4 Dd (.lst (acc ++ [y]))) else Nx H3) := by
  obtain ⟨Gd, Y, wk, hG, hY⟩ := gw
  have hPD : P Dd = none := s.noPin hD
  refine lc_it wk (fun i H => ∃ ι' G' S' xs us, ι <+: ι' ∧ Ex G G' ∧ Sr K (upd P Dd (.lst xs)) ι' G' S' H ∧ RUs K ι' G' xs us ∧ Post R K Wx P ι' G' σ Q ((lcU it.g T C El (wipeE ρ vs) (it.us.drop i) us S').bind k)) ?_ ?_ ?_ ?_
  · exact ⟨ι, G, S, [], [], List.prefix_refl _, Ex.refl _, (s.tmp hD).pinned upd_same (s.fresh hD).1 (s.fresh hD).2, .nil, post⟩
  · rintro i H _ ⟨ι', G', S', xs, us, p, e', s', r', post'⟩
    exact hG _ ι' G' S' H p e' s' (lcU_ok post')
  · rintro i x H H' hi ⟨ι', G', S', xs, us, p, e', s', r', post'⟩ y
    obtain ⟨G2, u, e2, s2, hu, ru⟩ := hY i H x H' hi y _ ι' G' S' p e' s' (lcU_ok post')
    obtain ⟨hl, hu'⟩ := List.getElem?_eq_some_iff.mp hu
    rw [List.drop_eq_getElem_cons hl, hu'] at post'
    unfold lcU at post'
    have post2 := Post.up (List.prefix_refl _) e2 (gRs_bind post')
    have r2 := (wipe_rel (e.up p e') vs).up (List.prefix_refl _) e2
    rw [bind_assoc] at post2
    refine ⟨_, ι', G2, S', wipeE ρ vs, u, s2, r2, ru, Post.ne post2 fun ρ3 S3 ι3 G3 H3 σ3 p3 e3 s3 rt post3 => ⟨wipe_eq hsl (by rw [rt.2.1, wipe_length]) rt.2.2, ?_⟩⟩
    rw [bind_assoc] at post3
    refine ⟨_, ι3, G3, S3, ρ3, s3, rt.1, Post.ne post3 fun b S4 ι4 G4 H4 b' p4 e4 s4 rb post4 => ?_⟩
    cases rb
    cases b with
    | false =>
      rw [if_neg Bool.false_ne_true] at post4 ⊢
      exact ⟨ι4, G4, S4, xs, us, (p.trans p3).trans p4, ((e'.trans e2).trans e3).trans e4, s4, RUs.up (p3.trans p4) ((e2.trans e3).trans e4) r', post4⟩
    | true =>
      rw [if_pos rfl] at post4 ⊢
      rw [bind_assoc] at post4
      refine ⟨_, ι4, G4, S4, ρ3, s4, rt.1.up p4 e4, Post.ne post4 fun y S5 ι5 G5 H5 v p5 e5 s5 rv post5 => ?_⟩
      have hD5 := (s5.pin Dd _ upd_same).1
      split at post5
      · rename_i hlen
        have r5 : RUs K ι5 G5 xs us := RUs.up ((p3.trans p4).trans p5) (((e2.trans e3).trans e4).trans e5) r'
        refine ⟨xs, hD5, by rw [paired_len r5]; exact hlen, ?_⟩
        refine ⟨ι5, G5, S5, xs ++ [v], us ++ [y], ((p.trans p3).trans p4).trans p5, (((e'.trans e2).trans e3).trans e4).trans e5, ?_, paired_app r5 (.cons rv .nil), post5⟩
        have := s5.repin (o := .lst (xs ++ [v])) upd_same
        rwa [upd_upd] at this
      · exact post5.elim
  · rintro H ⟨ι', G', S', xs, us, p, e', s', r', post'⟩
    rw [List.drop_length] at post'
    unfold lcU at post'
    have post2 := gRs_bind post'
    exact fin ι' G' H S' xs us p e' s' r' post2
theorem upd_out {P : Hp} {p : Addr} {o : HO} (h : P p = none) : Ex P (upd P p o) := Ex.new h
theorem Sr.ownPin {K : PySem.W.Frag} {ι : List Addr} {G H : Hp} {S : Store} {p : Addr} {o : HO} (s : Sr K (upd P p o) ι G S H) (hP : P p = none) : Sr K P ι (upd G p o) S H ∧ Ex G (upd G p o) := by
  obtain ⟨h1, h2, h3⟩ := s.pin p o upd_same
  exact ⟨(s.unpin (Ex.new hP)).own h1 h2 h3 hP, Ex.new h2⟩
variable {elt tg iter : Expr} {ifs : List Expr} {scope : Scope} {own : List (Str × Nat)} {I : Env → Store → Res Iter} {sl : List Nat} {T : U → Env → Store → Res Env} {C : Env → Store → Res Bool} {El : Env → Store → Res U}
theorem lc_end {ι : List Addr} {G H1 : Hp} {σ : L2.St} {S : Store} {Q : VK} {Dd : Addr} {xs : List V} {us : List U} (hP : P Dd = none) (s : Sr X.K (upd P Dd (.lst xs)) ι G S H1) (r : RUs X.K ι G xs us) (post : Post (RU X.K) X.K Wx P ι G σ Q (mkL us S)) : Q (.ref Dd) H1 := by
  unfold mkL at post
  split at post
  · rename_i ds hd
    split at post
    · obtain ⟨s', e'⟩ := s.ownPin hP
      exact post ι _ H1 (.ref Dd) (List.prefix_refl _) e' s' (.lst (SqL.of upd_same) ((r.all hd).ex e'))
    · exact post.elim
  · exact post.elim
/-- [e for x in ..], a list that never changes -/
theorem pd_lc (hc : X.calm = true) (hN : X.N.Nodup) (hi : PDI X Wx tg iter I) (ok : BlkOk X.N X.env.scope scope own) (hsl : ∀ i ∈ sl, i ∈ own.map (·.2))
    (hg : ∀ (s : Shared) (H : Hp) (C : Addr) (cl : List (Str × Addr)) (fp : List Addr), PDG (X.blk s H scope (compEnvC scope cl C X.env) fp) Wbot tg sl T) (ht : ∀ (s : Shared) (H : Hp) (Ca : Addr) (cl : List (Str × Addr)) (fp : List Addr), PDTs (X.blk s H scope (compEnvC scope cl Ca X.env) fp) Wbot ifs C)
    (he : ∀ (s : Shared) (H : Hp) (C : Addr) (cl : List (Str × Addr)) (fp : List Addr), PD (X.blk s H scope (compEnvC scope cl C X.env) fp) Wbot elt El) (hs : ∀ x, foldedSetIterable iter X.env x = pure x := by intro _; rfl) :
    PD X Wx (.ListComp elt [⟨tg, iter, ifs, 0⟩] scope pos) (fun ρ S => (I ρ S).bind fun it S => (lcU it.g T C El (wipeE ρ (own.map (·.2))) it.us [] S).bind mkL) := by
  obtain ⟨w, pi, di⟩ := hi
  refine ⟨_, pe_lc (te := tOf (RU X.K) X.K Wbot El) (tt := tOf RB X.K Wbot C) (g := gOf X.K Wbot sl T) hc hN pi ok (fun s H C cl fp => (hg s H C cl fp).pg) (fun s H C cl fp => (ht s H C cl fp).pts) (fun s H C cl fp => (he s H C cl fp).pe) hs, fun P ι G σ S H ρ Q s e post => ?_⟩
  refine di P ι G σ S H ρ _ s e (post.bind fun it S1 ι1 G1 H1 J p1 e1 s1 gw post1 => fun Dd hD => ?_)
  exact lc_post hsl gw s1 (e.up p1 e1) hD post1 fun ι2 G2 H2 S2 xs us p2 e2 s2 r2 post2 => lc_end (s1.noPin hD) s2 r2 post2
/-- name = [e for x in ..] -/
theorem pds_setLc {i : Nat} {y : Str} {py spos : Pos} (hc : X.calm = true) (hN : X.N.Nodup) (hy : X.N[i]? = some y) (hyl : X.env.scope.names.lookup y = some .local)
    (hsw : swapsWith (.ListComp elt [⟨tg, iter, ifs, 0⟩] scope pos) (some (.Name y py)) spos.line X.env = pure true) (hi : PDI X Wx tg iter I) (ok : BlkOk X.N X.env.scope scope own) (hsl : ∀ i ∈ sl, i ∈ own.map (·.2))
    (hg : ∀ (s : Shared) (H : Hp) (C : Addr) (cl : List (Str × Addr)) (fp : List Addr), PDG (X.blk s H scope (compEnvC scope cl C X.env) fp) Wbot tg sl T) (ht : ∀ (s : Shared) (H : Hp) (Ca : Addr) (cl : List (Str × Addr)) (fp : List Addr), PDTs (X.blk s H scope (compEnvC scope cl Ca X.env) fp) Wbot ifs C)
    (he : ∀ (s : Shared) (H : Hp) (C : Addr) (cl : List (Str × Addr)) (fp : List Addr), PD (X.blk s H scope (compEnvC scope cl C X.env) fp) Wbot elt El) (hs : ∀ x, foldedSetIterable iter X.env x = pure x := by intro _; rfl) :
    PDS X Wx (.Assign [.Name y py] (.ListComp elt [⟨tg, iter, ifs, 0⟩] scope pos) spos) (fun ρ S => ((I ρ S).bind fun it S => (lcU it.g T C El (wipeE ρ (own.map (·.2))) it.us [] S).bind mkL).fl ρ fun u S => .nx (ρ.set i (some u)) S) := by
  obtain ⟨w, pi, di⟩ := hi
  refine ⟨_, ps_setLc (te := tOf (RU X.K) X.K Wbot El) (tt := tOf RB X.K Wbot C) (g := gOf X.K Wbot sl T) hc hN hy hyl hsw pi ok (fun s H C cl fp => (hg s H C cl fp).pg) (fun s H C cl fp => (ht s H C cl fp).pts) (fun s H C cl fp => (he s H C cl fp).pe) hs, fun P ι G σ S H ρ E s e post => ?_⟩
  have post0 : Post (RU X.K) X.K Wx P ι G σ (fun v H' => E.nx (σ.set i (some v)) H') ((I ρ S).bind fun it S => (lcU it.g T C El (wipeE ρ (own.map (·.2))) it.us [] S).bind mkL) :=
    Post.fl e post fun u S1 ι1 G1 H1 v p1 e1 s1 rv r1 post1 => post1 ι1 G1 _ H1 (List.prefix_refl _) (Ex.refl _) s1 (paired_set (show RO X.K ι1 G1 (some v) (some u) from rv) i r1)
  refine di P ι G σ S H ρ _ s e (post0.bind fun it S1 ι1 G1 H1 J p1 e1 s1 gw post1 => fun Dd hD => ?_)
  exact lc_post (Q := fun v H' => E.nx (σ.set i (some v)) H') hsl gw s1 (e.up p1 e1) hD post1 fun ι2 G2 H2 S2 xs us p2 e2 s2 r2 post2 => lc_end (s1.noPin hD) s2 r2 post2
/-! a list, an object that changes no more -/
def allF : List (Str × U) → Option (List (Str × D))
  | [] => some []
  | (f, .d x) :: t => (allF t).map ((f, x) :: ·)
  | (_, .r _) :: _ => none
def frzN (n : Nat) (S : Store) : Store := match S[n]? with
  | some (.lst us) => match allD us with
    | some ds => S.set n (.frz (.lst ds))
    | none => S
  | some (.obj c fs) => match allF fs with
    | some gs => S.set n (.frz (.obj c gs))
    | none => S
  | _ => S
def frzV (ρ : Env) (i : Nat) (S : Store) : Store := match ρ[i]? with
  | some (some (.r n)) => frzN n S
  | _ => S
theorem RUf.all {K : PySem.W.Frag} {ι : List Addr} {G : Hp} : ∀ {vs : List (Str × V)} {us : List (Str × U)} {ds : List (Str × D)}, RUf K ι G vs us → allF us = some ds → RvF K G vs ds
  | _, [], ds, h, e => by cases h; cases e; exact .nil
  | _, (f, .d x) :: t, ds, h, e => by
    cases e1 : allF t with
    | none => simp [allF, e1] at e
    | some l =>
      simp [allF, e1] at e
      subst e
      cases h with
      | cons a b =>
        rename_i p l'
        obtain ⟨pf, pv⟩ := p
        obtain ⟨rfl, r⟩ := a
        exact .cons r (RUf.all b e1)
  | _, (_, .r _) :: _, ds, h, e => by cases e
theorem frzN_ok {K : PySem.W.Frag} {ι : List Addr} {G H : Hp} {S : Store} {n : Nat} (s : Sr K P ι G S H) : ∃ G', Ex G G' ∧ Sr K P ι G' (frzN n S) H := by
  unfold frzN
  split
  · rename_i us hc
    split
    · rename_i ds hd
      obtain ⟨a, ha, h0, vs, h1, h2⟩ := s.here hc
      exact ⟨_, Ex.new h0, s.frz hc ha h0 h1 (.lst (SqL.of upd_same) ((RUs.all h2 hd).ex (Ex.new h0)))⟩
    · exact ⟨G, Ex.refl _, s⟩
  · rename_i c fs hc
    split
    · rename_i gs hd
      obtain ⟨a, ha, h0, dx, vs, h1, h2⟩ := s.here hc
      exact ⟨_, Ex.new h0, s.frz hc ha h0 h1 (.obj upd_same ((RUf.all h2 hd).ex (Ex.new h0)))⟩
    · exact ⟨G, Ex.refl _, s⟩
  · exact ⟨G, Ex.refl _, s⟩
theorem frzV_ok {K : PySem.W.Frag} {ι : List Addr} {G H : Hp} {S : Store} {ρ : Env} {i : Nat} (s : Sr K P ι G S H) : ∃ G', Ex G G' ∧ Sr K P ι G' (frzV ρ i S) H := by
  unfold frzV
  split
  · exact frzN_ok s
  · exact ⟨G, Ex.refl _, s⟩
/-- ahead of the rest of a block a name's list is frozen -/
theorem pdss_frz {sts : List Stmt} {B : Env → Store → Fl} (i : Nat) (h : PDSs X Wx sts B) : PDSs X Wx sts (fun ρ S => B ρ (frzV ρ i S)) := by
  obtain ⟨t, p, d⟩ := h
  refine ⟨t, p, fun P ι G σ S H ρ E s e post => ?_⟩
  obtain ⟨G', e', s'⟩ := frzV_ok (ρ := ρ) (i := i) s
  exact d P ι G' σ _ H ρ E s' (e.up (List.prefix_refl _) e') (PostS.up (List.prefix_refl _) e' post)
end
end DL
set_option Elab.async false
set_option linter.all false
set_option maxRecDepth 100000
set_option maxHeartbeats 4000000
/-! ### defs of the data layer: promises, bodies, calls, errors raised -/
namespace DL
open PySem PySem.Spec PyProof.Rows L2
open He (ga ma)
open Evl (Ex)
open TL (tl)
abbrev Fn := List U → Store → Res U
def spD (K : PySem.W.Frag) (n : Nat) (fF : Fn) : Sp := fun vs H Q E => vs.length = n ∧ ∃ P ι G S us, Sr K P ι G S H ∧ RUs K ι G vs us ∧ Post (RU K) K (fun c d _ H => E c d H) P ι G [] Q (fF us S)
/-- the def at f computes fF -/
def FD (P : Program) (w : World) (K : PySem.W.Frag) (mg : Str → Option Value) (base : Heap) (k : Nat) (f : Addr) (ps : List Str) (fF : Fn) : Prop :=
  (∀ us S, us.length ≠ ps.length → fF us S = .bad) ∧ ∃ fd, FnG P w K mg base (L2.CX P w) k f fd ps (spD K ps.length fF) ∧ Binds K fd ps [] ∧ PySem.W.keepIn K (.ref f) = true
/-- the def of the module named x computes fF -/
def FM (P : Program) (w : World) (K : PySem.W.Frag) (mg : Str → Option Value) (base : Heap) (k : Nat) (x : Str) (ps : List Str) (fF : Fn) : Prop := FD P w K mg base k (ga K x) ps fF ∧ mg x = some (.ref (ga K x))
/-! by the number of arguments -/
def F0 (f : Store → Res U) : Fn := fun us S => match us with | [] => f S | _ => .bad
def F1 (f : U → Store → Res U) : Fn := fun us S => match us with | [a] => f a S | _ => .bad
def F2 (f : U → U → Store → Res U) : Fn := fun us S => match us with | [a, b] => f a b S | _ => .bad
def F3 (f : U → U → U → Store → Res U) : Fn := fun us S => match us with | [a, b, c] => f a b c S | _ => .bad
def F4 (f : U → U → U → U → Store → Res U) : Fn := fun us S => match us with | [a, b, c, d] => f a b c d S | _ => .bad
def F5 (f : U → U → U → U → U → Store → Res U) : Fn := fun us S => match us with | [a, b, c, d, e] => f a b c d e S | _ => .bad
def F6 (f : U → U → U → U → U → U → Store → Res U) : Fn := fun us S => match us with | [a, b, c, d, e, g] => f a b c d e g S | _ => .bad
theorem F0.len {f} (us : List U) (S : Store) (h : us.length ≠ 0) : F0 f us S = .bad := by match us, h with | [], h => exact absurd rfl h | _ :: _, _ => rfl
theorem F1.len {f} (us : List U) (S : Store) (h : us.length ≠ 1) : F1 f us S = .bad := by match us, h with | [], h => rfl | [_], h => exact absurd rfl h | _ :: _ :: _, _ => rfl
theorem F2.len {f} (us : List U) (S : Store) (h : us.length ≠ 2) : F2 f us S = .bad := by match us, h with | [], h => rfl | [_], h => rfl | [_, _], h => exact absurd rfl h | _ :: _ :: _ :: _, _ => rfl
theorem F3.len {f} (us : List U) (S : Store) (h : us.length ≠ 3) : F3 f us S = .bad := by match us, h with | [], h => rfl | [_], h => rfl | [_, _], h => rfl | [_, _, _], h => exact absurd rfl h | _ :: _ :: _ :: _ :: _, _ => rfl
theorem F4.len {f} (us : List U) (S : Store) (h : us.length ≠ 4) : F4 f us S = .bad := by match us, h with | [], h => rfl | [_], h => rfl | [_, _], h => rfl | [_, _, _], h => rfl | [_, _, _, _], h => exact absurd rfl h | _ :: _ :: _ :: _ :: _ :: _, _ => rfl
theorem F5.len {f} (us : List U) (S : Store) (h : us.length ≠ 5) : F5 f us S = .bad := by match us, h with | [], h => rfl | [_], h => rfl | [_, _], h => rfl | [_, _, _], h => rfl | [_, _, _, _], h => rfl | [_, _, _, _, _], h => exact absurd rfl h | _ :: _ :: _ :: _ :: _ :: _ :: _, _ => rfl
theorem F6.len {f} (us : List U) (S : Store) (h : us.length ≠ 6) : F6 f us S = .bad := by match us, h with | [], h => rfl | [_], h => rfl | [_, _], h => rfl | [_, _, _], h => rfl | [_, _, _, _], h => rfl | [_, _, _, _, _], h => rfl | [_, _, _, _, _, _], h => exact absurd rfl h | _ :: _ :: _ :: _ :: _ :: _ :: _ :: _, _ => rfl
/-! bodies -/
def bodyR : Fl → Res U
  | .nx _ S => .ok (.d .non) S
  | .rt u S => .ok u S
  | .err c fs _ S => .err c fs S
  | _ => .bad
def startE (n : Nat) (us : List U) : Env := us.map some ++ List.replicate (n - us.length) none
theorem start_rel {K : PySem.W.Frag} {ι : List Addr} {G : Hp} {vs : List V} {us : List U} {N : List Str} (r : RUs K ι G vs us) : RelE K ι G (L2.start N vs) (startE N.length us) := by
  unfold L2.start startE
  rw [paired_len r]
  refine paired_app ?_ ?_
  · induction r with
    | nil => exact .nil
    | cons h _ ih => exact .cons h ih
  · generalize N.length - us.length = m
    induction m with
    | zero => exact .nil
    | succ m ih => exact .cons (show RO K ι G none none from trivial) ih
def U.below (m : Nat) : U → Prop
  | .d _ => True
  | .r n => n < m
def Cell.below (m : Nat) : Cell → Prop
  | .lst us => ∀ u ∈ us, u.below m
  | .obj _ fs => ∀ p ∈ fs, p.2.below m
  | .frz _ => True
/-- behind a def only the old cells are kept -/
def Shr (S S2 : Store) : Prop := S2.length = S.length ∧ ∀ (n : Nat) c, S2[n]? = some c → S[n]? = some c ∨ c.below S.length
inductive Refines (S : Store) : Res U → Res U → Prop
  | bad (r : Res U) : Refines S .bad r
  | refl (r : Res U) : Refines S r r
  | ok {u : U} {S2 : Store} (g : Store) : Shr S S2 → u.below S.length → Refines S (.ok u S2) (.ok u (S2 ++ g))
  | err {c : Str} {fs : List (Str × D)} {S2 : Store} (g : Store) : Shr S S2 → Refines S (.err c fs S2) (.err c fs (S2 ++ g))
theorem Shr.refl (S : Store) : Shr S S := ⟨rfl, fun _ _ h => .inl h⟩
section
variable {K : PySem.W.Frag} {P : Hp} {ι ι' : List Addr} {G G' H H' : Hp} {S S2 g : Store} {Wx : WX} {σ : L2.St} {Q : VK}
theorem RU.down {v : V} {u : U} (p : ι <+: ι') (h : RU K ι' G v u) (b : u.below ι.length) : RU K ι G v u := by
  cases u with
  | d x => exact h
  | r n =>
    obtain ⟨a, h1, h2⟩ := h
    obtain ⟨t, rfl⟩ := p
    rw [List.getElem?_append_left b] at h1
    exact ⟨a, h1, h2⟩
theorem RU.below {v : V} {u : U} (h : RU K ι G v u) : u.below ι.length := by
  cases u with
  | d x => trivial
  | r n =>
    obtain ⟨a, h1, h2⟩ := h
    exact (List.getElem?_eq_some_iff.mp h1).1
theorem paired_mem {α β : Type} {F : α → β → Prop} : ∀ {l1 : List α} {l2 : List β}, Paired F l1 l2 → ∀ b ∈ l2, ∃ a, F a b
  | _, _, .nil, b, h => by cases h
  | _, _, .cons f t, b, h => by
    rcases List.mem_cons.mp h with rfl | h
    · exact ⟨_, f⟩
    · exact paired_mem t b h
theorem paired_mapM {α β : Type} {F F' : α → β → Prop} : ∀ {l1 : List α} {l2 : List β}, Paired F l1 l2 → (∀ a b, b ∈ l2 → F a b → F' a b) → Paired F' l1 l2
  | _, _, .nil, _ => .nil
  | _, _, .cons f t, h => .cons (h _ _ List.mem_cons_self f) (paired_mapM t fun a b hb => h a b (List.mem_cons_of_mem _ hb))
theorem CellAt.below {a : Addr} {c : Cell} (h : CellAt K ι G H a c) : c.below ι.length := by
  cases c with
  | lst us =>
    obtain ⟨_, vs, _, r⟩ := h
    intro u hu
    obtain ⟨v, hv⟩ := paired_mem r u hu
    exact hv.below
  | obj c fs =>
    obtain ⟨_, dx, vs, _, r⟩ := h
    intro u hu
    obtain ⟨v, hv⟩ := paired_mem r u hu
    exact hv.2.below
  | frz x => trivial
theorem CellAt.down {a : Addr} {c : Cell} (p : ι <+: ι') (h : CellAt K ι' G H a c) (b : c.below ι.length) : CellAt K ι G H a c := by
  cases c with
  | lst us =>
    obtain ⟨h0, vs, h1, r⟩ := h
    exact ⟨h0, vs, h1, paired_mapM r fun v u hu hv => hv.down p (b u hu)⟩
  | obj c fs =>
    obtain ⟨h0, dx, vs, h1, r⟩ := h
    exact ⟨h0, dx, vs, h1, paired_mapM r fun v u hu hv => ⟨hv.1, hv.2.down p (b u hu)⟩⟩
  | frz x => exact h
theorem Sr.shrink (s0 : Sr K P ι G S H) (p : ι <+: ι') (s : Sr K P ι' G' (S2 ++ g) H') (sh : Shr S S2) : Sr K P ι G' S2 H' := by
  refine ⟨s.ex, by rw [s0.len, sh.1], s0.nd, fun n c a h1 h2 => ?_, fun n a h => s.out n a (pre_get p h), fun a o h => ?_⟩
  · have hn : n < S2.length := (List.getElem?_eq_some_iff.mp h1).1
    have h3 : (S2 ++ g)[n]? = some c := by rw [List.getElem?_append_left hn]; exact h1
    refine CellAt.down p (s.at_ n c a h3 (pre_get p h2)) ?_
    rcases sh.2 n c h1 with h | h
    · obtain ⟨b, hb, hc⟩ := s0.here h
      exact hc.below
    · rw [s0.len]; exact h
  · obtain ⟨h1, h2, h3⟩ := s.pin a o h
    exact ⟨h1, h2, fun n hn => h3 n (pre_get p hn)⟩
theorem Refines.post {r r' : Res U} (s0 : Sr K P ι G S H) (h : Refines S r r') (post : Post (RU K) K Wx P ι G σ Q r) : Post (RU K) K Wx P ι G σ Q r' := by
  cases h with
  | bad => exact post.elim
  | refl => exact post
  | ok g sh b => exact fun ι' G' H' v p e s rv => post ι G' H' v (List.prefix_refl _) e (s0.shrink p s sh) (rv.down p (by rw [s0.len]; exact b))
  | err g sh => exact fun ι' G' H' od p e s ea => post ι G' H' od (List.prefix_refl _) e (s0.shrink p s sh) ea
theorem body_post {E : XK} {f : Fl} (h : Post (RU K) K (fun c d _ H => E c d H) P ι G [] Q (bodyR f)) : PostS K (fun c d _ H => E c d H) P ι G { nx := fun _ H' => Q .non H', rt := Q } f := by
  cases f with
  | nx ρ S => exact fun ι' G' σ' H' p e s r => h ι' G' H' .non p e s .non
  | rt u S => exact h
  | bk _ _ => exact h.elim
  | ct _ _ => exact h.elim
  | err c fs ρ S => exact fun ι' G' σ' H' od p e s r ea => h ι' G' H' od p e s ea
  | bad => exact h
end
section
variable {P : Program} {w : World} {K : PySem.W.Frag} {mg : Str → Option Value} {base : Heap} {k : Nat} {x qual : Str} {st : Stmt} {f : Addr} {N ps : List Str} {fF : Fn} {B : Env → Store → Fl}
theorem body_ok {X : Cx} {E : XK} {sts : List Stmt} {vs : List V} {H : Hp} {Q : VK} (hK : X.K = K) (hB : PDSs X (fun c d _ H => E c d H) sts B) (href : ∀ us S, us.length = ps.length → Refines S (fF us S) (bodyR (B (startE N.length us) S))) (h : spD K ps.length fF vs H Q E) :
    ∃ t, PSs X sts t ∧ t { nx := fun _ H' => Q .non H', rt := Q } (L2.start N vs) H := by
  subst hK
  obtain ⟨t, p, d⟩ := hB
  obtain ⟨hl, P', ι, G, S, us, s, r, post⟩ := h
  refine ⟨t, p, d P' ι G _ S H _ _ s (start_rel r) (body_post (Refines.post s (href us S ?_) post))⟩
  rw [← paired_len r]; exact hl
/-- a def of the module by its body -/
theorem okM (F : FnF K mg x st) (S : FnScope N ps (defScope st)) (hb : BindRow x st ps) (hlen : ∀ us S, us.length ≠ ps.length → fF us S = .bad)
    (hB : ∀ (cdv : Value) (A : Around) (outer : List PySem.Env) (s : Shared) (H : Hp) (E : XK), (A.deeper (envOfC x (defScope st) s.heap.objs.size (ga K x) cdv)).guards = some [] → Room k (A.deeper (envOfC x (defScope st) s.heap.objs.size (ga K x) cdv)) →
      PDSs (cxOf (L2.CX P w) P w K mg base N x (defScope st) (ga K x) cdv A outer s H E) (fun c d _ H => E c d H) (defBody st) B)
    (href : ∀ us S, us.length = ps.length → Refines S (fF us S) (bodyR (B (startE N.length us) S))) : FM P w K mg base (k + 1) x ps fF := by
  obtain ⟨fd, F, hm⟩ := F
  have hB' := F.binds hb
  have hP := F.kp
  obtain ⟨oc, od, kV, doc, pm, an, cdv, ct, osl, rfl, lk, hcd⟩ := F.ex
  refine ⟨⟨hlen, _, fnG_of lk hcd S (fun vs H Q E h => h.1) fun A outer s H vs Q E hA hr hsp => ?_, hB', hP⟩, hm⟩
  exact body_ok rfl (hB cdv A outer s H E hA hr) href hsp
/-- a method by its body -/
theorem okMt (F : MtF K x qual st f) (S : FnScope N ps (defScope st)) (hb : BindRowQ x qual st ps) (hlen : ∀ us S, us.length ≠ ps.length → fF us S = .bad)
    (hB : ∀ (cdv : Value) (A : Around) (outer : List PySem.Env) (s : Shared) (H : Hp) (E : XK), (A.deeper (envOfC qual (defScope st) s.heap.objs.size f cdv)).guards = some [] → Room k (A.deeper (envOfC qual (defScope st) s.heap.objs.size f cdv)) →
      PDSs (cxOf (L2.CX P w) P w K mg base N qual (defScope st) f cdv A outer s H E) (fun c d _ H => E c d H) (defBody st) B)
    (href : ∀ us S, us.length = ps.length → Refines S (fF us S) (bodyR (B (startE N.length us) S))) : FD P w K mg base (k + 1) f ps fF := by
  obtain ⟨fd, F⟩ := F
  have hB' := F.binds hb
  have hP := F.kp
  obtain ⟨oc, od, kV, doc, pm, an, cdv, ct, osl, rfl, lk, hcd⟩ := F.ex
  refine ⟨hlen, _, fnG_of lk hcd S (fun vs H Q E h => h.1) fun A outer s H vs Q E hA hr hsp => ?_, hB', hP⟩
  exact body_ok rfl (hB cdv A outer s H E hA hr) href hsp
/-- a def with defaults by its body -/
theorem okG {params : Arguments} {body : List Stmt} {scope : Scope} {dvs : List V} {kws : List (Str × V)} {fd : FuncData} (F : FunD K x qual params body scope dvs kws f fd) (S : FnScope N ps scope)
    (hB : ∀ (cdv : Value) (A : Around) (outer : List PySem.Env) (s : Shared) (H : Hp) (E : XK), (A.deeper (envOfC qual scope s.heap.objs.size f cdv)).guards = some [] → Room k (A.deeper (envOfC qual scope s.heap.objs.size f cdv)) →
      PDSs (cxOf (L2.CX P w) P w K mg base N qual scope f cdv A outer s H E) (fun c d _ H => E c d H) body B)
    (href : ∀ us S, us.length = ps.length → Refines S (fF us S) (bodyR (B (startE N.length us) S))) : FnG P w K mg base (L2.CX P w) (k + 1) f fd ps (spD K ps.length fF) := by
  obtain ⟨oc, od, dV, kV, doc, pm, an, cdv, ct, osl, rfl, lk, hcd, _, _⟩ := F.ex
  refine fnG_of lk hcd S (fun vs H Q E h => h.1) fun A outer s H vs Q E hA hr hsp => ?_
  exact body_ok rfl (hB cdv A outer s H E hA hr) href hsp
theorem FD.mono {j : Nat} (F : FD P w K mg base j f ps fF) (h : j ≤ k) : FD P w K mg base k f ps fF := let ⟨l, fd, a, b⟩ := F; ⟨l, fd, a.mono h, b⟩
theorem FM.mono {j : Nat} (F : FM P w K mg base j x ps fF) (h : j ≤ k) : FM P w K mg base k x ps fF := ⟨F.1.mono h, F.2⟩
end
/-! calls -/
section
variable {X : Cx} {Wx : WX} {k : Nat} {f : Addr} {fd : FuncData} {ps : List Str} {sp : Sp} {dvs : List V} {ds : List Value} {E : L2.St → XK} {x m : Str} {p pos apos : Pos} {e o : Expr} {es : List Expr} {t : TA} {fF : Fn} {A : Env → Store → Res U} {As : Env → Store → Res (List U)}
/-- how a caller goes on behind a callee's end: with its value, or with its error -/
def Goes1 (X : Cx) (pins : List (Addr × Obj)) (σ : L2.St) (Q : VK) : Result → Shared → Prop
  | .ok (.ret u), s' => EP X pins σ Q u s'
  | .error e, s' => X.xe e s'
  | _, _ => False
theorem goes_of {CX : CXT} {pins : List (Addr × Obj)} {σ : L2.St} {H : Hp} {s s' : Shared} {Q : VK} {E' : XK} {r : Result} (I : Inv X pins σ H s) (hx : PassesAt CX X σ E') (h : CR CX X.stack X.prog X.w H s Q E' r s') : Goes1 X pins σ Q r s' :=
  match r, h with
  | .ok (.ret _), h => I.after h
  | .error e, h => hx pins H s e s' I h
theorem wp_goes {pins : List (Addr × Obj)} {σ : L2.St} {s : Shared} {Q : VK} {fv : Value} {us : List Value} {kw : List (Str × Value)} (h : codeAny (model X.prog X.w) X.A (.call fv ⟨us, kw⟩) (Goes1 X pins σ Q) s) : wpAny (model X.prog X.w) X.A (call fv us kw) (EP X pins σ Q) X.xe s :=
  wpAny_call (codeAny_mono h fun r _ g => match r, g with
    | .ok (.ret _), g => g
    | .error _, g => g)
theorem run_fnGS {CX : CXT} {pins : List (Addr × Obj)} {σ : L2.St} {H : Hp} {s : Shared} {Q : VK} {us : List Value} {vs : List V} (hA : X.A.guards = some []) (F : FnG X.prog X.w X.K X.mg X.base CX k f fd ps sp) (hr : Room k X.A) (hb : Binds X.K fd ps ds) (hd : Vals dvs ds) (hx : PassesAt CX X σ (E σ))
    (I : Inv X pins σ H s) (r : Vals vs us) (h : sp (vs ++ dvs) H Q (E σ)) : wpAny (model X.prog X.w) X.A (call (.ref f) us) (EP X pins σ Q) X.xe s := by
  have rr := Vals.append r hd
  have bb := hb s us I.kIn (rr.length.symm.trans (F.len _ _ _ _ h))
  exact wp_goes (codeAny_mono (F.run X.A hA _ s H _ _ _ Q (E σ) hr I.env0 bb rr h) fun _ _ g => goes_of I hx g)
theorem call_post {K : PySem.W.Frag} {P : Hp} {ι : List Addr} {G H : Hp} {S : Store} {σ : L2.St} {vs : List V} {us : List U} {Q : VK} (hlen : ∀ us S, us.length ≠ ps.length → fF us S = .bad) (s : Sr K P ι G S H) (r : RUs K ι G vs us) (post : Post (RU K) K Wx P ι G σ Q (fF us S)) : spD K ps.length fF vs H Q (WE Wx σ) := by
  have hl : vs.length = ps.length := by
    rw [paired_len r]
    by_cases h : us.length = ps.length
    · exact h
    · rw [hlen us S h] at post; exact post.elim
  refine ⟨hl, P, ι, G, S, us, s, r, ?_⟩
  generalize fF us S = q at post
  cases q with
  | ok a S' => exact post
  | err c fs S' => exact post
  | bad => exact post
theorem pd_call (hA : X.A.guards = some []) (F : FM X.prog X.w X.K X.mg X.base k x ps fF) (hr : Room k X.A) (tk : Takes X Wx) (ha : PDA X Wx (e :: es) As) (hg : Gl X x := by rfl) (hdb : (x == ("__debug__" : Str)) = false := by decide)
    (he : starEach (e :: es) X.env = (false, eval e X.env) :: starEach es X.env := by rfl) (hpl : (backTo pos (starEach es X.env)).any (·.1) = false := by rfl) : PD X Wx (.Call (.Name x p) (e :: es) [] pos) (fun ρ S => (As ρ S).bind fF) := by
  obtain ⟨⟨hlen, fd, F, hb, hk⟩, hm⟩ := F
  obtain ⟨ta, pa, da⟩ := ha
  refine ⟨tCallS (spD X.K ps.length fF) (WE Wx) ta, ⟨fun pins s σ H Q I h => ?_⟩, fun P ι G σ S H ρ Q s e post => ?_⟩
  · refine wpAny_Call_Name_kw (ld_glob I hg hm ?_ hdb)
    refine PySem.W.callWith_K (h₀ := X.base) I.ok.mod.kin hk (thn (pa.run pos pins s σ H _ I h) fun us s1 ⟨vs, H1, I1, r, q⟩ => ⟨I1.kIn, ?_⟩) he hpl
    exact run_fnGS (dvs := []) (ds := []) (E := WE Wx) hA F hr hb .nil (passAt tk σ) I1 r (by rw [List.append_nil]; exact q)
  · exact da P ι G σ S H ρ _ s e (post.bind fun us S1 ι1 G1 H1 vs p1 e1 s1 rv post1 => call_post hlen s1 rv post1)
theorem pd_call0 (hA : X.A.guards = some []) (F : FM X.prog X.w X.K X.mg X.base k x ps fF) (hr : Room k X.A) (tk : Takes X Wx) (hg : Gl X x := by rfl) (hdb : (x == ("__debug__" : Str)) = false := by decide) : PD X Wx (.Call (.Name x p) [] [] pos) (fun ρ S => fF [] S) := by
  obtain ⟨⟨hlen, fd, F, hb, hk⟩, hm⟩ := F
  refine ⟨tCallS (spD X.K ps.length fF) (WE Wx) tNil, ⟨fun pins s σ H Q I h => ?_⟩, fun P ι G σ S H ρ Q s e post => ?_⟩
  · refine wpAny_Call_Name_kw (ld_glob I hg hm ?_ hdb)
    exact PySem.W.callWith_K0 I.kIn hk (run_fnGS (us := []) (vs := []) (dvs := []) (ds := []) (E := WE Wx) hA F hr hb .nil (passAt tk σ) I .nil (by exact h))
  · exact call_post hlen s .nil post
/-! errors -/
def mkE (c : Str) (fls : List Str) (us : List U) (ρ : Env) (S : Store) : Fl := match allD us with
  | some ds => if ds.length = fls.length then .err c (fls.zip ds).reverse ρ S else .bad
  | none => .bad
theorem rvf_zip {K : PySem.W.Frag} {G : Hp} : ∀ {fls : List Str} {vs : List V} {ds : List D}, RvAll K G vs ds → RvF K G (fls.zip vs) (fls.zip ds)
  | [], _, _, _ => by simp; exact .nil
  | f :: t, _, _, .nil => .nil
  | f :: t, _, _, .cons h r => .cons h (rvf_zip r)
theorem rvf_snoc {K : PySem.W.Frag} {G : Hp} {f : Str} {v : V} {d : D} (h : Rv K G v d) : ∀ {l : List (Str × V)} {m : List (Str × D)}, RvF K G l m → RvF K G (l ++ [(f, v)]) (m ++ [(f, d)])
  | _, _, .nil => .cons h .nil
  | _, _, .cons h1 r => .cons h1 (rvf_snoc h r)
theorem rvf_rev {K : PySem.W.Frag} {G : Hp} : ∀ {l : List (Str × V)} {m : List (Str × D)}, RvF K G l m → RvF K G l.reverse m.reverse
  | _, _, .nil => .nil
  | _, _, .cons h r => by rw [List.reverse_cons, List.reverse_cons]; exact rvf_snoc h (rvf_rev r)
/-- raise C(e), an error of one field -/
theorem pds_raise {fl : Str} {fI : Addr} {pos2 : Pos} (hc : X.calm = true) (T : PySem.WErr.ErrTxt X.prog X.K X.mg x fl (ga X.K x) fI) (hr : Room k X.A) (tk : Takes X Wx) (ha : PDA X Wx [e] As) (hg : Gl X x := by rfl) (hdb : (x == ("__debug__" : Str)) = false := by decide)
    (h : ∀ {t : TA}, PA X [e] t → PS X (.Raise (some (.Call (.Name x p) [e] [] pos)) none pos2) (tRaiseErr (ga X.K x) fl Wx t)) : PDS X Wx (.Raise (some (.Call (.Name x p) [e] [] pos)) none pos2) (fun ρ S => (As ρ S).fl ρ fun us S => mkE x [fl] us ρ S) := by
  obtain ⟨ta, pa, da⟩ := ha
  refine ⟨_, h pa, fun P ι G σ S H ρ E s e post => ?_⟩
  refine da P ι G σ S H ρ _ s e (Post.fl e post fun us S1 ι1 G1 H1 vs p1 e1 s1 rv r1 post1 => ?_)
  unfold mkE at post1
  split at post1
  · rename_i ds hd
    have h2 := rv.all hd
    split at post1
    · rename_i hl
      match ds, hl, h2, post1 with
      | [d], _, h2, post1 =>
        cases h2 with
        | cons h3 h4 =>
          cases h4
          refine ⟨_, rfl, fun dd hdd => ?_⟩
          exact post1 ι1 _ σ _ (some dd) (List.prefix_refl _) (s1.exN hdd) (s1.new hdd) (r1.up (List.prefix_refl _) (s1.exN hdd)) (.inr ⟨dd, _, rfl, upd_same, .cons (h3.ex (s1.exN hdd)) .nil⟩)
    · exact post1.elim
  · exact post1.elim
end
end DL
set_option Elab.async false
set_option linter.all false
set_option maxRecDepth 100000
set_option maxHeartbeats 4000000
/-! ### operators and built-ins over data -/
namespace DL
open PySem PySem.Spec PyProof.Rows L2
open He (ga ma)
open Evl (Ex)
open TL (tl)
/-! data as the library's data -/
mutual
def D.py : D → PyData
  | .non => .none
  | .bl b => .bool b
  | .int i => .int i
  | .str z => .str z
  | .tup ds => .tuple (pyAll ds)
  | .lst ds => .list (pyAll ds)
  | _ => .none
def pyAll : List D → List PyData
  | [] => []
  | d :: t => d.py :: pyAll t
end
mutual
def D.plain : D → Bool
  | .non => true
  | .bl _ => true
  | .int _ => true
  | .str _ => true
  | .tup ds => plainAll ds
  | .lst ds => plainAll ds
  | _ => false
def plainAll : List D → Bool
  | [] => true
  | d :: t => d.plain && plainAll t
end
theorem pyAll_map (ds : List D) : pyAll ds = ds.map D.py := by
  induction ds with
  | nil => rfl
  | cons d t ih => rw [pyAll, ih]; rfl
theorem plainAll_all (ds : List D) : plainAll ds = ds.all D.plain := by
  induction ds with
  | nil => rfl
  | cons d t ih => rw [plainAll, ih]; rfl
mutual
theorem Rv.dp {K : PySem.W.Frag} {G : Hp} : ∀ {v : V} {d : D}, Rv K G v d → d.plain = true → Dp K G v d.py
  | _, _, .non, _ => .non
  | _, _, .bl b, _ => .bl b
  | _, _, .int i, _ => .int i
  | _, _, .str z, _ => .str z
  | _, _, .tup h1 h2, h => .tup h1 (RvAll.dp h2 h)
  | _, _, .lst h1 h2, h => .lst h1 (RvAll.dp h2 h)
  | _, _, .obj h1 h2, h => by cases h
  | _, _, .ty _, h => by cases h
  | _, _, .cls _, h => by cases h
theorem RvAll.dp {K : PySem.W.Frag} {G : Hp} : ∀ {vs : List V} {ds : List D}, RvAll K G vs ds → plainAll ds = true → DpAll K G vs (pyAll ds)
  | _, _, .nil, _ => .nil
  | _, _, .cons h1 h2, h => .cons (Rv.dp h1 (Bool.and_eq_true_iff.mp h).1) (RvAll.dp h2 (Bool.and_eq_true_iff.mp h).2)
end
/-- a value as data: a list that changes is told as it stands -/
def dat (u : U) (S : Store) : Option D := match u with
  | .d x => some x
  | .r n => match S[n]? with
    | some (.frz x) => some x
    | some (.lst us) => (allD us).map .lst
    | _ => none
def okD (x : D) : Bool := x.plain && SeqAt.shaped x.py
section
variable {X : Cx} {K : PySem.W.Frag} {Wx : WX} {P : Hp} {ι : List Addr} {G H : Hp} {S : Store} {σ : L2.St} {Q : VK}
theorem dat_ok {v : V} {u : U} {x : D} (s : Sr K P ι G S H) (r : RU K ι G v u) (h : dat u S = some x) (hp : x.plain = true) : Dp K H v x.py := by
  match u, r, h with
  | .d y, r, h =>
    obtain rfl : y = x := Option.some.inj h
    exact Dp.ex s.ex (Rv.dp r hp)
  | .r n, ⟨a, hn, hv⟩, h =>
    subst hv
    simp only [dat] at h
    split at h
    · rename_i y hc
      obtain rfl : y = x := Option.some.inj h
      exact Dp.ex s.ex (Rv.dp (s.at_ n _ a hc hn) hp)
    · rename_i us hc
      obtain ⟨_, vs, h1, h2⟩ := s.at_ n _ a hc hn
      cases hd : allD us with
      | none => rw [hd] at h; cases h
      | some ds =>
        rw [hd] at h
        obtain rfl : D.lst ds = x := Option.some.inj h
        have h3 := (RUs.all h2 hd).dp hp
        have : DpAll K H vs (pyAll ds) := by
          have : ∀ {vs : List V} {es : List PyData}, DpAll K G vs es → DpAll K H vs es := fun h => DpAll.ex s.ex h
          exact this h3
        exact .lst (SqL.of h1) this
    · cases h
/-! == and != -/
def eqU (a b : U) (S : Store) : Res U := match dat a S, dat b S with
  | some (.str x), some (.str y) => .ok (.d (.bl (decide (x = y)))) S
  | some x, some y => if okD x = true ∧ okD y = true then .ok (.d (.bl (PyData.eqv x.py y.py))) S else .bad
  | _, _ => .bad
def neU (a b : U) (S : Store) : Res U := match dat a S, dat b S with
  | some x, some y => if okD x = true ∧ okD y = true then .ok (.d (.bl (!PyData.eqv x.py y.py))) S else .bad
  | _, _ => .bad
theorem okD_iff {x : D} (h : okD x = true) : x.plain = true ∧ SeqAt.shaped x.py = true := Bool.and_eq_true_iff.mp h
theorem od_eq {k : Nat} (hr : Room k X.A) : OpD X (compareOp .Eq) eqU := by
  refine ⟨_, OpR.or op_eq (op_eqD hr.units), fun Wx P ι G S H v1 v2 u1 u2 σ Q s r1 r2 post => ?_⟩
  unfold eqU at post
  split at post
  · rename_i x y h1 h2
    have e1 := dat_ok s r1 h1 rfl
    have e2 := dat_ok s r2 h2 rfl
    cases e1
    cases e2
    refine .inl ⟨rfl, ?_⟩
    have : decide (V.str x = V.str y) = decide (x = y) := decide_eq_decide.mpr ⟨fun h => V.str.inj h, fun h => by rw [h]⟩
    rw [this]
    exact post.ok s (.bl _)
  · rename_i x y _ h1 h2
    split at post
    · rename_i h
      obtain ⟨a1, a2⟩ := okD_iff h.1
      obtain ⟨b1, b2⟩ := okD_iff h.2
      exact .inr ⟨_, _, dat_ok s r1 h1 a1, dat_ok s r2 h2 b1, a2, b2, post.ok s (.bl _)⟩
    · exact post.elim
  · exact post.elim
theorem od_ne {k : Nat} (hr : Room k X.A) : OpD X (compareOp .NotEq) neU := by
  refine ⟨_, op_neD hr.units, fun Wx P ι G S H v1 v2 u1 u2 σ Q s r1 r2 post => ?_⟩
  unfold neU at post
  split at post
  · rename_i x y h1 h2
    split at post
    · rename_i h
      obtain ⟨a1, a2⟩ := okD_iff h.1
      obtain ⟨b1, b2⟩ := okD_iff h.2
      exact ⟨_, _, dat_ok s r1 h1 a1, dat_ok s r2 h2 b1, a2, b2, post.ok s (.bl _)⟩
    · exact post.elim
  · exact post.elim
/-! ints -/
def intOp (C : Int → Int → Bool) (f : Int → Int → D) (a b : U) (S : Store) : Res U := match a, b with
  | .d (.int i), .d (.int j) => if C i j = true then .ok (.d (f i j)) S else .bad
  | _, _ => .bad
theorem int_ok {f : Value → Value → Sem Value} {C : Int → Int → Bool} {C' : Int → Int → Prop} {g : Int → Int → V} {fD : Int → Int → D} (h : OpR X f (rI C' g)) (hC : ∀ i j, C i j = true → C' i j) (hg : ∀ G i j, Rv X.K G (g i j) (fD i j)) : OpD X f (intOp C fD) := by
  refine ⟨_, h, fun Wx P ι G S H v1 v2 u1 u2 σ Q s r1 r2 post => ?_⟩
  unfold intOp at post
  split at post
  · split at post
    · rename_i hc
      cases r1
      cases r2
      exact ⟨_, _, rfl, rfl, hC _ _ hc, post.ok s (hg _ _ _)⟩
    · exact post.elim
  · exact post.elim
theorem int_ok0 {f : Value → Value → Sem Value} {g : Int → Int → V} {fD : Int → Int → D} (h : OpR X f (rI0 g)) (hg : ∀ G i j, Rv X.K G (g i j) (fD i j)) : OpD X f (intOp (fun _ _ => true) fD) := by
  refine ⟨_, h, fun Wx P ι G S H v1 v2 u1 u2 σ Q s r1 r2 post => ?_⟩
  unfold intOp at post
  split at post
  · rw [if_pos rfl] at post
    cases r1
    cases r2
    exact ⟨_, _, rfl, rfl, post.ok s (hg _ _ _)⟩
  · exact post.elim
abbrev subU := intOp (fun _ _ => true) fun i j => .int (i - j)
abbrev ltU := intOp (fun _ _ => true) fun i j => .bl (decide (i < j))
abbrev leU := intOp (fun _ _ => true) fun i j => .bl (decide (i ≤ j))
abbrev gtU := intOp (fun _ _ => true) fun i j => .bl (decide (j < i))
abbrev geU := intOp (fun _ _ => true) fun i j => .bl (decide (j ≤ i))
theorem od_sub : OpD X (binaryOp .Sub) subU := int_ok0 op_sub fun _ _ _ => .int _
theorem od_lt : OpD X (compareOp .Lt) ltU := int_ok0 op_lt fun _ _ _ => .bl _
theorem od_le : OpD X (compareOp .LtE) leU := int_ok0 op_le fun _ _ _ => .bl _
theorem od_gt : OpD X (compareOp .Gt) gtU := int_ok0 op_gt fun _ _ _ => .bl _
theorem od_ge : OpD X (compareOp .GtE) geU := int_ok0 op_ge fun _ _ _ => .bl _
def mulC (i j : Int) : Bool := (decide (-(2 ^ 64) < i) && decide (i < 2 ^ 64)) || (decide (-(2 ^ 64) < j) && decide (j < 2 ^ 64))
abbrev mulU := intOp mulC fun i j => .int (i * j)
theorem od_mul : OpD X (binaryOp .Mult) mulU := int_ok op_mul (fun i j h => by
  unfold mulC at h
  rw [Bool.or_eq_true, Bool.and_eq_true, Bool.and_eq_true] at h
  rcases h with h | h
  · exact .inl ⟨of_decide_eq_true h.1, of_decide_eq_true h.2⟩
  · exact .inr ⟨of_decide_eq_true h.1, of_decide_eq_true h.2⟩) fun _ _ _ => .int _
abbrev modU := intOp (fun _ j => decide (0 < j)) fun i j => .int (i % j)
theorem od_mod : OpD X (binaryOp .Mod) modU := int_ok op_mod (fun i j h => of_decide_eq_true h) fun _ _ _ => .int _
abbrev divU := intOp (fun _ j => decide (0 < j) && decide (j ≤ 10 ^ 60)) fun i j => .int (i / j)
theorem od_div : OpD X (binaryOp .FloorDiv) divU := int_ok op_fdivW (fun i j h => by
  rw [Bool.and_eq_true] at h
  exact div_ok (of_decide_eq_true h.1) (of_decide_eq_true h.2)) fun _ _ _ => .int _
def powC (i j : Int) : Bool := decide (0 ≤ j) && (decide (j ≤ 1000000) && decide (i.natAbs < 2 ^ 64))
abbrev powU := intOp powC fun i j => .int (i ^ j.toNat)
theorem od_pow : OpD X (binaryOp .Pow) powU := int_ok op_pow (fun i j h => by
  unfold powC at h
  rw [Bool.and_eq_true, Bool.and_eq_true] at h
  exact ⟨of_decide_eq_true h.1, of_decide_eq_true h.2.1, of_decide_eq_true h.2.2⟩) fun _ _ _ => .int _
def negU (a : U) (S : Store) : Res U := match a with
  | .d (.int i) => .ok (.d (.int (-i))) S
  | _ => .bad
theorem ud_neg : UnD X (unaryOp .USub) negU := by
  refine ⟨_, un_neg, fun Wx P ι G S H v u σ Q s r post => ?_⟩
  unfold negU at post
  split at post
  · cases r
    exact ⟨_, rfl, post.ok s (.int _)⟩
  · exact post.elim
/-! + -/
def rCatR (K : PySem.W.Frag) : R2 := fun x y H Q => ∃ l b xs zs, x = .ref l ∧ y = .ref b ∧ SqL K H l xs ∧ SqL K H b zs ∧ xs.length + zs.length ≤ sizeLine ∧ ∀ p, H p = none → Q (.ref p) (upd H p (.lst (xs ++ zs)))
theorem op_catR : OpR X (binaryOp .Add) (rCatR X.K) := by
  intro pins s σ H x y v u Q I rx ry h
  obtain ⟨l, b, xs, zs, rfl, rfl, hH, hB, hz, q⟩ := h
  cases rx
  cases ry
  obtain ⟨its, r, ⟨⟨cls, dd, data, sl⟩, n, ho, hc, hdd, hd⟩, _⟩ := I.list hH
  obtain ⟨its2, r2, ⟨⟨cls2, dd2, data2, sl2⟩, n2, ho2, hc2, hdd2, hd2⟩, _⟩ := I.list hB
  simp only at hc hd hc2 hd2
  subst hc hd hc2 hd2
  have hl := r.length
  have hl2 := r2.length
  refine concat_meets ⟨_, ho, rfl⟩ ⟨_, ho2, rfl⟩ noFill_list_add seq_list_add PySem.F.slot_list_add PySem.F.entry_list_add (PySem.F.args_list_add_2 _ _) (list_addW l b its.toArray its2.toArray n n2 dd dd2 sl sl2 (by rw [List.size_toArray, List.size_toArray]; omega)) ⟨ho, ho2, ?_⟩
  have ea : its.toArray ++ its2.toArray = (its ++ its2).toArray := by simp
  rw [ea]
  exact ⟨.ref _, _, I.lnew (t' := s.toks) (r.append r2) (by rw [List.length_append]; omega), rfl, q _ I.fresh⟩
def addU (a b : U) (S : Store) : Res U := match a, b with
  | .d (.int i), .d (.int j) => .ok (.d (.int (i + j))) S
  | .d (.str x), .d (.str y) => if x.length + y.length ≤ sizeLine then .ok (.d (.str (x ++ y))) S else .bad
  | .d (.tup x), .d (.tup y) => if x.length + y.length ≤ sizeLine then .ok (.d (.tup (x ++ y))) S else .bad
  | .d (.lst x), .d (.lst y) => if x.length + y.length ≤ sizeLine then .ok (.d (.lst (x ++ y))) S else .bad
  | _, _ => .bad
theorem RvAll.app {vs ws : List V} {ds es : List D} (h : RvAll K G vs ds) (h' : RvAll K G ws es) : RvAll K G (vs ++ ws) (ds ++ es) := RvAll.of (paired_app h.pair h'.pair)
theorem od_add : OpD X (binaryOp .Add) addU := by
  refine ⟨_, OpR.or op_add (OpR.or op_add_str (OpR.or op_catA op_catR)), fun Wx P ι G S H v1 v2 u1 u2 σ Q s r1 r2 post => ?_⟩
  unfold addU at post
  split at post
  · cases r1
    cases r2
    exact .inl ⟨_, _, rfl, rfl, post.ok s (.int _)⟩
  · split at post
    · rename_i hz
      cases r1
      cases r2
      exact .inr (.inl ⟨_, _, rfl, rfl, hz, post.ok s (.str _)⟩)
    · exact post.elim
  · split at post
    · rename_i hz
      cases r1 with
      | tup a1 a2 =>
        cases r2 with
        | tup b1 b2 =>
          have l1 := paired_len a2.pair
          have l2 := paired_len b2.pair
          refine .inr (.inr (.inl ⟨_, _, _, _, rfl, rfl, Evl.ex_t s.ex a1, Evl.ex_t s.ex b1, by omega, fun hx => ?_, fun hx hy => ?_, fun hx hy p hp => ?_⟩))
          · subst hx
            cases a2
            exact post.ok s (.tup b1 b2)
          · subst hy
            cases b2
            rw [List.append_nil] at post
            exact post.ok s (.tup a1 a2)
          · exact post ι _ _ (.ref p) (List.prefix_refl _) (s.exN hp) (s.new hp) (.tup (SqT.of upd_same) ((a2.app b2).ex (s.exN hp)))
    · exact post.elim
  · split at post
    · rename_i hz
      cases r1 with
      | lst a1 a2 =>
        cases r2 with
        | lst b1 b2 =>
          have l1 := paired_len a2.pair
          have l2 := paired_len b2.pair
          refine .inr (.inr (.inr ⟨_, _, _, _, rfl, rfl, Evl.ex_l s.ex a1, Evl.ex_l s.ex b1, by omega, fun p hp => ?_⟩))
          exact post ι _ _ (.ref p) (List.prefix_refl _) (s.exN hp) (s.new hp) (.lst (SqL.of upd_same) ((a2.app b2).ex (s.exN hp)))
    · exact post.elim
  · exact post.elim
end
end DL
set_option Elab.async false
set_option linter.all false
set_option maxRecDepth 100000
set_option maxHeartbeats 4000000
/-! ### in, is, subscripts, built-in calls, methods over data -/
namespace DL
open PySem PySem.Spec PyProof.Rows L2
open He (ga ma)
open Evl (Ex)
open TL (tl)
section
variable {X : Cx} {K : PySem.W.Frag} {Wx : WX} {P : Hp} {ι : List Addr} {G H : Hp} {S : Store} {σ : L2.St} {Q : VK}
/-! in -/
def rInDT (K : PySem.W.Frag) : R2 := fun x y H Q => ∃ d ds, Dp K H x d ∧ Dp K H y (.tuple ds) ∧ SeqAt.shaped d = true ∧ SeqAt.shaped (.tuple ds) = true ∧ Q (.bl (ds.any fun z => PyData.eqv z d)) H
def rNotInDT (K : PySem.W.Frag) : R2 := fun x y H Q => ∃ d ds, Dp K H x d ∧ Dp K H y (.tuple ds) ∧ SeqAt.shaped d = true ∧ SeqAt.shaped (.tuple ds) = true ∧ Q (.bl (!ds.any fun z => PyData.eqv z d)) H
theorem op_inDT (hu : X.A.units + 65 < cLine) : OpR X (compareOp .In) (rInDT X.K) := by
  intro pins s σ H x y v u Q I rx ry h
  obtain ⟨d, ds, hd, he, sd, se, q⟩ := h
  obtain ⟨as, r1⟩ := Dp.reads I d x v hd rx
  obtain ⟨bs, r2⟩ := Dp.reads I (.tuple ds) y u he ry
  exact SeqAt.in_tuple_reads r2 r1 (SeqAt.canLay_of_shaped se) (SeqAt.canLay_of_shaped sd) (room_in_shaped sd hu) ⟨.bl _, H, I, rfl, q⟩
theorem op_notInDT (hu : X.A.units + 65 < cLine) : OpR X (compareOp .NotIn) (rNotInDT X.K) := by
  intro pins s σ H x y v u Q I rx ry h
  obtain ⟨d, ds, hd, he, sd, se, q⟩ := h
  obtain ⟨as, r1⟩ := Dp.reads I d x v hd rx
  obtain ⟨bs, r2⟩ := Dp.reads I (.tuple ds) y u he ry
  exact SeqAt.notIn_tuple_reads r2 r1 (SeqAt.canLay_of_shaped se) (SeqAt.canLay_of_shaped sd) (room_in_shaped sd hu) ⟨.bl _, H, I, rfl, q⟩
/-- how the answer is told: in, not in -/
def inB (neg b : Bool) : Bool := if neg then !b else b
def inU (neg : Bool) (a b : U) (S : Store) : Res U := match dat a S, dat b S with
  | some (.str x), some (.str z) => match tl x with
    | [c] => .ok (.d (.bl (inB neg (decide (c ∈ tl z))))) S
    | _ => .bad
  | some x, some (.lst ds) => if okD x = true ∧ okD (.lst ds) = true then .ok (.d (.bl (inB neg (ds.any fun z => PyData.eqv z.py x.py)))) S else .bad
  | some x, some (.tup ds) => if okD x = true ∧ okD (.tup ds) = true then .ok (.d (.bl (inB neg (ds.any fun z => PyData.eqv z.py x.py)))) S else .bad
  | _, _ => .bad
theorem dat_str {v : V} {u : U} {x : Str} (s : Sr K P ι G S H) (r : RU K ι G v u) (h : dat u S = some (.str x)) : v = .str x := by
  have := dat_ok s r h rfl
  cases this
  rfl
theorem any_py (ds : List D) (p : PyData) : ((pyAll ds).any fun z => PyData.eqv z p) = ds.any fun z => PyData.eqv z.py p := by
  rw [pyAll_map, List.any_map]; rfl
theorem lt65 {k : Nat} {A : Around} (hr : Room k A) : A.units + 65 < cLine := by have := hr.un; omega
theorem od_in {k : Nat} (hr : Room k X.A) : OpD X (compareOp .In) (inU false) := by
  refine ⟨_, OpR.or op_in_sign (OpR.or (op_inD (lt65 hr)) (op_inDT (lt65 hr))), fun Wx P ι G S H v1 v2 u1 u2 σ Q s r1 r2 post => ?_⟩
  unfold inU at post
  split at post
  · rename_i x z h1 h2
    split at post
    · rename_i c hc
      have e1 := dat_str s r1 h1
      have e2 := dat_str s r2 h2
      have hx : x = ⟨#[c]⟩ := by
        have : (⟨(tl x).toArray⟩ : Str) = x := by simp [tl]
        rw [← this, hc]
      refine .inl ⟨c, z, by rw [e1, hx], e2, post.ok s (.bl _)⟩
    · exact post.elim
  · rename_i _ x ds h1 h2
    split at post
    · rename_i h
      obtain ⟨a1, a2⟩ := okD_iff h.1
      obtain ⟨b1, b2⟩ := okD_iff h.2
      refine .inr (.inl ⟨_, _, dat_ok s r1 h1 a1, dat_ok s r2 h2 b1, a2, b2, ?_⟩)
      rw [any_py]
      exact post.ok s (.bl _)
    · exact post.elim
  · rename_i _ x ds h1 h2
    split at post
    · rename_i h
      obtain ⟨a1, a2⟩ := okD_iff h.1
      obtain ⟨b1, b2⟩ := okD_iff h.2
      refine .inr (.inr ⟨_, _, dat_ok s r1 h1 a1, dat_ok s r2 h2 b1, a2, b2, ?_⟩)
      rw [any_py]
      exact post.ok s (.bl _)
    · exact post.elim
  · exact post.elim
theorem od_notin {k : Nat} (hr : Room k X.A) : OpD X (compareOp .NotIn) (inU true) := by
  refine ⟨_, OpR.or op_notIn_sign (OpR.or (op_notInD (lt65 hr)) (op_notInDT (lt65 hr))), fun Wx P ι G S H v1 v2 u1 u2 σ Q s r1 r2 post => ?_⟩
  unfold inU at post
  split at post
  · rename_i x z h1 h2
    split at post
    · rename_i c hc
      have e1 := dat_str s r1 h1
      have e2 := dat_str s r2 h2
      have hx : x = ⟨#[c]⟩ := by
        have : (⟨(tl x).toArray⟩ : Str) = x := by simp [tl]
        rw [← this, hc]
      refine .inl ⟨c, z, by rw [e1, hx], e2, post.ok s (.bl _)⟩
    · exact post.elim
  · rename_i _ x ds h1 h2
    split at post
    · rename_i h
      obtain ⟨a1, a2⟩ := okD_iff h.1
      obtain ⟨b1, b2⟩ := okD_iff h.2
      refine .inr (.inl ⟨_, _, dat_ok s r1 h1 a1, dat_ok s r2 h2 b1, a2, b2, ?_⟩)
      rw [any_py]
      exact post.ok s (.bl _)
    · exact post.elim
  · rename_i _ x ds h1 h2
    split at post
    · rename_i h
      obtain ⟨a1, a2⟩ := okD_iff h.1
      obtain ⟨b1, b2⟩ := okD_iff h.2
      refine .inr (.inr ⟨_, _, dat_ok s r1 h1 a1, dat_ok s r2 h2 b1, a2, b2, ?_⟩)
      rw [any_py]
      exact post.ok s (.bl _)
    · exact post.elim
  · exact post.elim
/-! is None -/
def isNonU : U → Bool
  | .d .non => true
  | _ => false
def isU (neg : Bool) (a b : U) (S : Store) : Res U := match b with
  | .d .non => .ok (.d (.bl (inB neg (isNonU a)))) S
  | _ => .bad
theorem non_iff {v : V} {u : U} (r : RU K ι G v u) : decide (v = .non) = isNonU u := by
  match u, r with
  | .r n, ⟨a, _, hv⟩ => subst hv; rfl
  | .d x, r => cases r <;> rfl
theorem od_is : OpD X (compareOp .Is) (isU false) := by
  refine ⟨_, op_isN, fun Wx P ι G S H v1 v2 u1 u2 σ Q s r1 r2 post => ?_⟩
  unfold isU at post
  split at post
  · cases r2
    refine ⟨rfl, ?_⟩
    rw [non_iff r1]
    exact post.ok s (.bl _)
  · exact post.elim
theorem od_isnot : OpD X (compareOp .IsNot) (isU true) := by
  refine ⟨_, op_notN, fun Wx P ι G S H v1 v2 u1 u2 σ Q s r1 r2 post => ?_⟩
  unfold isU at post
  split at post
  · cases r2
    refine ⟨rfl, ?_⟩
    rw [non_iff r1]
    exact post.ok s (.bl _)
  · exact post.elim
/-! subscripts -/
def optR {α : Type} (o : Option α) (f : α → U) (S : Store) : Res U := match o with
  | some x => .ok (f x) S
  | none => .bad
def ixU (a b : U) (S : Store) : Res U := match a, b with
  | .d (.lst ds), .d (.int i) => optR (atI ds i) .d S
  | .d (.tup ds), .d (.int i) => optR (atI ds i) .d S
  | .d (.str z), .d (.int i) => if z.length ≤ sizeLine then optR (atI (tl z) i) (fun c => .d (.str ⟨#[c]⟩)) S else .bad
  | .r n, .d (.int i) => match S[n]? with
    | some (.lst us) => optR (atI us i) id S
    | _ => .bad
  | _, _ => .bad
theorem atI_pair {α β : Type} {F : α → β → Prop} {l1 : List α} {l2 : List β} (h : Paired F l1 l2) {i : Int} {b : β} (e : atI l2 i = some b) : ∃ a, atI l1 i = some a ∧ F a b := by
  unfold atI at e ⊢
  rw [paired_len h]
  cases hj : ixN l2.length i with
  | none => rw [hj] at e; cases e
  | some j =>
    rw [hj] at e
    exact paired_get h e
theorem ixd : IxD X ixU := by
  refine ⟨_, ix_seq, fun Wx P ι G S H v1 v2 u1 u2 σ Q s r1 r2 post => ?_⟩
  unfold ixU at post
  split at post
  · cases r1 with
    | lst a1 a2 =>
      cases r2
      unfold optR at post
      split at post
      · rename_i i _ d hd
        obtain ⟨v, hv, rv⟩ := atI_pair a2.pair hd
        exact .inl ⟨_, _, _, v, rfl, rfl, Evl.ex_l s.ex a1, hv, post.ok s rv⟩
      · exact post.elim
  · cases r1 with
    | tup a1 a2 =>
      cases r2
      unfold optR at post
      split at post
      · rename_i i _ d hd
        obtain ⟨v, hv, rv⟩ := atI_pair a2.pair hd
        exact .inr (.inl ⟨_, _, _, v, rfl, rfl, Evl.ex_t s.ex a1, hv, post.ok s rv⟩)
      · exact post.elim
  · split at post
    · rename_i hz
      cases r1
      cases r2
      unfold optR at post
      split at post
      · rename_i c hc
        exact .inr (.inr ⟨_, _, c, rfl, rfl, hz, hc, post.ok s (.str _)⟩)
      · exact post.elim
    · exact post.elim
  · rename_i n i
    cases r2
    obtain ⟨a, hn, hv⟩ := r1
    subst hv
    split at post
    · rename_i us hc
      obtain ⟨_, vs, h1, h2⟩ := s.at_ n _ a hc hn
      unfold optR at post
      split at post
      · rename_i u hu
        obtain ⟨v, hv, rv⟩ := atI_pair h2 hu
        exact .inl ⟨_, _, _, v, rfl, rfl, SqL.of h1, hv, post.ok s rv⟩
      · exact post.elim
    · exact post.elim
  · exact post.elim
/-! slices -/
def cutL {α : Type} (xs : List α) (lo hi : Option Int) : List α := (xs.drop (HT.sIx xs.length 0 lo)).take (HT.sIx xs.length xs.length hi - HT.sIx xs.length 0 lo)
def slU (a : U) (lo hi : Option Int) (S : Store) : Res U := match a with
  | .d (.lst ds) => .ok (.d (.lst (cutL ds lo hi))) S
  | .d (.tup ds) => .ok (.d (.tup (cutL ds lo hi))) S
  | .d (.str z) => if z.length ≤ sizeLine then .ok (.d (.str (cutS z lo hi))) S else .bad
  | .r n => match S[n]? with
    | some (.lst us) => match allD us with
      | some ds => .ok (.d (.lst (cutL ds lo hi))) S
      | none => .bad
    | _ => .bad
  | _ => .bad
theorem paired_drop {α β : Type} {F : α → β → Prop} : ∀ {l1 : List α} {l2 : List β} (n : Nat), Paired F l1 l2 → Paired F (l1.drop n) (l2.drop n)
  | _, _, 0, h => h
  | _, _, _ + 1, .nil => .nil
  | _, _, n + 1, .cons _ t => paired_drop n t
theorem paired_take {α β : Type} {F : α → β → Prop} : ∀ {l1 : List α} {l2 : List β} (n : Nat), Paired F l1 l2 → Paired F (l1.take n) (l2.take n)
  | _, _, 0, _ => .nil
  | _, _, _ + 1, .nil => .nil
  | _, _, n + 1, .cons f t => .cons f (paired_take n t)
theorem paired_cut {α β : Type} {F : α → β → Prop} {l1 : List α} {l2 : List β} (h : Paired F l1 l2) (lo hi : Option Int) : Paired F (cutL l1 lo hi) (cutL l2 lo hi) := by
  unfold cutL
  rw [paired_len h]
  exact paired_take _ (paired_drop _ h)
theorem cutV_eq (xs : List V) (lo hi : Option Int) : cutV xs lo hi = cutL xs lo hi := rfl
theorem cutL_all {α : Type} {xs : List α} {lo hi : Option Int} (h1 : HT.sIx xs.length 0 lo = 0) (h2 : HT.sIx xs.length xs.length hi = xs.length) : cutL xs lo hi = xs := by
  unfold cutL
  rw [h1, h2]
  simp
theorem sld : SlD X slU := by
  refine ⟨_, SlR.or sl_list (SlR.or sl_tupA sl_str), fun Wx P ι G S H v u lo hi σ Q s r post => ?_⟩
  unfold slU at post
  split at post
  · cases r with
    | lst a1 a2 =>
      refine .inl ⟨_, _, rfl, Evl.ex_l s.ex a1, fun p hp => ?_⟩
      exact post ι _ _ (.ref p) (List.prefix_refl _) (s.exN hp) (s.new hp) (.lst (SqL.of upd_same) ((RvAll.of (paired_cut a2.pair lo hi)).ex (s.exN hp)))
  · rename_i ds
    cases r with
    | tup a1 a2 =>
      have hl := paired_len a2.pair
      refine .inr (.inl ⟨_, _, rfl, Evl.ex_t s.ex a1, fun hw => ?_, fun hw p hp => ?_⟩)
      · rw [hl] at hw
        rw [cutL_all hw.1 hw.2] at post
        exact post.ok s (.tup a1 a2)
      · exact post ι _ _ (.ref p) (List.prefix_refl _) (s.exN hp) (s.new hp) (.tup (SqT.of upd_same) ((RvAll.of (paired_cut a2.pair lo hi)).ex (s.exN hp)))
  · split at post
    · rename_i hz
      cases r
      exact .inr (.inr ⟨_, rfl, hz, post.ok s (.str _)⟩)
    · exact post.elim
  · rename_i n
    obtain ⟨a, hn, hv⟩ := r
    subst hv
    split at post
    · rename_i us hc
      split at post
      · rename_i ds hd
        obtain ⟨_, vs, h1, h2⟩ := s.at_ n _ a hc hn
        have h3 := RUs.all h2 hd
        refine .inl ⟨_, _, rfl, SqL.of h1, fun p hp => ?_⟩
        exact post ι _ _ (.ref p) (List.prefix_refl _) (s.exN hp) (s.new hp) (.lst (SqL.of upd_same) ((RvAll.of (paired_cut h3.pair lo hi)).ex (s.exN hp)))
      · exact post.elim
    · exact post.elim
  · exact post.elim
end
end DL
set_option Elab.async false
set_option linter.all false
set_option maxRecDepth 100000
set_option maxHeartbeats 4000000
/-! ### built-in calls, methods over data -/
namespace DL
open PySem PySem.Spec PyProof.Rows L2
open He (ga ma)
open Evl (Ex)
open TL (tl)
section
variable {X : Cx} {K : PySem.W.Frag} {Wx : WX} {P : Hp} {ι : List Addr} {G H : Hp} {S : Store} {σ : L2.St} {Q : VK}
/-- a call of one value -/
def c1 (g : U → Store → Res U) (us : List U) (S : Store) : Res U := match us with
  | [u] => g u S
  | _ => .bad
def c2 (g : U → U → Store → Res U) (us : List U) (S : Store) : Res U := match us with
  | [u, w] => g u w S
  | _ => .bad
theorem call1 {f : Value} {g : U → Store → Res U} {r : List V → Hp → VK → Prop} (hr : CallR X f r) (h : ∀ Wx P ι G S H v u σ Q, Sr X.K P ι G S H → RU X.K ι G v u → Post (RU X.K) X.K Wx P ι G σ Q (g u S) → r [v] H Q) : CallD X f (c1 g) := by
  refine ⟨r, hr, fun Wx P ι G S H vs us σ Q s rv post => ?_⟩
  unfold c1 at post
  split at post
  · cases rv with
    | cons r1 rr =>
      cases rr
      exact h Wx P ι G S H _ _ σ Q s r1 post
  · exact post.elim
theorem call2 {f : Value} {g : U → U → Store → Res U} {r : List V → Hp → VK → Prop} (hr : CallR X f r) (h : ∀ Wx P ι G S H v v2 u u2 σ Q, Sr X.K P ι G S H → RU X.K ι G v u → RU X.K ι G v2 u2 → Post (RU X.K) X.K Wx P ι G σ Q (g u u2 S) → r [v, v2] H Q) : CallD X f (c2 g) := by
  refine ⟨r, hr, fun Wx P ι G S H vs us σ Q s rv post => ?_⟩
  unfold c2 at post
  split at post
  · cases rv with
    | cons r1 rr =>
      cases rr with
      | cons r2 rr =>
        cases rr
        exact h Wx P ι G S H _ _ _ _ σ Q s r1 r2 post
  · exact post.elim
def lenU (u : U) (S : Store) : Res U := match u with
  | .d (.lst ds) => .ok (.d (.int ds.length)) S
  | .d (.tup ds) => .ok (.d (.int ds.length)) S
  | .d (.str z) => if z.length ≤ sizeLine then .ok (.d (.int z.length)) S else .bad
  | .r n => match S[n]? with
    | some (.lst us) => .ok (.d (.int us.length)) S
    | _ => .bad
  | _ => .bad
theorem cd_len : CallD X (.builtin "len") (c1 lenU) := call1 call_len fun Wx P ι G S H v u σ Q s r post => by
  unfold lenU at post
  split at post
  · cases r with
    | lst a1 a2 => exact ⟨_, _, rfl, .inl ⟨_, Evl.ex_l s.ex a1, rfl⟩, by rw [paired_len a2.pair]; exact post.ok s (.int _)⟩
  · cases r with
    | tup a1 a2 => exact ⟨_, _, rfl, .inr ⟨_, Evl.ex_t s.ex a1, rfl⟩, by rw [paired_len a2.pair]; exact post.ok s (.int _)⟩
  · split at post
    · rename_i hz
      cases r
      exact ⟨_, _, rfl, ⟨hz, rfl⟩, post.ok s (.int _)⟩
    · exact post.elim
  · rename_i n
    obtain ⟨a, hn, hv⟩ := r
    subst hv
    split at post
    · rename_i us hc
      obtain ⟨_, vs, h1, h2⟩ := s.at_ n _ a hc hn
      exact ⟨_, _, rfl, .inl ⟨_, SqL.of h1, rfl⟩, by rw [paired_len h2]; exact post.ok s (.int _)⟩
    · exact post.elim
  · exact post.elim
def intU (u : U) (S : Store) : Res U := match u with
  | .d (.int i) => .ok (.d (.int i)) S
  | _ => .bad
theorem cd_int : CallD X (.type "int") (c1 intU) := call1 call_int1 fun Wx P ι G S H v u σ Q s r post => by
  unfold intU at post
  split at post
  · cases r
    exact .inl ⟨_, rfl, post.ok s (.int _)⟩
  · exact post.elim
def absU (u : U) (S : Store) : Res U := match u with
  | .d (.int i) => .ok (.d (.int (if i < 0 then -i else i))) S
  | _ => .bad
theorem cd_abs : CallD X (.builtin "abs") (c1 absU) := call1 call_abs fun Wx P ι G S H v u σ Q s r post => by
  unfold absU at post
  split at post
  · cases r
    exact ⟨_, rfl, post.ok s (.int _)⟩
  · exact post.elim
def max2U (u w : U) (S : Store) : Res U := match u, w with
  | .d (.int i), .d (.int j) => .ok (.d (.int (if j > i then j else i))) S
  | _, _ => .bad
def min2U (u w : U) (S : Store) : Res U := match u, w with
  | .d (.int i), .d (.int j) => .ok (.d (.int (if j < i then j else i))) S
  | _, _ => .bad
theorem cd_max (hc : X.calm = true) : CallD X (.builtin "max") (c2 max2U) := call2 (call_max2 hc) fun Wx P ι G S H v v2 u u2 σ Q s r r2 post => by
  unfold max2U at post
  split at post
  · cases r
    cases r2
    exact ⟨_, _, rfl, post.ok s (.int _)⟩
  · exact post.elim
theorem cd_min (hc : X.calm = true) : CallD X (.builtin "min") (c2 min2U) := call2 (call_min2 hc) fun Wx P ι G S H v v2 u u2 σ Q s r r2 post => by
  unfold min2U at post
  split at post
  · cases r
    cases r2
    exact ⟨_, _, rfl, post.ok s (.int _)⟩
  · exact post.elim
/-! all, any of a list of truths -/
def boolsD : List D → Option (List Bool)
  | [] => some []
  | .bl b :: t => (boolsD t).map (b :: ·)
  | _ :: _ => none
theorem boolsD_map (bs : List Bool) : boolsD (bs.map .bl) = some bs := by
  induction bs with
  | nil => rfl
  | cons b t ih => rw [List.map_cons, boolsD, ih]; rfl
theorem bools_ok : ∀ {vs : List V} {ds : List D} {bs : List Bool}, RvAll K G vs ds → boolsD ds = some bs → vs = bs.map V.bl
  | _, _, bs, .nil, h => by cases h; rfl
  | _, _, bs, .cons (d := d) h1 h2, h => by
    cases d with
    | bl b =>
      rename_i t
      cases e : boolsD t with
      | none => simp [boolsD, e] at h
      | some l =>
        simp [boolsD, e] at h
        subst h
        cases h1
        rw [bools_ok h2 e]
        rfl
    | _ => cases h
def allU (u : U) (S : Store) : Res U := match u with
  | .d (.lst ds) => match boolsD ds with
    | some bs => .ok (.d (.bl (bs.all id))) S
    | none => .bad
  | _ => .bad
def anyU (u : U) (S : Store) : Res U := match u with
  | .d (.lst ds) => match boolsD ds with
    | some bs => .ok (.d (.bl (bs.any id))) S
    | none => .bad
  | _ => .bad
theorem cd_all (hc : X.calm = true) : CallD X (.builtin "all") (c1 allU) := call1 (cr_all hc) fun Wx P ι G S H v u σ Q s r post => by
  unfold allU at post
  split at post
  · split at post
    · rename_i bs hb
      cases r with
      | lst a1 a2 =>
        obtain rfl := bools_ok a2 hb
        exact ⟨_, bs, rfl, Evl.ex_l s.ex a1, post.ok s (.bl _)⟩
    · exact post.elim
  · exact post.elim
theorem cd_any (hc : X.calm = true) : CallD X (.builtin "any") (c1 anyU) := call1 (cr_any hc) fun Wx P ι G S H v u σ Q s r post => by
  unfold anyU at post
  split at post
  · split at post
    · rename_i bs hb
      cases r with
      | lst a1 a2 =>
        obtain rfl := bools_ok a2 hb
        exact ⟨_, bs, rfl, Evl.ex_l s.ex a1, post.ok s (.bl _)⟩
    · exact post.elim
  · exact post.elim
/-! isinstance of data, by a built-in class -/
def tyPy : D → String
  | .non => "NoneType"
  | .bl _ => "bool"
  | .int _ => "int"
  | .str _ => "str"
  | .lst _ => "list"
  | .tup _ => "tuple"
  | _ => ""
def isTy (n : String) : D → Option Bool
  | .non => kitB "NoneType" n
  | .bl _ => kitB "bool" n
  | .int _ => kitB "int" n
  | .str _ => kitB "str" n
  | .lst _ => kitB "list" n
  | .tup _ => kitB "tuple" n
  | _ => none
theorem rv_tyx {v : V} {d : D} {n : String} {b : Bool} (r : Rv K G v d) (h : isTy n d = some b) : ∃ t, TyX K G v (.type t) ∧ kitB t n = some b := by
  cases r with
  | non => exact ⟨_, .base .non, h⟩
  | bl b => exact ⟨_, .base (.bl b), h⟩
  | int i => exact ⟨_, .base (.int i), h⟩
  | str x => exact ⟨_, .base (.str x), h⟩
  | @lst a xs ds h1 _ =>
    rcases h1 with (h1 | ⟨o, h1⟩) | ⟨o, its, n, h1, h2, _⟩
    · exact ⟨_, .base (.lst h1), h⟩
    · exact ⟨_, .base (.frz h1), h⟩
    · exact ⟨_, .kList h1 h2, h⟩
  | @tup a xs ds h1 _ =>
    rcases h1 with (h1 | ⟨o, h1⟩) | ⟨o, its, n, h1, h2, _⟩
    · exact ⟨_, .base (.tup h1), h⟩
    · exact ⟨_, .fTuple h1, h⟩
    · exact ⟨_, .kTuple h1 h2, h⟩
  | obj _ _ => cases h
  | ty _ => cases h
  | cls _ => cases h
theorem TyX.ex {v : V} {t : Value} (e : Ex G H) (h : TyX K G v t) : TyX K H v t := by
  cases h with
  | base h =>
    refine .base ?_
    cases h with
    | non => exact .non
    | bl b => exact .bl b
    | int i => exact .int i
    | str x => exact .str x
    | flt x => exact .flt x
    | lst h => exact .lst (e _ _ h)
    | frz h => exact .frz (e _ _ h)
    | tup h => exact .tup (e _ _ h)
    | dK h => exact .dK (e _ _ h)
    | dT h => exact .dT (e _ _ h)
    | ins h a b c d f => exact .ins (e _ _ h) a b c d f
  | byt b => exact .byt b
  | set h => exact .set (e _ _ h)
  | kList h c => exact .kList h c
  | kTuple h c => exact .kTuple h c
  | kDict h c => exact .kDict h c
  | fTuple h => exact .fTuple (e _ _ h)
  | fDict h => exact .fDict (e _ _ h)
def isiU (u w : U) (S : Store) : Res U := match u, w with
  | .d x, .d (.ty n) => match isTy n x with
    | some b => .ok (.d (.bl b)) S
    | none => .bad
  | _, _ => .bad
theorem cd_isi : CallD X (.builtin "isinstance") (c2 isiU) := call2 call_isi fun Wx P ι G S H v v2 u u2 σ Q s r r2 post => by
  unfold isiU at post
  split at post
  · split at post
    · rename_i b hb
      cases r2
      obtain ⟨t, h1, h2⟩ := rv_tyx r hb
      exact ⟨_, _, _, _, b, rfl, .ty _, TyX.ex s.ex h1, kit_ty h2, post.ok s (.bl _)⟩
    · exact post.elim
  · exact post.elim
/-- a built-in class as a value -/
theorem pd_ty {x : Str} {n : String} {pos : Pos} (hm : X.mg x = none) (hv : bootBuiltins x = some (.type n) := by decide +kernel) (hg : Gl X x := by rfl) (hn : x ≠ "__name__" := by decide) (hd : (x == ("__debug__" : Str)) = false := by decide) : PD X Wx (.Name x pos) (fun _ S => .ok (.d (.ty n)) S) :=
  pd_of (pe_bltn (v := .ty n) hg hm hv rfl hn hd) rfl fun _ => .ty n
/-- a class of the program as a value -/
theorem pd_cls {x : Str} {pos : Pos} (hm : X.mg x = some (.ref (ga X.K x))) (hg : Gl X x := by rfl) (hd : (x == ("__debug__" : Str)) = false := by decide) : PD X Wx (.Name x pos) (fun _ S => .ok (.d (.cls x)) S) :=
  pd_of (pe_glob (v := .ref (ga X.K x)) hg hm rfl hd) rfl fun _ => .cls x
/-! tuple(x), list(x) -/
def tupU (u : U) (S : Store) : Res U := match dat u S with
  | some (.tup ds) => .ok (.d (.tup ds)) S
  | some (.lst ds) => .ok (.d (.tup ds)) S
  | _ => .bad
theorem dat_seq {v : V} {u : U} {ds : List D} (s : Sr K P ι G S H) (r : RU K ι G v u) (h : dat u S = some (.lst ds) ∨ dat u S = some (.tup ds)) : ∃ a xs, v = .ref a ∧ (SqL K H a xs ∨ SqT K G a xs) ∧ RvAll K G xs ds := by
  match u, r, h with
  | .d y, r, h =>
    rcases h with h | h
    · obtain rfl : y = .lst ds := Option.some.inj h
      cases r with
      | lst a1 a2 => exact ⟨_, _, rfl, .inl (Evl.ex_l s.ex a1), a2⟩
    · obtain rfl : y = .tup ds := Option.some.inj h
      cases r with
      | tup a1 a2 => exact ⟨_, _, rfl, .inr a1, a2⟩
  | .r n, ⟨a, hn, hv⟩, h =>
    subst hv
    simp only [dat] at h
    split at h
    · rename_i y hc
      have hr : Rv K G (.ref a) y := s.at_ n _ a hc hn
      rcases h with h | h
      · obtain rfl : y = .lst ds := Option.some.inj h
        cases hr with
        | lst a1 a2 => exact ⟨_, _, rfl, .inl (Evl.ex_l s.ex a1), a2⟩
      · obtain rfl : y = .tup ds := Option.some.inj h
        cases hr with
        | tup a1 a2 => exact ⟨_, _, rfl, .inr a1, a2⟩
    · rename_i us hc
      obtain ⟨_, vs, h1, h2⟩ := s.at_ n _ a hc hn
      cases hd : allD us with
      | none => rw [hd] at h; rcases h with h | h <;> cases h
      | some es =>
        rw [hd] at h
        rcases h with h | h
        · obtain rfl : es = ds := by
            have := Option.some.inj h
            injection this
          exact ⟨_, _, rfl, .inl (SqL.of h1), RUs.all h2 hd⟩
        · have := Option.some.inj h
          cases this
    · rcases h with h | h <;> cases h
theorem cd_tuple : CallD X (.type "tuple") (c1 tupU) := call1 call_tuple_of fun Wx P ι G S H v u σ Q s r post => by
  have key : ∀ ds, (dat u S = some (.lst ds) ∨ dat u S = some (.tup ds)) → Post (RU X.K) X.K Wx P ι G σ Q (.ok (.d (.tup ds)) S) → ∃ p ys, [v] = [.ref p] ∧ ((SqL X.K H p ys ∧ ∀ l, H l = none → Q (.ref l) (upd H l (.tup ys))) ∨ (SqT X.K H p ys ∧ Q (.ref p) H)) := by
    intro ds h post
    obtain ⟨a, xs, rfl, sq, rv⟩ := dat_seq s r h
    refine ⟨a, xs, rfl, ?_⟩
    rcases sq with sq | sq
    · exact .inl ⟨sq, fun p hp => post ι _ _ (.ref p) (List.prefix_refl _) (s.exN hp) (s.new hp) (.tup (SqT.of upd_same) (rv.ex (s.exN hp)))⟩
    · exact .inr ⟨Evl.ex_t s.ex sq, post.ok s (.tup sq rv)⟩
  unfold tupU at post
  split at post
  · rename_i ds h
    exact key ds (.inr h) post
  · rename_i ds h
    exact key ds (.inl h) post
  · exact post.elim
def lstU (u : U) (S : Store) : Res U := match dat u S with
  | some (.tup ds) => .ok (.d (.lst ds)) S
  | some (.lst ds) => .ok (.d (.lst ds)) S
  | _ => .bad
/-- a list that will change -/
def lstMU (u : U) (S : Store) : Res U := match dat u S with
  | some (.tup ds) => .ok (.r S.length) (S ++ [.lst (ds.map .d)])
  | some (.lst ds) => .ok (.r S.length) (S ++ [.lst (ds.map .d)])
  | _ => .bad
theorem seq_any {v : V} {u : U} {ds : List D} (s : Sr K P ι G S H) (r : RU K ι G v u) (h : dat u S = some (.lst ds) ∨ dat u S = some (.tup ds)) : ∃ a xs, v = .ref a ∧ (SqL K H a xs ∨ SqT K H a xs) ∧ RvAll K G xs ds := by
  obtain ⟨a, xs, h1, h2, h3⟩ := dat_seq s r h
  exact ⟨a, xs, h1, h2.elim .inl (fun z => .inr (Evl.ex_t s.ex z)), h3⟩
theorem cd_list : CallD X (.type "list") (c1 lstU) := call1 call_list_of fun Wx P ι G S H v u σ Q s r post => by
  have key : ∀ ds, (dat u S = some (.lst ds) ∨ dat u S = some (.tup ds)) → Post (RU X.K) X.K Wx P ι G σ Q (.ok (.d (.lst ds)) S) → ∃ p ys, [v] = [.ref p] ∧ (SqL X.K H p ys ∨ SqT X.K H p ys) ∧ ∀ l, H l = none → Q (.ref l) (upd H l (.lst ys)) := by
    intro ds h post
    obtain ⟨a, xs, rfl, sq, rv⟩ := seq_any s r h
    exact ⟨a, xs, rfl, sq, fun p hp => post ι _ _ (.ref p) (List.prefix_refl _) (s.exN hp) (s.new hp) (.lst (SqL.of upd_same) (rv.ex (s.exN hp)))⟩
  unfold lstU at post
  split at post
  · rename_i ds h
    exact key ds (.inr h) post
  · rename_i ds h
    exact key ds (.inl h) post
  · exact post.elim
theorem cd_listM : CallD X (.type "list") (c1 lstMU) := call1 call_list_of fun Wx P ι G S H v u σ Q s r post => by
  have key : ∀ ds, (dat u S = some (.lst ds) ∨ dat u S = some (.tup ds)) → Post (RU X.K) X.K Wx P ι G σ Q (.ok (.r S.length) (S ++ [.lst (ds.map .d)])) → ∃ p ys, [v] = [.ref p] ∧ (SqL X.K H p ys ∨ SqT X.K H p ys) ∧ ∀ l, H l = none → Q (.ref l) (upd H l (.lst ys)) := by
    intro ds h post
    obtain ⟨a, xs, rfl, sq, rv⟩ := seq_any s r h
    exact ⟨a, xs, rfl, sq, fun p hp => newM s hp rv.us post⟩
  unfold lstMU at post
  split at post
  · rename_i ds h
    exact key ds (.inr h) post
  · rename_i ds h
    exact key ds (.inl h) post
  · exact post.elim
/-! sorted(texts) -/
open Classical in
noncomputable def sortS (xs : List Str) : List Str := if h : ∃ ys : List Str, ys.Perm xs ∧ sortedS ys = true then Classical.choose h else xs
theorem sortS_eq {xs ys : List Str} (hp : ys.Perm xs) (hs : sortedS ys = true) : sortS xs = ys := by
  have h : ∃ ys : List Str, ys.Perm xs ∧ sortedS ys = true := ⟨ys, hp, hs⟩
  unfold sortS
  rw [dif_pos h]
  have c := Classical.choose_spec h
  exact sorted_one c.2 hs (c.1.trans hp.symm)
def strsD : List D → Option (List Str)
  | [] => some []
  | .str z :: t => (strsD t).map (z :: ·)
  | _ :: _ => none
theorem strsD_map (zs : List Str) : strsD (zs.map .str) = some zs := by
  induction zs with
  | nil => rfl
  | cons b t ih => rw [List.map_cons, strsD, ih]; rfl
theorem strsD_eq : ∀ {ds : List D} {zs : List Str}, strsD ds = some zs → ds = zs.map .str
  | [], zs, h => by cases h; rfl
  | d :: t, zs, h => by
    cases d with
    | str z =>
      cases e : strsD t with
      | none => simp [strsD, e] at h
      | some l =>
        simp [strsD, e] at h
        subst h
        rw [strsD_eq e]; rfl
    | _ => cases h
theorem strs_ok {vs : List V} {zs : List Str} (h : RvAll K G vs (zs.map .str)) : vs = zs.map V.str := by
  induction zs generalizing vs with
  | nil => cases h; rfl
  | cons z t ih =>
    cases h with
    | cons h1 h2 =>
      cases h1
      rw [ih h2]; rfl
theorem rv_strs (zs : List Str) : RvAll K G (zs.map V.str) (zs.map .str) := by
  induction zs with
  | nil => exact .nil
  | cons z t ih => exact .cons (.str z) ih
noncomputable def sortU (u : U) (S : Store) : Res U := match dat u S with
  | some (.tup ds) => match strsD ds with
    | some zs => if zs.length < 64 then .ok (.d (.lst ((sortS zs).map .str))) S else .bad
    | none => .bad
  | some (.lst ds) => match strsD ds with
    | some zs => if zs.length < 64 then .ok (.d (.lst ((sortS zs).map .str))) S else .bad
    | none => .bad
  | _ => .bad
theorem cd_sorted : CallD X (.builtin "sorted") (c1 sortU) := call1 cr_sortedLT fun Wx P ι G S H v u σ Q s r post => by
  have key : ∀ ds, (dat u S = some (.lst ds) ∨ dat u S = some (.tup ds)) → Post (RU X.K) X.K Wx P ι G σ Q (match strsD ds with
    | some zs => if zs.length < 64 then .ok (.d (.lst ((sortS zs).map .str))) S else .bad
    | none => .bad) → rSortedLT X.K [v] H Q := by
    intro ds h post
    obtain ⟨a, xs, rfl, sq, rv⟩ := seq_any s r h
    split at post
    · rename_i zs hz
      split at post
      · rename_i h64
        rw [strsD_eq hz] at rv
        obtain rfl := strs_ok rv
        refine ⟨a, zs, rfl, sq, h64, fun ys p hp hs hn => ?_⟩
        rw [sortS_eq hp hs] at post
        exact post ι _ _ (.ref p) (List.prefix_refl _) (s.exN hn) (s.new hn) (.lst (SqL.of upd_same) (rv_strs ys))
      · exact post.elim
    · exact post.elim
  unfold sortU at post
  split at post
  · rename_i ds h
    exact key ds (.inr h) post
  · rename_i ds h
    exact key ds (.inl h) post
  · exact post.elim
/-! repr -/
def shownU (u : U) (S : Store) : Res U := match dat u S with
  | some x => if x.plain = true ∧ x.py.showable = true ∧ x.py.hasDict = false ∧ x.py.depth ≤ 60 ∧ x.py.shown.length ≤ sizeLine then .ok (.d (.str x.py.shown)) S else .bad
  | none => .bad
theorem cd_repr {k : Nat} (hA : X.A.guards = some []) (hr : Room k X.A) : CallD X (.builtin "repr") (c1 shownU) := call1 (call_reprD hA hr.units) fun Wx P ι G S H v u σ Q s r post => by
  unfold shownU at post
  split at post
  · rename_i x hx
    split at post
    · rename_i h
      exact ⟨v, _, rfl, dat_ok s r hx h.1, h.2.1, h.2.2.1, h.2.2.2.1, h.2.2.2.2, post.ok s (.str _)⟩
    · exact post.elim
  · exact post.elim
end
end DL
set_option Elab.async false
set_option linter.all false
set_option maxRecDepth 100000
set_option maxHeartbeats 4000000
/-! ### methods of built-in types, stores, fields -/
namespace DL
open PySem PySem.Spec PyProof.Rows L2
open He (ga ma)
open Evl (Ex)
open TL (tl)
section
variable {X : Cx} {K : PySem.W.Frag} {Wx : WX} {P : Hp} {ι : List Addr} {G H : Hp} {S : Store} {σ : L2.St} {Q : VK}
/-! lists that change -/
def cellL (u : U) (S : Store) : Option (Nat × List U) := match u with
  | .r n => match S[n]? with
    | some (.lst us) => some (n, us)
    | _ => none
  | _ => none
theorem cell_at {v : V} {u : U} {n : Nat} {us : List U} (s : Sr K P ι G S H) (r : RU K ι G v u) (h : cellL u S = some (n, us)) : ∃ a vs, v = .ref a ∧ S[n]? = some (.lst us) ∧ ι[n]? = some a ∧ G a = none ∧ H a = some (.lst vs) ∧ RUs K ι G vs us := by
  unfold cellL at h
  split at h
  · rename_i m
    split at h
    · rename_i ws hc
      simp only [Option.some.injEq, Prod.mk.injEq] at h
      obtain ⟨rfl, rfl⟩ := h
      obtain ⟨a, hn, hv⟩ := r
      obtain ⟨h0, vs, h1, h2⟩ := s.at_ m _ a hc hn
      exact ⟨a, vs, hv, hc, hn, h0, h1, h2⟩
    · cases h
  · cases h
theorem put_ok {n : Nat} {a : Addr} {us us' : List U} {vs' : List V} (s : Sr K P ι G S H) (hc : S[n]? = some (.lst us)) (hn : ι[n]? = some a) (hg : G a = none) (r : RUs K ι G vs' us') : Sr K P ι G (S.set n (.lst us')) (upd H a (.lst vs')) :=
  s.put hc hn hg ⟨hg, vs', upd_same, r⟩
def appU (u : U) (ws : List U) (S : Store) : Res U := match cellL u S, ws with
  | some (n, us), [w] => if us.length < sizeLine then .ok (.d .non) (S.set n (.lst (us ++ [w]))) else .bad
  | _, _ => .bad
theorem md_append : MtD X "list.append" appU := by
  refine ⟨_, mt_append, fun Wx P ι G S H v vs u us σ Q s r rs post => ?_⟩
  unfold appU at post
  split at post
  · rename_i n cs w hc
    split at post
    · rename_i hz
      obtain ⟨a, xs, rfl, h1, h2, h3, h4, h5⟩ := cell_at s r hc
      cases rs with
      | cons r1 rr =>
        cases rr
        exact ⟨a, xs, _, rfl, rfl, h4, by rw [paired_len h5]; exact hz, post.ok (put_ok s h1 h2 h3 (paired_app h5 (.cons r1 .nil))) .non⟩
    · exact post.elim
  · exact post.elim
def extU (u : U) (ws : List U) (S : Store) : Res U := match cellL u S, ws with
  | some (n, us), [.d (.lst ds)] => if us.length + ds.length ≤ sizeLine then .ok (.d .non) (S.set n (.lst (us ++ ds.map .d))) else .bad
  | _, _ => .bad
def popU (u : U) (ws : List U) (S : Store) : Res U := match cellL u S, ws with
  | some (n, us), [.d (.int i)] => if -(2 ^ 63) ≤ i ∧ i < 2 ^ 63 then match seqIndex? i us.length with
    | some k => match us[k]? with
      | some y => .ok y (S.set n (.lst (us.eraseIdx k)))
      | none => .bad
    | none => .bad else .bad
  | _, _ => .bad
theorem paired_erase {α β : Type} {F : α → β → Prop} : ∀ {l1 : List α} {l2 : List β} (k : Nat), Paired F l1 l2 → Paired F (l1.eraseIdx k) (l2.eraseIdx k)
  | _, _, _, .nil => .nil
  | _, _, 0, .cons _ t => t
  | _, _, k + 1, .cons f t => .cons f (paired_erase k t)
theorem md_popAt : MtD X "list.pop" popU := by
  refine ⟨_, mt_popAt, fun Wx P ι G S H v vs u us σ Q s r rs post => ?_⟩
  unfold popU at post
  split at post
  · rename_i n cs i hc
    split at post
    · rename_i hi
      split at post
      · rename_i k hk
        split at post
        · rename_i y hy
          obtain ⟨a, xs, rfl, h1, h2, h3, h4, h5⟩ := cell_at s r hc
          cases rs with
          | cons r1 rr =>
            cases rr
            cases r1
            obtain ⟨w, hw, rw'⟩ := paired_get h5 hy
            exact ⟨a, xs, i, k, w, rfl, rfl, h4, hi.1, hi.2, by rw [paired_len h5]; exact hk, hw, post.ok (put_ok s h1 h2 h3 (paired_erase k h5)) rw'⟩
        · exact post.elim
      · exact post.elim
    · exact post.elim
  · exact post.elim
def pop0U (u : U) (ws : List U) (S : Store) : Res U := match cellL u S, ws with
  | some (n, us), [] => match us[us.length - 1]? with
    | some y => .ok y (S.set n (.lst us.dropLast))
    | none => .bad
  | _, _ => .bad
theorem paired_dropLast {α β : Type} {F : α → β → Prop} {l1 : List α} {l2 : List β} (h : Paired F l1 l2) : Paired F l1.dropLast l2.dropLast := by
  rw [List.dropLast_eq_take, List.dropLast_eq_take, paired_len h]
  exact paired_take _ h
theorem md_pop : MtD X "list.pop" pop0U := by
  refine ⟨_, mt_pop, fun Wx P ι G S H v vs u us σ Q s r rs post => ?_⟩
  unfold pop0U at post
  split at post
  · rename_i n cs hc
    split at post
    · rename_i y hy
      obtain ⟨a, xs, rfl, h1, h2, h3, h4, h5⟩ := cell_at s r hc
      cases rs
      obtain ⟨w, hw, rw'⟩ := paired_get h5 hy
      exact ⟨a, xs, w, rfl, rfl, h4, by rw [paired_len h5]; exact hw, post.ok (put_ok s h1 h2 h3 (paired_dropLast h5)) rw'⟩
    · exact post.elim
  · exact post.elim
def clrU (u : U) (ws : List U) (S : Store) : Res U := match cellL u S, ws with
  | some (n, _), [] => .ok (.d .non) (S.set n (.lst []))
  | _, _ => .bad
theorem md_clear : MtD X "list.clear" clrU := by
  refine ⟨_, mt_clear, fun Wx P ι G S H v vs u us σ Q s r rs post => ?_⟩
  unfold clrU at post
  split at post
  · rename_i n cs hc
    obtain ⟨a, xs, rfl, h1, h2, h3, h4, h5⟩ := cell_at s r hc
    cases rs
    exact ⟨a, xs, rfl, rfl, h4, post.ok (put_ok s h1 h2 h3 .nil) .non⟩
  · exact post.elim
def insU (u : U) (ws : List U) (S : Store) : Res U := match cellL u S, ws with
  | some (n, us), [.d (.int i), w] => if us.length < sizeLine ∧ 0 ≤ i ∧ i < 2 ^ 63 then .ok (.d .non) (S.set n (.lst (us.take i.toNat ++ [w] ++ us.drop i.toNat))) else .bad
  | _, _ => .bad
theorem md_insert : MtD X "list.insert" insU := by
  refine ⟨_, mt_insert, fun Wx P ι G S H v vs u us σ Q s r rs post => ?_⟩
  unfold insU at post
  split at post
  · rename_i n cs i w hc
    split at post
    · rename_i hi
      obtain ⟨a, xs, rfl, h1, h2, h3, h4, h5⟩ := cell_at s r hc
      cases rs with
      | cons r1 rr =>
        cases rr with
        | cons r2 rr =>
          cases rr
          cases r1
          exact ⟨a, xs, i, _, rfl, rfl, h4, by rw [paired_len h5]; exact hi.1, hi.2.1, hi.2.2, post.ok (put_ok s h1 h2 h3 (paired_app (paired_app (paired_take _ h5) (.cons r2 .nil)) (paired_drop _ h5))) .non⟩
    · exact post.elim
  · exact post.elim
/-! texts -/
def upperU (u : U) (ws : List U) (S : Store) : Res U := match u, ws with
  | .d (.str z), [] => if z.length ≤ 5592405 then .ok (.d (.str (Txt.upper z))) S else .bad
  | _, _ => .bad
theorem md_upper : MtD X "str.upper" upperU := by
  refine ⟨_, mt_upper, fun Wx P ι G S H v vs u us σ Q s r rs post => ?_⟩
  unfold upperU at post
  split at post
  · split at post
    · rename_i hz
      cases r
      cases rs
      exact ⟨_, rfl, rfl, hz, post.ok s (.str _)⟩
    · exact post.elim
  · exact post.elim
def isdigitU (u : U) (ws : List U) (S : Store) : Res U := match u, ws with
  | .d (.str z), [] => .ok (.d (.bl (Txt.isdigit z))) S
  | _, _ => .bad
theorem md_isdigit : MtD X "str.isdigit" isdigitU := by
  refine ⟨_, mt_isdigit, fun Wx P ι G S H v vs u us σ Q s r rs post => ?_⟩
  unfold isdigitU at post
  split at post
  · cases r
    cases rs
    exact ⟨_, rfl, rfl, trivial, post.ok s (.bl _)⟩
  · exact post.elim
/-- what a list or tuple of texts holds -/
def txtsU (u : U) (S : Store) : Option (List Str) := match dat u S with
  | some (.tup ds) => strsD ds
  | some (.lst ds) => strsD ds
  | _ => none
theorem txts_ok {v : V} {u : U} {zs : List Str} (s : Sr K P ι G S H) (r : RU K ι G v u) (h : txtsU u S = some zs) : ∃ a, v = .ref a ∧ (SqL K H a (zs.map V.str) ∨ SqT K H a (zs.map V.str)) := by
  unfold txtsU at h
  split at h
  · rename_i ds hd
    obtain ⟨a, xs, hv, sq, rv⟩ := seq_any s r (.inr hd)
    rw [strsD_eq h] at rv
    obtain rfl := strs_ok rv
    exact ⟨a, hv, sq⟩
  · rename_i ds hd
    obtain ⟨a, xs, hv, sq, rv⟩ := seq_any s r (.inl hd)
    rw [strsD_eq h] at rv
    obtain rfl := strs_ok rv
    exact ⟨a, hv, sq⟩
  · cases h
def joinU (u : U) (ws : List U) (S : Store) : Res U := match u, ws with
  | .d (.str a), [w] => match txtsU w S with
    | some ys => if (ys.map (·.length)).sum + ys.length * a.length ≤ 16777216 then .ok (.d (.str (Txt.join a ys))) S else .bad
    | none => .bad
  | _, _ => .bad
theorem md_join : MtD X "str.join" joinU := by
  refine ⟨_, mt_join, fun Wx P ι G S H v vs u us σ Q s r rs post => ?_⟩
  unfold joinU at post
  split at post
  · split at post
    · rename_i ys hy
      split at post
      · rename_i hz
        cases r
        cases rs with
        | cons r1 rr =>
          cases rr
          obtain ⟨p, rfl, sq⟩ := txts_ok s r1 hy
          exact ⟨_, p, ys, rfl, rfl, sq, hz, post.ok s (.str _)⟩
      · exact post.elim
    · exact post.elim
  · exact post.elim
def splitU (u : U) (ws : List U) (S : Store) : Res U := match u, ws with
  | .d (.str a), [.d (.str b)] => if (b.length == 0) = false ∧ a.length + 2 ≤ sizeLine then .ok (.d (.lst ((Txt.split a b).map .str))) S else .bad
  | _, _ => .bad
theorem md_split : MtD X "str.split" splitU := by
  refine ⟨_, mt_split, fun Wx P ι G S H v vs u us σ Q s r rs post => ?_⟩
  unfold splitU at post
  split at post
  · split at post
    · rename_i hz
      cases r
      cases rs with
      | cons r1 rr =>
        cases rr
        cases r1
        refine ⟨_, _, rfl, rfl, hz.1, hz.2, fun p hp => ?_⟩
        exact post ι _ _ (.ref p) (List.prefix_refl _) (s.exN hp) (s.new hp) (.lst (SqL.of upd_same) (rv_strs _))
    · exact post.elim
  · exact post.elim
/-! the calls -/
def tyU (T : String) (u : U) (S : Store) : Bool := match u with
  | .d (.str _) => T == "str"
  | .d (.lst _) => T == "list"
  | .r n => match S[n]? with
    | some (.lst _) => T == "list"
    | _ => false
  | _ => false
theorem ty_ok {T : String} {v : V} {u : U} (s : Sr K P ι G S H) (r : RU K ι G v u) (h : tyU T u S = true) : tyV K T v H := by
  unfold tyU at h
  split at h
  · cases r; exact beq_iff_eq.mp h
  · cases r with
    | lst a1 a2 => exact .inl ⟨beq_iff_eq.mp h, _, Evl.ex_l s.ex a1⟩
  · rename_i n
    obtain ⟨a, hn, hv⟩ := r
    subst hv
    split at h
    · rename_i us hc
      obtain ⟨_, vs, h1, _⟩ := s.at_ n _ a hc hn
      exact .inl ⟨beq_iff_eq.mp h, _, SqL.of h1⟩
    · cases h
  · cases h
variable {o e : Expr} {es : List Expr} {name : Str} {apos cpos : Pos} {T id : String} {A : Env → Store → Res U} {As : Env → Store → Res (List U)} {g : U → List U → Store → Res U}
theorem pd_bm0 (pa : PlainAttrs T) (slot : Slot T name id) (hty : typeOf (.builtin id) = pure (.type "method_descriptor")) (hm : MtD X id g) (ho : PD X Wx o A)
    (hbase : attributeBase o name X.env (eval o X.env) = eval o X.env := by rfl) (hline : (apos.endLine == cpos.line) = true := by rfl) : PD X Wx (.Call (.Attribute o name apos) [] [] cpos) (fun ρ S => (A ρ S).bind fun u S => if tyU T u S = true then g u [] S else .bad) := by
  obtain ⟨r, hr, h⟩ := hm
  obtain ⟨ta, pa', da⟩ := ho
  refine ⟨_, pe_bm0 pa slot hty hr pa' hbase hline, fun P ι G σ S H ρ Q s e post => ?_⟩
  refine da P ι G σ S H ρ _ s e (post.bind fun u S1 ι1 G1 H1 v p1 e1 s1 rv post1 => ?_)
  split at post1
  · rename_i ht
    exact ⟨ty_ok s1 rv ht, h Wx P ι1 G1 S1 H1 v [] u [] σ Q s1 rv .nil post1⟩
  · exact post1.elim
theorem pd_bm (pa : PlainAttrs T) (slot : Slot T name id) (hty : typeOf (.builtin id) = pure (.type "method_descriptor")) (hm : MtD X id g) (ho : PD X Wx o A) (ha : PDA X Wx (e :: es) As)
    (hbase : attributeBase o name X.env (eval o X.env) = eval o X.env := by rfl)
    (hfew : ((backTo cpos (starEach (e :: es) X.env)).all (fun x => !x.1) && (backToKw cpos (keywordEach [] X.env)).all (fun x => x.1.isSome)
      && decide ((e :: es).length + ([] : List Keyword).length + (if ([] : List Keyword).isEmpty then 0 else 1) < 30)) = true := by rfl)
    (hline : (apos.endLine == cpos.line) = true := by rfl) (hs : starEach (e :: es) X.env = (false, eval e X.env) :: starEach es X.env := by rfl) (hplain : (backTo cpos (starEach es X.env)).any (·.1) = false := by rfl) :
    PD X Wx (.Call (.Attribute o name apos) (e :: es) [] cpos) (fun ρ S => (A ρ S).bind fun u S => if tyU T u S = true then (As ρ S).bind fun us S => g u us S else .bad) := by
  obtain ⟨r, hr, h⟩ := hm
  obtain ⟨ta, pa', da⟩ := ho
  obtain ⟨tb, pb, db⟩ := ha
  refine ⟨_, pe_bm pa slot hty hr pa' pb hbase hfew hline hs hplain, fun P ι G σ S H ρ Q s e post => ?_⟩
  refine da P ι G σ S H ρ _ s e (post.bind fun u S1 ι1 G1 H1 v p1 e1 s1 rv post1 => ?_)
  split at post1
  · rename_i ht
    refine ⟨ty_ok s1 rv ht, db P ι1 G1 σ S1 H1 ρ _ s1 (e.up p1 e1) (post1.bind fun us S2 ι2 G2 H2 vs p2 e2 s2 rvs post2 => ?_)⟩
    exact h Wx P ι2 G2 S2 H2 v vs u us σ Q s2 (rv.up p2 e2) rvs post2
  · exact post1.elim
/-! o[i] = v of a list -/
def setU (u i w : U) (S : Store) : Option Store := match cellL u S, i with
  | some (n, us), .d (.int k) => (ixN us.length k).map fun j => S.set n (.lst (us.set j w))
  | _, _ => none
theorem pdg_sub {i : Expr} {I : Env → Store → Res U} {pos : Pos} (ho : PD X Wx o A) (hi : PD X Wx i I) (h : ∀ {to ti : TE}, PE X o to → PE X i ti → PG X (.Subscript o i pos) (gSub to ti rSetL)) :
    PDG X Wx (.Subscript o i pos) [] (fun w ρ S => (A ρ S).bind fun u S => (I ρ S).bind fun k S => match setU u k w S with | some S' => .ok ρ S' | none => .bad) := by
  obtain ⟨ta, pa', da⟩ := ho
  obtain ⟨tb, pb, db⟩ := hi
  refine ⟨_, h pa' pb, fun P ι G σ S H ρ v w Q s e r post => ?_⟩
  refine da P ι G σ S H ρ _ s e (post.bind fun u S1 ι1 G1 H1 v1 p1 e1 s1 rv post1 => ?_)
  refine db P ι1 G1 σ S1 H1 ρ _ s1 (e.up p1 e1) (post1.bind fun k S2 ι2 G2 H2 v2 p2 e2 s2 rv2 post2 => ?_)
  split at post2
  · rename_i S' hS
    unfold setU at hS
    split at hS
    · rename_i n us j hc
      cases rv2
      cases hx : ixN us.length j with
      | none => rw [hx] at hS; cases hS
      | some m =>
        rw [hx] at hS
        obtain rfl : _ = S' := Option.some.inj hS
        obtain ⟨a, xs, rfl, h1, h2, h3, h4, h5⟩ := cell_at s2 (rv.up p2 e2) hc
        refine ⟨a, xs, j, m, rfl, rfl, h4, by rw [paired_len h5]; exact hx, ?_⟩
        exact post2.ok (put_ok s2 h1 h2 h3 (paired_set ((r.up p1 e1).up p2 e2) m h5)) (RT.refl ((e.up p1 e1).up p2 e2))
    · cases hS
  · exact post2.elim
end
end DL
set_option Elab.async false
set_option linter.all false
set_option maxRecDepth 100000
set_option maxHeartbeats 4000000
/-! ### objects: fields, methods, making -/
namespace DL
open PySem PySem.Spec PyProof.Rows L2
open He (ga ma)
open Evl (Ex)
open TL (tl)
section
variable {X : Cx} {K : PySem.W.Frag} {Wx : WX} {P : Hp} {ι : List Addr} {G H : Hp} {S : Store} {σ : L2.St} {Q : VK}
theorem RvF.look : ∀ {vs : List (Str × V)} {fs : List (Str × D)} {f : Str} {d : D}, RvF K G vs fs → fs.lookup f = some d → ∃ v, vs.lookup f = some v ∧ Rv K G v d
  | _, _, f, d, .nil, h => by cases h
  | _, _, f, d, .cons (f := g) h1 h2, h => by
    rw [List.lookup_cons] at h ⊢
    cases e : (f == g) with
    | true =>
      rw [e] at h
      obtain rfl := Option.some.inj h
      exact ⟨_, rfl, h1⟩
    | false =>
      rw [e] at h
      exact RvF.look h2 h
theorem RvF.none : ∀ {vs : List (Str × V)} {fs : List (Str × D)} {f : Str}, RvF K G vs fs → fs.lookup f = none → vs.lookup f = none
  | _, _, f, .nil, h => rfl
  | _, _, f, .cons (f := g) h1 h2, h => by
    rw [List.lookup_cons] at h ⊢
    cases e : (f == g) with
    | true => rw [e] at h; cases h
    | false => rw [e] at h; exact RvF.none h2 h
theorem RUf.look : ∀ {vs : List (Str × V)} {fs : List (Str × U)} {f : Str} {d : U}, RUf K ι G vs fs → fs.lookup f = some d → ∃ v, vs.lookup f = some v ∧ RU K ι G v d
  | _, _, f, d, .nil, h => by cases h
  | _, _, f, d, .cons (a := a) (b := b) h1 h2, h => by
    obtain ⟨g, v⟩ := a
    obtain ⟨g', u⟩ := b
    obtain ⟨rfl, h1⟩ := h1
    rw [List.lookup_cons] at h ⊢
    cases e : (f == g) with
    | true =>
      rw [e] at h
      obtain rfl := Option.some.inj h
      exact ⟨_, rfl, h1⟩
    | false =>
      rw [e] at h
      exact RUf.look h2 h
theorem RUf.none : ∀ {vs : List (Str × V)} {fs : List (Str × U)} {f : Str}, RUf K ι G vs fs → fs.lookup f = none → vs.lookup f = none
  | _, _, f, .nil, h => rfl
  | _, _, f, .cons (a := a) (b := b) h1 h2, h => by
    obtain ⟨g, v⟩ := a
    obtain ⟨g', u⟩ := b
    obtain ⟨rfl, h1⟩ := h1
    rw [List.lookup_cons] at h ⊢
    cases e : (f == g) with
    | true => rw [e] at h; cases h
    | false => rw [e] at h; exact RUf.none h2 h
def putU (f : Str) (v : U) : List (Str × U) → List (Str × U)
  | [] => [(f, v)]
  | (g, x) :: r => if g = f then (g, v) :: r else (g, x) :: putU f v r
theorem RUf.put {f : Str} {v : V} {u : U} (h : RU K ι G v u) : ∀ {vs : List (Str × V)} {fs : List (Str × U)}, RUf K ι G vs fs → RUf K ι G (putF f v vs) (putU f u fs)
  | _, _, .nil => .cons ⟨rfl, h⟩ .nil
  | _, _, .cons (a := a) (b := b) h1 h2 => by
    obtain ⟨g, w⟩ := a
    obtain ⟨g', z⟩ := b
    obtain ⟨e, h1⟩ := h1
    have e : g = g' := e
    subst e
    unfold putF putU
    split
    · exact .cons ⟨rfl, h⟩ h2
    · exact .cons ⟨rfl, h1⟩ (RUf.put h h2)
/-- what class an object has, what it holds -/
def objU (u : U) (S : Store) : Option (Str × List (Str × U)) := match u with
  | .d (.obj c fs) => some (c, fs.map fun p => (p.1, .d p.2))
  | .r n => match S[n]? with
    | some (.obj c fs) => some (c, fs)
    | some (.frz (.obj c fs)) => some (c, fs.map fun p => (p.1, .d p.2))
    | _ => none
  | _ => none
theorem RvF.uf : ∀ {vs : List (Str × V)} {fs : List (Str × D)}, RvF K G vs fs → RUf K ι G vs (fs.map fun p => (p.1, .d p.2))
  | _, _, .nil => .nil
  | _, _, .cons h1 h2 => .cons ⟨rfl, h1⟩ (RvF.uf h2)
theorem obj_at {v : V} {u : U} {c : Str} {fs : List (Str × U)} (s : Sr K P ι G S H) (r : RU K ι G v u) (h : objU u S = some (c, fs)) : ∃ a dx vs, v = .ref a ∧ H a = some (.ins (ga K c) dx vs) ∧ RUf K ι G vs fs := by
  unfold objU at h
  split at h
  · simp only [Option.some.injEq, Prod.mk.injEq] at h
    obtain ⟨rfl, rfl⟩ := h
    cases r with
    | obj h1 h2 => exact ⟨_, _, _, rfl, s.ex _ _ h1, h2.uf⟩
  · rename_i n
    obtain ⟨a, hn, rfl⟩ := r
    split at h
    · rename_i hc
      simp only [Option.some.injEq, Prod.mk.injEq] at h
      obtain ⟨rfl, rfl⟩ := h
      obtain ⟨_, dx, vs, h1, h2⟩ := s.at_ n _ a hc hn
      exact ⟨_, dx, vs, rfl, h1, h2⟩
    · rename_i hc
      simp only [Option.some.injEq, Prod.mk.injEq] at h
      obtain ⟨rfl, rfl⟩ := h
      have hr : Rv K G (.ref a) _ := s.at_ n _ a hc hn
      cases hr with
      | obj h1 h2 => exact ⟨_, _, _, rfl, s.ex _ _ h1, h2.uf⟩
    · cases h
  · cases h
def fldU (cs : List Str) (f : Str) (u : U) (S : Store) : Res U := match objU u S with
  | some (c, fs) => if c ∈ cs then optR (fs.lookup f) id S else .bad
  | none => .bad
variable {o e : Expr} {es : List Expr} {f m x : Str} {p pos apos pos' : Pos} {A B : Env → Store → Res U} {As Ks : Env → Store → Res (List U)}
theorem pd_fld {cs : List Str} (he : PD X Wx e A) (hcs : ∀ c ∈ cs, Cls X.K (ga X.K c) ∧ NoAttr X.K (ga X.K c) f) (hb : attributeBase e f X.env (eval e X.env) = eval e X.env := by rfl) : PD X Wx (.Attribute e f pos) (fun ρ S => (A ρ S).bind fun u S => fldU cs f u S) := by
  obtain ⟨ta, pa, da⟩ := he
  refine ⟨_, pe_fld pa hb, fun P ι G σ S H ρ Q s e post => ?_⟩
  refine da P ι G σ S H ρ _ s e (post.bind fun u S1 ι1 G1 H1 v p1 e1 s1 rv post1 => ?_)
  unfold fldU at post1
  split at post1
  · rename_i c fs ho
    split at post1
    · rename_i hc
      obtain ⟨a, dx, vs, rfl, h1, h2⟩ := obj_at s1 rv ho
      unfold optR at post1
      split at post1
      · rename_i w hw
        obtain ⟨v, hv, r⟩ := h2.look hw
        obtain ⟨k1, k2⟩ := hcs c hc
        exact ⟨a, _, dx, vs, v, rfl, h1, k1, k2, hv, post1.ok s1 r⟩
      · exact post1.elim
    · exact post1.elim
  · exact post1.elim
def setF (cs : List Str) (f : Str) (u w : U) (S : Store) : Option Store := match u with
  | .r n => match S[n]? with
    | some (.obj c fs) => if c ∈ cs ∧ fs.length < 1000 then some (S.set n (.obj c (putU f w fs))) else none
    | _ => none
  | _ => none
theorem pds_fld {cs : List Str} (ho : PD X Wx o A) (he : PD X Wx e B) (hcs : ∀ c ∈ cs, Cls X.K (ga X.K c) ∧ NoAttr X.K (ga X.K c) f) (hs : swapsWith e (some (.Attribute o f pos')) pos.line X.env = pure false := by rfl) :
    PDS X Wx (.Assign [.Attribute o f pos'] e pos) (fun ρ S => (B ρ S).fl ρ fun w S => (A ρ S).fl ρ fun u S => match setF cs f u w S with | some S' => .nx ρ S' | none => .bad) := by
  obtain ⟨ta, pa, da⟩ := ho
  obtain ⟨tb, pb, db⟩ := he
  refine ⟨_, ps_fld pa pb hs, fun P ι G σ S H ρ E s e post => ?_⟩
  refine db P ι G σ S H ρ _ s e (Post.fl e post fun w S1 ι1 G1 H1 v1 p1 e1 s1 rv1 r1 post1 => ?_)
  refine da P ι1 G1 σ S1 H1 ρ _ s1 r1 (Post.fl r1 post1 fun u S2 ι2 G2 H2 v2 p2 e2 s2 rv2 r2 post2 => ?_)
  split at post2
  · rename_i S' hS
    unfold setF at hS
    split at hS
    · rename_i n
      obtain ⟨a, hn, rfl⟩ := rv2
      split at hS
      · rename_i c fs hc
        split at hS
        · rename_i h
          obtain rfl : _ = S' := Option.some.inj hS
          obtain ⟨h0, dx, vs, h1, h2⟩ := s2.at_ n _ a hc hn
          obtain ⟨k1, k2⟩ := hcs c h.1
          refine ⟨a, _, dx, vs, rfl, h1, k1, k2, by rw [paired_len h2]; exact h.2, ?_⟩
          refine post2 ι2 G2 σ _ (List.prefix_refl _) (Ex.refl _) (s2.put hc hn h0 ⟨h0, dx, _, upd_same, RUf.put (rv1.up p2 e2) h2⟩) r2
        · cases hS
      · cases hS
    · cases hS
  · exact post2.elim
/-! methods -/
def methU (cs : List Str) (m : Str) (fF : Str → Fn) (u : U) (us : List U) (S : Store) : Res U := match objU u S with
  | some (c, fs) => if c ∈ cs ∧ fs.lookup m = none then fF c (u :: us) S else .bad
  | none => .bad
/-- the methods named m of these classes -/
def MtDs (X : Cx) (k : Nat) (cs : List Str) (m : Str) (fF : Str → Fn) : Prop := ∀ c ∈ cs, Cls X.K (ga X.K c) ∧ ∃ f ps, Meth X.K (ga X.K c) m f ∧ FD X.prog X.w X.K X.mg X.base k f ps (fF c)
def tMethD (X : Cx) (cs : List Str) (m : Str) (fF : Str → Fn) (Wx : WX) (ta : TE) (t : TA) : TE := fun σ H Q => ta σ H fun x H1 => ∃ a c dx fs, x = .ref a ∧ c ∈ cs ∧ H1 a = some (.ins (ga X.K c) dx fs) ∧ fs.lookup m = none ∧ t σ H1 fun vs H2 => ∃ n, (∀ us S, us.length ≠ n → fF c us S = .bad) ∧ spD X.K n (fF c) (.ref a :: vs) H2 Q (WE Wx σ)
theorem spD_len {n n' : Nat} {fF : Fn} {vs : List V} {E : XK} (h1 : ∀ us S, us.length ≠ n → fF us S = .bad) (h : spD K n' fF vs H Q E) : spD K n fF vs H Q E := by
  obtain ⟨hl, P, ι, G, S, us, s, r, post⟩ := h
  have : us.length = n := by
    by_cases z : us.length = n
    · exact z
    · rw [h1 us S z] at post; exact post.elim
  exact ⟨by rw [paired_len r]; exact this, P, ι, G, S, us, s, r, post⟩
theorem pd_meth {k : Nat} {cs : List Str} {fF : Str → Fn} {pl : Sem Bool} (hA : X.A.guards = some []) (he : PD X Wx o A) (hm : MtDs X k cs m fF) (hr : Room k X.A) (tk : Takes X Wx) (ha : PDA X Wx (e :: es) As)
    (hst : starEach (e :: es) X.env = (false, eval e X.env) :: starEach es X.env := by rfl) (hpl : (backTo pos (starEach es X.env)).any (·.1) = false := by rfl)
    (ht : eval (.Call (.Attribute o m apos) (e :: es) [] pos) X.env = (do
      let ov ← eval o X.env
      standAt apos.atName
      let (f, first) ← holding [ov] (getMethod ov m pl)
      callWith pos f first (backTo pos (starEach (e :: es) X.env)) (backToKw pos (keywordEach [] X.env))) := by rfl) :
    PD X Wx (.Call (.Attribute o m apos) (e :: es) [] pos) (fun ρ S => (A ρ S).bind fun u S => match objU u S with | some (c, fs) => if c ∈ cs ∧ fs.lookup m = none then (As ρ S).bind fun us S => fF c (u :: us) S else .bad | none => .bad) := by
  obtain ⟨ta, pa, da⟩ := he
  obtain ⟨tb, pb, db⟩ := ha
  refine ⟨tMethD X cs m fF Wx ta tb, ⟨fun pins s σ H Q I h => ?_⟩, fun P ι G σ S H ρ Q s e post => ?_⟩
  · refine PySem.W.methodCall_KW (pl := pl) (thn (pa.run pins s σ H _ I h) fun u s1 ⟨x, H1, I1, rx, a, c, dx, fs, ex, hc, ea, l, q⟩ => ?_) ht
    subst ex
    obtain rfl : u = Value.ref a := rx
    obtain ⟨k1, f, ps, k2, hlen, fd, F, hb, hk⟩ := hm c hc
    refine getmeth_ok I1 ea k1 k2 l ?_
    refine PySem.W.callWith_K (first := [.ref a]) (h₀ := X.base) I.ok.mod.kin k2.kp (thn (pb.run pos pins s1 σ H1 _ I1 q) fun us s2 ⟨vs, H2, I2, r, n, hn, q2⟩ => ⟨I2.kIn, ?_⟩) hst hpl
    exact run_fnGS (us := .ref a :: us) (vs := .ref a :: vs) (dvs := []) (ds := []) (E := WE Wx) hA F hr hb .nil (passAt tk σ) I2 (.cons rfl r) (by rw [List.append_nil]; exact spD_len hlen q2)
  · refine da P ι G σ S H ρ _ s e (post.bind fun u S1 ι1 G1 H1 v p1 e1 s1 rv post1 => ?_)
    split at post1
    · rename_i c fs ho
      split at post1
      · rename_i h
        obtain ⟨a, dx, vs, rfl, h1, h2⟩ := obj_at s1 rv ho
        obtain ⟨k1, f, ps, k2, hlen, _⟩ := hm c h.1
        refine ⟨a, c, dx, vs, rfl, h.1, h1, h2.none h.2, ?_⟩
        refine db P ι1 G1 σ S1 H1 ρ _ s1 (e.up p1 e1) (post1.bind fun us S2 ι2 G2 H2 ws p2 e2 s2 rvs post2 => ⟨ps.length, hlen, ?_⟩)
        exact call_post hlen s2 (.cons (rv.up p2 e2) rvs) post2
      · exact post1.elim
    · exact post1.elim
theorem pd_meth0 {k : Nat} {cs : List Str} {fF : Str → Fn} {pl : Sem Bool} (hA : X.A.guards = some []) (he : PD X Wx o A) (hm : MtDs X k cs m fF) (hr : Room k X.A) (tk : Takes X Wx)
    (ht : eval (.Call (.Attribute o m apos) [] [] pos) X.env = (do
      let ov ← eval o X.env
      standAt apos.atName
      let (f, first) ← holding [ov] (getMethod ov m pl)
      callWith pos f first (backTo pos (starEach [] X.env)) (backToKw pos (keywordEach [] X.env))) := by rfl) :
    PD X Wx (.Call (.Attribute o m apos) [] [] pos) (fun ρ S => (A ρ S).bind fun u S => match objU u S with | some (c, fs) => if c ∈ cs ∧ fs.lookup m = none then fF c [u] S else .bad | none => .bad) := by
  obtain ⟨ta, pa, da⟩ := he
  refine ⟨tMethD X cs m fF Wx ta tNil, ⟨fun pins s σ H Q I h => ?_⟩, fun P ι G σ S H ρ Q s e post => ?_⟩
  · refine PySem.W.methodCall_KW (pl := pl) (thn (pa.run pins s σ H _ I h) fun u s1 ⟨x, H1, I1, rx, a, c, dx, fs, ex, hc, ea, l, n, hn, q⟩ => ?_) ht
    subst ex
    obtain rfl : u = Value.ref a := rx
    obtain ⟨k1, f, ps, k2, hlen, fd, F, hb, hk⟩ := hm c hc
    refine getmeth_ok I1 ea k1 k2 l ?_
    exact PySem.W.callWith_K0 (first := [.ref a]) I1.kIn k2.kp (run_fnGS (us := [.ref a]) (vs := [.ref a]) (dvs := []) (ds := []) (E := WE Wx) hA F hr hb .nil (passAt tk σ) I1 (.cons rfl .nil) (spD_len hlen q))
  · refine da P ι G σ S H ρ _ s e (post.bind fun u S1 ι1 G1 H1 v p1 e1 s1 rv post1 => ?_)
    split at post1
    · rename_i c fs ho
      split at post1
      · rename_i h
        obtain ⟨a, dx, vs, rfl, h1, h2⟩ := obj_at s1 rv ho
        obtain ⟨k1, f, ps, k2, hlen, _⟩ := hm c h.1
        exact ⟨a, c, dx, vs, rfl, h.1, h1, h2.none h.2, ps.length, hlen, call_post hlen s1 (.cons rv .nil) post1⟩
      · exact post1.elim
    · exact post1.elim
end
end DL
set_option Elab.async false
set_option linter.all false
set_option maxRecDepth 100000
set_option maxHeartbeats 4000000
/-! ### making of objects; try -/
namespace DL
open PySem PySem.Spec PyProof.Rows L2
open He (ga ma)
open Evl (Ex)
open TL (tl)
section
variable {X : Cx} {Wx : WX} {k n : Nat} {f C : Addr} {fd : FuncData} {ps ks : List Str} {sp : Sp} {E : L2.St → XK} {x : Str} {p pos : Pos} {e : Expr} {es : List Expr} {kws : List Keyword} {t tk : TA} {g : List Value → List Value → List Value} {gV : List V → List V → List V} {dvs : List V} {ds : List Value}
theorem under_guards {A : Around} {C : Addr} {us : List Value} {kw : List (Str × Value)} (h : A.guards = some []) : (A.under (.builtin "type.__call__" ⟨.ref C :: us, kw⟩)).guards = some [] := by
  first | exact h | simpa [Around.under, Code.weight, Code.isCreation, Code.isGuard, Code.isCaller, Code.frames, Code.isFrame, guardIds] using h
/-- an object is made: __init__ is called with the new object ahead of the arguments, however they are bound -/
theorem run_new {CX : CXT} {pins : List (Addr × Obj)} {σ : L2.St} {H : Hp} {s : Shared} {Q : VK} {us bs : List Value} {kw : List (Str × Value)} {ws : List V} (hA : X.A.guards = some []) (M : Mk X.K C f) (F : FnG X.prog X.w X.K X.mg X.base CX k f fd ps sp) (hr : Room (k + 1) X.A) (hx : PassesAt CX X σ (E σ)) (I : Inv X pins σ H s)
    (hb : ∀ s' : Shared, X.K.In s'.heap → BindsTo s' fd ⟨Value.ref (s.heap.objs.size + 1) :: us, kw⟩ (ps.zip bs)) (rw : Vals ws bs)
    (h : sp ws (upd (upd H s.heap.objs.size (.own (s.heap.objs.size + 1))) (s.heap.objs.size + 1) (.ins C s.heap.objs.size [])) (fun v H2 => v = .non ∧ Q (.ref (s.heap.objs.size + 1)) H2) (E σ)) :
    wpAny (model X.prog X.w) X.A (call (.ref C) us kw) (EP X pins σ Q) X.xe s := by
  have J := Inv.made (C := C) I
  refine wp_goes (make_map I.kIn M.makes M.init (beq_iff_eq.mp M.fn) (codeAny_mono (F.run _ (under_guards hA) X.stack _ _ _ bs ws _ (E σ) (hr.make C us kw) (J.env0.make C us kw) (hb _ J.kIn) rw h) fun r s' g => ?_))
  have g' := goes_of J hx g
  match r, g' with
  | .error e, g' => exact g'
  | .ok (.ret u), ⟨v, H', I3, rv, hv, q⟩ =>
    subst hv
    exact ⟨rv, V.ref _, H', I3, rfl, q⟩
/-- a new object of the class, __init__ run over it; frozen where it changes no more -/
def makeU (fz : Bool) (c : Str) (iF : Fn) (us : List U) (S : Store) : Res U := (iF (.r S.length :: us) (S ++ [.obj c []])).bind fun u S2 => match u with
  | .d .non => if fz = true then .ok (norm (frzN S.length S2) (.r S.length)) (frzN S.length S2) else .ok (.r S.length) S2
  | _ => .bad
theorem call_postN {K : PySem.W.Frag} {P : Hp} {ι : List Addr} {G H : Hp} {S : Store} {σ : L2.St} {vs : List V} {us : List U} {Q : VK} {m : Nat} {fF : Fn} (hlen : ∀ us S, us.length ≠ m → fF us S = .bad) (s : Sr K P ι G S H) (r : RUs K ι G vs us) (post : Post (RU K) K Wx P ι G σ Q (fF us S)) : spD K m fF vs H Q (WE Wx σ) := by
  have h := call_post (ps := List.replicate m Str.empty) (fun us S h => hlen us S (by rw [List.length_replicate] at h; exact h)) s r post
  rw [List.length_replicate] at h
  exact h
theorem make_post {K : PySem.W.Frag} {P : Hp} {ι : List Addr} {G H : Hp} {S : Store} {σ : L2.St} {Q : VK} {fz : Bool} {c : Str} {iF : Fn} {us : List U} {vs : List V} {m : Nat} (hlen : ∀ us S, us.length ≠ m → iF us S = .bad) (s : Sr K P ι G S H) (post : Post (RU K) K Wx P ι G σ Q (makeU fz c iF us S))
    (a dx : Addr) (ha : H a = none) (hd : H dx = none) (hne : dx ≠ a) (r : RUs K (ι ++ [a]) G vs us) : spD K m iF (.ref a :: vs) (upd (upd H dx (.own a)) a (.ins (ga K c) dx [])) (fun v H2 => v = .non ∧ Q (.ref a) H2) (WE Wx σ) := by
  have ha' : upd H dx (.own a) a = none := by rw [upd_ne (Ne.symm hne)]; exact ha
  have up : ι <+: ι ++ [a] := List.prefix_append ι [a]
  have hg := (s.fresh ha).1
  have s1 : Sr K P (ι ++ [a]) G (S ++ [.obj c []]) (upd (upd H dx (.own a)) a (.ins (ga K c) dx [])) := (s.tmp hd).cell ha' ⟨hg, dx, [], upd_same, .nil⟩
  have hn : (ι ++ [a])[S.length]? = some a := by rw [← s.len, List.getElem?_append_right (Nat.le_refl _), Nat.sub_self]; rfl
  refine call_postN (Wx := Wx) (σ := σ) hlen s1 (.cons (show RU K (ι ++ [a]) G (.ref a) (.r S.length) from ⟨a, hn, rfl⟩) r) ?_
  unfold makeU at post
  generalize iF (.r S.length :: us) (S ++ [.obj c []]) = q at post
  cases q with
  | bad => exact post
  | err c' fs S2 => exact fun ι' G' H' od p e s' ea => post ι' G' H' od (up.trans p) e s' ea
  | ok u S2 =>
    intro ι' G' H' v p e s' rv
    match u, post, rv with
    | .d .non, post1, rv =>
      cases rv
      refine ⟨rfl, ?_⟩
      cases fz with
      | true =>
        obtain ⟨G2, e2, s2⟩ := frzN_ok (n := S.length) s'
        exact post1 ι' G2 H' (.ref a) (up.trans p) (e.trans e2) s2 (norm_ok s2 (show RU K ι' G2 (.ref a) (.r S.length) from ⟨a, pre_get p hn, rfl⟩))
      | false => exact post1 ι' G' H' (.ref a) (up.trans p) e s' ⟨a, pre_get p hn, rfl⟩
theorem pdk_nil : PDK X Wx [] (fun _ S => .ok [] S) := ⟨_, pk_nil, fun P ι G σ S H ρ Q s _ post => post.ok s .nil⟩
variable {A : Env → Store → Res U} {As Ks : Env → Store → Res (List U)} {nm : Option Str} {kpos : Pos}
theorem pdk_cons (ha : PD X Wx e A) (hr : PDK X Wx kws Ks) : PDK X Wx (⟨nm, e, kpos⟩ :: kws) (fun ρ S => (A ρ S).bind fun x S => (Ks ρ S).bind fun xs S => .ok (x :: xs) S) := by
  obtain ⟨ta, pa, da⟩ := ha
  obtain ⟨tb, pb, db⟩ := hr
  refine ⟨_, pk_cons pa pb, fun P ι G σ S H ρ Q s e post => ?_⟩
  refine da P ι G σ S H ρ _ s e (post.bind fun x S1 ι1 G1 H1 v p1 e1 s1 rv post1 => ?_)
  refine db P ι1 G1 σ S1 H1 ρ _ s1 (e.up p1 e1) (post1.bind fun y S2 ι2 G2 H2 v2 p2 e2 s2 rv2 post2 => ?_)
  exact post2.ok s2 (.cons (rv.up p2 e2) rv2)
/-- the class x is made by __init__, which computes iF -/
structure MkD (X : Cx) (k : Nat) (x : Str) (fd : FuncData) (ps : List Str) (iF : Fn) : Prop where
  made : Mk X.K (ga X.K x) (ma X.K (ga X.K x) "__init__")
  gl : X.mg x = some (.ref (ga X.K x))
  fn : FnG X.prog X.w X.K X.mg X.base (L2.CX X.prog X.w) k (ma X.K (ga X.K x) "__init__") fd ps (spD X.K ps.length iF)
  len : ∀ us S, us.length ≠ ps.length → iF us S = .bad
/-- C(e, .., k = v, ..) -/
theorem pd_makeK {iF : Fn} {gU : List U → List U → List U} (fz : Bool) (hA : X.A.guards = some []) (M : MkD X k x fd ps iF) (hr : Room (k + 1) X.A) (tk : Takes X Wx) (hb : KBn X.K fd ps (n + 1) ks g gV)
    (hgU : ∀ (ι : List Addr) (G : Hp) (a : Addr) (vs : List V) (us : List U) (zs : List V) (ws : List U), vs.length = n → zs.length = ks.length → RUs X.K ι G vs us → RUs X.K ι G zs ws → ∃ ys, gV (.ref a :: vs) zs = .ref a :: ys ∧ RUs X.K ι G ys (gU us ws))
    (ha : PDA X Wx (e :: es) As) (hkw : PDK X Wx kws Ks) (hg : Gl X x := by rfl)
    (hall : (backToKw pos (keywordEach kws X.env)).all (·.1.isSome) = true := by rfl) (hks : (backToKw pos (keywordEach kws X.env)).filterMap (·.1) = ks := by rfl) (hdb : (x == ("__debug__" : Str)) = false := by decide)
    (he : starEach (e :: es) X.env = (false, eval e X.env) :: starEach es X.env := by rfl) (hpl : ((backTo pos (starEach (e :: es) X.env)).any (·.1) || (backToKw pos (keywordEach kws X.env)).any (·.1.isNone)) = false := by rfl) :
    PD X Wx (.Call (.Name x p) (e :: es) kws pos) (fun ρ S => (As ρ S).bind fun us S => (Ks ρ S).bind fun ws S => if us.length = n ∧ ws.length = ks.length then makeU fz x iF (gU us ws) S else .bad) := by
  obtain ⟨ta, pa, da⟩ := ha
  obtain ⟨tb, pb, db⟩ := hkw
  refine ⟨fun σ H Q => ta σ H fun vs H1 => tb σ H1 fun zs H2 => vs.length = n ∧ zs.length = ks.length ∧ ∀ a dx, H2 a = none → H2 dx = none → dx ≠ a → spD X.K ps.length iF (gV (.ref a :: vs) zs) (upd (upd H2 dx (.own a)) a (.ins (ga X.K x) dx [])) (fun v H2 => v = .non ∧ Q (.ref a) H2) (WE Wx σ), ⟨fun pins s σ H Q I h => ?_⟩, fun P ι G σ S H ρ Q s e post => ?_⟩
  · refine wpAny_Call_Name_kw (ld_glob I hg M.gl ?_ hdb)
    refine PySem.W.callWith_KW (h₀ := X.base) I.ok.mod.kin M.made.kp hall (thn (pa.run pos pins s σ H _ I h) fun us s1 ⟨vs, H1, I1, r, q⟩ => ?_) hpl he
    refine thn (pb.run pos pins s1 σ H1 _ I1 q) fun ws s2 ⟨zs, H2, I2, rz, l1, l2, q2⟩ => ⟨I2.kIn, ?_⟩
    rw [hks]
    refine run_new (E := WE Wx) hA M.made M.fn hr (passAt tk σ) I2 (fun s' hK => hb.to s' _ ws hK ?_ ?_) (hb.rel (.cons (show RelV (V.ref (s2.heap.objs.size + 1)) _ from rfl) r) rz) (q2 _ _ (I2.hok.fresh (Nat.le_succ _)) (I2.hok.fresh (Nat.le_refl _)) (Nat.ne_of_lt (Nat.lt_succ_self _)))
    · show ([] ++ us).length + 1 = n + 1
      rw [List.nil_append, ← r.length, l1]
    · rw [← rz.length, l2]
  · refine da P ι G σ S H ρ _ s e (post.bind fun us S1 ι1 G1 H1 vs p1 e1 s1 rv post1 => ?_)
    refine db P ι1 G1 σ S1 H1 ρ _ s1 (e.up p1 e1) (post1.bind fun ws S2 ι2 G2 H2 zs p2 e2 s2 rz post2 => ?_)
    split at post2
    · rename_i hl
      have rv2 := RUs.up p2 e2 rv
      have l1 : vs.length = n := by rw [paired_len rv2]; exact hl.1
      have l2 : zs.length = ks.length := by rw [paired_len rz]; exact hl.2
      refine ⟨l1, l2, fun a dx ha hd hne => ?_⟩
      have up : ι2 <+: ι2 ++ [a] := List.prefix_append ι2 [a]
      obtain ⟨ys, hy, ry⟩ := hgU (ι2 ++ [a]) G2 a vs us zs ws l1 l2 (RUs.up up (Ex.refl _) rv2) (RUs.up up (Ex.refl _) rz)
      rw [hy]
      exact make_post M.len s2 post2 a dx ha hd hne ry
    · exact post2.elim
/-- C(e, ..), the defaults behind -/
theorem pd_make {iF : Fn} {dus : List U} (fz : Bool) (hA : X.A.guards = some []) (M : MkD X k x fd ps iF) (hr : Room (k + 1) X.A) (tk : Takes X Wx) (hb : Binds X.K fd ps ds) (hd : Vals dvs ds) (hdu : ∀ ι G, RUs X.K ι G dvs dus)
    (ha : PDA X Wx (e :: es) As) (hg : Gl X x := by rfl) (hdb : (x == ("__debug__" : Str)) = false := by decide)
    (he : starEach (e :: es) X.env = (false, eval e X.env) :: starEach es X.env := by rfl) (hpl : (backTo pos (starEach es X.env)).any (·.1) = false := by rfl) :
    PD X Wx (.Call (.Name x p) (e :: es) [] pos) (fun ρ S => (As ρ S).bind fun us S => makeU fz x iF (us ++ dus) S) := by
  obtain ⟨ta, pa, da⟩ := ha
  refine ⟨fun σ H Q => ta σ H fun vs H1 => ∀ a dx, H1 a = none → H1 dx = none → dx ≠ a → spD X.K ps.length iF (.ref a :: (vs ++ dvs)) (upd (upd H1 dx (.own a)) a (.ins (ga X.K x) dx [])) (fun v H2 => v = .non ∧ Q (.ref a) H2) (WE Wx σ), ⟨fun pins s σ H Q I h => ?_⟩, fun P ι G σ S H ρ Q s e post => ?_⟩
  · refine wpAny_Call_Name_kw (ld_glob I hg M.gl ?_ hdb)
    refine PySem.W.callWith_K (h₀ := X.base) I.ok.mod.kin M.made.kp (thn (pa.run pos pins s σ H _ I h) fun us s1 ⟨vs, H1, I1, r, q⟩ => ⟨I1.kIn, ?_⟩) he hpl
    have q' := q _ _ (I1.hok.fresh (Nat.le_succ _)) (I1.hok.fresh (Nat.le_refl _)) (Nat.ne_of_lt (Nat.lt_succ_self _))
    have rr := Vals.append r hd
    refine run_new (E := WE Wx) (bs := _ :: (us ++ ds)) hA M.made M.fn hr (passAt tk σ) I1 (fun s' hK => hb s' (_ :: us) hK ?_) (.cons (show RelV (V.ref (s1.heap.objs.size + 1)) _ from rfl) rr) q'
    have hl := M.fn.len _ _ _ _ q'
    rw [List.length_cons, rr.length] at hl
    exact hl
  · refine da P ι G σ S H ρ _ s e (post.bind fun us S1 ι1 G1 H1 vs p1 e1 s1 rv post1 => fun a dx ha hd hne => ?_)
    have up : ι1 <+: ι1 ++ [a] := List.prefix_append ι1 [a]
    exact make_post M.len s1 post1 a dx ha hd hne (paired_app (RUs.up up (Ex.refl _) rv) (hdu _ _))
end
end DL
set_option Elab.async false
set_option linter.all false
set_option maxRecDepth 100000
set_option maxHeartbeats 4000000
/-! ### try: several clauses, each named or not, each of which returns -/
namespace DL
open PySem PySem.Spec PyProof.Rows L2
open He (ga ma)
open Evl (Ex)
section
variable {X : Cx} {pins : List (Addr × Obj)} {σ : L2.St} {H : Hp} {cls : Value} {d : Option Addr} {a : Addr} {s : Shared}
/-- the exception at a is in hand, the frame stands as Inv says -/
structure Caught (X : Cx) (pins : List (Addr × Obj)) (σ : L2.St) (H : Hp) (cls : Value) (d : Option Addr) (a : Addr) (s : Shared) : Prop where
  ex : ∃ (B : Heap) (sI : Shared), Inv X pins σ H sI ∧ (∀ b o, sI.heap.get? b = some o → b ∉ frs X.stack → B.get? b = some o) ∧ sI.heap.UpToSlots s.heap ∧ s.os = sI.os ∧ AllBare s.gens ∧ HandSPX.FlyingZ B X.stack a (Zc cls d) s.heap
  na : H a = none
theorem Caught.inv (c : Caught X pins σ H cls d a s) : Inv X pins σ H s := by
  obtain ⟨⟨B, sI, I, nb, up, os, ag, fl⟩, _⟩ := c
  exact I.landed nb fl.1 up os ag
theorem Caught.obj (c : Caught X pins σ H cls d a s) : ∃ oe, s.heap.get? a = some oe ∧ Zc cls d oe ∧ ∃ vs, oe.data = .fields vs := by
  obtain ⟨⟨B, sI, I, nb, up, os, ag, fl⟩, _⟩ := c
  obtain ⟨oe, vs, h1, h2, h3⟩ := fl.there
  exact ⟨oe, h1, h2, vs, h3⟩
/-- it is no frame -/
theorem Caught.apart (c : Caught X pins σ H cls d a s) : a ∉ frs X.stack := by
  intro hm
  obtain ⟨oe, h1, _, vs, h3⟩ := c.obj
  obtain ⟨⟨B, sI, I, nb, up, os, ag, fl⟩, _⟩ := c
  obtain ⟨_, o, ho, hno⟩ := fl.2.2.1.mem hm
  obtain rfl := Option.some.inj (h1.symm.trans ho)
  exact hno _ h3
theorem Caught.suite (c : Caught X pins σ H cls d a s) (hs : X.stack = X.env :: X.outer) (hf : X.env.frame = some X.env.locals) :
    ∃ oe, Zc cls d oe ∧ (∃ vs, oe.data = .fields vs) ∧ s.heap.get? a = some oe ∧ Inv (X.suite a ((a, oe) :: (X.pn ++ pins))) [] σ H s := by
  obtain ⟨oe, h1, h2, vs, h3⟩ := c.obj
  have ap := c.apart
  rw [hs] at ap
  refine ⟨oe, h2, ⟨vs, h3⟩, h1, c.inv.suite h1 h3 c.na (fun z => ap ?_) fun hm => ap ?_⟩
  · exact List.mem_filterMap.mpr ⟨_, List.mem_cons_self, by rw [hf, z]⟩
  · obtain ⟨e, he, q⟩ := List.mem_filterMap.mp hm
    exact List.mem_filterMap.mpr ⟨e, List.mem_cons_of_mem _ he, q⟩
/-- a clause's suite begins -/
theorem Caught.again {M : Model} {A : Around} {E : Value → Shared → Prop} {Q : Unit → Shared → Prop} (c : Caught X pins σ H cls d a s) (h : ∀ s', Caught X pins σ H cls d a s' → Q () s') : wpAny M A (setFlight (.ref a) none) Q E s := by
  obtain ⟨⟨B, sI, I, nb, up, os, ag, fl⟩, na⟩ := c
  exact HandSPX.lands_againZ fl fun h4 fl4 up4 => h { s with heap := h4 } ⟨⟨B, sI, I, nb, up.trans up4, os, ag, fl4⟩, na⟩
/-- no clause serves: it goes on -/
theorem Caught.out {W : WX} {Q : Flow → Shared → Prop} (c : Caught X pins σ H cls d a s) (hf : X.env.frame = some X.env.locals) (tk : Takes X W) (w : W cls d σ H) : wpAny (model X.prog X.w) X.A (handleBy (.ref a) X.env []) Q X.xe s := by
  obtain ⟨⟨B, sI, I, nb, up, os, ag, fl⟩, na⟩ := c
  refine wpAny_handleBy_nil ?_
  have go : wpAny (model X.prog X.w) X.A (setFlight (.ref a) X.env.frame) (fun _ s4 => wpAny (model X.prog X.w) X.A (throw (.ref a) : Sem Flow) Q X.xe s4) X.xe s := by
    rw [hf]
    exact HandSPX.setFlight_upZ fl fun h4 hh up4 => wpAny_throw (tk _ _ ⟨a, B, sI, pins, σ, H, cls, d, rfl, I, nb, up.trans up4, .inr (.inr hh), na, os, ag, w⟩)
  obtain ⟨_, _, _, oe, vs, T, oT, ts, he, _, hd, h1, _⟩ := fl
  unfold PySem.passOn
  refine wpAny_bind (wpAny_field he hd h1 ?_)
  have hT : ¬ ((Value.ref T == Value.none) = true) := by simp
  rw [if_neg hT]
  first | exact wpAny_bind (wpAny_pure (wpAny_bind go)) | exact wpAny_bind go
/-- what stands in the air over the try comes into hand -/
theorem caught_of {W : WX} {u : Value} {pn : List (Addr × Obj)} {xe E₁ : Value → Shared → Prop} {Q : Unit → Shared → Prop} (ok : X.Ok) (hs : X.stack = X.env :: X.outer) (hf : X.env.frame = some X.env.locals) (x : XE (X.tr (X.pn ++ pins) xe) W u s)
    (h : ∀ a σ H cls d s', u = .ref a → Caught X pins σ H cls d a s' → W cls d σ H → Q () s') : wpAny (model X.prog X.w) X.A (noteFrame u X.env) (fun _ s2 => wpAny (model X.prog X.w) X.A (setFlight u none) Q E₁ s2) E₁ s := by
  obtain ⟨a, B, sI, pins', σ, H, cls, d, rfl, J, nb, up, sky, na, os, ag, w⟩ := x
  have sk : Sky B (X.env :: X.outer) a (Zc cls d) X.env.locals s.heap := by rw [← hs]; exact sky
  refine Sky.land Zc.steady (by rw [ok.frames, hs]) hf sk fun h3 fl up3 => ?_
  exact h a σ H cls d { s with heap := h3 } rfl ⟨⟨B, sI, J.ofTry ok, nb, up.trans up3, os, ag, by rw [hs]; exact fl⟩, na⟩ w
end
/-! clauses that return -/
def mt (c cn : Str) : Bool := c == cn || cn == ("WhichError" : Str)
abbrev Cl := Str × (List (Str × D) → Env → Store → Res U)
def hdlU (c : Str) (fs : List (Str × D)) (ρ : Env) (S : Store) : List Cl → Fl
  | [] => .err c fs ρ S
  | (cn, F) :: r => if mt c cn = true then (match F fs ρ S with | .ok u S' => .rt u S' | _ => .bad) else hdlU c fs ρ S r
def tryU (cs : List Str) (cl : List Cl) (f : Fl) : Fl := match f with
  | .err c fs ρ S => if c ∈ cs then hdlU c fs ρ S cl else .bad
  | f => f
def setO (σ : L2.St) (io : Option Nat) (a : Addr) : L2.St := match io with
  | none => σ
  | some i => σ.set i (some (.ref a))
/-- what a clause returns, by the fields of its error -/
def PX (X : Cx) (cs : List Str) (io : Option Nat) (e : Expr) (F : List (Str × D) → Env → Store → Res U) : Prop := ∀ (a : Addr) (oe : Obj) (d : Option Addr) (pn : List (Addr × Obj)) (c : Str), c ∈ cs → Zc (.ref (ga X.K c)) d oe → (∃ vs, oe.data = .fields vs) →
  ∃ t, PE (X.suite a ((a, oe) :: pn)) e t ∧ ∀ fs P ι G σ0 S H ρ Q, Sr X.K P ι G S H → RelE X.K ι G σ0 ρ → (∀ i, io = some i → i < σ0.length) → ErrAt X.K G d fs → Post (RU X.K) X.K Wbot P ι G σ0 Q (F fs ρ S) → t (setO σ0 io a) H Q
inductive ClOk (X : Cx) (cs : List Str) : List ExceptHandler → List Cl → Prop
  | nil : ClOk X cs [] []
  | one {x cn : Str} {e : Expr} {F : List (Str × D) → Env → Store → Res U} {np rp pos' : Pos} {hds : List ExceptHandler} {cl : List Cl} (hc : Names X x (.ref (ga X.K cn))) (hm : ∀ c ∈ cs, PySem.W.exmOne X.K (.ref (ga X.K c)) (.ref (ga X.K cn)) = some (mt c cn)) (hp : PX X cs none e F) (r : ClOk X cs hds cl) :
      ClOk X cs (.ExceptHandler (some (.Name x np)) none [.Return (some e) rp] pos' :: hds) ((cn, F) :: cl)
  | as {x n cn : Str} {i : Nat} {e : Expr} {F : List (Str × D) → Env → Store → Res U} {np rp pos' : Pos} {hds : List ExceptHandler} {cl : List Cl} (hN : X.N.Nodup) (hi : X.N[i]? = some n) (hl : X.env.kindOf n = some .local) (hc : Names X x (.ref (ga X.K cn)))
      (hm : ∀ c ∈ cs, PySem.W.exmOne X.K (.ref (ga X.K c)) (.ref (ga X.K cn)) = some (mt c cn)) (hp : PX X cs (some i) e F) (r : ClOk X cs hds cl) :
      ClOk X cs (.ExceptHandler (some (.Name x np)) (some n) [.Return (some e) rp] pos' :: hds) ((cn, F) :: cl)
section
variable {X : Cx} {pins : List (Addr × Obj)} {σ : L2.St} {H : Hp} {d : Option Addr} {a : Addr} {s : Shared} {Wx : WX} {P : Hp} {ι : List Addr} {G : Hp} {S : Store} {ρ : Env} {fs : List (Str × D)} {E : Ends} {cs : List Str} {c : Str}
/-- the class that a clause names, asked where the exception is in hand -/
theorem Caught.test {cv : Value} {x : Str} {np : Pos} {b : Bool} {cls : Value} {Q : Bool → Shared → Prop} {E1 E2 : Value → Shared → Prop} (k : Caught X pins σ H cls d a s) (hs : X.stack = X.env :: X.outer) (hf : X.env.frame = some X.env.locals) (hc : Names X x cv) (hb : PySem.W.exmOne X.K cls cv = some b) (q : Q b s) :
    wpAny (model X.prog X.w) (X.A.mark (some (.ref a))) (eval (.Name x np) X.env) (fun c' s1 => wpAny (model X.prog X.w) (X.A.mark (some (.ref a))) (excMatches (.ref a) c') Q E1 s1) E2 s := by
  obtain ⟨oe, hz, hd, ho, J⟩ := k.suite hs hf
  have look : PySem.W.Looks (model X.prog X.w) s.heap (typeOf (.ref a)) cls := fun A Q E s' kp q => wpAny_typeOf_ref (kp _ _ ho) (by rw [hz.1]; exact q)
  have val := (PySem.W.exm_one (M := model X.prog X.w) k.inv.kIn look hb).here (A := X.A.mark (some (.ref a))) (E := E1) q
  obtain ⟨hg, hdb, hm | ⟨hm, hv, hn⟩⟩ := hc
  · exact ld_glob (X := X.suite a ((a, oe) :: (X.pn ++ pins))) J hg hm val hdb
  · exact ld_blt (X := X.suite a ((a, oe) :: (X.pn ++ pins))) J hg hm hv val hn hdb
/-- a clause's value, as the suite returns it -/
theorem px_run {io : Option Nat} {e : Expr} {F : List (Str × D) → Env → Store → Res U} {rp : Pos} {oe : Obj} {pn : List (Addr × Obj)} {s5 : Shared} (hp : PX X cs io e F) (hc : c ∈ cs) (hz : Zc (.ref (ga X.K c)) d oe) (hd : ∃ vs, oe.data = .fields vs) (J : Inv (X.suite a ((a, oe) :: pn)) [] (setO σ io a) H s5) (hio : ∀ i, io = some i → i < σ.length)
    (sr : Sr X.K P ι G S H) (r : RelE X.K ι G σ ρ) (ea : ErrAt X.K G d fs) {u : U} {S' : Store} (hF : F fs ρ S = .ok u S') (post : PostS X.K Wx P ι G E (.rt u S')) :
    wpAny (model X.prog X.w) (X.suite a ((a, oe) :: pn)).A (execs [.Return (some e) rp] X.env) (fun f s' => ∃ v σ' H' w, f = .ret w ∧ Inv (X.suite a ((a, oe) :: pn)) [] σ' H' s' ∧ RelV v w ∧ E.rt v H') (fun _ _ => False) s5 := by
  obtain ⟨t, pe, h⟩ := hp a oe d pn c hc hz hd
  have := (pss_one (ps_ret (pos := rp) pe)).run [] s5 (setO σ io a) H { nx := fun _ _ => False, rt := E.rt, bk := fun _ _ => False, ct := fun _ _ => False } J
    (h fs P ι G σ S H ρ _ sr r hio ea (by rw [hF]; exact fun ι' G' H' v p e s r => post ι' G' H' v p e s r))
  refine wpAny_mono this (fun f s' g => ?_) fun _ _ z => z
  cases f with
  | ret w => obtain ⟨v, σ', H', J', rv, q⟩ := g; exact ⟨v, σ', H', w, rfl, J', rv, q⟩
  | next => obtain ⟨_, _, _, z⟩ := g; exact z.elim
  | brk => obtain ⟨_, _, _, z⟩ := g; exact z.elim
  | cont => obtain ⟨_, _, _, z⟩ := g; exact z.elim
theorem clauses {hds : List ExceptHandler} {cl : List Cl} (h : ClOk X cs hds cl) (ok : X.Ok) (hs : X.stack = X.env :: X.outer) (hf : X.env.frame = some X.env.locals) (tk : Takes X Wx) (hc : c ∈ cs) (k : Caught X pins σ H (.ref (ga X.K c)) d a s)
    (sr : Sr X.K P ι G S H) (r : RelE X.K ι G σ ρ) (ea : ErrAt X.K G d fs) (post : PostS X.K Wx P ι G E (hdlU c fs ρ S cl)) : wpAny (model X.prog X.w) X.A (handleBy (.ref a) X.env hds) (SP X pins E) X.xe s := by
  have val : ∀ {F : List (Str × D) → Env → Store → Res U}, PostS X.K Wx P ι G E (match F fs ρ S with | .ok u S' => .rt u S' | _ => .bad) → ∃ u S', F fs ρ S = .ok u S' ∧ PostS X.K Wx P ι G E (.rt u S') := fun {F} p => by
    cases hF : F fs ρ S with
    | ok u S' => rw [hF] at p; exact ⟨u, S', rfl, p⟩
    | err _ _ _ => rw [hF] at p; exact p.elim
    | bad => rw [hF] at p; exact p.elim
  induction h with
  | nil => exact k.out hf tk (post ι G σ H d (List.prefix_refl _) (Ex.refl _) sr r ea)
  | @one x cn e F np rp pos' hds cl hn hm hp _ ih =>
    refine wpAny_handleBy_cons (codeAny_handlers_test (k.test hs hf hn (hm c hc) ?_)) (by intro q; cases q)
    unfold hdlU at post
    cases hb : mt c cn with
    | false => rw [hb, if_neg Bool.false_ne_true] at post; exact ih post
    | true =>
      rw [hb, if_pos rfl] at post
      obtain ⟨u, S', hF, post⟩ := val post
      refine codeAny_handlers_suite (k.again fun s4 k4 => ?_)
      obtain ⟨oe, hz, hd, _, J⟩ := k4.suite hs hf
      refine wpAny_mono (px_run (io := none) (rp := rp) hp hc hz hd J (fun i z => nomatch z) sr r ea hF post) (fun f s6 g => ?_) fun _ _ z => z.elim
      obtain ⟨v, σ6, H6, w, rfl, J6, rv, q⟩ := g
      exact ⟨v, σ6, H6, J6.unsuite ok, rv, q⟩
  | @as x n cn i e F np rp pos' hds cl hN hi hl hn hm hp _ ih =>
    refine wpAny_handleBy_cons (codeAny_handlers_test (k.test hs hf hn (hm c hc) ?_)) (by intro q; cases q)
    unfold hdlU at post
    cases hb : mt c cn with
    | false => rw [hb, if_neg Bool.false_ne_true] at post; exact ih post
    | true =>
      rw [hb, if_pos rfl] at post
      obtain ⟨u, S', hF, post⟩ := val post
      refine codeAny_handlers_suite_as (k.again fun s4 k4 => ?_)
      obtain ⟨oe, hz, hd, _, J⟩ := k4.suite hs hf
      have hil : i < σ.length := by rw [J.len]; exact (List.getElem?_eq_some_iff.mp hi).1
      refine store_ok (X := X.suite a ((a, oe) :: (X.pn ++ pins))) (v := .ref a) J hN hi (.inl hl) rfl (fun s5 J5 => ?_) (.inr hl)
      refine wpAny_mono (px_run (io := some i) (rp := rp) hp hc hz hd J5 (fun j z => by obtain rfl := Option.some.inj z; exact hil) sr r ea hF post) (fun f s6 g => ?_) fun _ _ z => z.elim
      obtain ⟨v, σ6, H6, w, rfl, J6, rv, q⟩ := g
      exact gone_ok (J6.unsuite ok) hN hi hl fun s7 J7 => ⟨v, _, H6, J7, rv, q⟩
/-- what the body's errors are wished to be -/
def wTry (K : PySem.W.Frag) (Wx : WX) (E : Ends) (cs : List Str) (cl : List Cl) : WX := fun cls d σ H => ∃ c P ι G S ρ fs, cls = .ref (ga K c) ∧ c ∈ cs ∧ Sr K P ι G S H ∧ RelE K ι G σ ρ ∧ ErrAt K G d fs ∧ PostS K Wx P ι G E (hdlU c fs ρ S cl)
theorem pds_try {body : List Stmt} {h₀ : ExceptHandler} {hds : List ExceptHandler} {cl : List Cl} {B : Env → Store → Fl} {pos : Pos} (hs : X.stack = X.env :: X.outer) (hf : X.env.frame = some X.env.locals) (tk : Takes X Wx) (hh : ClOk X cs (h₀ :: hds) cl)
    (hb : ∀ (W : WX) (pn : List (Addr × Obj)) (xe : Value → Shared → Prop), Takes (X.tr pn xe) W → PassesOwn (model X.prog X.w) X.A X.env xe → PDSs (X.tr pn xe) W body B) : PDS X Wx (.Try body (h₀ :: hds) [] [] pos) (fun ρ S => tryU cs cl (B ρ S)) := by
  refine ⟨fun E σ H => ∃ P ι G S ρ, Sr X.K P ι G S H ∧ RelE X.K ι G σ ρ ∧ PostS X.K Wx P ι G E (tryU cs cl (B ρ S)), ⟨fun pins s σ H E I ⟨P, ι, G, S, ρ, sr, r, post⟩ => ?_⟩, fun P ι G σ S H ρ E s e post => ⟨P, ι, G, S, ρ, s, e, post⟩⟩
  have ok := I.ok
  obtain ⟨t, pb, db⟩ := hb (wTry X.K Wx E cs cl) (X.pn ++ pins) (fun e s₁ => wpAny (model X.prog X.w) X.A (noteFrame e X.env) (fun _ s₂ => wpAny (model X.prog X.w) X.A (setFlight e none) (fun _ s₃ => wpAny (model X.prog X.w) X.A (handleBy e X.env (h₀ :: hds)) (SP X pins E) X.xe s₃) X.xe s₂) X.xe s₁)
    (fun u s' x => caught_of (pn := []) ok hs hf x fun a σ' H' cls d s3 hu k ⟨c, P', ι', G', S', ρ', fs, hcls, hc, sr', r', ea, post'⟩ => by
      subst hu
      subst hcls
      exact clauses hh ok hs hf tk hc k sr' r' ea post') PassesOwn.looking
  have post1 : PostS X.K (wTry X.K Wx E cs cl) P ι G E (B ρ S) := by
    generalize B ρ S = f at post
    cases f with
    | err c fs ρ' S' =>
      unfold tryU at post
      simp only at post
      split at post
      · rename_i hc
        exact fun ι' G' σ' H' od p e s' r' ea => ⟨c, P, ι', G', S', ρ', fs, rfl, hc, s', r', ea, PostS.up p e post⟩
      · exact post.elim
    | nx _ _ => exact post
    | rt _ _ => exact post
    | bk _ _ => exact post
    | ct _ _ => exact post
    | bad => exact post
  refine wpAny_Try_except (wpAny_mono (pb.run [] s σ H E (I.toTry _) (db P ι G σ S H ρ E sr r post1)) (fun f s1 g => ?_) fun _ _ z => z)
  cases f with
  | next => obtain ⟨σ', H', J, q⟩ := g; exact wpAny_execs_nil ⟨σ', H', J.ofTry ok, q⟩
  | brk => obtain ⟨σ', H', J, q⟩ := g; exact ⟨σ', H', J.ofTry ok, q⟩
  | cont => obtain ⟨σ', H', J, q⟩ := g; exact ⟨σ', H', J.ofTry ok, q⟩
  | ret u => obtain ⟨v, σ', H', J, rv, q⟩ := g; exact ⟨v, σ', H', J.ofTry ok, rv, q⟩
/-! what clauses return -/
variable {io : Option Nat} {e : Expr} {pos : Pos}
theorem px_of {v : V} {x : D} (h : ∀ (a : Addr) (oe : Obj) (pn : List (Addr × Obj)), PE (X.suite a ((a, oe) :: pn)) e (tC v)) (r : ∀ G, Rv X.K G v x) : PX X cs io e (fun _ _ S => .ok (.d x) S) := fun a oe d pn c _ _ _ =>
  ⟨_, h a oe pn, fun fs P ι G σ0 S H ρ Q s _ _ _ post => post.ok s (r G)⟩
theorem px_str {z : Str} {j : Nat} : PX X cs io (.Constant (.str z) j pos) (fun _ _ S => .ok (.d (.str z)) S) := px_of (fun _ _ _ => pe_str) fun _ => .str z
theorem px_non {j : Nat} : PX X cs io (.Constant .none j pos) (fun _ _ S => .ok (.d .non) S) := px_of (fun _ _ _ => pe_non) fun _ => .non
theorem px_bl {b : Bool} {j : Nat} : PX X cs io (.Constant (.bool b) j pos) (fun _ _ S => .ok (.d (.bl b)) S) := px_of (fun _ _ _ => pe_bl) fun _ => .bl b
/-- e.f of the caught error -/
theorem px_fld {i : Nat} {n f : Str} {np : Pos} (hx : ∀ c ∈ cs, XfC X.K (ga X.K c) ∧ PySem.W.findIn X.K (.ref (ga X.K c)) f = some none) (hv : ∀ (a : Addr) (oe : Obj) (pn : List (Addr × Obj)), PE (X.suite a ((a, oe) :: pn)) (.Name n np) (tVar i))
    (hb : attributeBase (.Name n np) f X.env (eval (.Name n np) X.env) = eval (.Name n np) X.env := by rfl) : PX X cs (some i) (.Attribute (.Name n np) f pos) (fun fs _ S => optR (fs.lookup f) .d S) := fun a oe d pn c hc hz hd => by
  refine ⟨_, pe_xf (hx c hc).1 (hx c hc).2 hz hd (hv a oe pn) hb, fun fs P ι G σ0 S H ρ Q s r hi ea post => ?_⟩
  refine ⟨.ref a, List.getElem?_set_self (hi i rfl), rfl, rfl, ?_⟩
  simp only [optR] at post
  split at post
  · rename_i x hx
    rcases ea with ⟨rfl, _⟩ | ⟨dd, vs, rfl, h1, h2⟩
    · cases hx
    · obtain ⟨v, hv, rv⟩ := h2.look hx
      exact ⟨dd, vs, v, rfl, s.ex _ _ h1, hv, post.ok s rv⟩
  · exact post.elim
/-- (e, e') -/
theorem px_two {e1 e2 : Expr} {F1 F2 : List (Str × D) → Env → Store → Res U} {x1} (h1 : PX X cs io e1 F1) (h2 : PX X cs io e2 F2) (hs1 : ∀ (a : Addr) (q : List (Addr × Obj)), starEach [e1, e2] (X.suite a q).env = (false, eval e1 (X.suite a q).env) :: starEach [e2] (X.suite a q).env := by intros; rfl)
    (hs2 : ∀ (a : Addr) (q : List (Addr × Obj)), starEach [e2] (X.suite a q).env = (false, eval e2 (X.suite a q).env) :: starEach [] (X.suite a q).env := by intros; rfl) :
    PX X cs io (.Tuple [e1, e2] x1 pos) (fun fs ρ S => (F1 fs ρ S).bind fun u S => (F2 fs ρ S).bind fun w S => mkT [u, w] S) := fun a oe d pn c hc hz hd => by
  obtain ⟨t1, p1, d1⟩ := h1 a oe d pn c hc hz hd
  obtain ⟨t2, p2, d2⟩ := h2 a oe d pn c hc hz hd
  refine ⟨_, pe_tup (pa_cons p1 (pa_cons p2 pa_nil (hs2 a _)) (hs1 a _)), fun fs P ι G σ0 S H ρ Q s r hi ea post => ?_⟩
  refine d1 fs P ι G σ0 S H ρ _ s r hi ea (post.bind fun u S1 ι1 G1 H1 v q1 k1 s1 rv post1 => ?_)
  refine d2 fs P ι1 G1 σ0 S1 H1 ρ _ s1 (r.up q1 k1) hi (ea.ex k1) (post1.bind fun w S2 ι2 G2 H2 v2 q2 k2 s2 rv2 post2 => ?_)
  have rr : RUs X.K ι2 G2 [v, v2] [u, w] := .cons (rv.up q2 k2) (.cons rv2 .nil)
  unfold mkT at post2
  split at post2
  · rename_i ds hds
    split at post2
    · exact ⟨show 2 ≤ sizeLine by decide, fun p hp => post2 ι2 _ _ (.ref p) (List.prefix_refl _) (s2.exN hp) (s2.new hp) (.tup (SqT.of upd_same) ((rr.all hds).ex (s2.exN hp)))⟩
    · exact post2.elim
  · exact post2.elim
end
end DL
set_option Elab.async false
set_option linter.all false
set_option maxRecDepth 100000
set_option maxHeartbeats 4000000
/-! ### more rules of the data layer -/
namespace DL
open PySem PySem.Spec PyProof.Rows L2
open He (ga ma)
open Evl (Ex)
open TL (tl)
section
variable {X : Cx} {Wx : WX} {P : Hp} {pos : Pos} {a : Expr} {A : Env → Store → Res U}
/-! len(set(t)), a tuple of texts -/
def lenSetU (u : U) (S : Store) : Res U := match u with
  | .d (.tup ds) => match strsD ds with
    | some zs => if zs.length ≤ 1000 then .ok (.d (.int (WT.dcn zs zs.length : Nat))) S else .bad
    | none => .bad
  | _ => .bad
theorem pd_lenSet {p p2 q : Pos} (hm : X.mg "len" = none) (hm2 : X.mg "set" = none) (ha : PD X Wx a A) (hc : X.calm = true := by rfl) (hg : Gl X "len" := by rfl) (hg2 : Gl X "set" := by rfl) (na : starEach [a] X.env = (false, eval a X.env) :: starEach [] X.env := by rfl) :
    PD X Wx (.Call (.Name "len" p) [.Call (.Name "set" p2) [a] [] q] [] pos) (fun ρ S => (A ρ S).bind lenSetU) := by
  obtain ⟨ta, pa, da⟩ := ha
  refine ⟨_, pe_lenSetT hc hg hm hg2 hm2 pa na, fun P ι G σ S H ρ Q s e post => ?_⟩
  refine da P ι G σ S H ρ _ s e (post.bind fun u S1 ι1 G1 H1 v p1 e1 s1 rv post1 => ?_)
  unfold lenSetU at post1
  split at post1
  · split at post1
    · rename_i zs hz
      split at post1
      · rename_i hl
        cases rv with
        | tup a1 a2 =>
          rw [strsD_eq hz] at a2
          obtain rfl := strs_ok a2
          exact ⟨_, zs, rfl, Evl.ex_t s1.ex a1, hl, post1.ok s1 (.int _)⟩
      · exact post1.elim
    · exact post1.elim
  · exact post1.elim
/-! a, b, c = x, y, z -/
theorem pds_par3 {i j l : Nat} {st : Stmt} {es : List Expr} {As : Env → Store → Res (List U)} (ha : PDA X Wx es As) (h : ∀ {t : TA}, PA X es t → PS X st (tPar3 i j l t)) :
    PDS X Wx st (fun ρ S => (As ρ S).fl ρ fun us S => match us with | [u, w, z] => .nx (((ρ.set i (some u)).set j (some w)).set l (some z)) S | _ => .bad) := by
  obtain ⟨t, p, d⟩ := ha
  refine ⟨_, h p, fun P ι G σ S H ρ E s e post => ?_⟩
  refine d P ι G σ S H ρ _ s e (Post.fl e post fun us S1 ι1 G1 H1 vs p1 e1 s1 rv r1 post1 => ?_)
  match us, vs, rv, post1 with
  | [u, w, z], [x, y, v], .cons ra (.cons rb (.cons rc .nil)), post1 =>
    exact ⟨x, y, v, rfl, post1 ι1 G1 _ H1 (List.prefix_refl _) (Ex.refl _) s1 (paired_set (show RO X.K ι1 G1 (some _) (some _) from rc) l (paired_set (show RO X.K ι1 G1 (some _) (some _) from rb) j (paired_set (show RO X.K ι1 G1 (some _) (some _) from ra) i r1)))⟩
/-! name = [..], a list that changes later -/
theorem Sr.adopt {K : PySem.W.Frag} {ι : List Addr} {G H : Hp} {S : Store} {p : Addr} {vs : List V} {us : List U} (s : Sr K (upd P p (.lst vs)) ι G S H) (hP : P p = none) (r : RUs K ι G vs us) : Sr K P (ι ++ [p]) G (S ++ [.lst us]) H := by
  obtain ⟨h1, h2, h3⟩ := s.pin p _ upd_same
  have up : ι <+: ι ++ [p] := List.prefix_append ι [p]
  have last : ∀ {n : Nat} {b : Addr}, (ι ++ [p])[n]? = some b → (n < ι.length ∧ ι[n]? = some b) ∨ (n = ι.length ∧ b = p) := fun {n b} h => by
    by_cases hn : n < ι.length
    · rw [List.getElem?_append_left hn] at h; exact .inl ⟨hn, h⟩
    · have hl := (List.getElem?_eq_some_iff.mp h).1
      rw [List.length_append] at hl
      have hl' : n < ι.length + 1 := hl
      obtain rfl : n = ι.length := by omega
      rw [List.getElem?_append_right (Nat.le_refl _), Nat.sub_self] at h
      exact .inr ⟨rfl, (Option.some.inj h).symm⟩
  refine ⟨s.ex, by rw [List.length_append, List.length_append, s.len]; rfl, ?_, fun n c b hc hb => ?_, fun n b hb => ?_, fun b o hb => ?_⟩
  · rw [List.nodup_append]
    refine ⟨s.nd, by simp, fun b hb c hc e => ?_⟩
    obtain rfl := List.mem_singleton.mp hc
    subst e
    obtain ⟨n, hn, hh⟩ := List.getElem_of_mem hb
    exact h3 n (by rw [List.getElem?_eq_getElem hn, hh])
  · rcases last hb with ⟨hn, hb'⟩ | ⟨rfl, rfl⟩
    · rw [List.getElem?_append_left (by rw [← s.len]; exact hn)] at hc
      refine (s.at_ n c b hc hb').up up (Ex.refl G) ?_ fun o h => h
      cases hg : G b with
      | none => exact .inl rfl
      | some o => exact .inr ⟨o, rfl⟩
    · rw [s.len, List.getElem?_append_right (Nat.le_refl _), Nat.sub_self] at hc
      obtain rfl : Cell.lst us = c := Option.some.inj hc
      exact ⟨h2, vs, h1, r.up up (Ex.refl G)⟩
  · rcases last hb with ⟨_, hb'⟩ | ⟨_, rfl⟩
    · exact s.out n b hb'
    · exact ⟨_, h1⟩
  · have hne : b ≠ p := ne_of_none hb hP
    obtain ⟨k1, k2, k3⟩ := s.pin b o (by rw [upd_ne hne]; exact hb)
    refine ⟨k1, k2, fun n hn => ?_⟩
    rcases last hn with ⟨_, hn'⟩ | ⟨_, e⟩
    · exact k3 n hn'
    · exact hne e
variable {elt tg iter : Expr} {ifs : List Expr} {scope : Scope} {own : List (Str × Nat)} {I : Env → Store → Res Iter} {sl : List Nat} {T : U → Env → Store → Res Env} {C : Env → Store → Res Bool} {El : Env → Store → Res U}
theorem pds_setLcM {i : Nat} {y : Str} {py spos : Pos} (hc : X.calm = true) (hN : X.N.Nodup) (hy : X.N[i]? = some y) (hyl : X.env.scope.names.lookup y = some .local)
    (hsw : swapsWith (.ListComp elt [⟨tg, iter, ifs, 0⟩] scope pos) (some (.Name y py)) spos.line X.env = pure true) (hi : PDI X Wx tg iter I) (ok : BlkOk X.N X.env.scope scope own) (hsl : ∀ i ∈ sl, i ∈ own.map (·.2))
    (hg : ∀ (s : Shared) (H : Hp) (C : Addr) (cl : List (Str × Addr)) (fp : List Addr), PDG (X.blk s H scope (compEnvC scope cl C X.env) fp) Wbot tg sl T) (ht : ∀ (s : Shared) (H : Hp) (Ca : Addr) (cl : List (Str × Addr)) (fp : List Addr), PDTs (X.blk s H scope (compEnvC scope cl Ca X.env) fp) Wbot ifs C)
    (he : ∀ (s : Shared) (H : Hp) (C : Addr) (cl : List (Str × Addr)) (fp : List Addr), PD (X.blk s H scope (compEnvC scope cl C X.env) fp) Wbot elt El) (hs : ∀ x, foldedSetIterable iter X.env x = pure x := by intro _; rfl) :
    PDS X Wx (.Assign [.Name y py] (.ListComp elt [⟨tg, iter, ifs, 0⟩] scope pos) spos) (fun ρ S => ((I ρ S).bind fun it S => (lcU it.g T C El (wipeE ρ (own.map (·.2))) it.us [] S).bind mkM).fl ρ fun u S => .nx (ρ.set i (some u)) S) := by
  obtain ⟨w, pi, di⟩ := hi
  refine ⟨_, ps_setLc (te := tOf (RU X.K) X.K Wbot El) (tt := tOf RB X.K Wbot C) (g := gOf X.K Wbot sl T) hc hN hy hyl hsw pi ok (fun s H C cl fp => (hg s H C cl fp).pg) (fun s H C cl fp => (ht s H C cl fp).pts) (fun s H C cl fp => (he s H C cl fp).pe) hs, fun P ι G σ S H ρ E s e post => ?_⟩
  have post0 : Post (RU X.K) X.K Wx P ι G σ (fun v H' => E.nx (σ.set i (some v)) H') ((I ρ S).bind fun it S => (lcU it.g T C El (wipeE ρ (own.map (·.2))) it.us [] S).bind mkM) :=
    Post.fl e post fun u S1 ι1 G1 H1 v p1 e1 s1 rv r1 post1 => post1 ι1 G1 _ H1 (List.prefix_refl _) (Ex.refl _) s1 (paired_set (show RO X.K ι1 G1 (some v) (some u) from rv) i r1)
  refine di P ι G σ S H ρ _ s e (post0.bind fun it S1 ι1 G1 H1 J p1 e1 s1 gw post1 => fun Dd hD => ?_)
  refine lc_post (Q := fun v H' => E.nx (σ.set i (some v)) H') hsl gw s1 (e.up p1 e1) hD post1 fun ι2 G2 H2 S2 xs us p2 e2 s2 r2 post2 => ?_
  unfold mkM at post2
  split at post2
  · refine post2 (ι2 ++ [Dd]) G2 H2 (.ref Dd) (List.prefix_append _ _) (Ex.refl _) (s2.adopt (s1.noPin hD) r2) ⟨Dd, ?_, rfl⟩
    rw [← s2.len, List.getElem?_append_right (Nat.le_refl _), Nat.sub_self]
    rfl
  · exact post2.elim
end
/-! ### how what is computed is reckoned: rows for simp -/
theorem bind_ok {α β : Type} (a : α) (S : Store) (k : α → Store → Res β) : (Res.ok a S).bind k = k a S := rfl
theorem bind_err {α β : Type} (c : Str) (fs : List (Str × D)) (S : Store) (k : α → Store → Res β) : (Res.err c fs S : Res α).bind k = .err c fs S := rfl
theorem bind_bad {α β : Type} (k : α → Store → Res β) : (Res.bad : Res α).bind k = .bad := rfl
theorem fl_ok {α : Type} (a : α) (S : Store) (ρ : Env) (k : α → Store → Fl) : (Res.ok a S).fl ρ k = k a S := rfl
theorem fl_err {α : Type} (c : Str) (fs : List (Str × D)) (S : Store) (ρ : Env) (k : α → Store → Fl) : (Res.err c fs S : Res α).fl ρ k = .err c fs ρ S := rfl
theorem fl_bad {α : Type} (ρ : Env) (k : α → Store → Fl) : (Res.bad : Res α).fl ρ k = .bad := rfl
theorem seq_nx (ρ : Env) (S : Store) (k : Env → Store → Fl) : (Fl.nx ρ S).seq k = k ρ S := rfl
theorem seq_rt (u : U) (S : Store) (k : Env → Store → Fl) : (Fl.rt u S).seq k = .rt u S := rfl
theorem seq_err (c : Str) (fs : List (Str × D)) (ρ : Env) (S : Store) (k : Env → Store → Fl) : (Fl.err c fs ρ S).seq k = .err c fs ρ S := rfl
theorem seq_bk (ρ : Env) (S : Store) (k : Env → Store → Fl) : (Fl.bk ρ S).seq k = .bk ρ S := rfl
theorem seq_ct (ρ : Env) (S : Store) (k : Env → Store → Fl) : (Fl.ct ρ S).seq k = .ct ρ S := rfl
theorem seq_bad (k : Env → Store → Fl) : Fl.bad.seq k = .bad := rfl
theorem seq_if (c : Prop) [Decidable c] (a b : Fl) (k : Env → Store → Fl) : (if c then a else b).seq k = if c then a.seq k else b.seq k := by split <;> rfl
theorem bodyR_if (c : Prop) [Decidable c] (a b : Fl) : bodyR (if c then a else b) = if c then bodyR a else bodyR b := by split <;> rfl
theorem bind_if {α β : Type} (c : Prop) [Decidable c] (a b : Res α) (k : α → Store → Res β) : (if c then a else b).bind k = if c then a.bind k else b.bind k := by split <;> rfl
theorem fl_if {α : Type} (c : Prop) [Decidable c] (a b : Res α) (ρ : Env) (k : α → Store → Fl) : (if c then a else b).fl ρ k = if c then a.fl ρ k else b.fl ρ k := by split <;> rfl
theorem gFl_none (S : Store) (x : Fl) : gFl none S x = x := rfl
theorem gRs_none {α : Type} (S : Store) (x : Res α) : gRs none S x = x := rfl
theorem norm_d (S : Store) (x : D) : norm S (.d x) = .d x := rfl
theorem dat_d (S : Store) (x : D) : dat (.d x) S = some x := rfl
theorem ne_ok {α : Type} (a : α) (S : Store) : (Res.ok a S).ne = .ok a S := rfl
/-- a comprehension over data whose element is pure: a map -/
theorem lcU_map {T : U → Env → Store → Res Env} {El : Env → Store → Res U} {ρ : Env} {S : Store} (f : U → U) : ∀ (us acc : List U), (∀ u ∈ us, ∃ ρ1, T u ρ S = .ok ρ1 S ∧ El ρ1 S = .ok (f u) S) → acc.length + us.length ≤ sizeLine → lcU none T (fun _ S => .ok true S) El ρ us acc S = .ok (acc ++ us.map f) S
  | [], acc, _, _ => by simp [lcU, gRs]
  | u :: r, acc, h, hl => by
    obtain ⟨ρ1, h1, h2⟩ := h u List.mem_cons_self
    have hl' : acc.length + (r.length + 1) ≤ sizeLine := hl
    unfold lcU
    rw [gRs_none, h1, ne_ok, bind_ok, ne_ok, bind_ok, if_pos rfl, h2, ne_ok, bind_ok, if_pos (by omega), lcU_map f r (acc ++ [f u]) (fun w hw => h w (List.mem_cons_of_mem _ hw)) (by rw [List.length_append]; show acc.length + 1 + r.length ≤ _; omega)]
    simp
end DL
set_option Elab.async false
set_option linter.all false
set_option maxRecDepth 100000
set_option maxHeartbeats 4000000
/-! ### plain facts of data -/
namespace DL
open PySem PySem.Spec PyProof.Rows L2
open TL (tl)
/-! what a def computes where this holds -/
open Classical in
noncomputable def pre (p : Prop) (r : Res U) : Res U := if p then r else .bad
theorem pre_pos {p : Prop} {r : Res U} (h : p) : pre p r = r := if_pos h
theorem pre_ref {S : Store} {p : Prop} {r r' : Res U} (h : p → Refines S r r') : Refines S (pre p r) r' := by
  unfold pre
  split
  · rename_i hp; exact h hp
  · exact .bad _
theorem ref_eq {S : Store} {r r' : Res U} (h : r' = r) : Refines S r r' := by rw [h]; exact .refl r
theorem bodyR_rt (u : U) (S : Store) : bodyR (.rt u S) = .ok u S := rfl
theorem bodyR_nx (ρ : Env) (S : Store) : bodyR (.nx ρ S) = .ok (.d .non) S := rfl
theorem bodyR_err (c : Str) (fs : List (Str × D)) (ρ : Env) (S : Store) : bodyR (.err c fs ρ S) = .err c fs S := rfl
theorem asB_bl (b : Bool) (S : Store) : asB (.d (.bl b)) S = .ok b S := rfl
theorem tru_bl (b : Bool) (S : Store) : truU (.d (.bl b)) S = .ok b S := rfl
theorem iff_f {α : Type} (a b : α) : (if false = true then a else b) = b := rfl
theorem iff_t {α : Type} (a b : α) : (if true = true then a else b) = a := rfl
theorem leU_int (i j : Int) (S : Store) : leU (.d (.int i)) (.d (.int j)) S = .ok (.d (.bl (decide (i ≤ j)))) S := rfl
theorem ltU_int (i j : Int) (S : Store) : ltU (.d (.int i)) (.d (.int j)) S = .ok (.d (.bl (decide (i < j)))) S := rfl
theorem gtU_int (i j : Int) (S : Store) : gtU (.d (.int i)) (.d (.int j)) S = .ok (.d (.bl (decide (j < i)))) S := rfl
theorem geU_int (i j : Int) (S : Store) : geU (.d (.int i)) (.d (.int j)) S = .ok (.d (.bl (decide (j ≤ i)))) S := rfl
theorem subU_int (i j : Int) (S : Store) : subU (.d (.int i)) (.d (.int j)) S = .ok (.d (.int (i - j))) S := rfl
theorem addU_int (i j : Int) (S : Store) : addU (.d (.int i)) (.d (.int j)) S = .ok (.d (.int (i + j))) S := rfl
theorem len_tup (ds : List D) (S : Store) : lenU (.d (.tup ds)) S = .ok (.d (.int ds.length)) S := rfl
theorem len_lst (ds : List D) (S : Store) : lenU (.d (.lst ds)) S = .ok (.d (.int ds.length)) S := rfl
theorem c1_one (g : U → Store → Res U) (u : U) (S : Store) : c1 g [u] S = g u S := rfl
theorem c2_two (g : U → U → Store → Res U) (u w : U) (S : Store) : c2 g [u, w] S = g u w S := rfl
theorem rd0 (o : U) (ρ : Env) (S : Store) : rdV (some o :: ρ) 0 S = .ok (norm S o) S := rfl
theorem rdS (o : Option U) (ρ : Env) (i : Nat) (S : Store) : rdV (o :: ρ) (i + 1) S = rdV ρ i S := rfl
/-! built-in classes -/
theorem isTy_str : ∀ x : D, isTy "str" x = match x with | .str _ => some true | .obj _ _ => none | .ty _ => none | .cls _ => none | _ => some false
  | .non => by decide +kernel
  | .bl _ => show kitB "bool" "str" = some false by decide +kernel
  | .int _ => show kitB "int" "str" = some false by decide +kernel
  | .str _ => show kitB "str" "str" = some true by decide +kernel
  | .tup _ => show kitB "tuple" "str" = some false by decide +kernel
  | .lst _ => show kitB "list" "str" = some false by decide +kernel
  | .obj _ _ => rfl
  | .ty _ => rfl
  | .cls _ => rfl
theorem isTy_tup : ∀ x : D, isTy "tuple" x = match x with | .tup _ => some true | .obj _ _ => none | .ty _ => none | .cls _ => none | _ => some false
  | .non => by decide +kernel
  | .bl _ => show kitB "bool" "tuple" = some false by decide +kernel
  | .int _ => show kitB "int" "tuple" = some false by decide +kernel
  | .str _ => show kitB "str" "tuple" = some false by decide +kernel
  | .tup _ => show kitB "tuple" "tuple" = some true by decide +kernel
  | .lst _ => show kitB "list" "tuple" = some false by decide +kernel
  | .obj _ _ => rfl
  | .ty _ => rfl
  | .cls _ => rfl
theorem isTy_int : ∀ x : D, isTy "int" x = match x with | .int _ => some true | .bl _ => some true | .obj _ _ => none | .ty _ => none | .cls _ => none | _ => some false
  | .non => by decide +kernel
  | .bl _ => show kitB "bool" "int" = some true by decide +kernel
  | .int _ => show kitB "int" "int" = some true by decide +kernel
  | .str _ => show kitB "str" "int" = some false by decide +kernel
  | .tup _ => show kitB "tuple" "int" = some false by decide +kernel
  | .lst _ => show kitB "list" "int" = some false by decide +kernel
  | .obj _ _ => rfl
  | .ty _ => rfl
  | .cls _ => rfl
theorem isTy_bool : ∀ x : D, isTy "bool" x = match x with | .bl _ => some true | .obj _ _ => none | .ty _ => none | .cls _ => none | _ => some false
  | .non => by decide +kernel
  | .bl _ => show kitB "bool" "bool" = some true by decide +kernel
  | .int _ => show kitB "int" "bool" = some false by decide +kernel
  | .str _ => show kitB "str" "bool" = some false by decide +kernel
  | .tup _ => show kitB "tuple" "bool" = some false by decide +kernel
  | .lst _ => show kitB "list" "bool" = some false by decide +kernel
  | .obj _ _ => rfl
  | .ty _ => rfl
  | .cls _ => rfl
/-! good data: plain, ascii, not too large -/
structure GD (x : D) : Prop where
  pl : x.plain = true
  gd : L2.Gd x.py
theorem GD.ok {x : D} (h : GD x) : okD x = true := by
  unfold okD
  rw [h.pl, h.gd.shaped]; rfl
theorem gdAll_mem : ∀ {xs : List PyData} {x : PyData}, gdAll xs = true → x ∈ xs → gd x = true
  | y :: r, x, h, hx => by
    have h' : (gd y && gdAll r) = true := h
    rw [Bool.and_eq_true] at h'
    rcases List.mem_cons.mp hx with rfl | hx
    · exact h'.1
    · exact gdAll_mem h'.2 hx
theorem wtAll_mem : ∀ {xs : List PyData} {x : PyData}, x ∈ xs → wt x ≤ wtAll xs
  | y :: r, x, hx => by
    show wt x ≤ wt y + 2 + wtAll r
    rcases List.mem_cons.mp hx with rfl | hx
    · omega
    · have := wtAll_mem hx; omega
theorem wtAll_len : ∀ xs : List PyData, 2 * xs.length ≤ wtAll xs
  | [] => Nat.le_refl _
  | y :: r => by
    have := wtAll_len r
    show 2 * (r.length + 1) ≤ wt y + 2 + wtAll r
    omega
theorem depthAll_mem : ∀ {xs : List PyData} {x : PyData}, x ∈ xs → x.depth ≤ PyData.depthAll xs
  | y :: r, x, hx => by
    simp only [PyData.depthAll]
    rcases List.mem_cons.mp hx with rfl | hx
    · exact Nat.le_max_left _ _
    · exact Nat.le_trans (depthAll_mem hx) (Nat.le_max_right _ _)
theorem py_mem {ds : List D} {d : D} (h : d ∈ ds) : d.py ∈ pyAll ds := by rw [pyAll_map]; exact List.mem_map.mpr ⟨d, h, rfl⟩
end DL
set_option Elab.async false
set_option linter.all false
set_option maxRecDepth 100000
set_option maxHeartbeats 4000000
/-! ### texts in lists, slices, walks with an index -/
namespace DL
open PySem PySem.Spec PyProof.Rows L2
open TL (tl)
/-- plain signs alone -/
def Asc (z : Str) : Prop := ∀ c ∈ tl z, c < 128
theorem gd_str {z : Str} (h : Asc z) : gd (.str z) = true := by
  simp only [gd]
  exact List.all_eq_true.mpr fun c hc => decide_eq_true (h c hc)
theorem asc_of {z : Str} (h : gd (.str z) = true) : Asc z := fun c hc => by
  simp only [gd] at h
  exact of_decide_eq_true (List.all_eq_true.mp h c hc)
theorem okD_str {z : Str} (h : Asc z) : okD (.str z) = true := by
  have h1 : (PyData.str z).canLay0 = true := gd_can _ (gd_str h)
  show (true && SeqAt.shaped (.str z)) = true
  unfold SeqAt.shaped
  rw [h1]; rfl
theorem depth_strs : ∀ zs : List Str, PyData.depthAll (pyAll (zs.map .str)) = 0
  | [] => rfl
  | z :: t => by
    show max (PyData.depth (.str z)) (PyData.depthAll (pyAll (t.map .str))) = 0
    rw [depth_strs t]; rfl
theorem can_strs : ∀ {zs : List Str}, (∀ z ∈ zs, Asc z) → PyData.canLayAll0 (pyAll (zs.map .str)) = true
  | [], _ => rfl
  | z :: t, h => by
    show (PyData.canLay0 (.str z) && PyData.canLayAll0 (pyAll (t.map .str))) = true
    rw [can_strs fun y hy => h y (List.mem_cons_of_mem _ hy), gd_can _ (gd_str (h z List.mem_cons_self))]; rfl
theorem plain_strs : ∀ zs : List Str, plainAll (zs.map D.str) = true
  | [] => rfl
  | z :: t => by show (true && plainAll (t.map D.str)) = true; rw [plain_strs t]; rfl
theorem okD_lst {zs : List Str} (h : ∀ z ∈ zs, Asc z) : okD (.lst (zs.map .str)) = true := by
  show (plainAll (zs.map D.str) && (PyData.canLayAll0 (pyAll (zs.map .str)) && decide (PyData.depthAll (pyAll (zs.map .str)) + 1 ≤ 64))) = true
  rw [plain_strs, can_strs h, depth_strs]; rfl
theorem okD_tup {zs : List Str} (h : ∀ z ∈ zs, Asc z) : okD (.tup (zs.map .str)) = true := by
  show (plainAll (zs.map D.str) && (PyData.canLayAll0 (pyAll (zs.map .str)) && decide (PyData.depthAll (pyAll (zs.map .str)) + 1 ≤ 64))) = true
  rw [plain_strs, can_strs h, depth_strs]; rfl
theorem any_str (zs : List Str) (x : Str) : ((zs.map D.str).any fun z => PyData.eqv z.py (D.str x).py) = decide (x ∈ zs) := by
  rw [List.any_map]
  induction zs with
  | nil => simp
  | cons z t ih =>
    rw [List.any_cons, ih]
    have e : ((fun y : D => PyData.eqv y.py (D.str x).py) ∘ D.str) z = decide (z = x) := by
      show (z == x) = _
      by_cases h : z = x <;> simp [h]
    rw [e]
    by_cases h : z = x
    · subst h; simp
    · have h2 : ¬ x = z := fun e => h e.symm
      simp [h, h2]
theorem in_lst {neg : Bool} {x : Str} {zs : List Str} (hx : Asc x) (h : ∀ z ∈ zs, Asc z) (S : Store) : inU neg (.d (.str x)) (.d (.lst (zs.map .str))) S = .ok (.d (.bl (inB neg (decide (x ∈ zs))))) S := by
  show (if okD (.str x) = true ∧ okD (.lst (zs.map .str)) = true then Res.ok (U.d (.bl (inB neg ((zs.map D.str).any fun z => PyData.eqv z.py (D.str x).py)))) S else .bad) = _
  rw [if_pos ⟨okD_str hx, okD_lst h⟩, any_str]
theorem in_tup {neg : Bool} {x : Str} {zs : List Str} (hx : Asc x) (h : ∀ z ∈ zs, Asc z) (S : Store) : inU neg (.d (.str x)) (.d (.tup (zs.map .str))) S = .ok (.d (.bl (inB neg (decide (x ∈ zs))))) S := by
  show (if okD (.str x) = true ∧ okD (.tup (zs.map .str)) = true then Res.ok (U.d (.bl (inB neg ((zs.map D.str).any fun z => PyData.eqv z.py (D.str x).py)))) S else .bad) = _
  rw [if_pos ⟨okD_str hx, okD_tup h⟩, any_str]
/-! slices -/
theorem cut_to {α : Type} {xs : List α} {i : Nat} (h : i ≤ xs.length) : cutL xs none (some (i : Int)) = xs.take i := by
  unfold cutL
  rw [HT.sIx_none, HT.sIx_nat, Nat.min_eq_left h]
  rfl
theorem cut_from {α : Type} {xs : List α} {i : Nat} (h : i ≤ xs.length) : cutL xs (some (i : Int)) none = xs.drop i := by
  unfold cutL
  rw [HT.sIx_none, HT.sIx_nat, Nat.min_eq_left h]
  exact List.take_of_length_le (by rw [List.length_drop]; omega)
/-! walks with an index -/
def enumN (n : Nat) (ds : List D) : List U := (ds.zipIdx n).map fun p => .d (.tup [.int (p.2 : Nat), p.1])
theorem enumF_eq (ds : List D) : enumF ds = enumN 0 ds := rfl
theorem enumN_cons (n : Nat) (d : D) (t : List D) : enumN n (d :: t) = .d (.tup [.int (n : Nat), d]) :: enumN (n + 1) t := by
  unfold enumN
  rw [List.zipIdx_cons, List.map_cons]
theorem enumN_nil (n : Nat) : enumN n [] = [] := rfl
theorem forU_nil (T : U → Env → Store → Res Env) (B : Env → Store → Fl) (ρ : Env) (S : Store) : forU none T B [] ρ S = .nx ρ S := rfl
theorem forU_cons (T : U → Env → Store → Res Env) (B : Env → Store → Fl) (u : U) (r : List U) (ρ : Env) (S : Store) : forU none T B (u :: r) ρ S = (T u ρ S).fl ρ fun ρ1 S1 => match B ρ1 S1 with
    | .nx ρ2 S2 => forU none T B r ρ2 S2
    | .ct ρ2 S2 => forU none T B r ρ2 S2
    | .bk ρ2 S2 => .nx ρ2 S2
    | f => f := by conv => lhs; unfold forU
                   rfl
/-- a for by its invariant; K: what is wanted of its end -/
theorem loop {T : U → Env → Store → Res Env} {B : Env → Store → Fl} (K : Fl → Prop) (I : List U → Env → Store → Prop)
    (step : ∀ u r ρ S, I (u :: r) ρ S → ∃ ρ1 S1, T u ρ S = .ok ρ1 S1 ∧ (match B ρ1 S1 with | .nx ρ2 S2 => I r ρ2 S2 | .ct ρ2 S2 => I r ρ2 S2 | .bk ρ2 S2 => K (.nx ρ2 S2) | f => K f))
    (done : ∀ ρ S, I [] ρ S → K (.nx ρ S)) : ∀ {us : List U} {ρ : Env} {S : Store}, I us ρ S → K (forU none T B us ρ S)
  | [], ρ, S, h => by rw [forU_nil]; exact done ρ S h
  | u :: r, ρ, S, h => by
    obtain ⟨ρ1, S1, h1, h2⟩ := step u r ρ S h
    rw [forU_cons, h1, fl_ok]
    generalize B ρ1 S1 = f at h2
    cases f with
    | nx ρ2 S2 => exact loop K I step done h2
    | ct ρ2 S2 => exact loop K I step done h2
    | bk ρ2 S2 => exact h2
    | rt _ _ => exact h2
    | err _ _ _ _ => exact h2
    | bad => exact h2
theorem tuple_two (a b : D) (S : Store) : tuple? (.d (.tup [a, b])) S = .ok [.d a, .d b] S := rfl
theorem mkE_one (c f : Str) (x : D) (ρ : Env) (S : Store) : mkE c [f] [.d x] ρ S = .err c [(f, x)] ρ S := rfl
theorem okD_int (i : Int) : okD (.int i) = true := rfl
theorem eqU_int (i j : Int) (S : Store) : eqU (.d (.int i)) (.d (.int j)) S = .ok (.d (.bl (decide (i = j)))) S := by
  show (if okD (.int i) = true ∧ okD (.int j) = true then Res.ok (U.d (.bl (PyData.eqv (.int i) (.int j)))) S else .bad) = _
  rw [if_pos ⟨rfl, rfl⟩]
  have : PyData.eqv (.int i) (.int j) = decide (i = j) := by
    show (i == j) = _
    by_cases h : i = j <;> simp [h]
  rw [this]
theorem neU_int (i j : Int) (S : Store) : neU (.d (.int i)) (.d (.int j)) S = .ok (.d (.bl (!decide (i = j)))) S := by
  show (if okD (.int i) = true ∧ okD (.int j) = true then Res.ok (U.d (.bl (!PyData.eqv (.int i) (.int j)))) S else .bad) = _
  rw [if_pos ⟨rfl, rfl⟩]
  have : PyData.eqv (.int i) (.int j) = decide (i = j) := by
    show (i == j) = _
    by_cases h : i = j <;> simp [h]
  rw [this]
theorem eqU_txt (x y : Str) (S : Store) : eqU (.d (.str x)) (.d (.str y)) S = .ok (.d (.bl (decide (x = y)))) S := rfl
theorem eqU_str {x y : Str} (hx : Asc x) (hy : Asc y) (S : Store) : eqU (.d (.str x)) (.d (.str y)) S = .ok (.d (.bl (decide (x = y)))) S := rfl
theorem eqU_ok {x y : D} (hx : okD x = true) (hy : okD y = true) (S : Store) : eqU (.d x) (.d y) S = .ok (.d (.bl (PyData.eqv x.py y.py))) S := by
  have h : (if okD x = true ∧ okD y = true then Res.ok (U.d (.bl (PyData.eqv x.py y.py))) S else .bad) = .ok (.d (.bl (PyData.eqv x.py y.py))) S := if_pos ⟨hx, hy⟩
  cases x with
  | str a =>
    cases y with
    | str b =>
      show Res.ok (U.d (.bl (decide (a = b)))) S = _
      have : PyData.eqv (D.str a).py (D.str b).py = decide (a = b) := by
        show (a == b) = _
        by_cases h : a = b <;> simp [h]
      rw [this]
    | _ => exact h
  | _ => exact h
end DL
set_option Elab.async false
set_option linter.all false
set_option maxRecDepth 100000
set_option maxHeartbeats 4000000
/-! ### nice data; sorted texts; comprehensions over a list that changes -/
namespace DL
open PySem PySem.Spec PyProof.Rows L2
open TL (tl)
mutual
/-- plain, ascii, short throughout -/
def niceD : D → Bool
  | .non => true
  | .bl _ => true
  | .int i => decide (i.natAbs < 10 ^ 100)
  | .str z => (tl z).all (fun c => decide (c < 128)) && decide (z.length ≤ 1000)
  | .tup ds => decide (ds.length < 60) && niceAll ds
  | .lst ds => decide (ds.length < 60) && niceAll ds
  | _ => false
def niceAll : List D → Bool
  | [] => true
  | d :: t => niceD d && niceAll t
end
theorem niceAll_iff : ∀ {ds : List D}, niceAll ds = true ↔ ∀ d ∈ ds, niceD d = true
  | [] => by simp [niceAll]
  | d :: t => by
    show (niceD d && niceAll t) = true ↔ _
    rw [Bool.and_eq_true, niceAll_iff (ds := t)]
    simp
theorem nice_tup {ds : List D} : niceD (.tup ds) = true ↔ ds.length < 60 ∧ ∀ d ∈ ds, niceD d = true := by
  show (decide (ds.length < 60) && niceAll ds) = true ↔ _
  rw [Bool.and_eq_true, decide_eq_true_iff, niceAll_iff]
theorem nice_lst {ds : List D} : niceD (.lst ds) = true ↔ ds.length < 60 ∧ ∀ d ∈ ds, niceD d = true := by
  show (decide (ds.length < 60) && niceAll ds) = true ↔ _
  rw [Bool.and_eq_true, decide_eq_true_iff, niceAll_iff]
theorem nice_str {z : Str} : niceD (.str z) = true ↔ Asc z ∧ z.length ≤ 1000 := by
  show ((tl z).all (fun c => decide (c < 128)) && decide (z.length ≤ 1000)) = true ↔ _
  rw [Bool.and_eq_true, decide_eq_true_iff, List.all_eq_true]
  constructor
  · rintro ⟨a, b⟩; exact ⟨fun c hc => of_decide_eq_true (a c hc), b⟩
  · rintro ⟨a, b⟩; exact ⟨fun c hc => decide_eq_true (a c hc), b⟩
mutual
theorem nice_plain : ∀ d : D, niceD d = true → d.plain = true
  | .non, _ => rfl
  | .bl _, _ => rfl
  | .int _, _ => rfl
  | .str _, _ => rfl
  | .tup ds, h => nice_plainAll ds (Bool.and_eq_true_iff.mp h).2
  | .lst ds, h => nice_plainAll ds (Bool.and_eq_true_iff.mp h).2
  | .obj _ _, h => by cases h
  | .ty _, h => by cases h
  | .cls _, h => by cases h
theorem nice_plainAll : ∀ ds : List D, niceAll ds = true → plainAll ds = true
  | [], _ => rfl
  | d :: t, h => by
    have h' := Bool.and_eq_true_iff.mp (show (niceD d && niceAll t) = true from h)
    show (d.plain && plainAll t) = true
    rw [nice_plain d h'.1, nice_plainAll t h'.2]; rfl
end
mutual
theorem nice_gd : ∀ d : D, niceD d = true → gd d.py = true
  | .non, _ => rfl
  | .bl _, _ => rfl
  | .int i, h => h
  | .str z, h => gd_str (nice_str.mp h).1
  | .tup ds, h => nice_gdAll ds (Bool.and_eq_true_iff.mp h).2
  | .lst ds, h => nice_gdAll ds (Bool.and_eq_true_iff.mp h).2
  | .obj _ _, h => by cases h
  | .ty _, h => by cases h
  | .cls _, h => by cases h
theorem nice_gdAll : ∀ ds : List D, niceAll ds = true → gdAll (pyAll ds) = true
  | [], _ => rfl
  | d :: t, h => by
    have h' := Bool.and_eq_true_iff.mp (show (niceD d && niceAll t) = true from h)
    show (gd d.py && gdAll (pyAll t)) = true
    rw [nice_gd d h'.1, nice_gdAll t h'.2]; rfl
end
/-! sorted -/
theorem rising_of : ∀ {p : Str} {l : List Str}, (∀ x ∈ l, tl p ≤ tl x) → l.Pairwise (fun a b => tl a ≤ tl b) → risingS p l = true
  | p, [], _, _ => rfl
  | p, y :: r, h, hp => by
    show (!ltCps y.cps.toList p.cps.toList && risingS y r) = true
    rw [Bool.and_eq_true, Bool.not_eq_true', ltCps_eq]
    cases hp with
    | cons h1 h2 => exact ⟨decide_eq_false (h y List.mem_cons_self), rising_of h1 h2⟩
theorem sortedS_of : ∀ {l : List Str}, l.Pairwise (fun a b => tl a ≤ tl b) → sortedS l = true
  | [], _ => rfl
  | x :: r, .cons h1 h2 => rising_of h1 h2
theorem sortS_spec (xs : List Str) : (sortS xs).Perm xs ∧ sortedS (sortS xs) = true := by
  have h : ∃ ys : List Str, ys.Perm xs ∧ sortedS ys = true := by
    refine ⟨xs.mergeSort fun a b => decide (tl a ≤ tl b), List.mergeSort_perm _ _, sortedS_of ?_⟩
    have := List.pairwise_mergeSort (le := fun a b : Str => decide (tl a ≤ tl b)) (fun a b c h1 h2 => by simp only [decide_eq_true_eq] at *; exact List.le_trans h1 h2) (fun a b => by simp only [Bool.or_eq_true, decide_eq_true_eq]; exact List.le_total _ _) xs
    exact this.imp fun h => of_decide_eq_true h
  unfold sortS
  rw [dif_pos h]
  exact Classical.choose_spec h
theorem sortS_iff (xs ys : List Str) : sortS xs = sortS ys ↔ xs.Perm ys := sorted_iff (sortS_spec xs).1 (sortS_spec xs).2 (sortS_spec ys).1 (sortS_spec ys).2
theorem sortS_asc {xs : List Str} (h : ∀ z ∈ xs, Asc z) : ∀ z ∈ sortS xs, Asc z := fun z hz => h z ((sortS_spec xs).1.mem_iff.mp hz)
theorem pyAll_strs (zs : List Str) : pyAll (zs.map .str) = zs.map .str := by
  rw [pyAll_map, List.map_map]; rfl
theorem eqv_lists (xs ys : List Str) : PyData.eqv (D.lst (xs.map .str)).py (D.lst (ys.map .str)).py = decide (xs = ys) := by
  show PyData.eqv (.list (pyAll (xs.map .str))) (.list (pyAll (ys.map .str))) = _
  rw [pyAll_strs, pyAll_strs]
  exact eqv_strs xs ys
theorem okD_lists {mss : List (List Str)} (h : ∀ m ∈ mss, ∀ z ∈ m, Asc z) : okD (.lst (mss.map fun m => .lst (m.map .str))) = true := by
  have h1 : ∀ {l : List (List Str)}, plainAll (l.map fun m => D.lst (m.map .str)) = true := fun {l} => by
    induction l with
    | nil => rfl
    | cons m t ih => show (plainAll (m.map D.str) && plainAll (t.map _)) = true; rw [plain_strs, ih]; rfl
  have h2 : ∀ {l : List (List Str)}, (∀ m ∈ l, ∀ z ∈ m, Asc z) → PyData.canLayAll0 (pyAll (l.map fun m => D.lst (m.map .str))) = true := fun {l} hl => by
    induction l with
    | nil => rfl
    | cons m t ih =>
      show (PyData.canLayAll0 (pyAll (m.map .str)) && PyData.canLayAll0 (pyAll (t.map _))) = true
      rw [can_strs (hl m List.mem_cons_self), ih fun m' hm' => hl m' (List.mem_cons_of_mem _ hm')]; rfl
  have h3 : ∀ {l : List (List Str)}, PyData.depthAll (pyAll (l.map fun m => D.lst (m.map .str))) ≤ 1 := fun {l} => by
    induction l with
    | nil => exact Nat.zero_le _
    | cons m t ih =>
      show max (PyData.depthAll (pyAll (m.map .str)) + 1) (PyData.depthAll (pyAll (t.map _))) ≤ 1
      rw [depth_strs]
      exact Nat.max_le.mpr ⟨Nat.le_refl _, ih⟩
  show (plainAll _ && (PyData.canLayAll0 (pyAll _) && decide (PyData.depthAll (pyAll _) + 1 ≤ 64))) = true
  rw [h1, h2 h, decide_eq_true (Nat.le_trans (Nat.succ_le_succ h3) (by decide))]; rfl
/-- sorted(x) in [sorted(y), ..] -/
theorem in_sorted {xs : List Str} {mss : List (List Str)} (hx : ∀ z ∈ xs, Asc z) (h : ∀ m ∈ mss, ∀ z ∈ m, Asc z) (S : Store) :
    inU false (.d (.lst ((sortS xs).map .str))) (.d (.lst (mss.map fun m => .lst ((sortS m).map .str)))) S = .ok (.d (.bl (mss.any fun m => decide (m.Perm xs)))) S := by
  have e : (mss.map fun m => D.lst ((sortS m).map .str)) = (mss.map sortS).map fun m => .lst (m.map .str) := by rw [List.map_map]; rfl
  show (if okD (.lst ((sortS xs).map .str)) = true ∧ okD (.lst (mss.map fun m => D.lst ((sortS m).map .str))) = true then Res.ok (U.d (.bl (inB false ((mss.map fun m => D.lst ((sortS m).map .str)).any fun z => PyData.eqv z.py (D.lst ((sortS xs).map .str)).py)))) S else .bad) = _
  rw [if_pos ⟨okD_lst (sortS_asc hx), by rw [e]; exact okD_lists fun m hm => by obtain ⟨n, hn, rfl⟩ := List.mem_map.mp hm; exact sortS_asc (h n hn)⟩, List.any_map]
  have : ∀ l : List (List Str), (l.any ((fun z : D => PyData.eqv z.py (D.lst ((sortS xs).map .str)).py) ∘ fun m => D.lst ((sortS m).map .str))) = l.any fun m => decide (m.Perm xs) := fun l => by
    induction l with
    | nil => rfl
    | cons m t ih =>
      rw [List.any_cons, List.any_cons, ih]
      show (PyData.eqv (D.lst ((sortS m).map .str)).py (D.lst ((sortS xs).map .str)).py || _) = _
      rw [eqv_lists, decide_eq_decide.mpr (sortS_iff m xs)]
  rw [this]; rfl
/-! a comprehension over a list that may change -/
theorem gRs_ok {α : Type} {g : Option (Nat × List U)} {S : Store} (h : gOk S g) (x : Res α) : gRs g S x = x := by
  cases g with
  | none => rfl
  | some p => exact if_pos h
theorem lcU_mapG {g : Option (Nat × List U)} {T : U → Env → Store → Res Env} {El : Env → Store → Res U} {ρ : Env} {S : Store} (hg : gOk S g) (f : U → U) : ∀ (us acc : List U), (∀ u ∈ us, ∃ ρ1, T u ρ S = .ok ρ1 S ∧ El ρ1 S = .ok (f u) S) → acc.length + us.length ≤ sizeLine → lcU g T (fun _ S => .ok true S) El ρ us acc S = .ok (acc ++ us.map f) S
  | [], acc, _, _ => by unfold lcU; rw [gRs_ok hg]; simp
  | u :: r, acc, h, hl => by
    obtain ⟨ρ1, h1, h2⟩ := h u List.mem_cons_self
    have hl' : acc.length + (r.length + 1) ≤ sizeLine := hl
    unfold lcU
    rw [gRs_ok hg, h1, ne_ok, bind_ok, ne_ok, bind_ok, if_pos rfl, h2, ne_ok, bind_ok, if_pos (by omega), lcU_mapG hg f r (acc ++ [f u]) (fun w hw => h w (List.mem_cons_of_mem _ hw)) (by rw [List.length_append]; show acc.length + 1 + r.length ≤ _; omega)]
    simp
end DL
set_option Elab.async false
set_option linter.all false
set_option maxRecDepth 100000
set_option maxHeartbeats 4000000
/-! ### the bag of draws; defs of which only some facts are told -/
namespace DL
open PySem PySem.Spec PyProof.Rows L2
open He (ga ma)
open TL (tl)
def BagC (c : Cell) : Prop := ∃ d m k : Int, c = .lst [.d (.int d), .d (.int m), .d (.int k)] ∧ 0 ≤ d ∧ 0 ≤ m ∧ m < 2 ^ 63 ∧ 0 ≤ k
def Bag (S : Store) (n : Nat) : Prop := ∃ c, S[n]? = some c ∧ BagC c
/-- only the bag may have changed -/
def Drew (n : Nat) (S S' : Store) : Prop := ∃ c, BagC c ∧ S' = S.set n c
theorem Bag.lt {S : Store} {n : Nat} (h : Bag S n) : n < S.length := let ⟨_, e, _⟩ := h; (List.getElem?_eq_some_iff.mp e).1
theorem Bag.norm {S : Store} {n : Nat} (h : Bag S n) : norm S (.r n) = .r n := by
  obtain ⟨c, e, d, m, k, rfl, _⟩ := h
  simp only [DL.norm, e]
theorem Bag.app {S g : Store} {n : Nat} (h : Bag S n) : Bag (S ++ g) n := by
  obtain ⟨c, e, hc⟩ := h
  exact ⟨c, by rw [List.getElem?_append_left (List.getElem?_eq_some_iff.mp e).1]; exact e, hc⟩
theorem Drew.refl {S : Store} {n : Nat} (h : Bag S n) : Drew n S S := by
  obtain ⟨c, e, hc⟩ := h
  refine ⟨c, hc, ?_⟩
  obtain ⟨hl, e'⟩ := List.getElem?_eq_some_iff.mp e
  rw [← e', List.set_getElem_self]
theorem Drew.trans {S S' S'' : Store} {n : Nat} (h : Drew n S S') (h' : Drew n S' S'') : Drew n S S'' := by
  obtain ⟨c, hc, rfl⟩ := h
  obtain ⟨c', hc', rfl⟩ := h'
  exact ⟨c', hc', List.set_set ..⟩
theorem Drew.len {S S' : Store} {n : Nat} (h : Drew n S S') : S'.length = S.length := by obtain ⟨c, hc, rfl⟩ := h; exact List.length_set
theorem Drew.bag {S S' : Store} {n : Nat} (h : Drew n S S') (b : Bag S n) : Bag S' n := by
  obtain ⟨c, hc, rfl⟩ := h
  exact ⟨c, List.getElem?_set_self b.lt, hc⟩
theorem Drew.app {S S' g : Store} {n : Nat} (h : Drew n S S') (b : Bag S n) : Drew n (S ++ g) (S' ++ g) := by
  obtain ⟨c, hc, rfl⟩ := h
  exact ⟨c, hc, (List.set_append_left _ _ b.lt).symm⟩
/-- drawn over a longer store: the tail stays -/
theorem Drew.split {S S' g : Store} {n : Nat} (h : Drew n (S ++ g) S') (b : Bag S n) : ∃ S1, S' = S1 ++ g ∧ Drew n S S1 := by
  obtain ⟨c, hc, rfl⟩ := h
  exact ⟨S.set n c, List.set_append_left _ _ b.lt, c, hc, rfl⟩
theorem Drew.old {S S' : Store} {n m : Nat} (h : Drew n S S') (hm : m ≠ n) : S'[m]? = S[m]? := by
  obtain ⟨c, hc, rfl⟩ := h
  exact List.getElem?_set_ne (Ne.symm hm)
theorem BagC.below {c : Cell} (h : BagC c) (m : Nat) : c.below m := by
  obtain ⟨d, m, k, rfl, _⟩ := h
  simp [Cell.below, U.below]
theorem Drew.shr {S S' : Store} {n : Nat} (h : Drew n S S') : Shr S S' := by
  obtain ⟨c, hc, rfl⟩ := h
  refine ⟨List.length_set, fun m c' e => ?_⟩
  by_cases hn : n = m
  · subst hn
    have hl : n < S.length := by have := (List.getElem?_eq_some_iff.mp e).1; rwa [List.length_set] at this
    rw [List.getElem?_set_self hl] at e
    obtain rfl := Option.some.inj e
    exact .inr (hc.below _)
  · rw [List.getElem?_set_ne hn] at e
    exact .inl e
def ExZ (S : Store) (po : Res U → Prop) (R : Res U) : Prop := ∃ r, Refines S r R ∧ po r
/-- a def ends with data, drawn from the bag; cells made on the way are dropped -/
def DrawZ (n : Nat) (S : Store) (po : D → Prop) (R : Res U) : Prop := ∃ y S' g, R = .ok (.d y) (S' ++ g) ∧ Drew n S S' ∧ po y
theorem drawZ {n : Nat} {S S' : Store} {po : D → Prop} {y : D} (d : Drew n S S') (h : po y) : DrawZ n S po (.ok (.d y) S') := ⟨y, S', [], by rw [List.append_nil], d, h⟩
theorem drawZg {n : Nat} {S S' : Store} {po : D → Prop} {y : D} (g : Store) (d : Drew n S S') (h : po y) : DrawZ n S po (.ok (.d y) (S' ++ g)) := ⟨y, S', g, rfl, d, h⟩
theorem DrawZ.mono {n : Nat} {S : Store} {po po' : D → Prop} {R : Res U} (h : DrawZ n S po R) (m : ∀ y, po y → po' y) : DrawZ n S po' R := let ⟨y, S', g, e, d, p⟩ := h; ⟨y, S', g, e, d, m y p⟩
theorem DrawZ.from {n : Nat} {S S1 : Store} {po : D → Prop} {R : Res U} (d : Drew n S S1) (h : DrawZ n S1 po R) : DrawZ n S po R := let ⟨y, S', g, e, d', p⟩ := h; ⟨y, S', g, e, d.trans d', p⟩
/-- a stage that goes on in a state of which I tells, or returns -/
theorem seq_cut {Z : Res U → Prop} {f : Fl} {k : Env → Store → Fl} (I : Env → Store → Prop) (h : (∃ ρ S, f = .nx ρ S ∧ I ρ S) ∨ (∃ u S, f = .rt u S ∧ Z (.ok u S))) (h2 : ∀ ρ S, I ρ S → Z (bodyR (k ρ S))) : Z (bodyR (f.seq k)) := by
  rcases h with ⟨ρ, S, rfl, h⟩ | ⟨u, S, rfl, h⟩
  · exact h2 ρ S h
  · exact h
theorem strs_inj {xs ys : List Str} (h : xs.map D.str = ys.map D.str) : xs = ys := by
  have h1 := congrArg strsD h
  rw [strsD_map, strsD_map] at h1
  exact Option.some.inj h1
def bagOf : List U → Nat
  | .r n :: _ => n
  | _ => 0
section
variable {P : Program} {w : World} {K : PySem.W.Frag} {mg : Str → Option Value} {base : Heap} {k : Nat} {x : Str} {st : Stmt} {N ps : List Str} {B : Env → Store → Fl}
/-- a def that draws: it ends with data of which Po tells -/
theorem okDraw (Pre : List U → Store → Prop) (Po : List U → Store → D → Prop) (F : FnF K mg x st) (Sc : FnScope N ps (defScope st)) (hb : BindRow x st ps)
    (hB : ∀ (cdv : Value) (A : Around) (outer : List PySem.Env) (s : Shared) (H : Hp) (E : XK), (A.deeper (envOfC x (defScope st) s.heap.objs.size (ga K x) cdv)).guards = some [] → Room k (A.deeper (envOfC x (defScope st) s.heap.objs.size (ga K x) cdv)) →
      PDSs (cxOf (L2.CX P w) P w K mg base N x (defScope st) (ga K x) cdv A outer s H E) (fun c d _ H => E c d H) (defBody st) B)
    (h : ∀ us S, us.length = ps.length → Bag S (bagOf us) → Pre us S → DrawZ (bagOf us) S (Po us S) (bodyR (B (startE N.length us) S))) :
    ∃ fF, FM P w K mg base (k + 1) x ps fF ∧ ∀ us S, us.length = ps.length → Bag S (bagOf us) → Pre us S → ∃ y S', fF us S = .ok (.d y) S' ∧ Drew (bagOf us) S S' ∧ Po us S y := by
  have h' : ∀ us S, ∃ r : Res U, Refines S r (bodyR (B (startE N.length us) S)) ∧ (us.length ≠ ps.length → r = .bad) ∧ (us.length = ps.length → Bag S (bagOf us) → Pre us S → ∃ y S', r = .ok (.d y) S' ∧ Drew (bagOf us) S S' ∧ Po us S y) := fun us S => by
    by_cases c : us.length = ps.length ∧ Bag S (bagOf us) ∧ Pre us S
    · obtain ⟨y, S', g, e, dr, po⟩ := h us S c.1 c.2.1 c.2.2
      refine ⟨.ok (.d y) S', ?_, fun hl => absurd c.1 hl, fun _ _ _ => ⟨y, S', rfl, dr, po⟩⟩
      rw [e]
      exact .ok g dr.shr trivial
    · exact ⟨.bad, .bad _, fun _ => rfl, fun h1 h2 h3 => absurd ⟨h1, h2, h3⟩ c⟩
  exact ⟨fun us S => (h' us S).choose, okM F Sc hb (fun us S hl => (h' us S).choose_spec.2.1 hl) hB fun us S hl => (h' us S).choose_spec.1, fun us S => (h' us S).choose_spec.2.2⟩
/-- a def of which Po tells where Pre holds -/
theorem okEx (Pre : List U → Store → Prop) (Po : List U → Store → Res U → Prop) (F : FnF K mg x st) (Sc : FnScope N ps (defScope st)) (hb : BindRow x st ps)
    (hB : ∀ (cdv : Value) (A : Around) (outer : List PySem.Env) (s : Shared) (H : Hp) (E : XK), (A.deeper (envOfC x (defScope st) s.heap.objs.size (ga K x) cdv)).guards = some [] → Room k (A.deeper (envOfC x (defScope st) s.heap.objs.size (ga K x) cdv)) →
      PDSs (cxOf (L2.CX P w) P w K mg base N x (defScope st) (ga K x) cdv A outer s H E) (fun c d _ H => E c d H) (defBody st) B)
    (h : ∀ us S, us.length = ps.length → Pre us S → ExZ S (Po us S) (bodyR (B (startE N.length us) S))) :
    ∃ fF, FM P w K mg base (k + 1) x ps fF ∧ ∀ us S, us.length = ps.length → Pre us S → Po us S (fF us S) := by
  have h' : ∀ us S, ∃ r : Res U, Refines S r (bodyR (B (startE N.length us) S)) ∧ (us.length ≠ ps.length → r = .bad) ∧ (us.length = ps.length → Pre us S → Po us S r) := fun us S => by
    by_cases c : us.length = ps.length ∧ Pre us S
    · obtain ⟨r, e, po⟩ := h us S c.1 c.2
      exact ⟨r, e, fun hl => absurd c.1 hl, fun _ _ => po⟩
    · exact ⟨.bad, .bad _, fun _ => rfl, fun h1 h2 => absurd ⟨h1, h2⟩ c⟩
  exact ⟨fun us S => (h' us S).choose, okM F Sc hb (fun us S hl => (h' us S).choose_spec.2.1 hl) hB fun us S hl => (h' us S).choose_spec.1, fun us S => (h' us S).choose_spec.2.2⟩
end
/-- a list, a tuple or a list that still changes, of these data -/
inductive LstU (S : Store) (ds : List D) : U → Prop
  | lst : LstU S ds (.d (.lst ds))
  | tup : LstU S ds (.d (.tup ds))
  | cell {m : Nat} : S[m]? = some (.lst (ds.map .d)) → LstU S ds (.r m)
/-- .. or the signs of a text -/
inductive SeqU (S : Store) : List D → U → Prop
  | of {ds u} : LstU S ds u → SeqU S ds u
  | str {z : Str} : z.length ≤ sizeLine → SeqU S ((tl z).map fun c => .str ⟨#[c]⟩) (.d (.str z))
theorem LstU.norm {S : Store} {ds : List D} {u : U} (h : LstU S ds u) : norm S u = u := by
  cases h with
  | cell e => simp only [DL.norm, e]
  | _ => rfl
theorem SeqU.norm {S : Store} {ds : List D} {u : U} (h : SeqU S ds u) : norm S u = u := by
  cases h with
  | of h => exact h.norm
  | str _ => rfl
theorem LstU.drew {S S' : Store} {ds : List D} {u : U} {n : Nat} (h : LstU S ds u) (hd : Drew n S S') (hn : u ≠ .r n) : LstU S' ds u := by
  cases h with
  | lst => exact .lst
  | tup => exact .tup
  | cell e => exact .cell (by rw [hd.old fun e => hn (by rw [e])]; exact e)
theorem SeqU.drew {S S' : Store} {ds : List D} {u : U} {n : Nat} (h : SeqU S ds u) (hd : Drew n S S') (hn : u ≠ .r n) : SeqU S' ds u := by
  cases h with
  | of h => exact .of (h.drew hd hn)
  | str h => exact .str h
theorem LstU.app {S g : Store} {ds : List D} {u : U} (h : LstU S ds u) : LstU (S ++ g) ds u := by
  cases h with
  | lst => exact .lst
  | tup => exact .tup
  | cell e => exact .cell (by rw [List.getElem?_append_left (List.getElem?_eq_some_iff.mp e).1]; exact e)
theorem LstU.len {S : Store} {ds : List D} {u : U} (h : LstU S ds u) : lenU u S = .ok (.d (.int (ds.length : Nat))) S := by
  cases h with
  | lst => rfl
  | tup => rfl
  | cell e => simp only [lenU, e, List.length_map]
theorem SeqU.len {S : Store} {ds : List D} {u : U} (h : SeqU S ds u) : lenU u S = .ok (.d (.int (ds.length : Nat))) S := by
  cases h with
  | of h => exact h.len
  | str h => rw [List.length_map, ← TL.len_tl]; exact if_pos h
theorem LstU.ix {S : Store} {ds : List D} {u : U} {i : Nat} {d : D} (h : LstU S ds u) (e : ds[i]? = some d) : ixU u (.d (.int (i : Nat))) S = .ok (.d d) S := by
  cases h with
  | lst => show optR (atI ds (i : Nat)) .d S = _; rw [atI_nat e]; rfl
  | tup => show optR (atI ds (i : Nat)) .d S = _; rw [atI_nat e]; rfl
  | cell hc => simp only [ixU, hc]; rw [atI_nat (show (ds.map U.d)[i]? = some (.d d) by rw [List.getElem?_map, e]; rfl)]; rfl
theorem SeqU.ix {S : Store} {ds : List D} {u : U} {i : Nat} {d : D} (h : SeqU S ds u) (e : ds[i]? = some d) : ixU u (.d (.int (i : Nat))) S = .ok (.d d) S := by
  cases h with
  | of h => exact h.ix e
  | str h =>
    rename_i z
    simp only [ixU]
    rw [if_pos h]
    rw [List.getElem?_map] at e
    cases hc : (tl z)[i]? with
    | none => rw [hc] at e; cases e
    | some c =>
      rw [hc] at e
      obtain rfl := Option.some.inj e
      rw [atI_nat hc]; rfl
theorem LstU.isIn {S : Store} {zs : List Str} {u : U} {neg : Bool} {x : Str} (h : LstU S (zs.map .str) u) (hx : Asc x) (hz : ∀ z ∈ zs, Asc z) : inU neg (.d (.str x)) u S = .ok (.d (.bl (inB neg (decide (x ∈ zs))))) S := by
  cases h with
  | lst => exact in_lst hx hz S
  | tup => exact in_tup hx hz S
  | @cell m e =>
    have hd : dat (.r m) S = some (.lst (zs.map .str)) := by
      simp only [dat, e]
      rw [allD_map]; rfl
    have := in_lst (neg := neg) hx hz S
    unfold inU at this ⊢
    rw [hd]
    exact this
theorem LstU.tru {S : Store} {ds : List D} {u : U} (h : LstU S ds u) : truU u S = .ok (!ds.isEmpty) S := by
  cases h with
  | lst => rfl
  | tup => rfl
  | cell e => simp only [truU, e]; rw [List.isEmpty_map]
theorem LstU.dat {S : Store} {ds : List D} {u : U} (h : LstU S ds u) : dat u S = some (.lst ds) ∨ dat u S = some (.tup ds) := by
  cases h with
  | lst => exact .inl rfl
  | tup => exact .inr rfl
  | cell e => exact .inl (by simp only [DL.dat, e]; rw [allD_map]; rfl)
theorem LstU.toL {S : Store} {ds : List D} {u : U} (h : LstU S ds u) : lstU u S = .ok (.d (.lst ds)) S := by
  unfold lstU; rcases h.dat with e | e <;> rw [e]
theorem LstU.toT {S : Store} {ds : List D} {u : U} (h : LstU S ds u) : tupU u S = .ok (.d (.tup ds)) S := by
  unfold tupU; rcases h.dat with e | e <;> rw [e]
theorem LstU.toM {S : Store} {ds : List D} {u : U} (h : LstU S ds u) : lstMU u S = .ok (.r S.length) (S ++ [.lst (ds.map .d)]) := by
  unfold lstMU; rcases h.dat with e | e <;> rw [e]
theorem map_d_inj {ds es : List D} (h : ds.map U.d = es.map U.d) : ds = es := by
  have h1 := congrArg allD h
  rw [allD_map, allD_map] at h1
  exact Option.some.inj h1
theorem LstU.inj {S : Store} {ds es : List D} {u : U} (h : LstU S ds u) (h' : LstU S es u) : ds = es := by
  cases h with
  | lst => cases h'; rfl
  | tup => cases h'; rfl
  | cell e =>
    cases h' with
    | cell e' =>
      rw [e] at e'
      exact map_d_inj (by simpa using e')
theorem SeqU.inj {S : Store} {ds es : List D} {u : U} (h : SeqU S ds u) (h' : SeqU S es u) : ds = es := by
  cases h with
  | of h =>
    cases h' with
    | of h' => exact h.inj h'
    | str _ => cases h
  | str _ =>
    cases h' with
    | of h' => cases h'
    | str _ => rfl
/-- a comprehension that draws -/
theorem lcU_inv {T : U → Env → Store → Res Env} {El : Env → Store → Res U} {ρ : Env} (Q : Store → Prop) (R : U → Prop) : ∀ (us acc : List U) (S : Store), (∀ u ∈ us, ∀ S, Q S → ∃ ρ1 x S1, T u ρ S = .ok ρ1 S ∧ El ρ1 S = .ok x S1 ∧ Q S1 ∧ R x) → Q S → acc.length + us.length ≤ sizeLine →
    ∃ xs S', lcU none T (fun _ S => .ok true S) El ρ us acc S = .ok (acc ++ xs) S' ∧ xs.length = us.length ∧ Q S' ∧ ∀ x ∈ xs, R x
  | [], acc, S, _, q, _ => ⟨[], S, by simp [lcU, gRs], rfl, q, fun _ h => nomatch h⟩
  | u :: r, acc, S, h, q, hl => by
    obtain ⟨ρ1, x, S1, h1, h2, q1, hx⟩ := h u List.mem_cons_self S q
    have hl' : acc.length + (r.length + 1) ≤ sizeLine := hl
    obtain ⟨xs, S', e, l, q', hr⟩ := lcU_inv Q R r (acc ++ [x]) S1 (fun w hw => h w (List.mem_cons_of_mem _ hw)) q1 (by rw [List.length_append]; show acc.length + 1 + r.length ≤ _; omega)
    refine ⟨x :: xs, S', ?_, by rw [List.length_cons, List.length_cons, l], q', fun y hy => ?_⟩
    · unfold lcU
      rw [gRs_none, h1, ne_ok, bind_ok, ne_ok, bind_ok, if_pos rfl, h2, ne_ok, bind_ok, if_pos (by omega), e]
      simp
    · rcases List.mem_cons.mp hy with rfl | hy
      · exact hx
      · exact hr y hy
theorem intU_int (i : Int) (S : Store) : intU (.d (.int i)) S = .ok (.d (.int i)) S := rfl
theorem absU_int (i : Int) (S : Store) : absU (.d (.int i)) S = .ok (.d (.int (if i < 0 then -i else i))) S := rfl
theorem modU_pos {i j : Int} (S : Store) (h : 0 < j) : modU (.d (.int i)) (.d (.int j)) S = .ok (.d (.int (i % j))) S := if_pos (decide_eq_true h)
theorem divU_pos {i j : Int} (S : Store) (h : 0 < j) (h' : j ≤ 10 ^ 60) : divU (.d (.int i)) (.d (.int j)) S = .ok (.d (.int (i / j))) S := if_pos (by rw [Bool.and_eq_true]; exact ⟨decide_eq_true h, decide_eq_true h'⟩)
theorem mulU_l {i j : Int} (S : Store) (h : -(2 ^ 64) < i ∧ i < 2 ^ 64) : mulU (.d (.int i)) (.d (.int j)) S = .ok (.d (.int (i * j))) S := if_pos (by unfold mulC; rw [Bool.or_eq_true, Bool.and_eq_true]; exact .inl ⟨decide_eq_true h.1, decide_eq_true h.2⟩)
theorem mulU_r {i j : Int} (S : Store) (h : -(2 ^ 64) < j ∧ j < 2 ^ 64) : mulU (.d (.int i)) (.d (.int j)) S = .ok (.d (.int (i * j))) S := if_pos (by unfold mulC; rw [Bool.or_eq_true, Bool.and_eq_true, Bool.and_eq_true]; exact .inr ⟨decide_eq_true h.1, decide_eq_true h.2⟩)
theorem asI_int (i : Int) (S : Store) : asI (.d (.int i)) S = .ok (some i) S := rfl
theorem range1_ok {i : Nat} (S : Store) (h : i ≤ 1000000) : range1 [.d (.int i)] S = .ok ⟨rangeF 0 i, none⟩ S := by
  simp only [range1, Int.toNat_natCast]
  rw [if_pos (by omega)]
theorem c1_ok (g : U → Store → Res U) (u : U) (S : Store) : c1 g [u] S = g u S := rfl
theorem cutL_mem {α : Type} {xs : List α} {lo hi : Option Int} {x : α} (h : x ∈ cutL xs lo hi) : x ∈ xs := List.mem_of_mem_drop (List.mem_of_mem_take h)
/-- "".join of signs -/
def ofSigns (cs : List Nat) : Str := Txt.join Str.empty (cs.map fun c => (⟨#[c]⟩ : Str))
theorem tl_signs (cs : List Nat) : tl (ofSigns cs) = cs := by
  unfold ofSigns
  rw [tl_join0, List.map_map]
  induction cs with
  | nil => rfl
  | cons c t ih => rw [List.map_cons, List.flatten_cons, ih]; rfl
theorem sum_signs (cs : List Nat) : ((cs.map fun c => (⟨#[c]⟩ : Str)).map (·.length)).sum = cs.length := by
  rw [List.map_map]
  induction cs with
  | nil => rfl
  | cons c t ih => rw [List.map_cons, List.sum_cons, ih, List.length_cons]; show 1 + _ = _; omega
theorem join_signs {cs : List Nat} (h : cs.length ≤ 1000) (S : Store) : joinU (.d (.str Str.empty)) [.d (.lst ((cs.map fun c => (⟨#[c]⟩ : Str)).map .str))] S = .ok (.d (.str (ofSigns cs))) S := by
  have h0 : Str.empty.length = 0 := rfl
  simp only [joinU, txtsU, dat_d, strsD_map, sum_signs, List.length_map, h0, Nat.mul_zero, Nat.add_zero]
  rw [if_pos (by omega)]
  rfl
theorem signs_of {xs : List U} {p : Nat → Prop} (hx : ∀ x ∈ xs, ∃ c, x = .d (.str ⟨#[c]⟩) ∧ p c) : ∃ cs : List Nat, xs = ((cs.map fun c => (⟨#[c]⟩ : Str)).map D.str).map U.d ∧ ∀ c ∈ cs, p c := by
  induction xs with
  | nil => exact ⟨[], rfl, fun _ h => nomatch h⟩
  | cons x t ih =>
    obtain ⟨cs, h1, h2⟩ := ih fun y hy => hx y (List.mem_cons_of_mem _ hy)
    obtain ⟨c, rfl, hc⟩ := hx x List.mem_cons_self
    refine ⟨c :: cs, by rw [h1]; rfl, fun d hd => ?_⟩
    rcases List.mem_cons.mp hd with rfl | hd
    · exact hc
    · exact h2 d hd
theorem mkL_d {ds : List D} (h : ds.length ≤ 1000) (S : Store) : mkL (ds.map .d) S = .ok (.d (.lst ds)) S := by
  unfold mkL
  rw [allD_map]
  exact if_pos (sz10 h)
theorem addU_lst {x y : List D} (h : x.length + y.length ≤ 1000) (S : Store) : addU (.d (.lst x)) (.d (.lst y)) S = .ok (.d (.lst (x ++ y))) S := if_pos (sz10 h)
theorem addU_tup {x y : List D} (h : x.length + y.length ≤ 1000) (S : Store) : addU (.d (.tup x)) (.d (.tup y)) S = .ok (.d (.tup (x ++ y))) S := if_pos (sz10 h)
theorem addU_str {x y : Str} (h : x.length + y.length ≤ 1000) (S : Store) : addU (.d (.str x)) (.d (.str y)) S = .ok (.d (.str (x ++ y))) S := if_pos (sz10 h)
theorem mkT_d {ds : List D} (h : ds.length ≤ 1000) (S : Store) : mkT (ds.map .d) S = .ok (.d (.tup ds)) S := by
  unfold mkT
  rw [allD_map]
  exact if_pos (sz10 h)
theorem at0 (S : Store) (a b : Cell) : (S ++ [a, b])[S.length]? = some a := by rw [List.getElem?_append_right (Nat.le_refl _), Nat.sub_self]; rfl
theorem at1 (S : Store) (a b : Cell) : (S ++ [a, b])[S.length + 1]? = some b := by rw [List.getElem?_append_right (Nat.le_succ _), show S.length + 1 - S.length = 1 by omega]; rfl
theorem set0 (S : Store) (a b c : Cell) : (S ++ [a, b]).set S.length c = S ++ [c, b] := by rw [List.set_append_right _ _ (Nat.le_refl _), Nat.sub_self]; rfl
theorem set1 (S : Store) (a b c : Cell) : (S ++ [a, b]).set (S.length + 1) c = S ++ [a, c] := by rw [List.set_append_right _ _ (Nat.le_succ _), show S.length + 1 - S.length = 1 by omega]; rfl
end DL
set_option Elab.async false
set_option linter.all false
set_option maxRecDepth 100000
set_option maxHeartbeats 4000000
/-! ### facts of the head for try -/
namespace WH
open PySem PySem.Spec PyProof.Rows L2
open He (ga ma)
def cExm (l : List Str) : Chk := fun K => (l.all fun x => l.all fun y => decide (PySem.W.exmOne K (.ref (ga K x)) (.ref (ga K y)) = some (x == y))) && l.all fun x => decide (PySem.W.exmOne K (.ref (ga K x)) (.ref (ga K "WhichError")) = some true)
theorem exm_ok {K : PySem.W.Frag} {l : List Str} (c : cExm l K = true) (x : Str) (hx : x ∈ l) (y : Str) (hy : y ∈ l) : PySem.W.exmOne K (.ref (ga K x)) (.ref (ga K y)) = some (x == y) :=
  of_decide_eq_true (List.all_eq_true.mp (List.all_eq_true.mp (Bool.and_eq_true_iff.mp c).1 x hx) y hy)
theorem exmW_ok {K : PySem.W.Frag} {l : List Str} (c : cExm l K = true) (x : Str) (hx : x ∈ l) : PySem.W.exmOne K (.ref (ga K x)) (.ref (ga K "WhichError")) = some true :=
  of_decide_eq_true (List.all_eq_true.mp (Bool.and_eq_true_iff.mp c).2 x hx)
def isFree : Option (Option Value) → Bool
  | some none => true
  | _ => false
theorem isFree_ok {o : Option (Option Value)} (h : isFree o = true) : o = some none := by
  match o, h with
  | some none, _ => rfl
def cFnd (l fs : List Str) : Chk := fun K => l.all fun x => fs.all fun f => isFree (PySem.W.findIn K (.ref (ga K x)) f)
theorem fnd_ok {K : PySem.W.Frag} {l fs : List Str} (c : cFnd l fs K = true) (x : Str) (hx : x ∈ l) (f : Str) (hf : f ∈ fs) : PySem.W.findIn K (.ref (ga K x)) f = some none :=
  isFree_ok (List.all_eq_true.mp (List.all_eq_true.mp c x hx) f hf)
end WH
namespace DL
open PySem PySem.Spec PyProof.Rows L2
open He (ga ma)
theorem exm_is {K : PySem.W.Frag} {l : List Str} (h : ∀ c ∈ l, ∀ y ∈ l, PySem.W.exmOne K (.ref (ga K c)) (.ref (ga K y)) = some (c == y)) {y : Str} (hy : y ∈ l) (hw : (y == ("WhichError" : Str)) = false) : ∀ c ∈ l, PySem.W.exmOne K (.ref (ga K c)) (.ref (ga K y)) = some (mt c y) := fun c hc => by
  rw [h c hc y hy]; unfold mt; rw [hw, Bool.or_false]
theorem exm_w {K : PySem.W.Frag} {l : List Str} (h : ∀ c ∈ l, PySem.W.exmOne K (.ref (ga K c)) (.ref (ga K "WhichError")) = some true) : ∀ c ∈ l, PySem.W.exmOne K (.ref (ga K c)) (.ref (ga K "WhichError")) = some (mt c "WhichError") := fun c hc => by
  rw [h c hc]; unfold mt; simp
end DL
set_option Elab.async false
set_option linter.all false
set_option maxRecDepth 100000
set_option maxHeartbeats 4000000
/-! ### the end of a law over the data layer -/
namespace DL
open PySem PySem.Spec PyProof.Rows L2
open He (ga ma)
open TL (tl)
/-- what a law computes: truth at every list of whole numbers -/
noncomputable def lawF (u : U) (S : Store) : Res U := match u with
  | .d (.lst ds) => pre (∃ is : List Int, ds = is.map .int) (.ok (.d (.bl true)) S)
  | _ => .bad
theorem rv_ints {K : PySem.W.Frag} {G : Hp} : ∀ ns : List Int, RvAll K G (ns.map V.int) (ns.map D.int)
  | [] => .nil
  | i :: t => .cons (.int i) (rv_ints t)
theorem law_sp {K : PySem.W.Frag} {H : Hp} {a : Addr} {ns : List Int} (h : SqL K H a (ns.map V.int)) : spD K 1 (F1 lawF) [.ref a] H (fun v _ => v = .bl true) fun _ _ _ => False := by
  refine ⟨rfl, fun _ => none, [], H, [], [.d (.lst (ns.map .int))], ⟨fun _ _ h => h, rfl, .nil, (fun n c a h => by cases h), (fun n a h => by cases h), (fun a o h => by cases h)⟩, .cons (.lst h (rv_ints ns)) .nil, ?_⟩
  show Post _ _ _ _ _ _ _ _ (pre _ _)
  rw [pre_pos ⟨ns, rfl⟩]
  intro ι' G' H' v p e s r
  cases r
  rfl
theorem walkD {l : PySem.W.OpenLaw} {n k : Nat} {q : Program} {loose : List Str} {XP : (Str → Option Value) → Heap → Prop} {YP : World → Heap → Prop} {d : DefRec} {x : Str}
    (hn : l.most = some n) (hn2 : n ≤ sizeLine) (hdf : d.params.defaults = []) (hr : Room k callerA) (hname : d.name = ("law" : Str))
    (F : ∀ (w : World) (mg : Str → Option Value) (h : Heap), YP w h → h.Ns mainGlobals mg → ∃ K : PySem.W.Frag, K.In h ∧ ∀ base : Heap, FM l.prog w K mg base k "law" [x] (F1 lawF)) :
    PySem.W.WalkO q loose XP YP l.row.toRowW d [] (fun f vs => PySem.call f vs) :=
  Att.attach_call hn hdf fun w s₀ s₁ mg mb fa o pm cd doc a vs ns G Y ho hd hcd hmg hobj hints hlen hg => by
    obtain ⟨K, KX, hF⟩ := F w mg _ Y G.T.g
    rw [hname] at hmg
    refine lawK (x := x) (CX := L2.CX l.prog w) (sp := spD K 1 (F1 lawF)) KX G.T.g G.T.b G.T.builtins G.T.nolimit hg hobj hints (Nat.le_trans hlen hn2) hr (fun base _ _ => ?_) (fun H hO hS => law_sp hS) fun H e s' ⟨_, _, _, _, _, _, _, _, _, _, _, _, z⟩ => z
    obtain ⟨⟨_, fd, f1, f2, _⟩, f3⟩ := hF base
    have e := hmg.symm.trans f3
    obtain rfl : fa = ga K "law" := by cases e; rfl
    exact ⟨fd, f1, f2⟩
end DL
set_option Elab.async false
set_option linter.all false
set_option maxRecDepth 100000
set_option maxHeartbeats 4000000
/-! ### more rules: a display that is unpacked at once; walks over lists that lie in cells -/
namespace DL
open PySem PySem.Spec PyProof.Rows L2
open He (ga ma)
open Evl (Ex)
open TL (tl)
section
variable {X : Cx} {Wx : WX} {P : Hp} {pos : Pos}
/-- a, b, c, d = x, y, z, w -/
theorem pds_unp {es tgs : List Expr} {n k k2 : Nat} {sl : List Nat} {pt pt2 : Pos} {As : Env → Store → Res (List U)} {Ts : List U → Env → Store → Res Env} (hc : X.calm = true) (ha : PDA X Wx es As) (h : PDGs X Wx tgs sl Ts)
    (hn : (assignEach tgs X.env).length = n := by rfl) (hst : (assignEach tgs X.env).findIdx? (·.1) = none := by rfl) (hs : swapsWithSole [.Tuple tgs k pt] (.Tuple es k2 pt2) pos.line X.env = pure false := by rfl) (hw : swappedStores [.Tuple tgs k pt] (.Tuple es k2 pt2) X.env = pure none := by rfl)
    (h1 : (assignEach [.Tuple tgs k pt] X.env).map (·.2) = [assign (.Tuple tgs k pt) X.env] := by rfl) (hb : n ≤ 1000 := by decide) :
    PDS X Wx (.Assign [.Tuple tgs k pt] (.Tuple es k2 pt2) pos) (fun ρ S => (As ρ S).fl ρ fun us S => if us.length = n then (Ts us ρ S).fl ρ fun ρ S => .nx ρ S else .bad) := by
  obtain ⟨ta, pa, da⟩ := ha
  obtain ⟨g, pg, dg⟩ := h
  refine ⟨_, ps_asg (pe_tup pa) (pg_tup hc pg hn hst) hs hw h1, fun P ι G σ S H ρ E s e post => ?_⟩
  refine da P ι G σ S H ρ _ s e (Post.fl e post fun us S1 ι1 G1 H1 vs p1 e1 s1 rv r1 post1 => ?_)
  split at post1
  · rename_i hl
    have hlv := paired_len rv
    refine ⟨by rw [hlv, hl]; exact sz10 hb, fun p hp => ⟨p, vs, rfl, SqT.of upd_same, by rw [hlv]; exact hl, ?_⟩⟩
    exact dg P ι1 G1 σ S1 (upd H1 p (.tup vs)) ρ vs us _ (s1.tmp hp) r1 rv (tg_fl r1 post1 fun ρ2 S2 ι2 G2 H2 σ2 p2 e2 s2 r2 post2 => post2 ι2 G2 σ2 H2 (List.prefix_refl _) (Ex.refl _) s2 r2)
  · exact post1.elim
end
/-- what is walked: data, or a list that lies in a cell -/
theorem LstU.iter {S : Store} {ds : List D} {u : U} (h : LstU S ds u) : ∃ g, iterU u S = .ok ⟨ds.map .d, g⟩ S ∧ ∀ S', LstU S' ds u → gOk S' g := by
  cases h with
  | lst => exact ⟨none, rfl, fun _ _ => trivial⟩
  | tup => exact ⟨none, rfl, fun _ _ => trivial⟩
  | @cell m e =>
    refine ⟨some (m, ds.map .d), by simp only [iterU, e], fun S' h' => ?_⟩
    cases h' with
    | cell e' => exact e'
theorem gFl_ok {g : Option (Nat × List U)} {S : Store} (h : gOk S g) (x : Fl) : gFl g S x = x := by
  cases g with
  | none => rfl
  | some p =>
    obtain ⟨n, us⟩ := p
    simp only [gFl]
    exact if_pos h
/-- a for by its invariant, over a list that does not change -/
theorem loopG {g : Option (Nat × List U)} {T : U → Env → Store → Res Env} {B : Env → Store → Fl} (K : Fl → Prop) (I : List U → Env → Store → Prop) (hg : ∀ us ρ S, I us ρ S → gOk S g)
    (step : ∀ u r ρ S, I (u :: r) ρ S → ∃ ρ1 S1, T u ρ S = .ok ρ1 S1 ∧ (match B ρ1 S1 with | .nx ρ2 S2 => I r ρ2 S2 | .ct ρ2 S2 => I r ρ2 S2 | .bk ρ2 S2 => K (.nx ρ2 S2) | f => K f))
    (done : ∀ ρ S, I [] ρ S → K (.nx ρ S)) : ∀ {us : List U} {ρ : Env} {S : Store}, I us ρ S → K (forU g T B us ρ S)
  | [], ρ, S, h => by
    unfold forU
    rw [gFl_ok (hg _ _ _ h)]
    exact done ρ S h
  | u :: r, ρ, S, h => by
    obtain ⟨ρ1, S1, h1, h2⟩ := step u r ρ S h
    unfold forU
    rw [gFl_ok (hg _ _ _ h), h1, fl_ok]
    generalize B ρ1 S1 = f at h2
    cases f with
    | nx ρ2 S2 => exact loopG K I hg step done h2
    | ct ρ2 S2 => exact loopG K I hg step done h2
    | bk ρ2 S2 => exact h2
    | rt _ _ => exact h2
    | err _ _ _ _ => exact h2
    | bad => exact h2
end DL
set_option Elab.async false
set_option linter.all false
set_option maxRecDepth 100000
set_option maxHeartbeats 4000000
namespace DL
open PySem PySem.Spec PyProof.Rows L2
/-- a comprehension with a test -/
theorem lcU_filt {g : Option (Nat × List U)} {T : U → Env → Store → Res Env} {C : Env → Store → Res Bool} {El : Env → Store → Res U} {ρ : Env} {S : Store} (hg : gOk S g) (p : U → Bool) (f : U → U) : ∀ (us acc : List U), (∀ u ∈ us, ∃ ρ1, T u ρ S = .ok ρ1 S ∧ C ρ1 S = .ok (p u) S ∧ (p u = true → El ρ1 S = .ok (f u) S)) → acc.length + us.length ≤ sizeLine → lcU g T C El ρ us acc S = .ok (acc ++ (us.filter p).map f) S
  | [], acc, _, _ => by unfold lcU; rw [gRs_ok hg]; simp
  | u :: r, acc, h, hl => by
    obtain ⟨ρ1, h1, h2, h3⟩ := h u List.mem_cons_self
    have hl' : acc.length + (r.length + 1) ≤ sizeLine := hl
    unfold lcU
    rw [gRs_ok hg, h1, ne_ok, bind_ok, h2, ne_ok, bind_ok]
    cases hp : p u with
    | true =>
      rw [if_pos rfl, h3 hp, ne_ok, bind_ok, if_pos (by omega), lcU_filt hg p f r (acc ++ [f u]) (fun w hw => h w (List.mem_cons_of_mem _ hw)) (by rw [List.length_append]; show acc.length + 1 + r.length ≤ _; omega), List.filter_cons_of_pos hp]
      simp
    | false =>
      rw [if_neg (by decide), lcU_filt hg p f r acc (fun w hw => h w (List.mem_cons_of_mem _ hw)) (by omega), List.filter_cons_of_neg (by rw [hp]; decide)]
/-- a comprehension over items -/
theorem lcU_of {α : Type} {g : Option (Nat × List U)} {T : U → Env → Store → Res Env} {El : Env → Store → Res U} {ρ : Env} {S : Store} (hg : gOk S g) (a b : α → U) : ∀ (xs : List α) (acc : List U), (∀ x ∈ xs, ∃ ρ1, T (a x) ρ S = .ok ρ1 S ∧ El ρ1 S = .ok (b x) S) → acc.length + xs.length ≤ sizeLine → lcU g T (fun _ S => .ok true S) El ρ (xs.map a) acc S = .ok (acc ++ xs.map b) S
  | [], acc, _, _ => by rw [List.map_nil]; unfold lcU; rw [gRs_ok hg]; simp
  | x :: r, acc, h, hl => by
    obtain ⟨ρ1, h1, h2⟩ := h x List.mem_cons_self
    have hl' : acc.length + (r.length + 1) ≤ sizeLine := hl
    rw [List.map_cons]
    unfold lcU
    rw [gRs_ok hg, h1, ne_ok, bind_ok, ne_ok, bind_ok, if_pos rfl, h2, ne_ok, bind_ok, if_pos (by omega), lcU_of hg a b r (acc ++ [b x]) (fun w hw => h w (List.mem_cons_of_mem _ hw)) (by rw [List.length_append]; show acc.length + 1 + r.length ≤ _; omega)]
    simp
/-! lists that may lie in a cell -/
theorem LstU.enum {S : Store} {ds : List D} {u : U} (h : LstU S ds u) : ∃ g, enumU u S = .ok ⟨enumN 0 ds, g⟩ S ∧ ∀ S', LstU S' ds u → gOk S' g := by
  cases h with
  | lst => exact ⟨none, rfl, fun _ _ => trivial⟩
  | tup => exact ⟨none, rfl, fun _ _ => trivial⟩
  | @cell m e =>
    refine ⟨some (m, ds.map .d), ?_, fun S' h' => ?_⟩
    · simp only [enumU, e, allD_map]
      rfl
    · cases h' with
      | cell e' => exact e'
theorem LstU.sl {S : Store} {ds : List D} {u : U} (h : LstU S ds u) (lo hi : Option Int) : ∃ y, slU u lo hi S = .ok (.d y) S ∧ (y = .lst (cutL ds lo hi) ∨ y = .tup (cutL ds lo hi)) := by
  cases h with
  | lst => exact ⟨_, rfl, .inl rfl⟩
  | tup => exact ⟨_, rfl, .inr rfl⟩
  | cell e => exact ⟨.lst (cutL ds lo hi), by simp only [slU, e, allD_map], .inl rfl⟩
theorem LstU.seq {S : Store} {ds : List D} {u : U} (h : LstU S ds u) : seqU u S = .ok (ds.map .d) S := by
  cases h with
  | lst => rfl
  | tup => rfl
  | cell e => simp only [seqU, e]
theorem LstU.datC {S : Store} {ds : List D} {u : U} (h : LstU S ds u) : DL.dat u S = some (.lst ds) ∨ DL.dat u S = some (.tup ds) := by
  cases h with
  | lst => exact .inl rfl
  | tup => exact .inr rfl
  | cell e => exact .inl (by simp only [DL.dat, e, allD_map]; rfl)
theorem LstU.tupU {S : Store} {ds : List D} {u : U} (h : LstU S ds u) : DL.tupU u S = .ok (.d (.tup ds)) S := by
  unfold DL.tupU
  rcases h.datC with e | e <;> rw [e]
theorem LstU.txts {S : Store} {zs : List Str} {u : U} (h : LstU S (zs.map .str) u) : txtsU u S = some zs := by
  unfold txtsU
  rcases h.datC with e | e <;> rw [e] <;> exact strsD_map zs
end DL
set_option Elab.async false
set_option linter.all false
set_option maxRecDepth 100000
set_option maxHeartbeats 4000000
/-! ### a + b by an own method -/
namespace DL
open PySem PySem.Spec PySem.W PyProof.Rows
section
variable {P : Program} {w : World} {A : Around} {E : Value → Shared → Prop} {K : PySem.W.Frag} {a C f : Addr} {T : String} {v : Value} {oa : Obj} {od : Option Obj} {p q : Option Value} {Q : Value → Shared → Prop}
/-- the left one is an instance whose class has the method, the right one of a built-in type -/
theorem plus_own {s : Shared} (kin : K.In s.heap) (inst : PySem.W.InstAt s.heap a oa C od) (ty : PySem.W.Looks (model P w) s.heap (typeOf v) (.type T)) (first : PySem.W.selfFirst K C = true)
    (own : PySem.W.findIn K (.ref C) (PySem.dunder "add") = some (some (.ref f))) (fn : PySem.W.isFn K (.ref f) = true) (noR : PySem.W.findIn K (.ref C) (dunderR "add") = some none)
    (l : PySem.W.findIn K (.type T) (PySem.dunder "add") = some p) (r : PySem.W.findIn K (.type T) (dunderR "add") = some q) (sub : PySem.W.subIn K (.type T) (.ref C) = some false)
    (go : wpAny (model P w) A (call (.ref f) [.ref a, v]) (PySem.W.CmpBack Q) E s) : wpAny (model P w) A (binaryOp .Add (.ref a) v) Q E s := by
  obtain ⟨cd, more, e1, e2⟩ := ksp_first first
  have meth := ksp_try kin inst own fn go
  cases s with
  | mk hp gs ds tk os =>
    have k1 : Looks (model P w) hp (typeOf (.ref a)) (.ref C) := inst.type
    have k2 : Looks (model P w) hp (typeOf v) (.type T) := ty
    have k3 : Looks (model P w) hp (fillsNumberSlot (.ref C) "add") true := fills_K kin e1 e2 own
    have k4 := ksp_fillsT (M := model P w) (nm := "add") kin l r
    have k5 : Looks (model P w) hp (isSubtype (.type T) (.ref C)) false := looks_subIn kin sub
    have k6 : Looks (model P w) hp (numberSlotInPython (.ref C) "add") true := ksp_inPy kin own noR (.inl rfl)
    have k7 : Looks (model P w) hp (numberSlotInPython (.type T) "add") false := Looks.of_pure rfl
    have k8 : Looks (model P w) hp (typeLookup (.type T) (dunderR "add")) q := looks_findIn kin r
    generalize ((p.isSome && !isSeqSlot p) || (q.isSome && !isSeqSlot q)) = b at k4
    have apart : (Value.ref C == Value.type T) = false := by
      cases h : (Value.ref C == Value.type T) with
      | false => rfl
      | true => cases (beq_iff_eq.mp h)
    show wpAny (model P w) A (holding [.ref a, v] _) Q E _
    refine wpAny_holding (wpAny_bind ?_)
    show wpAny (model P w) A (binaryOp1 "add" (.ref a) v) _ E _
    unfold binaryOp1
    refine wpAny_bind (k1.at (wpAny_bind (k2.at (wpAny_bind (k3.at ?_)))))
    simp only [apart, if_neg Bool.false_ne_true]
    cases b <;>
    · ksp_lk
      refine wpAny_mono meth ?_ (fun _ _ z => z)
      rintro _ s' ⟨y, rfl, hy⟩
      ksp_lk
      exact hy
end
open L2
open He (ga ma)
open Evl (Ex)
/-- the built-in type of data -/
def tyN : D → Option String
  | .non => some "NoneType"
  | .bl _ => some "bool"
  | .int _ => some "int"
  | .str _ => some "str"
  | .tup _ => some "tuple"
  | .lst _ => some "list"
  | _ => none
def dataTs : List String := ["NoneType", "bool", "int", "str", "tuple", "list"]
theorem tyN_mem {d : D} {T : String} (h : tyN d = some T) : T ∈ dataTs := by
  cases d <;> simp [tyN] at h <;> subst h <;> decide
theorem type_looks {X : Cx} {pins : List (Addr × Obj)} {σ : L2.St} {G H : Hp} {s : Shared} {v : V} {u : Value} {d : D} {T : String} (I : Inv X pins σ H s) (ru : RelV v u) (rv : Rv X.K G v d) (e : Ex G H) (ht : tyN d = some T) : PySem.W.Looks (model X.prog X.w) s.heap (typeOf u) (.type T) := by
  cases rv with
  | non => cases ht; cases (show u = Value.none from ru); exact PySem.W.Looks.of_pure rfl
  | bl b => cases ht; cases (show u = Value.bool b from ru); exact PySem.W.Looks.of_pure rfl
  | int i => cases ht; obtain ⟨t, rfl⟩ := (show ∃ t, u = Value.int i t from ru); exact PySem.W.Looks.of_pure rfl
  | str z => cases ht; obtain ⟨t, rfl⟩ := (show ∃ t, u = Value.str z t from ru); exact PySem.W.Looks.of_pure rfl
  | tup h1 h2 =>
    cases ht
    cases (show u = Value.ref _ from ru)
    obtain ⟨its, r, ⟨o, ho, hc, _⟩, _⟩ := I.tuple (Evl.ex_t e h1)
    exact fun A Q E s' kp q => wpAny_typeOf_ref (kp _ _ ho) (by rw [hc]; exact q)
  | lst h1 h2 =>
    cases ht
    cases (show u = Value.ref _ from ru)
    obtain ⟨its, r, ⟨o, n, ho, hc, _⟩, _⟩ := I.list (Evl.ex_l e h1)
    exact fun A Q E s' kp q => wpAny_typeOf_ref (kp _ _ ho) (by rw [hc]; exact q)
  | obj _ _ => cases ht
  | ty _ => cases ht
  | cls _ => cases ht
structure PlusOk (K : PySem.W.Frag) (C f : Addr) : Prop where
  first : PySem.W.selfFirst K C = true
  own : PySem.W.findIn K (.ref C) (PySem.dunder "add") = some (some (.ref f))
  fn : PySem.W.isFn K (.ref f) = true
  noR : PySem.W.findIn K (.ref C) (dunderR "add") = some none
  side : ∀ T ∈ dataTs, (∃ p, PySem.W.findIn K (.type T) (PySem.dunder "add") = some p) ∧ (∃ q, PySem.W.findIn K (.type T) (dunderR "add") = some q) ∧ PySem.W.subIn K (.type T) (.ref C) = some false
def plusU (c : Str) (fF : Fn) (x y : U) (S : Store) : Res U := match objU x S, y with
  | some (c', _), .d d => if c' = c ∧ (tyN d).isSome = true then fF [x, .d d] S else .bad
  | _, _ => .bad
section
variable {X : Cx} {Wx : WX} {a b : Expr} {A B : Env → Store → Res U} {pos : Pos} {k : Nat} {c : Str} {f : Addr} {ps : List Str} {fF : Fn}
/-- a + b, a an object of the class c -/
theorem pd_plus (hA : X.A.guards = some []) (hp : PlusOk X.K (ga X.K c) f) (F : FD X.prog X.w X.K X.mg X.base k f ps fF) (hr : Room k X.A) (tk : Takes X Wx) (ha : PD X Wx a A) (hb : PD X Wx b B) :
    PD X Wx (.BinOp a .Add b pos) (fun ρ S => (A ρ S).bind fun x S => (B ρ S).bind fun y S => plusU c fF x y S) := by
  obtain ⟨ta, pa, da⟩ := ha
  obtain ⟨tb, pb, db⟩ := hb
  obtain ⟨hlen, fd, FG, hbi, _⟩ := F
  refine ⟨fun σ H Q => ta σ H fun x H1 => tb σ H1 fun y H2 => ∃ a dx vs G d T, x = .ref a ∧ H2 a = some (.ins (ga X.K c) dx vs) ∧ Rv X.K G y d ∧ Ex G H2 ∧ tyN d = some T ∧ spD X.K ps.length fF [x, y] H2 Q (WE Wx σ), ⟨fun pins s σ H Q I h => ?_⟩, fun P ι G σ S H ρ Q s e post => ?_⟩
  · refine wpAny_BinOp (binT pa pb I h fun v u s2 x y H2 I2 rx ry ⟨a, dx, vs, G, d, T, ex, ea, rv, eG, hT, q⟩ => ?_)
    subst ex
    cases (show v = Value.ref a from rx)
    obtain ⟨mA, om, _⟩ := ins_get I2.hok ea
    obtain ⟨od, J, _⟩ := om.look
    obtain ⟨⟨p, h1⟩, ⟨r, h2⟩, h3⟩ := hp.side T (tyN_mem hT)
    refine plus_own I2.kIn J (type_looks I2 ry rv eG hT) hp.first hp.own hp.fn hp.noR h1 h2 h3 ?_
    refine wpAny_mono (run_fnGS (us := [.ref a, u]) (vs := [.ref a, y]) (dvs := []) (ds := []) (E := WE Wx) hA FG hr hbi .nil (passAt tk σ) I2 (.cons rfl (.cons ry .nil)) (by rw [List.append_nil]; exact q)) (fun w s' z => ?_) fun _ _ x => x
    obtain ⟨z', H', I', rz, qz⟩ := z
    exact SlX.cmpback rz ⟨z', H', I', rz, qz⟩
  · refine da P ι G σ S H ρ _ s e (post.bind fun x S1 ι1 G1 H1 v p1 e1 s1 rv post1 => ?_)
    refine db P ι1 G1 σ S1 H1 ρ _ s1 (e.up p1 e1) (post1.bind fun y S2 ι2 G2 H2 v2 p2 e2 s2 rv2 post2 => ?_)
    unfold plusU at post2
    split at post2
    · rename_i c' fs d ho
      split at post2
      · rename_i h
        obtain ⟨rfl, hs⟩ := h
        obtain ⟨T, hT⟩ := Option.isSome_iff_exists.mp hs
        obtain ⟨a, dx, vs, rfl, h1, h2⟩ := obj_at s2 (rv.up p2 e2) ho
        exact ⟨a, dx, vs, G2, d, T, rfl, h1, rv2, s2.ex, hT, call_post hlen s2 (.cons (rv.up p2 e2) (.cons rv2 .nil)) post2⟩
      · exact post2.elim
    · exact post2.elim
end
structure EqOk (K : PySem.W.Frag) (C f : Addr) : Prop where
  own : PySem.W.findIn K (.ref C) (cmpInfo .Eq).2.1 = some (some (.ref f))
  fn : PySem.W.isFn K (.ref f) = true
  self : PySem.W.notFirst K C (.ref C) = true
  side : ∀ T ∈ dataTs, PySem.W.notFirst K C (.type T) = true
/-- == by an own method: the right one is data of a built-in type or an object of the same class -/
def eqOwnU (c : Str) (fF : Fn) (x y : U) (S : Store) : Res U := match objU x S with
  | some (c', _) => if c' = c then match y with
    | .d d => if (tyN d).isSome = true then fF [x, .d d] S else match objU (.d d) S with
      | some (c2, _) => if c2 = c then fF [x, .d d] S else .bad
      | none => .bad
    | .r n => match objU (.r n) S with
      | some (c2, _) => if c2 = c then fF [x, .r n] S else .bad
      | none => .bad
    else .bad
  | none => .bad
section
variable {X : Cx} {Wx : WX} {a b : Expr} {A B : Env → Store → Res U} {pos : Pos} {k : Nat} {c : Str} {f : Addr} {ps : List Str} {fF : Fn}
/-- a == b, a an object of the class c -/
theorem pd_eqOwn (hA : X.A.guards = some []) (hp : EqOk X.K (ga X.K c) f) (F : FD X.prog X.w X.K X.mg X.base k f ps fF) (hr : Room k X.A) (tk : Takes X Wx) (ha : PD X Wx a A) (hb : PD X Wx b B) (hm : behindInMarks .Eq b = false) :
    PD X Wx (.Compare a [.Eq] [b] pos) (fun ρ S => (A ρ S).bind fun x S => (B ρ S).bind fun y S => eqOwnU c fF x y S) := by
  obtain ⟨ta, pa, da⟩ := ha
  obtain ⟨tb, pb, db⟩ := hb
  obtain ⟨hlen, fd, FG, hbi, _⟩ := F
  refine ⟨fun σ H Q => ta σ H fun x H1 => tb σ H1 fun y H2 => ∃ a dx vs, x = .ref a ∧ H2 a = some (.ins (ga X.K c) dx vs) ∧ ((∃ G d T, Rv X.K G y d ∧ Ex G H2 ∧ tyN d = some T) ∨ ∃ a2 dx2 vs2, y = .ref a2 ∧ H2 a2 = some (.ins (ga X.K c) dx2 vs2)) ∧ spD X.K ps.length fF [x, y] H2 Q (WE Wx σ), ⟨fun pins s σ H Q I h => ?_⟩, fun P ι G σ S H ρ Q s e post => ?_⟩
  · refine wpAny_Compare1 (binT pa pb I h fun v u s2 x y H2 I2 rx ry ⟨a, dx, vs, ex, ea, hy, q⟩ => ?_) hm
    subst ex
    cases (show v = Value.ref a from rx)
    obtain ⟨mA, om, _⟩ := ins_get I2.hok ea
    obtain ⟨od, J, _⟩ := om.look
    obtain ⟨m, hF⟩ := I2.fr
    have go : wpAny (model X.prog X.w) X.A (call (.ref f) [.ref a, u]) (PySem.W.CmpBack (EP X pins σ Q)) X.xe s2 := by
      refine wpAny_mono (run_fnGS (us := [.ref a, u]) (vs := [.ref a, y]) (dvs := []) (ds := []) (E := WE Wx) hA FG hr hbi .nil (passAt tk σ) I2 (.cons rfl (.cons ry .nil)) (by rw [List.append_nil]; exact q)) (fun w s' z => ?_) fun _ _ x => x
      obtain ⟨z', H', I', rz, qz⟩ := z
      exact SlX.cmpback rz ⟨z', H', I', rz, qz⟩
    show wpAny (model X.prog X.w) X.A (richCompare .Eq (.ref a) u) _ _ _
    rcases hy with ⟨G, d, T, rv, eG, hT⟩ | ⟨a2, dx2, vs2, ey, ea2⟩
    · exact PySem.W.cmp_K (op := .Eq) hr.units0 hF I2.ok.mod.kin J (type_looks I2 ry rv eG hT) (hp.side T (tyN_mem hT)) hp.own hp.fn go
    · subst ey
      cases (show u = Value.ref a2 from ry)
      obtain ⟨mA2, om2, _⟩ := ins_get I2.hok ea2
      obtain ⟨od2, J2, _⟩ := om2.look
      exact PySem.W.cmp_K (op := .Eq) hr.units0 hF I2.ok.mod.kin J J2.type hp.self hp.own hp.fn go
  · refine da P ι G σ S H ρ _ s e (post.bind fun x S1 ι1 G1 H1 v p1 e1 s1 rv post1 => ?_)
    refine db P ι1 G1 σ S1 H1 ρ _ s1 (e.up p1 e1) (post1.bind fun y S2 ι2 G2 H2 v2 p2 e2 s2 rv2 post2 => ?_)
    unfold eqOwnU at post2
    split at post2
    · rename_i c' fs ho
      split at post2
      · rename_i h
        subst h
        obtain ⟨a, dx, vs, rfl, h1, h2⟩ := obj_at s2 (rv.up p2 e2) ho
        refine ⟨a, dx, vs, rfl, h1, ?_⟩
        split at post2
        · rename_i d
          split at post2
          · rename_i hs
            obtain ⟨T, hT⟩ := Option.isSome_iff_exists.mp hs
            exact ⟨.inl ⟨G2, d, T, rv2, s2.ex, hT⟩, call_post hlen s2 (.cons (rv.up p2 e2) (.cons rv2 .nil)) post2⟩
          · split at post2
            · rename_i c2 fs2 ho2
              split at post2
              · rename_i h
                subst h
                obtain ⟨a2, dx2, vs2, rfl, k1, k2⟩ := obj_at s2 rv2 ho2
                exact ⟨.inr ⟨a2, dx2, vs2, rfl, k1⟩, call_post hlen s2 (.cons (rv.up p2 e2) (.cons rv2 .nil)) post2⟩
              · exact post2.elim
            · exact post2.elim
        · rename_i n
          split at post2
          · rename_i c2 fs2 ho2
            split at post2
            · rename_i h
              subst h
              obtain ⟨a2, dx2, vs2, rfl, k1, k2⟩ := obj_at s2 rv2 ho2
              exact ⟨.inr ⟨a2, dx2, vs2, rfl, k1⟩, call_post hlen s2 (.cons (rv.up p2 e2) (.cons rv2 .nil)) post2⟩
            · exact post2.elim
          · exact post2.elim
      · exact post2.elim
    · exact post2.elim
end
end DL
set_option Elab.async false
set_option linter.all false
set_option maxRecDepth 100000
set_option maxHeartbeats 4000000
/-! ### isinstance against an own class -/
namespace DL
open PySem PySem.Spec PyProof.Rows L2
open He (ga ma)
open Evl (Ex)
/-- objects of the class at C: their type may be asked -/
def InsOk (K : PySem.W.Frag) (C : Addr) : Prop := ∀ (H : Hp) (a dx : Addr) (fs : List (Str × V)), H a = some (.ins C dx fs) → TyOf K H (.ref a) (.ref C)
structure IsiOk (K : PySem.W.Frag) (c : Str) : Prop where
  ins : InsOk K (ga K c)
  side : ∀ T ∈ dataTs, PySem.W.kitOne K (.type T) (.ref (ga K c)) = some false
/-- isinstance(x, c): x data of a built-in type or an object of the class itself -/
def isiOwnU (c : Str) (u : U) (S : Store) : Res U := match u with
  | .d d => if (tyN d).isSome = true then .ok (.d (.bl false)) S else match objU (.d d) S with
    | some (c', _) => if c' = c then .ok (.d (.bl true)) S else .bad
    | none => .bad
  | .r n => match objU (.r n) S with
    | some (c', _) => if c' = c then .ok (.d (.bl true)) S else .bad
    | none => .bad
def isiOwn2 (c : Str) (u w : U) (S : Store) : Res U := match w with
  | .d (.cls c2) => if c2 = c then isiOwnU c u S else .bad
  | _ => .bad
theorem rv_tyT {K : PySem.W.Frag} {G : Hp} {v : V} {d : D} {T : String} (r : Rv K G v d) (h : tyN d = some T) : TyX K G v (.type T) := by
  cases r with
  | non => cases h; exact .base .non
  | bl b => cases h; exact .base (.bl b)
  | int i => cases h; exact .base (.int i)
  | str x => cases h; exact .base (.str x)
  | lst h1 _ =>
    cases h
    rcases h1 with (h1 | ⟨o, h1⟩) | ⟨o, its, n, h1, h2, _⟩
    · exact .base (.lst h1)
    · exact .base (.frz h1)
    · exact .kList h1 h2
  | tup h1 _ =>
    cases h
    rcases h1 with (h1 | ⟨o, h1⟩) | ⟨o, its, n, h1, h2, _⟩
    · exact .base (.tup h1)
    · exact .fTuple h1
    · exact .kTuple h1 h2
  | obj _ _ => cases h
  | ty _ => cases h
  | cls _ => cases h
theorem cd_isiOwn {X : Cx} {c : Str} (h : IsiOk X.K c) : CallD X (.builtin "isinstance") (c2 (isiOwn2 c)) := call2 call_isi fun Wx P ι G S H v v2 u u2 σ Q s r r2 post => by
  unfold isiOwn2 at post
  split at post
  · rename_i c2
    split at post
    · rename_i hc
      subst hc
      cases r2
      have self : PySem.W.kitOne X.K (.ref (ga X.K c2)) (.ref (ga X.K c2)) = some true := by
        unfold PySem.W.kitOne
        rw [if_pos (by simp)]
      have obj : ∀ c' fs, objU u S = some (c', fs) → c' = c2 → Post (RU X.K) X.K Wx P ι G σ Q (.ok (.d (.bl true)) S) → rIsi X.K [v, .ref (ga X.K c2)] H Q := fun c' fs ho e post' => by
        rw [e] at ho
        obtain ⟨a, dx, vs, rfl, h1, _⟩ := obj_at s r ho
        exact ⟨_, _, _, _, true, rfl, .own _, .base (h.ins H a dx vs h1), self, post'.ok s (.bl _)⟩
      unfold isiOwnU at post
      split at post
      · rename_i d
        split at post
        · rename_i hs
          obtain ⟨T, hT⟩ := Option.isSome_iff_exists.mp hs
          exact ⟨_, _, _, _, false, rfl, .own _, TyX.ex s.ex (rv_tyT r hT), h.side T (tyN_mem hT), post.ok s (.bl _)⟩
        · split at post
          · rename_i c' fs ho
            split at post
            · rename_i e
              exact obj c' fs ho e post
            · exact post.elim
          · exact post.elim
      · split at post
        · rename_i c' fs ho
          split at post
          · rename_i e
            exact obj c' fs ho e post
          · exact post.elim
        · exact post.elim
    · exact post.elim
  · exact post.elim
end DL
set_option Elab.async false
set_option linter.all false
set_option maxRecDepth 100000
set_option maxHeartbeats 4000000
/-! ### facts of the head for own operators -/
namespace WH
open PySem PySem.Spec PyProof.Rows L2 DL
open He (ga ma)
theorem ba2 {a b : Bool} (h : (a && b) = true) : a = true ∧ b = true := Bool.and_eq_true_iff.mp h
def cPlus (x : Str) : Chk := fun K => PySem.W.selfFirst K (ga K x) && (isFree (PySem.W.findIn K (.ref (ga K x)) (dunderR "add")) && dataTs.all fun T => (PySem.W.findIn K (.type T) (PySem.dunder "add")).isSome && ((PySem.W.findIn K (.type T) (dunderR "add")).isSome && decide (PySem.W.subIn K (.type T) (.ref (ga K x)) = some false)))
theorem plus_ok {K : PySem.W.Frag} {x : Str} {f : Addr} (c : cPlus x K = true) (M : Meth K (ga K x) "__add__" f) : PlusOk K (ga K x) f := by
  obtain ⟨c1, c2⟩ := ba2 c
  obtain ⟨c2, c3⟩ := ba2 c2
  refine ⟨c1, M.at_, M.fn, isFree_ok c2, fun T hT => ?_⟩
  obtain ⟨d1, d2⟩ := ba2 (List.all_eq_true.mp c3 T hT)
  obtain ⟨d2, d3⟩ := ba2 d2
  exact ⟨Option.isSome_iff_exists.mp d1, Option.isSome_iff_exists.mp d2, of_decide_eq_true d3⟩
def cEq (x : Str) : Chk := fun K => PySem.W.notFirst K (ga K x) (.ref (ga K x)) && dataTs.all fun T => PySem.W.notFirst K (ga K x) (.type T)
theorem eq_ok {K : PySem.W.Frag} {x : Str} {f : Addr} (c : cEq x K = true) (M : Meth K (ga K x) "__eq__" f) : EqOk K (ga K x) f := by
  obtain ⟨c1, c2⟩ := ba2 c
  exact ⟨M.at_, M.fn, c1, fun T hT => List.all_eq_true.mp c2 T hT⟩
def cIsi (x : Str) : Chk := fun K => decide (PySem.W.findIn K (.ref (ga K x)) "__class__" = some (some (.builtin "object.__class__"))) && (decide (PySem.W.specialIn K (.builtin "object.__class__") "__get__" = some (some (.builtin "getset_descriptor.__get__"))) && (decide (PySem.W.takesIn K (.builtin "object.__class__") = some true) && (decide (PySem.W.mroIn K (ga K x) (.type "object") = some true) && dataTs.all fun T => decide (PySem.W.kitOne K (.type T) (.ref (ga K x)) = some false))))
theorem isi_ok {K : PySem.W.Frag} {x : Str} (c : cIsi x K = true) (C : Cls K (ga K x)) : IsiOk K x := by
  obtain ⟨c1, c2⟩ := ba2 c
  obtain ⟨c2, c3⟩ := ba2 c2
  obtain ⟨c3, c4⟩ := ba2 c3
  obtain ⟨c4, c5⟩ := ba2 c4
  exact ⟨fun H a dx fs e => .ins e C (of_decide_eq_true c1) (of_decide_eq_true c2) (of_decide_eq_true c3) (of_decide_eq_true c4), fun T hT => of_decide_eq_true (List.all_eq_true.mp c5 T hT)⟩
end WH
set_option Elab.async false
set_option linter.all false
set_option maxRecDepth 100000
set_option maxHeartbeats 4000000
namespace DL
open PySem PySem.Spec PyProof.Rows L2
theorem hdl_t {c : Str} {fs : List (Str × D)} {ρ : Env} {S : Store} {cn : Str} {F : List (Str × D) → Env → Store → Res U} {r : List Cl} {u : U} {S' : Store} (h : mt c cn = true) (hF : F fs ρ S = .ok u S') : hdlU c fs ρ S ((cn, F) :: r) = .rt u S' := by
  unfold hdlU
  rw [if_pos h, hF]
theorem hdl_f {c : Str} {fs : List (Str × D)} {ρ : Env} {S : Store} {cn : Str} {F : List (Str × D) → Env → Store → Res U} {r : List Cl} (h : mt c cn = false) : hdlU c fs ρ S ((cn, F) :: r) = hdlU c fs ρ S r := by
  conv => lhs; unfold hdlU
  rw [if_neg (by rw [h]; simp)]
theorem try_err {cs : List Str} {cl : List Cl} {c : Str} {fs : List (Str × D)} {ρ : Env} {S : Store} (h : c ∈ cs) : tryU cs cl (.err c fs ρ S) = hdlU c fs ρ S cl := if_pos h
theorem try_nx {cs : List Str} {cl : List Cl} {ρ : Env} {S : Store} : tryU cs cl (.nx ρ S) = .nx ρ S := rfl
theorem try_rt {cs : List Str} {cl : List Cl} {u : U} {S : Store} : tryU cs cl (.rt u S) = .rt u S := rfl
theorem lookup_one (f : Str) (d : D) : List.lookup f [(f, d)] = some d := by simp [List.lookup]
end DL
set_option Elab.async false
set_option linter.all false
set_option maxRecDepth 100000
set_option maxHeartbeats 4000000
/-! ### == of data, or by an own method -/
namespace DL
open PySem PySem.Spec PySem.W PyProof.Rows
open L2
open He (ga ma)
open Evl (Ex)
def noErr : Res U → Res U
  | .err _ _ _ => .bad
  | r => r
theorem noErr_post {K : PySem.W.Frag} {Wx : WX} {P : Hp} {ι : List Addr} {G : Hp} {σ τ : L2.St} {Q : VK} {W2 : WX} : ∀ {r : Res U}, Post (RU K) K Wx P ι G σ Q (noErr r) → Post (RU K) K W2 P ι G τ Q r
  | .ok _ _, h => h
  | .err _ _ _, h => h.elim
  | .bad, h => h
def eqAny (c : Str) (fF : Fn) (x y : U) (S : Store) : Res U := match objU x S with
  | some _ => noErr (eqOwnU c fF x y S)
  | none => eqU x y S
section
variable {X : Cx} {k : Nat} {c : Str} {f : Addr} {ps : List Str} {fF : Fn}
theorem od_eqAny (hA : X.A.guards = some []) (hp : EqOk X.K (ga X.K c) f) (F : FD X.prog X.w X.K X.mg X.base k f ps fF) (hr : Room k X.A) : OpD X (compareOp .Eq) (eqAny c fF) := by
  obtain ⟨r0, h0, d0⟩ := od_eq hr
  obtain ⟨hlen, fd, FG, hbi, _⟩ := F
  refine ⟨fun x y H Q => r0 x y H Q ∨ ∃ a dx vs, x = .ref a ∧ H a = some (.ins (ga X.K c) dx vs) ∧ ((∃ G d T, Rv X.K G y d ∧ Ex G H ∧ tyN d = some T) ∨ ∃ a2 dx2 vs2, y = .ref a2 ∧ H a2 = some (.ins (ga X.K c) dx2 vs2)) ∧ spD X.K ps.length fF [x, y] H Q (fun _ _ _ => False), fun pins s2 σ H2 x y v u Q I2 rx ry h => ?_, fun Wx P ι G S H v1 v2 u1 u2 σ Q s r1 r2 post => ?_⟩
  · rcases h with h | ⟨a, dx, vs, ex, ea, hy, q⟩
    · exact h0 pins s2 σ H2 x y v u Q I2 rx ry h
    subst ex
    cases (show v = Value.ref a from rx)
    obtain ⟨mA, om, _⟩ := ins_get I2.hok ea
    obtain ⟨od, J, _⟩ := om.look
    obtain ⟨m, hF⟩ := I2.fr
    have go : wpAny (model X.prog X.w) X.A (call (.ref f) [.ref a, u]) (PySem.W.CmpBack (EP X pins σ Q)) X.xe s2 := by
      refine wpAny_mono (run_fnGS (us := [.ref a, u]) (vs := [.ref a, y]) (dvs := []) (ds := []) (E := WE fun _ _ _ _ => False) hA FG hr hbi .nil (passAt (W := fun _ _ _ _ => False) (fun _ _ ⟨_, _, _, _, _, _, _, _, _, _, _, _, _, _, _, _, w⟩ => w.elim) σ) I2 (.cons rfl (.cons ry .nil)) (by rw [List.append_nil]; exact q)) (fun w s' z => ?_) fun _ _ x => x
      obtain ⟨z', H', I', rz, qz⟩ := z
      exact SlX.cmpback rz ⟨z', H', I', rz, qz⟩
    show wpAny (model X.prog X.w) X.A (richCompare .Eq (.ref a) u) _ _ _
    rcases hy with ⟨G, d, T, rv, eG, hT⟩ | ⟨a2, dx2, vs2, ey, ea2⟩
    · exact PySem.W.cmp_K (op := .Eq) hr.units0 hF I2.ok.mod.kin J (type_looks I2 ry rv eG hT) (hp.side T (tyN_mem hT)) hp.own hp.fn go
    · subst ey
      cases (show u = Value.ref a2 from ry)
      obtain ⟨mA2, om2, _⟩ := ins_get I2.hok ea2
      obtain ⟨od2, J2, _⟩ := om2.look
      exact PySem.W.cmp_K (op := .Eq) hr.units0 hF I2.ok.mod.kin J J2.type hp.self hp.own hp.fn go
  · unfold eqAny at post
    split at post
    · rename_i q ho'
      refine .inr ?_
      unfold eqOwnU at post
      split at post
      · rename_i c' fs ho
        split at post
        · rename_i h
          subst h
          obtain ⟨a, dx, vs, rfl, h1, h2⟩ := obj_at s r1 ho
          refine ⟨a, dx, vs, rfl, h1, ?_⟩
          have fin : ∀ {y : U}, RU X.K ι G v2 y → Post (RU X.K) X.K Wx P ι G σ Q (noErr (fF [u1, y] S)) → spD X.K ps.length fF [.ref a, v2] H Q (fun _ _ _ => False) := fun {y} ry z =>
            call_post (Wx := fun _ _ _ _ => False) (σ := []) hlen s (.cons r1 (.cons ry .nil)) (noErr_post z)
          split at post
          · rename_i d
            split at post
            · rename_i hs
              obtain ⟨T, hT⟩ := Option.isSome_iff_exists.mp hs
              exact ⟨.inl ⟨G, d, T, r2, s.ex, hT⟩, fin r2 post⟩
            · split at post
              · rename_i c2 fs2 ho2
                split at post
                · rename_i h
                  subst h
                  obtain ⟨a2, dx2, vs2, rfl, k1, k2⟩ := obj_at s r2 ho2
                  exact ⟨.inr ⟨a2, dx2, vs2, rfl, k1⟩, fin r2 post⟩
                · exact post.elim
              · exact post.elim
          · rename_i n
            split at post
            · rename_i c2 fs2 ho2
              split at post
              · rename_i h
                subst h
                obtain ⟨a2, dx2, vs2, rfl, k1, k2⟩ := obj_at s r2 ho2
                exact ⟨.inr ⟨a2, dx2, vs2, rfl, k1⟩, fin r2 post⟩
              · exact post.elim
            · exact post.elim
        · exact post.elim
      · exact post.elim
    · exact .inl (d0 Wx P ι G S H v1 v2 u1 u2 σ Q s r1 r2 post)
end
end DL
set_option Elab.async false
set_option linter.all false
set_option maxRecDepth 100000
set_option maxHeartbeats 4000000
/-! ### defs with *args; classes made by them -/
namespace DL
open PySem PySem.Spec PyProof.Rows L2
open He (ga ma)
open Evl (Ex)
/-- a def called by position alone -/
def FnP (P : Program) (w : World) (K : PySem.W.Frag) (mg : Str → Option Value) (base : Heap) (CX : CXT) (k : Nat) (f : Addr) (sp : Sp) : Prop :=
  ∀ (A : Around), A.guards = some [] → ∀ (outer : List PySem.Env) (s : Shared) (H : Hp) (us : List Value) (vs : List V) (Q : VK) (E : XK), Room k A → Env0 P w K mg base A outer s H → Vals vs us → sp vs H Q E →
    codeAny (model P w) A (.call (.ref f) ⟨us, []⟩) (CR CX outer P w H s Q E) s
theorem FnP.mono {P : Program} {w : World} {K : PySem.W.Frag} {mg : Str → Option Value} {base : Heap} {CX : CXT} {j k : Nat} {f : Addr} {sp : Sp} (F : FnP P w K mg base CX j f sp) (h : j ≤ k) : FnP P w K mg base CX k f sp :=
  fun A hA outer s H us vs Q E hr => F A hA outer s H us vs Q E (hr.mono h)
/-- one argument, what is left over is a new tuple -/
def spV (K : PySem.W.Frag) (fF : Fn) : Sp := fun vs H Q E => ∃ v rest, vs = v :: rest ∧ rest.length ≤ sizeLine ∧ ∀ p, H p = none → spD K 2 fF [v, .ref p] (upd H p (.tup rest)) Q E
section
variable {P : Program} {w : World} {K : PySem.W.Frag} {mg : Str → Option Value} {base : Heap} {k : Nat} {x qual : Str} {f : Addr} {N : List Str} {fF : Fn} {B : Env → Store → Fl}
/-- def f(a, *v) by its body -/
theorem okV {params : Arguments} {body : List Stmt} {scope : Scope} {fd : FuncData} {p1 pv : Str} (F : FunD K x qual params body scope [] [] f fd) (S : FnScope N [p1, pv] scope)
    (hb : ∀ (kV doc pm cdv ct : Value) (an : Option Addr) (us rest : List Value), us.length = [p1].length → bindArgs (PySem.W.fnOf x qual params body scope .none kV doc pm an cdv ct) ⟨us ++ rest, []⟩ = (newTuple rest >>= fun t => pure ([p1].zip us ++ [(pv, t)])))
    (hB : ∀ (cdv : Value) (A : Around) (outer : List PySem.Env) (s : Shared) (H : Hp) (E : XK), (A.deeper (envOfC qual scope s.heap.objs.size f cdv)).guards = some [] → Room k (A.deeper (envOfC qual scope s.heap.objs.size f cdv)) →
      PDSs (cxOf (L2.CX P w) P w K mg base N qual scope f cdv A outer s H E) (fun c d _ H => E c d H) body B)
    (href : ∀ us S, us.length = 2 → Refines S (fF us S) (bodyR (B (startE N.length us) S))) : FnP P w K mg base (L2.CX P w) (k + 1) f (spV K fF) := by
  obtain ⟨oc, od, dV, kV, doc, pm, an, cdv, ct, osl, rfl, lk, hcd, hD, _⟩ := F.ex
  obtain rfl : dV = .none := by
    rcases hD with ⟨_, e⟩ | ⟨e, _⟩
    · exact e
    · exact absurd rfl e
  intro A hA outer s H us vs Q E hr e0 r hsp
  obtain ⟨v, rest, rfl, hz, hq⟩ := hsp
  cases r with
  | cons r1 r2 =>
    rename_i u1 u2
    have hn : H s.heap.objs.size = none := e0.hok.fresh (Nat.le_refl _)
    have hl2 : u2.length ≤ sizeLine := by rw [← r2.length]; exact hz
    refine StX.run_bnd lk hcd S hr e0 (G := fun xs H2 => ∃ p, H p = none ∧ xs = [v, V.ref p] ∧ H2 = upd H p (.tup rest)) (fun A' Ex Q' h => ?_) fun s2 H2 xs ⟨p, hp, ex, eH⟩ hr' => ?_
    · have hbb := hb kV doc pm cdv ct an [u1] u2 rfl
      show wpAny _ _ (bindArgs _ ⟨[u1] ++ u2, []⟩) _ _ _
      rw [hbb]
      refine wpAny_bind (wpAny_newTuple (wpAny_pure ?_) hl2)
      have un := StX.un_laid (fs := frs outer) (s := s) (o := ({ cls := .type "tuple", data := .seq u2.toArray } : Obj)) (u := .tup rest) hn
      have new : ObjOk P w (upd H s.heap.objs.size (.tup rest)) (s.heap.push ({ cls := .type "tuple", data := .seq u2.toArray } : Obj)) s.heap.objs.size (.tup rest) := ⟨hz, u2, r2, ⟨_, Heap.get?_push_size _ rfl, rfl, _, rfl⟩⟩
      exact h _ _ [v, V.ref s.heap.objs.size] [u1, Value.ref s.heap.objs.size] (StX.env0_laid e0 new) un rfl (fun e s' => StX.cxUp outer s H _ _ E e s' un (fun b o q => Heap.get?_push_of_some _ q) rfl) (.cons r1 (.cons rfl .nil)) rfl ⟨_, hn, rfl, rfl⟩
    · subst ex eH
      exact body_ok (ps := [p1, pv]) rfl (hB cdv A outer s2 _ E hA hr') (fun us S h => href us S h) (hq p hp)
end
section
variable {X : Cx} {Wx : WX} {k : Nat} {f C : Addr} {sp : Sp} {E : L2.St → XK} {x c : Str} {p pos spos : Pos} {e : Expr} {es : List Expr} {A Fc : Env → Store → Res U} {As : Env → Store → Res (List U)}
theorem run_newP {CX : CXT} {pins : List (Addr × Obj)} {σ : L2.St} {H : Hp} {s : Shared} {Q : VK} {us : List Value} {vs : List V} (hA : X.A.guards = some []) (M : Mk X.K C f) (F : FnP X.prog X.w X.K X.mg X.base CX k f sp) (hr : Room (k + 1) X.A) (hx : PassesAt CX X σ (E σ)) (I : Inv X pins σ H s) (r : Vals vs us)
    (h : sp (.ref (s.heap.objs.size + 1) :: vs) (upd (upd H s.heap.objs.size (.own (s.heap.objs.size + 1))) (s.heap.objs.size + 1) (.ins C s.heap.objs.size [])) (fun v H2 => v = .non ∧ Q (.ref (s.heap.objs.size + 1)) H2) (E σ)) :
    wpAny (model X.prog X.w) X.A (call (.ref C) us) (EP X pins σ Q) X.xe s := by
  have J := Inv.made (C := C) I
  refine wp_goes (make_map I.kIn M.makes M.init (beq_iff_eq.mp M.fn) (codeAny_mono (F _ (under_guards hA) X.stack _ _ _ _ _ (E σ) (hr.make C us []) (J.env0.make C us []) (.cons (show RelV (V.ref (s.heap.objs.size + 1)) (Value.ref (s.heap.objs.size + 1)) from rfl) r) h) fun r s' g => ?_))
  have g' := goes_of J hx g
  match r, g' with
  | .error e, g' => exact g'
  | .ok (.ret u), ⟨v, H', I3, rv, hv, q⟩ =>
    subst hv
    exact ⟨rv, V.ref _, H', I3, rfl, q⟩
def makeV (c : Str) (iF : Fn) (us : List U) (S : Store) : Res U := match allD us with
  | some ds => if ds.length ≤ sizeLine then makeU true c iF [.d (.tup ds)] S else .bad
  | none => .bad
theorem make_postV {K : PySem.W.Frag} {P : Hp} {ι : List Addr} {G H : Hp} {S : Store} {σ : L2.St} {Q : VK} {c : Str} {iF : Fn} {us : List U} {vs : List V} (hlen : ∀ us S, us.length ≠ 2 → iF us S = .bad) (s : Sr K P ι G S H) (r : RUs K ι G vs us) (post : Post (RU K) K Wx P ι G σ Q (makeV c iF us S))
    (a dx : Addr) (ha : H a = none) (hd : H dx = none) (hne : dx ≠ a) : spV K iF (.ref a :: vs) (upd (upd H dx (.own a)) a (.ins (ga K c) dx [])) (fun v H2 => v = .non ∧ Q (.ref a) H2) (WE Wx σ) := by
  unfold makeV at post
  split at post
  · rename_i ds hds
    split at post
    · rename_i hz
      have rd := r.all hds
      refine ⟨_, _, rfl, by rw [paired_len rd.pair]; exact hz, fun q hq => ?_⟩
      have ha' : upd H dx (.own a) a = none := by rw [upd_ne (Ne.symm hne)]; exact ha
      have up : ι <+: ι ++ [a] := List.prefix_append ι [a]
      have hg := (s.fresh ha).1
      have s1 : Sr K P (ι ++ [a]) G (S ++ [.obj c []]) (upd (upd H dx (.own a)) a (.ins (ga K c) dx [])) := (s.tmp hd).cell ha' ⟨hg, dx, [], upd_same, .nil⟩
      have s2 := s1.new (o := .tup vs) hq
      have eG := s1.exN (o := .tup vs) hq
      have hn : (ι ++ [a])[S.length]? = some a := by rw [← s.len, List.getElem?_append_right (Nat.le_refl _), Nat.sub_self]; rfl
      refine call_postN (Wx := Wx) (σ := σ) hlen s2 (.cons (show RU K (ι ++ [a]) _ (.ref a) (.r S.length) from ⟨a, hn, rfl⟩) (.cons (show RU K (ι ++ [a]) _ (.ref q) (.d (.tup ds)) from .tup (SqT.of upd_same) (rd.ex eG)) .nil)) ?_
      unfold makeU at post
      generalize iF [.r S.length, .d (.tup ds)] (S ++ [.obj c []]) = z at post
      cases z with
      | bad => exact post
      | err c' fs S2 => exact fun ι' G' H' od p e s' ea => post ι' G' H' od (up.trans p) (eG.trans e) s' ea
      | ok u S2 =>
        intro ι' G' H' v p e s' rv
        match u, post, rv with
        | .d .non, post1, rv =>
          cases rv
          refine ⟨rfl, ?_⟩
          obtain ⟨G2, e2, s2⟩ := frzN_ok (n := S.length) s'
          exact post1 ι' G2 H' (.ref a) (up.trans p) ((eG.trans e).trans e2) s2 (norm_ok s2 (show RU K ι' G2 (.ref a) (.r S.length) from ⟨a, pre_get p hn, rfl⟩))
    · exact post.elim
  · exact post.elim
/-- the class c is made by __init__(self, *args), which computes iF -/
structure MkV (X : Cx) (k : Nat) (c : Str) (iF : Fn) : Prop where
  made : Mk X.K (ga X.K c) (ma X.K (ga X.K c) "__init__")
  fn : FnP X.prog X.w X.K X.mg X.base (L2.CX X.prog X.w) k (ma X.K (ga X.K c) "__init__") (spV X.K iF)
  len : ∀ us S, us.length ≠ 2 → iF us S = .bad
def asC (c : Str) (u : U) (S : Store) (r : Store → Res U) : Res U := match u with
  | .d (.cls c') => if c' = c then r S else .bad
  | _ => .bad
theorem asC_self (c : Str) (S : Store) (r : Store → Res U) : asC c (.d (.cls c)) S r = r S := if_pos rfl
theorem asC_post {K : PySem.W.Frag} {P : Hp} {ι : List Addr} {G : Hp} {S : Store} {σ : L2.St} {Q : VK} {v : V} {u : U} {r : Store → Res U} (rv : RU K ι G v u) (post : Post (RU K) K Wx P ι G σ Q (asC c u S r)) : v = .ref (ga K c) ∧ Post (RU K) K Wx P ι G σ Q (r S) := by
  unfold asC at post
  split at post
  · rename_i c'
    split at post
    · rename_i h
      subst h
      cases rv
      exact ⟨rfl, post⟩
    · exact post.elim
  · exact post.elim
/-- C(e, ..) -/
theorem pd_makeV {iF : Fn} (hA : X.A.guards = some []) (M : MkV X k c iF) (hr : Room (k + 1) X.A) (tk : Takes X Wx) (hf : PD X Wx (.Name x p) Fc) (ha : PDA X Wx (e :: es) As)
    (he : starEach (e :: es) X.env = (false, eval e X.env) :: starEach es X.env := by rfl) (hpl : (backTo pos (starEach es X.env)).any (·.1) = false := by rfl) :
    PD X Wx (.Call (.Name x p) (e :: es) [] pos) (fun ρ S => (Fc ρ S).bind fun u S => asC c u S fun S => (As ρ S).bind fun us S => makeV c iF us S) := by
  obtain ⟨ta, pa, da⟩ := ha
  obtain ⟨tf, pf, df⟩ := hf
  refine ⟨fun σ H Q => tf σ H fun x H0 => x = .ref (ga X.K c) ∧ ta σ H0 fun vs H1 => ∀ a dx, H1 a = none → H1 dx = none → dx ≠ a → spV X.K iF (.ref a :: vs) (upd (upd H1 dx (.own a)) a (.ins (ga X.K c) dx [])) (fun v H2 => v = .non ∧ Q (.ref a) H2) (WE Wx σ), ⟨fun pins s σ H Q I h => ?_⟩, fun P ι G σ S H ρ Q s e post => ?_⟩
  · refine wpAny_Call_Name_kw (thn (pf.run pins s σ H _ I h) fun u s0 ⟨y, H0, I0, r0, ey, q0⟩ => ?_)
    subst ey
    cases (show u = Value.ref _ from r0)
    refine PySem.W.callWith_K (h₀ := X.base) I.ok.mod.kin M.made.kp (thn (pa.run pos pins s0 σ H0 _ I0 q0) fun us s1 ⟨vs, H1, I1, r, q⟩ => ⟨I1.kIn, ?_⟩) he hpl
    exact run_newP (E := WE Wx) hA M.made M.fn hr (passAt tk σ) I1 r (q _ _ (I1.hok.fresh (Nat.le_succ _)) (I1.hok.fresh (Nat.le_refl _)) (Nat.ne_of_lt (Nat.lt_succ_self _)))
  · refine df P ι G σ S H ρ _ s e (post.bind fun u S0 ι0 G0 H0 v p0 e0 s0 rv0 post0 => ?_)
    obtain ⟨hv, post0⟩ := asC_post rv0 post0
    refine ⟨hv, da P ι0 G0 σ S0 H0 ρ _ s0 (e.up p0 e0) (post0.bind fun us S1 ι1 G1 H1 vs p1 e1 s1 rv post1 => fun a dx ha hd hne => ?_)⟩
    exact make_postV M.len s1 rv post1 a dx ha hd hne
/-- C() -/
theorem pd_makeV0 {iF : Fn} (hA : X.A.guards = some []) (M : MkV X k c iF) (hr : Room (k + 1) X.A) (tk : Takes X Wx) (hf : PD X Wx (.Name x p) Fc) :
    PD X Wx (.Call (.Name x p) [] [] pos) (fun ρ S => (Fc ρ S).bind fun u S => asC c u S fun S => makeV c iF [] S) := by
  obtain ⟨tf, pf, df⟩ := hf
  refine ⟨fun σ H Q => tf σ H fun x H1 => x = .ref (ga X.K c) ∧ ∀ a dx, H1 a = none → H1 dx = none → dx ≠ a → spV X.K iF [.ref a] (upd (upd H1 dx (.own a)) a (.ins (ga X.K c) dx [])) (fun v H2 => v = .non ∧ Q (.ref a) H2) (WE Wx σ), ⟨fun pins s σ H Q I h => ?_⟩, fun P ι G σ S H ρ Q s e post => ?_⟩
  · refine wpAny_Call_Name_kw (thn (pf.run pins s σ H _ I h) fun u s1 ⟨y, H1, I1, r0, ey, q⟩ => ?_)
    subst ey
    cases (show u = Value.ref _ from r0)
    refine PySem.W.callWith_K0 I1.kIn M.made.kp ?_
    exact run_newP (E := WE Wx) hA M.made M.fn hr (passAt tk σ) I1 .nil (q _ _ (I1.hok.fresh (Nat.le_succ _)) (I1.hok.fresh (Nat.le_refl _)) (Nat.ne_of_lt (Nat.lt_succ_self _)))
  · refine df P ι G σ S H ρ _ s e (post.bind fun u S1 ι1 G1 H1 v p1 e1 s1 rv0 post0 => ?_)
    obtain ⟨hv, post0⟩ := asC_post rv0 post0
    exact ⟨hv, fun a dx ha hd hne => make_postV M.len s1 .nil post0 a dx ha hd hne⟩
/-- C(*e) -/
theorem pd_makeVS {iF : Fn} (hA : X.A.guards = some []) (M : MkV X k c iF) (hr : Room (k + 1) X.A) (tk : Takes X Wx) (hf : PD X Wx (.Name x p) Fc) (ha : PD X Wx e A)
    (hst : starEach [.Starred e spos] X.env = [(true, eval e X.env)] := by rfl) :
    PD X Wx (.Call (.Name x p) [.Starred e spos] [] pos) (fun ρ S => (Fc ρ S).bind fun u S => asC c u S fun S => (A ρ S).bind fun u S => (seqU u S).bind fun us S => makeV c iF us S) := by
  obtain ⟨ta, pa, da⟩ := ha
  obtain ⟨tf, pf, df⟩ := hf
  refine ⟨fun σ H Q => tf σ H fun x H0 => x = .ref (ga X.K c) ∧ ta σ H0 fun y H1 => ∃ b xs, y = .ref b ∧ (SqT X.K H1 b xs ∨ SqL X.K H1 b xs) ∧ ∀ a dx, H1 a = none → H1 dx = none → dx ≠ a → spV X.K iF (.ref a :: xs) (upd (upd H1 dx (.own a)) a (.ins (ga X.K c) dx [])) (fun v H2 => v = .non ∧ Q (.ref a) H2) (WE Wx σ), ⟨fun pins s σ H Q I h => ?_⟩, fun P ι G σ S H ρ Q s e post => ?_⟩
  · refine wpAny_Call_Name_kw (thn (pf.run pins s σ H _ I h) fun u s0 ⟨y, H0, I0, r0, ey, q0⟩ => ?_)
    subst ey
    cases (show u = Value.ref _ from r0)
    refine PySem.W.callWith_S (h₀ := X.base) I.ok.mod.kin M.made.kp (thn (pa.run pins s0 σ H0 _ I0 q0) fun v s1 ⟨y, H1, I1, ry, b, xs, ey, hxs, q⟩ => ?_) hst
    subst ey
    cases (show v = Value.ref b from ry)
    refine StX.star_any I1 hxs fun us s2 I2 rv => ⟨I2.kIn, ?_⟩
    exact run_newP (E := WE Wx) hA M.made M.fn hr (passAt tk σ) I2 rv (q _ _ (I2.hok.fresh (Nat.le_succ _)) (I2.hok.fresh (Nat.le_refl _)) (Nat.ne_of_lt (Nat.lt_succ_self _)))
  · refine df P ι G σ S H ρ _ s e (post.bind fun u S0 ι0 G0 H0 v p0 e0 s0 rv0 post0 => ?_)
    obtain ⟨hv, post0⟩ := asC_post rv0 post0
    refine ⟨hv, da P ι0 G0 σ S0 H0 ρ _ s0 (e.up p0 e0) (post0.bind fun u1 S1 ι1 G1 H1 v1 p1 e1 s1 rv post1 => ?_)⟩
    obtain ⟨b, xs, us, rfl, hq, rus, post2⟩ := seq_post s1 rv post1
    exact ⟨b, xs, rfl, hq, fun a dx ha hd hne => make_postV M.len s1 rus post2 a dx ha hd hne⟩
end
end DL
set_option Elab.async false
set_option linter.all false
set_option maxRecDepth 100000
set_option maxHeartbeats 4000000
/-! ### properties, classmethods, own [] -/
namespace DL
open PySem PySem.Spec PyProof.Rows L2
open He (ga ma)
open Evl (Ex)
section
variable {X : Cx} {Wx : WX} {k : Nat} {f g : Addr} {ps : List Str} {fF : Fn} {c m x : Str} {p pr : Addr} {pos apos : Pos} {e o i : Expr} {es : List Expr} {A B Fc : Env → Store → Res U} {As : Env → Store → Res (List U)}
theorem wp_goesA {Ar : Around} {pins : List (Addr × Obj)} {σ : L2.St} {s : Shared} {Q : VK} {fv : Value} {us : List Value} {kw : List (Str × Value)} (h : codeAny (model X.prog X.w) Ar (.call fv ⟨us, kw⟩) (Goes1 X pins σ Q) s) : wpAny (model X.prog X.w) Ar (call fv us kw) (EP X pins σ Q) X.xe s :=
  wpAny_call (codeAny_mono h fun r _ g => match r, g with
    | .ok (.ret _), g => g
    | .error _, g => g)
def propU (c : Str) (fF : Fn) (u : U) (S : Store) : Res U := match objU u S with
  | some (c', _) => if c' = c then noErr (fF [u] S) else .bad
  | none => .bad
/-- e.f, a property of the class c -/
theorem pd_prop (hA : X.A.guards = some []) (cl : Cls X.K (ga X.K c)) (hp : PropOf X.K (ga X.K c) x pr g) (F : FD X.prog X.w X.K X.mg X.base k g ps fF) (hr : Room (k + 1) X.A) (he : PD X Wx e A) (hab : attributeBase e x X.env (eval e X.env) = eval e X.env := by rfl) :
    PD X Wx (.Attribute e x pos) (fun ρ S => (A ρ S).bind (propU c fF)) := by
  obtain ⟨ta, pa, da⟩ := he
  obtain ⟨hlen, fd, FG, hbi, _⟩ := F
  refine ⟨fun σ H Q => ta σ H fun y H1 => ∃ a dx fs, y = .ref a ∧ H1 a = some (.ins (ga X.K c) dx fs) ∧ spD X.K ps.length fF [y] H1 Q (fun _ _ _ => False), ⟨fun pins s σ H Q I h => ?_⟩, fun P ι G σ S H ρ Q s e post => ?_⟩
  · refine attr_of hab (thn (pa.run pins s σ H _ I h) fun u s1 ⟨y, H1, I1, ry, a, dx, fs, ey, ea, q⟩ => ?_)
    subst ey
    cases (show u = Value.ref a from ry)
    obtain ⟨mA, O, _⟩ := ins_get I1.hok ea
    obtain ⟨od, J, _⟩ := O.look
    obtain ⟨rest, hrec⟩ := hp.rec_
    have I2 := I1.tok (s1.toks + 1)
    have hc : (PySem.W.clsIn X.K (ga X.K c)).isSome = true := by
      obtain ⟨cd, hc, _⟩ := PySem.W.any_some cl.hd
      rw [hc]; rfl
    refine PySem.W.get_bind I1.kIn J (PySem.W.plainGet_of (cl.get x)).1 (PySem.W.findObj_data hc hp.at_ hp.get hp.tak) (PySem.W.plainGet_of (cl.get x)).2 (wpAny_call (PySem.W.prop_get (s := { s1 with toks := s1.toks + 1 }) I1.kIn hrec ?_))
    refine codeAny_mono (FG.run X.A.in1 hA X.stack { s1 with toks := s1.toks + 1 } H1 ⟨[.ref a], []⟩ [.ref a] [.ref a] Q _ hr.in1 I2.env0.in1 (hbi _ [.ref a] I2.kIn (FG.len _ _ _ _ q)) (.cons rfl .nil) q) fun r s' hq => ?_
    match r, hq with
    | .error er, hq =>
      obtain ⟨_, _, _, _, _, _, _, _, _, _, _, _, z⟩ := hq
      exact z.elim
    | .ok (.ret u), hq =>
      obtain ⟨v, H', I3, rv, q3⟩ := I2.after hq
      show wpAny _ _ (handedOut u) _ _ _
      rw [PySem.W.handedOut_of (handed_of rv)]
      exact wpAny_pure ⟨v, H', I3, rv, q3⟩
  · refine da P ι G σ S H ρ _ s e (post.bind fun u S1 ι1 G1 H1 v p1 e1 s1 rv post1 => ?_)
    unfold propU at post1
    split at post1
    · rename_i c' fs ho
      split at post1
      · rename_i h
        subst h
        obtain ⟨a, dx, vs, rfl, h1, _⟩ := obj_at s1 rv ho
        exact ⟨a, dx, vs, rfl, h1, call_post (Wx := fun _ _ _ _ => False) (σ := []) hlen s1 (.cons rv .nil) (noErr_post post1)⟩
      · exact post1.elim
    · exact post1.elim
/-- C.m(e, ..), m a classmethod -/
theorem pd_cm {mc : Value} {pl : Sem Bool} (hA : X.A.guards = some []) (r : ClX.CRead X.K (ga X.K c) mc) (cm : ClX.CMet X.K (ga X.K c) mc m pr g) (F : FD X.prog X.w X.K X.mg X.base k g ps fF) (hr : Room k X.A) (tk : Takes X Wx) (ho : PD X Wx o Fc) (ha : PDA X Wx (e :: es) As)
    (hst : starEach (e :: es) X.env = (false, eval e X.env) :: starEach es X.env := by rfl) (hpl : (backTo pos (starEach es X.env)).any (·.1) = false := by rfl)
    (ht : eval (.Call (.Attribute o m apos) (e :: es) [] pos) X.env = (do
      let ov ← eval o X.env
      standAt apos.atName
      let (f, first) ← holding [ov] (getMethod ov m pl)
      callWith pos f first (backTo pos (starEach (e :: es) X.env)) (backToKw pos (keywordEach [] X.env))) := by rfl) :
    PD X Wx (.Call (.Attribute o m apos) (e :: es) [] pos) (fun ρ S => (Fc ρ S).bind fun u S => asC c u S fun S => (As ρ S).bind fun us S => fF (.d (.cls c) :: us) S) := by
  obtain ⟨ta, pa, da⟩ := ha
  obtain ⟨to, po, do_⟩ := ho
  obtain ⟨hlen, fd, FG, hbi, _⟩ := F
  refine ⟨fun σ H Q => to σ H fun y H1 => y = .ref (ga X.K c) ∧ ta σ H1 fun vs H2 => spD X.K ps.length fF (.ref (ga X.K c) :: vs) H2 Q (WE Wx σ), ⟨fun pins s σ H Q I h => ?_⟩, fun P ι G σ S H ρ Q s e post => ?_⟩
  · refine PySem.W.methodCall_KW (pl := pl) (thn (po.run pins s σ H _ I h) fun u s1 ⟨y, H1, I1, ry, ey, q⟩ => ?_) ht
    subst ey
    cases (show u = Value.ref _ from ry)
    refine ClX.getmethcm_ok I1 r cm fun s2 I2 => ?_
    refine ClX.callwith_cm I2 (ClX.base_none I1 (Nat.le_refl _)) cm.fi (thn (pa.run pos _ s2 σ H1 _ I2 q) fun us s3 ⟨vs, H2, I3, rv, q2⟩ => ⟨⟨ClX.pin_at I3, I3.kIn⟩, ?_⟩) hst hpl
    have rr : Vals (V.ref (ga X.K c) :: vs) (Value.ref (ga X.K c) :: us) := .cons rfl rv
    have bb := hbi s3 (Value.ref (ga X.K c) :: us) I3.kIn (by rw [List.append_nil]; exact rr.length.symm.trans (FG.len _ _ _ _ q2))
    rw [List.append_nil] at bb
    refine thn (wp_goes (PySem.W.method_call (ClX.pin_at I3) (codeAny_mono (FG.run X.A hA X.stack s3 H2 ⟨Value.ref (ga X.K c) :: us, []⟩ _ _ Q (WE Wx σ) hr I3.env0 bb rr q2) fun _ _ g => goes_of I3 (passAt tk σ) g))) fun _ _ y => ClX.unpinE y
  · refine do_ P ι G σ S H ρ _ s e (post.bind fun u S0 ι0 G0 H0 v p0 e0 s0 rv0 post0 => ?_)
    obtain ⟨hv, post0⟩ := asC_post rv0 post0
    refine ⟨hv, da P ι0 G0 σ S0 H0 ρ _ s0 (e.up p0 e0) (post0.bind fun us S1 ι1 G1 H1 vs p1 e1 s1 rv post1 => ?_)⟩
    exact call_post hlen s1 (.cons (show RU X.K ι1 G1 (.ref (ga X.K c)) (.d (.cls c)) from .cls c) rv) post1
/-- own [] -/
structure GetOk (K : PySem.W.Frag) (C f : Addr) : Prop where
  at_ : PySem.W.findIn K (.ref C) "__getitem__" = some (some (.ref f))
  fi : PySem.W.fnIn K f = true
  fn : PySem.W.isFn K (.ref f) = true
def getU (c : Str) (fF : Fn) (x y : U) (S : Store) : Res U := match objU x S with
  | some (c', _) => if c' = c then fF [x, y] S else .bad
  | none => .bad
theorem pd_ixOwn (hA : X.A.guards = some []) (hg : GetOk X.K (ga X.K c) f) (F : FD X.prog X.w X.K X.mg X.base k f ps fF) (hr : Room (k + 1) X.A) (tk : Takes X Wx) (ha : PD X Wx o A) (hb : PD X Wx i B)
    (hs : ∀ v u, subscripted i true v u = runValue (.builtin "lifetime.subscript" ⟨[v, u], []⟩) := by intros; rfl) :
    PD X Wx (.Subscript o i pos) (fun ρ S => (A ρ S).bind fun x S => (B ρ S).bind fun y S => getU c fF x y S) := by
  obtain ⟨ta, pa, da⟩ := ha
  obtain ⟨tb, pb, db⟩ := hb
  obtain ⟨hlen, fd, FG, hbi, _⟩ := F
  refine ⟨fun σ H Q => ta σ H fun x H1 => tb σ H1 fun y H2 => ∃ a dx vs, x = .ref a ∧ H2 a = some (.ins (ga X.K c) dx vs) ∧ spD X.K ps.length fF [x, y] H2 Q (WE Wx σ), ⟨fun pins s σ H Q I h => ?_⟩, fun P ι G σ S H ρ Q s e post => ?_⟩
  · refine Subscript_ (binT pa pb I h fun v u s2 x y H2 I2 rx ry ⟨a, dx, vs, ex, ea, q⟩ => ?_)
    subst ex
    cases (show v = Value.ref a from rx)
    obtain ⟨mA, O, _⟩ := ins_get I2.hok ea
    obtain ⟨od, J, _⟩ := O.look
    obtain ⟨m, hF⟩ := I2.fr
    refine PySem.W.sub_K hF I2.ok.mod.kin J hg.at_ hg.fi hg.fn ?_ (hs _ _)
    have rr : Vals [V.ref a, y] [Value.ref a, u] := .cons rfl (.cons ry .nil)
    have bb := hbi s2 [Value.ref a, u] I2.kIn (FG.len _ _ _ _ q)
    exact wp_goesA (codeAny_mono (FG.run X.A.in1 hA X.stack s2 H2 ⟨[Value.ref a, u], []⟩ _ _ Q (WE Wx σ) hr.in1 I2.env0.in1 bb rr q) fun _ _ g => goes_of I2 (passAt tk σ) g)
  · refine da P ι G σ S H ρ _ s e (post.bind fun x S1 ι1 G1 H1 v p1 e1 s1 rv post1 => ?_)
    refine db P ι1 G1 σ S1 H1 ρ _ s1 (e.up p1 e1) (post1.bind fun y S2 ι2 G2 H2 v2 p2 e2 s2 rv2 post2 => ?_)
    unfold getU at post2
    split at post2
    · rename_i c' fs ho
      split at post2
      · rename_i h
        subst h
        obtain ⟨a, dx, vs, rfl, h1, _⟩ := obj_at s2 (rv.up p2 e2) ho
        exact ⟨a, dx, vs, rfl, h1, call_post hlen s2 (.cons (rv.up p2 e2) (.cons rv2 .nil)) post2⟩
      · exact post2.elim
    · exact post2.elim
end
end DL
set_option Elab.async false
set_option linter.all false
set_option maxRecDepth 100000
set_option maxHeartbeats 4000000
/-! ### == of tuples of objects with an own == (where it is True) -/
namespace DL
open PySem PySem.Spec PyProof.Rows L2
open He (ga ma)
open Evl (Ex)
/-- the def at f computes fF, wherever it is called -/
def FO (P : Program) (w : World) (K : PySem.W.Frag) (mg : Str → Option Value) (base : Heap) (k : Nat) (f : Addr) (ps : List Str) (fF : Fn) : Prop :=
  (∀ us S, us.length ≠ ps.length → fF us S = .bad) ∧ ∃ fd, FnOk P w K mg base (L2.CX P w) k f fd ps (spD K ps.length fF) ∧ Binds K fd ps [] ∧ PySem.W.keepIn K (.ref f) = true
theorem FO.d {P : Program} {w : World} {K : PySem.W.Frag} {mg : Str → Option Value} {base : Heap} {k : Nat} {f : Addr} {ps : List Str} {fF : Fn} (F : FO P w K mg base k f ps fF) : FD P w K mg base k f ps fF := let ⟨l, fd, a, b⟩ := F; ⟨l, fd, a.g, b⟩
section
variable {P : Program} {w : World} {K : PySem.W.Frag} {mg : Str → Option Value} {base : Heap} {k : Nat} {x qual : Str} {st : Stmt} {f : Addr} {N ps : List Str} {fF : Fn} {B : Env → Store → Fl}
/-- a method by its body, no repr in it -/
theorem okMtO (F : MtF K x qual st f) (S : FnScope N ps (defScope st)) (hb : BindRowQ x qual st ps) (hlen : ∀ us S, us.length ≠ ps.length → fF us S = .bad)
    (hB : ∀ (cdv : Value) (A : Around) (outer : List PySem.Env) (s : Shared) (H : Hp) (E : XK), Room k (A.deeper (envOfC qual (defScope st) s.heap.objs.size f cdv)) →
      PDSs (cxOf (L2.CX P w) P w K mg base N qual (defScope st) f cdv A outer s H E) (fun c d _ H => E c d H) (defBody st) B)
    (href : ∀ us S, us.length = ps.length → Refines S (fF us S) (bodyR (B (startE N.length us) S))) : FO P w K mg base (k + 1) f ps fF := by
  obtain ⟨fd, F⟩ := F
  have hB' := F.binds hb
  have hP := F.kp
  obtain ⟨oc, od, kV, doc, pm, an, cdv, ct, osl, rfl, lk, hcd⟩ := F.ex
  refine ⟨hlen, _, fn_of lk hcd S (fun vs H Q E h => h.1) fun A outer s H vs Q E hr hsp => ?_, hB', hP⟩
  exact body_ok rfl (hB cdv A outer s H E hr) href hsp
end
/-- these two are equal by fF -/
def eqR (K : PySem.W.Frag) (fF : Fn) : Addr → Addr → Hp → Prop := fun a b H => ∃ d e, Rv K H (.ref a) d ∧ Rv K H (.ref b) e ∧ fF [.d d, .d e] [] = .ok (.d (.bl true)) []
theorem eqR_mon {K : PySem.W.Frag} {fF : Fn} (a b : Addr) (H H' : Hp) (e : Ext H H') (h : eqR K fF a b H) : eqR K fF a b H' := let ⟨d, g, h1, h2, h3⟩ := h; ⟨d, g, h1.ex e, h2.ex e, h3⟩
theorem sr_whole (K : PySem.W.Frag) (H : Hp) : Sr K (fun _ => none) [] H [] H := ⟨Ex.refl H, rfl, .nil, fun n c a h => by simp at h, fun n a h => by simp at h, fun a o h => by cases h⟩
theorem eq_sp {K : PySem.W.Frag} {fF : Fn} {vs : List V} {H : Hp} {Q : VK} {E E' : XK} (h : spEq (eqR K fF) vs H Q E) : spD K 2 fF vs H Q E' := by
  obtain ⟨a, b, rfl, ⟨d, e, h1, h2, h3⟩, q⟩ := h
  refine ⟨rfl, fun _ => none, [], H, [], [.d d, .d e], sr_whole K H, .cons h1 (.cons h2 .nil), ?_⟩
  rw [h3]
  intro ι' G' H' v _ eG s rv
  cases rv
  exact q H' (eG.trans s.ex)
theorem pre_post {K : PySem.W.Frag} {Wx : WX} {P : Hp} {ι : List Addr} {G : Hp} {σ : L2.St} {Q : VK} {p : Prop} {r : Res U} (post : Post (RU K) K Wx P ι G σ Q (pre p r)) : p ∧ Post (RU K) K Wx P ι G σ Q r := by
  unfold pre at post
  split at post
  · rename_i h; exact ⟨h, post⟩
  · exact post.elim
section
variable {X : Cx} {k : Nat} {c : Str} {f : Addr} {ps : List Str} {fF : Fn}
noncomputable def eqTup (c : Str) (fF : Fn) (x y : U) (S : Store) : Res U := match x, y with
  | .d (.tup ds), .d (.tup es) => pre (ds.length = es.length ∧ ∀ (i : Nat) d e, ds[i]? = some d → es[i]? = some e → (∃ g1, d = .obj c g1) ∧ (∃ g2, e = .obj c g2) ∧ fF [.d d, .d e] [] = .ok (.d (.bl true)) []) (.ok (.d (.bl true)) S)
  | _, _ => .bad
theorem od_eqTup (hp : EqOk X.K (ga X.K c) f) (hq : PySem.W.findIn X.K (.ref (ga X.K c)) "__eq__" = some (some (.ref f))) (F : FO X.prog X.w X.K X.mg X.base k f ps fF) (h2 : ps.length = 2) (hr : Room (k + 1) X.A) : OpD X (compareOp .Eq) (eqTup c fF) := by
  obtain ⟨hlen, fd, FG, hbi, _⟩ := F
  have F2 : FnOk X.prog X.w X.K X.mg X.base (L2.CX X.prog X.w) k f fd ps (spEq (eqR X.K fF)) := ⟨fun vs H Q E h => by obtain ⟨a, b, rfl, _⟩ := h; exact h2.symm, fun A outer s H args us vs Q E hr e0 hb r h => by
    have h' : spD X.K ps.length fF vs H Q E := by rw [h2]; exact eq_sp h
    exact FG.run A outer s H args us vs Q E hr e0 hb r h'⟩
  have G := eqG_ins (X := X) (C := ga X.K c) (E := fun _ _ _ => False) F2 hq hp.fn hbi (fun pins σ H s e s' I z => by
    obtain ⟨_, _, _, _, _, _, _, _, _, _, _, _, z⟩ := z
    exact z.elim)
  have hm : Mon (DIns (ga X.K c) (eqR X.K fF)) := mon_ins eqR_mon
  refine ⟨_, op_eqG (rcG_tup hm G) hr, fun Wx P ι G S H v1 v2 u1 u2 σ Q s r1 r2 post => ?_⟩
  unfold eqTup at post
  split at post
  · rename_i ds es
    obtain ⟨⟨hl, hi⟩, post⟩ := pre_post post
    cases r1 with
    | tup a1 b1 =>
      cases r2 with
      | tup a2 b2 =>
        refine ⟨⟨_, _, _, _, rfl, rfl, Evl.ex_t s.ex a1, Evl.ex_t s.ex a2, ?_, fun i x y hx hy => ?_⟩, fun H' e => ?_⟩
        · rw [paired_len b1.pair, paired_len b2.pair]; exact hl
        · obtain ⟨d, hd, rd⟩ := paired_get' b1.pair hx
          obtain ⟨g, hg, rg⟩ := paired_get' b2.pair hy
          obtain ⟨⟨g1, e1⟩, ⟨g2, e2⟩, h3⟩ := hi i d g hd hg
          subst e1 e2
          have rd' := rd.ex s.ex
          have rg' := rg.ex s.ex
          cases rd' with
          | obj k1 k2 =>
            cases rg' with
            | obj l1 l2 => exact ⟨_, _, _, _, _, _, rfl, rfl, k1, l1, _, _, .obj k1 k2, .obj l1 l2, h3⟩
        · refine post ι G H' _ (List.prefix_refl _) (Ex.refl _) ⟨s.ex.trans e, s.len, s.nd, fun n c a h1 h2 => ?_, fun n a h => ?_, fun a o h => ?_⟩ (.bl true)
          · refine (s.at_ n c a h1 h2).up (List.prefix_refl ι) (Ex.refl G) ?_ fun o h => e a o h
            cases hg : G a with
            | none => exact .inl rfl
            | some o => exact .inr ⟨o, rfl⟩
          · obtain ⟨o, ho⟩ := s.out n a h
            exact ⟨o, e a o ho⟩
          · obtain ⟨h1, h2, h3⟩ := s.pin a o h
            exact ⟨e a o h1, h2, h3⟩
  · exact post.elim
end
end DL
set_option Elab.async false
set_option linter.all false
set_option maxRecDepth 100000
set_option maxHeartbeats 4000000
/-! ### a, *b = a list -/
namespace DL
open PySem PySem.Spec PyProof.Rows L2
open He (ga ma)
open Evl (Ex)
theorem unp_star2 {prog : Program} {w : World} {A : Around} {E : Value → Shared → Prop} {s : Shared} {l : Addr} {y : Value} {ys : List Value} {Q : List Value → Shared → Prop} (hl : s.heap.IsList l (y :: ys).toArray) (hh : A.handled = none) (hz : ys.length < 16384)
    (h : ∀ (h' : Heap) (tk : Nat), (∀ b o, s.heap.get? b = some o → h'.get? b = some o) → Q [y, .ref h'.objs.size] { s with heap := h'.push { cls := .type "list", data := .seq ys.toArray }, toks := tk }) :
    wpAny (model prog w) A (unpackItems (.ref l) 2 (some 1)) Q E s := by
  have hll : l < s.heap.objs.size := by obtain ⟨o, ho, _⟩ := hl; exact Heap.lt_size ho
  have hne : l ≠ s.heap.objs.size := Nat.ne_of_lt hll
  unfold unpackItems notIterableAtAll
  refine wpAny_bind (wpAny_bind (wpAny_specialOf hl.typeIs slot_list_iter.lookup (wpAny_pure ?_)))
  simp only [Bool.false_eq_true, if_false]
  refine wpAny_bind (wpAny_holding (wpAny_pyIter_list hl ?_))
  refine wpAny_bind (wpAny_holding (PySem.W.kun_draw hne 1 0 _ _ ⟨_, Heap.get?_push_size _ rfl, rfl, rfl⟩ (hl.push _) (by simp) fun h1 it1 sb => ?_))
  have l1 : h1.IsList l (y :: ys).toArray := (hl.push _).extBut sb.extBut hne
  have hi : s.heap.objs.size < h1.objs.size := by obtain ⟨o, ho, _⟩ := it1; exact Heap.lt_size ho
  have hl1 : l < h1.objs.size := by obtain ⟨o, ho, _⟩ := l1; exact Heap.lt_size ho
  simp only [List.drop_zero, List.take_succ_cons, List.take_zero, List.length_cons, List.length_nil, Nat.zero_add, Nat.lt_irrefl, if_false]
  refine wpAny_bind (wpAny_holding (PySem.W.kun_collect (s := { s with heap := h1 }) (k := 1) (T := "list_iterator") (.inr (.inr (.inl rfl))) (Walks.list (A := A.in1) hh s.heap.objs.size l hne (y :: ys).toArray) (fun j u st => st.1.typeIs) (by simp) ⟨it1, l1⟩ hi hl1 (fun h2 tk hk => ?_) (by rw [sizeLine_eq]; simp; omega)))
  have e1 : (y :: ys).toArray.toList.drop 1 = ys := by simp
  rw [e1]
  simp only [Nat.sub_self, Nat.not_lt_zero, if_false, Nat.sub_zero, List.take_length, List.drop_length, List.append_nil]
  have keep : ∀ b o, s.heap.get? b = some o → h2.get? b = some o := fun b o e => by
    have hb : b ≠ s.heap.objs.size := Nat.ne_of_lt (Heap.lt_size e)
    exact hk b o hb ((sb.2 b hb).trans (Heap.get?_push_of_some _ e))
  refine wpAny_bind (wpAny_newList (wpAny_pure ?_) (by rw [sizeLine_eq]; omega))
  exact h h2 tk keep
section
variable {X : Cx} {Wx : WX} {pos spos : Pos} {kk : Nat} {t1 t2 : Expr} {sl : List Nat} {Ts : List U → Env → Store → Res Env}
def starT (Ts : List U → Env → Store → Res Env) (u : U) (ρ : Env) (S : Store) : Res Env := match u with
  | .d (.lst (d :: ds)) => if ds.length < 16384 then Ts [.d d, .d (.lst ds)] ρ S else .bad
  | _ => .bad
theorem pdg_star (hc : X.calm = true) (h : PDGs X Wx [t1, t2] sl Ts) (hm : (assignEach [t1, .Starred t2 spos] X.env).map (·.2) = (assignEach [t1, t2] X.env).map (·.2) := by rfl) (hn : (assignEach [t1, .Starred t2 spos] X.env).length = 2 := by rfl) (hst : (assignEach [t1, .Starred t2 spos] X.env).findIdx? (·.1) = some 1 := by rfl) :
    PDG X Wx (.Tuple [t1, .Starred t2 spos] kk pos) sl (starT Ts) := by
  obtain ⟨g, pg, dg⟩ := h
  refine ⟨fun v σ H Q => ∃ a x xs, v = .ref a ∧ SqL X.K H a (x :: xs) ∧ xs.length < 16384 ∧ ∀ D, H D = none → g [x, .ref D] σ (upd H D (.lst xs)) Q, ⟨fun pins s σ H v u Q I r hw => ?_⟩, fun P ι G σ S H ρ v u Q s e r post => ?_⟩
  · obtain ⟨a, x, xs, rfl, hq, hl, hw⟩ := hw
    cases (show u = Value.ref a from r)
    obtain ⟨its, rv, pl, hz⟩ := I.list hq
    cases rv with
    | cons r1 r2 =>
      rename_i u1 us
      have hl' : us.length < 16384 := by rw [← r2.length]; exact hl
      rw [assign_Tuple]
      refine wpAny_bind (wpAny_standAt ?_)
      unfold unpack
      rw [hn, hst]
      refine wpAny_bind (wpAny_holding (unp_star2 pl.isList (I.ok.hd hc) hl' fun h' tk keep => ?_))
      rw [hm]
      have I1 : Inv X pins σ H { s with heap := h', toks := tk } := I.kept keep
      have hf := I1.hok.fresh (Nat.le_refl _)
      have I2 := I1.laid (o := .lst xs) (t' := tk) (h' := h'.push { cls := .type "list", data := .seq us.toArray }) (fun b u e => Heap.get?_push_of_some _ e) (Nat.le_refl _) ⟨by rw [sizeLine_eq]; omega, us, 0, r2, Heap.get?_push_size _ rfl⟩
      exact pg.run pins _ σ _ [x, .ref h'.objs.size] [u1, .ref h'.objs.size] Q I2 (.cons r1 (.cons rfl .nil)) (hw _ hf)
  · unfold starT at post
    split at post
    · rename_i d ds
      split at post
      · rename_i hl
        cases r with
        | lst h1 h2 =>
          cases h2 with
          | cons k1 k2 =>
            refine ⟨_, _, _, rfl, Evl.ex_l s.ex h1, by rw [paired_len k2.pair]; exact hl, fun D hD => ?_⟩
            exact dg P ι _ σ S _ ρ _ _ Q (s.new hD) (e.up (List.prefix_refl ι) (s.exN hD)) (.cons (show RU X.K ι _ _ (.d d) from k1.ex (s.exN hD)) (.cons (show RU X.K ι _ (.ref D) (.d (.lst ds)) from .lst (SqL.of upd_same) (k2.ex (s.exN hD))) .nil)) (post.up (List.prefix_refl ι) (s.exN hD))
      · exact post.elim
    · exact post.elim
end
end DL
set_option Elab.async false
set_option linter.all false
set_option maxRecDepth 100000
set_option maxHeartbeats 4000000
/-! ### facts of the head for properties, classmethods, own [] -/
namespace WH
open PySem PySem.Spec PyProof.Rows L2 DL
open He (ga ma)
def cGet (x : Str) : Chk := fun K => PySem.W.fnIn K (ma K (ga K x) "__getitem__")
theorem get_ok {K : PySem.W.Frag} {x : Str} (c : cGet x K = true) (M : Meth K (ga K x) "__getitem__" (ma K (ga K x) "__getitem__")) : GetOk K (ga K x) (ma K (ga K x) "__getitem__") := ⟨M.at_, c, M.fn⟩
def cRd (C : Str) : Chk := fun K => PySem.W.readsIn K (ga K C) (.type "type") && decide (PySem.W.specialIn K (.ref (ga K C)) "__getattribute__" = some (some (.builtin "type.__getattribute__")))
theorem rd_ok {K : PySem.W.Frag} {C : Str} (c : cRd C K = true) : ClX.CRead K (ga K C) (.type "type") := by
  obtain ⟨c1, c2⟩ := ba2 c
  exact ⟨c1, of_decide_eq_true c2⟩
def cCm (C m : Str) : Chk := fun K => He5.wrapB K (ga K C) "classmethod" "classmethod.__get__" m && PySem.W.fnIn K (He5.wf K (ga K C) "classmethod" m)
theorem cm_ok {K : PySem.W.Frag} {C m : Str} (c : cCm C m K = true) : ClX.CMet K (ga K C) (.type "type") m (ma K (ga K C) m) (He5.wf K (ga K C) "classmethod" m) := by
  obtain ⟨c1, c2⟩ := ba2 c
  obtain ⟨h1, h2⟩ := He5.wrapB_ok c1
  exact ⟨h1, h2, c2⟩
def isRec (K : PySem.W.Frag) (C : Addr) (T : String) (m : Str) : Bool := match PySem.W.recIn K (ma K C m) T with
  | some (.ref _ :: _) => true
  | _ => false
theorem rec_ok {K : PySem.W.Frag} {C : Addr} {T : String} {m : Str} (h : isRec K C T m = true) : ∃ rest, PySem.W.recIn K (ma K C m) T = some (.ref (He5.wf K C T m) :: rest) := by
  unfold isRec at h
  unfold He5.wf
  split at h
  · rename_i f rest e
    rw [e]
    exact ⟨rest, rfl⟩
  · cases h
def cProp (C m : Str) : Chk := fun K => decide (PySem.W.findIn K (.ref (ga K C)) m = some (some (.ref (ma K (ga K C) m)))) && (decide (PySem.W.specialIn K (.ref (ma K (ga K C) m)) "__get__" = some (some (.builtin "property.__get__"))) && (decide (PySem.W.takesIn K (.ref (ma K (ga K C) m)) = some true) && isRec K (ga K C) "property" m))
theorem prop_ok {K : PySem.W.Frag} {C m : Str} (c : cProp C m K = true) : PropOf K (ga K C) m (ma K (ga K C) m) (He5.wf K (ga K C) "property" m) := by
  obtain ⟨c1, c2⟩ := ba2 c
  obtain ⟨c2, c3⟩ := ba2 c2
  obtain ⟨c3, c4⟩ := ba2 c3
  exact ⟨of_decide_eq_true c1, of_decide_eq_true c2, of_decide_eq_true c3, rec_ok c4⟩
def mkW (C kind m q : Str) (st : Stmt) (T : String) : He5.DefA := ⟨fun K => He5.wf K (ga K C) T m, m, q, defArgs st, defBody st, defScope st, [], []⟩
end WH
set_option Elab.async false
set_option linter.all false
set_option maxRecDepth 100000
set_option maxHeartbeats 4000000
/-! ### C(k = v, ..), no positional argument -/
namespace DL
open PySem PySem.Spec PyProof.Rows L2
open He (ga ma)
open Evl (Ex)
/-- an empty tuple of the module -/
def EmpT (K : PySem.W.Frag) (a : Addr) : Prop := ∃ (o : Obj) (n : Nat), K.lookup a = some o ∧ o.cls = .type "tuple" ∧ o.data = .seq #[] n
theorem EmpT.rv {K : PySem.W.Frag} {a : Addr} (h : EmpT K a) (G : Hp) : Rv K G (.ref a) (.tup []) := by
  obtain ⟨o, n, h1, h2, h3⟩ := h
  exact .tup (.inr ⟨o, #[], n, h1, h2, h3, Nat.zero_le _, .nil⟩) .nil
section
variable {X : Cx} {Wx : WX} {k : Nat} {fd : FuncData} {ps ks : List Str} {x : Str} {p pos : Pos} {kws : List Keyword} {g : List Value → List Value → List Value} {gV : List V → List V → List V} {Ks : Env → Store → Res (List U)}
theorem pd_makeK0 {iF : Fn} {gU : List U → List U} (fz : Bool) (hA : X.A.guards = some []) (M : MkD X k x fd ps iF) (hr : Room (k + 1) X.A) (tk : Takes X Wx) (hb : KBn X.K fd ps 1 ks g gV)
    (hgU : ∀ (ι : List Addr) (G : Hp) (a : Addr) (zs : List V) (ws : List U), zs.length = ks.length → RUs X.K ι G zs ws → ∃ ys, gV [.ref a] zs = .ref a :: ys ∧ RUs X.K ι G ys (gU ws)) (hkw : PDK X Wx kws Ks) (hg : Gl X x := by rfl)
    (hall : (backToKw pos (keywordEach kws X.env)).all (·.1.isSome) = true := by rfl) (hks : (backToKw pos (keywordEach kws X.env)).filterMap (·.1) = ks := by rfl) (hdb : (x == ("__debug__" : Str)) = false := by decide)
    (hpl : ((backTo pos (starEach [] X.env)).any (·.1) || (backToKw pos (keywordEach kws X.env)).any (·.1.isNone)) = false := by rfl) :
    PD X Wx (.Call (.Name x p) [] kws pos) (fun ρ S => (Ks ρ S).bind fun ws S => if ws.length = ks.length then makeU fz x iF (gU ws) S else .bad) := by
  obtain ⟨tb, pb, db⟩ := hkw
  refine ⟨fun σ H Q => tb σ H fun zs H2 => zs.length = ks.length ∧ ∀ a dx, H2 a = none → H2 dx = none → dx ≠ a → spD X.K ps.length iF (gV [.ref a] zs) (upd (upd H2 dx (.own a)) a (.ins (ga X.K x) dx [])) (fun v H2 => v = .non ∧ Q (.ref a) H2) (WE Wx σ), ⟨fun pins s σ H Q I h => ?_⟩, fun P ι G σ S H ρ Q s e post => ?_⟩
  · refine wpAny_Call_Name_kw (ld_glob I hg M.gl ?_ hdb)
    refine PySem.W.callWith_KW0 (h₀ := X.base) I.ok.mod.kin M.made.kp hall (thn (pb.run pos pins s σ H _ I h) fun ws s2 ⟨zs, H2, I2, rz, l2, q2⟩ => ⟨I2.kIn, ?_⟩) hpl
    rw [hks]
    refine run_new (E := WE Wx) (us := []) hA M.made M.fn hr (passAt tk σ) I2 (fun s' hK => hb.to s' [_] ws hK rfl ?_) (hb.rel (.cons (show RelV (V.ref (s2.heap.objs.size + 1)) _ from rfl) .nil) rz) (q2 _ _ (I2.hok.fresh (Nat.le_succ _)) (I2.hok.fresh (Nat.le_refl _)) (Nat.ne_of_lt (Nat.lt_succ_self _)))
    rw [← rz.length, l2]
  · refine db P ι G σ S H ρ _ s e (post.bind fun ws S2 ι2 G2 H2 zs p2 e2 s2 rz post2 => ?_)
    split at post2
    · rename_i hl
      have l2 : zs.length = ks.length := by rw [paired_len rz]; exact hl
      refine ⟨l2, fun a dx ha hd hne => ?_⟩
      have up : ι2 <+: ι2 ++ [a] := List.prefix_append ι2 [a]
      obtain ⟨ys, hy, ry⟩ := hgU (ι2 ++ [a]) G2 a zs ws l2 (RUs.up up (Ex.refl _) rz)
      rw [hy]
      exact make_post M.len s2 post2 a dx ha hd hne ry
    · exact post2.elim
end
end DL
namespace WH
open PySem PySem.Spec PyProof.Rows L2 DL
open He (ga ma)
def isEmp (o : Obj) : Bool := decide (o.cls = .type "tuple") && (match o.data with | .seq its _ => its.isEmpty | _ => false)
def cEmp (C x : Str) : Chk := fun K => match K.lookup (kwAt C x K) with
  | some o => isEmp o
  | none => false
theorem emp_ok {K : PySem.W.Frag} {C x : Str} (c : cEmp C x K = true) : EmpT K (kwAt C x K) := by
  unfold cEmp at c
  split at c
  · rename_i o ho
    obtain ⟨c1, c2⟩ := ba2 c
    split at c2
    · rename_i its n hd
      have : its = #[] := by simpa using c2
      subst this
      exact ⟨o, n, ho, of_decide_eq_true c1, hd⟩
    · cases c2
  · cases c
end WH
set_option Elab.async false
set_option linter.all false
set_option maxRecDepth 100000
set_option maxHeartbeats 4000000
namespace DL
open PySem PySem.Spec PyProof.Rows L2
open He (ga ma)
def mthU (c m : Str) (u : U) (S : Store) (r : Store → Res U) : Res U := match objU u S with
  | some (c', fs) => if c' ∈ [c] ∧ fs.lookup m = none then r S else .bad
  | none => .bad
section
variable {X : Cx} {Wx : WX} {k : Nat} {c m : Str} {f : Addr} {ps : List Str} {fF : Fn} {o e : Expr} {es : List Expr} {pos apos : Pos} {A : Env → Store → Res U} {As : Env → Store → Res (List U)} {pl : Sem Bool}
/-- o.m(e, ..), o of the class c -/
theorem pd_meth1 (hA : X.A.guards = some []) (he : PD X Wx o A) (cl : Cls X.K (ga X.K c)) (me : Meth X.K (ga X.K c) m f) (F : FD X.prog X.w X.K X.mg X.base k f ps fF) (hr : Room k X.A) (tk : Takes X Wx) (ha : PDA X Wx (e :: es) As)
    (hst : starEach (e :: es) X.env = (false, eval e X.env) :: starEach es X.env := by rfl) (hpl : (backTo pos (starEach es X.env)).any (·.1) = false := by rfl)
    (ht : eval (.Call (.Attribute o m apos) (e :: es) [] pos) X.env = (do
      let ov ← eval o X.env
      standAt apos.atName
      let (f, first) ← holding [ov] (getMethod ov m pl)
      callWith pos f first (backTo pos (starEach (e :: es) X.env)) (backToKw pos (keywordEach [] X.env))) := by rfl) :
    PD X Wx (.Call (.Attribute o m apos) (e :: es) [] pos) (fun ρ S => (A ρ S).bind fun u S => mthU c m u S fun S => (As ρ S).bind fun us S => fF (u :: us) S) :=
  pd_meth (cs := [c]) (fF := fun _ => fF) hA he (fun c' hc => by obtain rfl := List.mem_singleton.mp hc; exact ⟨cl, f, ps, me, F⟩) hr tk ha hst hpl ht
end
end DL
set_option Elab.async false
set_option linter.all false
set_option maxRecDepth 100000
set_option maxHeartbeats 4000000
namespace DL
open PySem PySem.Spec PyProof.Rows L2
/-- list(range(n)) -/
def lrU (u : U) (S : Store) : Res U := match u with
  | .d (.int n) => if 0 ≤ n ∧ n ≤ 16777216 then .ok (.d (.lst ((List.range n.toNat).map fun i => D.int (i : Nat)))) S else .bad
  | _ => .bad
theorem rv_rg {K : PySem.W.Frag} {G : Hp} (n : Int) : RvAll K G (rgV 0 n) ((List.range n.toNat).map fun i => D.int (i : Nat)) := by
  unfold rgV
  rw [show (n - 0).toNat = n.toNat by omega]
  generalize n.toNat = m
  have : ∀ l : List Nat, RvAll K G (l.map fun i => V.int (0 + (i : Nat))) (l.map fun i => D.int (i : Nat)) := fun l => by
    induction l with
    | nil => exact .nil
    | cons i t ih =>
      refine .cons ?_ ih
      show Rv K G (V.int (0 + (i : Nat))) (D.int (i : Nat))
      rw [show (0 : Int) + (i : Nat) = (i : Nat) by omega]
      exact .int _
  exact this _
theorem pd_listRange {X : Cx} {Wx : WX} {a : Expr} {A : Env → Store → Res U} {p q pos pos' : Pos} (hc : X.calm = true) (hm1 : X.mg "list" = none) (hm2 : X.mg "range" = none) (ha : PD X Wx a A) (hg1 : Gl X "list" := by rfl) (hg2 : Gl X "range" := by rfl)
    (na : starEach [a] X.env = (false, eval a X.env) :: starEach [] X.env := by rfl) (nb : starEach [.Call (.Name "range" p) [a] [] pos] X.env = (false, eval (.Call (.Name "range" p) [a] [] pos) X.env) :: starEach [] X.env := by rfl) :
    PD X Wx (.Call (.Name "list" q) [.Call (.Name "range" p) [a] [] pos] [] pos') (fun ρ S => (A ρ S).bind lrU) := by
  obtain ⟨ta, pa, da⟩ := ha
  refine ⟨_, pe_listRg hc hg1 hm1 (prg_1 hg2 hm2 pa na) nb, fun P ι G σ S H ρ Q s e post => ?_⟩
  refine da P ι G σ S H ρ _ s e (post.bind fun u S1 ι1 G1 H1 v p1 e1 s1 rv post1 => ?_)
  unfold lrU at post1
  split at post1
  · rename_i n
    split at post1
    · rename_i hn
      cases rv
      exact ⟨n, rfl, RgOk.of_le (by decide) hn.2 (by decide) hn.1, fun l hl => post1 ι1 _ _ (.ref l) (List.prefix_refl _) (s1.exN hl) (s1.new hl) (.lst (SqL.of upd_same) (rv_rg n))⟩
    · exact post1.elim
  · exact post1.elim
end DL
set_option Elab.async false
set_option linter.all false
set_option maxRecDepth 100000
set_option maxHeartbeats 4000000
/-! ### defs told by facts -/
namespace DL
open PySem PySem.Spec PyProof.Rows L2
open He (ga ma)
/-- how a call ends: with data, or with an error of one field -/
inductive Ve where
  | ok (d : D) | err (e f : Str) (d : D)
def Ve.res : Ve → Store → Res U
  | .ok d, S => .ok (.d d) S
  | .err e f d, S => .err e [(f, d)] S
theorem Ve.inj {a b : Ve} {S S' : Store} (h : a.res S = b.res S') : a = b := by
  cases a with
  | ok d =>
    cases b with
    | ok d' => cases h; rfl
    | err _ _ _ => cases h
  | err e f d =>
    cases b with
    | ok _ => cases h
    | err e' f' d' => cases h; rfl
/-- this end, beside new cells -/
def ResG (v : Ve) (S : Store) (r : Res U) : Prop := ∃ g, r = v.res (S ++ g)
theorem resG {v : Ve} {S : Store} : ResG v S (v.res S) := ⟨[], by rw [List.append_nil]⟩
theorem resGg {v : Ve} {S g : Store} : ResG v S (v.res (S ++ g)) := ⟨g, rfl⟩
theorem fact_fn {ι : Type} (n : Nat) (b : List U → Store → Res U) (args : ι → List U) (val : ι → Ve) (ok : ι → Prop) (hl : ∀ i, (args i).length = n) (h : ∀ i S, ok i → ResG (val i) S (b (args i) S)) :
    ∃ fF : Fn, (∀ us S, us.length ≠ n → fF us S = .bad) ∧ (∀ us S, us.length = n → Refines S (fF us S) (b us S)) ∧ ∀ i S, ok i → fF (args i) S = (val i).res S := by
  have h' : ∀ us S, ∃ r : Res U, (us.length ≠ n → r = .bad) ∧ Refines S r (b us S) ∧ ∀ i, ok i → us = args i → r = (val i).res S := fun us S => by
    by_cases c : ∃ i, ok i ∧ us = args i
    · obtain ⟨i, hi, rfl⟩ := c
      obtain ⟨g, hg⟩ := h i S hi
      refine ⟨(val i).res S, fun hn => absurd (hl i) hn, ?_, fun j hj e => ?_⟩
      · rw [hg]
        cases val i with
        | ok d => exact .ok g (Shr.refl S) trivial
        | err e f d => exact .err g (Shr.refl S)
      · obtain ⟨g', hg'⟩ := h j S hj
        rw [← e, hg] at hg'
        rw [Ve.inj hg']
    · exact ⟨.bad, fun _ => rfl, .bad _, fun j hj e => absurd ⟨j, hj, e⟩ c⟩
  exact ⟨fun us S => (h' us S).choose, fun us S hn => (h' us S).choose_spec.1 hn, fun us S _ => (h' us S).choose_spec.2.1, fun i S hi => (h' (args i) S).choose_spec.2.2 i hi rfl⟩
section
variable {P : Program} {w : World} {K : PySem.W.Frag} {mg : Str → Option Value} {base : Heap} {k : Nat} {x qual : Str} {st : Stmt} {f : Addr} {N ps : List Str} {B : Env → Store → Fl} {ι : Type}
theorem factM (args : ι → List U) (val : ι → Ve) (ok : ι → Prop) (F : FnF K mg x st) (Sc : FnScope N ps (defScope st)) (hb : BindRow x st ps) (hl : ∀ i, (args i).length = ps.length)
    (hB : ∀ (cdv : Value) (A : Around) (outer : List PySem.Env) (s : Shared) (H : Hp) (E : XK), (A.deeper (envOfC x (defScope st) s.heap.objs.size (ga K x) cdv)).guards = some [] → Room k (A.deeper (envOfC x (defScope st) s.heap.objs.size (ga K x) cdv)) →
      PDSs (cxOf (L2.CX P w) P w K mg base N x (defScope st) (ga K x) cdv A outer s H E) (fun c d _ H => E c d H) (defBody st) B)
    (h : ∀ i S, ok i → ResG (val i) S (bodyR (B (startE N.length (args i)) S))) :
    ∃ fF, FM P w K mg base (k + 1) x ps fF ∧ ∀ i S, ok i → fF (args i) S = (val i).res S := by
  obtain ⟨fF, h1, h2, h3⟩ := fact_fn ps.length (fun us S => bodyR (B (startE N.length us) S)) args val ok hl h
  exact ⟨fF, okM F Sc hb h1 hB h2, h3⟩
theorem factMt (args : ι → List U) (val : ι → Ve) (ok : ι → Prop) (F : MtF K x qual st f) (Sc : FnScope N ps (defScope st)) (hb : BindRowQ x qual st ps) (hl : ∀ i, (args i).length = ps.length)
    (hB : ∀ (cdv : Value) (A : Around) (outer : List PySem.Env) (s : Shared) (H : Hp) (E : XK), (A.deeper (envOfC qual (defScope st) s.heap.objs.size f cdv)).guards = some [] → Room k (A.deeper (envOfC qual (defScope st) s.heap.objs.size f cdv)) →
      PDSs (cxOf (L2.CX P w) P w K mg base N qual (defScope st) f cdv A outer s H E) (fun c d _ H => E c d H) (defBody st) B)
    (h : ∀ i S, ok i → ResG (val i) S (bodyR (B (startE N.length (args i)) S))) :
    ∃ fF, FD P w K mg base (k + 1) f ps fF ∧ ∀ i S, ok i → fF (args i) S = (val i).res S := by
  obtain ⟨fF, h1, h2, h3⟩ := fact_fn ps.length (fun us S => bodyR (B (startE N.length us) S)) args val ok hl h
  exact ⟨fF, okMt F Sc hb h1 hB h2, h3⟩
end
end DL
set_option Elab.async false
set_option linter.all false
set_option maxRecDepth 100000
set_option maxHeartbeats 4000000
/-! ### a def called where an exception is handled -/
namespace DL
open PySem PySem.Spec PyProof.Rows L2
open He (ga ma)
open Evl (Ex)
/-- what a def promises there; p: the exception's object -/
structure FnHG (P : Program) (w : World) (K : PySem.W.Frag) (mg : Str → Option Value) (base : Heap) (CX : CXT) (k : Nat) (f : Addr) (fd : FuncData) (ps : List Str) (sp : Sp) : Prop where
  len : ∀ vs H Q E, sp vs H Q E → vs.length = ps.length
  run : ∀ (A : Around), A.guards = some [] → ∀ (outer : List PySem.Env) (s : Shared) (H : Hp) (args : Args) (us : List Value) (vs : List V) (Q : VK) (E : XK) (p : Addr × Obj), L2H.RoomH k A → L2H.PinOk outer H s p → Env0 P w K mg base A outer s H → BindsTo s fd args (ps.zip us) → Vals vs us → sp vs H Q E →
    codeAny (model P w) A (.call (.ref f) args) (CR CX outer P w H s Q E) s
section
variable {P : Program} {w : World} {K : PySem.W.Frag} {mg : Str → Option Value} {base : Heap} {CX : CXT} {k : Nat} {f : Addr} {fd : FuncData} {ps : List Str} {sp : Sp}
theorem fnHG_of {name qual : Str} {params : Arguments} {body : List Stmt} {scope : Scope} {dV kV doc pm cdv ct oc : Value} {an od : Option Addr}
    {osl : Array (Option Value)} {N : List Str} (lk : K.lookup f = some ⟨oc, od, .func (PySem.W.fnOf name qual params body scope dV kV doc pm an cdv ct), osl⟩) (hcd : PySem.W.codeIn K cdv qual = true) (S : FnScope N ps scope)
    (len : ∀ vs H Q E, sp vs H Q E → vs.length = ps.length)
    (hbody : ∀ (A : Around) (outer : List PySem.Env) (s : Shared) (H : Hp) (vs : List V) (Q : VK) (E : XK) (p : Addr × Obj), (A.deeper (envOfC qual scope s.heap.objs.size f cdv)).guards = some [] → L2H.RoomH k (A.deeper (envOfC qual scope s.heap.objs.size f cdv)) → sp vs H Q E →
      ∃ t, PSs (L2H.cxH CX P w K mg base N qual scope f cdv A outer s H E p) body t ∧ t { nx := fun _ H' => Q .non H', rt := Q } (L2.start N vs) H) :
    FnHG P w K mg base CX (k + 1) f (PySem.W.fnOf name qual params body scope dV kV doc pm an cdv ct) ps sp := by
  refine ⟨len, fun A hA outer s H args us vs Q E p hr hpin e0 hb r hsp => ?_⟩
  have KX : K.In s.heap := e0.mod.kin.keeps fun b o e => (e0.bs b o e).1
  have lim : s.heap.NoLimit := e0.mod.nolimit.keeps fun b o e => (e0.bs b o e).1
  refine codeAny_call_function hr.depth (KX _ _ lk) rfl S.co S.gen rfl (PySem.W.codeRec_of KX hcd) (hb _ _ _ _ (wpAny_newFunctionEnv_cells S.kind ?_ fun env he s1 x => ?_))
  · intro y hy
    have h1 := (List.of_mem_zip (show (y.1, y.2) ∈ ps.zip us from hy)).1
    rcases S.par y.1 h1 with q | q
    · exact Or.inl q
    · exact Or.inr ⟨q, PySem.W.cellsFrom_some _ _ _ (Or.inl q)⟩
  subst he
  obtain ⟨t, ht, hq⟩ := hbody A outer s H vs Q E p hA (hr.deeper _) hsp
  refine ⟨lim.keeps x.toInCall.keep, codeAny_func (wpAny_mono (ht.run [] s1 (L2.start N vs) H _ (L2H.inv_startH S hpin e0 (len _ _ _ _ hsp) r x) hq) (fun fl s' hs => ?_) fun e s' hs => hs)⟩
  cases fl with
  | ret u =>
    obtain ⟨v, σ', H', J, rv, q⟩ := hs
    exact ⟨v, H', J.os, J.bare, J.base, J.hok, rv, q⟩
  | next =>
    obtain ⟨σ', H', J, q⟩ := hs
    exact ⟨V.non, H', J.os, J.bare, J.base, J.hok, rfl, q⟩
  | brk => exact (hs.choose_spec.choose_spec.2).elim
  | cont => exact (hs.choose_spec.choose_spec.2).elim
end
/-- the def of the module named x computes fF there -/
def FH (P : Program) (w : World) (K : PySem.W.Frag) (mg : Str → Option Value) (base : Heap) (k : Nat) (x : Str) (ps : List Str) (fF : Fn) : Prop :=
  (∀ us S, us.length ≠ ps.length → fF us S = .bad) ∧ mg x = some (.ref (ga K x)) ∧ ∃ fd, FnHG P w K mg base (L2.CX P w) k (ga K x) fd ps (spD K ps.length fF) ∧ Binds K fd ps [] ∧ PySem.W.keepIn K (.ref (ga K x)) = true
theorem okH {P : Program} {w : World} {K : PySem.W.Frag} {mg : Str → Option Value} {base : Heap} {k : Nat} {x : Str} {st : Stmt} {N ps : List Str} {fF : Fn} {B : Env → Store → Fl} (F : FnF K mg x st) (S : FnScope N ps (defScope st)) (hb : BindRow x st ps) (hlen : ∀ us S, us.length ≠ ps.length → fF us S = .bad)
    (hB : ∀ (cdv : Value) (A : Around) (outer : List PySem.Env) (s : Shared) (H : Hp) (E : XK) (p : Addr × Obj), (A.deeper (envOfC x (defScope st) s.heap.objs.size (ga K x) cdv)).guards = some [] → L2H.RoomH k (A.deeper (envOfC x (defScope st) s.heap.objs.size (ga K x) cdv)) →
      PDSs (L2H.cxH (L2.CX P w) P w K mg base N x (defScope st) (ga K x) cdv A outer s H E p) (fun c d _ H => E c d H) (defBody st) B)
    (href : ∀ us S, us.length = ps.length → Refines S (fF us S) (bodyR (B (startE N.length us) S))) : FH P w K mg base (k + 1) x ps fF := by
  obtain ⟨fd, F, hm⟩ := F
  have hB' := F.binds hb
  have hP := F.kp
  obtain ⟨oc, od, kV, doc, pm, an, cdv, ct, osl, rfl, lk, hcd⟩ := F.ex
  refine ⟨hlen, hm, _, fnHG_of lk hcd S (fun vs H Q E h => h.1) fun A outer s H vs Q E p hA hr hsp => ?_, hB', hP⟩
  exact body_ok rfl (hB cdv A outer s H E p hA hr) href hsp
section
variable {X : Cx}
theorem od_eqU (hu : X.A.units + 64 < cLine) : OpD X (compareOp .Eq) eqU := by
  refine ⟨_, OpR.or op_eq (op_eqD hu), fun Wx P ι G S H v1 v2 u1 u2 σ Q s r1 r2 post => ?_⟩
  unfold eqU at post
  split at post
  · rename_i x y h1 h2
    have e1 := dat_ok s r1 h1 rfl
    have e2 := dat_ok s r2 h2 rfl
    cases e1
    cases e2
    refine .inl ⟨rfl, ?_⟩
    have : decide (V.str x = V.str y) = decide (x = y) := decide_eq_decide.mpr ⟨fun h => V.str.inj h, fun h => by rw [h]⟩
    rw [this]
    exact post.ok s (.bl _)
  · rename_i x y _ h1 h2
    split at post
    · rename_i h
      obtain ⟨a1, a2⟩ := okD_iff h.1
      obtain ⟨b1, b2⟩ := okD_iff h.2
      exact .inr ⟨_, _, dat_ok s r1 h1 a1, dat_ok s r2 h2 b1, a2, b2, post.ok s (.bl _)⟩
    · exact post.elim
  · exact post.elim
theorem cd_reprU (hA : X.A.guards = some []) (hu : X.A.units + 64 < cLine) : CallD X (.builtin "repr") (c1 shownU) := call1 (call_reprD hA hu) fun Wx P ι G S H v u σ Q s r post => by
  unfold shownU at post
  split at post
  · rename_i x hx
    split at post
    · rename_i h
      exact ⟨v, _, rfl, dat_ok s r hx h.1, h.2.1, h.2.2.1, h.2.2.2.1, h.2.2.2.2, post.ok s (.str _)⟩
    · exact post.elim
  · exact post.elim
theorem roomH_u {k : Nat} {A : Around} (r : L2H.RoomH k A) : A.units + 64 < cLine := by have := r.un; omega
/-! clauses that call -/
variable {cs : List Str} {io : Option Nat} {e e1 e2 : Expr} {pos p np : Pos} {k : Nat} {x n : Str} {ps : List Str} {fF : Fn} {F1 F2 : List (Str × D) → Env → Store → Res U}
theorem px_var {j : Nat} (hj : io ≠ some j) (hv : ∀ (a : Addr) (oe : Obj) (pn : List (Addr × Obj)), PE (X.suite a ((a, oe) :: pn)) (.Name n np) (tVar j)) : PX X cs io (.Name n np) (fun _ ρ S => rdV ρ j S) := fun a oe d pn c hc hz hd => by
  refine ⟨_, hv a oe pn, fun fs P ι G σ0 S H ρ Q s r hi ea post => ?_⟩
  have post : Post (RU X.K) X.K Wbot P ι G σ0 Q (match ρ[j]? with | some (some u) => Res.ok (norm S u) S | _ => Res.bad) := post
  split at post
  · rename_i u hu
    obtain ⟨ov, h1, h2⟩ := paired_get r hu
    cases ov with
    | none => exact h2.elim
    | some v =>
      have hg : (setO σ0 io a)[j]? = some (some v) := by
        unfold setO
        cases io with
        | none => exact h1
        | some i => rw [List.getElem?_set_ne (fun z => hj (by rw [z]))]; exact h1
      exact ⟨v, hg, post.ok s (norm_ok s h2)⟩
  · exact post.elim
theorem px_call2 (hA : X.A.guards = some []) (F : FH X.prog X.w X.K X.mg X.base k x ps fF) (hr : Room k X.A) (h1 : PX X cs io e1 F1) (h2 : PX X cs io e2 F2) (hg : Gl X x := by rfl) (hdb : (x == ("__debug__" : Str)) = false := by decide)
    (hs1 : ∀ (a : Addr) (q : List (Addr × Obj)), starEach [e1, e2] (X.suite a q).env = (false, eval e1 (X.suite a q).env) :: starEach [e2] (X.suite a q).env := by intros; rfl)
    (hs2 : ∀ (a : Addr) (q : List (Addr × Obj)), starEach [e2] (X.suite a q).env = (false, eval e2 (X.suite a q).env) :: starEach [] (X.suite a q).env := by intros; rfl)
    (hpl : ∀ (a : Addr) (q : List (Addr × Obj)), (backTo pos (starEach [e2] (X.suite a q).env)).any (·.1) = false := by intros; rfl) :
    PX X cs io (.Call (.Name x p) [e1, e2] [] pos) (fun fs ρ S => (F1 fs ρ S).bind fun u S => (F2 fs ρ S).bind fun w S => noErr (fF [u, w] S)) := fun a oe d pn c hc hz hd => by
  obtain ⟨t1, p1, d1⟩ := h1 a oe d pn c hc hz hd
  obtain ⟨t2, p2, d2⟩ := h2 a oe d pn c hc hz hd
  obtain ⟨hlen, hm, fd, FG, hbi, hk⟩ := F
  have pa := pa_cons p1 (pa_cons p2 pa_nil (hs2 a _)) (hs1 a _)
  refine ⟨fun σ H Q => t1 σ H fun v1 H1 => t2 σ H1 fun v2 H2 => spD X.K ps.length fF [v1, v2] H2 Q (fun _ _ _ => False), ⟨fun pins s σ H Q I h => ?_⟩, fun fs P ι G σ0 S H ρ Q s r hi ea post => ?_⟩
  · refine wpAny_Call_Name_kw (ld_glob I hg hm ?_ hdb)
    refine PySem.W.callWith_K (h₀ := X.base) I.ok.mod.kin hk (thn (pa.run pos pins s σ H (fun vs H1 => spD X.K ps.length fF vs H1 Q (fun _ _ _ => False)) I h) fun us s1 ⟨vs, H1, I1, rv, q⟩ => ⟨I1.kIn, ?_⟩) (hs1 a _) (hpl a _)
    have P1 := I1.pin (a, oe) (List.mem_append_left _ List.mem_cons_self)
    have hpin : L2H.PinOk (X.suite a ((a, oe) :: pn)).stack H1 s1 (a, oe) := ⟨P1.1, P1.2.1, fun hm => (List.mem_cons.mp (I1.stkSub a hm)).elim P1.2.2.1 P1.2.2.2.1, P1.2.2.2.2⟩
    have hl := FG.len _ _ _ _ q
    have bb := hbi s1 us I1.kIn (by rw [List.append_nil, ← rv.length]; exact hl)
    rw [List.append_nil] at bb
    have hrm : L2H.RoomH k (X.suite a ((a, oe) :: pn)).A := ⟨hr.dp, hr.un⟩
    refine wpAny_call (codeAny_mono (FG.run (X.suite a ((a, oe) :: pn)).A hA (X.suite a ((a, oe) :: pn)).stack s1 H1 ⟨us, []⟩ us vs Q _ (a, oe) hrm hpin I1.env0 bb rv q) fun r s' hq => ?_)
    match r, hq with
    | .error er, hq =>
      obtain ⟨_, _, _, _, _, _, _, _, _, _, _, _, z⟩ := hq
      exact z.elim
    | .ok (.ret u), hq => exact I1.after hq
  · refine d1 fs P ι G σ0 S H ρ _ s r hi ea (post.bind fun u S1 ι1 G1 H1 v q1 k1 s1 rv post1 => ?_)
    refine d2 fs P ι1 G1 σ0 S1 H1 ρ _ s1 (r.up q1 k1) hi (ea.ex k1) (post1.bind fun w S2 ι2 G2 H2 v2 q2 k2 s2 rv2 post2 => ?_)
    exact call_post (Wx := fun _ _ _ _ => False) (σ := []) hlen s2 (.cons (rv.up q2 k2) (.cons rv2 .nil)) (noErr_post post2)
end
end DL
set_option Elab.async false
set_option linter.all false
set_option maxRecDepth 100000
set_option maxHeartbeats 4000000
namespace KL
open PySem PySem.Spec PyProof.Rows L2
open He (ga ma)
open Evl (Ex Ev EvA EvT EvL EvU)
open TL (tl)
def top (i : Nat) : Stmt := PySem.Challenge.pw_whichmatch_k02_layouts_made.main.body.getD i (.Pass ⟨0, 0, 0, 0⟩)
abbrev s_wall : Stmt := top 0
abbrev s_BadName___init__ : Stmt := inClass (top 3) 0
abbrev s_Twice___init__ : Stmt := inClass (top 4) 0
abbrev s_BadKey___init__ : Stmt := inClass (top 5) 0
abbrev s_BadReference___init__ : Stmt := inClass (top 6) 0
abbrev s_NoColumn___init__ : Stmt := inClass (top 7) 0
abbrev s_TooMany___init__ : Stmt := inClass (top 8) 0
abbrev s_place_in : Stmt := top 12
abbrev s_is_name : Stmt := top 13
abbrev s_first_twice : Stmt := top 17
abbrev s_are_columns : Stmt := top 18
abbrev s_is_reference : Stmt := top 19
abbrev s_Layout___init__ : Stmt := inClass (top 20) 0
abbrev s_Layout_place : Stmt := inClass (top 20) 1
abbrev s_Layout_values_in : Stmt := inClass (top 20) 2
abbrev s_Layout_key_of : Stmt := inClass (top 20) 3
abbrev s_Layout_is_row : Stmt := inClass (top 20) 4
abbrev s_Layout_is_key : Stmt := inClass (top 20) 5
abbrev s_Layout___add__ : Stmt := inClass (top 20) 6
abbrev s_Layout___eq__ : Stmt := inClass (top 20) 7
abbrev s_law_bag : Stmt := top 22
abbrev s_law_take : Stmt := top 23
abbrev s_law_of : Stmt := top 24
abbrev s_law_picked : Stmt := top 25
abbrev s_law_name : Stmt := top 26
abbrev s_law_keys : Stmt := top 27
abbrev s_law_layout : Stmt := top 28
abbrev s_law_odd : Stmt := top 29
abbrev s_law_same : Stmt := top 30
abbrev s_law_made : Stmt := top 31
abbrev s_law_attributes : Stmt := top 32
abbrev s_law_is_it : Stmt := top 33
abbrev s_law_changed : Stmt := top 34
abbrev s_law_no_column : Stmt := top 35
abbrev s_law_is_right : Stmt := top 36
abbrev s_law : Stmt := top 37
def errN : List Str := ["BadName", "Twice", "BadKey", "BadReference", "NoColumn", "TooMany"]
def errFs : List Str := ["name", "index", "column", "limit"]
structure Txt (P : Program) (K : PySem.W.Frag) (mg : Str → Option Value) : Prop where
  m_all : mg "all" = none
  m_enumerate : mg "enumerate" = none
  m_range : mg "range" = none
  m_len : mg "len" = none
  m_tuple : mg "tuple" = none
  m_abs : mg "abs" = none
  m_int : mg "int" = none
  m_list : mg "list" = none
  m_max : mg "max" = none
  m_isinstance : mg "isinstance" = none
  m_str : mg "str" = none
  m_set : mg "set" = none
  m_sorted : mg "sorted" = none
  m_repr : mg "repr" = none
  m_min : mg "min" = none
  c_LETTERS : ∃ u, mg "LETTERS" = some u ∧ RelV (.str "abcdefghijklmnopqrstuvwxyz") u
  c_MOST_LETTERS : ∃ u, mg "MOST_LETTERS" = some u ∧ RelV (.int 8) u
  c_MOST_COLUMNS : ∃ u, mg "MOST_COLUMNS" = some u ∧ RelV (.int 5) u
  c_MOST_REFERENCES : ∃ u, mg "MOST_REFERENCES" = some u ∧ RelV (.int 2) u
  g_WhichError : mg "WhichError" = some (.ref (ga K "WhichError"))
  g_Layout : mg "Layout" = some (.ref (ga K "Layout"))
  n_BadName : PySem.WErr.ErrTxtN P K mg "BadName" ["name"] (ga K "BadName") (WH.iAd K "BadName")
  n_Twice : PySem.WErr.ErrTxtN P K mg "Twice" ["name"] (ga K "Twice") (WH.iAd K "Twice")
  n_BadKey : PySem.WErr.ErrTxtN P K mg "BadKey" ["index"] (ga K "BadKey") (WH.iAd K "BadKey")
  n_BadReference : PySem.WErr.ErrTxtN P K mg "BadReference" ["index"] (ga K "BadReference") (WH.iAd K "BadReference")
  n_NoColumn : PySem.WErr.ErrTxtN P K mg "NoColumn" ["column"] (ga K "NoColumn") (WH.iAd K "NoColumn")
  n_TooMany : PySem.WErr.ErrTxtN P K mg "TooMany" ["limit"] (ga K "TooMany") (WH.iAd K "TooMany")
  e_BadName : PySem.WErr.ErrTxt P K mg "BadName" "name" (ga K "BadName") (WH.iAd K "BadName")
  e_Twice : PySem.WErr.ErrTxt P K mg "Twice" "name" (ga K "Twice") (WH.iAd K "Twice")
  e_BadKey : PySem.WErr.ErrTxt P K mg "BadKey" "index" (ga K "BadKey") (WH.iAd K "BadKey")
  e_BadReference : PySem.WErr.ErrTxt P K mg "BadReference" "index" (ga K "BadReference") (WH.iAd K "BadReference")
  e_NoColumn : PySem.WErr.ErrTxt P K mg "NoColumn" "column" (ga K "NoColumn") (WH.iAd K "NoColumn")
  e_TooMany : PySem.WErr.ErrTxt P K mg "TooMany" "limit" (ga K "TooMany") (WH.iAd K "TooMany")
  exm : ∀ x ∈ errN, ∀ y ∈ errN, PySem.W.exmOne K (.ref (ga K x)) (.ref (ga K y)) = some (x == y)
  exmW : ∀ x ∈ errN, PySem.W.exmOne K (.ref (ga K x)) (.ref (ga K "WhichError")) = some true
  xfc : ∀ x ∈ errN, XfC K (ga K x)
  fnd : ∀ x ∈ errN, ∀ f ∈ errFs, PySem.W.findIn K (.ref (ga K x)) f = some none
  cls_Layout : Cls K (ga K "Layout")
  mk_Layout : Mk K (ga K "Layout") (ma K (ga K "Layout") "__init__")
  na_Layout_name : NoAttr K (ga K "Layout") "name"
  na_Layout_columns : NoAttr K (ga K "Layout") "columns"
  na_Layout_all_keys : NoAttr K (ga K "Layout") "all_keys"
  na_Layout_key : NoAttr K (ga K "Layout") "key"
  na_Layout_refers : NoAttr K (ga K "Layout") "refers"
  I_Layout : ∃ fd, FunD K "__init__" "Layout.__init__" (defArgs s_Layout___init__) (defBody s_Layout___init__) (defScope s_Layout___init__) [] [("keys", V.ref (WH.kwAt "Layout" "keys" K)), ("refers", V.ref (WH.kwAt "Layout" "refers" K))] (ma K (ga K "Layout") "__init__") fd
  me_Layout_place : Meth K (ga K "Layout") "place" (ma K (ga K "Layout") "place")
  F_Layout_place : MtF K "place" "Layout.place" s_Layout_place (ma K (ga K "Layout") "place")
  me_Layout___add__ : Meth K (ga K "Layout") "__add__" (ma K (ga K "Layout") "__add__")
  F_Layout___add__ : MtF K "__add__" "Layout.__add__" s_Layout___add__ (ma K (ga K "Layout") "__add__")
  me_Layout___eq__ : Meth K (ga K "Layout") "__eq__" (ma K (ga K "Layout") "__eq__")
  F_Layout___eq__ : MtF K "__eq__" "Layout.__eq__" s_Layout___eq__ (ma K (ga K "Layout") "__eq__")
  plus_Layout : DL.PlusOk K (ga K "Layout") (ma K (ga K "Layout") "__add__")
  eq_Layout : DL.EqOk K (ga K "Layout") (ma K (ga K "Layout") "__eq__")
  isi_Layout : DL.IsiOk K "Layout"
  emp_Layout_keys : DL.EmpT K (WH.kwAt "Layout" "keys" K)
  emp_Layout_refers : DL.EmpT K (WH.kwAt "Layout" "refers" K)
  F_place_in : FnF K mg "place_in" s_place_in
  F_is_name : FnF K mg "is_name" s_is_name
  F_first_twice : FnF K mg "first_twice" s_first_twice
  F_are_columns : FnF K mg "are_columns" s_are_columns
  F_is_reference : FnF K mg "is_reference" s_is_reference
  F_law_bag : FnF K mg "_law_bag" s_law_bag
  F_law_take : FnF K mg "_law_take" s_law_take
  F_law_of : FnF K mg "_law_of" s_law_of
  F_law_picked : FnF K mg "_law_picked" s_law_picked
  F_law_name : FnF K mg "_law_name" s_law_name
  F_law_keys : FnF K mg "_law_keys" s_law_keys
  F_law_layout : FnF K mg "_law_layout" s_law_layout
  F_law_odd : FnF K mg "_law_odd" s_law_odd
  F_law_same : FnF K mg "_law_same" s_law_same
  F_law_made : FnF K mg "_law_made" s_law_made
  F_law_attributes : FnF K mg "_law_attributes" s_law_attributes
  F_law_is_it : FnF K mg "_law_is_it" s_law_is_it
  F_law_changed : FnF K mg "_law_changed" s_law_changed
  F_law_no_column : FnF K mg "_law_no_column" s_law_no_column
  F_law_is_right : FnF K mg "_law_is_right" s_law_is_right
  F_law : FnF K mg "law" s_law
end KL
set_option Elab.async false
set_option linter.all false
set_option maxRecDepth 100000
set_option maxHeartbeats 4000000
namespace KL
open PySem PySem.Spec PyProof.Rows L2 DL
open He (ga ma)
open TL (tl)
def nameB (l : List Nat) : Bool := (decide (1 ≤ l.length) && decide (l.length ≤ 8)) && l.all fun c => decide (c ∈ tl abc)
theorem nameB_iff {l : List Nat} : nameB l = true ↔ NameL l := by
  unfold nameB NameL
  rw [Bool.and_eq_true, Bool.and_eq_true, decide_eq_true_iff, decide_eq_true_iff, List.all_eq_true]
  constructor
  · rintro ⟨⟨a, b⟩, c⟩
    exact ⟨a, b, fun x hx => abc_mem (of_decide_eq_true (c x hx))⟩
  · rintro ⟨a, b, c⟩
    exact ⟨⟨a, b⟩, fun x hx => decide_eq_true (abc_in (c x hx))⟩
def nameD : D → Bool
  | .str z => nameB (tl z)
  | _ => false
/-- plain at its top, not too long -/
def topD : D → Prop
  | .str z => z.length ≤ sizeLine
  | .obj _ _ => False
  | .ty _ => False
  | .cls _ => False
  | _ => True
noncomputable def isNameF (u : U) (S : Store) : Res U := match u with
  | .d x => pre (topD x) (.ok (.d (.bl (nameD x))) S)
  | .r _ => .bad
theorem all_bools (l : List Nat) (p : Nat → Bool) : boolsD (l.map fun c => D.bl (p c)) = some (l.map p) := by
  have := boolsD_map (l.map p)
  rwa [List.map_map] at this
section
variable {P : Program} {w : World} {K : PySem.W.Frag} {mg : Str → Option Value} {base : Heap}
theorem sc_is_name : FnScope ["thing", "letter"] ["thing"] (defScope s_is_name) := ⟨rfl, rfl, rfl, by decide +kernel, rfl, by decide +kernel, by decide +kernel⟩
theorem dk_is_name (T : Txt P K mg) : FM P w K mg base 1 "is_name" ["thing"] (F1 isNameF) := by
  refine okM T.F_is_name sc_is_name (fun _ _ _ _ _ _ us hl => match us, hl with | [_], _ => rfl) F1.len (fun cdv A outer s H E hA hr => (pdss_cons (pds_if (PDW.pt (pdw_or (pdt_not (pdt_truth (pd_callB cd_isi T.m_isinstance (pda_cons (pd_pv 0 (pv 0)) (pda_cons (pd_ty (n := "str") T.m_str) pda_nil))))) (pdw_or1 (pdt_not (pdt_chain od_le od_le pd_int (pd_callB cd_len T.m_len (pda_cons (pd_pv 0 (pv 0)) pda_nil)) (pd_gv T.c_MOST_LETTERS (fun _ => .int _))))))) (pdss_one (pds_ret pd_bl)) pdss_nil)
  (pdss_one (pds_ret (pd_callB (cd_all rfl) T.m_all (pda_cons (pd_lc (own := [("letter", 1)]) rfl sc_is_name.nd (pdi_any (pd_pv 0 (pv 0))) (blkOk_by (own := [("letter", 1)]) (N := ["thing", "letter"]) (sc := defScope s_is_name) (by decide +kernel)) (by decide) (fun _ _ _ _ _ => (pdg_name (i := 1) sc_is_name.nd rfl (by first | exact Or.inl rfl | exact Or.inr rfl))) (fun _ _ _ _ _ => pdts_nil) (fun _ _ _ _ _ => (pd_cmp (od_in hr) (pd_pv 1 (pv 1)) (pd_gv T.c_LETTERS (fun _ => .str _)) (by rfl)))) pda_nil)))))) (fun us S hl => ?_)
  match us, hl with
  | [.r _], _ => exact .bad _
  | [.d x], _ =>
    refine pre_ref fun hx => ref_eq ?_
    show bodyR _ = _
    rw [show startE (["thing", "letter"] : List Str).length [U.d x] = [some (.d x), none] from rfl]
    cases x with
    | str z =>
      have hz : z.length ≤ sizeLine := hx
      have hl : lenU (.d (.str z)) S = .ok (.d (.int z.length)) S := if_pos hz
      simp only [bind_ok, bind_err, bind_bad, fl_ok, fl_err, fl_bad, seq_nx, seq_rt, seq_err, seq_bk, seq_ct, seq_bad, bodyR_rt, bodyR_nx, bodyR_err, asB_bl, tru_bl, iff_f, iff_t, leU_int, ltU_int, gtU_int, geU_int, subU_int, addU_int, eqU_int, neU_int, tuple_two, mkE_one, len_tup, len_lst, c1_one, c2_two, rd0, rdS, norm_d, dat_d, gFl_none, gRs_none, List.set_cons_zero, List.set_cons_succ, Bool.not_true, Bool.not_false, Bool.false_eq_true, ↓reduceIte, isiU, isTy_str, hl]
      have hlen : z.length = (tl z).length := TL.len_tl z
      by_cases h1 : 1 ≤ z.length
      · rw [decide_eq_true (show (1 : Int) ≤ (z.length : Int) by omega)]
        simp only [bind_ok, bind_err, bind_bad, fl_ok, fl_err, fl_bad, seq_nx, seq_rt, seq_err, seq_bk, seq_ct, seq_bad, bodyR_rt, bodyR_nx, bodyR_err, asB_bl, tru_bl, iff_f, iff_t, leU_int, ltU_int, gtU_int, geU_int, subU_int, addU_int, eqU_int, neU_int, tuple_two, mkE_one, len_tup, len_lst, c1_one, c2_two, rd0, rdS, norm_d, dat_d, gFl_none, gRs_none, List.set_cons_zero, List.set_cons_succ, Bool.not_true, Bool.not_false, Bool.false_eq_true, ↓reduceIte]
        by_cases h8 : z.length ≤ 8
        · rw [decide_eq_true (show (z.length : Int) ≤ 8 by omega)]
          simp only [bind_ok, bind_err, bind_bad, fl_ok, fl_err, fl_bad, seq_nx, seq_rt, seq_err, seq_bk, seq_ct, seq_bad, bodyR_rt, bodyR_nx, bodyR_err, asB_bl, tru_bl, iff_f, iff_t, leU_int, ltU_int, gtU_int, geU_int, subU_int, addU_int, eqU_int, neU_int, tuple_two, mkE_one, len_tup, len_lst, c1_one, c2_two, rd0, rdS, norm_d, dat_d, gFl_none, gRs_none, List.set_cons_zero, List.set_cons_succ, Bool.not_true, Bool.not_false, Bool.false_eq_true, ↓reduceIte, iterU]
          rw [lcU_map (fun u => match u with | .d (.str y) => .d (.bl (decide ((tl y).headD 0 ∈ tl abc))) | u => u) _ []]
          · simp only [bind_ok, bind_err, bind_bad, fl_ok, fl_err, fl_bad, seq_nx, seq_rt, seq_err, seq_bk, seq_ct, seq_bad, bodyR_rt, bodyR_nx, bodyR_err, asB_bl, tru_bl, iff_f, iff_t, leU_int, ltU_int, gtU_int, geU_int, subU_int, addU_int, eqU_int, neU_int, tuple_two, mkE_one, len_tup, len_lst, c1_one, c2_two, rd0, rdS, norm_d, dat_d, gFl_none, gRs_none, List.set_cons_zero, List.set_cons_succ, Bool.not_true, Bool.not_false, Bool.false_eq_true, ↓reduceIte, List.nil_append, List.map_map]
            have e1 : (tl z).map ((fun u => match u with | U.d (.str y) => U.d (.bl (decide ((tl y).headD 0 ∈ tl abc))) | u => u) ∘ fun c => U.d (.str ⟨#[c]⟩)) = ((tl z).map fun c => D.bl (decide (c ∈ tl abc))).map U.d := by
              rw [List.map_map]; rfl
            rw [e1]
            unfold mkL
            rw [allD_map]
            simp only [List.length_map]
            rw [if_pos (by omega)]
            simp only [bind_ok, bind_err, bind_bad, fl_ok, fl_err, fl_bad, seq_nx, seq_rt, seq_err, seq_bk, seq_ct, seq_bad, bodyR_rt, bodyR_nx, bodyR_err, asB_bl, tru_bl, iff_f, iff_t, leU_int, ltU_int, gtU_int, geU_int, subU_int, addU_int, eqU_int, neU_int, tuple_two, mkE_one, len_tup, len_lst, c1_one, c2_two, rd0, rdS, norm_d, dat_d, gFl_none, gRs_none, List.set_cons_zero, List.set_cons_succ, Bool.not_true, Bool.not_false, Bool.false_eq_true, ↓reduceIte, allU]
            rw [all_bools]
            simp only [bind_ok, bind_err, bind_bad, fl_ok, fl_err, fl_bad, seq_nx, seq_rt, seq_err, seq_bk, seq_ct, seq_bad, bodyR_rt, bodyR_nx, bodyR_err, asB_bl, tru_bl, iff_f, iff_t, leU_int, ltU_int, gtU_int, geU_int, subU_int, addU_int, eqU_int, neU_int, tuple_two, mkE_one, len_tup, len_lst, c1_one, c2_two, rd0, rdS, norm_d, dat_d, gFl_none, gRs_none, List.set_cons_zero, List.set_cons_succ, Bool.not_true, Bool.not_false, Bool.false_eq_true, ↓reduceIte, nameD, nameB]
            rw [decide_eq_true (show 1 ≤ (tl z).length by omega), decide_eq_true (show (tl z).length ≤ 8 by omega), List.all_map]
            rfl
          · intro u hu
            obtain ⟨c, hc, rfl⟩ := List.mem_map.mp hu
            exact ⟨_, rfl, rfl⟩
          · rw [List.length_map]; show 0 + (tl z).length ≤ sizeLine; omega
        · rw [decide_eq_false (show ¬ (z.length : Int) ≤ 8 by omega)]
          simp only [bind_ok, bind_err, bind_bad, fl_ok, fl_err, fl_bad, seq_nx, seq_rt, seq_err, seq_bk, seq_ct, seq_bad, bodyR_rt, bodyR_nx, bodyR_err, asB_bl, tru_bl, iff_f, iff_t, leU_int, ltU_int, gtU_int, geU_int, subU_int, addU_int, eqU_int, neU_int, tuple_two, mkE_one, len_tup, len_lst, c1_one, c2_two, rd0, rdS, norm_d, dat_d, gFl_none, gRs_none, List.set_cons_zero, List.set_cons_succ, Bool.not_true, Bool.not_false, Bool.false_eq_true, ↓reduceIte, nameD, nameB]
          rw [decide_eq_false (show ¬ (tl z).length ≤ 8 by omega), Bool.and_false, Bool.false_and]
      · rw [decide_eq_false (show ¬ (1 : Int) ≤ (z.length : Int) by omega)]
        simp only [bind_ok, bind_err, bind_bad, fl_ok, fl_err, fl_bad, seq_nx, seq_rt, seq_err, seq_bk, seq_ct, seq_bad, bodyR_rt, bodyR_nx, bodyR_err, asB_bl, tru_bl, iff_f, iff_t, leU_int, ltU_int, gtU_int, geU_int, subU_int, addU_int, eqU_int, neU_int, tuple_two, mkE_one, len_tup, len_lst, c1_one, c2_two, rd0, rdS, norm_d, dat_d, gFl_none, gRs_none, List.set_cons_zero, List.set_cons_succ, Bool.not_true, Bool.not_false, Bool.false_eq_true, ↓reduceIte, nameD, nameB]
        rw [decide_eq_false (show ¬ 1 ≤ (tl z).length by omega), Bool.false_and, Bool.false_and]
    | obj _ _ => exact hx.elim
    | ty _ => exact hx.elim
    | cls _ => exact hx.elim
    | _ => simp only [bind_ok, bind_err, bind_bad, fl_ok, fl_err, fl_bad, seq_nx, seq_rt, seq_err, seq_bk, seq_ct, seq_bad, bodyR_rt, bodyR_nx, bodyR_err, asB_bl, tru_bl, iff_f, iff_t, leU_int, ltU_int, gtU_int, geU_int, subU_int, addU_int, eqU_int, neU_int, tuple_two, mkE_one, len_tup, len_lst, c1_one, c2_two, rd0, rdS, norm_d, dat_d, gFl_none, gRs_none, List.set_cons_zero, List.set_cons_succ, Bool.not_true, Bool.not_false, Bool.false_eq_true, ↓reduceIte, isiU, isTy_str, nameD]
end
end KL
set_option Elab.async false
set_option linter.all false
set_option maxRecDepth 100000
set_option maxHeartbeats 4000000
namespace KL
open PySem PySem.Spec PyProof.Rows L2 DL
open He (ga ma)
open TL (tl)
/-- the first of some texts that stands ahead of itself -/
def twF (pre : List Str) : List Str → Option Str
  | [] => none
  | x :: r => if x ∈ pre then some x else twF (pre ++ [x]) r
def twS (xs : List Str) : Option Str := twF [] xs
def optD : Option Str → D
  | none => .non
  | some z => .str z
/-- a list or a tuple of these texts -/
def SeqS (x : D) (zs : List Str) : Prop := x = .lst (zs.map .str) ∨ x = .tup (zs.map .str)
noncomputable def firstTwiceF (u : U) (S : Store) : Res U := match txtsU u S with
  | some zs => pre ((∀ z ∈ zs, Asc z) ∧ LstU S (zs.map .str) u) (.ok (.d (optD (twS zs))) S)
  | none => .bad
def colsD (d : D) (cols : List Str) : Bool := match d with
  | .tup ds => match strsD ds with
    | some zs => !zs.isEmpty && (zs.all (fun z => decide (z ∈ cols)) && decide zs.Nodup)
    | none => false
  | _ => false
def refD (d : D) (cols : List Str) : Bool := match d with
  | .tup [a, b] => colsD a cols && nameD b
  | _ => false
section
variable {P : Program} {w : World} {K : PySem.W.Frag} {mg : Str → Option Value} {base : Heap}
theorem sc_first_twice : FnScope ["names", "index", "name"] ["names"] (defScope s_first_twice) := ⟨rfl, rfl, rfl, by decide +kernel, rfl, by decide +kernel, by decide +kernel⟩
theorem dk_first_twice (T : Txt P K mg) : FM P w K mg base 1 "first_twice" ["names"] (F1 firstTwiceF) := by
  refine okM T.F_first_twice sc_first_twice (fun _ _ _ _ _ _ us hl => match us, hl with | [_], _ => rfl) F1.len (fun cdv A outer s H E hA hr => (pdss_cons (pds_for (passes_of rfl) rfl (pdi_enum T.m_enumerate (pda_cons (pd_pv 0 (pv 0)) pda_nil)) (pdg_tup (n := 2) rfl (pdgs_cons (fun _ _ _ _ _ h => h) (pdg_name (i := 1) sc_first_twice.nd rfl (by first | exact Or.inl rfl | exact Or.inr rfl)) (pdgs_cons (fun _ _ _ _ _ h => h) (pdg_name (i := 2) sc_first_twice.nd rfl (by first | exact Or.inl rfl | exact Or.inr rfl)) pdgs_nil))) (pdss_one (pds_if (pdt_cmp (od_in hr) (pd_pv 2 (pv 2)) (pd_sl sld (pd_pv 0 (pv 0)) pdo_none (pdo_some (pd_pv 1 (pv 1)))) (by rfl)) (pdss_one (pds_ret (pd_pv 2 (pv 2)))) pdss_nil)))
  (pdss_one (pds_ret pd_non)))) (fun us S hl => ?_)
  match us, hl with
  | [u], _ =>
    show Refines S (firstTwiceF u S) _
    unfold firstTwiceF
    split
    · rename_i zs hz
      refine pre_ref fun ⟨ha, hu⟩ => ref_eq ?_
      rw [show startE (["names", "index", "name"] : List Str).length [u] = [some u, none, none] from rfl]
      obtain ⟨g, he, hg⟩ := hu.enum
      simp only [bind_ok, bind_err, bind_bad, fl_ok, fl_err, fl_bad, seq_nx, seq_rt, seq_err, seq_bk, seq_ct, seq_bad, bodyR_rt, bodyR_nx, bodyR_err, asB_bl, tru_bl, iff_f, iff_t, leU_int, ltU_int, gtU_int, geU_int, subU_int, addU_int, eqU_int, neU_int, tuple_two, mkE_one, len_tup, len_lst, c1_one, c2_two, rd0, rdS, norm_d, dat_d, gFl_none, gRs_none, List.set_cons_zero, List.set_cons_succ, Bool.not_true, Bool.not_false, Bool.false_eq_true, ↓reduceIte, enumA, hu.norm, he]
      refine loopG (K := fun f => bodyR (f.seq _) = _) (I := fun us ρ S' => S' = S ∧ ∃ (pr rest : List Str) (v1 v2 : Option U), us = enumN pr.length (rest.map .str) ∧ pr ++ rest = zs ∧ twF [] zs = twF pr rest ∧ ρ = [some u, v1, v2]) ?_ ?_ ?_ ?_
      · rintro us ρ S' ⟨rfl, _⟩
        exact hg _ hu
      · rintro t us ρ S' ⟨rfl, pr, rest, v1, v2, hus, hpr, htw, rfl⟩
        cases rest with
        | nil => rw [List.map_nil, enumN_nil] at hus; cases hus
        | cons z rest =>
          rw [List.map_cons, enumN_cons] at hus
          simp only [List.cons.injEq] at hus
          obtain ⟨rfl, rfl⟩ := hus
          refine ⟨_, _, rfl, ?_⟩
          obtain ⟨y, hsl, hy⟩ := hu.sl none (some (pr.length : Int))
          have hc : cutL (zs.map D.str) none (some (pr.length : Int)) = pr.map .str := by
            rw [cut_to (by rw [List.length_map, ← hpr, List.length_append]; omega), ← List.map_take, ← hpr, List.take_left]
          rw [hc] at hy
          have hz' : Asc z := ha z (by rw [← hpr]; simp)
          have hpre : ∀ y ∈ pr, Asc y := fun y hy => ha y (by rw [← hpr]; exact List.mem_append_left _ hy)
          have hin : inU false (.d (.str z)) (.d y) S' = .ok (.d (.bl (decide (z ∈ pr)))) S' := by
            rcases hy with rfl | rfl
            · rw [in_lst hz' hpre]; rfl
            · rw [in_tup hz' hpre]; rfl
          simp only [bind_ok, bind_err, bind_bad, fl_ok, fl_err, fl_bad, seq_nx, seq_rt, seq_err, seq_bk, seq_ct, seq_bad, bodyR_rt, bodyR_nx, bodyR_err, asB_bl, tru_bl, iff_f, iff_t, leU_int, ltU_int, gtU_int, geU_int, subU_int, addU_int, eqU_int, neU_int, tuple_two, mkE_one, len_tup, len_lst, c1_one, c2_two, rd0, rdS, norm_d, dat_d, gFl_none, gRs_none, List.set_cons_zero, List.set_cons_succ, Bool.not_true, Bool.not_false, Bool.false_eq_true, ↓reduceIte, hu.norm, asI_int, hsl, hin]
          have htw' : twF [] zs = if z ∈ pr then some z else twF (pr ++ [z]) rest := htw
          by_cases hm : z ∈ pr
          · rw [if_pos hm] at htw'
            simp only [decide_eq_true hm, bind_ok, bind_err, bind_bad, fl_ok, fl_err, fl_bad, seq_nx, seq_rt, seq_err, seq_bk, seq_ct, seq_bad, bodyR_rt, bodyR_nx, bodyR_err, asB_bl, tru_bl, iff_f, iff_t, leU_int, ltU_int, gtU_int, geU_int, subU_int, addU_int, eqU_int, neU_int, tuple_two, mkE_one, len_tup, len_lst, c1_one, c2_two, rd0, rdS, norm_d, dat_d, gFl_none, gRs_none, List.set_cons_zero, List.set_cons_succ, Bool.not_true, Bool.not_false, Bool.false_eq_true, ↓reduceIte]
            unfold twS
            rw [htw']
            rfl
          · rw [if_neg hm] at htw'
            simp only [decide_eq_false hm, bind_ok, bind_err, bind_bad, fl_ok, fl_err, fl_bad, seq_nx, seq_rt, seq_err, seq_bk, seq_ct, seq_bad, bodyR_rt, bodyR_nx, bodyR_err, asB_bl, tru_bl, iff_f, iff_t, leU_int, ltU_int, gtU_int, geU_int, subU_int, addU_int, eqU_int, neU_int, tuple_two, mkE_one, len_tup, len_lst, c1_one, c2_two, rd0, rdS, norm_d, dat_d, gFl_none, gRs_none, List.set_cons_zero, List.set_cons_succ, Bool.not_true, Bool.not_false, Bool.false_eq_true, ↓reduceIte]
            exact ⟨trivial, pr ++ [z], rest, _, _, by rw [List.length_append]; rfl, by rw [List.append_assoc]; exact hpr, htw', rfl⟩
      · rintro ρ S' ⟨rfl, pr, rest, v1, v2, hus, hpr, htw, rfl⟩
        have hr0 : rest = [] := by
          cases rest with
          | nil => rfl
          | cons _ _ => rw [List.map_cons, enumN_cons] at hus; cases hus
        subst hr0
        simp only [bind_ok, bind_err, bind_bad, fl_ok, fl_err, fl_bad, seq_nx, seq_rt, seq_err, seq_bk, seq_ct, seq_bad, bodyR_rt, bodyR_nx, bodyR_err, asB_bl, tru_bl, iff_f, iff_t, leU_int, ltU_int, gtU_int, geU_int, subU_int, addU_int, eqU_int, neU_int, tuple_two, mkE_one, len_tup, len_lst, c1_one, c2_two, rd0, rdS, norm_d, dat_d, gFl_none, gRs_none, List.set_cons_zero, List.set_cons_succ, Bool.not_true, Bool.not_false, Bool.false_eq_true, ↓reduceIte]
        unfold twS
        rw [htw]
        rfl
      · exact ⟨rfl, [], zs, _, _, rfl, rfl, rfl, rfl⟩
    · exact .bad _
/-- what are_columns asks -/
structure ColsPre (x y : D) (cols : List Str) : Prop where
  top : topD x
  sq : SeqS y cols
  asc : ∀ z ∈ cols, Asc z
  few : ∀ ds, x = .tup ds → ds.length ≤ 1000
  tops : ∀ ds, x = .tup ds → ∀ d ∈ ds, topD d ∧ ∀ z, d = .str z → Asc z
noncomputable def areColsF (a b : U) (S : Store) : Res U := match a, b with
  | .d x, .d y => match txtsU (.d y) S with
    | some cols => pre (ColsPre x y cols) (.ok (.d (.bl (colsD x cols))) S)
    | none => .bad
  | _, _ => .bad
def colB (cols : List Str) : D → Bool
  | .str z => decide (z ∈ cols)
  | _ => false
theorem cols_strs {cols : List Str} : ∀ ds : List D, ds.all (colB cols) = match strsD ds with | some zs => zs.all fun z => decide (z ∈ cols) | none => false
  | [] => rfl
  | d :: t => by
    rw [List.all_cons, cols_strs t]
    cases d with
    | str z =>
      rw [show strsD (D.str z :: t) = (strsD t).map (z :: ·) from rfl]
      cases strsD t with
      | none => exact Bool.and_false _
      | some zs => rfl
    | _ => rfl
theorem in_seq {neg : Bool} {y : D} {x : Str} {zs : List Str} (sq : SeqS y zs) (hx : Asc x) (h : ∀ z ∈ zs, Asc z) (S : Store) : inU neg (.d (.str x)) (.d y) S = .ok (.d (.bl (inB neg (decide (x ∈ zs))))) S := by
  rcases sq with rfl | rfl
  · exact in_lst hx h S
  · exact in_tup hx h S
theorem sc_are_columns : FnScope ["thing", "columns", "column"] ["thing", "columns"] (defScope s_are_columns) := ⟨rfl, rfl, rfl, by decide +kernel, rfl, by decide +kernel, by decide +kernel⟩
theorem dk_are_columns (T : Txt P K mg) : FM P w K mg base 1 "are_columns" ["thing", "columns"] (F2 areColsF) := by
  refine okM T.F_are_columns sc_are_columns (fun _ _ _ _ _ _ us hl => match us, hl with | [_, _], _ => rfl) F2.len (fun cdv A outer s H E hA hr => (pdss_cons (pds_if (PDW.pt (pdw_or (pdt_not (pdt_truth (pd_callB cd_isi T.m_isinstance (pda_cons (pd_pv 0 (pv 0)) (pda_cons (pd_ty (n := "tuple") T.m_tuple) pda_nil))))) (pdw_or1 (pdt_not (pdt_truth (pd_pv 0 (pv 0))))))) (pdss_one (pds_ret pd_bl)) pdss_nil)
  (pdss_cons (pds_if (pdt_not (pdt_truth (pd_callB (cd_all rfl) T.m_all (pda_cons (pd_lc (own := [("column", 2)]) rfl sc_are_columns.nd (pdi_any (pd_pv 0 (pv 0))) (blkOk_by (own := [("column", 2)]) (N := ["thing", "columns", "column"]) (sc := defScope s_are_columns) (by decide +kernel)) (by decide) (fun _ _ _ _ _ => (pdg_name (i := 2) sc_are_columns.nd rfl (by first | exact Or.inl rfl | exact Or.inr rfl))) (fun _ _ _ _ _ => pdts_nil) (fun _ _ _ _ _ => (pd_and (pd_callB cd_isi T.m_isinstance (pda_cons (pd_pv 2 (pv 2)) (pda_cons (pd_ty (n := "str") T.m_str) pda_nil))) (pd_one (pd_cmp (od_in hr) (pd_pv 2 (pv 2)) (pd_pv 1 (pv 1)) (by rfl)))))) pda_nil)))) (pdss_one (pds_ret pd_bl)) pdss_nil)
  (pdss_one (pds_ret (pd_cmp (od_eq hr) (pd_lenSet T.m_len T.m_set (pd_pv 0 (pv 0))) (pd_callB cd_len T.m_len (pda_cons (pd_pv 0 (pv 0)) pda_nil)) (nomark _))))))) (fun us S hl => ?_)
  match us, hl with
  | [.r _, _], _ => exact .bad _
  | [.d _, .r _], _ => exact .bad _
  | [.d x, .d y], _ =>
    show Refines S (areColsF (.d x) (.d y) S) _
    unfold areColsF
    simp only
    split
    · rename_i cols hcols
      refine pre_ref fun hp => ref_eq ?_
      show bodyR _ = _
      rw [show startE (["thing", "columns", "column"] : List Str).length [U.d x, U.d y] = [some (.d x), some (.d y), none] from rfl]
      have htop := hp.top
      cases x with
      | obj _ _ => exact htop.elim
      | ty _ => exact htop.elim
      | cls _ => exact htop.elim
      | tup ds =>
        have hlen := hp.few ds rfl
        have htops := hp.tops ds rfl
        have ht : truU (.d (.tup ds)) S = .ok (!ds.isEmpty) S := rfl
        simp only [bind_ok, bind_err, bind_bad, fl_ok, fl_err, fl_bad, seq_nx, seq_rt, seq_err, seq_bk, seq_ct, seq_bad, bodyR_rt, bodyR_nx, bodyR_err, asB_bl, tru_bl, iff_f, iff_t, leU_int, ltU_int, gtU_int, geU_int, subU_int, addU_int, eqU_int, neU_int, tuple_two, mkE_one, len_tup, len_lst, c1_one, c2_two, rd0, rdS, norm_d, dat_d, gFl_none, gRs_none, List.set_cons_zero, List.set_cons_succ, Bool.not_true, Bool.not_false, Bool.false_eq_true, ↓reduceIte, isiU, isTy_tup, ht]
        cases hds : ds.isEmpty with
        | true =>
          simp only [bind_ok, bind_err, bind_bad, fl_ok, fl_err, fl_bad, seq_nx, seq_rt, seq_err, seq_bk, seq_ct, seq_bad, bodyR_rt, bodyR_nx, bodyR_err, asB_bl, tru_bl, iff_f, iff_t, leU_int, ltU_int, gtU_int, geU_int, subU_int, addU_int, eqU_int, neU_int, tuple_two, mkE_one, len_tup, len_lst, c1_one, c2_two, rd0, rdS, norm_d, dat_d, gFl_none, gRs_none, List.set_cons_zero, List.set_cons_succ, Bool.not_true, Bool.not_false, Bool.false_eq_true, ↓reduceIte]
          obtain rfl := List.isEmpty_iff.mp hds
          rfl
        | false =>
          simp only [bind_ok, bind_err, bind_bad, fl_ok, fl_err, fl_bad, seq_nx, seq_rt, seq_err, seq_bk, seq_ct, seq_bad, bodyR_rt, bodyR_nx, bodyR_err, asB_bl, tru_bl, iff_f, iff_t, leU_int, ltU_int, gtU_int, geU_int, subU_int, addU_int, eqU_int, neU_int, tuple_two, mkE_one, len_tup, len_lst, c1_one, c2_two, rd0, rdS, norm_d, dat_d, gFl_none, gRs_none, List.set_cons_zero, List.set_cons_succ, Bool.not_true, Bool.not_false, Bool.false_eq_true, ↓reduceIte, iterU]
          rw [lcU_map (fun u => match u with | .d d => .d (.bl (colB cols d)) | u => u) _ []]
          · have e1 : (ds.map U.d).map (fun u => match u with | .d d => U.d (.bl (colB cols d)) | u => u) = (ds.map fun d => D.bl (colB cols d)).map U.d := by
              rw [List.map_map, List.map_map]; rfl
            have e2 : boolsD (ds.map fun d => D.bl (colB cols d)) = some (ds.map (colB cols)) := by
              have := boolsD_map (ds.map (colB cols))
              rwa [List.map_map] at this
            simp only [bind_ok, bind_err, bind_bad, fl_ok, fl_err, fl_bad, seq_nx, seq_rt, seq_err, seq_bk, seq_ct, seq_bad, bodyR_rt, bodyR_nx, bodyR_err, asB_bl, tru_bl, iff_f, iff_t, leU_int, ltU_int, gtU_int, geU_int, subU_int, addU_int, eqU_int, neU_int, tuple_two, mkE_one, len_tup, len_lst, c1_one, c2_two, rd0, rdS, norm_d, dat_d, gFl_none, gRs_none, List.set_cons_zero, List.set_cons_succ, Bool.not_true, Bool.not_false, Bool.false_eq_true, ↓reduceIte, List.nil_append, e1, mkL, allD_map, List.length_map, sz10 hlen, if_true, allU, e2]
            have e3 : (ds.map (colB cols)).all id = ds.all (colB cols) := by rw [List.all_map]; rfl
            rw [e3, cols_strs]
            show _ = Res.ok (U.d (D.bl (match strsD ds with | some zs => !zs.isEmpty && (zs.all (fun z => decide (z ∈ cols)) && decide zs.Nodup) | none => false))) S
            cases hs : strsD ds with
            | none => simp only [bind_ok, bind_err, bind_bad, fl_ok, fl_err, fl_bad, seq_nx, seq_rt, seq_err, seq_bk, seq_ct, seq_bad, bodyR_rt, bodyR_nx, bodyR_err, asB_bl, tru_bl, iff_f, iff_t, leU_int, ltU_int, gtU_int, geU_int, subU_int, addU_int, eqU_int, neU_int, tuple_two, mkE_one, len_tup, len_lst, c1_one, c2_two, rd0, rdS, norm_d, dat_d, gFl_none, gRs_none, List.set_cons_zero, List.set_cons_succ, Bool.not_true, Bool.not_false, Bool.false_eq_true, ↓reduceIte]
            | some zs =>
              have hzl : zs.length = ds.length := by rw [strsD_eq hs, List.length_map]
              have hne : zs.isEmpty = false := by
                cases zs with
                | nil => rw [strsD_eq hs] at hds; cases hds
                | cons _ _ => rfl
              simp only [hne]
              rcases Bool.eq_false_or_eq_true (zs.all fun z => decide (z ∈ cols)) with hal | hal
              rotate_left
              · simp only [hal, bind_ok, bind_err, bind_bad, fl_ok, fl_err, fl_bad, seq_nx, seq_rt, seq_err, seq_bk, seq_ct, seq_bad, bodyR_rt, bodyR_nx, bodyR_err, asB_bl, tru_bl, iff_f, iff_t, leU_int, ltU_int, gtU_int, geU_int, subU_int, addU_int, eqU_int, neU_int, tuple_two, mkE_one, len_tup, len_lst, c1_one, c2_two, rd0, rdS, norm_d, dat_d, gFl_none, gRs_none, List.set_cons_zero, List.set_cons_succ, Bool.not_true, Bool.not_false, Bool.false_eq_true, ↓reduceIte, Bool.false_and, Bool.and_false]
              · have hls : lenSetU (.d (.tup ds)) S = .ok (.d (.int (WT.dcn zs zs.length : Nat))) S := by
                  unfold lenSetU
                  simp only [hs]
                  rw [if_pos (by omega)]
                simp only [hal, bind_ok, bind_err, bind_bad, fl_ok, fl_err, fl_bad, seq_nx, seq_rt, seq_err, seq_bk, seq_ct, seq_bad, bodyR_rt, bodyR_nx, bodyR_err, asB_bl, tru_bl, iff_f, iff_t, leU_int, ltU_int, gtU_int, geU_int, subU_int, addU_int, eqU_int, neU_int, tuple_two, mkE_one, len_tup, len_lst, c1_one, c2_two, rd0, rdS, norm_d, dat_d, gFl_none, gRs_none, List.set_cons_zero, List.set_cons_succ, Bool.not_true, Bool.not_false, Bool.false_eq_true, ↓reduceIte, hls, Bool.true_and]
                have hn := WT.dcn_iff zs _ (Nat.le_refl _)
                rw [List.take_length] at hn
                have : decide ((WT.dcn zs zs.length : Int) = (ds.length : Int)) = decide zs.Nodup := decide_eq_decide.mpr ⟨fun h => hn.mp (by omega), fun h => by have := hn.mpr h; omega⟩
                rw [this]
          · intro u hu
            obtain ⟨d, hd, rfl⟩ := List.mem_map.mp hu
            obtain ⟨h1, h2⟩ := htops d hd
            refine ⟨_, rfl, ?_⟩
            cases d with
            | obj _ _ => exact h1.elim
            | ty _ => exact h1.elim
            | cls _ => exact h1.elim
            | str z =>
              have hi := in_seq (neg := false) hp.sq (h2 z rfl) hp.asc S
              simp only [wipeE, List.map, bind_ok, bind_err, bind_bad, fl_ok, fl_err, fl_bad, seq_nx, seq_rt, seq_err, seq_bk, seq_ct, seq_bad, bodyR_rt, bodyR_nx, bodyR_err, asB_bl, tru_bl, iff_f, iff_t, leU_int, ltU_int, gtU_int, geU_int, subU_int, addU_int, eqU_int, neU_int, tuple_two, mkE_one, len_tup, len_lst, c1_one, c2_two, rd0, rdS, norm_d, dat_d, gFl_none, gRs_none, List.set_cons_zero, List.set_cons_succ, Bool.not_true, Bool.not_false, Bool.false_eq_true, ↓reduceIte, isiU, isTy_str, hi]
              rfl
            | _ => simp only [wipeE, List.map, bind_ok, bind_err, bind_bad, fl_ok, fl_err, fl_bad, seq_nx, seq_rt, seq_err, seq_bk, seq_ct, seq_bad, bodyR_rt, bodyR_nx, bodyR_err, asB_bl, tru_bl, iff_f, iff_t, leU_int, ltU_int, gtU_int, geU_int, subU_int, addU_int, eqU_int, neU_int, tuple_two, mkE_one, len_tup, len_lst, c1_one, c2_two, rd0, rdS, norm_d, dat_d, gFl_none, gRs_none, List.set_cons_zero, List.set_cons_succ, Bool.not_true, Bool.not_false, Bool.false_eq_true, ↓reduceIte, isiU, isTy_str]; rfl
          · rw [List.length_map]; show 0 + ds.length ≤ sizeLine; have := sz10 hlen; omega
      | _ => simp only [bind_ok, bind_err, bind_bad, fl_ok, fl_err, fl_bad, seq_nx, seq_rt, seq_err, seq_bk, seq_ct, seq_bad, bodyR_rt, bodyR_nx, bodyR_err, asB_bl, tru_bl, iff_f, iff_t, leU_int, ltU_int, gtU_int, geU_int, subU_int, addU_int, eqU_int, neU_int, tuple_two, mkE_one, len_tup, len_lst, c1_one, c2_two, rd0, rdS, norm_d, dat_d, gFl_none, gRs_none, List.set_cons_zero, List.set_cons_succ, Bool.not_true, Bool.not_false, Bool.false_eq_true, ↓reduceIte, isiU, isTy_tup, colsD]
    · exact .bad _
theorem txts_seq {y : D} {cols : List Str} (h : SeqS y cols) (S : Store) : txtsU (.d y) S = some cols := by
  rcases h with rfl | rfl <;> exact strsD_map cols
theorem cols_call {x y : D} {cols : List Str} (h : ColsPre x y cols) (S : Store) : areColsF (.d x) (.d y) S = .ok (.d (.bl (colsD x cols))) S := by
  unfold areColsF
  simp only [txts_seq h.sq]
  exact pre_pos h
theorem name_call {x : D} (h : topD x) (S : Store) : isNameF (.d x) S = .ok (.d (.bl (nameD x))) S := pre_pos h
structure RefPre (x y : D) (cols : List Str) : Prop where
  top : topD x
  sq : SeqS y cols
  asc : ∀ z ∈ cols, Asc z
  two : ∀ a b, x = .tup [a, b] → ColsPre a y cols ∧ topD b
noncomputable def isRefF (a b : U) (S : Store) : Res U := match a, b with
  | .d x, .d y => match txtsU (.d y) S with
    | some cols => pre (RefPre x y cols) (.ok (.d (.bl (refD x cols))) S)
    | none => .bad
  | _, _ => .bad
theorem ref_call {x y : D} {cols : List Str} (h : RefPre x y cols) (S : Store) : isRefF (.d x) (.d y) S = .ok (.d (.bl (refD x cols))) S := by
  unfold isRefF
  simp only [txts_seq h.sq]
  exact pre_pos h
theorem refD_ne {ds : List D} {cols : List Str} (h : ds.length ≠ 2) : refD (.tup ds) cols = false := by
  match ds, h with
  | [], _ => rfl
  | [_], _ => rfl
  | [_, _], h => exact absurd rfl h
  | _ :: _ :: _ :: _, _ => rfl
theorem F1_one (f : U → Store → Res U) (a : U) (S : Store) : F1 f [a] S = f a S := rfl
theorem F2_two (f : U → U → Store → Res U) (a b : U) (S : Store) : F2 f [a, b] S = f a b S := rfl
theorem sc_is_reference : FnScope ["thing", "columns"] ["thing", "columns"] (defScope s_is_reference) := ⟨rfl, rfl, rfl, by decide +kernel, rfl, by decide +kernel, by decide +kernel⟩
theorem dk_is_reference (T : Txt P K mg) : FM P w K mg base 2 "is_reference" ["thing", "columns"] (F2 isRefF) := by
  have F_are_columns : FM P w K mg base 1 "are_columns" ["thing", "columns"] (F2 areColsF) := dk_are_columns T
  have F_is_name : FM P w K mg base 1 "is_name" ["thing"] (F1 isNameF) := dk_is_name T
  refine okM T.F_is_reference sc_is_reference (fun _ _ _ _ _ _ us hl => match us, hl with | [_, _], _ => rfl) F2.len (fun cdv A outer s H E hA hr => (pdss_cons (pds_if (PDW.pt (pdw_or (pdt_not (pdt_truth (pd_callB cd_isi T.m_isinstance (pda_cons (pd_pv 0 (pv 0)) (pda_cons (pd_ty (n := "tuple") T.m_tuple) pda_nil))))) (pdw_or1 (pdt_cmp (od_ne hr) (pd_callB cd_len T.m_len (pda_cons (pd_pv 0 (pv 0)) pda_nil)) pd_int (nomark _))))) (pdss_one (pds_ret pd_bl)) pdss_nil)
  (pdss_one (pds_ret (pd_and (pd_call hA F_are_columns (hr.mono (by decide)) (takes_of rfl rfl rfl rfl) (pda_cons (pd_ix ixd (pd_pv 0 (pv 0)) pd_int) (pda_cons (pd_pv 1 (pv 1)) pda_nil))) (pd_one (pd_call hA F_is_name (hr.mono (by decide)) (takes_of rfl rfl rfl rfl) (pda_cons (pd_ix ixd (pd_pv 0 (pv 0)) pd_int) pda_nil)))))))) (fun us S hl => ?_)
  match us, hl with
  | [.r _, _], _ => exact .bad _
  | [.d _, .r _], _ => exact .bad _
  | [.d x, .d y], _ =>
    show Refines S (isRefF (.d x) (.d y) S) _
    unfold isRefF
    simp only
    split
    · rename_i cols hcols
      refine pre_ref fun hp => ref_eq ?_
      show bodyR _ = _
      rw [show startE (["thing", "columns"] : List Str).length [U.d x, U.d y] = [some (.d x), some (.d y)] from rfl]
      have htop := hp.top
      cases x with
      | obj _ _ => exact htop.elim
      | ty _ => exact htop.elim
      | cls _ => exact htop.elim
      | tup ds =>
        simp only [bind_ok, bind_err, bind_bad, fl_ok, fl_err, fl_bad, seq_nx, seq_rt, seq_err, seq_bk, seq_ct, seq_bad, bodyR_rt, bodyR_nx, bodyR_err, asB_bl, tru_bl, iff_f, iff_t, leU_int, ltU_int, gtU_int, geU_int, subU_int, addU_int, eqU_int, neU_int, tuple_two, mkE_one, len_tup, len_lst, c1_one, c2_two, rd0, rdS, norm_d, dat_d, gFl_none, gRs_none, List.set_cons_zero, List.set_cons_succ, Bool.not_true, Bool.not_false, Bool.false_eq_true, ↓reduceIte, isiU, isTy_tup]
        by_cases h2 : ds.length = 2
        · match ds, h2 with
          | [a, b], _ =>
            obtain ⟨h3, h4⟩ := hp.two a b rfl
            have i0 : ixU (.d (.tup [a, b])) (.d (.int 0)) S = .ok (.d a) S := rfl
            have i1 : ixU (.d (.tup [a, b])) (.d (.int 1)) S = .ok (.d b) S := rfl
            have hd : (!decide ((([a, b] : List D).length : Int) = 2)) = false := rfl
            simp only [hd, bind_ok, bind_err, bind_bad, fl_ok, fl_err, fl_bad, seq_nx, seq_rt, seq_err, seq_bk, seq_ct, seq_bad, bodyR_rt, bodyR_nx, bodyR_err, asB_bl, tru_bl, iff_f, iff_t, leU_int, ltU_int, gtU_int, geU_int, subU_int, addU_int, eqU_int, neU_int, tuple_two, mkE_one, len_tup, len_lst, c1_one, c2_two, rd0, rdS, norm_d, dat_d, gFl_none, gRs_none, List.set_cons_zero, List.set_cons_succ, Bool.not_true, Bool.not_false, Bool.false_eq_true, ↓reduceIte, i0, i1, F1_one, F2_two, cols_call h3, name_call h4]
            show _ = Res.ok (U.d (D.bl (colsD a cols && nameD b))) S
            cases colsD a cols <;> rfl
        · have hd : (!decide ((ds.length : Int) = 2)) = true := by rw [decide_eq_false (by omega)]; rfl
          simp only [hd, bind_ok, bind_err, bind_bad, fl_ok, fl_err, fl_bad, seq_nx, seq_rt, seq_err, seq_bk, seq_ct, seq_bad, bodyR_rt, bodyR_nx, bodyR_err, asB_bl, tru_bl, iff_f, iff_t, leU_int, ltU_int, gtU_int, geU_int, subU_int, addU_int, eqU_int, neU_int, tuple_two, mkE_one, len_tup, len_lst, c1_one, c2_two, rd0, rdS, norm_d, dat_d, gFl_none, gRs_none, List.set_cons_zero, List.set_cons_succ, Bool.not_true, Bool.not_false, Bool.false_eq_true, ↓reduceIte, refD_ne h2]
      | _ => simp only [bind_ok, bind_err, bind_bad, fl_ok, fl_err, fl_bad, seq_nx, seq_rt, seq_err, seq_bk, seq_ct, seq_bad, bodyR_rt, bodyR_nx, bodyR_err, asB_bl, tru_bl, iff_f, iff_t, leU_int, ltU_int, gtU_int, geU_int, subU_int, addU_int, eqU_int, neU_int, tuple_two, mkE_one, len_tup, len_lst, c1_one, c2_two, rd0, rdS, norm_d, dat_d, gFl_none, gRs_none, List.set_cons_zero, List.set_cons_succ, Bool.not_true, Bool.not_false, Bool.false_eq_true, ↓reduceIte, isiU, isTy_tup, refD]
    · exact .bad _
end
end KL
set_option Elab.async false
set_option linter.all false
set_option maxRecDepth 100000
set_option maxHeartbeats 4000000
namespace KL
open PySem PySem.Spec PyProof.Rows L2 DL
open He (ga ma)
open TL (tl)
def keyS : D → List Str
  | .tup ds => (strsD ds).getD []
  | _ => []
def keyF (cols : List Str) (met : List (List Str)) (i : Nat) : List D → Option Nat
  | [] => none
  | k :: r => if (!colsD k cols || met.any fun m => decide (m.Perm (keyS k))) = true then some i else keyF cols (met ++ [keyS k]) (i + 1) r
theorem keyF_cons (cols : List Str) (met : List (List Str)) (i : Nat) (k : D) (r : List D) : keyF cols met i (k :: r) = if (!colsD k cols || met.any fun m => decide (m.Perm (keyS k))) = true then some i else keyF cols (met ++ [keyS k]) (i + 1) r := rfl
def refF (cols : List Str) (i : Nat) : List D → Option Nat
  | [] => none
  | r :: t => if (!refD r cols) = true then some i else refF cols (i + 1) t
theorem refF_cons (cols : List Str) (i : Nat) (r : D) (t : List D) : refF cols i (r :: t) = if (!refD r cols) = true then some i else refF cols (i + 1) t := rfl
def colsOf (cs : List D) : List Str := (strsD cs).getD []
/-- the error that is due, its field, what it holds -/
def layD (n : D) (cs ks rs : List D) : Option (Str × Str × D) :=
  match (n :: cs).find? (fun d => !nameD d) with
  | some d => some ("BadName", "name", d)
  | none => match twS (colsOf cs) with
    | some z => some ("Twice", "name", .str z)
    | none => if 5 < cs.length then some ("TooMany", "limit", .int 5) else if 2 < rs.length then some ("TooMany", "limit", .int 2) else
      match keyF (colsOf cs) [] 0 ks with
      | some i => some ("BadKey", "index", .int i)
      | none => match refF (colsOf cs) 0 rs with
        | some i => some ("BadReference", "index", .int i)
        | none => none
def layF (n : D) (cs ks rs : List D) : List (Str × U) :=
  [("name", .d n), ("columns", .d (.tup cs)), ("all_keys", .d (.tup (if ks = [] then [.tup cs] else ks))), ("key", .d ((if ks = [] then [.tup cs] else ks).headD .non)), ("refers", .d (.tup rs))]
def seqOf : D → List D
  | .lst ds => ds
  | .tup ds => ds
  | _ => []
/-- a list or a tuple of these -/
def SeqD (x : D) (ds : List D) : Prop := x = .lst ds ∨ x = .tup ds
structure SeqN (x : D) : Prop where
  sq : SeqD x (seqOf x)
  ni : ∀ d ∈ seqOf x, niceD d = true
  le : (seqOf x).length ≤ 1000
structure LayPre (n c k r : D) : Prop where
  n : niceD n = true
  c : SeqN c
  k : SeqN k
  r : SeqN r
def layR (m : Nat) (n : D) (cs ks rs : List D) (S : Store) : Res U := match layD n cs ks rs with
  | some (e, f, d) => .err e [(f, d)] S
  | none => .ok (.d .non) (S.set m (.obj "Layout" (layF n cs ks rs)))
/-- a list, a tuple or a list that still changes: its data -/
def lstOf (u : U) (S : Store) : List D := match dat u S with
  | some (.lst ds) => ds
  | some (.tup ds) => ds
  | _ => []
theorem lst_of {S : Store} {ds : List D} {u : U} (h : LstU S ds u) : lstOf u S = ds := by
  unfold lstOf
  rcases h.datC with e | e <;> rw [e]
structure SeqNU (S : Store) (u : U) (ds : List D) : Prop where
  sq : LstU S ds u
  ni : ∀ d ∈ ds, niceD d = true
  le : ds.length ≤ 1000
structure LayPreU (S : Store) (n : D) (c k r : U) : Prop where
  n : niceD n = true
  c : SeqNU S c (lstOf c S)
  k : SeqNU S k (lstOf k S)
  r : SeqNU S r (lstOf r S)
noncomputable def initF (a n c k r : U) (S : Store) : Res U := match a, n with
  | .r m, .d n => pre (LayPreU S n c k r ∧ S[m]? = some (.obj "Layout" [])) (layR m n (lstOf c S) (lstOf k S) (lstOf r S) S)
  | _, _ => .bad
theorem SeqN.u {x : D} (h : SeqN x) (S : Store) : SeqNU S (.d x) (seqOf x) ∧ lstOf (.d x) S = seqOf x := by
  have e : LstU S (seqOf x) (.d x) := by
    have hs := h.sq
    generalize seqOf x = ds at hs
    rcases hs with rfl | rfl
    · exact .lst
    · exact .tup
  exact ⟨⟨e, h.ni, h.le⟩, lst_of e⟩
theorem init_call {S : Store} {m : Nat} {n : D} {c k r : U} {cs ks rs : List D} (hn : niceD n = true) (hc : SeqNU S c cs) (hk : SeqNU S k ks) (hr : SeqNU S r rs) (hS : S[m]? = some (.obj "Layout" [])) : initF (.r m) (.d n) c k r S = layR m n cs ks rs S := by
  have e1 := lst_of hc.sq
  have e2 := lst_of hk.sq
  have e3 := lst_of hr.sq
  have := pre_pos (r := layR m n (lstOf c S) (lstOf k S) (lstOf r S) S) (show LayPreU S n c k r ∧ S[m]? = some (.obj "Layout" []) from ⟨⟨hn, by rw [e1]; exact hc, by rw [e2]; exact hk, by rw [e3]; exact hr⟩, hS⟩)
  rw [show initF (.r m) (.d n) c k r S = pre (LayPreU S n c k r ∧ S[m]? = some (.obj "Layout" [])) (layR m n (lstOf c S) (lstOf k S) (lstOf r S) S) from rfl, this, e1, e2, e3]
theorem init_data {S : Store} {m : Nat} {n c k r : D} (h : LayPre n c k r) (hS : S[m]? = some (.obj "Layout" [])) : initF (.r m) (.d n) (.d c) (.d k) (.d r) S = layR m n (seqOf c) (seqOf k) (seqOf r) S :=
  init_call h.n (h.c.u S).1 (h.k.u S).1 (h.r.u S).1 hS
theorem lst_setObj {S g : Store} {m : Nat} {ds : List D} {u : U} {c : Str} {fs : List (Str × U)} (h : LstU S ds u) (hm : S[m]? = some (.obj c fs)) (x : Cell) : LstU (S.set m x ++ g) ds u := by
  cases h with
  | lst => exact .lst
  | tup => exact .tup
  | @cell j e =>
    have hne : m ≠ j := fun z => by subst z; rw [hm] at e; cases e
    refine .cell ?_
    rw [List.getElem?_append_left (by rw [List.length_set]; exact (List.getElem?_eq_some_iff.mp e).1), List.getElem?_set_ne hne]
    exact e
theorem nice_top {d : D} (h : niceD d = true) : topD d := by
  cases d with
  | str z => exact sz10 (nice_str.mp h).2
  | obj _ _ => cases h
  | ty _ => cases h
  | cls _ => cases h
  | _ => trivial
theorem cols_pre {x y : D} {cols : List Str} (h : niceD x = true) (sq : SeqS y cols) (ha : ∀ z ∈ cols, Asc z) : ColsPre x y cols := by
  refine ⟨nice_top h, sq, ha, fun ds e => ?_, fun ds e d hd => ?_⟩
  · subst e; have := (nice_tup.mp h).1; omega
  · subst e
    have hn := (nice_tup.mp h).2 d hd
    exact ⟨nice_top hn, fun z e => by subst e; exact (nice_str.mp hn).1⟩
theorem ref_pre {x y : D} {cols : List Str} (h : niceD x = true) (sq : SeqS y cols) (ha : ∀ z ∈ cols, Asc z) : RefPre x y cols := by
  refine ⟨nice_top h, sq, ha, fun a b e => ?_⟩
  subst e
  have hn := (nice_tup.mp h).2
  exact ⟨cols_pre (hn a (by simp)) sq ha, nice_top (hn b (by simp))⟩
theorem colsD_tup {d : D} {cols : List Str} (h : colsD d cols = true) : ∃ zs : List Str, d = .tup (zs.map .str) ∧ keyS d = zs ∧ ∀ z ∈ zs, z ∈ cols := by
  cases d with
  | tup ds =>
    have h' : (match strsD ds with | some zs => !zs.isEmpty && (zs.all (fun z => decide (z ∈ cols)) && decide zs.Nodup) | none => false) = true := h
    cases hs : strsD ds with
    | none => rw [hs] at h'; cases h'
    | some zs =>
      rw [hs] at h'
      simp only [Bool.and_eq_true] at h'
      refine ⟨zs, by rw [strsD_eq hs], ?_, fun z hz => of_decide_eq_true (List.all_eq_true.mp h'.2.1 z hz)⟩
      show (strsD ds).getD [] = zs
      rw [hs]; rfl
  | _ => cases h
theorem sort_call {zs : List Str} (h : zs.length < 64) (S : Store) : sortU (.d (.tup (zs.map .str))) S = .ok (.d (.lst ((sortS zs).map .str))) S := by
  unfold sortU
  rw [dat_d]
  simp only [strsD_map]
  exact if_pos h
theorem at_new (S : Store) (c : Cell) : (S ++ [c])[S.length]? = some c := by rw [List.getElem?_append_right (Nat.le_refl _), Nat.sub_self]; rfl
theorem set_new (S : Store) (c c' : Cell) : (S ++ [c]).set S.length c' = S ++ [c'] := by rw [List.set_append_right _ _ (Nat.le_refl _), Nat.sub_self]; rfl
theorem at_old {S g : Store} {m : Nat} {c : Cell} (h : S[m]? = some c) : (S ++ g)[m]? = some c := by rw [List.getElem?_append_left (List.getElem?_eq_some_iff.mp h).1]; exact h
theorem set_old {S g : Store} {m : Nat} {c : Cell} (h : S[m]? = some c) (c' : Cell) : (S ++ g).set m c' = S.set m c' ++ g := List.set_append_left _ _ (List.getElem?_eq_some_iff.mp h).1
theorem shr_set {S : Store} {m : Nat} {c : Cell} (h : c.below S.length) : Shr S (S.set m c) := by
  refine ⟨List.length_set, fun n c' hc => ?_⟩
  by_cases hn : m = n
  · subst hn
    have hl : m < S.length := by have := (List.getElem?_eq_some_iff.mp hc).1; rwa [List.length_set] at this
    rw [List.getElem?_set_self hl] at hc
    obtain rfl := Option.some.inj hc
    exact .inr h
  · rw [List.getElem?_set_ne hn] at hc
    exact .inl hc
theorem norm_lst {S : Store} {n : Nat} {us : List U} (h : S[n]? = some (.lst us)) : norm S (.r n) = .r n := by simp only [norm, h]
theorem norm_obj {S : Store} {n : Nat} {c : Str} {fs : List (Str × U)} (h : S[n]? = some (.obj c fs)) : norm S (.r n) = .r n := by simp only [norm, h]
theorem norm_frz {S : Store} {n : Nat} {x : D} (h : S[n]? = some (.frz x)) : norm S (.r n) = .d x := by simp only [norm, h]
section
variable {P : Program} {w : World} {K : PySem.W.Frag} {mg : Str → Option Value} {base : Heap}
theorem sc_Layout___init__ : FnScope ["self", "name", "columns", "keys", "refers", "word", "twice", "found", "index", "key", "one", "reference"] ["self", "name", "columns", "keys", "refers"] (defScope s_Layout___init__) := ⟨rfl, rfl, rfl, by decide +kernel, rfl, by decide +kernel, by decide +kernel⟩
theorem dk_init (T : Txt P K mg) {fd : FuncData} {kws : List (Str × V)} (F : FunD K "__init__" "Layout.__init__" (defArgs s_Layout___init__) (defBody s_Layout___init__) (defScope s_Layout___init__) [] kws (ma K (ga K "Layout") "__init__") fd) :
    FnG P w K mg base (L2.CX P w) 3 (ma K (ga K "Layout") "__init__") fd ["self", "name", "columns", "keys", "refers"] (spD K 5 (F5 initF)) := by
  have F_is_name : FM P w K mg base 1 "is_name" ["thing"] (F1 isNameF) := dk_is_name T
  have F_first_twice : FM P w K mg base 1 "first_twice" ["names"] (F1 firstTwiceF) := dk_first_twice T
  have F_are_columns : FM P w K mg base 1 "are_columns" ["thing", "columns"] (F2 areColsF) := dk_are_columns T
  have F_is_reference : FM P w K mg base 2 "is_reference" ["thing", "columns"] (F2 isRefF) := dk_is_reference T
  refine okG (N := ["self", "name", "columns", "keys", "refers", "word", "twice", "found", "index", "key", "one", "reference"]) F sc_Layout___init__ (fun cdv A outer s H E hA hr => (pdss_cons (pds_for (passes_of rfl) rfl (pdi_any (pd_lst (pda_cons (pd_pv 1 (pv 1)) (pda_star (pd_pv 2 (pv 2)) pda_nil)))) (pdg_name (i := 5) sc_Layout___init__.nd rfl (by first | exact Or.inl rfl | exact Or.inr rfl)) (pdss_one (pds_if (pdt_not (pdt_truth (pd_call hA F_is_name (hr.mono (by decide)) (takes_of rfl rfl rfl rfl) (pda_cons (pd_pv 5 (pv 5)) pda_nil)))) (pdss_one (pds_raise rfl T.e_BadName hr (takes_of rfl rfl rfl rfl) (pda_cons (pd_pv 5 (pv 5)) pda_nil) (by rfl) (by decide) (fun h => ps_raiseErr rfl T.e_BadName hr (takes_of rfl rfl rfl rfl) h))) pdss_nil)))
  (pdss_cons (pds_set (i := 6) sc_Layout___init__.nd rfl (by first | exact Or.inl rfl | exact Or.inr rfl) (pd_call hA F_first_twice (hr.mono (by decide)) (takes_of rfl rfl rfl rfl) (pda_cons (pd_pv 2 (pv 2)) pda_nil)))
  (pdss_cons (pds_if (pdt_cmp od_isnot (pd_pv 6 (pv 6)) pd_non (nomark _)) (pdss_one (pds_raise rfl T.e_Twice hr (takes_of rfl rfl rfl rfl) (pda_cons (pd_pv 6 (pv 6)) pda_nil) (by rfl) (by decide) (fun h => ps_raiseErr rfl T.e_Twice hr (takes_of rfl rfl rfl rfl) h))) pdss_nil)
  (pdss_cons (pds_if (pdt_cmp od_gt (pd_callB cd_len T.m_len (pda_cons (pd_pv 2 (pv 2)) pda_nil)) (pd_gv T.c_MOST_COLUMNS (fun _ => .int _)) (nomark _)) (pdss_one (pds_raise rfl T.e_TooMany hr (takes_of rfl rfl rfl rfl) (pda_cons (pd_gv T.c_MOST_COLUMNS (fun _ => .int _)) pda_nil) (by rfl) (by decide) (fun h => ps_raiseErr rfl T.e_TooMany hr (takes_of rfl rfl rfl rfl) h))) pdss_nil)
  (pdss_cons (pds_if (pdt_cmp od_gt (pd_callB cd_len T.m_len (pda_cons (pd_pv 4 (pv 4)) pda_nil)) (pd_gv T.c_MOST_REFERENCES (fun _ => .int _)) (nomark _)) (pdss_one (pds_raise rfl T.e_TooMany hr (takes_of rfl rfl rfl rfl) (pda_cons (pd_gv T.c_MOST_REFERENCES (fun _ => .int _)) pda_nil) (by rfl) (by decide) (fun h => ps_raiseErr rfl T.e_TooMany hr (takes_of rfl rfl rfl rfl) h))) pdss_nil)
  (pdss_cons (pds_set (i := 7) sc_Layout___init__.nd rfl (by first | exact Or.inl rfl | exact Or.inr rfl) (pd_lstM pda_nil))
  (pdss_cons (pds_for (passes_of rfl) rfl (pdi_enum T.m_enumerate (pda_cons (pd_pv 3 (pv 3)) pda_nil)) (pdg_tup (n := 2) rfl (pdgs_cons (fun _ _ _ _ _ h => h) (pdg_name (i := 8) sc_Layout___init__.nd rfl (by first | exact Or.inl rfl | exact Or.inr rfl)) (pdgs_cons (fun _ _ _ _ _ h => h) (pdg_name (i := 9) sc_Layout___init__.nd rfl (by first | exact Or.inl rfl | exact Or.inr rfl)) pdgs_nil))) (pdss_cons (pds_if (PDW.pt (pdw_or (pdt_not (pdt_truth (pd_call hA F_are_columns (hr.mono (by decide)) (takes_of rfl rfl rfl rfl) (pda_cons (pd_pv 9 (pv 9)) (pda_cons (pd_callTy cd_tuple T.m_tuple (pda_cons (pd_pv 2 (pv 2)) pda_nil)) pda_nil))))) (pdw_or1 (pdt_cmp (od_in hr) (pd_callB cd_sorted T.m_sorted (pda_cons (pd_pv 9 (pv 9)) pda_nil)) (pd_lc (own := [("one", 10)]) rfl sc_Layout___init__.nd (pdi_any (pd_pv 7 (pv 7))) (blkOk_by (own := [("one", 10)]) (N := ["self", "name", "columns", "keys", "refers", "word", "twice", "found", "index", "key", "one", "reference"]) (sc := defScope s_Layout___init__) (by decide +kernel)) (by decide) (fun _ _ _ _ _ => (pdg_name (i := 10) sc_Layout___init__.nd rfl (by first | exact Or.inl rfl | exact Or.inr rfl))) (fun _ _ _ _ _ => pdts_nil) (fun _ _ _ _ _ => (pd_callB cd_sorted T.m_sorted (pda_cons (pd_pv 10 (pv 10)) pda_nil)))) (by rfl))))) (pdss_one (pds_raise rfl T.e_BadKey hr (takes_of rfl rfl rfl rfl) (pda_cons (pd_pv 8 (pv 8)) pda_nil) (by rfl) (by decide) (fun h => ps_raiseErr rfl T.e_BadKey hr (takes_of rfl rfl rfl rfl) h))) pdss_nil)
  (pdss_one (pds_expr (pd_bm PySem.F.plainAttrs_list PySem.F.slot_list_append PySem.F.type_list_append md_append (pd_pv 7 (pv 7)) (pda_cons (pd_pv 9 (pv 9)) pda_nil))))))
  (pdss_frz 7 (pdss_cons (pds_for (passes_of rfl) rfl (pdi_enum T.m_enumerate (pda_cons (pd_pv 4 (pv 4)) pda_nil)) (pdg_tup (n := 2) rfl (pdgs_cons (fun _ _ _ _ _ h => h) (pdg_name (i := 8) sc_Layout___init__.nd rfl (by first | exact Or.inl rfl | exact Or.inr rfl)) (pdgs_cons (fun _ _ _ _ _ h => h) (pdg_name (i := 11) sc_Layout___init__.nd rfl (by first | exact Or.inl rfl | exact Or.inr rfl)) pdgs_nil))) (pdss_one (pds_if (pdt_not (pdt_truth (pd_call hA F_is_reference (hr.mono (by decide)) (takes_of rfl rfl rfl rfl) (pda_cons (pd_pv 11 (pv 11)) (pda_cons (pd_callTy cd_tuple T.m_tuple (pda_cons (pd_pv 2 (pv 2)) pda_nil)) pda_nil))))) (pdss_one (pds_raise rfl T.e_BadReference hr (takes_of rfl rfl rfl rfl) (pda_cons (pd_pv 8 (pv 8)) pda_nil) (by rfl) (by decide) (fun h => ps_raiseErr rfl T.e_BadReference hr (takes_of rfl rfl rfl rfl) h))) pdss_nil)))
  (pdss_cons (pds_fld (cs := ["Layout"]) (pd_pv 0 (pv 0)) (pd_pv 1 (pv 1)) (fun c hc => by simp only [List.mem_cons, List.not_mem_nil, or_false] at hc; subst hc; exact ⟨T.cls_Layout, T.na_Layout_name⟩))
  (pdss_cons (pds_fld (cs := ["Layout"]) (pd_pv 0 (pv 0)) (pd_callTy cd_tuple T.m_tuple (pda_cons (pd_pv 2 (pv 2)) pda_nil)) (fun c hc => by simp only [List.mem_cons, List.not_mem_nil, or_false] at hc; subst hc; exact ⟨T.cls_Layout, T.na_Layout_columns⟩))
  (pdss_cons (pds_fld (cs := ["Layout"]) (pd_pv 0 (pv 0)) (pd_if (pdt_truth (pd_pv 7 (pv 7))) (pd_callTy cd_tuple T.m_tuple (pda_cons (pd_pv 7 (pv 7)) pda_nil)) (pd_tup (pda_cons (pd_fld (cs := ["Layout"]) (pd_pv 0 (pv 0)) (fun c hc => by simp only [List.mem_cons, List.not_mem_nil, or_false] at hc; subst hc; exact ⟨T.cls_Layout, T.na_Layout_columns⟩)) pda_nil))) (fun c hc => by simp only [List.mem_cons, List.not_mem_nil, or_false] at hc; subst hc; exact ⟨T.cls_Layout, T.na_Layout_all_keys⟩))
  (pdss_cons (pds_fld (cs := ["Layout"]) (pd_pv 0 (pv 0)) (pd_ix ixd (pd_fld (cs := ["Layout"]) (pd_pv 0 (pv 0)) (fun c hc => by simp only [List.mem_cons, List.not_mem_nil, or_false] at hc; subst hc; exact ⟨T.cls_Layout, T.na_Layout_all_keys⟩)) pd_int) (fun c hc => by simp only [List.mem_cons, List.not_mem_nil, or_false] at hc; subst hc; exact ⟨T.cls_Layout, T.na_Layout_key⟩))
  (pdss_one (pds_fld (cs := ["Layout"]) (pd_pv 0 (pv 0)) (pd_callTy cd_tuple T.m_tuple (pda_cons (pd_pv 4 (pv 4)) pda_nil)) (fun c hc => by simp only [List.mem_cons, List.not_mem_nil, or_false] at hc; subst hc; exact ⟨T.cls_Layout, T.na_Layout_refers⟩))))))))))))))))) (fun us S hl => ?_)
  match us, hl with
  | [a, n, c, k, r], _ =>
    show Refines S (initF a n c k r S) _
    unfold initF
    split
    · rename_i m n _
      refine pre_ref fun ⟨hp, hS⟩ => ?_
      generalize hcE : lstOf c S = cs at hp
      generalize hkE : lstOf k S = ks at hp
      generalize hrE : lstOf r S = rs at hp
      have hpc : SeqNU S c cs := by have := hp.c; rwa [hcE] at this
      have hpk : SeqNU S k ks := by have := hp.k; rwa [hkE] at this
      have hpr0 : SeqNU S r rs := by have := hp.r; rwa [hrE] at this
      have hpn := hp.n
      clear hp
      rw [show startE (["self", "name", "columns", "keys", "refers", "word", "twice", "found", "index", "key", "one", "reference"] : List Str).length [U.r m, .d n, c, k, r] = [some (.r m), some (.d n), some c, some k, some r, none, none, none, none, none, none, none] from rfl]
      have hcs : seqU c S = .ok (cs.map .d) S := hpc.sq.seq
      have hmk : mkL ((n :: cs).map U.d) S = .ok (.d (.lst (n :: cs))) S := by
        unfold mkL
        rw [allD_map]
        exact if_pos (by have := hpc.le; rw [List.length_cons]; exact sz5 (by omega))
      have hmk' : mkL (U.d n :: (cs.map U.d ++ [])) S = .ok (.d (.lst (n :: cs))) S := by rw [List.append_nil]; exact hmk
      simp only [bind_ok, bind_err, bind_bad, fl_ok, fl_err, fl_bad, seq_nx, seq_rt, seq_err, seq_bk, seq_ct, seq_bad, bodyR_rt, bodyR_nx, bodyR_err, asB_bl, tru_bl, iff_f, iff_t, leU_int, ltU_int, gtU_int, geU_int, subU_int, addU_int, eqU_int, neU_int, tuple_two, mkE_one, len_tup, len_lst, c1_one, c2_two, rd0, rdS, norm_d, dat_d, gFl_none, gRs_none, List.set_cons_zero, List.set_cons_succ, Bool.not_true, Bool.not_false, Bool.false_eq_true, ↓reduceIte, hpc.sq.norm, hcs, hmk', iterU]
      refine loop (K := fun f => Refines S _ (bodyR (f.seq _))) (I := fun us ρ S' => S' = S ∧ ∃ (rest : List D) (w : Option U), us = rest.map .d ∧ (∀ d ∈ rest, niceD d = true) ∧ (n :: cs).find? (fun d => !nameD d) = rest.find? (fun d => !nameD d) ∧
        ρ = [some (.r m), some (.d n), some c, some k, some r, w, none, none, none, none, none, none]) ?_ ?_ ?_
      · rintro u us ρ S' ⟨rfl, rest, w, hus, hni, hf, rfl⟩
        match rest, hus with
        | d :: rest, hus =>
          simp only [List.map_cons, List.cons.injEq] at hus
          obtain ⟨rfl, rfl⟩ := hus
          refine ⟨_, _, rfl, ?_⟩
          simp only [bind_ok, bind_err, bind_bad, fl_ok, fl_err, fl_bad, seq_nx, seq_rt, seq_err, seq_bk, seq_ct, seq_bad, bodyR_rt, bodyR_nx, bodyR_err, asB_bl, tru_bl, iff_f, iff_t, leU_int, ltU_int, gtU_int, geU_int, subU_int, addU_int, eqU_int, neU_int, tuple_two, mkE_one, len_tup, len_lst, c1_one, c2_two, rd0, rdS, norm_d, dat_d, gFl_none, gRs_none, List.set_cons_zero, List.set_cons_succ, Bool.not_true, Bool.not_false, Bool.false_eq_true, ↓reduceIte, F1_one, name_call (nice_top (hni d List.mem_cons_self))]
          cases hd : nameD d with
          | true =>
            simp only [bind_ok, bind_err, bind_bad, fl_ok, fl_err, fl_bad, seq_nx, seq_rt, seq_err, seq_bk, seq_ct, seq_bad, bodyR_rt, bodyR_nx, bodyR_err, asB_bl, tru_bl, iff_f, iff_t, leU_int, ltU_int, gtU_int, geU_int, subU_int, addU_int, eqU_int, neU_int, tuple_two, mkE_one, len_tup, len_lst, c1_one, c2_two, rd0, rdS, norm_d, dat_d, gFl_none, gRs_none, List.set_cons_zero, List.set_cons_succ, Bool.not_true, Bool.not_false, Bool.false_eq_true, ↓reduceIte]
            refine ⟨trivial, rest, _, rfl, fun e he => hni e (List.mem_cons_of_mem _ he), ?_, rfl⟩
            rw [hf, List.find?_cons_of_neg (by rw [hd]; simp)]
          | false =>
            simp only [bind_ok, bind_err, bind_bad, fl_ok, fl_err, fl_bad, seq_nx, seq_rt, seq_err, seq_bk, seq_ct, seq_bad, bodyR_rt, bodyR_nx, bodyR_err, asB_bl, tru_bl, iff_f, iff_t, leU_int, ltU_int, gtU_int, geU_int, subU_int, addU_int, eqU_int, neU_int, tuple_two, mkE_one, len_tup, len_lst, c1_one, c2_two, rd0, rdS, norm_d, dat_d, gFl_none, gRs_none, List.set_cons_zero, List.set_cons_succ, Bool.not_true, Bool.not_false, Bool.false_eq_true, ↓reduceIte]
            refine ref_eq ?_
            have hf' : (d :: rest).find? (fun d => !nameD d) = some d := List.find?_cons_of_pos (by rw [hd]; rfl)
            unfold layR layD
            rw [hf, hf']
      · rintro ρ S' ⟨rfl, rest, w, hus, _, hf, rfl⟩
        obtain rfl : rest = [] := List.map_eq_nil_iff.mp hus.symm
        have hf0 : (n :: cs).find? (fun d => !nameD d) = none := hf
        have hnm : ∀ d ∈ n :: cs, nameD d = true := fun d hd => by
          have := List.find?_eq_none.mp hf0 d hd
          simpa using this
        -- the columns are texts
        obtain ⟨cols, hcols⟩ : ∃ cols : List Str, cs = cols.map .str := by
          have : ∀ l : List D, (∀ d ∈ l, nameD d = true) → ∃ zs : List Str, l = zs.map .str := fun l hl => by
            induction l with
            | nil => exact ⟨[], rfl⟩
            | cons d t ih =>
              obtain ⟨zs, hz⟩ := ih fun e he => hl e (List.mem_cons_of_mem _ he)
              have := hl d List.mem_cons_self
              cases d with
              | str z => exact ⟨z :: zs, by rw [hz]; rfl⟩
              | _ => cases this
          exact this _ fun d hd => hnm d (List.mem_cons_of_mem _ hd)
        have hasc : ∀ z ∈ cols, Asc z := fun z hz => (nice_str.mp (hpc.ni (.str z) (by rw [hcols]; exact List.mem_map.mpr ⟨z, hz, rfl⟩))).1
        have hco : colsOf cs = cols := by unfold colsOf; rw [hcols, strsD_map]; rfl
        have hcl : LstU S' cs c := hpc.sq
        have hkl : LstU S' ks k := hpk.sq
        have hrl : LstU S' rs r := hpr0.sq
        have nc0 : norm S' c = c := hcl.norm
        have nk0 : norm S' k = k := hkl.norm
        have nr0 : norm S' r = r := hrl.norm
        have nc : ∀ g, norm (S' ++ g) c = c := fun g => hcl.app.norm
        have nk : ∀ g, norm (S' ++ g) k = k := fun g => hkl.app.norm
        have nr : ∀ g, norm (S' ++ g) r = r := fun g => hrl.app.norm
        have ncS : ∀ x g, norm (S'.set m x ++ g) c = c := fun x g => (lst_setObj hcl hS x).norm
        have nkS : ∀ x g, norm (S'.set m x ++ g) k = k := fun x g => (lst_setObj hkl hS x).norm
        have nrS : ∀ x g, norm (S'.set m x ++ g) r = r := fun x g => (lst_setObj hrl hS x).norm
        have hsqT : SeqS (.tup cs) cols := .inr (by rw [hcols])
        have htup : ∀ g, tupU c (S' ++ g) = .ok (.d (.tup cs)) (S' ++ g) := fun g => hcl.app.tupU
        have htupS : ∀ x g, tupU c (S'.set m x ++ g) = .ok (.d (.tup cs)) (S'.set m x ++ g) := fun x g => (lst_setObj hcl hS x).tupU
        have hlc : lenU c S' = .ok (.d (.int cs.length)) S' := hcl.len
        have hlr : lenU r S' = .ok (.d (.int rs.length)) S' := hrl.len
        have htw : firstTwiceF c S' = .ok (.d (optD (twS cols))) S' := by
          have hcl' : LstU S' (cols.map .str) c := by rw [← hcols]; exact hcl
          unfold firstTwiceF
          rw [hcl'.txts]
          exact pre_pos ⟨hasc, hcl'⟩
        simp only [bind_ok, bind_err, bind_bad, fl_ok, fl_err, fl_bad, seq_nx, seq_rt, seq_err, seq_bk, seq_ct, seq_bad, bodyR_rt, bodyR_nx, bodyR_err, asB_bl, tru_bl, iff_f, iff_t, leU_int, ltU_int, gtU_int, geU_int, subU_int, addU_int, eqU_int, neU_int, tuple_two, mkE_one, len_tup, len_lst, c1_one, c2_two, rd0, rdS, norm_d, dat_d, gFl_none, gRs_none, List.set_cons_zero, List.set_cons_succ, Bool.not_true, Bool.not_false, Bool.false_eq_true, ↓reduceIte, nc0, nc, ncS, nk0, nk, nkS, nr0, nr, nrS, F1_one, htw]
        have lay1 : layD n cs ks rs = match twS cols with
          | some z => some ("Twice", "name", .str z)
          | none => if 5 < cs.length then some ("TooMany", "limit", .int 5) else if 2 < rs.length then some ("TooMany", "limit", .int 2) else
            match keyF cols [] 0 ks with
            | some i => some ("BadKey", "index", .int i)
            | none => match refF cols 0 rs with
              | some i => some ("BadReference", "index", .int i)
              | none => none := by
          unfold layD
          rw [hf0, hco]
        cases htwc : twS cols with
        | some z =>
          rw [htwc] at lay1
          have : isU true (.d (optD (some z))) (.d .non) S' = .ok (.d (.bl true)) S' := rfl
          simp only [this, bind_ok, bind_err, bind_bad, fl_ok, fl_err, fl_bad, seq_nx, seq_rt, seq_err, seq_bk, seq_ct, seq_bad, bodyR_rt, bodyR_nx, bodyR_err, asB_bl, tru_bl, iff_f, iff_t, leU_int, ltU_int, gtU_int, geU_int, subU_int, addU_int, eqU_int, neU_int, tuple_two, mkE_one, len_tup, len_lst, c1_one, c2_two, rd0, rdS, norm_d, dat_d, gFl_none, gRs_none, List.set_cons_zero, List.set_cons_succ, Bool.not_true, Bool.not_false, Bool.false_eq_true, ↓reduceIte, nc0, nc, ncS, nk0, nk, nkS, nr0, nr, nrS]
          refine ref_eq ?_
          unfold layR
          rw [lay1]
          rfl
        | none =>
          rw [htwc] at lay1
          have : isU true (.d (optD none)) (.d .non) S' = .ok (.d (.bl false)) S' := rfl
          simp only [this, bind_ok, bind_err, bind_bad, fl_ok, fl_err, fl_bad, seq_nx, seq_rt, seq_err, seq_bk, seq_ct, seq_bad, bodyR_rt, bodyR_nx, bodyR_err, asB_bl, tru_bl, iff_f, iff_t, leU_int, ltU_int, gtU_int, geU_int, subU_int, addU_int, eqU_int, neU_int, tuple_two, mkE_one, len_tup, len_lst, c1_one, c2_two, rd0, rdS, norm_d, dat_d, gFl_none, gRs_none, List.set_cons_zero, List.set_cons_succ, Bool.not_true, Bool.not_false, Bool.false_eq_true, ↓reduceIte, nc0, nc, ncS, nk0, nk, nkS, nr0, nr, nrS, hlc, hlr]
          by_cases h5 : 5 < cs.length
          · rw [decide_eq_true (show (5 : Int) < (cs.length : Int) by omega)]
            simp only [bind_ok, bind_err, bind_bad, fl_ok, fl_err, fl_bad, seq_nx, seq_rt, seq_err, seq_bk, seq_ct, seq_bad, bodyR_rt, bodyR_nx, bodyR_err, asB_bl, tru_bl, iff_f, iff_t, leU_int, ltU_int, gtU_int, geU_int, subU_int, addU_int, eqU_int, neU_int, tuple_two, mkE_one, len_tup, len_lst, c1_one, c2_two, rd0, rdS, norm_d, dat_d, gFl_none, gRs_none, List.set_cons_zero, List.set_cons_succ, Bool.not_true, Bool.not_false, Bool.false_eq_true, ↓reduceIte, nc0, nc, ncS, nk0, nk, nkS, nr0, nr, nrS]
            refine ref_eq ?_
            unfold layR
            rw [lay1]
            simp only [h5, ↓reduceIte]
          rw [decide_eq_false (show ¬ (5 : Int) < (cs.length : Int) by omega)]
          simp only [bind_ok, bind_err, bind_bad, fl_ok, fl_err, fl_bad, seq_nx, seq_rt, seq_err, seq_bk, seq_ct, seq_bad, bodyR_rt, bodyR_nx, bodyR_err, asB_bl, tru_bl, iff_f, iff_t, leU_int, ltU_int, gtU_int, geU_int, subU_int, addU_int, eqU_int, neU_int, tuple_two, mkE_one, len_tup, len_lst, c1_one, c2_two, rd0, rdS, norm_d, dat_d, gFl_none, gRs_none, List.set_cons_zero, List.set_cons_succ, Bool.not_true, Bool.not_false, Bool.false_eq_true, ↓reduceIte, nc0, nc, ncS, nk0, nk, nkS, nr0, nr, nrS, hlr]
          simp only [h5, ↓reduceIte] at lay1
          by_cases h2 : 2 < rs.length
          · rw [decide_eq_true (show (2 : Int) < (rs.length : Int) by omega)]
            simp only [bind_ok, bind_err, bind_bad, fl_ok, fl_err, fl_bad, seq_nx, seq_rt, seq_err, seq_bk, seq_ct, seq_bad, bodyR_rt, bodyR_nx, bodyR_err, asB_bl, tru_bl, iff_f, iff_t, leU_int, ltU_int, gtU_int, geU_int, subU_int, addU_int, eqU_int, neU_int, tuple_two, mkE_one, len_tup, len_lst, c1_one, c2_two, rd0, rdS, norm_d, dat_d, gFl_none, gRs_none, List.set_cons_zero, List.set_cons_succ, Bool.not_true, Bool.not_false, Bool.false_eq_true, ↓reduceIte, nc0, nc, ncS, nk0, nk, nkS, nr0, nr, nrS]
            refine ref_eq ?_
            unfold layR
            rw [lay1]
            simp only [h2, ↓reduceIte]
          rw [decide_eq_false (show ¬ (2 : Int) < (rs.length : Int) by omega)]
          simp only [h2, ↓reduceIte] at lay1
          have hnew : mkM [] S' = .ok (.r S'.length) (S' ++ [.lst []]) := if_pos (Nat.zero_le _)
          obtain ⟨gk, hen, hgk⟩ := (hkl.app (g := [.lst []])).enum
          simp only [bind_ok, bind_err, bind_bad, fl_ok, fl_err, fl_bad, seq_nx, seq_rt, seq_err, seq_bk, seq_ct, seq_bad, bodyR_rt, bodyR_nx, bodyR_err, asB_bl, tru_bl, iff_f, iff_t, leU_int, ltU_int, gtU_int, geU_int, subU_int, addU_int, eqU_int, neU_int, tuple_two, mkE_one, len_tup, len_lst, c1_one, c2_two, rd0, rdS, norm_d, dat_d, gFl_none, gRs_none, List.set_cons_zero, List.set_cons_succ, Bool.not_true, Bool.not_false, Bool.false_eq_true, ↓reduceIte, nc0, nc, ncS, nk0, nk, nkS, nr0, nr, nrS, hnew, enumA, hen]
          have refG : ∀ {e f : Str} {d : D} {g : Store}, layD n cs ks rs = some (e, f, d) → Refines S' (layR m n cs ks rs S') (.err e [(f, d)] (S' ++ g)) := fun {e f d g} h => by
            unfold layR
            rw [h]
            exact .err g (Shr.refl S')
          refine loopG (K := fun f => Refines S' _ (bodyR (f.seq _))) (I := fun us ρ S1 => ∃ (pre rest : List D) (v8 v9 : Option U), us = enumN pre.length rest ∧ pre ++ rest = ks ∧ S1 = S' ++ [.lst (pre.map .d)] ∧ keyF cols [] 0 ks = keyF cols (pre.map keyS) pre.length rest ∧ (∀ d ∈ pre, colsD d cols = true) ∧
            ρ = [some (.r m), some (.d n), some c, some k, some r, w, some (.d .non), some (.r S'.length), v8, v9, none, none]) ?_ ?_ ?_ ?_
          · rintro us ρ S1 ⟨pr, rest, v8, v9, hus, hpr, rfl, _⟩
            exact hgk _ hkl.app
          · rintro u us ρ S1 ⟨pr, rest, v8, v9, hus, hpr, rfl, hkf, hok, rfl⟩
            match rest, hus with
            | kd :: rest, hus =>
              rw [enumN_cons] at hus
              simp only [List.cons.injEq] at hus
              obtain ⟨rfl, rfl⟩ := hus
              refine ⟨_, _, rfl, ?_⟩
              have hkn : niceD kd = true := hpk.ni kd (by rw [← hpr]; simp)
              have hcc := cols_call (cols_pre hkn hsqT hasc) (S' ++ [.lst (pr.map .d)])
              have hno : norm (S' ++ [.lst (pr.map U.d)]) (.r S'.length) = .r S'.length := norm_lst (at_new _ _)
              have hit : iterU (.r S'.length) (S' ++ [.lst (pr.map U.d)]) = .ok ⟨pr.map .d, some (S'.length, pr.map .d)⟩ (S' ++ [.lst (pr.map U.d)]) := by simp only [iterU, at_new]
              simp only [bind_ok, bind_err, bind_bad, fl_ok, fl_err, fl_bad, seq_nx, seq_rt, seq_err, seq_bk, seq_ct, seq_bad, bodyR_rt, bodyR_nx, bodyR_err, asB_bl, tru_bl, iff_f, iff_t, leU_int, ltU_int, gtU_int, geU_int, subU_int, addU_int, eqU_int, neU_int, tuple_two, mkE_one, len_tup, len_lst, c1_one, c2_two, rd0, rdS, norm_d, dat_d, gFl_none, gRs_none, List.set_cons_zero, List.set_cons_succ, Bool.not_true, Bool.not_false, Bool.false_eq_true, ↓reduceIte, nc0, nc, ncS, nk0, nk, nkS, nr0, nr, nrS, htup, F2_two, hcc, hno, hit]
              have hprl : pr.length ≤ 1000 := by have h1 := hpk.le; rw [← hpr, List.length_append] at h1; omega
              rw [keyF_cons] at hkf
              cases hcd : colsD kd cols with
              | false =>
                rw [hcd] at hkf
                simp only [Bool.not_false, Bool.true_or, ↓reduceIte] at hkf
                rw [hkf] at lay1
                simp only [bind_ok, bind_err, bind_bad, fl_ok, fl_err, fl_bad, seq_nx, seq_rt, seq_err, seq_bk, seq_ct, seq_bad, bodyR_rt, bodyR_nx, bodyR_err, asB_bl, tru_bl, iff_f, iff_t, leU_int, ltU_int, gtU_int, geU_int, subU_int, addU_int, eqU_int, neU_int, tuple_two, mkE_one, len_tup, len_lst, c1_one, c2_two, rd0, rdS, norm_d, dat_d, gFl_none, gRs_none, List.set_cons_zero, List.set_cons_succ, Bool.not_true, Bool.not_false, Bool.false_eq_true, ↓reduceIte, nc0, nc, ncS, nk0, nk, nkS, nr0, nr, nrS]
                exact refG lay1
              | true =>
                obtain ⟨zs, rfl, hks, hzc⟩ := colsD_tup hcd
                have hz64 : zs.length < 64 := by have := (nice_tup.mp hkn).1; rw [List.length_map] at this; omega
                have hall : ∀ d ∈ pr, ∃ ys : List Str, d = .tup (ys.map .str) ∧ keyS d = ys ∧ ys.length < 64 ∧ ∀ z ∈ ys, Asc z := fun d hd => by
                  obtain ⟨ys, rfl, h1, h2⟩ := colsD_tup (hok d hd)
                  refine ⟨ys, rfl, h1, ?_, fun z hz => hasc z (h2 z hz)⟩
                  have := (nice_tup.mp (hpk.ni _ (by rw [← hpr]; exact List.mem_append_left _ hd))).1
                  rw [List.length_map] at this; omega
                have hlc2 : ∀ ρ, lcU (some (S'.length, pr.map U.d)) (fun u ρ S => Res.ok (List.set ρ 10 (some u)) S) (fun x S => Res.ok true S) (fun ρ S => ((rdV ρ 10 S).bind fun x S => Res.ok [x] S).bind (c1 sortU)) [some (.r m), some (.d n), some c, some k, some r, w, some (.d .non), some (.r S'.length), some (.d (.int pr.length)), some ρ, none, none] (pr.map U.d) [] (S' ++ [.lst (pr.map U.d)])
                    = .ok ((pr.map fun d => D.lst ((sortS (keyS d)).map .str)).map U.d) (S' ++ [.lst (pr.map U.d)]) := fun ρ => by
                  rw [lcU_mapG (show gOk _ (some (S'.length, pr.map U.d)) from at_new _ _) (fun u => match u with | .d d => .d (.lst ((sortS (keyS d)).map .str)) | u => u) _ []]
                  · rw [List.nil_append, List.map_map, List.map_map]; rfl
                  · intro u hu
                    obtain ⟨d, hd, rfl⟩ := List.mem_map.mp hu
                    obtain ⟨ys, rfl, h1, h2, _⟩ := hall d hd
                    refine ⟨_, rfl, ?_⟩
                    simp only [bind_ok, bind_err, bind_bad, fl_ok, fl_err, fl_bad, seq_nx, seq_rt, seq_err, seq_bk, seq_ct, seq_bad, bodyR_rt, bodyR_nx, bodyR_err, asB_bl, tru_bl, iff_f, iff_t, leU_int, ltU_int, gtU_int, geU_int, subU_int, addU_int, eqU_int, neU_int, tuple_two, mkE_one, len_tup, len_lst, c1_one, c2_two, rd0, rdS, norm_d, dat_d, gFl_none, gRs_none, List.set_cons_zero, List.set_cons_succ, Bool.not_true, Bool.not_false, Bool.false_eq_true, ↓reduceIte, nc0, nc, ncS, nk0, nk, nkS, nr0, nr, nrS, sort_call h2, h1]
                  · rw [List.length_map]; show 0 + pr.length ≤ sizeLine; have := sz10 hprl; omega
                have hmk2 : ∀ S : Store, mkL ((pr.map fun d => D.lst ((sortS (keyS d)).map .str)).map U.d) S = .ok (.d (.lst ((pr.map keyS).map fun m => .lst ((sortS m).map .str)))) S := fun S => by
                  unfold mkL
                  rw [allD_map]
                  simp only [List.length_map, sz10 hprl, if_true, List.map_map]
                  rfl
                have hin2 := in_sorted (xs := zs) (mss := pr.map keyS) (fun z hz => hasc z (hzc z hz)) (fun m' hm' z hz => by
                  obtain ⟨d, hd, rfl⟩ := List.mem_map.mp hm'
                  obtain ⟨ys, rfl, h1, _, h3⟩ := hall d hd
                  rw [h1] at hz
                  exact h3 z hz) (S' ++ [.lst (pr.map U.d)])
                have hw : ∀ v : U, wipeE [some (.r m), some (.d n), some c, some k, some r, w, some (.d .non), some (.r S'.length), some (.d (.int pr.length)), some v, none, none] ([(("one" : Str), 10)].map fun x => x.snd) = [some (.r m), some (.d n), some c, some k, some r, w, some (.d .non), some (.r S'.length), some (.d (.int pr.length)), some v, none, none] := fun v => rfl
                simp only [bind_ok, bind_err, bind_bad, fl_ok, fl_err, fl_bad, seq_nx, seq_rt, seq_err, seq_bk, seq_ct, seq_bad, bodyR_rt, bodyR_nx, bodyR_err, asB_bl, tru_bl, iff_f, iff_t, leU_int, ltU_int, gtU_int, geU_int, subU_int, addU_int, eqU_int, neU_int, tuple_two, mkE_one, len_tup, len_lst, c1_one, c2_two, rd0, rdS, norm_d, dat_d, gFl_none, gRs_none, List.set_cons_zero, List.set_cons_succ, Bool.not_true, Bool.not_false, Bool.false_eq_true, ↓reduceIte, nc0, nc, ncS, nk0, nk, nkS, nr0, nr, nrS, sort_call hz64, hw, hno, hit, hlc2, hmk2, hin2]
                rw [hcd] at hkf
                simp only [Bool.not_true, Bool.false_or, hks] at hkf
                cases han : (pr.map keyS).any fun m => decide (m.Perm zs) with
                | true =>
                  rw [han] at hkf
                  simp only [↓reduceIte] at hkf
                  rw [hkf] at lay1
                  simp only [bind_ok, bind_err, bind_bad, fl_ok, fl_err, fl_bad, seq_nx, seq_rt, seq_err, seq_bk, seq_ct, seq_bad, bodyR_rt, bodyR_nx, bodyR_err, asB_bl, tru_bl, iff_f, iff_t, leU_int, ltU_int, gtU_int, geU_int, subU_int, addU_int, eqU_int, neU_int, tuple_two, mkE_one, len_tup, len_lst, c1_one, c2_two, rd0, rdS, norm_d, dat_d, gFl_none, gRs_none, List.set_cons_zero, List.set_cons_succ, Bool.not_true, Bool.not_false, Bool.false_eq_true, ↓reduceIte, nc0, nc, ncS, nk0, nk, nkS, nr0, nr, nrS]
                  exact refG lay1
                | false =>
                  rw [han] at hkf
                  simp only [Bool.false_eq_true, ↓reduceIte] at hkf
                  have hty : tyU "list" (.r S'.length) (S' ++ [.lst (pr.map U.d)]) = true := by simp only [tyU, at_new]; rfl
                  have hap : appU (.r S'.length) [.d (.tup (zs.map .str))] (S' ++ [.lst (pr.map U.d)]) = .ok (.d .non) (S' ++ [.lst ((pr ++ [D.tup (zs.map .str)]).map U.d)]) := by
                    simp only [appU, cellL, at_new, List.length_map]
                    rw [if_pos (show pr.length < sizeLine from sz5l (by omega)), set_new, List.map_append]
                    rfl
                  simp only [bind_ok, bind_err, bind_bad, fl_ok, fl_err, fl_bad, seq_nx, seq_rt, seq_err, seq_bk, seq_ct, seq_bad, bodyR_rt, bodyR_nx, bodyR_err, asB_bl, tru_bl, iff_f, iff_t, leU_int, ltU_int, gtU_int, geU_int, subU_int, addU_int, eqU_int, neU_int, tuple_two, mkE_one, len_tup, len_lst, c1_one, c2_two, rd0, rdS, norm_d, dat_d, gFl_none, gRs_none, List.set_cons_zero, List.set_cons_succ, Bool.not_true, Bool.not_false, Bool.false_eq_true, ↓reduceIte, nc0, nc, ncS, nk0, nk, nkS, nr0, nr, nrS, hno, hty, hap]
                  refine ⟨pr ++ [.tup (zs.map .str)], rest, _, _, ?_, by rw [List.append_assoc]; exact hpr, rfl, ?_, ?_, rfl⟩
                  · rw [List.length_append]; rfl
                  · rw [hkf, List.length_append, List.map_append]
                    simp only [List.map_cons, List.map_nil, hks, List.length_cons, List.length_nil, Nat.zero_add]
                  · intro d hd
                    rcases List.mem_append.mp hd with h | h
                    · exact hok d h
                    · obtain rfl := List.mem_singleton.mp h
                      exact hcd
          · rintro ρ S1 ⟨pr, rest, v8, v9, hus, hpr, rfl, hkf, hok, rfl⟩
            have hrest : rest = [] := by
              cases rest with
              | nil => rfl
              | cons x t => rw [enumN_cons] at hus; cases hus
            subst hrest
            rw [List.append_nil] at hpr
            have hpr := hpr.symm
            subst hpr
            have hkn : keyF cols [] 0 ks = none := hkf
            rw [hkn] at lay1
            have hfz : frzV [some (.r m), some (.d n), some c, some k, some r, w, some (.d .non), some (.r S'.length), v8, v9, none, none] 7 (S' ++ [.lst (ks.map U.d)]) = S' ++ [.frz (.lst ks)] := by
              show frzN S'.length _ = _
              unfold frzN
              simp only [at_new, allD_map, set_new]
            obtain ⟨gr, hen2, hgr⟩ := (hrl.app (g := [.frz (.lst ks)])).enum
            simp only [bind_ok, bind_err, bind_bad, fl_ok, fl_err, fl_bad, seq_nx, seq_rt, seq_err, seq_bk, seq_ct, seq_bad, bodyR_rt, bodyR_nx, bodyR_err, asB_bl, tru_bl, iff_f, iff_t, leU_int, ltU_int, gtU_int, geU_int, subU_int, addU_int, eqU_int, neU_int, tuple_two, mkE_one, len_tup, len_lst, c1_one, c2_two, rd0, rdS, norm_d, dat_d, gFl_none, gRs_none, List.set_cons_zero, List.set_cons_succ, Bool.not_true, Bool.not_false, Bool.false_eq_true, ↓reduceIte, nc0, nc, ncS, nk0, nk, nkS, nr0, nr, nrS, hfz, enumA, hen2]
            refine loopG (K := fun f => Refines S' _ (bodyR (f.seq _))) (I := fun us ρ S1 => ∃ (pre rest : List D) (v8 v9 v11 : Option U), us = enumN pre.length rest ∧ pre ++ rest = rs ∧ S1 = S' ++ [.frz (.lst ks)] ∧ refF cols 0 rs = refF cols pre.length rest ∧
              ρ = [some (.r m), some (.d n), some c, some k, some r, w, some (.d .non), some (.r S'.length), v8, v9, none, v11]) ?_ ?_ ?_ ?_
            · rintro us ρ S1 ⟨pr, rest, v8, v9, v11, hus, hpr, rfl, _⟩
              exact hgr _ hrl.app
            · rintro u us ρ S1 ⟨pr, rest, v8, v9, v11, hus, hpr, rfl, hrf, rfl⟩
              match rest, hus with
              | rd :: rest, hus =>
                rw [enumN_cons] at hus
                simp only [List.cons.injEq] at hus
                obtain ⟨rfl, rfl⟩ := hus
                refine ⟨_, _, rfl, ?_⟩
                have hrn : niceD rd = true := hpr0.ni rd (by rw [← hpr]; simp)
                have hcc := ref_call (ref_pre hrn hsqT hasc) (S' ++ [.frz (.lst ks)])
                simp only [bind_ok, bind_err, bind_bad, fl_ok, fl_err, fl_bad, seq_nx, seq_rt, seq_err, seq_bk, seq_ct, seq_bad, bodyR_rt, bodyR_nx, bodyR_err, asB_bl, tru_bl, iff_f, iff_t, leU_int, ltU_int, gtU_int, geU_int, subU_int, addU_int, eqU_int, neU_int, tuple_two, mkE_one, len_tup, len_lst, c1_one, c2_two, rd0, rdS, norm_d, dat_d, gFl_none, gRs_none, List.set_cons_zero, List.set_cons_succ, Bool.not_true, Bool.not_false, Bool.false_eq_true, ↓reduceIte, nc0, nc, ncS, nk0, nk, nkS, nr0, nr, nrS, htup, F2_two, hcc]
                rw [refF_cons] at hrf
                cases hcd : refD rd cols with
                | false =>
                  rw [hcd] at hrf
                  simp only [Bool.not_false, ↓reduceIte] at hrf
                  rw [hrf] at lay1
                  simp only [bind_ok, bind_err, bind_bad, fl_ok, fl_err, fl_bad, seq_nx, seq_rt, seq_err, seq_bk, seq_ct, seq_bad, bodyR_rt, bodyR_nx, bodyR_err, asB_bl, tru_bl, iff_f, iff_t, leU_int, ltU_int, gtU_int, geU_int, subU_int, addU_int, eqU_int, neU_int, tuple_two, mkE_one, len_tup, len_lst, c1_one, c2_two, rd0, rdS, norm_d, dat_d, gFl_none, gRs_none, List.set_cons_zero, List.set_cons_succ, Bool.not_true, Bool.not_false, Bool.false_eq_true, ↓reduceIte, nc0, nc, ncS, nk0, nk, nkS, nr0, nr, nrS]
                  exact refG lay1
                | true =>
                  rw [hcd] at hrf
                  simp only [Bool.not_true, Bool.false_eq_true, ↓reduceIte] at hrf
                  simp only [bind_ok, bind_err, bind_bad, fl_ok, fl_err, fl_bad, seq_nx, seq_rt, seq_err, seq_bk, seq_ct, seq_bad, bodyR_rt, bodyR_nx, bodyR_err, asB_bl, tru_bl, iff_f, iff_t, leU_int, ltU_int, gtU_int, geU_int, subU_int, addU_int, eqU_int, neU_int, tuple_two, mkE_one, len_tup, len_lst, c1_one, c2_two, rd0, rdS, norm_d, dat_d, gFl_none, gRs_none, List.set_cons_zero, List.set_cons_succ, Bool.not_true, Bool.not_false, Bool.false_eq_true, ↓reduceIte, nc0, nc, ncS, nk0, nk, nkS, nr0, nr, nrS]
                  refine ⟨pr ++ [rd], rest, _, _, _, ?_, by rw [List.append_assoc]; exact hpr, trivial, ?_, rfl⟩
                  · rw [List.length_append]; rfl
                  · rw [hrf, List.length_append]; rfl
            · rintro ρ S1 ⟨pr, rest, v8, v9, v11, hus, hpr, rfl, hrf, rfl⟩
              have hrest : rest = [] := by
                cases rest with
                | nil => rfl
                | cons x t => rw [enumN_cons] at hus; cases hus
              subst hrest
              have hrn : refF cols 0 rs = none := hrf
              rw [hrn] at lay1
              -- the fields
              have hmS : m < S'.length := (List.getElem?_eq_some_iff.mp hS).1
              have hml : ∀ c : Cell, (S'.set m c)[m]? = some c := fun c => List.getElem?_set_self hmS
              have hob0 : (S' ++ [.frz (.lst ks)])[m]? = some (.obj "Layout" []) := at_old hS
              have hob : ∀ fs, (S'.set m (.obj "Layout" fs) ++ [.frz (.lst ks)])[m]? = some (.obj "Layout" fs) := fun fs => at_old (hml _)
              have hlen' : ∀ c : Cell, (S'.set m c).length = S'.length := fun c => List.length_set
              have hfo : ∀ fs, norm (S'.set m (.obj "Layout" fs) ++ [.frz (.lst ks)]) (.r S'.length) = .d (.lst ks) := fun fs => norm_frz (by have := at_new (S'.set m (.obj "Layout" fs)) (.frz (.lst ks)); rwa [hlen'] at this)
              have hse0 : ∀ f w, setF ["Layout"] f (.r m) w (S' ++ [.frz (.lst ks)]) = some (S'.set m (.obj "Layout" [(f, w)]) ++ [.frz (.lst ks)]) := fun f w => by
                simp only [setF, hob0, List.mem_singleton, true_and, List.length_nil, Nat.zero_lt_succ, ↓reduceIte, putU]
                rw [set_old hS]
              have hse : ∀ f w fs, fs.length < 1000 → setF ["Layout"] f (.r m) w (S'.set m (.obj "Layout" fs) ++ [.frz (.lst ks)]) = some (S'.set m (.obj "Layout" (putU f w fs)) ++ [.frz (.lst ks)]) := fun f w fs h => by
                simp only [setF, hob, List.mem_singleton, true_and, h, ↓reduceIte]
                rw [set_old (hml _), List.set_set]
              have hfd : ∀ f fs, fldU ["Layout"] f (.r m) (S'.set m (.obj "Layout" fs) ++ [.frz (.lst ks)]) = optR (fs.lookup f) id (S'.set m (.obj "Layout" fs) ++ [.frz (.lst ks)]) := fun f fs => by
                simp only [fldU, objU, hob, List.mem_singleton, ↓reduceIte]
              have hno0 : norm (S' ++ [.frz (.lst ks)]) (.r m) = .r m := norm_obj hob0
              have hno1 : ∀ fs, norm (S'.set m (.obj "Layout" fs) ++ [.frz (.lst ks)]) (.r m) = .r m := fun fs => norm_obj (hob fs)
              have htr : ∀ x g, tupU r (S'.set m x ++ g) = .ok (.d (.tup rs)) (S'.set m x ++ g) := fun x g => (lst_setObj hrl hS x).tupU
              have htk : ∀ S : Store, tupU (.d (.lst ks)) S = .ok (.d (.tup ks)) S := fun S => rfl
              have htru : ∀ S : Store, truU (.d (.lst ks)) S = .ok (!ks.isEmpty) S := fun S => rfl
              simp only [bind_ok, bind_err, bind_bad, fl_ok, fl_err, fl_bad, seq_nx, seq_rt, seq_err, seq_bk, seq_ct, seq_bad, bodyR_rt, bodyR_nx, bodyR_err, asB_bl, tru_bl, iff_f, iff_t, leU_int, ltU_int, gtU_int, geU_int, subU_int, addU_int, eqU_int, neU_int, tuple_two, mkE_one, len_tup, len_lst, c1_one, c2_two, rd0, rdS, norm_d, dat_d, gFl_none, gRs_none, List.set_cons_zero, List.set_cons_succ, Bool.not_true, Bool.not_false, Bool.false_eq_true, ↓reduceIte, nc0, nc, ncS, nk0, nk, nkS, nr0, nr, nrS, hno0, hse0, hno1, htup, htupS]
              rw [hse _ _ _ (by simp)]
              simp only [bind_ok, bind_err, bind_bad, fl_ok, fl_err, fl_bad, seq_nx, seq_rt, seq_err, seq_bk, seq_ct, seq_bad, bodyR_rt, bodyR_nx, bodyR_err, asB_bl, tru_bl, iff_f, iff_t, leU_int, ltU_int, gtU_int, geU_int, subU_int, addU_int, eqU_int, neU_int, tuple_two, mkE_one, len_tup, len_lst, c1_one, c2_two, rd0, rdS, norm_d, dat_d, gFl_none, gRs_none, List.set_cons_zero, List.set_cons_succ, Bool.not_true, Bool.not_false, Bool.false_eq_true, ↓reduceIte, nc0, nc, ncS, nk0, nk, nkS, nr0, nr, nrS, hno1, hfo, htru, htk]
              have p1 : ∀ a b, putU ("columns" : Str) a [(("name" : Str), b)] = [(("name" : Str), b), (("columns" : Str), a)] := fun _ _ => rfl
              have p2 : ∀ a b c, putU ("all_keys" : Str) a [(("name" : Str), b), (("columns" : Str), c)] = [(("name" : Str), b), (("columns" : Str), c), (("all_keys" : Str), a)] := fun _ _ _ => rfl
              have p3 : ∀ a b c d, putU ("key" : Str) a [(("name" : Str), b), (("columns" : Str), c), (("all_keys" : Str), d)] = [(("name" : Str), b), (("columns" : Str), c), (("all_keys" : Str), d), (("key" : Str), a)] := fun _ _ _ _ => rfl
              have p4 : ∀ a b c d e, putU ("refers" : Str) a [(("name" : Str), b), (("columns" : Str), c), (("all_keys" : Str), d), (("key" : Str), e)] = [(("name" : Str), b), (("columns" : Str), c), (("all_keys" : Str), d), (("key" : Str), e), (("refers" : Str), a)] := fun _ _ _ _ _ => rfl
              have l1 : ∀ (a b : U), List.lookup ("columns" : Str) [(("name" : Str), a), (("columns" : Str), b)] = some b := fun _ _ => rfl
              have l2 : ∀ (a b c : U), List.lookup ("all_keys" : Str) [(("name" : Str), a), (("columns" : Str), b), (("all_keys" : Str), c)] = some c := fun _ _ _ => rfl
              have fin : ∀ ak ky : D, ak = .tup (if ks = [] then [.tup cs] else ks) → ky = (if ks = [] then [.tup cs] else ks).headD .non → Refines S' (layR m n cs ks rs S')
                  (.ok (.d .non) (S'.set m (.obj "Layout" [("name", .d n), ("columns", .d (.tup cs)), ("all_keys", .d ak), ("key", .d ky), ("refers", .d (.tup rs))]) ++ [.frz (.lst ks)])) := fun ak ky h1 h2 => by
                unfold layR
                rw [lay1, h1, h2]
                refine .ok _ (shr_set ?_) trivial
                simp [Cell.below, U.below, layF]
              by_cases hk0 : ks = []
              · have he : ks.isEmpty = true := by rw [hk0]; rfl
                have hmt : ∀ S : Store, mkT [.d (.tup cs)] S = .ok (.d (.tup [.tup cs])) S := fun S => rfl
                have hix : ∀ S : Store, ixU (.d (.tup [.tup cs])) (.d (.int 0)) S = .ok (.d (.tup cs)) S := fun S => rfl
                simp only [he, bind_ok, bind_err, bind_bad, fl_ok, fl_err, fl_bad, seq_nx, seq_rt, seq_err, seq_bk, seq_ct, seq_bad, bodyR_rt, bodyR_nx, bodyR_err, asB_bl, tru_bl, iff_f, iff_t, leU_int, ltU_int, gtU_int, geU_int, subU_int, addU_int, eqU_int, neU_int, tuple_two, mkE_one, len_tup, len_lst, c1_one, c2_two, rd0, rdS, norm_d, dat_d, gFl_none, gRs_none, List.set_cons_zero, List.set_cons_succ, Bool.not_true, Bool.not_false, Bool.false_eq_true, ↓reduceIte, nc0, nc, ncS, nk0, nk, nkS, nr0, nr, nrS, p1, hfd, l1, optR, id, hmt, hno1]
                rw [hse _ _ _ (by simp)]
                simp only [bind_ok, bind_err, bind_bad, fl_ok, fl_err, fl_bad, seq_nx, seq_rt, seq_err, seq_bk, seq_ct, seq_bad, bodyR_rt, bodyR_nx, bodyR_err, asB_bl, tru_bl, iff_f, iff_t, leU_int, ltU_int, gtU_int, geU_int, subU_int, addU_int, eqU_int, neU_int, tuple_two, mkE_one, len_tup, len_lst, c1_one, c2_two, rd0, rdS, norm_d, dat_d, gFl_none, gRs_none, List.set_cons_zero, List.set_cons_succ, Bool.not_true, Bool.not_false, Bool.false_eq_true, ↓reduceIte, nc0, nc, ncS, nk0, nk, nkS, nr0, nr, nrS, p2, hfd, l2, optR, id, hno1, hix]
                rw [hse _ _ _ (by simp)]
                simp only [bind_ok, bind_err, bind_bad, fl_ok, fl_err, fl_bad, seq_nx, seq_rt, seq_err, seq_bk, seq_ct, seq_bad, bodyR_rt, bodyR_nx, bodyR_err, asB_bl, tru_bl, iff_f, iff_t, leU_int, ltU_int, gtU_int, geU_int, subU_int, addU_int, eqU_int, neU_int, tuple_two, mkE_one, len_tup, len_lst, c1_one, c2_two, rd0, rdS, norm_d, dat_d, gFl_none, gRs_none, List.set_cons_zero, List.set_cons_succ, Bool.not_true, Bool.not_false, Bool.false_eq_true, ↓reduceIte, nc0, nc, ncS, nk0, nk, nkS, nr0, nr, nrS, p3, hno1, htr]
                rw [hse _ _ _ (by simp)]
                simp only [bind_ok, bind_err, bind_bad, fl_ok, fl_err, fl_bad, seq_nx, seq_rt, seq_err, seq_bk, seq_ct, seq_bad, bodyR_rt, bodyR_nx, bodyR_err, asB_bl, tru_bl, iff_f, iff_t, leU_int, ltU_int, gtU_int, geU_int, subU_int, addU_int, eqU_int, neU_int, tuple_two, mkE_one, len_tup, len_lst, c1_one, c2_two, rd0, rdS, norm_d, dat_d, gFl_none, gRs_none, List.set_cons_zero, List.set_cons_succ, Bool.not_true, Bool.not_false, Bool.false_eq_true, ↓reduceIte, nc0, nc, ncS, nk0, nk, nkS, nr0, nr, nrS, p4]
                exact fin _ _ (by rw [if_pos hk0]) (by rw [if_pos hk0]; rfl)
              · obtain ⟨k0, kt, hkc⟩ := List.exists_cons_of_ne_nil hk0
                have he : ks.isEmpty = false := by rw [hkc]; rfl
                have hix : ∀ S : Store, ixU (.d (.tup ks)) (.d (.int 0)) S = .ok (.d k0) S := fun S => by
                  show optR (atI ks ((0 : Nat) : Int)) .d S = _
                  rw [hkc, atI_nat (show (k0 :: kt)[0]? = some k0 from rfl)]
                  rfl
                simp only [he, bind_ok, bind_err, bind_bad, fl_ok, fl_err, fl_bad, seq_nx, seq_rt, seq_err, seq_bk, seq_ct, seq_bad, bodyR_rt, bodyR_nx, bodyR_err, asB_bl, tru_bl, iff_f, iff_t, leU_int, ltU_int, gtU_int, geU_int, subU_int, addU_int, eqU_int, neU_int, tuple_two, mkE_one, len_tup, len_lst, c1_one, c2_two, rd0, rdS, norm_d, dat_d, gFl_none, gRs_none, List.set_cons_zero, List.set_cons_succ, Bool.not_true, Bool.not_false, Bool.false_eq_true, ↓reduceIte, nc0, nc, ncS, nk0, nk, nkS, nr0, nr, nrS, p1, hno1]
                rw [hse _ _ _ (by simp)]
                simp only [bind_ok, bind_err, bind_bad, fl_ok, fl_err, fl_bad, seq_nx, seq_rt, seq_err, seq_bk, seq_ct, seq_bad, bodyR_rt, bodyR_nx, bodyR_err, asB_bl, tru_bl, iff_f, iff_t, leU_int, ltU_int, gtU_int, geU_int, subU_int, addU_int, eqU_int, neU_int, tuple_two, mkE_one, len_tup, len_lst, c1_one, c2_two, rd0, rdS, norm_d, dat_d, gFl_none, gRs_none, List.set_cons_zero, List.set_cons_succ, Bool.not_true, Bool.not_false, Bool.false_eq_true, ↓reduceIte, nc0, nc, ncS, nk0, nk, nkS, nr0, nr, nrS, p2, hfd, l2, optR, id, hno1, hix]
                rw [hse _ _ _ (by simp)]
                simp only [bind_ok, bind_err, bind_bad, fl_ok, fl_err, fl_bad, seq_nx, seq_rt, seq_err, seq_bk, seq_ct, seq_bad, bodyR_rt, bodyR_nx, bodyR_err, asB_bl, tru_bl, iff_f, iff_t, leU_int, ltU_int, gtU_int, geU_int, subU_int, addU_int, eqU_int, neU_int, tuple_two, mkE_one, len_tup, len_lst, c1_one, c2_two, rd0, rdS, norm_d, dat_d, gFl_none, gRs_none, List.set_cons_zero, List.set_cons_succ, Bool.not_true, Bool.not_false, Bool.false_eq_true, ↓reduceIte, nc0, nc, ncS, nk0, nk, nkS, nr0, nr, nrS, p3, hno1, htr]
                rw [hse _ _ _ (by simp)]
                simp only [bind_ok, bind_err, bind_bad, fl_ok, fl_err, fl_bad, seq_nx, seq_rt, seq_err, seq_bk, seq_ct, seq_bad, bodyR_rt, bodyR_nx, bodyR_err, asB_bl, tru_bl, iff_f, iff_t, leU_int, ltU_int, gtU_int, geU_int, subU_int, addU_int, eqU_int, neU_int, tuple_two, mkE_one, len_tup, len_lst, c1_one, c2_two, rd0, rdS, norm_d, dat_d, gFl_none, gRs_none, List.set_cons_zero, List.set_cons_succ, Bool.not_true, Bool.not_false, Bool.false_eq_true, ↓reduceIte, nc0, nc, ncS, nk0, nk, nkS, nr0, nr, nrS, p4]
                exact fin _ _ (by rw [if_neg hk0]) (by rw [if_neg hk0, hkc]; rfl)
            · exact ⟨[], rs, _, _, _, rfl, rfl, rfl, rfl, rfl⟩
          · exact ⟨[], ks, none, none, rfl, rfl, rfl, rfl, (fun d hd => nomatch hd), rfl⟩
      · exact ⟨rfl, n :: cs, none, rfl, fun d hd => by rcases List.mem_cons.mp hd with rfl | hd; exact hpn; exact hpc.ni d hd, rfl, rfl⟩
    · exact .bad _
end
end KL
set_option Elab.async false
set_option linter.all false
set_option maxRecDepth 100000
set_option maxHeartbeats 4000000
namespace KL
open PySem PySem.Spec PyProof.Rows L2 DL
open He (ga ma)
open TL (tl)
def TakeOk (f : Fn) : Prop := ∀ (n : Nat) (m : Int) (S : Store), Bag S n → 0 < m → m ≤ 1000000 → ∃ (j : Nat) (S' : Store), f [.r n, .d (.int m)] S = .ok (.d (.int j)) S' ∧ Drew n S S' ∧ (j : Int) < m
def OfOk (f : Fn) : Prop := ∀ (n : Nat) (u : U) (ds : List D) (S : Store), Bag S n → SeqU S ds u → u ≠ .r n → ds ≠ [] → ds.length ≤ 1000 → ∃ (d : D) (S' : Store), f [.r n, u] S = .ok (.d d) S' ∧ Drew n S S' ∧ d ∈ ds
section
variable {P : Program} {w : World} {K : PySem.W.Frag} {mg : Str → Option Value} {base : Heap}
theorem sc_law_take : FnScope ["_law_bag_here", "_law_many", "_law_digit", "_law_mixed"] ["_law_bag_here", "_law_many"] (defScope s_law_take) := ⟨rfl, rfl, rfl, by decide +kernel, rfl, by decide +kernel, by decide +kernel⟩
theorem dk_take (T : Txt P K mg) : ∃ f, FM P w K mg base 1 "_law_take" ["_law_bag_here", "_law_many"] f ∧ TakeOk f := by
  refine Exists.imp (fun f hf => ⟨hf.1, fun n m S b m0 m1 => ?_⟩) (okDraw (P := P) (w := w) (base := base) (k := 0) (fun us _ => ∃ n m, us = [.r n, .d (.int m)] ∧ 0 < m ∧ m ≤ 1000000) (fun us _ y => ∃ (j : Nat), y = .int j ∧ ∀ n m, us = [.r n, .d (.int m)] → (j : Int) < m) T.F_law_take sc_law_take (fun _ _ _ _ _ _ us hl => match us, hl with | [_, _], _ => rfl) (fun cdv A outer s H E hA hr => (pdss_cons (pds_if (pdt_cmp od_gt (pd_ix ixd (pd_pv 0 (pv 0)) pd_int) pd_int (nomark _)) (pdss_cons (pds_set (i := 2) sc_law_take.nd rfl (by first | exact Or.inl rfl | exact Or.inr rfl) (pd_op od_mod (pd_callTy cd_int T.m_int (pda_cons (pd_ix ixd (pd_pv 0 (pv 0)) pd_int) pda_nil)) (pd_pv 1 (pv 1))))
  (pdss_cons (pds_asg (pd_op od_div (pd_ix ixd (pd_pv 0 (pv 0)) pd_int) (pd_pv 1 (pv 1))) (pdg_sub (pd_pv 0 (pv 0)) pd_int (fun h1 h2 => pg_sub h1 h2 set_list)))
  (pdss_one (pds_ret (pd_pv 2 (pv 2)))))) pdss_nil)
  (pdss_cons (pds_asg (pd_op od_add (pd_ix ixd (pd_pv 0 (pv 0)) pd_int) pd_int) (pdg_sub (pd_pv 0 (pv 0)) pd_int (fun h1 h2 => pg_sub h1 h2 set_list)))
  (pdss_cons (pds_set (i := 3) sc_law_take.nd rfl (by first | exact Or.inl rfl | exact Or.inr rfl) (pd_op od_mod (pd_callTy cd_int T.m_int (pda_cons (pd_op od_add (pd_ix ixd (pd_pv 0 (pv 0)) pd_int) (pd_op od_mul pd_int (pd_ix ixd (pd_pv 0 (pv 0)) pd_int))) pda_nil)) pd_int))
  (pdss_cons (pds_set (i := 3) sc_law_take.nd rfl (by first | exact Or.inl rfl | exact Or.inr rfl) (pd_op od_mod (pd_callTy cd_int T.m_int (pda_cons (pd_op od_add (pd_op od_add (pd_op od_mul (pd_pv 3 (pv 3)) (pd_pv 3 (pv 3))) (pd_op od_mul pd_int (pd_pv 3 (pv 3)))) (pd_op od_mul pd_int (pd_ix ixd (pd_pv 0 (pv 0)) pd_int))) pda_nil)) pd_int))
  (pdss_cons (pds_set (i := 3) sc_law_take.nd rfl (by first | exact Or.inl rfl | exact Or.inr rfl) (pd_op od_mod (pd_callTy cd_int T.m_int (pda_cons (pd_op od_add (pd_op od_pow (pd_op od_add (pd_op od_div (pd_pv 3 (pv 3)) pd_int) (pd_ix ixd (pd_pv 0 (pv 0)) pd_int)) pd_int) (pd_op od_mul pd_int (pd_ix ixd (pd_pv 0 (pv 0)) pd_int))) pda_nil)) pd_int))
  (pdss_one (pds_ret (pd_op od_mod (pd_callTy cd_int T.m_int (pda_cons (pd_op od_div (pd_pv 3 (pv 3)) pd_int) pda_nil)) (pd_pv 1 (pv 1))))))))))) (fun us S hl hb hp => ?_))
  · obtain ⟨y, S', e, dr, j, rfl, hj⟩ := hf.2 [.r n, .d (.int m)] S rfl b ⟨n, m, rfl, m0, m1⟩
    exact ⟨j, S', e, dr, hj n m rfl⟩
  · obtain ⟨n, m, rfl, m0, m1⟩ := hp
    have hb' : Bag S n := hb
    obtain ⟨c0, hc, d, mm, k, rfl, d0, mm0, mm1, k0⟩ := hb
    have hl' := hb'.lt
    have hn : ∀ d mm k : Int, norm (S.set n (.lst [.d (.int d), .d (.int mm), .d (.int k)])) (.r n) = .r n := fun d mm k => by simp only [norm, List.getElem?_set_self hl']
    have hi : ∀ d mm k : Int, ∀ i : Int, ixU (.r n) (.d (.int i)) (S.set n (.lst [.d (.int d), .d (.int mm), .d (.int k)])) = optR (atI [U.d (.int d), .d (.int mm), .d (.int k)] i) id (S.set n (.lst [.d (.int d), .d (.int mm), .d (.int k)])) := fun d mm k i => by simp only [ixU, List.getElem?_set_self hl']
    have a0 : ∀ d mm k : Int, atI [U.d (.int d), .d (.int mm), .d (.int k)] 0 = some (.d (.int d)) := fun _ _ _ => rfl
    have a1 : ∀ d mm k : Int, atI [U.d (.int d), .d (.int mm), .d (.int k)] 1 = some (.d (.int mm)) := fun _ _ _ => rfl
    have a2 : ∀ d mm k : Int, atI [U.d (.int d), .d (.int mm), .d (.int k)] 2 = some (.d (.int k)) := fun _ _ _ => rfl
    have s0 : ∀ d mm k v : Int, setU (.r n) (.d (.int 0)) (.d (.int v)) (S.set n (.lst [.d (.int d), .d (.int mm), .d (.int k)])) = some (S.set n (.lst [.d (.int v), .d (.int mm), .d (.int k)])) := fun d mm k v => by
      simp only [setU, cellL, List.getElem?_set_self hl']
      exact congrArg some (List.set_set ..)
    have s2 : ∀ d mm k v : Int, setU (.r n) (.d (.int 2)) (.d (.int v)) (S.set n (.lst [.d (.int d), .d (.int mm), .d (.int k)])) = some (S.set n (.lst [.d (.int d), .d (.int mm), .d (.int v)])) := fun d mm k v => by
      simp only [setU, cellL, List.getElem?_set_self hl']
      exact congrArg some (List.set_set ..)
    have hS : S = S.set n (.lst [.d (.int d), .d (.int mm), .d (.int k)]) := by
      obtain ⟨hl2, e'⟩ := List.getElem?_eq_some_iff.mp hc
      have e2 : S.set n S[n] = S := List.set_getElem_self hl'
      exact e2.symm.trans (congrArg (S.set n) e')
    rw [show startE (["_law_bag_here", "_law_many", "_law_digit", "_law_mixed"] : List Str).length [U.r n, .d (.int m)] = [some (.r n), some (.d (.int m)), none, none] from rfl]
    have hint : ∀ (i : Int) (S : Store), intU (.d (.int i)) S = .ok (.d (.int i)) S := fun _ _ => rfl
    have hmod : ∀ (i j : Int) (S : Store), 0 < j → modU (.d (.int i)) (.d (.int j)) S = .ok (.d (.int (i % j))) S := fun i j S h => if_pos (decide_eq_true h)
    have hdiv : ∀ (i j : Int) (S : Store), 0 < j → j ≤ 10 ^ 60 → divU (.d (.int i)) (.d (.int j)) S = .ok (.d (.int (i / j))) S := fun i j S h h' => if_pos (by rw [Bool.and_eq_true]; exact ⟨decide_eq_true h, decide_eq_true h'⟩)
    have hmul : ∀ (i j : Int) (S : Store), (-(2 ^ 64) < i ∧ i < 2 ^ 64) → mulU (.d (.int i)) (.d (.int j)) S = .ok (.d (.int (i * j))) S := fun i j S h => if_pos (by unfold mulC; rw [Bool.or_eq_true, Bool.and_eq_true]; exact .inl ⟨decide_eq_true h.1, decide_eq_true h.2⟩)
    have hpow : ∀ (i : Int) (S : Store), 0 ≤ i → i < 2 ^ 64 → powU (.d (.int i)) (.d (.int 2)) S = .ok (.d (.int (i ^ 2))) S := fun i S h h' => if_pos (by unfold powC; rw [Bool.and_eq_true, Bool.and_eq_true]; exact ⟨by decide, by decide, decide_eq_true (by omega)⟩)
    by_cases hd : 0 < d
    · refine ⟨.int (d % m), S.set n (.lst [.d (.int (d / m)), .d (.int mm), .d (.int k)]), [], ?_, ⟨_, ⟨_, _, _, rfl, Int.ediv_nonneg d0 (by omega), mm0, mm1, k0⟩, rfl⟩, (d % m).toNat, by rw [Int.toNat_of_nonneg (Int.emod_nonneg _ (by omega))], fun n' m' e => ?_⟩
      · rw [List.append_nil]
        rw [hS]
        simp only [bind_ok, bind_err, bind_bad, fl_ok, fl_err, fl_bad, seq_nx, seq_rt, seq_err, seq_bk, seq_ct, seq_bad, bodyR_rt, bodyR_nx, bodyR_err, asB_bl, tru_bl, iff_f, iff_t, leU_int, ltU_int, gtU_int, geU_int, subU_int, addU_int, eqU_int, neU_int, tuple_two, mkE_one, len_tup, len_lst, c1_one, c2_two, rd0, rdS, norm_d, dat_d, gFl_none, gRs_none, List.set_cons_zero, List.set_cons_succ, Bool.not_true, Bool.not_false, Bool.false_eq_true, ↓reduceIte, hn, hi, a0, optR, id, decide_eq_true hd, hint, hmod _ _ _ m0, hdiv _ _ _ m0 (by omega : m ≤ 10 ^ 60), s0, List.set_set]
      · simp only [List.cons.injEq, U.d.injEq, D.int.injEq] at e
        obtain ⟨_, rfl, _⟩ := e
        rw [Int.toNat_of_nonneg (Int.emod_nonneg _ (by omega))]
        exact Int.emod_lt_of_pos _ m0
    · have dd : ¬ 0 < d := hd
      generalize hx1 : (mm + 48271 * (k + 1)) % 2147483629 = x1
      have x10 : 0 ≤ x1 := by rw [← hx1]; exact Int.emod_nonneg _ (by decide)
      have x11 : x1 < 2147483629 := by rw [← hx1]; exact Int.emod_lt_of_pos _ (by decide)
      generalize hx2 : (x1 * x1 + 7 * x1 + 611953 * (k + 1)) % 2305843009213693951 = x2
      have x20 : 0 ≤ x2 := by rw [← hx2]; exact Int.emod_nonneg _ (by decide)
      have x21 : x2 < 2305843009213693951 := by rw [← hx2]; exact Int.emod_lt_of_pos _ (by decide)
      generalize hx3 : ((x2 / 64 + mm) ^ 2 + 104729 * (k + 1)) % 1152921504606846883 = x3
      refine ⟨.int (x3 / 4096 % m), S.set n (.lst [.d (.int d), .d (.int mm), .d (.int (k + 1))]), [], ?_, ⟨_, ⟨_, _, _, rfl, d0, mm0, mm1, by omega⟩, rfl⟩, (x3 / 4096 % m).toNat, by rw [Int.toNat_of_nonneg (Int.emod_nonneg _ (by omega))], fun n' m' e => ?_⟩
      · rw [List.append_nil]
        rw [hS]
        simp only [bind_ok, bind_err, bind_bad, fl_ok, fl_err, fl_bad, seq_nx, seq_rt, seq_err, seq_bk, seq_ct, seq_bad, bodyR_rt, bodyR_nx, bodyR_err, asB_bl, tru_bl, iff_f, iff_t, leU_int, ltU_int, gtU_int, geU_int, subU_int, addU_int, eqU_int, neU_int, tuple_two, mkE_one, len_tup, len_lst, c1_one, c2_two, rd0, rdS, norm_d, dat_d, gFl_none, gRs_none, List.set_cons_zero, List.set_cons_succ, Bool.not_true, Bool.not_false, Bool.false_eq_true, ↓reduceIte, hn, hi, a0, a1, a2, optR, id, decide_eq_false dd, hint, hmul _ _ _ (by decide : (-(2 ^ 64 : Int) < 48271 ∧ (48271 : Int) < 2 ^ 64)), hmod _ _ _ (by decide : (0 : Int) < 2147483629), hx1, s2, List.set_set]
        simp only [bind_ok, bind_err, bind_bad, fl_ok, fl_err, fl_bad, seq_nx, seq_rt, seq_err, seq_bk, seq_ct, seq_bad, bodyR_rt, bodyR_nx, bodyR_err, asB_bl, tru_bl, iff_f, iff_t, leU_int, ltU_int, gtU_int, geU_int, subU_int, addU_int, eqU_int, neU_int, tuple_two, mkE_one, len_tup, len_lst, c1_one, c2_two, rd0, rdS, norm_d, dat_d, gFl_none, gRs_none, List.set_cons_zero, List.set_cons_succ, Bool.not_true, Bool.not_false, Bool.false_eq_true, ↓reduceIte, hn, hi, a0, a1, a2, optR, id, hint, hmul x1 _ _ (by omega : (-(2 ^ 64 : Int) < x1 ∧ x1 < 2 ^ 64)), hmul 7 _ _ (by decide : (-(2 ^ 64 : Int) < 7 ∧ (7 : Int) < 2 ^ 64)), hmul 611953 _ _ (by decide : (-(2 ^ 64 : Int) < 611953 ∧ (611953 : Int) < 2 ^ 64)), hmod _ _ _ (by decide : (0 : Int) < 2305843009213693951), hx2]
        have hq : 0 ≤ x2 / 64 + mm ∧ x2 / 64 + mm < 2 ^ 64 := by omega
        simp only [bind_ok, bind_err, bind_bad, fl_ok, fl_err, fl_bad, seq_nx, seq_rt, seq_err, seq_bk, seq_ct, seq_bad, bodyR_rt, bodyR_nx, bodyR_err, asB_bl, tru_bl, iff_f, iff_t, leU_int, ltU_int, gtU_int, geU_int, subU_int, addU_int, eqU_int, neU_int, tuple_two, mkE_one, len_tup, len_lst, c1_one, c2_two, rd0, rdS, norm_d, dat_d, gFl_none, gRs_none, List.set_cons_zero, List.set_cons_succ, Bool.not_true, Bool.not_false, Bool.false_eq_true, ↓reduceIte, hn, hi, a0, a1, a2, optR, id, hint, hdiv _ _ _ (by decide : (0 : Int) < 64) (by decide), hpow _ _ hq.1 hq.2, hmul 104729 _ _ (by decide : (-(2 ^ 64 : Int) < 104729 ∧ (104729 : Int) < 2 ^ 64)), hmod _ _ _ (by decide : (0 : Int) < 1152921504606846883), hx3]
        simp only [bind_ok, bind_err, bind_bad, fl_ok, fl_err, fl_bad, seq_nx, seq_rt, seq_err, seq_bk, seq_ct, seq_bad, bodyR_rt, bodyR_nx, bodyR_err, asB_bl, tru_bl, iff_f, iff_t, leU_int, ltU_int, gtU_int, geU_int, subU_int, addU_int, eqU_int, neU_int, tuple_two, mkE_one, len_tup, len_lst, c1_one, c2_two, rd0, rdS, norm_d, dat_d, gFl_none, gRs_none, List.set_cons_zero, List.set_cons_succ, Bool.not_true, Bool.not_false, Bool.false_eq_true, ↓reduceIte, hn, hint, hdiv _ _ _ (by decide : (0 : Int) < 4096) (by decide), hmod _ _ _ m0]
      · simp only [List.cons.injEq, U.d.injEq, D.int.injEq] at e
        obtain ⟨_, rfl, _⟩ := e
        rw [Int.toNat_of_nonneg (Int.emod_nonneg _ (by omega))]
        exact Int.emod_lt_of_pos _ m0
theorem sc_law_of : FnScope ["_law_bag_here", "_law_some"] ["_law_bag_here", "_law_some"] (defScope s_law_of) := ⟨rfl, rfl, rfl, by decide +kernel, rfl, by decide +kernel, by decide +kernel⟩
theorem dk_of (T : Txt P K mg) : ∃ f, FM P w K mg base 2 "_law_of" ["_law_bag_here", "_law_some"] f ∧ OfOk f := by
  obtain ⟨takeF, F_law_take, hT⟩ := dk_take (w := w) (base := base) T
  refine Exists.imp (fun f hf => ⟨hf.1, fun n u ds S b sq hn h0 h1 => ?_⟩) (okDraw (P := P) (w := w) (base := base) (k := 1) (fun us S => ∃ n u ds, us = [.r n, u] ∧ SeqU S ds u ∧ u ≠ .r n ∧ ds ≠ [] ∧ ds.length ≤ 1000) (fun us S y => ∀ n u ds, us = [.r n, u] → SeqU S ds u → y ∈ ds) T.F_law_of sc_law_of (fun _ _ _ _ _ _ us hl => match us, hl with | [_, _], _ => rfl) (fun cdv A outer s H E hA hr => (pdss_one (pds_ret (pd_ix ixd (pd_pv 1 (pv 1)) (pd_call hA F_law_take (hr.mono (by decide)) (takes_of rfl rfl rfl rfl) (pda_cons (pd_pv 0 (pv 0)) (pda_cons (pd_callB cd_len T.m_len (pda_cons (pd_pv 1 (pv 1)) pda_nil)) pda_nil))))))) (fun us S hl hb hp => ?_))
  · obtain ⟨y, S', e, dr, hj⟩ := hf.2 [.r n, u] S rfl b ⟨n, u, ds, rfl, sq, hn, h0, h1⟩
    exact ⟨y, S', e, dr, hj n u ds rfl sq⟩
  · obtain ⟨n, u, ds, rfl, sq, hn, h0, h1⟩ := hp
    have hb' : Bag S n := hb
    have hpos : 0 < ds.length := by cases ds with | nil => exact absurd rfl h0 | cons _ _ => exact Nat.zero_lt_succ _
    obtain ⟨j, S1, e1, d1, hj⟩ := hT n (ds.length : Nat) S hb' (by omega) (by omega)
    have hj' : j < ds.length := by omega
    rw [show startE (["_law_bag_here", "_law_some"] : List Str).length [U.r n, u] = [some (.r n), some u] from rfl]
    have hix := (sq.drew d1 hn).ix (List.getElem?_eq_getElem hj')
    refine ⟨ds[j], S1, [], ?_, d1, fun n' u' ds' e sq' => ?_⟩
    · rw [List.append_nil]
      simp only [bind_ok, bind_err, bind_bad, fl_ok, fl_err, fl_bad, seq_nx, seq_rt, seq_err, seq_bk, seq_ct, seq_bad, bodyR_rt, bodyR_nx, bodyR_err, asB_bl, tru_bl, iff_f, iff_t, leU_int, ltU_int, gtU_int, geU_int, subU_int, addU_int, eqU_int, neU_int, tuple_two, mkE_one, len_tup, len_lst, c1_one, c2_two, rd0, rdS, norm_d, dat_d, gFl_none, gRs_none, List.set_cons_zero, List.set_cons_succ, Bool.not_true, Bool.not_false, Bool.false_eq_true, ↓reduceIte, sq.norm, hb'.norm, sq.len, e1, (sq.drew d1 hn).norm, hix]
    · simp only [List.cons.injEq] at e
      obtain ⟨_, rfl, _⟩ := e
      rw [← sq.inj sq']
      exact List.getElem_mem hj'
theorem sc_law_bag : FnScope ["_law_script", "_law_at", "_law_cell", "_law_whole", "_law_one", "_law_digits"] ["_law_script", "_law_at"] (defScope s_law_bag) := ⟨rfl, rfl, rfl, by decide +kernel, rfl, by decide +kernel, by decide +kernel⟩
def BagOk (f : Fn) : Prop := ∀ (is : List Int) (a : Nat) (S : Store), a ≤ 1000 → ∃ c, f [.d (.lst (is.map .int)), .d (.int a)] S = .ok (.r S.length) (S ++ [c]) ∧ BagC c
theorem dk_bag (T : Txt P K mg) : ∃ f, FM P w K mg base 1 "_law_bag" ["_law_script", "_law_at"] f ∧ BagOk f := by
  refine Exists.imp (fun f hf => ⟨hf.1, fun is a S ha => ?_⟩) (okEx (P := P) (w := w) (base := base) (k := 0) (fun us _ => ∃ (is : List Int) (a : Nat), us = [.d (.lst (is.map .int)), .d (.int a)] ∧ a ≤ 1000) (fun us S r => ∃ c, r = .ok (.r S.length) (S ++ [c]) ∧ BagC c) T.F_law_bag sc_law_bag (fun _ _ _ _ _ _ us hl => match us, hl with | [_, _], _ => rfl) (fun cdv A outer s H E hA hr => (pdss_cons (pds_set (i := 2) sc_law_bag.nd rfl (by first | exact Or.inl rfl | exact Or.inr rfl) (pd_if (pdt_cmp od_lt (pd_pv 1 (pv 1)) (pd_callB cd_len T.m_len (pda_cons (pd_pv 0 (pv 0)) pda_nil)) (nomark _)) (pd_ix ixd (pd_pv 0 (pv 0)) (pd_pv 1 (pv 1))) pd_int))
  (pdss_cons (pds_set (i := 3) sc_law_bag.nd rfl (by first | exact Or.inl rfl | exact Or.inr rfl) pd_int)
  (pdss_cons (pds_for (passes_of rfl) rfl (pdi_any (pd_sl sld (pd_pv 0 (pv 0)) pdo_none (pdo_some pd_int))) (pdg_name (i := 4) sc_law_bag.nd rfl (by first | exact Or.inl rfl | exact Or.inr rfl)) (pdss_one (pds_set (i := 3) sc_law_bag.nd rfl (by first | exact Or.inl rfl | exact Or.inr rfl) (pd_op od_mod (pd_callTy cd_int T.m_int (pda_cons (pd_op od_add (pd_op od_mul (pd_pv 3 (pv 3)) pd_int) (pd_pv 4 (pv 4))) pda_nil)) pd_int))))
  (pdss_cons (pds_set (i := 5) sc_law_bag.nd rfl (by first | exact Or.inl rfl | exact Or.inr rfl) (pd_if (pdt_cmp od_ge (pd_callB cd_abs T.m_abs (pda_cons (pd_pv 2 (pv 2)) pda_nil)) (pd_op od_pow pd_int pd_int) (nomark _)) (pd_callB cd_abs T.m_abs (pda_cons (pd_pv 2 (pv 2)) pda_nil)) pd_int))
  (pdss_one (pds_ret (pd_lstM (pda_cons (pd_pv 5 (pv 5)) (pda_cons (pd_op od_add (pd_op od_add (pd_op od_mod (pd_callTy cd_int T.m_int (pda_cons (pd_pv 2 (pv 2)) pda_nil)) pd_int) (pd_pv 3 (pv 3))) (pd_op od_mul pd_int (pd_pv 1 (pv 1)))) (pda_cons pd_int pda_nil))))))))))) (fun us S hl hp => ?_))
  · exact hf.2 [.d (.lst (is.map .int)), .d (.int a)] S rfl ⟨is, a, rfl, ha⟩
  · obtain ⟨is, a, rfl, ha⟩ := hp
    rw [show startE (["_law_script", "_law_at", "_law_cell", "_law_whole", "_law_one", "_law_digits"] : List Str).length [U.d (.lst (is.map .int)), .d (.int a)] = [some (.d (.lst (is.map .int))), some (.d (.int a)), none, none, none, none] from rfl]
    simp only [bind_ok, bind_err, bind_bad, fl_ok, fl_err, fl_bad, seq_nx, seq_rt, seq_err, seq_bk, seq_ct, seq_bad, bodyR_rt, bodyR_nx, bodyR_err, asB_bl, tru_bl, iff_f, iff_t, leU_int, ltU_int, gtU_int, geU_int, subU_int, addU_int, eqU_int, neU_int, tuple_two, mkE_one, len_tup, len_lst, c1_one, c2_two, rd0, rdS, norm_d, dat_d, gFl_none, gRs_none, List.set_cons_zero, List.set_cons_succ, Bool.not_true, Bool.not_false, Bool.false_eq_true, ↓reduceIte, List.length_map]
    obtain ⟨c, hc⟩ : ∃ c : Int, (if decide ((a : Int) < (is.length : Int)) = true then ixU (U.d (D.lst (List.map D.int is))) (U.d (D.int ↑a)) S else Res.ok (U.d (D.int 0)) S) = .ok (.d (.int c)) S := by
      by_cases h : (a : Int) < (is.length : Int)
      · rw [if_pos (decide_eq_true h)]
        have h' : a < is.length := by omega
        exact ⟨is[a], (LstU.lst (S := S)).ix (by rw [List.getElem?_map, List.getElem?_eq_getElem h']; rfl)⟩
      · rw [if_neg (by simpa using h)]; exact ⟨0, rfl⟩
    rw [hc]
    have hsl : slU (.d (.lst (is.map .int))) none (some 63) S = .ok (.d (.lst (cutL (is.map .int) none (some 63)))) S := rfl
    have hit : ∀ ds : List D, iterU (.d (.lst ds)) S = .ok ⟨ds.map .d, none⟩ S := fun _ => rfl
    simp only [bind_ok, bind_err, bind_bad, fl_ok, fl_err, fl_bad, seq_nx, seq_rt, seq_err, seq_bk, seq_ct, seq_bad, bodyR_rt, bodyR_nx, bodyR_err, asB_bl, tru_bl, iff_f, iff_t, leU_int, ltU_int, gtU_int, geU_int, subU_int, addU_int, eqU_int, neU_int, tuple_two, mkE_one, len_tup, len_lst, c1_one, c2_two, rd0, rdS, norm_d, dat_d, gFl_none, gRs_none, List.set_cons_zero, List.set_cons_succ, Bool.not_true, Bool.not_false, Bool.false_eq_true, ↓reduceIte, asI_int, hsl, hit]
    refine loop (K := fun f => ExZ S _ (bodyR (f.seq _))) (I := fun us ρ S' => S' = S ∧ ∃ (h : Int) (v4 : Option U), (∀ u ∈ us, ∃ i, u = .d (.int i)) ∧ 0 ≤ h ∧ h < 2305843009213693951 ∧
      ρ = [some (.d (.lst (is.map .int))), some (.d (.int a)), some (.d (.int c)), some (.d (.int h)), v4, none]) ?_ ?_ ?_
    · rintro u us ρ S' ⟨rfl, h, v4, hus, h0, h1, rfl⟩
      obtain ⟨i, rfl⟩ := hus u List.mem_cons_self
      refine ⟨_, _, rfl, ?_⟩
      simp only [bind_ok, bind_err, bind_bad, fl_ok, fl_err, fl_bad, seq_nx, seq_rt, seq_err, seq_bk, seq_ct, seq_bad, bodyR_rt, bodyR_nx, bodyR_err, asB_bl, tru_bl, iff_f, iff_t, leU_int, ltU_int, gtU_int, geU_int, subU_int, addU_int, eqU_int, neU_int, tuple_two, mkE_one, len_tup, len_lst, c1_one, c2_two, rd0, rdS, norm_d, dat_d, gFl_none, gRs_none, List.set_cons_zero, List.set_cons_succ, Bool.not_true, Bool.not_false, Bool.false_eq_true, ↓reduceIte, mulU_r _ (by decide : (-(2 ^ 64 : Int) < 1000003 ∧ (1000003 : Int) < 2 ^ 64)), intU_int, modU_pos _ (by decide : (0 : Int) < 2305843009213693951)]
      exact ⟨trivial, _, _, fun w hw => hus w (List.mem_cons_of_mem _ hw), Int.emod_nonneg _ (by decide), Int.emod_lt_of_pos _ (by decide), rfl⟩
    · rintro ρ S' ⟨rfl, h, v4, hus, h0, h1, rfl⟩
      have hp : powU (.d (.int 10)) (.d (.int 18)) S' = .ok (.d (.int 1000000000000000000)) S' := rfl
      simp only [bind_ok, bind_err, bind_bad, fl_ok, fl_err, fl_bad, seq_nx, seq_rt, seq_err, seq_bk, seq_ct, seq_bad, bodyR_rt, bodyR_nx, bodyR_err, asB_bl, tru_bl, iff_f, iff_t, leU_int, ltU_int, gtU_int, geU_int, subU_int, addU_int, eqU_int, neU_int, tuple_two, mkE_one, len_tup, len_lst, c1_one, c2_two, rd0, rdS, norm_d, dat_d, gFl_none, gRs_none, List.set_cons_zero, List.set_cons_succ, Bool.not_true, Bool.not_false, Bool.false_eq_true, ↓reduceIte, absU_int, hp, intU_int, modU_pos _ (by decide : (0 : Int) < 2305843009213693951), mulU_l _ (by decide : (-(2 ^ 64 : Int) < 7919 ∧ (7919 : Int) < 2 ^ 64))]
      have m0 := Int.emod_nonneg c (show (2305843009213693951 : Int) ≠ 0 by decide)
      have m1 := Int.emod_lt_of_pos c (show (0 : Int) < 2305843009213693951 by decide)
      have mk : ∀ x y z : U, mkM [x, y, z] S' = .ok (.r S'.length) (S' ++ [.lst [x, y, z]]) := fun x y z => if_pos (show 3 ≤ sizeLine from sz5 (by decide))
      by_cases hb : (1000000000000000000 : Int) ≤ (if c < 0 then -c else c)
      · simp only [decide_eq_true hb, bind_ok, bind_err, bind_bad, fl_ok, fl_err, fl_bad, seq_nx, seq_rt, seq_err, seq_bk, seq_ct, seq_bad, bodyR_rt, bodyR_nx, bodyR_err, asB_bl, tru_bl, iff_f, iff_t, leU_int, ltU_int, gtU_int, geU_int, subU_int, addU_int, eqU_int, neU_int, tuple_two, mkE_one, len_tup, len_lst, c1_one, c2_two, rd0, rdS, norm_d, dat_d, gFl_none, gRs_none, List.set_cons_zero, List.set_cons_succ, Bool.not_true, Bool.not_false, Bool.false_eq_true, ↓reduceIte, mk]
        exact ⟨_, .refl _, _, rfl, _, _, _, rfl, by split <;> omega, by omega, by omega, by omega⟩
      · simp only [decide_eq_false hb, bind_ok, bind_err, bind_bad, fl_ok, fl_err, fl_bad, seq_nx, seq_rt, seq_err, seq_bk, seq_ct, seq_bad, bodyR_rt, bodyR_nx, bodyR_err, asB_bl, tru_bl, iff_f, iff_t, leU_int, ltU_int, gtU_int, geU_int, subU_int, addU_int, eqU_int, neU_int, tuple_two, mkE_one, len_tup, len_lst, c1_one, c2_two, rd0, rdS, norm_d, dat_d, gFl_none, gRs_none, List.set_cons_zero, List.set_cons_succ, Bool.not_true, Bool.not_false, Bool.false_eq_true, ↓reduceIte, mk]
        exact ⟨_, .refl _, _, rfl, _, _, _, rfl, by omega, by omega, by omega, by omega⟩
    · refine ⟨rfl, 7, none, fun u hu => ?_, by decide, by decide, rfl⟩
      obtain ⟨d, hd, rfl⟩ := List.mem_map.mp hu
      obtain ⟨i, _, rfl⟩ := List.mem_map.mp (cutL_mem hd)
      exact ⟨i, rfl⟩
end
end KL
set_option Elab.async false
set_option linter.all false
set_option maxRecDepth 100000
set_option maxHeartbeats 4000000
namespace KL
open PySem PySem.Spec PyProof.Rows L2 DL
open He (ga ma)
open TL (tl)
def NmS (z : Str) : Prop := NameL (tl z)
theorem NmS.asc {z : Str} (h : NmS z) : Asc z := fun c hc => by have := h.2.2 c hc; omega
/-- names in a list, not too many -/
structure Nms (S : Store) (n : Nat) (u : U) (zs : List Str) : Prop where
  at_ : LstU S (zs.map .str) u
  ne : u ≠ .r n
  ok : ∀ z ∈ zs, NmS z
  few : zs.length ≤ 1000
theorem Nms.drew {S S' : Store} {n : Nat} {u : U} {zs : List Str} (h : Nms S n u zs) (d : Drew n S S') : Nms S' n u zs := ⟨h.at_.drew d h.ne, h.ne, h.ok, h.few⟩
def NameOk (f : Fn) : Prop := ∀ (n : Nat) (u p : U) (zs ps : List Str) (S : Store), Bag S n → Nms S n u zs → Nms S n p ps → ∃ (z : Str) (S' : Store), f [.r n, u, p] S = .ok (.d (.str z)) S' ∧ Drew n S S' ∧ NmS z ∧ (zs.length < 26 → z ∉ zs)
section
variable {P : Program} {w : World} {K : PySem.W.Frag} {mg : Str → Option Value} {base : Heap}
theorem sc_law_name : FnScope ["_law_bag_here", "_law_taken", "_law_pool", "_law_letters", "_law_kind", "_law_word", "_law_turn", "_law_spot", "_law_first"] ["_law_bag_here", "_law_taken", "_law_pool"] (defScope s_law_name) := ⟨rfl, rfl, rfl, by decide +kernel, rfl, by decide +kernel, by decide +kernel⟩
theorem dk_name (T : Txt P K mg) : ∃ f, FM P w K mg base 3 "_law_name" ["_law_bag_here", "_law_taken", "_law_pool"] f ∧ NameOk f := by
  obtain ⟨takeF, F_law_take, hT⟩ := dk_take (w := w) (base := base) T
  obtain ⟨ofF, F_law_of, hO⟩ := dk_of (w := w) (base := base) T
  refine Exists.imp (fun f hf => ⟨hf.1, fun n u p zs ps S b hz hp => ?_⟩) (okDraw (P := P) (w := w) (base := base) (k := 2) (fun us S => ∃ n u p zs ps, us = [.r n, u, p] ∧ Nms S n u zs ∧ Nms S n p ps) (fun us S y => ∃ z, y = .str z ∧ NmS z ∧ ∀ n u p (zs : List Str), us = [.r n, u, p] → LstU S (zs.map .str) u → zs.length < 26 → z ∉ zs) T.F_law_name sc_law_name (fun _ _ _ _ _ _ us hl => match us, hl with | [_, _, _], _ => rfl) (fun cdv A outer s H E hA hr => (pdss_cons (pds_set (i := 3) sc_law_name.nd rfl (by first | exact Or.inl rfl | exact Or.inr rfl) pd_str)
  (pdss_cons (pds_set (i := 4) sc_law_name.nd rfl (by first | exact Or.inl rfl | exact Or.inr rfl) (pd_call hA F_law_take (hr.mono (by decide)) (takes_of rfl rfl rfl rfl) (pda_cons (pd_pv 0 (pv 0)) (pda_cons pd_int pda_nil))))
  (pdss_cons (pds_if (PDW.pt (pdw_and (pdt_cmp (od_eq hr) (pd_pv 4 (pv 4)) pd_int (nomark _)) (pdw_and1 (pdt_truth (pd_pv 2 (pv 2)))))) (pdss_cons (pds_set (i := 5) sc_law_name.nd rfl (by first | exact Or.inl rfl | exact Or.inr rfl) (pd_call hA F_law_of (hr.mono (by decide)) (takes_of rfl rfl rfl rfl) (pda_cons (pd_pv 0 (pv 0)) (pda_cons (pd_pv 2 (pv 2)) pda_nil))))
  (pdss_one (pds_if (pdt_cmp (od_notin hr) (pd_pv 5 (pv 5)) (pd_pv 1 (pv 1)) (by rfl)) (pdss_one (pds_ret (pd_pv 5 (pv 5)))) pdss_nil))) pdss_nil)
  (pdss_cons (pds_if (PDW.pt (pdw_and (pdt_cmp od_lt (pd_pv 4 (pv 4)) pd_int (nomark _)) (pdw_and1 (pdt_truth (pd_pv 1 (pv 1)))))) (pdss_one (pds_set (i := 5) sc_law_name.nd rfl (by first | exact Or.inl rfl | exact Or.inr rfl) (pd_call hA F_law_of (hr.mono (by decide)) (takes_of rfl rfl rfl rfl) (pda_cons (pd_pv 0 (pv 0)) (pda_cons (pd_pv 1 (pv 1)) pda_nil))))) (pdss_one (pds_set (i := 5) sc_law_name.nd rfl (by first | exact Or.inl rfl | exact Or.inr rfl) (pd_bm PySem.F.plainAttrs_str PySem.F.slot_str_join PySem.F.type_str_join md_join pd_str (pda_cons (pd_lc (own := [("_law_turn", 6)]) rfl sc_law_name.nd (pdi_range1 T.m_range (pda_cons (pd_op od_add pd_int (pd_call hA F_law_take (hr.mono (by decide)) (takes_of rfl rfl rfl rfl) (pda_cons (pd_pv 0 (pv 0)) (pda_cons pd_int pda_nil)))) pda_nil)) (blkOk_by (own := [("_law_turn", 6)]) (N := ["_law_bag_here", "_law_taken", "_law_pool", "_law_letters", "_law_kind", "_law_word", "_law_turn", "_law_spot", "_law_first"]) (sc := defScope s_law_name) (by decide +kernel)) (by decide) (fun _ _ _ _ _ => (pdg_name (i := 6) sc_law_name.nd rfl (by first | exact Or.inl rfl | exact Or.inr rfl))) (fun _ _ _ _ _ => pdts_nil) (fun _ _ _ _ _ => (pd_call hA F_law_of (hr.mono (by decide)) takes0 (pda_cons (pd_pv 0 (pv 0)) (pda_cons (pd_pv 3 (pv 3)) pda_nil))))) pda_nil)))))
  (pdss_cons (pds_par (i := 7) (j := 8) rfl sc_law_name.nd rfl rfl (by decide) rfl rfl (pda_cons (pd_call hA F_law_take (hr.mono (by decide)) (takes_of rfl rfl rfl rfl) (pda_cons (pd_pv 0 (pv 0)) (pda_cons (pd_callB cd_len T.m_len (pda_cons (pd_pv 5 (pv 5)) pda_nil)) pda_nil))) (pda_cons (pd_call hA F_law_take (hr.mono (by decide)) (takes_of rfl rfl rfl rfl) (pda_cons (pd_pv 0 (pv 0)) (pda_cons pd_int pda_nil))) pda_nil)) (fun h => ps_par (by rfl) sc_law_name.nd rfl rfl (by decide) rfl rfl h (by rfl)))
  (pdss_cons (pds_for (passes_of rfl) rfl (pdi_range1 T.m_range (pda_cons pd_int pda_nil)) (pdg_name (i := 6) sc_law_name.nd rfl (by first | exact Or.inl rfl | exact Or.inr rfl)) (pdss_cons (pds_set (i := 5) sc_law_name.nd rfl (by first | exact Or.inl rfl | exact Or.inr rfl) (pd_op od_add (pd_op od_add (pd_sl sld (pd_pv 5 (pv 5)) pdo_none (pdo_some (pd_pv 7 (pv 7)))) (pd_ix ixd (pd_pv 3 (pv 3)) (pd_op od_mod (pd_op od_add (pd_pv 8 (pv 8)) (pd_pv 6 (pv 6))) pd_int))) (pd_sl sld (pd_pv 5 (pv 5)) (pdo_some (pd_op od_add (pd_pv 7 (pv 7)) pd_int)) pdo_none)))
  (pdss_one (pds_if (pdt_cmp (od_notin hr) (pd_pv 5 (pv 5)) (pd_pv 1 (pv 1)) (by rfl)) (pdss_one (pds_ret (pd_pv 5 (pv 5)))) pdss_nil))))
  (pdss_one (pds_ret (pd_pv 5 (pv 5))))))))))) (fun us S hl hb hp => ?_))
  · obtain ⟨y, S', e, dr, z, rfl, h, h2⟩ := hf.2 [.r n, u, p] S rfl b ⟨n, u, p, zs, ps, rfl, hz, hp⟩
    exact ⟨z, S', e, dr, h, h2 n u p zs rfl hz.at_⟩
  · obtain ⟨n, u, p, zs, ps, rfl, hz, hp⟩ := hp
    have hb : Bag S n := hb
    refine DrawZ.mono (po := fun y => ∃ z, y = .str z ∧ NmS z ∧ (zs.length < 26 → z ∉ zs)) ?_ (fun y ⟨z, h1, h2, h3⟩ => ⟨z, h1, h2, fun n' u' p' zs' e h => by
      simp only [List.cons.injEq] at e
      obtain ⟨_, rfl, _⟩ := e
      rw [← strs_inj (hz.at_.inj h)]
      exact h3⟩)
    show DrawZ n S _ _
    rw [show startE (["_law_bag_here", "_law_taken", "_law_pool", "_law_letters", "_law_kind", "_law_word", "_law_turn", "_law_spot", "_law_first"] : List Str).length [U.r n, u, p] = [some (.r n), some u, some p, none, none, none, none, none, none] from rfl]
    obtain ⟨kd, S1, e1, d1, hk⟩ := hT n 4 S hb (by decide) (by decide)
    have b1 := d1.bag hb
    have z1 := hz.drew d1
    have p1 := hp.drew d1
    have zasc : ∀ z ∈ zs, Asc z := fun z h => (hz.ok z h).asc
    have habc : (Str.ofString "abcdefghijklmnopqrstuvwxyz") = abc := rfl
    simp only [bind_ok, bind_err, bind_bad, fl_ok, fl_err, fl_bad, seq_nx, seq_rt, seq_err, seq_bk, seq_ct, seq_bad, bodyR_rt, bodyR_nx, bodyR_err, asB_bl, tru_bl, iff_f, iff_t, leU_int, ltU_int, gtU_int, geU_int, subU_int, addU_int, eqU_int, neU_int, tuple_two, mkE_one, len_tup, len_lst, c1_one, c2_two, rd0, rdS, norm_d, dat_d, gFl_none, gRs_none, List.set_cons_zero, List.set_cons_succ, Bool.not_true, Bool.not_false, Bool.false_eq_true, ↓reduceIte, hb.norm, e1, b1.norm, z1.at_.norm, p1.at_.norm, p1.at_.tru, habc]
    -- one of the pool
    refine seq_cut (Z := DrawZ n S _) (I := fun ρ S' => Drew n S S' ∧ ∃ v5 : Option U, ρ = [some (.r n), some u, some p, some (.d (.str abc)), some (.d (.int kd)), v5, none, none, none]) ?_ ?_
    · by_cases hk0 : (kd : Int) = 0 ∧ ps ≠ []
      · obtain ⟨hk0, hps⟩ := hk0
        have he : (ps.map D.str).isEmpty = false := by cases ps with | nil => exact absurd rfl hps | cons _ _ => rfl
        obtain ⟨y, S2, e2, d2, hy⟩ := hO n p (ps.map .str) S1 b1 (.of p1.at_) hp.ne (by simpa using hps) (by rw [List.length_map]; exact hp.few)
        obtain ⟨wd, hw, rfl⟩ := List.mem_map.mp hy
        have z2 := z1.drew d2
        simp only [decide_eq_true hk0, he, bind_ok, bind_err, bind_bad, fl_ok, fl_err, fl_bad, seq_nx, seq_rt, seq_err, seq_bk, seq_ct, seq_bad, bodyR_rt, bodyR_nx, bodyR_err, asB_bl, tru_bl, iff_f, iff_t, leU_int, ltU_int, gtU_int, geU_int, subU_int, addU_int, eqU_int, neU_int, tuple_two, mkE_one, len_tup, len_lst, c1_one, c2_two, rd0, rdS, norm_d, dat_d, gFl_none, gRs_none, List.set_cons_zero, List.set_cons_succ, Bool.not_true, Bool.not_false, Bool.false_eq_true, ↓reduceIte, b1.norm, p1.at_.norm, e2, z2.at_.norm, z2.at_.isIn (neg := true) (hp.ok wd hw).asc zasc]
        by_cases hin : wd ∈ zs
        · simp only [decide_eq_true hin, inB, bind_ok, bind_err, bind_bad, fl_ok, fl_err, fl_bad, seq_nx, seq_rt, seq_err, seq_bk, seq_ct, seq_bad, bodyR_rt, bodyR_nx, bodyR_err, asB_bl, tru_bl, iff_f, iff_t, leU_int, ltU_int, gtU_int, geU_int, subU_int, addU_int, eqU_int, neU_int, tuple_two, mkE_one, len_tup, len_lst, c1_one, c2_two, rd0, rdS, norm_d, dat_d, gFl_none, gRs_none, List.set_cons_zero, List.set_cons_succ, Bool.not_true, Bool.not_false, Bool.false_eq_true, ↓reduceIte]
          exact .inl ⟨_, _, rfl, d1.trans d2, _, rfl⟩
        · simp only [decide_eq_false hin, inB, bind_ok, bind_err, bind_bad, fl_ok, fl_err, fl_bad, seq_nx, seq_rt, seq_err, seq_bk, seq_ct, seq_bad, bodyR_rt, bodyR_nx, bodyR_err, asB_bl, tru_bl, iff_f, iff_t, leU_int, ltU_int, gtU_int, geU_int, subU_int, addU_int, eqU_int, neU_int, tuple_two, mkE_one, len_tup, len_lst, c1_one, c2_two, rd0, rdS, norm_d, dat_d, gFl_none, gRs_none, List.set_cons_zero, List.set_cons_succ, Bool.not_true, Bool.not_false, Bool.false_eq_true, ↓reduceIte]
          exact .inr ⟨_, _, rfl, drawZ (d1.trans d2) ⟨wd, rfl, hp.ok wd hw, fun _ => hin⟩⟩
      · have : (if decide ((kd : Int) = 0) = true then Res.ok (!(List.map D.str ps).isEmpty) S1 else Res.ok false S1) = .ok false S1 := by
          by_cases h0 : (kd : Int) = 0
          · have : ps = [] := by
              cases ps with
              | nil => rfl
              | cons _ _ => exact absurd ⟨h0, by simp⟩ hk0
            rw [if_pos (decide_eq_true h0), this]; rfl
          · rw [if_neg (by simpa using h0)]
        rw [this]
        simp only [bind_ok, bind_err, bind_bad, fl_ok, fl_err, fl_bad, seq_nx, seq_rt, seq_err, seq_bk, seq_ct, seq_bad, bodyR_rt, bodyR_nx, bodyR_err, asB_bl, tru_bl, iff_f, iff_t, leU_int, ltU_int, gtU_int, geU_int, subU_int, addU_int, eqU_int, neU_int, tuple_two, mkE_one, len_tup, len_lst, c1_one, c2_two, rd0, rdS, norm_d, dat_d, gFl_none, gRs_none, List.set_cons_zero, List.set_cons_succ, Bool.not_true, Bool.not_false, Bool.false_eq_true, ↓reduceIte]
        exact .inl ⟨_, _, rfl, d1, _, rfl⟩
    rintro ρ S2 ⟨d2, v5, rfl⟩
    clear b1 z1 p1 e1 d1 S1
    have b2 := d2.bag hb
    have z2 := hz.drew d2
    simp only [bind_ok, bind_err, bind_bad, fl_ok, fl_err, fl_bad, seq_nx, seq_rt, seq_err, seq_bk, seq_ct, seq_bad, bodyR_rt, bodyR_nx, bodyR_err, asB_bl, tru_bl, iff_f, iff_t, leU_int, ltU_int, gtU_int, geU_int, subU_int, addU_int, eqU_int, neU_int, tuple_two, mkE_one, len_tup, len_lst, c1_one, c2_two, rd0, rdS, norm_d, dat_d, gFl_none, gRs_none, List.set_cons_zero, List.set_cons_succ, Bool.not_true, Bool.not_false, Bool.false_eq_true, ↓reduceIte, b2.norm, z2.at_.norm, z2.at_.tru]
    -- a taken name, or letters
    refine seq_cut (Z := DrawZ n S _) (I := fun ρ S' => Drew n S S' ∧ ∃ z0 : Str, NmS z0 ∧ ρ = [some (.r n), some u, some p, some (.d (.str abc)), some (.d (.int kd)), some (.d (.str z0)), none, none, none]) ?_ ?_
    · by_cases hk0 : (kd : Int) < 2 ∧ zs ≠ []
      · obtain ⟨hk0, hps⟩ := hk0
        have he : (zs.map D.str).isEmpty = false := by cases zs with | nil => exact absurd rfl hps | cons _ _ => rfl
        obtain ⟨y, S3, e3, d3, hy⟩ := hO n u (zs.map .str) S2 b2 (.of z2.at_) hz.ne (by simpa using hps) (by rw [List.length_map]; exact hz.few)
        obtain ⟨wd, hw, rfl⟩ := List.mem_map.mp hy
        simp only [decide_eq_true hk0, he, bind_ok, bind_err, bind_bad, fl_ok, fl_err, fl_bad, seq_nx, seq_rt, seq_err, seq_bk, seq_ct, seq_bad, bodyR_rt, bodyR_nx, bodyR_err, asB_bl, tru_bl, iff_f, iff_t, leU_int, ltU_int, gtU_int, geU_int, subU_int, addU_int, eqU_int, neU_int, tuple_two, mkE_one, len_tup, len_lst, c1_one, c2_two, rd0, rdS, norm_d, dat_d, gFl_none, gRs_none, List.set_cons_zero, List.set_cons_succ, Bool.not_true, Bool.not_false, Bool.false_eq_true, ↓reduceIte, b2.norm, z2.at_.norm, e3]
        exact .inl ⟨_, _, rfl, d2.trans d3, wd, hz.ok wd hw, rfl⟩
      · have : (if decide ((kd : Int) < 2) = true then Res.ok (!(List.map D.str zs).isEmpty) S2 else Res.ok false S2) = .ok false S2 := by
          by_cases h0 : (kd : Int) < 2
          · have : zs = [] := by
              cases zs with
              | nil => rfl
              | cons _ _ => exact absurd ⟨h0, by simp⟩ hk0
            rw [if_pos (decide_eq_true h0), this]; rfl
          · rw [if_neg (by simpa using h0)]
        rw [this]
        obtain ⟨m, S3, e3, d3, hm⟩ := hT n 8 S2 b2 (by decide) (by decide)
        have b3 := d3.bag b2
        have hty : tyU "str" (U.d (.str (Str.ofString ""))) S2 = true := rfl
        have hrg : range1 [.d (.int (1 + (m : Int)))] S3 = .ok ⟨rangeF 0 (1 + m), none⟩ S3 := by
          rw [show (1 : Int) + (m : Int) = ((1 + m : Nat) : Int) by omega]
          exact range1_ok (i := 1 + m) S3 (by omega)
        have hwp : wipeE [some (U.r n), some u, some p, some (.d (.str abc)), some (.d (.int kd)), v5, none, none, none] ([((Str.ofString "_law_turn"), 6)].map fun x => x.snd) = [some (U.r n), some u, some p, some (.d (.str abc)), some (.d (.int kd)), v5, none, none, none] := rfl
        simp -implicitDefEqProofs only [bind_ok, bind_err, bind_bad, fl_ok, fl_err, fl_bad, seq_nx, seq_rt, seq_err, seq_bk, seq_ct, seq_bad, bodyR_rt, bodyR_nx, bodyR_err, asB_bl, tru_bl, iff_f, iff_t, leU_int, ltU_int, gtU_int, geU_int, subU_int, addU_int, eqU_int, neU_int, tuple_two, mkE_one, len_tup, len_lst, c1_one, c2_two, rd0, rdS, norm_d, dat_d, gFl_none, gRs_none, List.set_cons_zero, List.set_cons_succ, Bool.not_true, Bool.not_false, Bool.false_eq_true, ↓reduceIte, b2.norm, e3, hty, hrg, hwp]
        obtain ⟨xs, S4, e4, hxl, ⟨d4, _⟩, hx⟩ := lcU_inv (T := fun u ρ S => Res.ok (List.set ρ 6 (some u)) S) (El := fun ρ S => ((rdV ρ 0 S).bind fun x S => ((rdV ρ 3 S).bind fun x S => Res.ok [x] S).bind fun xs S => Res.ok (x :: xs) S).bind ofF)
          (ρ := [some (U.r n), some u, some p, some (.d (.str abc)), some (.d (.int kd)), v5, none, none, none]) (fun S' => Drew n S2 S' ∧ Bag S' n) (fun x => ∃ c, x = .d (.str ⟨#[c]⟩) ∧ 97 ≤ c ∧ c ≤ 122) (rangeF 0 (1 + m)) [] S3 (fun t ht S' ⟨dd, bb⟩ => by
            obtain ⟨y, S5, e5, d5, hy⟩ := hO n (.d (.str abc)) _ S' bb (.str (by rw [abc_len]; decide)) (fun e => nomatch e) (by rw [abc_tl]; simp) (by rw [List.length_map, abc_tl]; simp)
            obtain ⟨c, hc, rfl⟩ := List.mem_map.mp hy
            refine ⟨_, _, S5, rfl, ?_, ⟨dd.trans d5, d5.bag bb⟩, c, rfl, abc_mem hc⟩
            simp only [bind_ok, bind_err, bind_bad, fl_ok, fl_err, fl_bad, seq_nx, seq_rt, seq_err, seq_bk, seq_ct, seq_bad, bodyR_rt, bodyR_nx, bodyR_err, asB_bl, tru_bl, iff_f, iff_t, leU_int, ltU_int, gtU_int, geU_int, subU_int, addU_int, eqU_int, neU_int, tuple_two, mkE_one, len_tup, len_lst, c1_one, c2_two, rd0, rdS, norm_d, dat_d, gFl_none, gRs_none, List.set_cons_zero, List.set_cons_succ, Bool.not_true, Bool.not_false, Bool.false_eq_true, ↓reduceIte, bb.norm, e5]) ⟨d3, b3⟩ (by show 0 + _ ≤ _; rw [rangeF, List.length_map, List.length_range]; exact sz10 (by omega))
        rw [e4]
        obtain ⟨cs, rfl, hcs⟩ := signs_of hx
        have hcl : cs.length = 1 + m := by rw [List.length_map, List.length_map, List.length_map, rangeF, List.length_map, List.length_range] at hxl; exact hxl
        have hjn : joinU (.d (.str (Str.ofString ""))) [.d (.lst ((cs.map fun c => (⟨#[c]⟩ : Str)).map .str))] S4 = .ok (.d (.str (ofSigns cs))) S4 := join_signs (by omega) S4
        simp only [bind_ok, bind_err, bind_bad, fl_ok, fl_err, fl_bad, seq_nx, seq_rt, seq_err, seq_bk, seq_ct, seq_bad, bodyR_rt, bodyR_nx, bodyR_err, asB_bl, tru_bl, iff_f, iff_t, leU_int, ltU_int, gtU_int, geU_int, subU_int, addU_int, eqU_int, neU_int, tuple_two, mkE_one, len_tup, len_lst, c1_one, c2_two, rd0, rdS, norm_d, dat_d, gFl_none, gRs_none, List.set_cons_zero, List.set_cons_succ, Bool.not_true, Bool.not_false, Bool.false_eq_true, ↓reduceIte, List.nil_append, mkL_d (ds := (cs.map fun c => (⟨#[c]⟩ : Str)).map .str) (by rw [List.length_map, List.length_map]; omega), hjn]
        exact .inl ⟨_, _, rfl, d2.trans d4, _, (show NameL _ by rw [tl_signs]; exact ⟨by omega, by omega, hcs⟩), rfl⟩
    rintro ρ S3 ⟨d3, z0, nz0, rfl⟩
    clear b2 z2 d2 S2
    have b3 := d3.bag hb
    have hz0 : z0.length = (tl z0).length := TL.len_tl z0
    have hz1 : 1 ≤ (tl z0).length := nz0.1
    have hz2 : (tl z0).length ≤ 8 := nz0.2.1
    have hln : ∀ S : Store, lenU (.d (.str z0)) S = .ok (.d (.int ((tl z0).length : Nat))) S := fun S => by rw [← hz0]; exact if_pos (sz10 (by omega))
    obtain ⟨sp, S4, e4, d4, hsp⟩ := hT n ((tl z0).length : Nat) S3 b3 (by omega) (by omega)
    have b4 := d4.bag b3
    obtain ⟨f, S5, e5, d5, hf⟩ := hT n 26 S4 b4 (by decide) (by decide)
    have b5 := d5.bag b4
    have d5' := d3.trans (d4.trans d5)
    have z5 := hz.drew d5'
    have hsp' : sp < (tl z0).length := by omega
    have hrg : range1 [.d (.int 26)] S5 = .ok ⟨rangeF 0 26, none⟩ S5 := range1_ok (i := 26) S5 (by omega)
    simp only [bind_ok, bind_err, bind_bad, fl_ok, fl_err, fl_bad, seq_nx, seq_rt, seq_err, seq_bk, seq_ct, seq_bad, bodyR_rt, bodyR_nx, bodyR_err, asB_bl, tru_bl, iff_f, iff_t, leU_int, ltU_int, gtU_int, geU_int, subU_int, addU_int, eqU_int, neU_int, tuple_two, mkE_one, len_tup, len_lst, c1_one, c2_two, rd0, rdS, norm_d, dat_d, gFl_none, gRs_none, List.set_cons_zero, List.set_cons_succ, Bool.not_true, Bool.not_false, Bool.false_eq_true, ↓reduceIte, b3.norm, hln, e4, b4.norm, e5, hrg]
    -- for turn in range(26)
    refine loop (K := fun f => DrawZ n S _ (bodyR (f.seq _))) (I := fun us ρ S' => S' = S5 ∧ ∃ (i : Nat) (z : Str) (v6 : Option U), us = (List.range' i (26 - i)).map (fun j => U.d (.int (0 + (j : Nat)))) ∧ i ≤ 26 ∧ (∃ c, tl z = (tl z0).set sp c) ∧ NmS z ∧ (∀ j < i, wordAt (tl z0) sp f j ∈ zs) ∧
      ρ = [some (.r n), some u, some p, some (.d (.str abc)), some (.d (.int kd)), some (.d (.str z)), v6, some (.d (.int sp)), some (.d (.int f))]) ?_ ?_ ?_
    · rintro t us ρ S' ⟨rfl, i, z, v6, hus, hi, ⟨c0, hc0⟩, nz, hw, rfl⟩
      have hi' : i < 26 := by
        rcases Nat.lt_or_ge i 26 with h | h
        · exact h
        · rw [show 26 - i = 0 by omega] at hus; cases hus
      rw [show 26 - i = (26 - (i + 1)) + 1 by omega, List.range'_succ, List.map_cons] at hus
      simp only [List.cons.injEq] at hus
      obtain ⟨rfl, rfl⟩ := hus
      refine ⟨_, _, rfl, ?_⟩
      have hzl : (tl z).length = (tl z0).length := by rw [hc0, List.length_set]
      have hzz : z.length = (tl z).length := TL.len_tl z
      have em : ((f : Int) + (0 + (i : Int))) % 26 = (((f + i) % 26 : Nat) : Int) := by omega
      have hm26 : (f + i) % 26 < 26 := Nat.mod_lt _ (by decide)
      have t1 : tl (cutS z none (some (sp : Int))) = (tl z).take sp := tl_cut_to z (by omega)
      have t2 : tl (cutS z (some ((sp : Int) + 1)) none) = (tl z).drop (sp + 1) := tl_cut_from z (i := sp + 1) (by omega)
      have l1 : (cutS z none (some (sp : Int))).length = sp := by rw [TL.len_tl, t1, List.length_take]; omega
      have l2 : (cutS z (some ((sp : Int) + 1)) none).length = (tl z).length - (sp + 1) := by rw [TL.len_tl, t2, List.length_drop]
      have s1 : slU (.d (.str z)) none (some (sp : Int)) S' = .ok (.d (.str (cutS z none (some (sp : Int))))) S' := if_pos (sz10 (by omega))
      have s2 : slU (.d (.str z)) (some ((sp : Int) + 1)) none S' = .ok (.d (.str (cutS z (some ((sp : Int) + 1)) none))) S' := if_pos (sz10 (by omega))
      have hix : ixU (.d (.str abc)) (.d (.int (((f + i) % 26 : Nat) : Int))) S' = .ok (.d (.str ⟨#[97 + (f + i) % 26]⟩)) S' := by
        simp only [ixU]
        rw [if_pos (by rw [abc_len]; decide), abc_at hm26]
        rfl
      have ad1 : addU (.d (.str (cutS z none (some (sp : Int))))) (.d (.str ⟨#[97 + (f + i) % 26]⟩)) S' = .ok (.d (.str (cutS z none (some (sp : Int)) ++ (⟨#[97 + (f + i) % 26]⟩ : Str)))) S' := if_pos (by rw [l1]; exact sz10 (show sp + 1 ≤ 1000 by omega))
      have ad2 : addU (.d (.str (cutS z none (some (sp : Int)) ++ (⟨#[97 + (f + i) % 26]⟩ : Str)))) (.d (.str (cutS z (some ((sp : Int) + 1)) none))) S' = .ok (.d (.str (wordAt (tl z0) sp f i))) S' := by
        have ew : cutS z none (some (sp : Int)) ++ (⟨#[97 + (f + i) % 26]⟩ : Str) ++ cutS z (some ((sp : Int) + 1)) none = wordAt (tl z0) sp f i := by
          apply TL.ext_tl
          rw [TL.tl_append, TL.tl_append, t1, t2]
          show (tl z).take sp ++ [97 + (f + i) % 26] ++ (tl z).drop (sp + 1) = (tl z0).set sp (97 + (f + i) % 26)
          rw [set_cut (by omega), hc0, List.set_set]
        rw [← ew]
        refine if_pos ?_
        rw [TL.len_tl, TL.tl_append, List.length_append, t1, l2, List.length_take]
        exact sz10 (show min sp (tl z).length + 1 + ((tl z).length - (sp + 1)) ≤ 1000 by omega)
      have nw : NmS (wordAt (tl z0) sp f i) := nz0.set (by omega)
      simp only [bind_ok, bind_err, bind_bad, fl_ok, fl_err, fl_bad, seq_nx, seq_rt, seq_err, seq_bk, seq_ct, seq_bad, bodyR_rt, bodyR_nx, bodyR_err, asB_bl, tru_bl, iff_f, iff_t, leU_int, ltU_int, gtU_int, geU_int, subU_int, addU_int, eqU_int, neU_int, tuple_two, mkE_one, len_tup, len_lst, c1_one, c2_two, rd0, rdS, norm_d, dat_d, gFl_none, gRs_none, List.set_cons_zero, List.set_cons_succ, Bool.not_true, Bool.not_false, Bool.false_eq_true, ↓reduceIte, asI_int, s1, modU_pos _ (by decide : (0 : Int) < 26), em, hix, ad1, s2, ad2, z5.at_.norm, z5.at_.isIn (neg := true) nw.asc zasc]
      by_cases hin : wordAt (tl z0) sp f i ∈ zs
      · simp only [decide_eq_true hin, inB, bind_ok, bind_err, bind_bad, fl_ok, fl_err, fl_bad, seq_nx, seq_rt, seq_err, seq_bk, seq_ct, seq_bad, bodyR_rt, bodyR_nx, bodyR_err, asB_bl, tru_bl, iff_f, iff_t, leU_int, ltU_int, gtU_int, geU_int, subU_int, addU_int, eqU_int, neU_int, tuple_two, mkE_one, len_tup, len_lst, c1_one, c2_two, rd0, rdS, norm_d, dat_d, gFl_none, gRs_none, List.set_cons_zero, List.set_cons_succ, Bool.not_true, Bool.not_false, Bool.false_eq_true, ↓reduceIte]
        refine ⟨trivial, i + 1, _, _, rfl, by omega, ⟨_, rfl⟩, nw, fun j hj => ?_, rfl⟩
        rcases Nat.lt_succ_iff_lt_or_eq.mp hj with h | rfl
        · exact hw j h
        · exact hin
      · simp only [decide_eq_false hin, inB, bind_ok, bind_err, bind_bad, fl_ok, fl_err, fl_bad, seq_nx, seq_rt, seq_err, seq_bk, seq_ct, seq_bad, bodyR_rt, bodyR_nx, bodyR_err, asB_bl, tru_bl, iff_f, iff_t, leU_int, ltU_int, gtU_int, geU_int, subU_int, addU_int, eqU_int, neU_int, tuple_two, mkE_one, len_tup, len_lst, c1_one, c2_two, rd0, rdS, norm_d, dat_d, gFl_none, gRs_none, List.set_cons_zero, List.set_cons_succ, Bool.not_true, Bool.not_false, Bool.false_eq_true, ↓reduceIte]
        exact drawZ d5' ⟨_, rfl, nw, fun _ => hin⟩
    · rintro ρ S' ⟨rfl, i, z, v6, hus, hi, ⟨c0, hc0⟩, nz, hw, rfl⟩
      have hi' : i = 26 := by
        have := congrArg List.length hus
        rw [List.length_map, List.length_range'] at this
        have h0 : 0 = 26 - i := this
        omega
      subst hi'
      simp only [bind_ok, bind_err, bind_bad, fl_ok, fl_err, fl_bad, seq_nx, seq_rt, seq_err, seq_bk, seq_ct, seq_bad, bodyR_rt, bodyR_nx, bodyR_err, asB_bl, tru_bl, iff_f, iff_t, leU_int, ltU_int, gtU_int, geU_int, subU_int, addU_int, eqU_int, neU_int, tuple_two, mkE_one, len_tup, len_lst, c1_one, c2_two, rd0, rdS, norm_d, dat_d, gFl_none, gRs_none, List.set_cons_zero, List.set_cons_succ, Bool.not_true, Bool.not_false, Bool.false_eq_true, ↓reduceIte]
      exact drawZ d5' ⟨_, rfl, nz, fun h => absurd (words_many hsp' hw) (by omega)⟩
    · exact ⟨rfl, 0, z0, none, by rw [rangeF, List.range_eq_range'], by decide, ⟨(tl z0)[sp], (List.set_getElem_self hsp').symm⟩, nz0, fun j hj => absurd hj (Nat.not_lt_zero j), rfl⟩
end
end KL
set_option Elab.async false
set_option linter.all false
set_option maxRecDepth 100000
set_option maxHeartbeats 4000000
namespace KL
open PySem PySem.Spec PyProof.Rows L2 DL
open He (ga ma)
open TL (tl)
/-- small data -/
structure SmD (b : Nat) (d : D) : Prop where
  n : niceD d = true
  w : wt d.py ≤ b
  dp : d.py.depth ≤ 20
theorem SmD.mono {a b : Nat} {d : D} (h : SmD a d) (l : a ≤ b) : SmD b d := ⟨h.n, Nat.le_trans h.w l, h.dp⟩
theorem SmD.gd {b : Nat} {d : D} (h : SmD b d) (hb : b ≤ 10000000) : GD d := ⟨nice_plain d h.n, nice_gd d h.n, Nat.le_trans h.w hb, Nat.le_trans h.dp (by decide)⟩
theorem sm_str {z : Str} {k : Nat} (h : Asc z) (l : z.length ≤ k) (hk : k ≤ 1000) : SmD (10 * k + 2) (.str z) := ⟨nice_str.mpr ⟨h, by omega⟩, by show 10 * z.length + 2 ≤ _; omega, Nat.zero_le _⟩
theorem asc_app {x y : Str} (hx : Asc x) (hy : Asc y) : Asc (x ++ y) := fun c hc => by
  rw [TL.tl_append] at hc
  rcases List.mem_append.mp hc with h | h
  · exact hx c h
  · exact hy c h
theorem asc_upper {x : Str} (h : Asc x) : Asc (Txt.upper x) ∧ (Txt.upper x).length = x.length := by
  have hx : x = (⟨(tl x).toArray⟩ : Str) := TL.ext_tl (by simp [tl])
  have h2 : Txt.upper x = (⟨((tl x).map PyProof.Rows.up1).toArray⟩ : Str) := by
    have := SX.upper_S (a := tl x) (List.all_eq_true.mpr fun c hc => decide_eq_true (h c hc))
    rw [show SX.S (tl x) = x from hx.symm] at this
    exact this
  rw [h2]
  refine ⟨fun c hc => ?_, ?_⟩
  · obtain ⟨d, hd, rfl⟩ := List.mem_map.mp (show c ∈ (tl x).map PyProof.Rows.up1 from hc)
    have := h d hd
    unfold PyProof.Rows.up1
    split <;> omega
  · rw [TL.len_tl, TL.len_tl x]
    show ((tl x).map PyProof.Rows.up1).length = _
    rw [List.length_map]
theorem len_app (x y : Str) : (x ++ y).length = x.length + y.length := by rw [TL.len_tl, TL.tl_append, List.length_append, ← TL.len_tl, ← TL.len_tl]
def oddA (z : Str) : List D := [.non, .bl true, .bl false, .int (-1), .int (10 ^ 30 + 1), .str "", .str (Txt.upper z), .str (z ++ "abcdefgh"), .str (z ++ " "), .str (z ++ "." ++ z)]
def oddB (z : Str) : List D := [.tup [.str z], .lst [.str z], .tup [], .lst [], .int 0, .int 1, .str (z ++ "1"), .tup [.tup [.str z], .str z], .str z]
theorem odd_sm {z : Str} (nz : NmS z) : ∀ d ∈ oddA z ++ oddB z, SmD 1000 d := by
  have hz : z.length ≤ 8 := by rw [TL.len_tl]; exact nz.2.1
  have az := nz.asc
  have l8 : (("abcdefgh" : Str)).length = 8 := by decide +kernel
  have l1 : ((" " : Str)).length = 1 := by decide +kernel
  have l2 : (("." : Str)).length = 1 := by decide +kernel
  have l3 : (("1" : Str)).length = 1 := by decide +kernel
  have l0 : (("" : Str)).length = 0 := by decide +kernel
  have a8 : Asc ("abcdefgh" : Str) := by unfold Asc; decide +kernel
  have a1 : Asc (" " : Str) := by unfold Asc; decide +kernel
  have a2 : Asc ("." : Str) := by unfold Asc; decide +kernel
  have a3 : Asc ("1" : Str) := by unfold Asc; decide +kernel
  have a0 : Asc ("" : Str) := by unfold Asc; decide +kernel
  have S : ∀ {x : Str}, Asc x → x.length ≤ 20 → SmD 1000 (.str x) := fun a l => (sm_str a l (by decide)).mono (by decide)
  have nzs : niceD (.str z) = true := nice_str.mpr ⟨az, by omega⟩
  have wz : wt (D.str z).py ≤ 82 := by show 10 * z.length + 2 ≤ _; omega
  intro d hd
  simp only [oddA, oddB, List.cons_append, List.nil_append, List.mem_cons, List.not_mem_nil, or_false] at hd
  rcases hd with rfl | rfl | rfl | rfl | rfl | rfl | rfl | rfl | rfl | rfl | rfl | rfl | rfl | rfl | rfl | rfl | rfl | rfl | rfl
  · exact ⟨rfl, by decide, by decide⟩
  · exact ⟨rfl, by decide, by decide⟩
  · exact ⟨rfl, by decide, by decide⟩
  · exact ⟨by decide +kernel, by decide, by decide⟩
  · exact ⟨by decide +kernel, by decide, by decide⟩
  · exact S a0 (by rw [l0]; decide)
  · exact S (asc_upper az).1 (by rw [(asc_upper az).2]; omega)
  · exact S (asc_app az a8) (by rw [len_app]; omega)
  · exact S (asc_app az a1) (by rw [len_app]; omega)
  · exact S (asc_app (asc_app az a2) az) (by rw [len_app, len_app]; omega)
  · refine ⟨nice_tup.mpr ⟨by simp, fun d hd => ?_⟩, ?_, by simp [D.py, pyAll, PyData.depth, PyData.depthAll]⟩
    · obtain rfl := List.mem_singleton.mp hd; exact nzs
    · show wt (D.str z).py + 2 + 0 + 3 ≤ _; omega
  · refine ⟨nice_lst.mpr ⟨by simp, fun d hd => ?_⟩, ?_, by simp [D.py, pyAll, PyData.depth, PyData.depthAll]⟩
    · obtain rfl := List.mem_singleton.mp hd; exact nzs
    · show wt (D.str z).py + 2 + 0 + 3 ≤ _; omega
  · exact ⟨rfl, by decide, by decide⟩
  · exact ⟨rfl, by decide, by decide⟩
  · exact ⟨by decide +kernel, by decide, by decide⟩
  · exact ⟨by decide +kernel, by decide, by decide⟩
  · exact S (asc_app az a3) (by rw [len_app]; omega)
  · refine ⟨nice_tup.mpr ⟨by simp, fun d hd => ?_⟩, ?_, by simp [D.py, pyAll, PyData.depth, PyData.depthAll]⟩
    · simp only [List.mem_cons, List.not_mem_nil, or_false] at hd
      rcases hd with rfl | rfl
      · refine nice_tup.mpr ⟨by simp, fun d hd => ?_⟩
        obtain rfl := List.mem_singleton.mp hd; exact nzs
      · exact nzs
    · show (wt (D.str z).py + 2 + 0 + 3) + 2 + (wt (D.str z).py + 2 + 0) + 3 ≤ _; omega
  · exact S az (by omega)
theorem eraseIdx_map' {α β : Type} (f : α → β) : ∀ (l : List α) (k : Nat), (l.map f).eraseIdx k = (l.eraseIdx k).map f
  | [], _ => rfl
  | _ :: _, 0 => rfl
  | x :: t, k + 1 => by
    show f x :: (t.map f).eraseIdx k = _
    rw [eraseIdx_map' f t k]; rfl
theorem perm_erase {α : Type} : ∀ (l : List α) (k : Nat) (h : k < l.length), (l[k] :: l.eraseIdx k).Perm l
  | x :: t, 0, _ => .refl _
  | x :: t, k + 1, h => by
    have h' : k < t.length := Nat.lt_of_succ_lt_succ h
    have ih := perm_erase t k h'
    show (t[k] :: x :: t.eraseIdx k).Perm (x :: t)
    exact (List.Perm.swap x t[k] _).trans (ih.cons x)
def OddOk (f : Fn) : Prop := ∀ (n : Nat) (z : Str) (S : Store), Bag S n → NmS z → ∃ (d : D) (S' : Store), f [.r n, .d (.str z)] S = .ok (.d d) S' ∧ Drew n S S' ∧ SmD 1000 d
def PickedOk (f : Fn) : Prop := ∀ (n : Nat) (u : U) (ds : List D) (m : Nat) (S : Store), Bag S n → LstU S ds u → u ≠ .r n → m ≤ ds.length → ds.length ≤ 1000 → ∃ (es : List D) (S' : Store), f [.r n, u, .d (.int m)] S = .ok (.d (.lst es)) S' ∧ Drew n S S' ∧ es.length = m ∧ ∃ rest, (es ++ rest).Perm ds
noncomputable def sameF (a b : U) (S : Store) : Res U := match a, b with
  | .d x, .d y => pre (GD x ∧ GD y) (.ok (.d (.bl (PyData.eqv x.py y.py && decide (x.py.shown = y.py.shown)))) S)
  | _, _ => .bad
section
variable {P : Program} {w : World} {K : PySem.W.Frag} {mg : Str → Option Value} {base : Heap}
theorem sc_law_odd : FnScope ["_law_bag_here", "_law_word", "_law_some"] ["_law_bag_here", "_law_word"] (defScope s_law_odd) := ⟨rfl, rfl, rfl, by decide +kernel, rfl, by decide +kernel, by decide +kernel⟩
theorem dk_odd (T : Txt P K mg) : ∃ f, FM P w K mg base 3 "_law_odd" ["_law_bag_here", "_law_word"] f ∧ OddOk f := by
  obtain ⟨ofF, F_law_of, hO⟩ := dk_of (w := w) (base := base) T
  refine Exists.imp (fun f hf => ⟨hf.1, fun n z S b hz => ?_⟩) (okDraw (P := P) (w := w) (base := base) (k := 2) (fun us S => ∃ n z, us = [.r n, .d (.str z)] ∧ NmS z) (fun us S y => SmD 1000 y) T.F_law_odd sc_law_odd (fun _ _ _ _ _ _ us hl => match us, hl with | [_, _], _ => rfl) (fun cdv A outer s H E hA hr => (pdss_cons (pds_set (i := 2) sc_law_odd.nd rfl (by first | exact Or.inl rfl | exact Or.inr rfl) (pd_lst (pda_cons pd_non (pda_cons pd_bl (pda_cons pd_bl (pda_cons (pd_un ud_neg pd_int) (pda_cons (pd_op od_add (pd_op od_pow pd_int pd_int) pd_int) (pda_cons pd_str (pda_cons (pd_bm0 PySem.F.plainAttrs_str PySem.F.slot_str_upper PySem.F.type_str_upper md_upper (pd_pv 1 (pv 1))) (pda_cons (pd_op od_add (pd_pv 1 (pv 1)) pd_str) (pda_cons (pd_op od_add (pd_pv 1 (pv 1)) pd_str) (pda_cons (pd_op od_add (pd_op od_add (pd_pv 1 (pv 1)) pd_str) (pd_pv 1 (pv 1))) pda_nil))))))))))))
  (pdss_one (pds_ret (pd_call hA F_law_of (hr.mono (by decide)) (takes_of rfl rfl rfl rfl) (pda_cons (pd_pv 0 (pv 0)) (pda_cons (pd_op od_add (pd_pv 2 (pv 2)) (pd_lst (pda_cons (pd_tup (pda_cons (pd_pv 1 (pv 1)) pda_nil)) (pda_cons (pd_lst (pda_cons (pd_pv 1 (pv 1)) pda_nil)) (pda_cons (pd_tup pda_nil) (pda_cons (pd_lst pda_nil) (pda_cons pd_int (pda_cons pd_int (pda_cons (pd_op od_add (pd_pv 1 (pv 1)) pd_str) (pda_cons (pd_tup (pda_cons (pd_tup (pda_cons (pd_pv 1 (pv 1)) pda_nil)) (pda_cons (pd_pv 1 (pv 1)) pda_nil))) (pda_cons (pd_pv 1 (pv 1)) pda_nil))))))))))) pda_nil))))))) (fun us S hl hb hp => ?_))
  · exact hf.2 [.r n, .d (.str z)] S rfl b ⟨n, z, rfl, hz⟩
  · obtain ⟨n, z, rfl, nz⟩ := hp
    have hb : Bag S n := hb
    show DrawZ n S _ _
    rw [show startE (["_law_bag_here", "_law_word", "_law_some"] : List Str).length [U.r n, .d (.str z)] = [some (.r n), some (.d (.str z)), none] from rfl]
    have hz : z.length ≤ 8 := by rw [TL.len_tl]; exact nz.2.1
    have l8 : (("abcdefgh" : Str)).length = 8 := by decide +kernel
    have l1 : ((" " : Str)).length = 1 := by decide +kernel
    have l2 : (("." : Str)).length = 1 := by decide +kernel
    have l3 : (("1" : Str)).length = 1 := by decide +kernel
    have hty : tyU "str" (U.d (.str z)) S = true := rfl
    have hng : negU (.d (.int 1)) S = .ok (.d (.int (-1))) S := rfl
    have hpw : powU (.d (.int 10)) (.d (.int 30)) S = .ok (.d (.int (10 ^ 30))) S := rfl
    have hup : upperU (.d (.str z)) [] S = .ok (.d (.str (Txt.upper z))) S := if_pos (by omega)
    have hadd : ∀ x y : Str, x.length + y.length ≤ 1000 → addU (.d (.str x)) (.d (.str y)) S = .ok (.d (.str (x ++ y))) S := fun x y h => if_pos (sz10 h)
    have hm1 : mkL ((oddA z).map .d) S = .ok (.d (.lst (oddA z))) S := mkL_d (by simp [oddA]) S
    have hm2 : mkL ((oddB z).map .d) S = .ok (.d (.lst (oddB z))) S := mkL_d (by simp [oddB]) S
    have hm1' : mkL [.d .non, .d (.bl true), .d (.bl false), .d (.int (-1)), .d (.int (10 ^ 30 + 1)), .d (.str (Str.ofString "")), .d (.str (Txt.upper z)), .d (.str (z ++ Str.ofString "abcdefgh")), .d (.str (z ++ Str.ofString " ")), .d (.str (z ++ Str.ofString "." ++ z))] S = .ok (.d (.lst (oddA z))) S := hm1
    have hm2' : mkL [.d (.tup [.str z]), .d (.lst [.str z]), .d (.tup []), .d (.lst []), .d (.int 0), .d (.int 1), .d (.str (z ++ Str.ofString "1")), .d (.tup [.tup [.str z], .str z]), .d (.str z)] S = .ok (.d (.lst (oddB z))) S := hm2
    have t1 : mkT [.d (.str z)] S = .ok (.d (.tup [.str z])) S := rfl
    have t2 : mkT [] S = .ok (.d (.tup [])) S := rfl
    have t3 : mkT [.d (.tup [.str z]), .d (.str z)] S = .ok (.d (.tup [.tup [.str z], .str z])) S := rfl
    have t4 : mkL [.d (.str z)] S = .ok (.d (.lst [.str z])) S := rfl
    have t5 : mkL [] S = .ok (.d (.lst [])) S := rfl
    have hcat : addU (.d (.lst (oddA z))) (.d (.lst (oddB z))) S = .ok (.d (.lst (oddA z ++ oddB z))) S := addU_lst (by simp [oddA, oddB]) S
    obtain ⟨d, S1, e1, d1, hd⟩ := hO n (.d (.lst (oddA z ++ oddB z))) _ S hb (.of .lst) (fun e => nomatch e) (by simp [oddA]) (by simp [oddA, oddB])
    simp -implicitDefEqProofs only [bind_ok, bind_err, bind_bad, fl_ok, fl_err, fl_bad, seq_nx, seq_rt, seq_err, seq_bk, seq_ct, seq_bad, bodyR_rt, bodyR_nx, bodyR_err, asB_bl, tru_bl, iff_f, iff_t, leU_int, ltU_int, gtU_int, geU_int, subU_int, addU_int, eqU_int, neU_int, tuple_two, mkE_one, len_tup, len_lst, c1_one, c2_two, rd0, rdS, norm_d, dat_d, gFl_none, gRs_none, List.set_cons_zero, List.set_cons_succ, Bool.not_true, Bool.not_false, Bool.false_eq_true, ↓reduceIte, hng, hpw, hty, hup, hadd z _ (by rw [l8]; omega), hadd z _ (by rw [l1]; omega), hadd z _ (by rw [l2]; omega), hadd z _ (by rw [l3]; omega), hadd (z ++ _) z (by rw [len_app, l2]; omega), hm1', t1, t2, t3, t4, t5, hm2', hcat, hb.norm, e1]
    exact drawZ d1 (odd_sm nz d hd)
theorem sc_law_picked : FnScope ["_law_bag_here", "_law_some", "_law_many", "_law_left", "_law_found", "_law_turn"] ["_law_bag_here", "_law_some", "_law_many"] (defScope s_law_picked) := ⟨rfl, rfl, rfl, by decide +kernel, rfl, by decide +kernel, by decide +kernel⟩
theorem dk_picked (T : Txt P K mg) : ∃ f, FM P w K mg base 2 "_law_picked" ["_law_bag_here", "_law_some", "_law_many"] f ∧ PickedOk f := by
  obtain ⟨takeF, F_law_take, hT⟩ := dk_take (w := w) (base := base) T
  refine Exists.imp (fun f hf => ⟨hf.1, fun n u ds m S b hu hn hm hd => ?_⟩) (okDraw (P := P) (w := w) (base := base) (k := 1) (fun us S => ∃ n u ds m, us = [.r n, u, .d (.int (m : Nat))] ∧ LstU S ds u ∧ u ≠ .r n ∧ m ≤ ds.length ∧ ds.length ≤ 1000) (fun us S y => ∃ es, y = .lst es ∧ ∀ n u ds m, us = [.r n, u, .d (.int (m : Nat))] → LstU S ds u → es.length = m ∧ ∃ rest, (es ++ rest).Perm ds) T.F_law_picked sc_law_picked (fun _ _ _ _ _ _ us hl => match us, hl with | [_, _, _], _ => rfl) (fun cdv A outer s H E hA hr => (pdss_cons (pds_par (i := 3) (j := 4) rfl sc_law_picked.nd rfl rfl (by decide) rfl rfl (pda_cons (pd_callTy cd_listM T.m_list (pda_cons (pd_pv 1 (pv 1)) pda_nil)) (pda_cons (pd_lstM pda_nil) pda_nil)) (fun h => ps_par (by rfl) sc_law_picked.nd rfl rfl (by decide) rfl rfl h (by rfl)))
  (pdss_cons (pds_for (passes_of rfl) rfl (pdi_range1 T.m_range (pda_cons (pd_pv 2 (pv 2)) pda_nil)) (pdg_name (i := 5) sc_law_picked.nd rfl (by first | exact Or.inl rfl | exact Or.inr rfl)) (pdss_one (pds_expr (pd_bm PySem.F.plainAttrs_list PySem.F.slot_list_append PySem.F.type_list_append md_append (pd_pv 4 (pv 4)) (pda_cons (pd_bm PySem.F.plainAttrs_list PySem.F.slot_list_pop PySem.F.type_list_pop md_popAt (pd_pv 3 (pv 3)) (pda_cons (pd_call hA F_law_take (hr.mono (by decide)) (takes_of rfl rfl rfl rfl) (pda_cons (pd_pv 0 (pv 0)) (pda_cons (pd_callB cd_len T.m_len (pda_cons (pd_pv 3 (pv 3)) pda_nil)) pda_nil))) pda_nil)) pda_nil)))))
  (pdss_frz 3 (pdss_frz 4 (pdss_one (pds_ret (pd_pv 4 (pv 4))))))))) (fun us S hl hb hp => ?_))
  · obtain ⟨y, S', e, dr, es, rfl, h⟩ := hf.2 [.r n, u, .d (.int m)] S rfl b ⟨n, u, ds, m, rfl, hu, hn, hm, hd⟩
    exact ⟨es, S', e, dr, h n u ds m rfl hu⟩
  · obtain ⟨n, u, ds, m, rfl, hu, hn, hm, hd⟩ := hp
    have hb : Bag S n := hb
    refine DrawZ.mono (po := fun y => ∃ es, y = .lst es ∧ es.length = m ∧ ∃ rest, (es ++ rest).Perm ds) ?_ (fun y ⟨es, h1, h2⟩ => ⟨es, h1, fun n' u' ds' m' e h => by
      simp only [List.cons.injEq, U.d.injEq, D.int.injEq] at e
      obtain ⟨_, rfl, e2, _⟩ := e
      obtain rfl : m = m' := by omega
      rw [← hu.inj h]
      exact h2⟩)
    show DrawZ n S _ _
    rw [show startE (["_law_bag_here", "_law_some", "_law_many", "_law_left", "_law_found", "_law_turn"] : List Str).length [U.r n, u, .d (.int m)] = [some (.r n), some u, some (.d (.int m)), none, none, none] from rfl]
    have hmk : mkM [] (S ++ [Cell.lst (List.map U.d ds)]) = .ok (.r (S.length + 1)) (S ++ [Cell.lst (ds.map .d), .lst []]) := by
      unfold mkM
      rw [if_pos (show ([] : List U).length ≤ sizeLine from Nat.zero_le _), List.length_append, List.append_assoc]; rfl
    have hrg : ∀ S : Store, range1 [.d (.int (m : Int))] S = .ok ⟨rangeF 0 m, none⟩ S := fun S => range1_ok S (by omega)
    simp -implicitDefEqProofs only [bind_ok, bind_err, bind_bad, fl_ok, fl_err, fl_bad, seq_nx, seq_rt, seq_err, seq_bk, seq_ct, seq_bad, bodyR_rt, bodyR_nx, bodyR_err, asB_bl, tru_bl, iff_f, iff_t, leU_int, ltU_int, gtU_int, geU_int, subU_int, addU_int, eqU_int, neU_int, tuple_two, mkE_one, len_tup, len_lst, c1_one, c2_two, rd0, rdS, norm_d, dat_d, gFl_none, gRs_none, List.set_cons_zero, List.set_cons_succ, Bool.not_true, Bool.not_false, Bool.false_eq_true, ↓reduceIte, hu.norm, hu.toM, hmk, hrg]
    refine loop (K := fun f => DrawZ n S _ (bodyR (f.seq _))) (I := fun us ρ S' => ∃ (S1 : Store) (left found : List D) (v5 : Option U), Drew n S S1 ∧ S' = S1 ++ [.lst (left.map .d), .lst (found.map .d)] ∧ us.length + found.length = m ∧ (found ++ left).Perm ds ∧
      ρ = [some (.r n), some u, some (.d (.int m)), some (.r S.length), some (.r (S.length + 1)), v5]) ?_ ?_ ?_
    · rintro t us ρ S' ⟨S1, left, found, v5, d1, rfl, hlen, hpm, rfl⟩
      refine ⟨_, _, rfl, ?_⟩
      rw [List.length_cons] at hlen
      have hl1 := d1.len
      have hll : left.length + found.length = ds.length := by rw [← hpm.length_eq, List.length_append]; omega
      have b1 := d1.bag hb
      have hno0 : ∀ (S1 : Store) (a b : List U), S1.length = S.length → norm (S1 ++ [.lst a, .lst b]) (.r S.length) = .r S.length := fun S1 a b h => by
        simp only [norm, ← h, at0]
      have hno1 : ∀ (S1 : Store) (a b : List U), S1.length = S.length → norm (S1 ++ [.lst a, .lst b]) (.r (S.length + 1)) = .r (S.length + 1) := fun S1 a b h => by
        simp only [norm, ← h, at1]
      have hln : lenU (.r S.length) (S1 ++ [.lst (left.map .d), .lst (found.map .d)]) = .ok (.d (.int (left.length : Nat))) (S1 ++ [.lst (left.map .d), .lst (found.map .d)]) := by
        simp only [lenU, ← hl1, at0, List.length_map]
      have hty0 : ∀ (S1 : Store) (a b : List U), S1.length = S.length → tyU "list" (.r S.length) (S1 ++ [.lst a, .lst b]) = true := fun S1 a b h => by simp only [tyU, ← h, at0]; rfl
      have hty1 : ∀ (S1 : Store) (a b : List U), S1.length = S.length → tyU "list" (.r (S.length + 1)) (S1 ++ [.lst a, .lst b]) = true := fun S1 a b h => by simp only [tyU, ← h, at1]; rfl
      obtain ⟨j, S2', e2, d2, hj⟩ := hT n (left.length : Nat) (S1 ++ [.lst (left.map .d), .lst (found.map .d)]) b1.app (by omega) (by omega)
      obtain ⟨S2, rfl, d2'⟩ := d2.split b1
      have hl2 : S2.length = S.length := by rw [d2'.len, hl1]
      have hj' : j < left.length := by omega
      have hpop : popU (.r S.length) [.d (.int j)] (S2 ++ [.lst (left.map .d), .lst (found.map .d)]) = .ok (.d left[j]) (S2 ++ [.lst ((left.eraseIdx j).map .d), .lst (found.map .d)]) := by
        have hsi : seqIndex? (j : Int) left.length = some j := by simp [seqIndex?]; omega
        simp only [popU, cellL, ← hl2, at0, List.length_map, hsi]
        rw [if_pos (by omega), List.getElem?_map, List.getElem?_eq_getElem hj']
        simp only [Option.map_some, set0]
        rw [eraseIdx_map']
      have happ : appU (.r (S.length + 1)) [.d left[j]] (S2 ++ [.lst ((left.eraseIdx j).map .d), .lst (found.map .d)]) = .ok (.d .non) (S2 ++ [.lst ((left.eraseIdx j).map .d), .lst ((found ++ [left[j]]).map .d)]) := by
        simp only [appU, cellL, ← hl2, at1, List.length_map]
        rw [if_pos (sz5l (by omega)), set1, List.map_append]
        rfl
      simp -implicitDefEqProofs only [bind_ok, bind_err, bind_bad, fl_ok, fl_err, fl_bad, seq_nx, seq_rt, seq_err, seq_bk, seq_ct, seq_bad, bodyR_rt, bodyR_nx, bodyR_err, asB_bl, tru_bl, iff_f, iff_t, leU_int, ltU_int, gtU_int, geU_int, subU_int, addU_int, eqU_int, neU_int, tuple_two, mkE_one, len_tup, len_lst, c1_one, c2_two, rd0, rdS, norm_d, dat_d, gFl_none, gRs_none, List.set_cons_zero, List.set_cons_succ, Bool.not_true, Bool.not_false, Bool.false_eq_true, ↓reduceIte, b1.app.norm, hno0 _ _ _ hl1, hno1 _ _ _ hl1, hty1 _ _ _ hl1, hty0 _ _ _ hl1, hln, e2, hpop, happ]
      refine ⟨S2, _, _, _, d1.trans d2', rfl, by rw [List.length_append]; show _ + (_ + 1) = _; omega, ?_, rfl⟩
      rw [List.append_assoc]
      exact (List.Perm.append_left found (perm_erase left j hj')).trans hpm
    · rintro ρ S' ⟨S1, left, found, v5, d1, rfl, hlen, hpm, rfl⟩
      have hl1 := d1.len
      have f1 : frzV [some (.r n), some u, some (.d (.int m)), some (.r S.length), some (.r (S.length + 1)), v5] 3 (S1 ++ [.lst (left.map .d), .lst (found.map .d)]) = S1 ++ [.frz (.lst left), .lst (found.map .d)] := by
        show frzN S.length _ = _
        unfold frzN
        simp only [← hl1, at0, allD_map, set0]
      have f2 : frzV [some (.r n), some u, some (.d (.int m)), some (.r S.length), some (.r (S.length + 1)), v5] 4 (S1 ++ [.frz (.lst left), .lst (found.map .d)]) = S1 ++ [.frz (.lst left), .frz (.lst found)] := by
        show frzN (S.length + 1) _ = _
        unfold frzN
        simp only [← hl1, at1, allD_map, set1]
      have hno : norm (S1 ++ [.frz (.lst left), .frz (.lst found)]) (.r (S.length + 1)) = .d (.lst found) := by simp only [norm, ← hl1, at1]
      simp only [bind_ok, bind_err, bind_bad, fl_ok, fl_err, fl_bad, seq_nx, seq_rt, seq_err, seq_bk, seq_ct, seq_bad, bodyR_rt, bodyR_nx, bodyR_err, asB_bl, tru_bl, iff_f, iff_t, leU_int, ltU_int, gtU_int, geU_int, subU_int, addU_int, eqU_int, neU_int, tuple_two, mkE_one, len_tup, len_lst, c1_one, c2_two, rd0, rdS, norm_d, dat_d, gFl_none, gRs_none, List.set_cons_zero, List.set_cons_succ, Bool.not_true, Bool.not_false, Bool.false_eq_true, ↓reduceIte, f1, f2, hno]
      refine drawZg _ d1 ⟨found, rfl, ?_, left, hpm⟩
      have h0 : 0 + found.length = m := hlen
      omega
    · refine ⟨S, ds, [], none, .refl hb, rfl, ?_, .refl _, rfl⟩
      rw [rangeF, List.length_map, List.length_range]; rfl
theorem sc_law_same : FnScope ["_law_one", "_law_other"] ["_law_one", "_law_other"] (defScope s_law_same) := ⟨rfl, rfl, rfl, by decide +kernel, rfl, by decide +kernel, by decide +kernel⟩
theorem dk_same (T : Txt P K mg) : FM P w K mg base 1 "_law_same" ["_law_one", "_law_other"] (F2 sameF) := by
  refine okM T.F_law_same sc_law_same (fun _ _ _ _ _ _ us hl => match us, hl with | [_, _], _ => rfl) F2.len (fun cdv A outer s H E hA hr => (pdss_one (pds_ret (pd_and (pd_cmp (od_eq hr) (pd_pv 0 (pv 0)) (pd_pv 1 (pv 1)) (nomark _)) (pd_one (pd_cmp (od_eq hr) (pd_callB (cd_repr hA hr) T.m_repr (pda_cons (pd_pv 0 (pv 0)) pda_nil)) (pd_callB (cd_repr hA hr) T.m_repr (pda_cons (pd_pv 1 (pv 1)) pda_nil)) (nomark _))))))) (fun us S hl => ?_)
  match us, hl with
  | [.r _, _], _ => exact .bad _
  | [.d _, .r _], _ => exact .bad _
  | [.d x, .d y], _ =>
    show Refines S (sameF (.d x) (.d y) S) _
    refine pre_ref fun ⟨hx, hy⟩ => ref_eq ?_
    rw [show startE (["_law_one", "_law_other"] : List Str).length [U.d x, .d y] = [some (.d x), some (.d y)] from rfl]
    have heq : eqU (.d x) (.d y) S = .ok (.d (.bl (PyData.eqv x.py y.py))) S := eqU_ok hx.ok hy.ok S
    have shown : ∀ d : D, GD d → shownU (.d d) S = .ok (.d (.str d.py.shown)) S := fun d h => if_pos ⟨h.pl, gd_showable _ h.gd.g, gd_nodict _ h.gd.g, h.gd.dp, h.gd.shown⟩
    simp only [bind_ok, bind_err, bind_bad, fl_ok, fl_err, fl_bad, seq_nx, seq_rt, seq_err, seq_bk, seq_ct, seq_bad, bodyR_rt, bodyR_nx, bodyR_err, asB_bl, tru_bl, iff_f, iff_t, leU_int, ltU_int, gtU_int, geU_int, subU_int, addU_int, eqU_int, neU_int, tuple_two, mkE_one, len_tup, len_lst, c1_one, c2_two, rd0, rdS, norm_d, dat_d, gFl_none, gRs_none, List.set_cons_zero, List.set_cons_succ, Bool.not_true, Bool.not_false, Bool.false_eq_true, ↓reduceIte, heq, shown x hx, shown y hy, eqU_txt]
    cases h : PyData.eqv x.py y.py with
    | true => simp only [bind_ok, bind_err, bind_bad, fl_ok, fl_err, fl_bad, seq_nx, seq_rt, seq_err, seq_bk, seq_ct, seq_bad, bodyR_rt, bodyR_nx, bodyR_err, asB_bl, tru_bl, iff_f, iff_t, leU_int, ltU_int, gtU_int, geU_int, subU_int, addU_int, eqU_int, neU_int, tuple_two, mkE_one, len_tup, len_lst, c1_one, c2_two, rd0, rdS, norm_d, dat_d, gFl_none, gRs_none, List.set_cons_zero, List.set_cons_succ, Bool.not_true, Bool.not_false, Bool.false_eq_true, ↓reduceIte, Bool.true_and]
    | false => simp only [bind_ok, bind_err, bind_bad, fl_ok, fl_err, fl_bad, seq_nx, seq_rt, seq_err, seq_bk, seq_ct, seq_bad, bodyR_rt, bodyR_nx, bodyR_err, asB_bl, tru_bl, iff_f, iff_t, leU_int, ltU_int, gtU_int, geU_int, subU_int, addU_int, eqU_int, neU_int, tuple_two, mkE_one, len_tup, len_lst, c1_one, c2_two, rd0, rdS, norm_d, dat_d, gFl_none, gRs_none, List.set_cons_zero, List.set_cons_succ, Bool.not_true, Bool.not_false, Bool.false_eq_true, ↓reduceIte, Bool.false_and]
end
end KL
set_option Elab.async false
set_option linter.all false
set_option maxRecDepth 100000
set_option maxHeartbeats 4000000
namespace KL
open PySem PySem.Spec PyProof.Rows L2 DL
open He (ga ma)
open TL (tl)
theorem inU_not {xs ys : List D} {v : Bool} {S : Store} (h : inU false (.d (.lst xs)) (.d (.lst ys)) S = .ok (.d (.bl v)) S) : inU true (.d (.lst xs)) (.d (.lst ys)) S = .ok (.d (.bl (!v))) S := by
  have h' : (if okD (.lst xs) = true ∧ okD (.lst ys) = true then Res.ok (U.d (.bl (inB false (ys.any fun z => PyData.eqv z.py (D.lst xs).py)))) S else .bad) = .ok (.d (.bl v)) S := h
  show (if okD (.lst xs) = true ∧ okD (.lst ys) = true then Res.ok (U.d (.bl (inB true (ys.any fun z => PyData.eqv z.py (D.lst xs).py)))) S else .bad) = _
  split at h'
  · rename_i c
    rw [if_pos c]
    cases h'
    rfl
  · cases h'
theorem strs_nodup {l : List Str} (h : l.Nodup) : (l.map D.str).Nodup := List.Pairwise.map D.str (fun a b hne e => hne (by cases e; rfl)) h
theorem nodup_strs {l : List Str} (h : (l.map D.str).Nodup) : l.Nodup := List.Pairwise.of_map D.str (fun a b hne e => hne (congrArg D.str e)) h
/-- what is picked of some texts -/
theorem picked_part {fs : List Str} {es rest : List D} (hp : (es ++ rest).Perm (fs.map .str)) (nd : fs.Nodup) : ∃ ys : List Str, es = ys.map .str ∧ ys.Nodup ∧ ∀ z ∈ ys, z ∈ fs := by
  have mem : ∀ d ∈ es, ∃ z ∈ fs, d = .str z := fun d hd => by
    obtain ⟨z, hz, rfl⟩ := List.mem_map.mp (hp.mem_iff.mp (List.mem_append_left rest hd))
    exact ⟨z, hz, rfl⟩
  have nde : es.Nodup := (List.nodup_append.mp (hp.nodup_iff.mpr (strs_nodup nd))).1
  have key : ∀ l : List D, (∀ d ∈ l, ∃ z ∈ fs, d = .str z) → ∃ ys : List Str, l = ys.map .str ∧ ∀ z ∈ ys, z ∈ fs := fun l => by
    induction l with
    | nil => exact fun _ => ⟨[], rfl, fun _ h => nomatch h⟩
    | cons d t ih =>
      intro hl
      obtain ⟨ys, h1, h2⟩ := ih fun e he => hl e (List.mem_cons_of_mem _ he)
      obtain ⟨z, hz, rfl⟩ := hl d List.mem_cons_self
      refine ⟨z :: ys, by rw [h1]; rfl, fun y hy => ?_⟩
      rcases List.mem_cons.mp hy with rfl | hy
      · exact hz
      · exact h2 y hy
  obtain ⟨ys, rfl, hy⟩ := key es mem
  exact ⟨ys, rfl, nodup_strs nde, hy⟩
theorem at3 (S : Store) (a b c : Cell) : (S ++ [a, b, c])[S.length]? = some a ∧ (S ++ [a, b, c])[S.length + 1]? = some b ∧ (S ++ [a, b, c])[S.length + 2]? = some c := by
  refine ⟨?_, ?_, ?_⟩
  · rw [List.getElem?_append_right (Nat.le_refl _), Nat.sub_self]; rfl
  · rw [List.getElem?_append_right (by omega), show S.length + 1 - S.length = 1 by omega]; rfl
  · rw [List.getElem?_append_right (by omega), show S.length + 2 - S.length = 2 by omega]; rfl
theorem set3_0 (S : Store) (a b c d : Cell) : (S ++ [a, b, c]).set S.length d = S ++ [d, b, c] := by rw [List.set_append_right _ _ (Nat.le_refl _), Nat.sub_self]; rfl
theorem set3_1 (S : Store) (a b c d : Cell) : (S ++ [a, b, c]).set (S.length + 1) d = S ++ [a, d, c] := by rw [List.set_append_right _ _ (by omega), show S.length + 1 - S.length = 1 by omega]; rfl
theorem set3_2 (S : Store) (a b c d : Cell) : (S ++ [a, b, c]).set (S.length + 2) d = S ++ [a, b, d] := by rw [List.set_append_right _ _ (by omega), show S.length + 2 - S.length = 2 by omega]; rfl
/-- a layout as it is drawn: label, fields, keys, links -/
structure Lay where
  z : Str
  fs : List Str
  us : List (List Str)
  ls : List (List Str × Str)
def Lay.keyD (k : List Str) : D := .tup (k.map .str)
def Lay.refD (p : List Str × Str) : D := .tup [.tup (p.1.map .str), .str p.2]
def Lay.d (l : Lay) : D := .tup [.str l.z, .tup (l.fs.map .str), .tup (l.us.map Lay.keyD), .tup (l.ls.map Lay.refD)]
/-- some of these, each once -/
structure Part (fs k : List Str) : Prop where
  ne : k ≠ []
  nd : k.Nodup
  sub : ∀ z ∈ k, z ∈ fs
structure Lay.Ok (most : Nat) (l : Lay) : Prop where
  z : NmS l.z
  f : ∀ z ∈ l.fs, NmS z
  f0 : l.fs ≠ []
  fm : l.fs.length ≤ most
  fd : l.fs.Nodup
  u : ∀ k ∈ l.us, Part l.fs k
  ud : l.us.Pairwise fun a b => ¬ a.Perm b
  um : l.us.length ≤ 2
  r : ∀ p ∈ l.ls, Part l.fs p.1 ∧ NmS p.2
  rm : l.ls.length ≤ 2
theorem map_inj0 {α β : Type} {f : α → β} (hf : ∀ a b, f a = f b → a = b) : ∀ {l m : List α}, l.map f = m.map f → l = m
  | [], [], _ => rfl
  | [], _ :: _, h => by cases h
  | _ :: _, [], h => by cases h
  | a :: l, b :: m, h => by
    rw [List.map_cons, List.map_cons, List.cons.injEq] at h
    rw [hf a b h.1, map_inj0 hf h.2]
theorem Lay.d_inj (a b : Lay) (h : a.d = b.d) : a = b := by
  obtain ⟨z, fs, us, ls⟩ := a
  obtain ⟨z', fs', us', ls'⟩ := b
  have st : ∀ x y : Str, D.str x = D.str y → x = y := fun x y h => by cases h; rfl
  have kd : ∀ x y : List Str, Lay.keyD x = Lay.keyD y → x = y := fun x y h => map_inj0 st (D.tup.inj h)
  have rd : ∀ x y : List Str × Str, Lay.refD x = Lay.refD y → x = y := fun ⟨x1, x2⟩ ⟨y1, y2⟩ h => by
    have h' := D.tup.inj h
    simp only [List.cons.injEq] at h'
    rw [kd x1 y1 h'.1, st _ _ h'.2.1]
  have h' := D.tup.inj h
  simp only [List.cons.injEq] at h'
  obtain ⟨h1, h2, h3, h4, _⟩ := h'
  rw [st _ _ h1, map_inj0 st (D.tup.inj h2), map_inj0 kd (D.tup.inj h3), map_inj0 rd (D.tup.inj h4)]
theorem lst_inj {S : Store} {u : U} {a b : List D} (h : LstU S a u) (h' : LstU S b u) : a = b := by
  cases h with
  | lst => cases h'; rfl
  | tup => cases h'; rfl
  | cell e =>
    cases h' with
    | cell e' =>
      rw [e] at e'
      have := Cell.lst.inj (Option.some.inj e')
      exact map_inj0 (fun _ _ h => U.d.inj h) this
/-- the keys of a layout: all fields, where none was named -/
def Lay.keys (l : Lay) : List (List Str) := if l.us = [] then [l.fs] else l.us
section
variable {P : Program} {w : World} {K : PySem.W.Frag} {mg : Str → Option Value} {base : Heap}
noncomputable def keysF (u : U) (S : Store) : Res U := match u with
  | .d x => pre (∃ l : Lay, x = l.d) (.ok (.d (match x with | .tup [_, b, .tup [], _] => .tup [b] | .tup [_, _, c, _] => c | _ => .non)) S)
  | _ => .bad
theorem sc_law_keys : FnScope ["_law_layout_here"] ["_law_layout_here"] (defScope s_law_keys) := ⟨rfl, rfl, rfl, by decide +kernel, rfl, by decide +kernel, by decide +kernel⟩
theorem dk_keys (T : Txt P K mg) : FM P w K mg base 1 "_law_keys" ["_law_layout_here"] (F1 keysF) := by
  refine okM T.F_law_keys sc_law_keys (fun _ _ _ _ _ _ us hl => match us, hl with | [_], _ => rfl) F1.len (fun cdv A outer s H E hA hr => (pdss_one (pds_ret (pd_if (pdt_truth (pd_ix ixd (pd_pv 0 (pv 0)) pd_int)) (pd_ix ixd (pd_pv 0 (pv 0)) pd_int) (pd_tup (pda_cons (pd_ix ixd (pd_pv 0 (pv 0)) pd_int) pda_nil)))))) (fun us S hl => ?_)
  match us, hl with
  | [.r _], _ => exact .bad _
  | [.d x], _ =>
    refine pre_ref fun ⟨l, hx⟩ => ref_eq ?_
    subst hx
    rw [show startE (["_law_layout_here"] : List Str).length [U.d l.d] = [some (.d l.d)] from rfl]
    obtain ⟨z, fs, us, ls⟩ := l
    have x1 : ixU (.d (Lay.d ⟨z, fs, us, ls⟩)) (.d (.int 1)) S = .ok (.d (.tup (fs.map .str))) S := rfl
    have x2 : ixU (.d (Lay.d ⟨z, fs, us, ls⟩)) (.d (.int 2)) S = .ok (.d (.tup (us.map Lay.keyD))) S := rfl
    have t : truU (.d (.tup (us.map Lay.keyD))) S = .ok (!(us.map Lay.keyD).isEmpty) S := rfl
    have one : mkT [.d (.tup (fs.map .str))] S = .ok (.d (.tup [.tup (fs.map .str)])) S := rfl
    simp -implicitDefEqProofs only [bind_ok, bind_err, bind_bad, fl_ok, fl_err, fl_bad, seq_nx, seq_rt, seq_err, seq_bk, seq_ct, seq_bad, bodyR_rt, bodyR_nx, bodyR_err, asB_bl, tru_bl, iff_f, iff_t, leU_int, ltU_int, gtU_int, geU_int, subU_int, addU_int, eqU_int, neU_int, tuple_two, mkE_one, len_tup, len_lst, c1_one, c2_two, rd0, rdS, norm_d, dat_d, gFl_none, gRs_none, List.set_cons_zero, List.set_cons_succ, Bool.not_true, Bool.not_false, Bool.false_eq_true, ↓reduceIte, x1, x2, t, one]
    cases us with
    | nil => rfl
    | cons k t => rfl
theorem keys_call (l : Lay) (S : Store) : F1 keysF [.d l.d] S = .ok (.d (.tup (l.keys.map Lay.keyD))) S := by
  show pre _ _ = _
  rw [pre_pos ⟨l, rfl⟩]
  obtain ⟨z, fs, us, ls⟩ := l
  cases us with
  | nil => rfl
  | cons k t => rfl
/-- a link to one of these, of as many columns as its first key -/
def LinkOk (ls : List Lay) (p : List Str × Str) : Prop := ∃ o ∈ ls, p.2 = o.z ∧ p.1.length = (o.keys.headD []).length
structure Lay.In (ls : List Lay) (l : Lay) : Prop where
  nw : ls.length < 26 → l.z ∉ ls.map Lay.z
  lk : ∀ p ∈ l.ls, LinkOk ls p
def LayoutOk (f : Fn) : Prop := ∀ (n : Nat) (u : U) (ls : List Lay) (most : Nat) (S : Store), Bag S n → LstU S (ls.map Lay.d) u → u ≠ .r n → ls.length ≤ 20 → (∀ l ∈ ls, l.Ok 20) → 1 ≤ most → most ≤ 20 → ∃ (l : Lay) (S' : Store), f [.r n, u, .d (.int most)] S = .ok (.d l.d) S' ∧ Drew n S S' ∧ l.Ok most ∧ l.In ls
theorem sc_law_layout : FnScope ["_law_bag_here", "_law_earlier", "_law_most", "_law_pool", "_law_one", "_law_label", "_law_fields", "_law_uniques", "_law_links", "_law_turn", "_law_key", "_law_other", "_law_size", "_law_again"] ["_law_bag_here", "_law_earlier", "_law_most"] (defScope s_law_layout) := ⟨rfl, rfl, rfl, by decide +kernel, rfl, by decide +kernel, by decide +kernel⟩
theorem dk_layout (T : Txt P K mg) : ∃ f, FM P w K mg base 4 "_law_layout" ["_law_bag_here", "_law_earlier", "_law_most"] f ∧ LayoutOk f := by
  obtain ⟨takeF, F_law_take, hT⟩ := dk_take (w := w) (base := base) T
  obtain ⟨ofF, F_law_of, hOf⟩ := dk_of (w := w) (base := base) T
  obtain ⟨nameF, F_law_name, hN⟩ := dk_name (w := w) (base := base) T
  obtain ⟨pickF, F_law_picked, hP⟩ := dk_picked (w := w) (base := base) T
  have F_law_keys : FM P w K mg base 1 "_law_keys" ["_law_layout_here"] (F1 keysF) := dk_keys T
  refine Exists.imp (fun f hf => ⟨hf.1, fun n u ls most S b hu hn hll hls h0 h1 => ?_⟩) (okDraw (P := P) (w := w) (base := base) (k := 3) (fun us S => ∃ (n : Nat) (u : U) (ls : List Lay) (most : Nat), us = [.r n, u, .d (.int (most : Nat))] ∧ LstU S (ls.map Lay.d) u ∧ u ≠ .r n ∧ ls.length ≤ 20 ∧ (∀ l ∈ ls, l.Ok 20) ∧ 1 ≤ most ∧ most ≤ 20) (fun us S y => ∃ l : Lay, y = l.d ∧ (∀ n u (most : Nat), us = [.r n, u, .d (.int most)] → l.Ok most) ∧ ∀ n u ls (most : Nat), us = [.r n, u, .d (.int most)] → LstU S (ls.map Lay.d) u → l.In ls) T.F_law_layout sc_law_layout (fun _ _ _ _ _ _ us hl => match us, hl with | [_, _, _], _ => rfl) (fun cdv A outer s H E hA hr => (pdss_cons (pds_setLc (i := 3) (own := [("_law_one", 4)]) rfl sc_law_layout.nd rfl rfl (sw_true rfl rfl rfl (by decide +kernel)) (pdi_any (pd_pv 1 (pv 1))) (blkOk_by (own := [("_law_one", 4)]) (N := ["_law_bag_here", "_law_earlier", "_law_most", "_law_pool", "_law_one", "_law_label", "_law_fields", "_law_uniques", "_law_links", "_law_turn", "_law_key", "_law_other", "_law_size", "_law_again"]) (sc := defScope s_law_layout) (by decide +kernel)) (by decide) (fun _ _ _ _ _ => (pdg_name (i := 4) sc_law_layout.nd rfl (by first | exact Or.inl rfl | exact Or.inr rfl))) (fun _ _ _ _ _ => pdts_nil) (fun _ _ _ _ _ => (pd_ix ixd (pd_pv 4 (pv 4)) pd_int)))
  (pdss_cons (pds_unp (n := 4) rfl (pda_cons (pd_call hA F_law_name (hr.mono (by decide)) (takes_of rfl rfl rfl rfl) (pda_cons (pd_pv 0 (pv 0)) (pda_cons (pd_pv 3 (pv 3)) (pda_cons (pd_lst pda_nil) pda_nil)))) (pda_cons (pd_lstM pda_nil) (pda_cons (pd_lstM pda_nil) (pda_cons (pd_lstM pda_nil) pda_nil)))) (pdgs_cons (fun _ _ _ _ _ h => h) (pdg_name (i := 5) sc_law_layout.nd rfl (by first | exact Or.inl rfl | exact Or.inr rfl)) (pdgs_cons (fun _ _ _ _ _ h => h) (pdg_name (i := 6) sc_law_layout.nd rfl (by first | exact Or.inl rfl | exact Or.inr rfl)) (pdgs_cons (fun _ _ _ _ _ h => h) (pdg_name (i := 7) sc_law_layout.nd rfl (by first | exact Or.inl rfl | exact Or.inr rfl)) (pdgs_cons (fun _ _ _ _ _ h => h) (pdg_name (i := 8) sc_law_layout.nd rfl (by first | exact Or.inl rfl | exact Or.inr rfl)) pdgs_nil)))))
  (pdss_cons (pds_for (passes_of rfl) rfl (pdi_range1 T.m_range (pda_cons (pd_op od_add pd_int (pd_call hA F_law_take (hr.mono (by decide)) (takes_of rfl rfl rfl rfl) (pda_cons (pd_pv 0 (pv 0)) (pda_cons (pd_pv 2 (pv 2)) pda_nil)))) pda_nil)) (pdg_name (i := 9) sc_law_layout.nd rfl (by first | exact Or.inl rfl | exact Or.inr rfl)) (pdss_one (pds_expr (pd_bm PySem.F.plainAttrs_list PySem.F.slot_list_append PySem.F.type_list_append md_append (pd_pv 6 (pv 6)) (pda_cons (pd_call hA F_law_name (hr.mono (by decide)) (takes_of rfl rfl rfl rfl) (pda_cons (pd_pv 0 (pv 0)) (pda_cons (pd_pv 6 (pv 6)) (pda_cons (pd_op od_add (pd_pv 3 (pv 3)) (pd_lst (pda_cons (pd_pv 5 (pv 5)) (pda_cons pd_str (pda_cons pd_str (pda_cons pd_str pda_nil)))))) pda_nil)))) pda_nil)))))
  (pdss_frz 6 (pdss_cons (pds_for (passes_of rfl) rfl (pdi_range1 T.m_range (pda_cons (pd_call hA F_law_take (hr.mono (by decide)) (takes_of rfl rfl rfl rfl) (pda_cons (pd_pv 0 (pv 0)) (pda_cons pd_int pda_nil))) pda_nil)) (pdg_name (i := 9) sc_law_layout.nd rfl (by first | exact Or.inl rfl | exact Or.inr rfl)) (pdss_cons (pds_set (i := 10) sc_law_layout.nd rfl (by first | exact Or.inl rfl | exact Or.inr rfl) (pd_callTy cd_tuple T.m_tuple (pda_cons (pd_call hA F_law_picked (hr.mono (by decide)) (takes_of rfl rfl rfl rfl) (pda_cons (pd_pv 0 (pv 0)) (pda_cons (pd_pv 6 (pv 6)) (pda_cons (pd_op od_add pd_int (pd_call hA F_law_take (hr.mono (by decide)) (takes_of rfl rfl rfl rfl) (pda_cons (pd_pv 0 (pv 0)) (pda_cons (pd_callB cd_len T.m_len (pda_cons (pd_pv 6 (pv 6)) pda_nil)) pda_nil)))) pda_nil)))) pda_nil)))
  (pdss_one (pds_if (pdt_cmp (od_notin hr) (pd_callB cd_sorted T.m_sorted (pda_cons (pd_pv 10 (pv 10)) pda_nil)) (pd_lc (own := [("_law_one", 4)]) rfl sc_law_layout.nd (pdi_any (pd_pv 7 (pv 7))) (blkOk_by (own := [("_law_one", 4)]) (N := ["_law_bag_here", "_law_earlier", "_law_most", "_law_pool", "_law_one", "_law_label", "_law_fields", "_law_uniques", "_law_links", "_law_turn", "_law_key", "_law_other", "_law_size", "_law_again"]) (sc := defScope s_law_layout) (by decide +kernel)) (by decide) (fun _ _ _ _ _ => (pdg_name (i := 4) sc_law_layout.nd rfl (by first | exact Or.inl rfl | exact Or.inr rfl))) (fun _ _ _ _ _ => pdts_nil) (fun _ _ _ _ _ => (pd_callB cd_sorted T.m_sorted (pda_cons (pd_pv 4 (pv 4)) pda_nil)))) (by rfl)) (pdss_one (pds_expr (pd_bm PySem.F.plainAttrs_list PySem.F.slot_list_append PySem.F.type_list_append md_append (pd_pv 7 (pv 7)) (pda_cons (pd_pv 10 (pv 10)) pda_nil)))) pdss_nil))))
  (pdss_frz 7 (pdss_cons (pds_for (passes_of rfl) rfl (pdi_any (pd_pv 1 (pv 1))) (pdg_name (i := 11) sc_law_layout.nd rfl (by first | exact Or.inl rfl | exact Or.inr rfl)) (pdss_cons (pds_set (i := 12) sc_law_layout.nd rfl (by first | exact Or.inl rfl | exact Or.inr rfl) (pd_callB cd_len T.m_len (pda_cons (pd_ix ixd (pd_call hA F_law_keys (hr.mono (by decide)) (takes_of rfl rfl rfl rfl) (pda_cons (pd_pv 11 (pv 11)) pda_nil)) pd_int) pda_nil)))
  (pdss_one (pds_for (passes_of rfl) rfl (pdi_range1 T.m_range (pda_cons (pd_call hA F_law_of (hr.mono (by decide)) (takes_of rfl rfl rfl rfl) (pda_cons (pd_pv 0 (pv 0)) (pda_cons (pd_lst (pda_cons pd_int (pda_cons pd_int (pda_cons pd_int (pda_cons pd_int pda_nil))))) pda_nil))) pda_nil)) (pdg_name (i := 13) sc_law_layout.nd rfl (by first | exact Or.inl rfl | exact Or.inr rfl)) (pdss_one (pds_if (PDW.pt (pdw_and (pdt_cmp od_le (pd_pv 12 (pv 12)) (pd_callB cd_len T.m_len (pda_cons (pd_pv 6 (pv 6)) pda_nil)) (nomark _)) (pdw_and1 (pdt_cmp od_lt (pd_callB cd_len T.m_len (pda_cons (pd_pv 8 (pv 8)) pda_nil)) pd_int (nomark _))))) (pdss_one (pds_expr (pd_bm PySem.F.plainAttrs_list PySem.F.slot_list_append PySem.F.type_list_append md_append (pd_pv 8 (pv 8)) (pda_cons (pd_tup (pda_cons (pd_callTy cd_tuple T.m_tuple (pda_cons (pd_call hA F_law_picked (hr.mono (by decide)) (takes_of rfl rfl rfl rfl) (pda_cons (pd_pv 0 (pv 0)) (pda_cons (pd_pv 6 (pv 6)) (pda_cons (pd_pv 12 (pv 12)) pda_nil)))) pda_nil)) (pda_cons (pd_ix ixd (pd_pv 11 (pv 11)) pd_int) pda_nil))) pda_nil)))) pdss_nil))))))
  (pdss_frz 8 (pdss_one (pds_ret (pd_tup (pda_cons (pd_pv 5 (pv 5)) (pda_cons (pd_callTy cd_tuple T.m_tuple (pda_cons (pd_pv 6 (pv 6)) pda_nil)) (pda_cons (pd_callTy cd_tuple T.m_tuple (pda_cons (pd_pv 7 (pv 7)) pda_nil)) (pda_cons (pd_callTy cd_tuple T.m_tuple (pda_cons (pd_pv 8 (pv 8)) pda_nil)) pda_nil)))))))))))))))) (fun us S hl hb hp => ?_))
  · obtain ⟨y, S', e, dr, l, rfl, h, h'⟩ := hf.2 [.r n, u, .d (.int most)] S rfl b ⟨n, u, ls, most, rfl, hu, hn, hll, hls, h0, h1⟩
    exact ⟨l, S', e, dr, h n u most rfl, h' n u ls most rfl hu⟩
  · obtain ⟨n, u, ls, most, rfl, hu, hn, hll, hls, h0, h1⟩ := hp
    have hb : Bag S n := hb
    refine DrawZ.mono (po := fun y => ∃ l : Lay, y = l.d ∧ l.Ok most ∧ l.In ls) ?_ (fun y ⟨l, e, h, hi⟩ => ⟨l, e, fun n' u' most' e' => by
      simp only [List.cons.injEq, U.d.injEq, D.int.injEq] at e'
      obtain ⟨_, _, e2, _⟩ := e'
      obtain rfl : most = most' := by omega
      exact h, fun n' u' ls' most' e' hu' => by
      simp only [List.cons.injEq, U.d.injEq, D.int.injEq] at e'
      obtain ⟨_, rfl, _, _⟩ := e'
      obtain rfl : ls = ls' := map_inj0 Lay.d_inj (lst_inj hu hu')
      exact hi⟩)
    show DrawZ n S _ _
    rw [show startE (["_law_bag_here", "_law_earlier", "_law_most", "_law_pool", "_law_one", "_law_label", "_law_fields", "_law_uniques", "_law_links", "_law_turn", "_law_key", "_law_other", "_law_size", "_law_again"] : List Str).length [U.r n, u, .d (.int most)] = [some (.r n), some u, some (.d (.int most)), none, none, none, none, none, none, none, none, none, none, none] from rfl]
    obtain ⟨g, hit, hg⟩ := hu.iter
    -- the pool
    have hlc : ∀ ρ : DL.Env, ρ = [some (.r n), some u, some (.d (.int most)), none, none, none, none, none, none, none, none, none, none, none] → lcU g (fun u ρ S => Res.ok (List.set ρ 4 (some u)) S) (fun x S => Res.ok true S) (fun ρ S => (rdV ρ 4 S).bind fun x S => ixU x (U.d (D.int 0)) S) ρ ((ls.map Lay.d).map U.d) [] S
        = .ok (((ls.map Lay.z).map D.str).map U.d) S := fun ρ hρ => by
      subst hρ
      rw [lcU_mapG (hg S hu) (fun u => match u with | .d (.tup (a :: _)) => .d a | u => u) _ []]
      · rw [List.nil_append, List.map_map, List.map_map, List.map_map, List.map_map]; rfl
      · intro w hw
        obtain ⟨d, hd, rfl⟩ := List.mem_map.mp hw
        obtain ⟨l, hl, rfl⟩ := List.mem_map.mp hd
        exact ⟨_, rfl, rfl⟩
      · rw [List.length_map, List.length_map]; show 0 + ls.length ≤ sizeLine; exact sz10 (by omega)
    have hw : wipeE [some (.r n), some u, some (.d (.int most)), none, none, none, none, none, none, none, none, none, none, none] ([(("_law_one" : Str), 4)].map fun x => x.snd) = [some (.r n), some u, some (.d (.int most)), none, none, none, none, none, none, none, none, none, none, none] := rfl
    have hmk : mkL (((ls.map Lay.z).map D.str).map U.d) S = .ok (.d (.lst ((ls.map Lay.z).map D.str))) S := mkL_d (by rw [List.length_map, List.length_map]; omega) S
    have npool : ∀ S, Nms S n (.d (.lst ((ls.map Lay.z).map D.str))) (ls.map Lay.z) := fun S => ⟨.lst, (fun e => nomatch e), (fun z hz => by obtain ⟨l, hl, rfl⟩ := List.mem_map.mp hz; exact (hls l hl).z), by rw [List.length_map]; omega⟩
    have nil : ∀ S, Nms S n (.d (.lst [])) [] := fun S => ⟨.lst, (fun e => nomatch e), (fun _ h => nomatch h), by decide⟩
    have t5 : ∀ S, mkL [] S = .ok (.d (.lst [])) S := fun S => rfl
    obtain ⟨z0, S1, e1, d1, nz0, hz0⟩ := hN n _ (.d (.lst [])) _ [] S hb (npool S) (nil S)
    have b1 := d1.bag hb
    have l1 := d1.len
    have mk1 : mkM [] S1 = .ok (.r S.length) (S1 ++ [.lst []]) := by
      rw [← l1]; exact if_pos (show ([] : List U).length ≤ sizeLine from Nat.zero_le _)
    have mk2 : mkM [] (S1 ++ [.lst []]) = .ok (.r (S.length + 1)) (S1 ++ [.lst [], .lst []]) := by
      unfold mkM
      rw [if_pos (show ([] : List U).length ≤ sizeLine from Nat.zero_le _), List.length_append, List.append_assoc, l1]; rfl
    have mk3 : mkM [] (S1 ++ [.lst [], .lst []]) = .ok (.r (S.length + 2)) (S1 ++ [.lst [], .lst [], .lst []]) := by
      unfold mkM
      rw [if_pos (show ([] : List U).length ≤ sizeLine from Nat.zero_le _), List.length_append, List.append_assoc, l1]; rfl
    obtain ⟨j, S2', e2, d2', hj⟩ := hT n most (S1 ++ [.lst [], .lst [], .lst []]) b1.app (by omega) (by omega)
    obtain ⟨S2, rfl, d2⟩ := d2'.split b1
    have hrg : ∀ S, range1 [.d (.int (1 + (j : Int)))] S = .ok ⟨rangeF 0 (1 + j), none⟩ S := fun S => by
      rw [show (1 : Int) + (j : Int) = ((1 + j : Nat) : Int) by omega]
      exact range1_ok S (by omega)
    simp -implicitDefEqProofs only [bind_ok, bind_err, bind_bad, fl_ok, fl_err, fl_bad, seq_nx, seq_rt, seq_err, seq_bk, seq_ct, seq_bad, bodyR_rt, bodyR_nx, bodyR_err, asB_bl, tru_bl, iff_f, iff_t, leU_int, ltU_int, gtU_int, geU_int, subU_int, addU_int, eqU_int, neU_int, tuple_two, mkE_one, len_tup, len_lst, c1_one, c2_two, rd0, rdS, norm_d, dat_d, gFl_none, gRs_none, List.set_cons_zero, List.set_cons_succ, Bool.not_true, Bool.not_false, Bool.false_eq_true, ↓reduceIte, hu.norm, hit, hlc _ rfl, hw, hmk, hb.norm, t5, e1, mk1, mk2, mk3, List.length_cons, List.length_nil, Nat.zero_add, Nat.reduceAdd, b1.app.norm, e2, hrg]
    have cel : ∀ (S' : Store) (a b c : Cell), S'.length = S.length → (S' ++ [a, b, c])[S.length]? = some a ∧ (S' ++ [a, b, c])[S.length + 1]? = some b ∧ (S' ++ [a, b, c])[S.length + 2]? = some c := fun S' a b c h => by rw [← h]; exact at3 ..
    have ne0 : U.r S.length ≠ .r n := fun e => by cases e; exact Nat.lt_irrefl _ hb.lt
    have nto : NmS "to" := by unfold NmS NameL; decide +kernel
    have nkey : NmS "key" := by unfold NmS NameL; decide +kernel
    have nas : NmS "as" := by unfold NmS NameL; decide +kernel
    refine loop (K := fun f => DrawZ n S _ (bodyR (f.seq _))) (I := fun us ρ S' => ∃ (S1 : Store) (fs : List Str) (v9 : Option U), Drew n S S1 ∧ S' = S1 ++ [.lst ((fs.map .str).map .d), .lst [], .lst []] ∧ us.length + fs.length = 1 + j ∧ (∀ z ∈ fs, NmS z) ∧ fs.Nodup ∧
      ρ = [some (.r n), some u, some (.d (.int most)), some (.d (.lst ((ls.map Lay.z).map D.str))), none, some (.d (.str z0)), some (.r S.length), some (.r (S.length + 1)), some (.r (S.length + 2)), v9, none, none, none, none]) ?_ ?_ ?_
    · rintro t us ρ S' ⟨S1, fs, v9, d1, rfl, hlen, hfs, hnd, rfl⟩
      refine ⟨_, _, rfl, ?_⟩
      have l1 := d1.len
      have b1 := d1.bag hb
      rw [List.length_cons] at hlen
      have hc := (cel S1 (.lst ((fs.map .str).map .d)) (.lst []) (.lst []) l1).1
      have m1 : ∀ S', mkL [.d (.str z0), .d (.str (Str.ofString "to")), .d (.str (Str.ofString "key")), .d (.str (Str.ofString "as"))] S' = .ok (.d (.lst [.str z0, .str "to", .str "key", .str "as"])) S' := fun S' => rfl
      have ad : ∀ S', addU (.d (.lst ((ls.map Lay.z).map D.str))) (.d (.lst [.str z0, .str "to", .str "key", .str "as"])) S' = .ok (.d (.lst ((ls.map Lay.z ++ [z0, "to", "key", "as"]).map D.str))) S' := fun S' => by
        rw [List.map_append]
        exact addU_lst (by rw [List.length_map, List.length_map]; show ls.length + 4 ≤ 1000; omega) S'
      obtain ⟨z, S2', e2, d2', nz, hfr⟩ := hN n (.r S.length) (.d (.lst ((ls.map Lay.z ++ [z0, "to", "key", "as"]).map D.str))) fs (ls.map Lay.z ++ [z0, "to", "key", "as"]) (S1 ++ [.lst ((fs.map .str).map .d), .lst [], .lst []]) b1.app ⟨.cell hc, ne0, hfs, by omega⟩ ⟨.lst, (fun e => nomatch e), (fun y hy => by
        rcases List.mem_append.mp hy with h | h
        · obtain ⟨l, hl, rfl⟩ := List.mem_map.mp h; exact (hls l hl).z
        · simp only [List.mem_cons, List.not_mem_nil, or_false] at h
          rcases h with rfl | rfl | rfl | rfl
          · exact nz0
          · exact nto
          · exact nkey
          · exact nas), by rw [List.length_append, List.length_map]; show ls.length + 4 ≤ 1000; omega⟩
      obtain ⟨S2, rfl, d2⟩ := d2'.split b1
      have l2 : S2.length = S.length := by rw [d2.len, l1]
      have happ : appU (.r S.length) [.d (.str z)] (S2 ++ [.lst ((fs.map D.str).map U.d), .lst [], .lst []]) = .ok (.d .non) (S2 ++ [.lst (((fs ++ [z]).map .str).map .d), .lst [], .lst []]) := by
        simp only [appU, cellL, (cel S2 _ _ _ l2).1, List.length_map]
        rw [if_pos (sz5l (by omega)), ← l2, set3_0, List.map_append, List.map_append]
        rfl
      have hty : tyU "list" (.r S.length) (S1 ++ [.lst ((fs.map D.str).map U.d), .lst [], .lst []]) = true := by simp only [tyU, hc]; rfl
      have hno : norm (S1 ++ [.lst ((fs.map D.str).map U.d), .lst [], .lst []]) (.r S.length) = .r S.length := by simp only [norm, hc]
      simp -implicitDefEqProofs only [bind_ok, bind_err, bind_bad, fl_ok, fl_err, fl_bad, seq_nx, seq_rt, seq_err, seq_bk, seq_ct, seq_bad, bodyR_rt, bodyR_nx, bodyR_err, asB_bl, tru_bl, iff_f, iff_t, leU_int, ltU_int, gtU_int, geU_int, subU_int, addU_int, eqU_int, neU_int, tuple_two, mkE_one, len_tup, len_lst, c1_one, c2_two, rd0, rdS, norm_d, dat_d, gFl_none, gRs_none, List.set_cons_zero, List.set_cons_succ, Bool.not_true, Bool.not_false, Bool.false_eq_true, ↓reduceIte, hno, b1.app.norm, hty, m1, ad, e2, happ]
      have hnew := hfr (by omega)
      refine ⟨S2, fs ++ [z], _, d1.trans d2, rfl, by rw [List.length_append]; show _ + (_ + 1) = _; omega, fun y hy => ?_, ?_, rfl⟩
      · rcases List.mem_append.mp hy with h | h
        · exact hfs y h
        · obtain rfl := List.mem_singleton.mp h; exact nz
      · rw [List.nodup_append]
        exact ⟨hnd, by simp, fun a ha b hb' e => by obtain rfl := List.mem_singleton.mp hb'; exact hnew (e ▸ ha)⟩
    · rintro ρ S' ⟨S3, fs, v9, d3, rfl, hlen, hfs, hnd, rfl⟩
      have hfl : fs.length = 1 + j := by have : 0 + fs.length = 1 + j := hlen; omega
      clear e2 d2' d2 S2 mk3 mk2 mk1 e1 l1 b1 d1 S1 hlc hw hmk hrg
      have l3 := d3.len
      have b3 := d3.bag hb
      have f1 : frzV [some (.r n), some u, some (.d (.int most)), some (.d (.lst ((ls.map Lay.z).map D.str))), none, some (.d (.str z0)), some (.r S.length), some (.r (S.length + 1)), some (.r (S.length + 2)), v9, none, none, none, none] 6 (S3 ++ [.lst ((fs.map D.str).map U.d), .lst [], .lst []]) = S3 ++ [.frz (.lst (fs.map .str)), .lst [], .lst []] := by
        show frzN S.length _ = _
        unfold frzN
        simp only [(cel S3 _ _ _ l3).1, allD_map]
        rw [← l3, set3_0]
      obtain ⟨m3, S4', e4, d4', hm3⟩ := hT n 3 (S3 ++ [.frz (.lst (fs.map .str)), .lst [], .lst []]) b3.app (by decide) (by decide)
      obtain ⟨S4, rfl, d4⟩ := d4'.split b3
      have hrg3 : ∀ S, range1 [.d (.int (m3 : Int))] S = .ok ⟨rangeF 0 m3, none⟩ S := fun S => range1_ok S (by omega)
      simp -implicitDefEqProofs only [bind_ok, bind_err, bind_bad, fl_ok, fl_err, fl_bad, seq_nx, seq_rt, seq_err, seq_bk, seq_ct, seq_bad, bodyR_rt, bodyR_nx, bodyR_err, asB_bl, tru_bl, iff_f, iff_t, leU_int, ltU_int, gtU_int, geU_int, subU_int, addU_int, eqU_int, neU_int, tuple_two, mkE_one, len_tup, len_lst, c1_one, c2_two, rd0, rdS, norm_d, dat_d, gFl_none, gRs_none, List.set_cons_zero, List.set_cons_succ, Bool.not_true, Bool.not_false, Bool.false_eq_true, ↓reduceIte, f1, b3.app.norm, e4, hrg3]
      have hfpos : 0 < fs.length := by omega
      have fasc : ∀ z ∈ fs, Asc z := fun z hz => (hfs z hz).asc
      have nof : ∀ (S' : Store) (b c : Cell), S'.length = S.length → norm (S' ++ [.frz (.lst (fs.map .str)), b, c]) (.r S.length) = .d (.lst (fs.map .str)) := fun S' b c h => by simp only [norm, (cel S' _ _ _ h).1]
      have hlf : ∀ S', lenU (.d (.lst (fs.map D.str))) S' = .ok (.d (.int ((fs.length : Nat) : Int))) S' := fun S' => by rw [← List.length_map (f := D.str)]; rfl
      refine loop (K := fun f => DrawZ n S _ (bodyR (f.seq _))) (I := fun us ρ S' => ∃ (S1 : Store) (ks : List (List Str)) (v9 v10 : Option U), Drew n S S1 ∧ S' = S1 ++ [.frz (.lst (fs.map .str)), .lst ((ks.map Lay.keyD).map .d), .lst []] ∧ us.length + ks.length ≤ 2 ∧ (∀ k ∈ ks, Part fs k) ∧ (ks.Pairwise fun a b => ¬ a.Perm b) ∧
        ρ = [some (.r n), some u, some (.d (.int most)), some (.d (.lst ((ls.map Lay.z).map D.str))), none, some (.d (.str z0)), some (.r S.length), some (.r (S.length + 1)), some (.r (S.length + 2)), v9, v10, none, none, none]) ?_ ?_ ?_
      · rintro t us ρ S' ⟨S5, ks, v9', v10, d5, rfl, hlen5, hks, hpw, rfl⟩
        refine ⟨_, _, rfl, ?_⟩
        have l5 := d5.len
        have b5 := d5.bag hb
        rw [List.length_cons] at hlen5
        obtain ⟨q, S6', e6, d6', hq⟩ := hT n (fs.length : Nat) (S5 ++ [.frz (.lst (fs.map .str)), .lst ((ks.map Lay.keyD).map .d), .lst []]) b5.app (by omega) (by omega)
        obtain ⟨S6, rfl, d6⟩ := d6'.split b5
        have l6 : S6.length = S.length := by rw [d6.len, l5]
        have b6 := d6.bag b5
        have hq1 : (1 : Int) + (q : Int) = ((1 + q : Nat) : Int) := by omega
        obtain ⟨es, S7', e7, d7', hel, rest, hpm⟩ := hP n (.d (.lst (fs.map .str))) (fs.map .str) (1 + q) (S6 ++ [.frz (.lst (fs.map .str)), .lst ((ks.map Lay.keyD).map .d), .lst []]) b6.app .lst (fun e => nomatch e) (by rw [List.length_map]; omega) (by rw [List.length_map]; omega)
        obtain ⟨S7, rfl, d7⟩ := d7'.split b6
        have l7 : S7.length = S.length := by rw [d7.len, l6]
        obtain ⟨ys, rfl, ynd, ysub⟩ := picked_part hpm hnd
        rw [List.length_map] at hel
        have hyl : ys.length < 64 := by omega
        have yasc : ∀ z ∈ ys, Asc z := fun z hz => fasc z (ysub z hz)
        have htp : ∀ S', tupU (.d (.lst (ys.map D.str))) S' = .ok (.d (.tup (ys.map .str))) S' := fun S' => rfl
        have hc7 := (cel S7 (.frz (.lst (fs.map .str))) (.lst ((ks.map Lay.keyD).map .d)) (.lst []) l7).2.1
        have hno7 : norm (S7 ++ [.frz (.lst (fs.map .str)), .lst ((ks.map Lay.keyD).map .d), .lst []]) (.r (S.length + 1)) = .r (S.length + 1) := by simp only [norm, hc7]
        have hit7 : iterU (.r (S.length + 1)) (S7 ++ [.frz (.lst (fs.map .str)), .lst ((ks.map Lay.keyD).map .d), .lst []]) = .ok ⟨(ks.map Lay.keyD).map .d, some (S.length + 1, (ks.map Lay.keyD).map .d)⟩ (S7 ++ [.frz (.lst (fs.map .str)), .lst ((ks.map Lay.keyD).map .d), .lst []]) := by simp only [iterU, hc7]
        have ksl : ∀ k ∈ ks, k.length < 64 := fun k hk => by
          have := nodup_len (hks k hk).nd (hks k hk).sub
          omega
        have hw7 : wipeE [some (.r n), some u, some (.d (.int most)), some (.d (.lst ((ls.map Lay.z).map D.str))), none, some (.d (.str z0)), some (.r S.length), some (.r (S.length + 1)), some (.r (S.length + 2)), some t, some (.d (.tup (ys.map .str))), none, none, none] ([(("_law_one" : Str), 4)].map fun x => x.snd) = [some (.r n), some u, some (.d (.int most)), some (.d (.lst ((ls.map Lay.z).map D.str))), none, some (.d (.str z0)), some (.r S.length), some (.r (S.length + 1)), some (.r (S.length + 2)), some t, some (.d (.tup (ys.map .str))), none, none, none] := rfl
        have hlc7 : lcU (some (S.length + 1, (ks.map Lay.keyD).map U.d)) (fun u ρ S => Res.ok (List.set ρ 4 (some u)) S) (fun x S => Res.ok true S) (fun ρ S => ((rdV ρ 4 S).bind fun x S => Res.ok [x] S).bind (c1 sortU)) [some (.r n), some u, some (.d (.int most)), some (.d (.lst ((ls.map Lay.z).map D.str))), none, some (.d (.str z0)), some (.r S.length), some (.r (S.length + 1)), some (.r (S.length + 2)), some t, some (.d (.tup (ys.map .str))), none, none, none] ((ks.map Lay.keyD).map U.d) [] (S7 ++ [.frz (.lst (fs.map .str)), .lst ((ks.map Lay.keyD).map .d), .lst []])
            = .ok ((ks.map fun k => D.lst ((sortS k).map .str)).map U.d) (S7 ++ [.frz (.lst (fs.map .str)), .lst ((ks.map Lay.keyD).map .d), .lst []]) := by
          rw [lcU_mapG (show gOk _ (some (S.length + 1, (ks.map Lay.keyD).map U.d)) from hc7) (fun u => match u with | .d d => .d (.lst ((sortS (keyS d)).map .str)) | u => u) _ []]
          · have kk : ∀ k : List Str, keyS (Lay.keyD k) = k := fun k => by show (strsD (k.map .str)).getD [] = k; rw [strsD_map]; rfl
            rw [List.nil_append, List.map_map, List.map_map, List.map_map]
            rw [List.map_map]
            refine congrArg (fun l => Res.ok l _) (List.map_congr_left fun k _ => ?_)
            show U.d (.lst ((sortS (keyS (Lay.keyD k))).map .str)) = _
            rw [kk]; rfl
          · intro w hw
            obtain ⟨d, hd, rfl⟩ := List.mem_map.mp hw
            obtain ⟨k, hk, rfl⟩ := List.mem_map.mp hd
            refine ⟨_, rfl, ?_⟩
            have kk : keyS (Lay.keyD k) = k := by show (strsD (k.map .str)).getD [] = k; rw [strsD_map]; rfl
            have sc := sort_call (ksl k hk) (S7 ++ [.frz (.lst (fs.map .str)), .lst ((ks.map Lay.keyD).map .d), .lst []])
            simp only [bind_ok, bind_err, bind_bad, fl_ok, fl_err, fl_bad, seq_nx, seq_rt, seq_err, seq_bk, seq_ct, seq_bad, bodyR_rt, bodyR_nx, bodyR_err, asB_bl, tru_bl, iff_f, iff_t, leU_int, ltU_int, gtU_int, geU_int, subU_int, addU_int, eqU_int, neU_int, tuple_two, mkE_one, len_tup, len_lst, c1_one, c2_two, rd0, rdS, norm_d, dat_d, gFl_none, gRs_none, List.set_cons_zero, List.set_cons_succ, Bool.not_true, Bool.not_false, Bool.false_eq_true, ↓reduceIte, kk]
            exact sc
          · rw [List.length_map, List.length_map]; show 0 + ks.length ≤ sizeLine; exact sz10 (by omega)
        have hmk7 : mkL ((ks.map fun k => D.lst ((sortS k).map .str)).map U.d) (S7 ++ [.frz (.lst (fs.map .str)), .lst ((ks.map Lay.keyD).map .d), .lst []]) = .ok (.d (.lst (ks.map fun k => D.lst ((sortS k).map .str)))) (S7 ++ [.frz (.lst (fs.map .str)), .lst ((ks.map Lay.keyD).map .d), .lst []]) := mkL_d (by rw [List.length_map]; omega) _
        have hin7 := inU_not (in_sorted (xs := ys) (mss := ks) yasc (fun k hk z hz => fasc z ((hks k hk).sub z hz)) (S7 ++ [.frz (.lst (fs.map .str)), .lst ((ks.map Lay.keyD).map .d), .lst []]))
        simp -implicitDefEqProofs only [bind_ok, bind_err, bind_bad, fl_ok, fl_err, fl_bad, seq_nx, seq_rt, seq_err, seq_bk, seq_ct, seq_bad, bodyR_rt, bodyR_nx, bodyR_err, asB_bl, tru_bl, iff_f, iff_t, leU_int, ltU_int, gtU_int, geU_int, subU_int, addU_int, eqU_int, neU_int, tuple_two, mkE_one, len_tup, len_lst, c1_one, c2_two, rd0, rdS, norm_d, dat_d, gFl_none, gRs_none, List.set_cons_zero, List.set_cons_succ, Bool.not_true, Bool.not_false, Bool.false_eq_true, ↓reduceIte, b5.app.norm, nof S5 _ _ l5, hlf, e6, hq1, e7, htp, sort_call hyl, hno7, hit7, hw7, hlc7, hmk7, hin7]
        have dd := d5.trans (d6.trans d7)
        cases han : ks.any fun m => decide (m.Perm ys) with
        | true =>
          simp -implicitDefEqProofs only [bind_ok, bind_err, bind_bad, fl_ok, fl_err, fl_bad, seq_nx, seq_rt, seq_err, seq_bk, seq_ct, seq_bad, bodyR_rt, bodyR_nx, bodyR_err, asB_bl, tru_bl, iff_f, iff_t, leU_int, ltU_int, gtU_int, geU_int, subU_int, addU_int, eqU_int, neU_int, tuple_two, mkE_one, len_tup, len_lst, c1_one, c2_two, rd0, rdS, norm_d, dat_d, gFl_none, gRs_none, List.set_cons_zero, List.set_cons_succ, Bool.not_true, Bool.not_false, Bool.false_eq_true, ↓reduceIte]
          exact ⟨S7, ks, _, _, dd, rfl, by omega, hks, hpw, rfl⟩
        | false =>
          have hty : tyU "list" (.r (S.length + 1)) (S7 ++ [.frz (.lst (fs.map .str)), .lst ((ks.map Lay.keyD).map .d), .lst []]) = true := by simp only [tyU, hc7]; rfl
          have happ : appU (.r (S.length + 1)) [.d (.tup (ys.map .str))] (S7 ++ [.frz (.lst (fs.map .str)), .lst ((ks.map Lay.keyD).map .d), .lst []]) = .ok (.d .non) (S7 ++ [.frz (.lst (fs.map .str)), .lst (((ks ++ [ys]).map Lay.keyD).map .d), .lst []]) := by
            simp only [appU, cellL, hc7, List.length_map]
            rw [if_pos (sz5l (by omega)), ← l7, set3_1, List.map_append, List.map_append]
            rfl
          simp -implicitDefEqProofs only [bind_ok, bind_err, bind_bad, fl_ok, fl_err, fl_bad, seq_nx, seq_rt, seq_err, seq_bk, seq_ct, seq_bad, bodyR_rt, bodyR_nx, bodyR_err, asB_bl, tru_bl, iff_f, iff_t, leU_int, ltU_int, gtU_int, geU_int, subU_int, addU_int, eqU_int, neU_int, tuple_two, mkE_one, len_tup, len_lst, c1_one, c2_two, rd0, rdS, norm_d, dat_d, gFl_none, gRs_none, List.set_cons_zero, List.set_cons_succ, Bool.not_true, Bool.not_false, Bool.false_eq_true, ↓reduceIte, hno7, hty, happ]
          refine ⟨S7, ks ++ [ys], _, _, dd, rfl, by rw [List.length_append]; show _ + (_ + 1) ≤ 2; omega, fun k hk => ?_, ?_, rfl⟩
          · rcases List.mem_append.mp hk with h | h
            · exact hks k h
            · obtain rfl := List.mem_singleton.mp h
              exact ⟨fun e => by rw [e] at hel; simp at hel; omega, ynd, ysub⟩
          · rw [List.pairwise_append]
            refine ⟨hpw, by simp, fun a ha b hb' hp => ?_⟩
            obtain rfl := List.mem_singleton.mp hb'
            have := List.any_eq_false.mp han a ha
            exact this (decide_eq_true hp)
      · rintro ρ S' ⟨S5, ks, v9', v10, d5, rfl, hlen5, hks, hpw, rfl⟩
        have hksl : ks.length ≤ 2 := by have : 0 + ks.length ≤ 2 := hlen5; omega
        clear e4 d4' d4 S4 f1 b3 l3 d3 S3 hrg3
        have l5 := d5.len
        have b5 := d5.bag hb
        have f2 : frzV [some (.r n), some u, some (.d (.int most)), some (.d (.lst ((ls.map Lay.z).map D.str))), none, some (.d (.str z0)), some (.r S.length), some (.r (S.length + 1)), some (.r (S.length + 2)), v9', v10, none, none, none] 7 (S5 ++ [.frz (.lst (fs.map .str)), .lst ((ks.map Lay.keyD).map .d), .lst []]) = S5 ++ [.frz (.lst (fs.map .str)), .frz (.lst (ks.map Lay.keyD)), .lst []] := by
          show frzN (S.length + 1) _ = _
          unfold frzN
          simp only [(cel S5 _ _ _ l5).2.1, allD_map]
          rw [← l5, set3_1]
        have huA : ∀ S6, Drew n S S6 → ∀ g : Store, LstU (S6 ++ g) (ls.map Lay.d) u := fun S6 d6 g => (hu.drew d6 hn).app
        obtain ⟨g2, hit2, hg2⟩ := (huA S5 d5 [.frz (.lst (fs.map .str)), .frz (.lst (ks.map Lay.keyD)), .lst []]).iter
        simp -implicitDefEqProofs only [bind_ok, bind_err, bind_bad, fl_ok, fl_err, fl_bad, seq_nx, seq_rt, seq_err, seq_bk, seq_ct, seq_bad, bodyR_rt, bodyR_nx, bodyR_err, asB_bl, tru_bl, iff_f, iff_t, leU_int, ltU_int, gtU_int, geU_int, subU_int, addU_int, eqU_int, neU_int, tuple_two, mkE_one, len_tup, len_lst, c1_one, c2_two, rd0, rdS, norm_d, dat_d, gFl_none, gRs_none, List.set_cons_zero, List.set_cons_succ, Bool.not_true, Bool.not_false, Bool.false_eq_true, ↓reduceIte, f2, (huA S5 d5 _).norm, hit2]
        refine loopG (K := fun f => DrawZ n S _ (bodyR (f.seq _))) (I := fun us ρ S' => ∃ (S6 : Store) (rs : List (List Str × Str)) (rest : List Lay) (v11 v12 v13 : Option U), Drew n S S6 ∧ S' = S6 ++ [.frz (.lst (fs.map .str)), .frz (.lst (ks.map Lay.keyD)), .lst ((rs.map Lay.refD).map .d)] ∧ us = (rest.map Lay.d).map .d ∧ (∀ l ∈ rest, l.Ok 20 ∧ l ∈ ls) ∧ rs.length ≤ 2 ∧ (∀ p ∈ rs, (Part fs p.1 ∧ NmS p.2) ∧ LinkOk ls p) ∧
          ρ = [some (.r n), some u, some (.d (.int most)), some (.d (.lst ((ls.map Lay.z).map D.str))), none, some (.d (.str z0)), some (.r S.length), some (.r (S.length + 1)), some (.r (S.length + 2)), v9', v10, v11, v12, v13]) ?_ ?_ ?_ ?_
        · rintro us ρ S' ⟨S6, rs, rest, v11, v12, v13, d6, rfl, _⟩
          exact hg2 _ (huA S6 d6 _)
        · rintro t us ρ S' ⟨S6, rs, rest, v11, v12, v13, d6, rfl, hus, hok, hrs, hrp, rfl⟩
          obtain ⟨l, rest, rfl⟩ : ∃ l r, rest = l :: r := by cases rest with | nil => cases hus | cons d r => exact ⟨d, r, rfl⟩
          simp only [List.map_cons, List.cons.injEq] at hus
          obtain ⟨rfl, rfl⟩ := hus
          refine ⟨_, _, rfl, ?_⟩
          have l6 := d6.len
          have b6 := d6.bag hb
          have lok := (hok l List.mem_cons_self).1
          have lin := (hok l List.mem_cons_self).2
          obtain ⟨k0, kt, hk0, hk0l, hk0p⟩ : ∃ k0 kt, l.keys = k0 :: kt ∧ k0.length ≤ 20 ∧ k0 ≠ [] := by
            have hfl20 := lok.fm
            unfold Lay.keys
            by_cases h : l.us = []
            · rw [if_pos h]; exact ⟨l.fs, [], rfl, hfl20, lok.f0⟩
            · rw [if_neg h]
              obtain ⟨a, b, e⟩ := List.exists_cons_of_ne_nil h
              have hp := lok.u a (by rw [e]; simp)
              exact ⟨a, b, e, Nat.le_trans (nodup_len hp.nd hp.sub) hfl20, hp.ne⟩
          have kc : ∀ S', F1 keysF [.d l.d] S' = .ok (.d (.tup (l.keys.map Lay.keyD))) S' := keys_call l
          have hix : ∀ S', ixU (.d (.tup (l.keys.map Lay.keyD))) (.d (.int 0)) S' = .ok (.d (.tup (k0.map .str))) S' := fun S' => (LstU.tup (S := S')).ix (i := 0) (by rw [hk0]; rfl)
          have mk4 : ∀ S, mkL [.d (.int 0), .d (.int 0), .d (.int 1), .d (.int 2)] S = .ok (.d (.lst [.int 0, .int 0, .int 1, .int 2])) S := fun S => rfl
          obtain ⟨cd, S7', e7, d7', hcd⟩ := hOf n (.d (.lst [.int 0, .int 0, .int 1, .int 2])) _ (S6 ++ [.frz (.lst (fs.map .str)), .frz (.lst (ks.map Lay.keyD)), .lst ((rs.map Lay.refD).map .d)]) b6.app (.of .lst) (fun e => nomatch e) (by simp) (by simp)
          obtain ⟨S7, rfl, d7⟩ := d7'.split b6
          obtain ⟨cn, rfl, hcn⟩ : ∃ c2 : Nat, cd = .int c2 ∧ c2 ≤ 2 := by
            simp only [List.mem_cons, List.not_mem_nil, or_false] at hcd
            rcases hcd with rfl | rfl | rfl | rfl
            · exact ⟨0, rfl, by decide⟩
            · exact ⟨0, rfl, by decide⟩
            · exact ⟨1, rfl, by decide⟩
            · exact ⟨2, rfl, by decide⟩
          have hrgc : ∀ S, range1 [.d (.int (cn : Int))] S = .ok ⟨rangeF 0 cn, none⟩ S := fun S => range1_ok S (by omega)
          simp -implicitDefEqProofs only [bind_ok, bind_err, bind_bad, fl_ok, fl_err, fl_bad, seq_nx, seq_rt, seq_err, seq_bk, seq_ct, seq_bad, bodyR_rt, bodyR_nx, bodyR_err, asB_bl, tru_bl, iff_f, iff_t, leU_int, ltU_int, gtU_int, geU_int, subU_int, addU_int, eqU_int, neU_int, tuple_two, mkE_one, len_tup, len_lst, c1_one, c2_two, rd0, rdS, norm_d, dat_d, gFl_none, gRs_none, List.set_cons_zero, List.set_cons_succ, Bool.not_true, Bool.not_false, Bool.false_eq_true, ↓reduceIte, kc, hix, List.length_map, b6.app.norm, mk4, e7, hrgc]
          generalize hfor : forU none _ _ (rangeF 0 cn) _ _ = fl
          obtain ⟨S8, rs', v13', d8, hrs', hrp', hfl⟩ : ∃ (S8 : Store) (rs' : List (List Str × Str)) (v13' : Option U), Drew n S S8 ∧ rs'.length ≤ 2 ∧ (∀ p ∈ rs', (Part fs p.1 ∧ NmS p.2) ∧ LinkOk ls p) ∧ fl = .nx [some (.r n), some u, some (.d (.int most)), some (.d (.lst ((ls.map Lay.z).map D.str))), none, some (.d (.str z0)), some (.r S.length), some (.r (S.length + 1)), some (.r (S.length + 2)), v9', v10, some (.d l.d), some (.d (.int ((k0.length : Nat) : Int))), v13'] (S8 ++ [.frz (.lst (fs.map .str)), .frz (.lst (ks.map Lay.keyD)), .lst ((rs'.map Lay.refD).map .d)]) := by
            rw [← hfor]
            refine loop (K := fun f => ∃ (S8 : Store) (rs' : List (List Str × Str)) (v13' : Option U), Drew n S S8 ∧ rs'.length ≤ 2 ∧ (∀ p ∈ rs', (Part fs p.1 ∧ NmS p.2) ∧ LinkOk ls p) ∧ f = .nx [some (.r n), some u, some (.d (.int most)), some (.d (.lst ((ls.map Lay.z).map D.str))), none, some (.d (.str z0)), some (.r S.length), some (.r (S.length + 1)), some (.r (S.length + 2)), v9', v10, some (.d l.d), some (.d (.int ((k0.length : Nat) : Int))), v13'] (S8 ++ [.frz (.lst (fs.map .str)), .frz (.lst (ks.map Lay.keyD)), .lst ((rs'.map Lay.refD).map .d)]))
              (I := fun us ρ S' => ∃ (S8 : Store) (rs' : List (List Str × Str)) (v13' : Option U), Drew n S S8 ∧ rs'.length ≤ 2 ∧ (∀ p ∈ rs', (Part fs p.1 ∧ NmS p.2) ∧ LinkOk ls p) ∧ S' = S8 ++ [.frz (.lst (fs.map .str)), .frz (.lst (ks.map Lay.keyD)), .lst ((rs'.map Lay.refD).map .d)] ∧ ρ = [some (.r n), some u, some (.d (.int most)), some (.d (.lst ((ls.map Lay.z).map D.str))), none, some (.d (.str z0)), some (.r S.length), some (.r (S.length + 1)), some (.r (S.length + 2)), v9', v10, some (.d l.d), some (.d (.int ((k0.length : Nat) : Int))), v13']) ?_ ?_ ?_
            · rintro t us ρ S' ⟨S8, rs', v13', d8, hrs', hrp', rfl, rfl⟩
              refine ⟨_, _, rfl, ?_⟩
              have l8 := d8.len
              have b8 := d8.bag hb
              have hc8 := (cel S8 (.frz (.lst (fs.map .str))) (.frz (.lst (ks.map Lay.keyD))) (.lst ((rs'.map Lay.refD).map .d)) l8).2.2
              have hlu8 : LstU (S8 ++ [.frz (.lst (fs.map .str)), .frz (.lst (ks.map Lay.keyD)), .lst ((rs'.map Lay.refD).map .d)]) (rs'.map Lay.refD) (.r (S.length + 2)) := .cell hc8
              simp -implicitDefEqProofs only [bind_ok, bind_err, bind_bad, fl_ok, fl_err, fl_bad, seq_nx, seq_rt, seq_err, seq_bk, seq_ct, seq_bad, bodyR_rt, bodyR_nx, bodyR_err, asB_bl, tru_bl, iff_f, iff_t, leU_int, ltU_int, gtU_int, geU_int, subU_int, addU_int, eqU_int, neU_int, tuple_two, mkE_one, len_tup, len_lst, c1_one, c2_two, rd0, rdS, norm_d, dat_d, gFl_none, gRs_none, List.set_cons_zero, List.set_cons_succ, Bool.not_true, Bool.not_false, Bool.false_eq_true, ↓reduceIte, nof S8 _ _ l8, hlf, hlu8.norm, hlu8.len, List.length_map]
              by_cases hsz : ((k0.length : Nat) : Int) ≤ ((fs.length : Nat) : Int)
              · by_cases hl2 : ((rs'.length : Nat) : Int) < 2
                · obtain ⟨es, S9', e9, d9', hel, rest', hpm⟩ := hP n (.d (.lst (fs.map .str))) (fs.map .str) k0.length (S8 ++ [.frz (.lst (fs.map .str)), .frz (.lst (ks.map Lay.keyD)), .lst ((rs'.map Lay.refD).map .d)]) b8.app .lst (fun e => nomatch e) (by rw [List.length_map]; omega) (by rw [List.length_map]; omega)
                  obtain ⟨S9, rfl, d9⟩ := d9'.split b8
                  have l9 : S9.length = S.length := by rw [d9.len, l8]
                  obtain ⟨ys, rfl, ynd, ysub⟩ := picked_part hpm hnd
                  rw [List.length_map] at hel
                  have htp : ∀ S', tupU (.d (.lst (ys.map D.str))) S' = .ok (.d (.tup (ys.map .str))) S' := fun S' => rfl
                  have hz : ∀ S', ixU (.d l.d) (.d (.int 0)) S' = .ok (.d (.str l.z)) S' := fun S' => rfl
                  have t2 : ∀ S', mkT [.d (.tup (ys.map .str)), .d (.str l.z)] S' = .ok (.d (Lay.refD (ys, l.z))) S' := fun S' => rfl
                  have hty : tyU "list" (.r (S.length + 2)) (S8 ++ [.frz (.lst (fs.map .str)), .frz (.lst (ks.map Lay.keyD)), .lst ((rs'.map Lay.refD).map .d)]) = true := by simp only [tyU, hc8]; rfl
                  have happ : appU (.r (S.length + 2)) [.d (Lay.refD (ys, l.z))] (S9 ++ [.frz (.lst (fs.map .str)), .frz (.lst (ks.map Lay.keyD)), .lst ((rs'.map Lay.refD).map .d)]) = .ok (.d .non) (S9 ++ [.frz (.lst (fs.map .str)), .frz (.lst (ks.map Lay.keyD)), .lst (((rs' ++ [(ys, l.z)]).map Lay.refD).map .d)]) := by
                    simp only [appU, cellL, (cel S9 _ _ _ l9).2.2, List.length_map]
                    rw [if_pos (sz5l (by omega)), ← l9, set3_2, List.map_append, List.map_append]
                    rfl
                  simp -implicitDefEqProofs only [decide_eq_true hsz, decide_eq_true hl2, bind_ok, bind_err, bind_bad, fl_ok, fl_err, fl_bad, seq_nx, seq_rt, seq_err, seq_bk, seq_ct, seq_bad, bodyR_rt, bodyR_nx, bodyR_err, asB_bl, tru_bl, iff_f, iff_t, leU_int, ltU_int, gtU_int, geU_int, subU_int, addU_int, eqU_int, neU_int, tuple_two, mkE_one, len_tup, len_lst, c1_one, c2_two, rd0, rdS, norm_d, dat_d, gFl_none, gRs_none, List.set_cons_zero, List.set_cons_succ, Bool.not_true, Bool.not_false, Bool.false_eq_true, ↓reduceIte, hlu8.norm, hty, b8.app.norm, nof S8 _ _ l8, e9, htp, hz, t2, happ]
                  refine ⟨S9, rs' ++ [(ys, l.z)], _, d8.trans d9, by rw [List.length_append]; show _ + 1 ≤ 2; omega, fun p hp => ?_, rfl, rfl⟩
                  rcases List.mem_append.mp hp with h | h
                  · exact hrp' p h
                  · obtain rfl := List.mem_singleton.mp h
                    refine ⟨⟨⟨fun e => hk0p ?_, ynd, ysub⟩, lok.z⟩, l, lin, rfl, by rw [hk0]; exact hel⟩
                    have e' : ys = [] := e
                    rw [e'] at hel
                    exact List.eq_nil_of_length_eq_zero hel.symm
                · simp -implicitDefEqProofs only [decide_eq_true hsz, decide_eq_false hl2, bind_ok, bind_err, bind_bad, fl_ok, fl_err, fl_bad, seq_nx, seq_rt, seq_err, seq_bk, seq_ct, seq_bad, bodyR_rt, bodyR_nx, bodyR_err, asB_bl, tru_bl, iff_f, iff_t, leU_int, ltU_int, gtU_int, geU_int, subU_int, addU_int, eqU_int, neU_int, tuple_two, mkE_one, len_tup, len_lst, c1_one, c2_two, rd0, rdS, norm_d, dat_d, gFl_none, gRs_none, List.set_cons_zero, List.set_cons_succ, Bool.not_true, Bool.not_false, Bool.false_eq_true, ↓reduceIte]
                  exact ⟨S8, rs', _, d8, hrs', hrp', rfl, rfl⟩
              · simp -implicitDefEqProofs only [decide_eq_false hsz, bind_ok, bind_err, bind_bad, fl_ok, fl_err, fl_bad, seq_nx, seq_rt, seq_err, seq_bk, seq_ct, seq_bad, bodyR_rt, bodyR_nx, bodyR_err, asB_bl, tru_bl, iff_f, iff_t, leU_int, ltU_int, gtU_int, geU_int, subU_int, addU_int, eqU_int, neU_int, tuple_two, mkE_one, len_tup, len_lst, c1_one, c2_two, rd0, rdS, norm_d, dat_d, gFl_none, gRs_none, List.set_cons_zero, List.set_cons_succ, Bool.not_true, Bool.not_false, Bool.false_eq_true, ↓reduceIte]
                exact ⟨S8, rs', _, d8, hrs', hrp', rfl, rfl⟩
            · rintro ρ S' ⟨S8, rs', v13', d8, hrs', hrp', rfl, rfl⟩
              exact ⟨S8, rs', v13', d8, hrs', hrp', rfl⟩
            · exact ⟨S7, rs, _, d6.trans d7, hrs, hrp, rfl, rfl⟩
          subst hfl
          exact ⟨S8, rs', rest, _, _, _, d8, rfl, rfl, fun l hl => hok l (List.mem_cons_of_mem _ hl), hrs', hrp', rfl⟩
        · rintro ρ S' ⟨S6, rs, rest, v11, v12, v13, d6, rfl, _, _, hrs, hrp, rfl⟩
          have l6 := d6.len
          have f3 : frzV [some (.r n), some u, some (.d (.int most)), some (.d (.lst ((ls.map Lay.z).map D.str))), none, some (.d (.str z0)), some (.r S.length), some (.r (S.length + 1)), some (.r (S.length + 2)), v9', v10, v11, v12, v13] 8 (S6 ++ [.frz (.lst (fs.map .str)), .frz (.lst (ks.map Lay.keyD)), .lst ((rs.map Lay.refD).map .d)]) = S6 ++ [.frz (.lst (fs.map .str)), .frz (.lst (ks.map Lay.keyD)), .frz (.lst (rs.map Lay.refD))] := by
            show frzN (S.length + 2) _ = _
            unfold frzN
            simp only [(cel S6 _ _ _ l6).2.2, allD_map]
            rw [← l6, set3_2]
          have n1 : norm (S6 ++ [.frz (.lst (fs.map .str)), .frz (.lst (ks.map Lay.keyD)), .frz (.lst (rs.map Lay.refD))]) (.r (S.length + 1)) = .d (.lst (ks.map Lay.keyD)) := by simp only [norm, (cel S6 _ _ _ l6).2.1]
          have n2 : norm (S6 ++ [.frz (.lst (fs.map .str)), .frz (.lst (ks.map Lay.keyD)), .frz (.lst (rs.map Lay.refD))]) (.r (S.length + 2)) = .d (.lst (rs.map Lay.refD)) := by simp only [norm, (cel S6 _ _ _ l6).2.2]
          have htp : ∀ (l : List D) S', tupU (.d (.lst l)) S' = .ok (.d (.tup l)) S' := fun l S' => rfl
          have t4 : ∀ S', mkT [.d (.str z0), .d (.tup (fs.map .str)), .d (.tup (ks.map Lay.keyD)), .d (.tup (rs.map Lay.refD))] S' = .ok (.d (Lay.d ⟨z0, fs, ks, rs⟩)) S' := fun S' => rfl
          simp -implicitDefEqProofs only [bind_ok, bind_err, bind_bad, fl_ok, fl_err, fl_bad, seq_nx, seq_rt, seq_err, seq_bk, seq_ct, seq_bad, bodyR_rt, bodyR_nx, bodyR_err, asB_bl, tru_bl, iff_f, iff_t, leU_int, ltU_int, gtU_int, geU_int, subU_int, addU_int, eqU_int, neU_int, tuple_two, mkE_one, len_tup, len_lst, c1_one, c2_two, rd0, rdS, norm_d, dat_d, gFl_none, gRs_none, List.set_cons_zero, List.set_cons_succ, Bool.not_true, Bool.not_false, Bool.false_eq_true, ↓reduceIte, f3, nof S6 _ _ l6, n1, n2, htp, t4]
          refine drawZg _ d6 ⟨⟨z0, fs, ks, rs⟩, rfl, ⟨nz0, hfs, fun e => by have e' : fs = [] := e; rw [e'] at hfl; simp at hfl; omega, ?_, hnd, hks, hpw, hksl, fun p hp => (hrp p hp).1, hrs⟩, ⟨fun h => hz0 (by rw [List.length_map]; exact h), fun p hp => (hrp p hp).2⟩⟩
          show fs.length ≤ most
          omega
        · exact ⟨S5, [], ls, _, _, _, d5, rfl, rfl, fun l hl => ⟨hls l hl, hl⟩, by decide, (fun _ h => nomatch h), rfl⟩
      · exact ⟨S4, [], _, _, d3.trans d4, rfl, by rw [rangeF, List.length_map, List.length_range]; show m3 + 0 ≤ 2; omega, (fun _ h => nomatch h), .nil, rfl⟩
    · refine ⟨S2, [], none, d1.trans d2, rfl, ?_, (fun _ h => nomatch h), List.nodup_nil, rfl⟩
      rw [rangeF, List.length_map, List.length_range]; rfl
end
end KL
set_option Elab.async false
set_option linter.all false
set_option maxRecDepth 100000
set_option maxHeartbeats 4000000
namespace KL
open PySem PySem.Spec PyProof.Rows L2 DL
open He (ga ma)
open TL (tl)
theorem enum_cons {n : Nat} {rest : List D} {u : U} {us : List U} (h : u :: us = enumN n rest) : ∃ d r, rest = d :: r ∧ u = .d (.tup [.int (n : Nat), d]) ∧ us = enumN (n + 1) r := by
  cases rest with
  | nil => cases h
  | cons d r =>
    rw [enumN_cons] at h
    simp only [List.cons.injEq] at h
    exact ⟨d, r, rfl, h.1, h.2⟩
theorem enum_nil {n : Nat} {rest : List D} (h : [] = enumN n rest) : rest = [] := by
  cases rest with
  | nil => rfl
  | cons x t => rw [enumN_cons] at h; cases h
def colsW (cols pre : List Str) : List D → Bool
  | [] => true
  | d :: r => match d with
    | .str z => (decide (z ∈ cols) && !decide (z ∈ pre)) && colsW cols (pre ++ [z]) r
    | _ => false
theorem colsW_eq (cols : List Str) : ∀ (ds : List D) (pre : List Str), pre.Nodup → colsW cols pre ds = match strsD ds with | some zs => zs.all (fun z => decide (z ∈ cols)) && decide (pre ++ zs).Nodup | none => false
  | [], pre, h => by
    show true = (([] : List Str).all _ && decide (pre ++ []).Nodup)
    rw [List.append_nil, decide_eq_true h]; rfl
  | d :: r, pre, h => by
    cases d with
    | str z =>
      show ((decide (z ∈ cols) && !decide (z ∈ pre)) && colsW cols (pre ++ [z]) r) = match (strsD r).map (z :: ·) with | some zs => zs.all (fun z => decide (z ∈ cols)) && decide (pre ++ zs).Nodup | none => false
      by_cases hz : z ∈ pre
      · rw [decide_eq_true hz]
        simp only [Bool.not_true, Bool.and_false, Bool.false_and]
        cases strsD r with
        | none => rfl
        | some zs =>
          show false = ((z :: zs).all _ && decide (pre ++ z :: zs).Nodup)
          rw [decide_eq_false, Bool.and_false]
          intro hn
          exact (List.nodup_append.mp hn).2.2 z hz z List.mem_cons_self rfl
      · have hp : (pre ++ [z]).Nodup := by
          rw [List.nodup_append]
          exact ⟨h, by simp, fun a ha b hb e => by obtain rfl := List.mem_singleton.mp hb; exact hz (e ▸ ha)⟩
        rw [colsW_eq cols r (pre ++ [z]) hp, decide_eq_false hz]
        cases strsD r with
        | none => simp
        | some zs =>
          show ((decide (z ∈ cols) && !false) && (zs.all _ && decide (pre ++ [z] ++ zs).Nodup)) = ((z :: zs).all _ && decide (pre ++ z :: zs).Nodup)
          rw [List.append_assoc, List.all_cons]
          simp [Bool.and_assoc]
    | _ => rfl
theorem colsD_W (ds : List D) (cols : List Str) : colsD (.tup ds) cols = (!ds.isEmpty && colsW cols [] ds) := by
  rw [colsW_eq cols ds [] List.nodup_nil]
  show (match strsD ds with | some zs => !zs.isEmpty && (zs.all (fun z => decide (z ∈ cols)) && decide zs.Nodup) | none => false) = _
  cases ds with
  | nil => rfl
  | cons d r =>
    cases hs : strsD (d :: r) with
    | none => rfl
    | some zs =>
      cases zs with
      | nil => have := strsD_eq hs; cases this
      | cons z zs => rfl
theorem cutL_map {α β : Type} (f : α → β) (xs : List α) (lo hi : Option Int) : cutL (xs.map f) lo hi = (cutL xs lo hi).map f := by
  unfold cutL
  rw [List.length_map, List.map_take, List.map_drop]
theorem cutL_len {α : Type} (xs : List α) (lo hi : Option Int) : (cutL xs lo hi).length ≤ xs.length := by
  unfold cutL
  rw [List.length_take, List.length_drop]
  omega
theorem wt_names {ys : List Str} (h : ∀ y ∈ ys, NmS y) : wtAll (pyAll (ys.map .str)) ≤ 84 * ys.length := by
  induction ys with
  | nil => exact Nat.zero_le _
  | cons y t ih =>
    have hy : y.length ≤ 8 := by rw [TL.len_tl]; exact (h y List.mem_cons_self).2.1
    have := ih fun z hz => h z (List.mem_cons_of_mem _ hz)
    show (10 * y.length + 2) + 2 + wtAll (pyAll (t.map .str)) ≤ 84 * (t.length + 1)
    omega
theorem nice_names {ys : List Str} (h : ∀ y ∈ ys, NmS y) : ∀ d ∈ ys.map D.str, niceD d = true := fun d hd => by
  obtain ⟨y, hy, rfl⟩ := List.mem_map.mp hd
  exact nice_str.mpr ⟨(h y hy).asc, by rw [TL.len_tl]; exact Nat.le_trans (h y hy).2.1 (by decide)⟩
theorem sm_tup {ys : List Str} (h : ∀ y ∈ ys, NmS y) (l : ys.length ≤ 11) : SmD 1000 (.tup (ys.map .str)) := by
  refine ⟨nice_tup.mpr ⟨by rw [List.length_map]; omega, nice_names h⟩, ?_, ?_⟩
  · have := wt_names h
    show wtAll (pyAll (ys.map .str)) + 3 ≤ 1000
    omega
  · show PyData.depthAll (pyAll (ys.map .str)) + 1 ≤ 20
    rw [depth_strs]; decide
theorem sm_lst {ys : List Str} (h : ∀ y ∈ ys, NmS y) (l : ys.length ≤ 11) : SmD 1000 (.lst (ys.map .str)) := by
  refine ⟨nice_lst.mpr ⟨by rw [List.length_map]; omega, nice_names h⟩, ?_, ?_⟩
  · have := wt_names h
    show wtAll (pyAll (ys.map .str)) + 3 ≤ 1000
    omega
  · show PyData.depthAll (pyAll (ys.map .str)) + 1 ≤ 20
    rw [depth_strs]; decide
section
variable {P : Program} {w : World} {K : PySem.W.Frag} {mg : Str → Option Value} {base : Heap}
end
end KL
set_option Elab.async false
set_option linter.all false
set_option maxRecDepth 100000
set_option maxHeartbeats 4000000
namespace KL
open PySem PySem.Spec PyProof.Rows L2 DL
open He (ga ma)
open TL (tl)
theorem frz_new (S : Store) (c : Cell) : ∃ c', frzN S.length (S ++ [c]) = S ++ [c'] := by
  unfold frzN
  rw [at_new]
  split
  · split
    · exact ⟨_, set_new ..⟩
    · exact ⟨_, rfl⟩
  · split
    · exact ⟨_, set_new ..⟩
    · exact ⟨_, rfl⟩
  · exact ⟨_, rfl⟩
theorem F5_five (f : U → U → U → U → U → Store → Res U) (a b c d e : U) (S : Store) : F5 f [a, b, c, d, e] S = f a b c d e S := rfl
section
variable {P : Program} {w : World} {K : PySem.W.Frag} {mg : Str → Option Value} {base : Heap}
theorem kb_Layout {kws : List (Str × V)} {fd : FuncData} (hk : kws ≠ []) (F : FunD K "__init__" "Layout.__init__" (defArgs s_Layout___init__) (defBody s_Layout___init__) (defScope s_Layout___init__) [] kws (ma K (ga K "Layout") "__init__") fd) :
    KBn K fd ["self", "name", "columns", "keys", "refers"] 3 ["keys", "refers"] (fun us ws => us ++ ws) (fun vs zs => vs ++ zs) := by
  obtain ⟨mv, h⟩ := FunD.kbinds0 (ps := ["self", "name", "columns", "keys", "refers"]) F 3 ["keys", "refers"] [] (fun us _ ws => us ++ ws) hk (fun q hq => nomatch hq) (fun r1 _ r2 => Vals.append r1 r2) (fun D doc pm an cdv ct us mv ws l1 l2 l3 => match us, l1, mv, l2, ws, l3 with | [_, _, _], _, [], _, [_, _], _ => rfl)
  exact h
theorem hgU_app {K : PySem.W.Frag} (ι : List Addr) (G : Hp) (a : Addr) (vs : List V) (us : List U) (zs : List V) (ws : List U) (h : RUs K ι G vs us) (h' : RUs K ι G zs ws) : ∃ ys, (fun vs zs : List V => vs ++ zs) (.ref a :: vs) zs = .ref a :: ys ∧ RUs K ι G ys (us ++ ws) := ⟨vs ++ zs, rfl, paired_app h h'⟩
end
end KL
set_option Elab.async false
set_option linter.all false
set_option maxRecDepth 100000
set_option maxHeartbeats 4000000
namespace KL
open PySem PySem.Spec PyProof.Rows L2 DL
open He (ga ma)
open TL (tl)
/-- the fields of a layout, frozen; ks: all keys -/
def layG (n : D) (cs ks rs : List D) : List (Str × D) := [("name", n), ("columns", .tup cs), ("all_keys", .tup ks), ("key", ks.headD .non), ("refers", .tup rs)]
theorem lay_frz (S : Store) (n : D) (cs ks rs : List D) (h : ks ≠ []) : frzN S.length (S ++ [.obj "Layout" (layF n cs ks rs)]) = S ++ [.frz (.obj "Layout" (layG n cs ks rs))] := by
  unfold frzN
  rw [at_new]
  have : allF (layF n cs ks rs) = some (layG n cs ks rs) := by unfold layF layG; rw [if_neg h]; rfl
  simp only [this, set_new]
def addR (n : D) (cs ks rs : List D) (S : Store) : Res U := match layD n cs ks rs with
  | some (e, f, d) => .err e [(f, d)] S
  | none => .ok (.d (.obj "Layout" (layG n cs ks rs))) S
def gsOf : U → List (Str × D)
  | .d (.obj _ gs) => gs
  | _ => []
noncomputable def addF (a b : U) (S : Store) : Res U := match b with
  | .d y => pre (∃ n cs ks rs, a = .d (.obj "Layout" (layG n cs ks rs)) ∧ LayPre n (.tup cs) (.tup (ks ++ [y])) (.tup rs) ∧ ks.length ≤ 900) (addR (((gsOf a).lookup ("name" : Str)).getD .non) (seqOf (((gsOf a).lookup ("columns" : Str)).getD .non)) (seqOf (((gsOf a).lookup ("all_keys" : Str)).getD .non) ++ [y]) (seqOf (((gsOf a).lookup ("refers" : Str)).getD .non)) S)
  | _ => .bad
section
variable {P : Program} {w : World} {K : PySem.W.Frag} {mg : Str → Option Value} {base : Heap}
theorem sc_Layout___add__ : FnScope ["self", "key"] ["self", "key"] (defScope s_Layout___add__) := ⟨rfl, rfl, rfl, by decide +kernel, rfl, by decide +kernel, by decide +kernel⟩
theorem dk_add (T : Txt P K mg) : FD P w K mg base 5 (ma K (ga K "Layout") "__add__") ["self", "key"] (F2 addF) := by
  obtain ⟨fd, FI⟩ := T.I_Layout
  have I_Layout := dk_init (w := w) (base := base) T FI
  have KB_Layout := kb_Layout (by simp) FI
  refine okMt T.F_Layout___add__ sc_Layout___add__ (fun _ _ _ _ _ _ us hl => match us, hl with | [_, _], _ => rfl) F2.len (fun cdv A outer s H E hA hr => (pdss_one (pds_ret (pd_makeK (n := 2) (gU := fun us ws => us ++ ws) true hA ⟨T.mk_Layout, T.g_Layout, I_Layout, F5.len⟩ (hr.mono (by decide)) (takes_of rfl rfl rfl rfl) KB_Layout (fun ι G a vs us zs ws _ _ h h2 => hgU_app ι G a vs us zs ws h h2) (pda_cons (pd_fld (cs := ["Layout"]) (pd_pv 0 (pv 0)) (fun c hc => by simp only [List.mem_cons, List.not_mem_nil, or_false] at hc; subst hc; exact ⟨T.cls_Layout, T.na_Layout_name⟩)) (pda_cons (pd_fld (cs := ["Layout"]) (pd_pv 0 (pv 0)) (fun c hc => by simp only [List.mem_cons, List.not_mem_nil, or_false] at hc; subst hc; exact ⟨T.cls_Layout, T.na_Layout_columns⟩)) pda_nil)) (pdk_cons (pd_tup (pda_star (pd_fld (cs := ["Layout"]) (pd_pv 0 (pv 0)) (fun c hc => by simp only [List.mem_cons, List.not_mem_nil, or_false] at hc; subst hc; exact ⟨T.cls_Layout, T.na_Layout_all_keys⟩)) (pda_cons (pd_pv 1 (pv 1)) pda_nil))) (pdk_cons (pd_fld (cs := ["Layout"]) (pd_pv 0 (pv 0)) (fun c hc => by simp only [List.mem_cons, List.not_mem_nil, or_false] at hc; subst hc; exact ⟨T.cls_Layout, T.na_Layout_refers⟩)) pdk_nil)))))) (fun us S hl => ?_)
  match us, hl with
  | [a, .r _], _ => exact .bad _
  | [a, .d y], _ =>
    show Refines S (addF a (.d y) S) _
    refine pre_ref fun ⟨n, cs, ks, rs, ha, hp, hk⟩ => ?_
    subst ha
    show Refines S (addR n cs (ks ++ [y]) rs S) _
    rw [show startE (["self", "key"] : List Str).length [U.d (.obj "Layout" (layG n cs ks rs)), .d y] = [some (.d (.obj "Layout" (layG n cs ks rs))), some (.d y)] from rfl]
    have f1 : fldU ["Layout"] "name" (U.d (D.obj "Layout" (layG n cs ks rs))) S = .ok (.d n) S := by simp [fldU, objU, layG, List.lookup, optR] <;> rfl
    have f2 : fldU ["Layout"] "columns" (U.d (D.obj "Layout" (layG n cs ks rs))) S = .ok (.d (.tup cs)) S := by simp [fldU, objU, layG, List.lookup, optR] <;> rfl
    have f3 : fldU ["Layout"] "all_keys" (U.d (D.obj "Layout" (layG n cs ks rs))) S = .ok (.d (.tup ks)) S := by simp [fldU, objU, layG, List.lookup, optR] <;> rfl
    have f4 : fldU ["Layout"] "refers" (U.d (D.obj "Layout" (layG n cs ks rs))) S = .ok (.d (.tup rs)) S := by simp [fldU, objU, layG, List.lookup, optR] <;> rfl
    have hsq : seqU (.d (.tup ks)) S = .ok (ks.map .d) S := rfl
    have hmk : mkT (ks.map U.d ++ [.d y]) S = .ok (.d (.tup (ks ++ [y]))) S := by
      have := mkT_d (ds := ks ++ [y]) (by rw [List.length_append]; show _ + 1 ≤ _; omega) S
      rw [List.map_append] at this
      exact this
    have hin : initF (.r S.length) (.d n) (.d (.tup cs)) (.d (.tup (ks ++ [y]))) (.d (.tup rs)) (S ++ [.obj "Layout" []]) = layR S.length n cs (ks ++ [y]) rs (S ++ [.obj "Layout" []]) := init_data hp (at_new _ _)
    simp -implicitDefEqProofs only [bind_ok, bind_err, bind_bad, fl_ok, fl_err, fl_bad, seq_nx, seq_rt, seq_err, seq_bk, seq_ct, seq_bad, bodyR_rt, bodyR_nx, bodyR_err, asB_bl, tru_bl, iff_f, iff_t, leU_int, ltU_int, gtU_int, geU_int, subU_int, addU_int, eqU_int, neU_int, tuple_two, mkE_one, len_tup, len_lst, c1_one, c2_two, rd0, rdS, norm_d, dat_d, gFl_none, gRs_none, List.set_cons_zero, List.set_cons_succ, Bool.not_true, Bool.not_false, Bool.false_eq_true, ↓reduceIte, f1, f2, f3, f4, hsq, hmk, List.length_cons, List.length_nil, Nat.zero_add, Nat.reduceAdd, and_self, makeU, List.cons_append, List.nil_append, F5_five, hin]
    unfold layR addR
    cases hl : layD n cs (ks ++ [y]) rs with
    | none =>
      simp -implicitDefEqProofs only [bind_ok, bind_err, bind_bad, fl_ok, fl_err, fl_bad, seq_nx, seq_rt, seq_err, seq_bk, seq_ct, seq_bad, bodyR_rt, bodyR_nx, bodyR_err, asB_bl, tru_bl, iff_f, iff_t, leU_int, ltU_int, gtU_int, geU_int, subU_int, addU_int, eqU_int, neU_int, tuple_two, mkE_one, len_tup, len_lst, c1_one, c2_two, rd0, rdS, norm_d, dat_d, gFl_none, gRs_none, List.set_cons_zero, List.set_cons_succ, Bool.not_true, Bool.not_false, Bool.false_eq_true, ↓reduceIte, set_new, lay_frz S n cs (ks ++ [y]) rs (by simp), norm_frz (at_new S _)]
      exact .ok _ (Shr.refl S) trivial
    | some q =>
      obtain ⟨e, f, d⟩ := q
      simp -implicitDefEqProofs only [bind_ok, bind_err, bind_bad, fl_ok, fl_err, fl_bad, seq_nx, seq_rt, seq_err, seq_bk, seq_ct, seq_bad, bodyR_rt, bodyR_nx, bodyR_err, asB_bl, tru_bl, iff_f, iff_t, leU_int, ltU_int, gtU_int, geU_int, subU_int, addU_int, eqU_int, neU_int, tuple_two, mkE_one, len_tup, len_lst, c1_one, c2_two, rd0, rdS, norm_d, dat_d, gFl_none, gRs_none, List.set_cons_zero, List.set_cons_succ, Bool.not_true, Bool.not_false, Bool.false_eq_true, ↓reduceIte]
      exact .err _ (Shr.refl S)
end
end KL
set_option Elab.async false
set_option linter.all false
set_option maxRecDepth 100000
set_option maxHeartbeats 4000000
namespace KL
open PySem PySem.Spec PyProof.Rows L2 DL
open He (ga ma)
open TL (tl)
theorem lay_name (n : D) (cs ks rs : List D) (S : Store) : fldU ["Layout"] "name" (U.d (D.obj "Layout" (layG n cs ks rs))) S = .ok (.d n) S := by simp [fldU, objU, layG, List.lookup, optR] <;> rfl
theorem lay_cols (n : D) (cs ks rs : List D) (S : Store) : fldU ["Layout"] "columns" (U.d (D.obj "Layout" (layG n cs ks rs))) S = .ok (.d (.tup cs)) S := by simp [fldU, objU, layG, List.lookup, optR] <;> rfl
theorem lay_keys (n : D) (cs ks rs : List D) (S : Store) : fldU ["Layout"] "all_keys" (U.d (D.obj "Layout" (layG n cs ks rs))) S = .ok (.d (.tup ks)) S := by simp [fldU, objU, layG, List.lookup, optR] <;> rfl
theorem lay_refs (n : D) (cs ks rs : List D) (S : Store) : fldU ["Layout"] "refers" (U.d (D.obj "Layout" (layG n cs ks rs))) S = .ok (.d (.tup rs)) S := by simp [fldU, objU, layG, List.lookup, optR] <;> rfl
theorem lay_key1 (n : D) (cs ks rs : List D) (S : Store) : fldU ["Layout"] "key" (U.d (D.obj "Layout" (layG n cs ks rs))) S = .ok (.d (ks.headD .non)) S := by simp [fldU, objU, layG, List.lookup, optR] <;> rfl
/-- what __eq__ compares -/
def eqPart (gs : List (Str × D)) : D := .tup [(gs.lookup ("name" : Str)).getD .non, (gs.lookup ("columns" : Str)).getD .non, (gs.lookup ("all_keys" : Str)).getD .non, (gs.lookup ("refers" : Str)).getD .non]
noncomputable def leqF (a b : U) (S : Store) : Res U := match a, b with
  | .d x, .d y => match x, y with
    | .obj _ g1, .obj _ g2 => pre (∃ n cs ks rs n' cs' ks' rs', x = .obj "Layout" (layG n cs ks rs) ∧ y = .obj "Layout" (layG n' cs' ks' rs') ∧ okD (eqPart g1) = true ∧ okD (eqPart g2) = true) (.ok (.d (.bl (PyData.eqv (eqPart g1).py (eqPart g2).py))) S)
    | .obj _ _, y => pre ((∃ n cs ks rs, x = .obj "Layout" (layG n cs ks rs)) ∧ (tyN y).isSome = true) (.ok (.d (.bl false)) S)
    | _, _ => .bad
  | _, _ => .bad
section
variable {P : Program} {w : World} {K : PySem.W.Frag} {mg : Str → Option Value} {base : Heap}
theorem sc_Layout___eq__ : FnScope ["self", "other", "mine"] ["self", "other"] (defScope s_Layout___eq__) := ⟨rfl, rfl, rfl, by decide +kernel, rfl, by decide +kernel, by decide +kernel⟩
theorem dk_leqO (T : Txt P K mg) : FO P w K mg base 1 (ma K (ga K "Layout") "__eq__") ["self", "other"] (F2 leqF) := by
  refine okMtO T.F_Layout___eq__ sc_Layout___eq__ (fun _ _ _ _ _ _ us hl => match us, hl with | [_, _], _ => rfl) F2.len (fun cdv A outer s H E hr => (pdss_cons (pds_if (pdt_not (pdt_truth (pd_callB (cd_isiOwn T.isi_Layout) T.m_isinstance (pda_cons (pd_pv 1 (pv 1)) (pda_cons (pd_cls T.g_Layout) pda_nil))))) (pdss_one (pds_ret pd_bl)) pdss_nil)
  (pdss_cons (pds_set (i := 2) sc_Layout___eq__.nd rfl (by first | exact Or.inl rfl | exact Or.inr rfl) (pd_tup (pda_cons (pd_fld (cs := ["Layout"]) (pd_pv 0 (pv 0)) (fun c hc => by simp only [List.mem_cons, List.not_mem_nil, or_false] at hc; subst hc; exact ⟨T.cls_Layout, T.na_Layout_name⟩)) (pda_cons (pd_fld (cs := ["Layout"]) (pd_pv 0 (pv 0)) (fun c hc => by simp only [List.mem_cons, List.not_mem_nil, or_false] at hc; subst hc; exact ⟨T.cls_Layout, T.na_Layout_columns⟩)) (pda_cons (pd_fld (cs := ["Layout"]) (pd_pv 0 (pv 0)) (fun c hc => by simp only [List.mem_cons, List.not_mem_nil, or_false] at hc; subst hc; exact ⟨T.cls_Layout, T.na_Layout_all_keys⟩)) (pda_cons (pd_fld (cs := ["Layout"]) (pd_pv 0 (pv 0)) (fun c hc => by simp only [List.mem_cons, List.not_mem_nil, or_false] at hc; subst hc; exact ⟨T.cls_Layout, T.na_Layout_refers⟩)) pda_nil))))))
  (pdss_one (pds_ret (pd_cmp (od_eq hr) (pd_pv 2 (pv 2)) (pd_tup (pda_cons (pd_fld (cs := ["Layout"]) (pd_pv 1 (pv 1)) (fun c hc => by simp only [List.mem_cons, List.not_mem_nil, or_false] at hc; subst hc; exact ⟨T.cls_Layout, T.na_Layout_name⟩)) (pda_cons (pd_fld (cs := ["Layout"]) (pd_pv 1 (pv 1)) (fun c hc => by simp only [List.mem_cons, List.not_mem_nil, or_false] at hc; subst hc; exact ⟨T.cls_Layout, T.na_Layout_columns⟩)) (pda_cons (pd_fld (cs := ["Layout"]) (pd_pv 1 (pv 1)) (fun c hc => by simp only [List.mem_cons, List.not_mem_nil, or_false] at hc; subst hc; exact ⟨T.cls_Layout, T.na_Layout_all_keys⟩)) (pda_cons (pd_fld (cs := ["Layout"]) (pd_pv 1 (pv 1)) (fun c hc => by simp only [List.mem_cons, List.not_mem_nil, or_false] at hc; subst hc; exact ⟨T.cls_Layout, T.na_Layout_refers⟩)) pda_nil))))) (nomark _))))))) (fun us S hl => ?_)
  match us, hl with
  | [.r _, _], _ => exact .bad _
  | [.d _, .r _], _ => exact .bad _
  | [.d x, .d y], _ =>
    show Refines S (leqF (.d x) (.d y) S) _
    unfold leqF
    simp only
    rw [show startE (["self", "other", "mine"] : List Str).length [U.d x, .d y] = [some (.d x), some (.d y), none] from rfl]
    split
    · rename_i c1 g1 c2 g2
      refine pre_ref fun ⟨n, cs, ks, rs, n', cs', ks', rs', hx, hy, o1, o2⟩ => ?_
      cases hx
      cases hy
      have isi : isiOwn2 "Layout" (.d (.obj "Layout" (layG n' cs' ks' rs'))) (.d (.cls "Layout")) S = .ok (.d (.bl true)) S := by simp [isiOwn2, isiOwnU, tyN, objU]
      have t1 : ∀ a b c d : D, mkT [.d a, .d b, .d c, .d d] S = .ok (.d (.tup [a, b, c, d])) S := fun _ _ _ _ => rfl
      have he : eqU (.d (.tup [n, .tup cs, .tup ks, .tup rs])) (.d (.tup [n', .tup cs', .tup ks', .tup rs'])) S = .ok (.d (.bl (PyData.eqv (eqPart (layG n cs ks rs)).py (eqPart (layG n' cs' ks' rs')).py))) S := eqU_ok o1 o2 S
      simp -implicitDefEqProofs only [bind_ok, bind_err, bind_bad, fl_ok, fl_err, fl_bad, seq_nx, seq_rt, seq_err, seq_bk, seq_ct, seq_bad, bodyR_rt, bodyR_nx, bodyR_err, asB_bl, tru_bl, iff_f, iff_t, leU_int, ltU_int, gtU_int, geU_int, subU_int, addU_int, eqU_int, neU_int, tuple_two, mkE_one, len_tup, len_lst, c1_one, c2_two, rd0, rdS, norm_d, dat_d, gFl_none, gRs_none, List.set_cons_zero, List.set_cons_succ, Bool.not_true, Bool.not_false, Bool.false_eq_true, ↓reduceIte, isi, lay_name, lay_cols, lay_keys, lay_refs, t1, he]
      exact .refl _
    · rename_i c1 g1 y' hne
      refine pre_ref fun ⟨⟨n, cs, ks, rs, hx⟩, ht⟩ => ?_
      have isi : isiOwn2 "Layout" (.d y) (.d (.cls "Layout")) S = .ok (.d (.bl false)) S := by
        show isiOwnU "Layout" (.d y) S = _
        exact if_pos ht
      simp -implicitDefEqProofs only [bind_ok, bind_err, bind_bad, fl_ok, fl_err, fl_bad, seq_nx, seq_rt, seq_err, seq_bk, seq_ct, seq_bad, bodyR_rt, bodyR_nx, bodyR_err, asB_bl, tru_bl, iff_f, iff_t, leU_int, ltU_int, gtU_int, geU_int, subU_int, addU_int, eqU_int, neU_int, tuple_two, mkE_one, len_tup, len_lst, c1_one, c2_two, rd0, rdS, norm_d, dat_d, gFl_none, gRs_none, List.set_cons_zero, List.set_cons_succ, Bool.not_true, Bool.not_false, Bool.false_eq_true, ↓reduceIte, isi]
      exact .refl _
    · exact .bad _
theorem dk_leq (T : Txt P K mg) : FD P w K mg base 1 (ma K (ga K "Layout") "__eq__") ["self", "other"] (F2 leqF) := (dk_leqO T).d
end
end KL
set_option Elab.async false
set_option linter.all false
set_option maxRecDepth 100000
set_option maxHeartbeats 4000000
namespace KL
open PySem PySem.Spec PyProof.Rows L2 DL
open He (ga ma)
open TL (tl)
theorem nm_name {z : Str} (h : NmS z) : nameD (.str z) = true := nameB_iff.mpr h
theorem tw_cons (pre : List Str) (x : Str) (r : List Str) : twF pre (x :: r) = if x ∈ pre then some x else twF (pre ++ [x]) r := rfl
theorem tw_none : ∀ {r pre : List Str}, (pre ++ r).Nodup → twF pre r = none
  | [], _, _ => rfl
  | x :: r, pre, h => by
    rw [tw_cons, if_neg fun hx => (List.nodup_append.mp h).2.2 x hx x List.mem_cons_self rfl]
    exact tw_none (by rw [List.append_assoc]; exact h)
theorem keyS_keyD (k : List Str) : keyS (Lay.keyD k) = k := by show (strsD (k.map .str)).getD [] = k; rw [strsD_map]; rfl
theorem colsD_strs (k fs : List Str) : colsD (Lay.keyD k) fs = (!k.isEmpty && (k.all (fun z => decide (z ∈ fs)) && decide k.Nodup)) := by
  show (match strsD (k.map .str) with | some zs => !zs.isEmpty && (zs.all (fun z => decide (z ∈ fs)) && decide zs.Nodup) | none => false) = _
  rw [strsD_map]
theorem colsD_part {fs k : List Str} (h : Part fs k) : colsD (Lay.keyD k) fs = true := by
  rw [colsD_strs, decide_eq_true h.nd, List.all_eq_true.mpr fun z hz => decide_eq_true (h.sub z hz)]
  cases k with
  | nil => exact absurd rfl h.ne
  | cons _ _ => rfl
theorem part_colsD {fs : List Str} {y : D} (h : colsD y fs = true) : ∃ k, y = Lay.keyD k ∧ Part fs k := by
  obtain ⟨zs, rfl, _, hs⟩ := colsD_tup h
  refine ⟨zs, rfl, ?_, ?_, hs⟩
  · rintro rfl; cases (show false = true from h)
  · rw [show D.tup (zs.map .str) = Lay.keyD zs from rfl, colsD_strs] at h
    simp only [Bool.and_eq_true, decide_eq_true_eq] at h
    exact h.2.2
abbrev Unl (us : List (List Str)) : Prop := us.Pairwise fun a b => ¬ a.Perm b
theorem keyF_app {fs : List Str} : ∀ (us met : List (List Str)) (i : Nat) (r : List D), (∀ k ∈ us, Part fs k) → Unl (met ++ us) → keyF fs met i (us.map Lay.keyD ++ r) = keyF fs (met ++ us) (i + us.length) r
  | [], met, i, r, _, _ => by rw [List.append_nil]; rfl
  | k :: us, met, i, r, h, hp => by
    have hm : (met.any fun m => decide (m.Perm k)) = false := by
      rw [List.any_eq_false]
      intro m hm
      rw [decide_eq_true_eq]
      exact (List.pairwise_append.mp hp).2.2 m hm k List.mem_cons_self
    rw [List.map_cons, List.cons_append, keyF_cons, colsD_part (h k List.mem_cons_self), keyS_keyD, hm, if_neg (by decide), keyF_app us (met ++ [k]) (i + 1) r (fun q hq => h q (List.mem_cons_of_mem _ hq)) (by rw [List.append_assoc]; exact hp), List.append_assoc, List.length_cons]
    show keyF fs (met ++ k :: us) _ r = _
    rw [show i + 1 + us.length = i + (us.length + 1) by omega]
theorem refF_none {fs : List Str} : ∀ (ls : List (List Str × Str)) (i : Nat), (∀ p ∈ ls, Part fs p.1 ∧ NmS p.2) → refF fs i (ls.map Lay.refD) = none
  | [], _, _ => rfl
  | p :: ls, i, h => by
    obtain ⟨h1, h2⟩ := h p List.mem_cons_self
    have hr : refD (Lay.refD p) fs = true := by
      show (colsD (Lay.keyD p.1) fs && nameD (.str p.2)) = true
      rw [colsD_part h1, nm_name h2]; rfl
    rw [List.map_cons, refF_cons, hr, if_neg (by decide)]
    exact refF_none ls (i + 1) fun q hq => h q (List.mem_cons_of_mem _ hq)
/-- label, fields and links that have no fault -/
structure Fine (z : Str) (fs : List Str) (ls : List (List Str × Str)) : Prop where
  z : NmS z
  f : ∀ z ∈ fs, NmS z
  f0 : fs ≠ []
  fm : fs.length ≤ 5
  fd : fs.Nodup
  r : ∀ p ∈ ls, Part fs p.1 ∧ NmS p.2
  rm : ls.length ≤ 2
/-- keys that have no fault -/
structure FineK (fs : List Str) (ks : List (List Str)) : Prop where
  u : ∀ k ∈ ks, Part fs k
  d : Unl ks
theorem Lay.Ok.fine {l : Lay} (h : l.Ok 5) : Fine l.z l.fs l.ls := ⟨h.z, h.f, h.f0, h.fm, h.fd, h.r, h.rm⟩
theorem Lay.Ok.fineU {m : Nat} {l : Lay} (h : l.Ok m) : FineK l.fs l.us := ⟨h.u, h.ud⟩
theorem Lay.Ok.fineK {m : Nat} {l : Lay} (h : l.Ok m) : FineK l.fs l.keys := by
  unfold Lay.keys
  split
  · refine ⟨fun k hk => ?_, List.pairwise_singleton ..⟩
    obtain rfl := List.mem_singleton.mp hk
    exact ⟨h.f0, h.fd, fun _ h => h⟩
  · exact h.fineU
theorem Lay.keys_ne (l : Lay) : l.keys ≠ [] := by
  unfold Lay.keys
  split
  · simp
  · assumption
theorem Lay.keys_le {m : Nat} {l : Lay} (h : l.Ok m) : l.keys.length ≤ 2 := by
  unfold Lay.keys
  split
  · show 1 ≤ 2; decide
  · exact h.um
theorem layD_fine {z : Str} {fs : List Str} {ls : List (List Str × Str)} {us : List (List Str)} (h : Fine z fs ls) (hu : FineK fs us) (r : List D) :
    layD (.str z) (fs.map .str) (us.map Lay.keyD ++ r) (ls.map Lay.refD) = match keyF fs us us.length r with | some i => some ("BadKey", "index", .int i) | none => none := by
  have h1 : (D.str z :: fs.map D.str).find? (fun d => !nameD d) = none := by
    rw [List.find?_eq_none]
    intro d hd
    have : nameD d = true := by
      rcases List.mem_cons.mp hd with rfl | hd
      · exact nm_name h.z
      · obtain ⟨y, hy, rfl⟩ := List.mem_map.mp hd; exact nm_name (h.f y hy)
    rw [this]; decide
  have h2 : colsOf (fs.map .str) = fs := by unfold colsOf; rw [strsD_map]; rfl
  have h3 : twS fs = none := tw_none (by simpa using h.fd)
  have h4 := keyF_app (fs := fs) us [] 0 r hu.u (by simpa using hu.d)
  rw [List.nil_append, Nat.zero_add] at h4
  unfold layD
  simp only [h1, h2, h3, h4, refF_none ls 0 h.r, List.length_map]
  rw [if_neg (by have := h.fm; omega), if_neg (by have := h.rm; omega)]
  all_goals (cases keyF fs us us.length r <;> rfl)
theorem layD_none {z : Str} {fs : List Str} {ls : List (List Str × Str)} {us : List (List Str)} (h : Fine z fs ls) (hu : FineK fs us) :
    layD (.str z) (fs.map .str) (us.map Lay.keyD) (ls.map Lay.refD) = none := by
  have := layD_fine h hu []
  rw [List.append_nil] at this
  exact this
def isK (y : D) (fs : List Str) (ks : List (List Str)) : Bool := colsD y fs && !(ks.any fun m => decide (m.Perm (keyS y)))
theorem layD_more {z : Str} {fs : List Str} {ls : List (List Str × Str)} {us : List (List Str)} (h : Fine z fs ls) (hu : FineK fs us) (y : D) :
    layD (.str z) (fs.map .str) (us.map Lay.keyD ++ [y]) (ls.map Lay.refD) = if isK y fs us = true then none else some (("BadKey" : Str), ("index" : Str), D.int us.length) := by
  rw [layD_fine h hu [y], keyF_cons]
  unfold isK
  cases colsD y fs <;> cases (us.any fun m => decide (m.Perm (keyS y))) <;> rfl
theorem isK_part {y : D} {fs : List Str} {ks : List (List Str)} (hk : FineK fs ks) (h : isK y fs ks = true) : ∃ k, y = Lay.keyD k ∧ FineK fs (ks ++ [k]) := by
  unfold isK at h
  rw [Bool.and_eq_true] at h
  obtain ⟨k, rfl, hp⟩ := part_colsD h.1
  rw [keyS_keyD] at h
  refine ⟨k, rfl, fun q hq => ?_, ?_⟩
  · rcases List.mem_append.mp hq with h | h
    · exact hk.u q h
    · obtain rfl := List.mem_singleton.mp h; exact hp
  · refine List.pairwise_append.mpr ⟨hk.d, List.pairwise_singleton .., fun a ha b hb => ?_⟩
    obtain rfl := List.mem_singleton.mp hb
    have := h.2
    rw [Bool.not_eq_true', List.any_eq_false] at this
    simpa using this a ha
theorem sub_len : ∀ {k fs : List Str}, k.Nodup → (∀ z ∈ k, z ∈ fs) → k.length ≤ fs.length
  | [], _, _, _ => Nat.zero_le _
  | x :: t, fs, nd, sub => by
    have hx := sub x List.mem_cons_self
    obtain ⟨h1, h2⟩ := List.nodup_cons.mp nd
    have := sub_len (k := t) (fs := fs.erase x) h2 fun z hz => (List.mem_erase_of_ne (show z ≠ x from fun e => h1 (e ▸ hz))).mpr (sub z (List.mem_cons_of_mem _ hz))
    rw [List.length_erase_of_mem hx] at this
    have h0 : 0 < fs.length := List.length_pos_of_mem hx
    rw [List.length_cons]
    omega
theorem part_len {fs k : List Str} (h : Part fs k) : k.length ≤ fs.length := sub_len h.nd h.sub
theorem layF_keys (n : D) (cs ks rs : List D) : layF n cs ks rs = layF n cs (if ks = [] then [.tup cs] else ks) rs := by
  unfold layF
  split
  · rw [if_neg (by simp)]
  · rfl
theorem Lay.keys_if (l : Lay) : (if l.us.map Lay.keyD = [] then [D.tup (l.fs.map .str)] else l.us.map Lay.keyD) = l.keys.map Lay.keyD := by
  unfold Lay.keys
  obtain ⟨z, fs, us, ls⟩ := l
  cases us with
  | nil => rfl
  | cons _ _ => rfl
/-! weights -/
structure WD (b dp : Nat) (d : D) : Prop where
  n : niceD d = true
  w : wt d.py ≤ b
  dp : d.py.depth ≤ dp
theorem WD.mono {b c p q : Nat} {d : D} (h : WD b p d) (l : b ≤ c) (m : p ≤ q) : WD c q d := ⟨h.n, Nat.le_trans h.w l, Nat.le_trans h.dp m⟩
theorem WD.gd {b p : Nat} {d : D} (h : WD b p d) (hb : b ≤ 10000000) (hp : p ≤ 60) : GD d := ⟨nice_plain d h.n, nice_gd d h.n, Nat.le_trans h.w hb, Nat.le_trans h.dp hp⟩
theorem wd_all {b p : Nat} : ∀ {ds : List D}, (∀ d ∈ ds, WD b p d) → wtAll (pyAll ds) ≤ (b + 2) * ds.length ∧ PyData.depthAll (pyAll ds) ≤ p
  | [], _ => ⟨Nat.le_refl _, Nat.zero_le _⟩
  | d :: r, h => by
    obtain ⟨h1, h2⟩ := wd_all (ds := r) fun e he => h e (List.mem_cons_of_mem _ he)
    have := h d List.mem_cons_self
    have hw := this.w
    refine ⟨?_, ?_⟩
    · show wt d.py + 2 + wtAll (pyAll r) ≤ (b + 2) * (r.length + 1)
      rw [Nat.mul_add, Nat.mul_one]
      omega
    · show max d.py.depth (PyData.depthAll (pyAll r)) ≤ p
      exact Nat.max_le.mpr ⟨this.dp, h2⟩
theorem wd_tup {b p m : Nat} {ds : List D} (h : ∀ d ∈ ds, WD b p d) (l : ds.length ≤ m) (hm : m < 60) : WD ((b + 2) * m + 3) (p + 1) (.tup ds) := by
  obtain ⟨h1, h2⟩ := wd_all h
  refine ⟨nice_tup.mpr ⟨by omega, fun d hd => (h d hd).n⟩, ?_, ?_⟩
  · show wtAll (pyAll ds) + 3 ≤ _
    have := Nat.mul_le_mul_left (b + 2) l
    omega
  · show PyData.depthAll (pyAll ds) + 1 ≤ _
    omega
theorem wd_nm {z : Str} (h : NmS z) : WD 82 0 (.str z) := by
  have hl : z.length ≤ 8 := by rw [TL.len_tl]; exact h.2.1
  exact ⟨nice_str.mpr ⟨h.asc, by omega⟩, by show 10 * z.length + 2 ≤ 82; omega, Nat.zero_le _⟩
theorem wd_nms {ys : List Str} (h : ∀ y ∈ ys, NmS y) (l : ys.length ≤ 5) : WD 423 1 (.tup (ys.map .str)) := by
  refine wd_tup (b := 82) (p := 0) (m := 5) (fun d hd => ?_) (by rw [List.length_map]; exact l) (by decide)
  obtain ⟨y, hy, rfl⟩ := List.mem_map.mp hd
  exact wd_nm (h y hy)
theorem wd_key {fs k : List Str} (hf : ∀ z ∈ fs, NmS z) (hm : fs.length ≤ 5) (h : Part fs k) : WD 423 1 (Lay.keyD k) := wd_nms (fun y hy => hf y (h.sub y hy)) (Nat.le_trans (part_len h) hm)
theorem wd_keys {fs : List Str} {ks : List (List Str)} (hf : ∀ z ∈ fs, NmS z) (hm : fs.length ≤ 5) (h : ∀ k ∈ ks, Part fs k) (l : ks.length ≤ 10) : WD 4253 2 (.tup (ks.map Lay.keyD)) := by
  refine wd_tup (b := 423) (p := 1) (m := 10) (fun d hd => ?_) (by rw [List.length_map]; exact l) (by decide)
  obtain ⟨y, hy, rfl⟩ := List.mem_map.mp hd
  exact wd_key hf hm (h y hy)
theorem wd_ref {fs : List Str} {p : List Str × Str} (hf : ∀ z ∈ fs, NmS z) (hm : fs.length ≤ 5) (h : Part fs p.1 ∧ NmS p.2) : WD 853 2 (Lay.refD p) := by
  refine wd_tup (b := 423) (p := 1) (m := 2) (fun d hd => ?_) (Nat.le_refl _) (by decide)
  simp only [List.mem_cons, List.not_mem_nil, or_false] at hd
  rcases hd with rfl | rfl
  · exact wd_key hf hm h.1
  · exact (wd_nm h.2).mono (by decide) (by decide)
theorem wd_refs {fs : List Str} {ls : List (List Str × Str)} (hf : ∀ z ∈ fs, NmS z) (hm : fs.length ≤ 5) (h : ∀ p ∈ ls, Part fs p.1 ∧ NmS p.2) (l : ls.length ≤ 2) : WD 1713 3 (.tup (ls.map Lay.refD)) := by
  refine wd_tup (b := 853) (p := 2) (m := 2) (fun d hd => ?_) (by rw [List.length_map]; exact l) (by decide)
  obtain ⟨y, hy, rfl⟩ := List.mem_map.mp hd
  exact wd_ref hf hm (h y hy)
/-- what _law_attributes tells -/
def attrD (z : Str) (fs : List Str) (ks : List (List Str)) (ls : List (List Str × Str)) : D := .tup [.str z, .tup (fs.map .str), (ks.map Lay.keyD).headD .non, .tup (ks.map Lay.keyD), .tup (ls.map Lay.refD)]
theorem attr_gd {z : Str} {fs : List Str} {ks : List (List Str)} {ls : List (List Str × Str)} (h : Fine z fs ls) (hk : FineK fs ks) (h0 : ks ≠ []) (hl : ks.length ≤ 10) : GD (attrD z fs ks ls) := by
  refine WD.gd (b := (4253 + 2) * 5 + 3) (p := 4) (wd_tup (b := 4253) (p := 3) (m := 5) (fun d hd => ?_) (Nat.le_refl _) (by decide)) (by decide) (by decide)
  simp only [List.mem_cons, List.not_mem_nil, or_false] at hd
  rcases hd with rfl | rfl | rfl | rfl | rfl
  · exact (wd_nm h.z).mono (by decide) (by decide)
  · exact (wd_nms h.f h.fm).mono (by decide) (by decide)
  · cases ks with
    | nil => exact absurd rfl h0
    | cons k t => exact (wd_key h.f h.fm (hk.u k List.mem_cons_self)).mono (by decide) (by decide)
  · exact (wd_keys h.f h.fm hk.u hl).mono (by decide) (by decide)
  · exact (wd_refs h.f h.fm h.r h.rm).mono (by decide) (by decide)
theorem nice_all {ds : List D} {b p : Nat} (h : WD b p (.tup ds)) : ∀ d ∈ ds, niceD d = true := (nice_tup.mp h.n).2
theorem lay_pre {z : Str} {fs : List Str} {ks : List (List Str)} {ls : List (List Str × Str)} (h : Fine z fs ls) (hk : FineK fs ks) (hl : ks.length ≤ 9) {r : List D} (hr : ∀ d ∈ r, niceD d = true) (hrl : r.length ≤ 1) : LayPre (.str z) (.tup (fs.map .str)) (.tup (ks.map Lay.keyD ++ r)) (.tup (ls.map Lay.refD)) := by
  have hfm := h.fm
  have hrm := h.rm
  refine ⟨(wd_nm h.z).n, ⟨.inr rfl, nice_all (wd_nms h.f h.fm), ?_⟩, ⟨.inr rfl, fun d hd => ?_, ?_⟩, ⟨.inr rfl, nice_all (wd_refs h.f h.fm h.r h.rm), ?_⟩⟩
  · show (fs.map D.str).length ≤ _; rw [List.length_map]; omega
  · rcases List.mem_append.mp hd with hd | hd
    · exact nice_all (wd_keys h.f h.fm hk.u (by omega)) d hd
    · exact hr d hd
  · show (ks.map Lay.keyD ++ r).length ≤ _; rw [List.length_append, List.length_map]; omega
  · show (ls.map Lay.refD).length ≤ _; rw [List.length_map]; omega
/-- the layout as an object -/
def layO (z : Str) (fs : List Str) (ks : List (List Str)) (ls : List (List Str × Str)) : D := .obj "Layout" (layG (.str z) (fs.map .str) (ks.map Lay.keyD) (ls.map Lay.refD))
theorem add_call {z : Str} {fs : List Str} {ks : List (List Str)} {ls : List (List Str × Str)} (h : Fine z fs ls) (hk : FineK fs ks) (hl : ks.length ≤ 9) {y : D} (hy : niceD y = true) (S : Store) :
    F2 addF [.d (layO z fs ks ls), .d y] S = if isK y fs ks = true then .ok (.d (.obj "Layout" (layG (.str z) (fs.map .str) (ks.map Lay.keyD ++ [y]) (ls.map Lay.refD)))) S else .err "BadKey" [("index", .int ks.length)] S := by
  show pre _ _ = _
  rw [pre_pos ⟨_, _, _, _, rfl, lay_pre h hk hl (r := [y]) (fun d hd => by obtain rfl := List.mem_singleton.mp hd; exact hy) (Nat.le_refl _), by rw [List.length_map]; omega⟩]
  show addR (.str z) (fs.map .str) (ks.map Lay.keyD ++ [y]) (ls.map Lay.refD) S = _
  unfold addR
  rw [layD_more h hk]
  cases isK y fs ks <;> rfl
end KL
set_option Elab.async false
set_option linter.all false
set_option maxRecDepth 100000
set_option maxHeartbeats 4000000
namespace KL
open PySem PySem.Spec PyProof.Rows L2 DL
open He (ga ma)
open TL (tl)
def pairIs (z : Str) : U → Bool
  | .d (.tup [_, .str y]) => decide (y = z)
  | _ => false
def pairAt : U → U
  | .d (.tup [a, _]) => .d a
  | u => u
theorem pairs_at {z : Str} : ∀ (zs : List Str) (n : Nat), z ∈ zs → ∃ is : List Nat, ((enumN n (zs.map .str)).filter (pairIs z)).map pairAt = ((is.map fun (i : Nat) => D.int i).map U.d) ∧ is.head? = some (n + zs.idxOf z) ∧ is.length ≤ zs.length
  | [], n, h => by cases h
  | y :: t, n, h => by
    have hnil : ∀ (ws : List Str) (m : Nat), ∃ is : List Nat, ((enumN m (ws.map .str)).filter (pairIs z)).map pairAt = ((is.map fun (i : Nat) => D.int i).map U.d) ∧ is.length ≤ ws.length := fun ws => by
      induction ws with
      | nil => intro m; exact ⟨[], by rw [List.map_nil, enumN_nil]; rfl, Nat.le_refl _⟩
      | cons w r ih =>
        intro m
        obtain ⟨is, h1, h2⟩ := ih (m + 1)
        rw [List.map_cons, enumN_cons]
        by_cases hw : w = z
        · refine ⟨m :: is, ?_, by rw [List.length_cons, List.length_cons]; omega⟩
          rw [List.filter_cons_of_pos (show pairIs z (.d (.tup [.int (m : Nat), .str w])) = true from decide_eq_true hw), List.map_cons, h1]
          rfl
        · refine ⟨is, ?_, by rw [List.length_cons]; omega⟩
          rw [List.filter_cons_of_neg (show ¬ pairIs z (.d (.tup [.int (m : Nat), .str w])) = true by show ¬ decide (w = z) = true; simpa using hw), h1]
    rw [List.map_cons, enumN_cons]
    by_cases hy : y = z
    · obtain ⟨is, h1, h2⟩ := hnil t (n + 1)
      refine ⟨n :: is, ?_, ?_, by rw [List.length_cons, List.length_cons]; omega⟩
      · rw [List.filter_cons_of_pos (show pairIs z (.d (.tup [.int (n : Nat), .str y])) = true from decide_eq_true hy), List.map_cons, h1]
        rfl
      · subst hy; simp
    · have ht : z ∈ t := by
        rcases List.mem_cons.mp h with rfl | h
        · exact absurd rfl hy
        · exact h
      obtain ⟨is, h1, h2, h3⟩ := pairs_at t (n + 1) ht
      refine ⟨is, ?_, ?_, by rw [List.length_cons]; omega⟩
      · rw [List.filter_cons_of_neg (show ¬ pairIs z (.d (.tup [.int (n : Nat), .str y])) = true by show ¬ decide (y = z) = true; simpa using hy), h1]
      · rw [h2, List.idxOf_cons]
        have : (y == z) = false := by simpa using hy
        rw [this]
        show some (n + 1 + t.idxOf z) = some (n + (t.idxOf z + 1))
        rw [show n + 1 + t.idxOf z = n + (t.idxOf z + 1) by omega]
noncomputable def placeF (a b : U) (S : Store) : Res U := match a, b with
  | .d x, .d (.str z) => match txtsU (.d x) S with
    | some zs => pre (z ∈ zs ∧ zs.length ≤ 1000) (.ok (.d (.int ((zs.idxOf z : Nat) : Int))) S)
    | none => .bad
  | _, _ => .bad
theorem place_call {x : D} {zs : List Str} {z : Str} (h : SeqS x zs) (hz : z ∈ zs) (hl : zs.length ≤ 1000) (S : Store) : F2 placeF [.d x, .d (.str z)] S = .ok (.d (.int ((zs.idxOf z : Nat) : Int))) S := by
  rw [F2_two]
  unfold placeF
  simp only [txts_seq h]
  exact pre_pos ⟨hz, hl⟩
section
variable {P : Program} {w : World} {K : PySem.W.Frag} {mg : Str → Option Value} {base : Heap}
theorem sc_place_in : FnScope ["names", "name", "index", "one"] ["names", "name"] (defScope s_place_in) := ⟨rfl, rfl, rfl, by decide +kernel, rfl, by decide +kernel, by decide +kernel⟩
theorem dk_place_in (T : Txt P K mg) : FM P w K mg base 1 "place_in" ["names", "name"] (F2 placeF) := by
  refine okM T.F_place_in sc_place_in (fun _ _ _ _ _ _ us hl => match us, hl with | [_, _], _ => rfl) F2.len (fun cdv A outer s H E hA hr => (pdss_one (pds_ret (pd_ix ixd (pd_lc (own := [("index", 2), ("one", 3)]) rfl sc_place_in.nd (pdi_enum T.m_enumerate (pda_cons (pd_pv 0 (pv 0)) pda_nil)) (blkOk_by (own := [("index", 2), ("one", 3)]) (N := ["names", "name", "index", "one"]) (sc := defScope s_place_in) (by decide +kernel)) (by decide) (fun _ _ _ _ _ => (pdg_tup (n := 2) rfl (pdgs_cons (fun _ _ _ _ _ h => h) (pdg_name (i := 2) sc_place_in.nd rfl (by first | exact Or.inl rfl | exact Or.inr rfl)) (pdgs_cons (fun _ _ _ _ _ h => h) (pdg_name (i := 3) sc_place_in.nd rfl (by first | exact Or.inl rfl | exact Or.inr rfl)) pdgs_nil)))) (fun _ _ _ _ _ => (pdts_one (pdt_cmp (od_eq hr) (pd_pv 3 (pv 3)) (pd_pv 1 (pv 1)) (nomark _)))) (fun _ _ _ _ _ => (pd_pv 2 (pv 2)))) pd_int)))) (fun us S hl => ?_)
  match us, hl with
  | [a, b], _ =>
    show Refines S (placeF a b S) _
    unfold placeF
    split
    · rename_i x z _
      split
      · rename_i zs hz
        refine pre_ref fun ⟨hm, hl⟩ => ref_eq ?_
        have hsq : SeqS x zs := by
          unfold txtsU at hz
          rw [dat_d] at hz
          cases x with
          | tup ds => exact .inr (by rw [strsD_eq hz])
          | lst ds => exact .inl (by rw [strsD_eq hz])
          | _ => cases hz
        rw [show startE (["names", "name", "index", "one"] : List Str).length [U.d x, .d (.str z)] = [some (.d x), some (.d (.str z)), none, none] from rfl]
        have he : enumU (.d x) S = .ok ⟨enumN 0 (zs.map .str), none⟩ S := by rcases hsq with rfl | rfl <;> rfl
        obtain ⟨is, h1, h2, h3⟩ := pairs_at zs 0 hm
        simp -implicitDefEqProofs only [bind_ok, bind_err, bind_bad, fl_ok, fl_err, fl_bad, seq_nx, seq_rt, seq_err, seq_bk, seq_ct, seq_bad, bodyR_rt, bodyR_nx, bodyR_err, asB_bl, tru_bl, iff_f, iff_t, leU_int, ltU_int, gtU_int, geU_int, subU_int, addU_int, eqU_int, neU_int, tuple_two, mkE_one, len_tup, len_lst, c1_one, c2_two, rd0, rdS, norm_d, dat_d, gFl_none, gRs_none, List.set_cons_zero, List.set_cons_succ, Bool.not_true, Bool.not_false, Bool.false_eq_true, ↓reduceIte, enumA, he]
        rw [show wipeE [some (U.d x), some (U.d (D.str z)), none, none] (List.map (fun x => x.snd) [(Str.ofString "index", 2), (Str.ofString "one", 3)]) = [some (U.d x), some (U.d (D.str z)), none, none] from rfl]
        rw [lcU_filt (g := none) trivial (pairIs z) pairAt _ []]
        · rw [List.nil_append, h1, bind_ok, mkL_d (by rw [List.length_map]; omega), bind_ok]
          have hix := (LstU.lst (S := S) (ds := is.map fun (i : Nat) => D.int i)).ix (i := 0) (d := .int ((zs.idxOf z : Nat) : Int)) (by
            cases is with
            | nil => cases h2
            | cons i t =>
              simp only [List.head?_cons, Option.some.injEq, Nat.zero_add] at h2
              subst h2
              rfl)
          have hix' : ixU (.d (.lst (is.map fun (i : Nat) => D.int i))) (.d (.int 0)) S = .ok (.d (.int ((zs.idxOf z : Nat) : Int))) S := hix
          rw [hix']
          rfl
        · intro u hu
          obtain ⟨i, y, rfl⟩ : ∃ (i : Nat) (y : Str), u = .d (.tup [.int i, .str y]) := by
            have : ∀ (ws : List Str) (n : Nat), u ∈ enumN n (ws.map .str) → ∃ (i : Nat) (y : Str), u = .d (.tup [.int i, .str y]) := fun ws => by
              induction ws with
              | nil => intro n h; rw [List.map_nil, enumN_nil] at h; cases h
              | cons w r ih =>
                intro n h
                rw [List.map_cons, enumN_cons] at h
                rcases List.mem_cons.mp h with rfl | h
                · exact ⟨n, w, rfl⟩
                · exact ih (n + 1) h
            exact this zs 0 hu
          refine ⟨[some (.d x), some (.d (.str z)), some (.d (.int i)), some (.d (.str y))], rfl, ?_, fun _ => ?_⟩
          · simp -implicitDefEqProofs only [bind_ok, bind_err, bind_bad, fl_ok, fl_err, fl_bad, seq_nx, seq_rt, seq_err, seq_bk, seq_ct, seq_bad, bodyR_rt, bodyR_nx, bodyR_err, asB_bl, tru_bl, iff_f, iff_t, leU_int, ltU_int, gtU_int, geU_int, subU_int, addU_int, eqU_int, neU_int, tuple_two, mkE_one, len_tup, len_lst, c1_one, c2_two, rd0, rdS, norm_d, dat_d, gFl_none, gRs_none, List.set_cons_zero, List.set_cons_succ, Bool.not_true, Bool.not_false, Bool.false_eq_true, ↓reduceIte, eqU_txt]
            rfl
          · simp -implicitDefEqProofs only [bind_ok, bind_err, bind_bad, fl_ok, fl_err, fl_bad, seq_nx, seq_rt, seq_err, seq_bk, seq_ct, seq_bad, bodyR_rt, bodyR_nx, bodyR_err, asB_bl, tru_bl, iff_f, iff_t, leU_int, ltU_int, gtU_int, geU_int, subU_int, addU_int, eqU_int, neU_int, tuple_two, mkE_one, len_tup, len_lst, c1_one, c2_two, rd0, rdS, norm_d, dat_d, gFl_none, gRs_none, List.set_cons_zero, List.set_cons_succ, Bool.not_true, Bool.not_false, Bool.false_eq_true, ↓reduceIte]
            rfl
        · have : ∀ (ws : List Str) (n : Nat), (enumN n (ws.map .str)).length = ws.length := fun ws => by
            induction ws with
            | nil => intro n; rw [List.map_nil, enumN_nil]; rfl
            | cons w r ih => intro n; rw [List.map_cons, enumN_cons, List.length_cons, List.length_cons, ih]
          rw [this]
          show 0 + zs.length ≤ sizeLine
          exact sz10 (by omega)
      · exact .bad _
    · exact .bad _
end
end KL
set_option Elab.async false
set_option linter.all false
set_option maxRecDepth 100000
set_option maxHeartbeats 4000000
namespace KL
open PySem PySem.Spec PyProof.Rows L2 DL
open He (ga ma)
open TL (tl)
/-- a layout as an object -/
structure Lo where
  z : Str
  fs : List Str
  ks : List (List Str)
  ls : List (List Str × Str)
def Lo.d (l : Lo) : D := layO l.z l.fs l.ks l.ls
structure Lo.Ok (l : Lo) : Prop where
  f : Fine l.z l.fs l.ls
  k : FineK l.fs l.ks
  k0 : l.ks ≠ []
  kl : l.ks.length ≤ 9
/-- the column of these that a thing is -/
def colAt (fs : List Str) (y : D) : Ve := match y with
  | .str z => if z ∈ fs then .ok (.int ((fs.idxOf z : Nat) : Int)) else .err "NoColumn" "column" y
  | _ => .err "NoColumn" "column" y
section
variable {P : Program} {w : World} {K : PySem.W.Frag} {mg : Str → Option Value} {base : Heap}
theorem sc_Layout_place : FnScope ["self", "column"] ["self", "column"] (defScope s_Layout_place) := ⟨rfl, rfl, rfl, by decide +kernel, rfl, by decide +kernel, by decide +kernel⟩
theorem dk_placeM (T : Txt P K mg) : ∃ f, FD P w K mg base 2 (ma K (ga K "Layout") "place") ["self", "column"] f ∧ ∀ (p : Lo × D) (S : Store), (p.1.Ok ∧ niceD p.2 = true) → f [.d p.1.d, .d p.2] S = (colAt p.1.fs p.2).res S := by
  have F_place_in : FM P w K mg base 1 "place_in" ["names", "name"] (F2 placeF) := dk_place_in T
  refine factMt (k := 1) (fun p : Lo × D => [U.d p.1.d, U.d p.2]) (fun p => colAt p.1.fs p.2) (fun p => p.1.Ok ∧ niceD p.2 = true) T.F_Layout_place sc_Layout_place (fun _ _ _ _ _ _ us hl => match us, hl with | [_, _], _ => rfl) (fun _ => rfl) (fun cdv A outer s H E hA hr => (pdss_cons (pds_if (PDW.pt (pdw_or (pdt_not (pdt_truth (pd_callB cd_isi T.m_isinstance (pda_cons (pd_pv 1 (pv 1)) (pda_cons (pd_ty (n := "str") T.m_str) pda_nil))))) (pdw_or1 (pdt_cmp (od_notin hr) (pd_pv 1 (pv 1)) (pd_fld (cs := ["Layout"]) (pd_pv 0 (pv 0)) (fun c hc => by simp only [List.mem_cons, List.not_mem_nil, or_false] at hc; subst hc; exact ⟨T.cls_Layout, T.na_Layout_columns⟩)) (by rfl))))) (pdss_one (pds_raise rfl T.e_NoColumn hr (takes_of rfl rfl rfl rfl) (pda_cons (pd_pv 1 (pv 1)) pda_nil) (by rfl) (by decide) (fun h => ps_raiseErr rfl T.e_NoColumn hr (takes_of rfl rfl rfl rfl) h))) pdss_nil)
  (pdss_one (pds_ret (pd_call hA F_place_in (hr.mono (by decide)) (takes_of rfl rfl rfl rfl) (pda_cons (pd_fld (cs := ["Layout"]) (pd_pv 0 (pv 0)) (fun c hc => by simp only [List.mem_cons, List.not_mem_nil, or_false] at hc; subst hc; exact ⟨T.cls_Layout, T.na_Layout_columns⟩)) (pda_cons (pd_pv 1 (pv 1)) pda_nil))))))) (fun p S ⟨ho, hy⟩ => ?_)
  obtain ⟨l, y⟩ := p
  have ho : l.Ok := ho
  have hy : niceD y = true := hy
  rw [show startE (["self", "column"] : List Str).length [U.d l.d, U.d y] = [some (.d l.d), some (.d y)] from rfl]
  have fc : ∀ S, fldU ["Layout"] "columns" (.d l.d) S = .ok (.d (.tup (l.fs.map .str))) S := fun S => lay_cols _ _ _ _ _
  have hasc : ∀ z ∈ l.fs, Asc z := fun z hz => (ho.f.f z hz).asc
  have hfm : l.fs.length ≤ 5 := ho.f.fm
  cases y with
  | str z =>
    have az := (nice_str.mp hy).1
    have hin := in_tup (neg := true) az hasc S
    simp -implicitDefEqProofs only [bind_ok, bind_err, bind_bad, fl_ok, fl_err, fl_bad, seq_nx, seq_rt, seq_err, seq_bk, seq_ct, seq_bad, bodyR_rt, bodyR_nx, bodyR_err, asB_bl, tru_bl, iff_f, iff_t, leU_int, ltU_int, gtU_int, geU_int, subU_int, addU_int, eqU_int, neU_int, tuple_two, mkE_one, len_tup, len_lst, c1_one, c2_two, rd0, rdS, norm_d, dat_d, gFl_none, gRs_none, List.set_cons_zero, List.set_cons_succ, Bool.not_true, Bool.not_false, Bool.false_eq_true, ↓reduceIte, isiU, isTy_str, fc, hin, inB]
    by_cases hm : z ∈ l.fs
    · simp -implicitDefEqProofs only [decide_eq_true hm, bind_ok, bind_err, bind_bad, fl_ok, fl_err, fl_bad, seq_nx, seq_rt, seq_err, seq_bk, seq_ct, seq_bad, bodyR_rt, bodyR_nx, bodyR_err, asB_bl, tru_bl, iff_f, iff_t, leU_int, ltU_int, gtU_int, geU_int, subU_int, addU_int, eqU_int, neU_int, tuple_two, mkE_one, len_tup, len_lst, c1_one, c2_two, rd0, rdS, norm_d, dat_d, gFl_none, gRs_none, List.set_cons_zero, List.set_cons_succ, Bool.not_true, Bool.not_false, Bool.false_eq_true, ↓reduceIte, fc, place_call (x := .tup (l.fs.map .str)) (.inr rfl) hm (by omega)]
      have e : colAt l.fs (.str z) = .ok (.int ((l.fs.idxOf z : Nat) : Int)) := if_pos hm
      show ResG (colAt l.fs (.str z)) S _
      rw [e]
      exact resG (v := .ok _)
    · simp -implicitDefEqProofs only [decide_eq_false hm, bind_ok, bind_err, bind_bad, fl_ok, fl_err, fl_bad, seq_nx, seq_rt, seq_err, seq_bk, seq_ct, seq_bad, bodyR_rt, bodyR_nx, bodyR_err, asB_bl, tru_bl, iff_f, iff_t, leU_int, ltU_int, gtU_int, geU_int, subU_int, addU_int, eqU_int, neU_int, tuple_two, mkE_one, len_tup, len_lst, c1_one, c2_two, rd0, rdS, norm_d, dat_d, gFl_none, gRs_none, List.set_cons_zero, List.set_cons_succ, Bool.not_true, Bool.not_false, Bool.false_eq_true, ↓reduceIte]
      have e : colAt l.fs (.str z) = .err "NoColumn" "column" (.str z) := if_neg hm
      show ResG (colAt l.fs (.str z)) S _
      rw [e]
      exact resG (v := .err "NoColumn" "column" (.str z))
  | obj _ _ => cases hy
  | ty _ => cases hy
  | cls _ => cases hy
  | _ =>
    simp -implicitDefEqProofs only [bind_ok, bind_err, bind_bad, fl_ok, fl_err, fl_bad, seq_nx, seq_rt, seq_err, seq_bk, seq_ct, seq_bad, bodyR_rt, bodyR_nx, bodyR_err, asB_bl, tru_bl, iff_f, iff_t, leU_int, ltU_int, gtU_int, geU_int, subU_int, addU_int, eqU_int, neU_int, tuple_two, mkE_one, len_tup, len_lst, c1_one, c2_two, rd0, rdS, norm_d, dat_d, gFl_none, gRs_none, List.set_cons_zero, List.set_cons_succ, Bool.not_true, Bool.not_false, Bool.false_eq_true, ↓reduceIte, isiU, isTy_str]
    exact resG (v := .err "NoColumn" "column" _)
theorem sc_law_attributes : FnScope ["_law_plain"] ["_law_plain"] (defScope s_law_attributes) := ⟨rfl, rfl, rfl, by decide +kernel, rfl, by decide +kernel, by decide +kernel⟩
theorem dk_attrs (T : Txt P K mg) : ∃ f, FM P w K mg base 2 "_law_attributes" ["_law_plain"] f ∧ ∀ (l : Lay) (S : Store), True → f [.d l.d] S = (Ve.ok (attrD l.z l.fs l.keys l.ls)).res S := by
  have F_law_keys : FM P w K mg base 1 "_law_keys" ["_law_layout_here"] (F1 keysF) := dk_keys T
  refine factM (k := 1) (fun l : Lay => [U.d l.d]) (fun l => .ok (attrD l.z l.fs l.keys l.ls)) (fun _ => True) T.F_law_attributes sc_law_attributes (fun _ _ _ _ _ _ us hl => match us, hl with | [_], _ => rfl) (fun _ => rfl) (fun cdv A outer s H E hA hr => (pdss_one (pds_ret (pd_tup (pda_cons (pd_ix ixd (pd_pv 0 (pv 0)) pd_int) (pda_cons (pd_ix ixd (pd_pv 0 (pv 0)) pd_int) (pda_cons (pd_ix ixd (pd_call hA F_law_keys (hr.mono (by decide)) (takes_of rfl rfl rfl rfl) (pda_cons (pd_pv 0 (pv 0)) pda_nil)) pd_int) (pda_cons (pd_call hA F_law_keys (hr.mono (by decide)) (takes_of rfl rfl rfl rfl) (pda_cons (pd_pv 0 (pv 0)) pda_nil)) (pda_cons (pd_ix ixd (pd_pv 0 (pv 0)) pd_int) pda_nil))))))))) (fun l S _ => ?_)
  rw [show startE (["_law_plain"] : List Str).length [U.d l.d] = [some (.d l.d)] from rfl]
  have x0 : ∀ S, ixU (.d l.d) (.d (.int 0)) S = .ok (.d (.str l.z)) S := fun S => rfl
  have x1 : ∀ S, ixU (.d l.d) (.d (.int 1)) S = .ok (.d (.tup (l.fs.map .str))) S := fun S => rfl
  have x3 : ∀ S, ixU (.d l.d) (.d (.int 3)) S = .ok (.d (.tup (l.ls.map Lay.refD))) S := fun S => rfl
  have ki : ∀ S, ixU (.d (.tup (l.keys.map Lay.keyD))) (.d (.int 0)) S = .ok (.d ((l.keys.map Lay.keyD).headD .non)) S := fun S => by
    obtain ⟨k0, kt, hk⟩ := List.exists_cons_of_ne_nil l.keys_ne
    rw [hk]
    exact (LstU.tup (S := S)).ix (i := 0) rfl
  have t1 : ∀ (a b c d e : D) (S : Store), mkT [.d a, .d b, .d c, .d d, .d e] S = .ok (.d (.tup [a, b, c, d, e])) S := fun _ _ _ _ _ _ => rfl
  simp -implicitDefEqProofs only [bind_ok, bind_err, bind_bad, fl_ok, fl_err, fl_bad, seq_nx, seq_rt, seq_err, seq_bk, seq_ct, seq_bad, bodyR_rt, bodyR_nx, bodyR_err, asB_bl, tru_bl, iff_f, iff_t, leU_int, ltU_int, gtU_int, geU_int, subU_int, addU_int, eqU_int, neU_int, tuple_two, mkE_one, len_tup, len_lst, c1_one, c2_two, rd0, rdS, norm_d, dat_d, gFl_none, gRs_none, List.set_cons_zero, List.set_cons_succ, Bool.not_true, Bool.not_false, Bool.false_eq_true, ↓reduceIte, x0, x1, x3, keys_call, ki, t1]
  exact resG (v := .ok _)
theorem dk_sameH (T : Txt P K mg) : FH P w K mg base 1 "_law_same" ["_law_one", "_law_other"] (F2 sameF) := by
  refine okH T.F_law_same sc_law_same (fun _ _ _ _ _ _ us hl => match us, hl with | [_, _], _ => rfl) F2.len (fun cdv A outer s H E p hA hr => (pdss_one (pds_ret (pd_and (pd_cmp (od_eqU (roomH_u hr)) (pd_pv 0 (pv 0)) (pd_pv 1 (pv 1)) (nomark _)) (pd_one (pd_cmp (od_eqU (roomH_u hr)) (pd_callB (cd_reprU hA (roomH_u hr)) T.m_repr (pda_cons (pd_pv 0 (pv 0)) pda_nil)) (pd_callB (cd_reprU hA (roomH_u hr)) T.m_repr (pda_cons (pd_pv 1 (pv 1)) pda_nil)) (nomark _))))))) (fun us S hl => ?_)
  match us, hl with
  | [.r _, _], _ => exact .bad _
  | [.d _, .r _], _ => exact .bad _
  | [.d x, .d y], _ =>
    show Refines S (sameF (.d x) (.d y) S) _
    refine pre_ref fun ⟨hx, hy⟩ => ref_eq ?_
    rw [show startE (["_law_one", "_law_other"] : List Str).length [U.d x, .d y] = [some (.d x), some (.d y)] from rfl]
    have heq : eqU (.d x) (.d y) S = .ok (.d (.bl (PyData.eqv x.py y.py))) S := eqU_ok hx.ok hy.ok S
    have shown : ∀ d : D, GD d → shownU (.d d) S = .ok (.d (.str d.py.shown)) S := fun d h => if_pos ⟨h.pl, gd_showable _ h.gd.g, gd_nodict _ h.gd.g, h.gd.dp, h.gd.shown⟩
    simp only [bind_ok, bind_err, bind_bad, fl_ok, fl_err, fl_bad, seq_nx, seq_rt, seq_err, seq_bk, seq_ct, seq_bad, bodyR_rt, bodyR_nx, bodyR_err, asB_bl, tru_bl, iff_f, iff_t, leU_int, ltU_int, gtU_int, geU_int, subU_int, addU_int, eqU_int, neU_int, tuple_two, mkE_one, len_tup, len_lst, c1_one, c2_two, rd0, rdS, norm_d, dat_d, gFl_none, gRs_none, List.set_cons_zero, List.set_cons_succ, Bool.not_true, Bool.not_false, Bool.false_eq_true, ↓reduceIte, heq, shown x hx, shown y hy, eqU_txt]
    cases h : PyData.eqv x.py y.py with
    | true => simp only [bind_ok, bind_err, bind_bad, fl_ok, fl_err, fl_bad, seq_nx, seq_rt, seq_err, seq_bk, seq_ct, seq_bad, bodyR_rt, bodyR_nx, bodyR_err, asB_bl, tru_bl, iff_f, iff_t, leU_int, ltU_int, gtU_int, geU_int, subU_int, addU_int, eqU_int, neU_int, tuple_two, mkE_one, len_tup, len_lst, c1_one, c2_two, rd0, rdS, norm_d, dat_d, gFl_none, gRs_none, List.set_cons_zero, List.set_cons_succ, Bool.not_true, Bool.not_false, Bool.false_eq_true, ↓reduceIte, Bool.true_and]
    | false => simp only [bind_ok, bind_err, bind_bad, fl_ok, fl_err, fl_bad, seq_nx, seq_rt, seq_err, seq_bk, seq_ct, seq_bad, bodyR_rt, bodyR_nx, bodyR_err, asB_bl, tru_bl, iff_f, iff_t, leU_int, ltU_int, gtU_int, geU_int, subU_int, addU_int, eqU_int, neU_int, tuple_two, mkE_one, len_tup, len_lst, c1_one, c2_two, rd0, rdS, norm_d, dat_d, gFl_none, gRs_none, List.set_cons_zero, List.set_cons_succ, Bool.not_true, Bool.not_false, Bool.false_eq_true, ↓reduceIte, Bool.false_and]
end
end KL
set_option Elab.async false
set_option linter.all false
set_option maxRecDepth 100000
set_option maxHeartbeats 4000000
namespace KL
open PySem PySem.Spec PyProof.Rows L2 DL
open He (ga ma)
open TL (tl)
def Lay.lo (l : Lay) : Lo := ⟨l.z, l.fs, l.keys, l.ls⟩
/-- a drawn layout that has no fault -/
structure Lay.Fit (l : Lay) : Prop where
  f : Fine l.z l.fs l.ls
  k : FineK l.fs l.us
  le : l.us.length ≤ 3
theorem Lay.Ok.fit {l : Lay} (h : l.Ok 5) : l.Fit := ⟨h.fine, h.fineU, by have := h.um; omega⟩
theorem Lay.Fit.lo {l : Lay} (h : l.Fit) : l.lo.Ok := by
  refine ⟨h.f, ?_, l.keys_ne, ?_⟩
  · show FineK l.fs l.keys
    unfold Lay.keys
    split
    · refine ⟨fun k hk => ?_, List.pairwise_singleton ..⟩
      obtain rfl := List.mem_singleton.mp hk
      exact ⟨h.f.f0, h.f.fd, fun _ h => h⟩
    · exact h.k
  · show l.keys.length ≤ 9
    unfold Lay.keys
    split
    · show 1 ≤ 9; decide
    · have := h.le; omega
/-- Layout(..) of lists that still change -/
theorem make_u {z : Str} {fs : List Str} {us : List (List Str)} {ls : List (List Str × Str)} {c k r : U} {S : Store} (h : Fine z fs ls) (hu : FineK fs us) (hl : us.length ≤ 9) (hc : LstU S (fs.map .str) c) (hk : LstU S (us.map Lay.keyD) k) (hr : LstU S (ls.map Lay.refD) r) :
    makeU true "Layout" (F5 initF) [.d (.str z), c, k, r] S = .ok (.d (layO z fs (if us = [] then [fs] else us) ls)) (S ++ [.frz (layO z fs (if us = [] then [fs] else us) ls)]) := by
  have hp := lay_pre h hu hl (r := []) (fun _ h => nomatch h) (Nat.zero_le _)
  rw [List.append_nil] at hp
  have hin : initF (.r S.length) (.d (.str z)) c k r (S ++ [.obj "Layout" []]) = layR S.length (.str z) (fs.map .str) (us.map Lay.keyD) (ls.map Lay.refD) (S ++ [.obj "Layout" []]) :=
    init_call hp.n ⟨hc.app, hp.c.ni, hp.c.le⟩ ⟨hk.app, hp.k.ni, hp.k.le⟩ ⟨hr.app, hp.r.ni, hp.r.le⟩ (at_new _ _)
  have hks : (if us.map Lay.keyD = [] then [D.tup (fs.map .str)] else us.map Lay.keyD) = (if us = [] then [fs] else us).map Lay.keyD := by cases us <;> rfl
  have hfz : frzN S.length (S ++ [.obj "Layout" (layF (.str z) (fs.map .str) (us.map Lay.keyD) (ls.map Lay.refD))]) = S ++ [.frz (layO z fs (if us = [] then [fs] else us) ls)] := by
    rw [layF_keys, hks, lay_frz _ _ _ _ _ (by cases us <;> simp)]
    rfl
  unfold makeU
  rw [F5_five, hin]
  unfold layR
  rw [layD_none h hu]
  simp only [bind_ok, set_new, hfz, norm_frz (at_new S _), ↓reduceIte]
theorem atk (S g : Store) (i : Nat) : (S ++ g)[S.length + i]? = g[i]? := by rw [List.getElem?_append_right (by omega), Nat.add_sub_cancel_left]
theorem setk (S g : Store) (i : Nat) (x : Cell) : (S ++ g).set (S.length + i) x = S ++ g.set i x := by rw [List.set_append_right _ _ (by omega), Nat.add_sub_cancel_left]
theorem lstM (ds : List D) (S : Store) : lstMU (.d (.tup ds)) S = .ok (.r S.length) (S ++ [Cell.lst (ds.map .d)]) := rfl
def g3 {α : Type} (us mv ws : List α) : List α := match us, ws with
  | [a], [c, n] => a :: n :: c :: mv
  | _, _ => []
def gU0 : List U → List U
  | [c, n] => [n, c, .d (.tup []), .d (.tup [])]
  | _ => []
section
variable {P : Program} {w : World} {K : PySem.W.Frag} {mg : Str → Option Value} {base : Heap}
/-- Layout(columns = .., name = ..) -/
theorem kb0_Layout {kv rv : V} {fd : FuncData} (F : FunD K "__init__" "Layout.__init__" (defArgs s_Layout___init__) (defBody s_Layout___init__) (defScope s_Layout___init__) [] [("keys", kv), ("refers", rv)] (ma K (ga K "Layout") "__init__") fd) :
    ∃ mv : List Value, KBn K fd ["self", "name", "columns", "keys", "refers"] 1 ["columns", "name"] (fun us ws => g3 us mv ws) (fun vs zs => g3 vs [kv, rv] zs) := by
  obtain ⟨mv, h⟩ := FunD.kbinds0 (ps := ["self", "name", "columns", "keys", "refers"]) F 1 ["columns", "name"] [("keys", kv), ("refers", rv)] (fun us mv ws => g3 us mv ws) (by simp) (fun q hq => hq) (fun {vs mz zs us mv ws} r1 r2 r3 => by
    cases r1 with
    | nil => exact .nil
    | cons a1 a2 =>
      cases a2 with
      | cons _ _ => exact .nil
      | nil =>
        cases r3 with
        | nil => exact .nil
        | cons b1 b2 =>
          cases b2 with
          | nil => exact .nil
          | cons b3 b4 =>
            cases b4 with
            | nil => exact .cons a1 (.cons b3 (.cons b1 r2))
            | cons _ _ => exact .nil) (fun D doc pm an cdv ct us mv ws l1 l2 l3 => match us, l1, mv, l2, ws, l3 with | [_], _, [_, _], _, [_, _], _ => ⟨_, _, _, _, _, _, rfl, rfl, _, _, _, _, _, _, rfl, rfl, rfl⟩)
  exact ⟨mv, h⟩
theorem sc_law_made : FnScope ["_law_plain", "_law_lists", "_law_made_here", "_law_one"] ["_law_plain"] (defScope s_law_made) := ⟨rfl, rfl, rfl, by decide +kernel, rfl, by decide +kernel, by decide +kernel⟩
theorem dk_made (T : Txt P K mg) : ∃ f, FM P w K mg base 5 "_law_made" ["_law_plain"] f ∧ ∀ (l : Lay) (S : Store), l.Fit → f [.d l.d] S = (Ve.ok l.lo.d).res S := by
  obtain ⟨fd, FI⟩ := T.I_Layout
  have I_Layout := dk_init (w := w) (base := base) T FI
  have KB_Layout := kb_Layout (by simp) FI
  obtain ⟨mv, K0_Layout⟩ := kb0_Layout FI
  have G0_Layout : ∀ (ι : List Addr) (G : Hp) (a : Addr) (zs : List V) (ws : List U), zs.length = (["columns", "name"] : List Str).length → RUs K ι G zs ws → ∃ ys, g3 [V.ref a] [V.ref (WH.kwAt "Layout" "keys" K), V.ref (WH.kwAt "Layout" "refers" K)] zs = .ref a :: ys ∧ RUs K ι G ys (gU0 ws) := fun ι G a zs ws hl r => by
    match zs, hl, ws, r with
    | [zc, zn], _, [wc, wn], .cons r1 (.cons r2 .nil) => exact ⟨_, rfl, .cons r2 (.cons r1 (.cons (T.emp_Layout_keys.rv G) (.cons (T.emp_Layout_refers.rv G) .nil)))⟩
  refine factM (k := 4) (fun l : Lay => [U.d l.d]) (fun l => .ok l.lo.d) Lay.Fit T.F_law_made sc_law_made (fun _ _ _ _ _ _ us hl => match us, hl with | [_], _ => rfl) (fun _ => rfl) (fun cdv A outer s H E hA hr => (pdss_cons (pds_set (i := 1) sc_law_made.nd rfl (by first | exact Or.inl rfl | exact Or.inr rfl) (pd_lstM (pda_cons (pd_callTy cd_listM T.m_list (pda_cons (pd_ix ixd (pd_pv 0 (pv 0)) pd_int) pda_nil)) (pda_cons (pd_callTy cd_listM T.m_list (pda_cons (pd_ix ixd (pd_pv 0 (pv 0)) pd_int) pda_nil)) (pda_cons (pd_callTy cd_listM T.m_list (pda_cons (pd_ix ixd (pd_pv 0 (pv 0)) pd_int) pda_nil)) pda_nil)))))
  (pdss_cons (pds_if (PDW.pt (pdw_or (pdt_truth (pd_ix ixd (pd_pv 0 (pv 0)) pd_int)) (pdw_or1 (pdt_truth (pd_ix ixd (pd_pv 0 (pv 0)) pd_int))))) (pdss_one (pds_set (i := 2) sc_law_made.nd rfl (by first | exact Or.inl rfl | exact Or.inr rfl) (pd_makeK (n := 2) (gU := fun us ws => us ++ ws) true hA ⟨T.mk_Layout, T.g_Layout, I_Layout, F5.len⟩ (hr.mono (by decide)) (takes_of rfl rfl rfl rfl) KB_Layout (fun ι G a vs us zs ws _ _ h h2 => hgU_app ι G a vs us zs ws h h2) (pda_cons (pd_ix ixd (pd_pv 0 (pv 0)) pd_int) (pda_cons (pd_ix ixd (pd_pv 1 (pv 1)) pd_int) pda_nil)) (pdk_cons (pd_ix ixd (pd_pv 1 (pv 1)) pd_int) (pdk_cons (pd_ix ixd (pd_pv 1 (pv 1)) pd_int) pdk_nil))))) (pdss_one (pds_set (i := 2) sc_law_made.nd rfl (by first | exact Or.inl rfl | exact Or.inr rfl) (pd_makeK0 true hA ⟨T.mk_Layout, T.g_Layout, I_Layout, F5.len⟩ (hr.mono (by decide)) (takes_of rfl rfl rfl rfl) K0_Layout G0_Layout (pdk_cons (pd_ix ixd (pd_pv 1 (pv 1)) pd_int) (pdk_cons (pd_ix ixd (pd_pv 0 (pv 0)) pd_int) pdk_nil))))))
  (pdss_cons (pds_for (passes_of rfl) rfl (pdi_any (pd_pv 1 (pv 1))) (pdg_name (i := 3) sc_law_made.nd rfl (by first | exact Or.inl rfl | exact Or.inr rfl)) (pdss_one (pds_expr (pd_bm0 PySem.F.plainAttrs_list PySem.F.slot_list_clear PySem.F.type_list_clear md_clear (pd_pv 3 (pv 3))))))
  (pdss_one (pds_ret (pd_pv 2 (pv 2)))))))) (fun l S hf => ?_)
  rw [show startE (["_law_plain", "_law_lists", "_law_made_here", "_law_one"] : List Str).length [U.d l.d] = [some (.d l.d), none, none, none] from rfl]
  have x0 : ∀ S, ixU (.d l.d) (.d (.int 0)) S = .ok (.d (.str l.z)) S := fun S => rfl
  have x1 : ∀ S, ixU (.d l.d) (.d (.int 1)) S = .ok (.d (.tup (l.fs.map .str))) S := fun S => rfl
  have x2 : ∀ S, ixU (.d l.d) (.d (.int 2)) S = .ok (.d (.tup (l.us.map Lay.keyD))) S := fun S => rfl
  have x3 : ∀ S, ixU (.d l.d) (.d (.int 3)) S = .ok (.d (.tup (l.ls.map Lay.refD))) S := fun S => rfl
  have hfm := hf.f.fm
  have hrm := hf.f.rm
  have hle := hf.le
  have k1 : lstMU (.d (.tup (l.fs.map .str))) S = .ok (.r S.length) (S ++ [.lst ((l.fs.map D.str).map .d)]) := rfl
  have k2 : lstMU (.d (.tup (l.us.map Lay.keyD))) (S ++ [.lst ((l.fs.map D.str).map .d)]) = .ok (.r (S.length + 1)) (S ++ [.lst ((l.fs.map D.str).map .d), .lst ((l.us.map Lay.keyD).map .d)]) := by
    rw [lstM, List.length_append, List.append_assoc]; rfl
  have k3 : lstMU (.d (.tup (l.ls.map Lay.refD))) (S ++ [.lst ((l.fs.map D.str).map .d), .lst ((l.us.map Lay.keyD).map .d)]) = .ok (.r (S.length + 2)) (S ++ [.lst ((l.fs.map D.str).map .d), .lst ((l.us.map Lay.keyD).map .d), .lst ((l.ls.map Lay.refD).map .d)]) := by
    rw [lstM, List.length_append, List.append_assoc]; rfl
  have k4 : mkM [.r S.length, .r (S.length + 1), .r (S.length + 2)] (S ++ [.lst ((l.fs.map D.str).map .d), .lst ((l.us.map Lay.keyD).map .d), .lst ((l.ls.map Lay.refD).map .d)]) = .ok (.r (S.length + 3)) (S ++ [.lst ((l.fs.map D.str).map .d), .lst ((l.us.map Lay.keyD).map .d), .lst ((l.ls.map Lay.refD).map .d), .lst [.r S.length, .r (S.length + 1), .r (S.length + 2)]]) := by
    unfold mkM
    rw [if_pos (show ([.r S.length, .r (S.length + 1), .r (S.length + 2)] : List U).length ≤ sizeLine from sz10 (show 3 ≤ 1000 by decide)), List.length_append, List.append_assoc]; rfl
  have tr : ∀ (ds : List D) (S : Store), truU (.d (.tup ds)) S = .ok (!ds.isEmpty) S := fun _ _ => rfl
  simp -implicitDefEqProofs only [bind_ok, bind_err, bind_bad, fl_ok, fl_err, fl_bad, seq_nx, seq_rt, seq_err, seq_bk, seq_ct, seq_bad, bodyR_rt, bodyR_nx, bodyR_err, asB_bl, tru_bl, iff_f, iff_t, leU_int, ltU_int, gtU_int, geU_int, subU_int, addU_int, eqU_int, neU_int, tuple_two, mkE_one, len_tup, len_lst, c1_one, c2_two, rd0, rdS, norm_d, dat_d, gFl_none, gRs_none, List.set_cons_zero, List.set_cons_succ, Bool.not_true, Bool.not_false, Bool.false_eq_true, ↓reduceIte, x0, x1, x2, x3, k1, k2, k3, k4, tr]
  generalize hA : Cell.lst ((l.fs.map D.str).map U.d) = A
  generalize hB : Cell.lst ((l.us.map Lay.keyD).map U.d) = B
  generalize hC : Cell.lst ((l.ls.map Lay.refD).map U.d) = C
  generalize hL : Cell.lst [.r S.length, .r (S.length + 1), .r (S.length + 2)] = L
  have cL : (S ++ [A, B, C, L])[S.length + 3]? = some (.lst [.r S.length, .r (S.length + 1), .r (S.length + 2)]) := by rw [atk, hL]; rfl
  have cA : (S ++ [A, B, C, L])[S.length]? = some (.lst ((l.fs.map D.str).map U.d)) := by rw [hA]; exact atk S [A, B, C, L] 0
  have cB : (S ++ [A, B, C, L])[S.length + 1]? = some (.lst ((l.us.map Lay.keyD).map U.d)) := by rw [hB]; exact atk S [A, B, C, L] 1
  have cC : (S ++ [A, B, C, L])[S.length + 2]? = some (.lst ((l.ls.map Lay.refD).map U.d)) := by rw [hC]; exact atk S [A, B, C, L] 2
  have nL : norm (S ++ [A, B, C, L]) (.r (S.length + 3)) = .r (S.length + 3) := norm_lst cL
  have i0 : ixU (.r (S.length + 3)) (.d (.int 0)) (S ++ [A, B, C, L]) = .ok (.r S.length) (S ++ [A, B, C, L]) := by simp only [ixU, cL]; rfl
  have i1 : ixU (.r (S.length + 3)) (.d (.int 1)) (S ++ [A, B, C, L]) = .ok (.r (S.length + 1)) (S ++ [A, B, C, L]) := by simp only [ixU, cL]; rfl
  have i2 : ixU (.r (S.length + 3)) (.d (.int 2)) (S ++ [A, B, C, L]) = .ok (.r (S.length + 2)) (S ++ [A, B, C, L]) := by simp only [ixU, cL]; rfl
  have mkE : makeU true "Layout" (F5 initF) [.d (.str l.z), .r S.length, .r (S.length + 1), .r (S.length + 2)] (S ++ [A, B, C, L]) = .ok (.d l.lo.d) (S ++ [A, B, C, L] ++ [.frz l.lo.d]) := make_u hf.f hf.k (by omega) (.cell cA) (.cell cB) (.cell cC)
  -- the layout is made
  refine seq_cut (Z := ResG _ S) (I := fun ρ S' => ρ = [some (.d l.d), some (.r (S.length + 3)), some (.d l.lo.d), none] ∧ S' = S ++ [A, B, C, L, .frz l.lo.d]) (.inl ?_) ?_
  · by_cases h1 : l.us = []
    · by_cases h2 : l.ls = []
      · have e1 : (l.us.map Lay.keyD).isEmpty = true := by rw [h1]; rfl
        have e2 : (l.ls.map Lay.refD).isEmpty = true := by rw [h2]; rfl
        have mkF : makeU true "Layout" (F5 initF) (gU0 [.r S.length, .d (.str l.z)]) (S ++ [A, B, C, L]) = .ok (.d l.lo.d) (S ++ [A, B, C, L] ++ [.frz l.lo.d]) := by
          have := make_u (k := .d (.tup [])) (r := .d (.tup [])) hf.f hf.k (by omega) (.cell cA) (by rw [h1]; exact .tup) (by rw [h2]; exact .tup)
          exact this
        simp -implicitDefEqProofs only [bind_ok, bind_err, bind_bad, fl_ok, fl_err, fl_bad, seq_nx, seq_rt, seq_err, seq_bk, seq_ct, seq_bad, bodyR_rt, bodyR_nx, bodyR_err, asB_bl, tru_bl, iff_f, iff_t, leU_int, ltU_int, gtU_int, geU_int, subU_int, addU_int, eqU_int, neU_int, tuple_two, mkE_one, len_tup, len_lst, c1_one, c2_two, rd0, rdS, norm_d, dat_d, gFl_none, gRs_none, List.set_cons_zero, List.set_cons_succ, Bool.not_true, Bool.not_false, Bool.false_eq_true, ↓reduceIte, e1, e2, nL, i0, x0, x3, tr, List.length_cons, List.length_nil, Nat.zero_add, Nat.reduceAdd, mkF]
        exact ⟨_, _, rfl, rfl, by rw [List.append_assoc]; rfl⟩
      · have e1 : (l.us.map Lay.keyD).isEmpty = true := by rw [h1]; rfl
        have e2 : (l.ls.map Lay.refD).isEmpty = false := by cases hl : l.ls with | nil => exact absurd hl h2 | cons _ _ => rfl
        simp -implicitDefEqProofs only [bind_ok, bind_err, bind_bad, fl_ok, fl_err, fl_bad, seq_nx, seq_rt, seq_err, seq_bk, seq_ct, seq_bad, bodyR_rt, bodyR_nx, bodyR_err, asB_bl, tru_bl, iff_f, iff_t, leU_int, ltU_int, gtU_int, geU_int, subU_int, addU_int, eqU_int, neU_int, tuple_two, mkE_one, len_tup, len_lst, c1_one, c2_two, rd0, rdS, norm_d, dat_d, gFl_none, gRs_none, List.set_cons_zero, List.set_cons_succ, Bool.not_true, Bool.not_false, Bool.false_eq_true, ↓reduceIte, e1, e2, nL, i0, i1, i2, x0, x3, tr, List.length_cons, List.length_nil, Nat.zero_add, Nat.reduceAdd, and_self, List.cons_append, List.nil_append, mkE]
        exact ⟨_, _, rfl, rfl, by rw [List.append_assoc]; rfl⟩
    · have e1 : (l.us.map Lay.keyD).isEmpty = false := by cases hl : l.us with | nil => exact absurd hl h1 | cons _ _ => rfl
      simp -implicitDefEqProofs only [bind_ok, bind_err, bind_bad, fl_ok, fl_err, fl_bad, seq_nx, seq_rt, seq_err, seq_bk, seq_ct, seq_bad, bodyR_rt, bodyR_nx, bodyR_err, asB_bl, tru_bl, iff_f, iff_t, leU_int, ltU_int, gtU_int, geU_int, subU_int, addU_int, eqU_int, neU_int, tuple_two, mkE_one, len_tup, len_lst, c1_one, c2_two, rd0, rdS, norm_d, dat_d, gFl_none, gRs_none, List.set_cons_zero, List.set_cons_succ, Bool.not_true, Bool.not_false, Bool.false_eq_true, ↓reduceIte, e1, nL, i0, i1, i2, x0, x3, tr, List.length_cons, List.length_nil, Nat.zero_add, Nat.reduceAdd, and_self, List.cons_append, List.nil_append, mkE]
      exact ⟨_, _, rfl, rfl, by rw [List.append_assoc]; rfl⟩
  · rintro ρ S' ⟨rfl, rfl⟩
    have cL5 : ∀ a b c : Cell, (S ++ [a, b, c, L, .frz l.lo.d])[S.length + 3]? = some (.lst [.r S.length, .r (S.length + 1), .r (S.length + 2)]) := fun a b c => by rw [atk, hL]; rfl
    have it : iterU (.r (S.length + 3)) (S ++ [A, B, C, L, .frz l.lo.d]) = .ok ⟨[.r S.length, .r (S.length + 1), .r (S.length + 2)], some (S.length + 3, [.r S.length, .r (S.length + 1), .r (S.length + 2)])⟩ (S ++ [A, B, C, L, .frz l.lo.d]) := by simp only [iterU, cL5]
    simp -implicitDefEqProofs only [bind_ok, bind_err, bind_bad, fl_ok, fl_err, fl_bad, seq_nx, seq_rt, seq_err, seq_bk, seq_ct, seq_bad, bodyR_rt, bodyR_nx, bodyR_err, asB_bl, tru_bl, iff_f, iff_t, leU_int, ltU_int, gtU_int, geU_int, subU_int, addU_int, eqU_int, neU_int, tuple_two, mkE_one, len_tup, len_lst, c1_one, c2_two, rd0, rdS, norm_d, dat_d, gFl_none, gRs_none, List.set_cons_zero, List.set_cons_succ, Bool.not_true, Bool.not_false, Bool.false_eq_true, ↓reduceIte, norm_lst (cL5 A B C), it]
    refine loopG (K := fun f => ResG _ S (bodyR (f.seq _))) (I := fun us ρ S' => ∃ (a b c : List U) (v3 : Option U), (∀ u ∈ us, u ∈ [U.r S.length, .r (S.length + 1), .r (S.length + 2)]) ∧ S' = S ++ [.lst a, .lst b, .lst c, L, .frz l.lo.d] ∧ ρ = [some (.d l.d), some (.r (S.length + 3)), some (.d l.lo.d), v3]) ?_ ?_ ?_ ?_
    · rintro us ρ S' ⟨a, b, c, v3, _, rfl, _⟩
      exact cL5 _ _ _
    · rintro u us ρ S' ⟨a, b, c, v3, hus, rfl, rfl⟩
      refine ⟨_, _, rfl, ?_⟩
      have hu := hus u List.mem_cons_self
      have hus' : ∀ u ∈ us, u ∈ [U.r S.length, .r (S.length + 1), .r (S.length + 2)] := fun q hq => hus q (List.mem_cons_of_mem _ hq)
      have c0 : (S ++ [.lst a, .lst b, .lst c, L, .frz l.lo.d])[S.length]? = some (.lst a) := atk S [.lst a, .lst b, .lst c, L, .frz l.lo.d] 0
      have c1 : (S ++ [.lst a, .lst b, .lst c, L, .frz l.lo.d])[S.length + 1]? = some (.lst b) := atk S [.lst a, .lst b, .lst c, L, .frz l.lo.d] 1
      have c2 : (S ++ [.lst a, .lst b, .lst c, L, .frz l.lo.d])[S.length + 2]? = some (.lst c) := atk S [.lst a, .lst b, .lst c, L, .frz l.lo.d] 2
      simp only [List.mem_cons, List.not_mem_nil, or_false] at hu
      rcases hu with rfl | rfl | rfl
      · have ty : tyU "list" (.r S.length) (S ++ [.lst a, .lst b, .lst c, L, .frz l.lo.d]) = true := by simp only [tyU, c0]; rfl
        have cl : clrU (.r S.length) [] (S ++ [.lst a, .lst b, .lst c, L, .frz l.lo.d]) = .ok (.d .non) (S ++ [.lst [], .lst b, .lst c, L, .frz l.lo.d]) := by
          simp only [clrU, cellL, c0]
          exact congrArg (Res.ok _) (setk S [.lst a, .lst b, .lst c, L, .frz l.lo.d] 0 (.lst []))
        simp -implicitDefEqProofs only [bind_ok, bind_err, bind_bad, fl_ok, fl_err, fl_bad, seq_nx, seq_rt, seq_err, seq_bk, seq_ct, seq_bad, bodyR_rt, bodyR_nx, bodyR_err, asB_bl, tru_bl, iff_f, iff_t, leU_int, ltU_int, gtU_int, geU_int, subU_int, addU_int, eqU_int, neU_int, tuple_two, mkE_one, len_tup, len_lst, c1_one, c2_two, rd0, rdS, norm_d, dat_d, gFl_none, gRs_none, List.set_cons_zero, List.set_cons_succ, Bool.not_true, Bool.not_false, Bool.false_eq_true, ↓reduceIte, norm_lst c0, ty, cl]
        exact ⟨[], b, c, _, hus', rfl, rfl⟩
      · have ty : tyU "list" (.r (S.length + 1)) (S ++ [.lst a, .lst b, .lst c, L, .frz l.lo.d]) = true := by simp only [tyU, c1]; rfl
        have cl : clrU (.r (S.length + 1)) [] (S ++ [.lst a, .lst b, .lst c, L, .frz l.lo.d]) = .ok (.d .non) (S ++ [.lst a, .lst [], .lst c, L, .frz l.lo.d]) := by
          simp only [clrU, cellL, c1]
          exact congrArg (Res.ok _) (setk S [.lst a, .lst b, .lst c, L, .frz l.lo.d] 1 (.lst []))
        simp -implicitDefEqProofs only [bind_ok, bind_err, bind_bad, fl_ok, fl_err, fl_bad, seq_nx, seq_rt, seq_err, seq_bk, seq_ct, seq_bad, bodyR_rt, bodyR_nx, bodyR_err, asB_bl, tru_bl, iff_f, iff_t, leU_int, ltU_int, gtU_int, geU_int, subU_int, addU_int, eqU_int, neU_int, tuple_two, mkE_one, len_tup, len_lst, c1_one, c2_two, rd0, rdS, norm_d, dat_d, gFl_none, gRs_none, List.set_cons_zero, List.set_cons_succ, Bool.not_true, Bool.not_false, Bool.false_eq_true, ↓reduceIte, norm_lst c1, ty, cl]
        exact ⟨a, [], c, _, hus', rfl, rfl⟩
      · have ty : tyU "list" (.r (S.length + 2)) (S ++ [.lst a, .lst b, .lst c, L, .frz l.lo.d]) = true := by simp only [tyU, c2]; rfl
        have cl : clrU (.r (S.length + 2)) [] (S ++ [.lst a, .lst b, .lst c, L, .frz l.lo.d]) = .ok (.d .non) (S ++ [.lst a, .lst b, .lst [], L, .frz l.lo.d]) := by
          simp only [clrU, cellL, c2]
          exact congrArg (Res.ok _) (setk S [.lst a, .lst b, .lst c, L, .frz l.lo.d] 2 (.lst []))
        simp -implicitDefEqProofs only [bind_ok, bind_err, bind_bad, fl_ok, fl_err, fl_bad, seq_nx, seq_rt, seq_err, seq_bk, seq_ct, seq_bad, bodyR_rt, bodyR_nx, bodyR_err, asB_bl, tru_bl, iff_f, iff_t, leU_int, ltU_int, gtU_int, geU_int, subU_int, addU_int, eqU_int, neU_int, tuple_two, mkE_one, len_tup, len_lst, c1_one, c2_two, rd0, rdS, norm_d, dat_d, gFl_none, gRs_none, List.set_cons_zero, List.set_cons_succ, Bool.not_true, Bool.not_false, Bool.false_eq_true, ↓reduceIte, norm_lst c2, ty, cl]
        exact ⟨a, b, [], _, hus', rfl, rfl⟩
    · rintro ρ S' ⟨a, b, c, v3, _, rfl, rfl⟩
      simp -implicitDefEqProofs only [bind_ok, bind_err, bind_bad, fl_ok, fl_err, fl_bad, seq_nx, seq_rt, seq_err, seq_bk, seq_ct, seq_bad, bodyR_rt, bodyR_nx, bodyR_err, asB_bl, tru_bl, iff_f, iff_t, leU_int, ltU_int, gtU_int, geU_int, subU_int, addU_int, eqU_int, neU_int, tuple_two, mkE_one, len_tup, len_lst, c1_one, c2_two, rd0, rdS, norm_d, dat_d, gFl_none, gRs_none, List.set_cons_zero, List.set_cons_succ, Bool.not_true, Bool.not_false, Bool.false_eq_true, ↓reduceIte]
      exact resGg (v := .ok l.lo.d)
    · exact ⟨_, _, _, _, fun u h => h, by rw [← hA, ← hB, ← hC], rfl⟩
end
end KL
set_option Elab.async false
set_option linter.all false
set_option maxRecDepth 100000
set_option maxHeartbeats 4000000
namespace KL
open PySem PySem.Spec PyProof.Rows L2 DL
open He (ga ma)
open TL (tl)
theorem same_call {x : D} (h : GD x) (S : Store) : F2 sameF [.d x, .d x] S = .ok (.d (.bl true)) S := by
  show pre _ _ = _
  rw [pre_pos ⟨h, h⟩, h.gd.refl, decide_eq_true rfl]
  rfl
theorem lo_gd {l : Lo} (h : l.Ok) : GD (attrD l.z l.fs l.ks l.ls) := attr_gd h.f h.k h.k0 (by have := h.kl; omega)
section
variable {P : Program} {w : World} {K : PySem.W.Frag} {mg : Str → Option Value} {base : Heap}
theorem sc_law_is_it : FnScope ["_law_made_here", "_law_plain", "_law_have"] ["_law_made_here", "_law_plain"] (defScope s_law_is_it) := ⟨rfl, rfl, rfl, by decide +kernel, rfl, by decide +kernel, by decide +kernel⟩
theorem dk_is_it (T : Txt P K mg) : ∃ f, FM P w K mg base 3 "_law_is_it" ["_law_made_here", "_law_plain"] f ∧ ∀ (l : Lay) (S : Store), l.Fit → f [.d l.lo.d, .d l.d] S = (Ve.ok (.bl true)).res S := by
  obtain ⟨attrsF, F_law_attributes, hA1⟩ := dk_attrs (w := w) (base := base) T
  have F_law_same : FM P w K mg base 1 "_law_same" ["_law_one", "_law_other"] (F2 sameF) := dk_same T
  refine factM (k := 2) (fun l : Lay => [U.d l.lo.d, U.d l.d]) (fun l => .ok (.bl true)) Lay.Fit T.F_law_is_it sc_law_is_it (fun _ _ _ _ _ _ us hl => match us, hl with | [_, _], _ => rfl) (fun _ => rfl) (fun cdv A outer s H E hA hr => (pdss_cons (pds_set (i := 2) sc_law_is_it.nd rfl (by first | exact Or.inl rfl | exact Or.inr rfl) (pd_tup (pda_cons (pd_fld (cs := ["Layout"]) (pd_pv 0 (pv 0)) (fun c hc => by simp only [List.mem_cons, List.not_mem_nil, or_false] at hc; subst hc; exact ⟨T.cls_Layout, T.na_Layout_name⟩)) (pda_cons (pd_fld (cs := ["Layout"]) (pd_pv 0 (pv 0)) (fun c hc => by simp only [List.mem_cons, List.not_mem_nil, or_false] at hc; subst hc; exact ⟨T.cls_Layout, T.na_Layout_columns⟩)) (pda_cons (pd_fld (cs := ["Layout"]) (pd_pv 0 (pv 0)) (fun c hc => by simp only [List.mem_cons, List.not_mem_nil, or_false] at hc; subst hc; exact ⟨T.cls_Layout, T.na_Layout_key⟩)) (pda_cons (pd_fld (cs := ["Layout"]) (pd_pv 0 (pv 0)) (fun c hc => by simp only [List.mem_cons, List.not_mem_nil, or_false] at hc; subst hc; exact ⟨T.cls_Layout, T.na_Layout_all_keys⟩)) (pda_cons (pd_fld (cs := ["Layout"]) (pd_pv 0 (pv 0)) (fun c hc => by simp only [List.mem_cons, List.not_mem_nil, or_false] at hc; subst hc; exact ⟨T.cls_Layout, T.na_Layout_refers⟩)) pda_nil)))))))
  (pdss_one (pds_ret (pd_call hA F_law_same (hr.mono (by decide)) (takes_of rfl rfl rfl rfl) (pda_cons (pd_pv 2 (pv 2)) (pda_cons (pd_call hA F_law_attributes (hr.mono (by decide)) (takes_of rfl rfl rfl rfl) (pda_cons (pd_pv 1 (pv 1)) pda_nil)) pda_nil))))))) (fun l S hf => ?_)
  rw [show startE (["_law_made_here", "_law_plain", "_law_have"] : List Str).length [U.d l.lo.d, U.d l.d] = [some (.d l.lo.d), some (.d l.d), none] from rfl]
  have f1 : ∀ S, fldU [Str.ofString "Layout"] (Str.ofString "name") (.d l.lo.d) S = .ok (.d (.str l.z)) S := fun S => lay_name _ _ _ _ _
  have f2 : ∀ S, fldU [Str.ofString "Layout"] (Str.ofString "columns") (.d l.lo.d) S = .ok (.d (.tup (l.fs.map .str))) S := fun S => lay_cols _ _ _ _ _
  have f3 : ∀ S, fldU [Str.ofString "Layout"] (Str.ofString "key") (.d l.lo.d) S = .ok (.d ((l.keys.map Lay.keyD).headD .non)) S := fun S => lay_key1 _ _ _ _ _
  have f4 : ∀ S, fldU [Str.ofString "Layout"] (Str.ofString "all_keys") (.d l.lo.d) S = .ok (.d (.tup (l.keys.map Lay.keyD))) S := fun S => lay_keys _ _ _ _ _
  have f5 : ∀ S, fldU [Str.ofString "Layout"] (Str.ofString "refers") (.d l.lo.d) S = .ok (.d (.tup (l.ls.map Lay.refD))) S := fun S => lay_refs _ _ _ _ _
  have t1 : ∀ (a b c d e : D) (S : Store), mkT [.d a, .d b, .d c, .d d, .d e] S = .ok (.d (.tup [a, b, c, d, e])) S := fun _ _ _ _ _ _ => rfl
  have at1 : ∀ S, attrsF [.d l.d] S = .ok (.d (attrD l.z l.fs l.keys l.ls)) S := fun S => hA1 l S trivial
  have s1 : ∀ S, F2 sameF [.d (.tup [.str l.z, .tup (l.fs.map .str), (l.keys.map Lay.keyD).headD .non, .tup (l.keys.map Lay.keyD), .tup (l.ls.map Lay.refD)]), .d (attrD l.z l.fs l.keys l.ls)] S = .ok (.d (.bl true)) S := fun S => same_call (lo_gd hf.lo) S
  simp -implicitDefEqProofs only [bind_ok, bind_err, bind_bad, fl_ok, fl_err, fl_bad, seq_nx, seq_rt, seq_err, seq_bk, seq_ct, seq_bad, bodyR_rt, bodyR_nx, bodyR_err, asB_bl, tru_bl, iff_f, iff_t, leU_int, ltU_int, gtU_int, geU_int, subU_int, addU_int, eqU_int, neU_int, tuple_two, mkE_one, len_tup, len_lst, c1_one, c2_two, rd0, rdS, norm_d, dat_d, gFl_none, gRs_none, List.set_cons_zero, List.set_cons_succ, Bool.not_true, Bool.not_false, Bool.false_eq_true, ↓reduceIte, f1, f2, f3, f4, f5, t1, at1, s1]
  exact resG (v := .ok (.bl true))
theorem sc_law_no_column : FnScope ["_law_made_here", "_law_thing", "e"] ["_law_made_here", "_law_thing"] (defScope s_law_no_column) := ⟨rfl, rfl, rfl, by decide +kernel, rfl, by decide +kernel, by decide +kernel⟩
theorem dk_no_column (T : Txt P K mg) : ∃ f, FM P w K mg base 3 "_law_no_column" ["_law_made_here", "_law_thing"] f ∧ ∀ (p : Lo × D) (S : Store), (p.1.Ok ∧ SmD 1000 p.2 ∧ ∀ z, p.2 = .str z → z ∉ p.1.fs) → f [.d p.1.d, .d p.2] S = (Ve.ok (.bl true)).res S := by
  obtain ⟨plF, M_Layout_place, hPl⟩ := dk_placeM (w := w) (base := base) T
  have H_law_same := dk_sameH (w := w) (base := base) T
  refine factM (k := 2) (fun p : Lo × D => [U.d p.1.d, U.d p.2]) (fun p => .ok (.bl true)) (fun p => p.1.Ok ∧ SmD 1000 p.2 ∧ ∀ z, p.2 = .str z → z ∉ p.1.fs) T.F_law_no_column sc_law_no_column (fun _ _ _ _ _ _ us hl => match us, hl with | [_, _], _ => rfl) (fun _ => rfl) (fun cdv A outer s H E hA hr => (pdss_cons (pds_try (cs := errN) rfl rfl (takes_of rfl rfl rfl rfl) (.as (i := 2) sc_law_no_column.nd rfl rfl ⟨rfl, by decide, Or.inl T.n_NoColumn.gC⟩ (exm_is T.exm (y := "NoColumn") (by decide +kernel) (by decide)) (px_call2 hA H_law_same (hr.mono (by decide)) (px_fld (fun c hc => ⟨T.xfc c hc, T.fnd c hc "column" (by decide +kernel)⟩) (fun _ _ _ => pv 2)) (px_var (j := 1) (by decide) (fun _ _ _ => pv 1))) .nil) (fun W pn xe tk hp => (pdss_one (pds_expr (pd_meth1 hA (pd_pv 0 (pv 0)) T.cls_Layout T.me_Layout_place M_Layout_place (hr.mono (by decide)) tk (pda_cons (pd_pv 1 (pv 1)) pda_nil))))))
  (pdss_one (pds_ret pd_bl)))) (fun p S ⟨ho, hy, hz⟩ => ?_)
  obtain ⟨l, y⟩ := p
  have ho : l.Ok := ho
  have hy : SmD 1000 y := hy
  have hz : ∀ z, y = .str z → z ∉ l.fs := hz
  rw [show startE (["_law_made_here", "_law_thing", "e"] : List Str).length [U.d l.d, U.d y] = [some (.d l.d), some (.d y), none] from rfl]
  have hc : colAt l.fs y = .err "NoColumn" "column" y := by
    cases y with
    | str z => exact if_neg (hz z rfl)
    | _ => rfl
  have mt1 : ∀ (r : Store → Res U) (S : Store), mthU "Layout" "place" (.d l.d) S r = r S := fun r S => by
    have ho : objU (.d l.d) S = some (("Layout" : Str), (layG (.str l.z) (l.fs.map .str) (l.ks.map Lay.keyD) (l.ls.map Lay.refD)).map fun p => (p.1, U.d p.2)) := rfl
    unfold mthU
    simp only [ho]
    rw [if_pos ⟨by simp, rfl⟩]
  have pl : ∀ S, plF [.d l.d, .d y] S = .err "NoColumn" [("column", y)] S := fun S => by
    have := hPl (l, y) S ⟨ho, hy.n⟩
    rw [hc] at this
    exact this
  simp -implicitDefEqProofs only [bind_ok, bind_err, bind_bad, fl_ok, fl_err, fl_bad, seq_nx, seq_rt, seq_err, seq_bk, seq_ct, seq_bad, bodyR_rt, bodyR_nx, bodyR_err, asB_bl, tru_bl, iff_f, iff_t, leU_int, ltU_int, gtU_int, geU_int, subU_int, addU_int, eqU_int, neU_int, tuple_two, mkE_one, len_tup, len_lst, c1_one, c2_two, rd0, rdS, norm_d, dat_d, gFl_none, gRs_none, List.set_cons_zero, List.set_cons_succ, Bool.not_true, Bool.not_false, Bool.false_eq_true, ↓reduceIte, mt1, pl]
  rw [try_err (by decide +kernel), hdl_t (by decide +kernel) (S' := S) (u := .d (.bl true)) (by
    simp only [lookup_one, optR, bind_ok, bind_err, bind_bad, fl_ok, fl_err, fl_bad, seq_nx, seq_rt, seq_err, seq_bk, seq_ct, seq_bad, bodyR_rt, bodyR_nx, bodyR_err, asB_bl, tru_bl, iff_f, iff_t, leU_int, ltU_int, gtU_int, geU_int, subU_int, addU_int, eqU_int, neU_int, tuple_two, mkE_one, len_tup, len_lst, c1_one, c2_two, rd0, rdS, norm_d, dat_d, gFl_none, gRs_none, List.set_cons_zero, List.set_cons_succ, Bool.not_true, Bool.not_false, Bool.false_eq_true, ↓reduceIte]
    have := same_call (hy.gd (by decide)) S
    simp only [bind_ok, bind_err, bind_bad, fl_ok, fl_err, fl_bad, seq_nx, seq_rt, seq_err, seq_bk, seq_ct, seq_bad, bodyR_rt, bodyR_nx, bodyR_err, asB_bl, tru_bl, iff_f, iff_t, leU_int, ltU_int, gtU_int, geU_int, subU_int, addU_int, eqU_int, neU_int, tuple_two, mkE_one, len_tup, len_lst, c1_one, c2_two, rd0, rdS, norm_d, dat_d, gFl_none, gRs_none, List.set_cons_zero, List.set_cons_succ, Bool.not_true, Bool.not_false, Bool.false_eq_true, ↓reduceIte, this, noErr])]
  exact resG (v := .ok (.bl true))
end
end KL
set_option Elab.async false
set_option linter.all false
set_option maxRecDepth 100000
set_option maxHeartbeats 4000000
namespace KL
open PySem PySem.Spec PyProof.Rows L2 DL
open He (ga ma)
open TL (tl)
theorem cut_last1 {α : Type} (xs : List α) (h : xs ≠ []) : cutL xs none (some (-1)) = xs.dropLast := by
  have hl : 0 < xs.length := List.length_pos_iff.mpr h
  have e : HT.sIx xs.length xs.length (some (-1)) = xs.length - 1 := by
    unfold HT.sIx
    simp
    omega
  unfold cutL
  rw [HT.sIx_none, e, Nat.sub_zero, List.drop_zero, List.dropLast_eq_take]
theorem Fine.rot {z : Str} {fs fs' : List Str} {ls : List (List Str × Str)} (h : Fine z fs ls) (p : fs'.Perm fs) : Fine z fs' ls :=
  ⟨h.z, fun y hy => h.f y (p.mem_iff.mp hy), fun e => h.f0 (by rw [e] at p; exact p.symm.eq_nil), by rw [p.length_eq]; exact h.fm, p.nodup_iff.mpr h.fd, fun q hq => ⟨⟨(h.r q hq).1.ne, (h.r q hq).1.nd, fun y hy => p.mem_iff.mpr ((h.r q hq).1.sub y hy)⟩, (h.r q hq).2⟩, h.rm⟩
theorem FineK.rot {fs fs' : List Str} {ks : List (List Str)} (h : FineK fs ks) (p : fs'.Perm fs) : FineK fs' ks := ⟨fun k hk => ⟨(h.u k hk).ne, (h.u k hk).nd, fun y hy => p.mem_iff.mpr ((h.u k hk).sub y hy)⟩, h.d⟩
theorem first_part {fs : List Str} (h0 : fs ≠ []) (nd : fs.Nodup) : Part fs (fs.take 1) := by
  cases fs with
  | nil => exact absurd rfl h0
  | cons a t => exact ⟨by simp, by simp, fun z hz => by simp at hz; rw [hz]; simp⟩
theorem FineK.one {fs k : List Str} (h : Part fs k) : FineK fs [k] := ⟨fun q hq => by obtain rfl := List.mem_singleton.mp hq; exact h, List.pairwise_singleton ..⟩
theorem FineK.drop {fs : List Str} {ks : List (List Str)} (h : FineK fs ks) : FineK fs ks.dropLast := ⟨fun k hk => h.u k (List.dropLast_subset _ hk), h.d.sublist (List.dropLast_sublist _)⟩
def ChangedOk (f : Fn) : Prop := ∀ (n : Nat) (l : Lay) (S : Store), Bag S n → l.Ok 5 → ∃ (l' : Lay) (S' : Store), f [.r n, .d l.d] S = .ok (.d l'.d) S' ∧ Drew n S S' ∧ l'.Fit
section
variable {P : Program} {w : World} {K : PySem.W.Frag} {mg : Str → Option Value} {base : Heap}
theorem sc_law_changed : FnScope ["_law_bag_here", "_law_plain", "_law_label", "_law_fields", "_law_uniques", "_law_links", "_law_kind"] ["_law_bag_here", "_law_plain"] (defScope s_law_changed) := ⟨rfl, rfl, rfl, by decide +kernel, rfl, by decide +kernel, by decide +kernel⟩
theorem dk_changed (T : Txt P K mg) : ∃ f, FM P w K mg base 4 "_law_changed" ["_law_bag_here", "_law_plain"] f ∧ ChangedOk f := by
  obtain ⟨takeF, F_law_take, hT⟩ := dk_take (w := w) (base := base) T
  obtain ⟨nameF, F_law_name, hN⟩ := dk_name (w := w) (base := base) T
  have F_law_keys : FM P w K mg base 1 "_law_keys" ["_law_layout_here"] (F1 keysF) := dk_keys T
  refine Exists.imp (fun f hf => ⟨hf.1, fun n l S b ho => ?_⟩) (okDraw (P := P) (w := w) (base := base) (k := 3) (fun us S => ∃ (n : Nat) (l : Lay), us = [.r n, .d l.d] ∧ l.Ok 5) (fun us S y => ∃ l' : Lay, y = l'.d ∧ l'.Fit) T.F_law_changed sc_law_changed (fun _ _ _ _ _ _ us hl => match us, hl with | [_, _], _ => rfl) (fun cdv A outer s H E hA hr => (pdss_cons (pds_asg (pd_pv 1 (pv 1)) (pdg_tup (n := 4) rfl (pdgs_cons (fun _ _ _ _ _ h => h) (pdg_name (i := 2) sc_law_changed.nd rfl (by first | exact Or.inl rfl | exact Or.inr rfl)) (pdgs_cons (fun _ _ _ _ _ h => h) (pdg_name (i := 3) sc_law_changed.nd rfl (by first | exact Or.inl rfl | exact Or.inr rfl)) (pdgs_cons (fun _ _ _ _ _ h => h) (pdg_name (i := 4) sc_law_changed.nd rfl (by first | exact Or.inl rfl | exact Or.inr rfl)) (pdgs_cons (fun _ _ _ _ _ h => h) (pdg_name (i := 5) sc_law_changed.nd rfl (by first | exact Or.inl rfl | exact Or.inr rfl)) pdgs_nil))))))
  (pdss_cons (pds_set (i := 6) sc_law_changed.nd rfl (by first | exact Or.inl rfl | exact Or.inr rfl) (pd_call hA F_law_take (hr.mono (by decide)) (takes_of rfl rfl rfl rfl) (pda_cons (pd_pv 0 (pv 0)) (pda_cons pd_int pda_nil))))
  (pdss_cons (pds_if (pdt_cmp (od_eq hr) (pd_pv 6 (pv 6)) pd_int (nomark _)) (pdss_one (pds_set (i := 2) sc_law_changed.nd rfl (by first | exact Or.inl rfl | exact Or.inr rfl) (pd_call hA F_law_name (hr.mono (by decide)) (takes_of rfl rfl rfl rfl) (pda_cons (pd_pv 0 (pv 0)) (pda_cons (pd_lst (pda_cons (pd_pv 2 (pv 2)) pda_nil)) (pda_cons (pd_lst pda_nil) pda_nil)))))) (pdss_one (pds_if (pdt_cmp (od_eq hr) (pd_pv 6 (pv 6)) pd_int (nomark _)) (pdss_one (pds_set (i := 3) sc_law_changed.nd rfl (by first | exact Or.inl rfl | exact Or.inr rfl) (pd_op od_add (pd_sl sld (pd_pv 3 (pv 3)) (pdo_some pd_int) pdo_none) (pd_sl sld (pd_pv 3 (pv 3)) pdo_none (pdo_some pd_int))))) (pdss_one (pds_if (pdt_cmp (od_eq hr) (pd_pv 6 (pv 6)) pd_int (nomark _)) (pdss_one (pds_set (i := 4) sc_law_changed.nd rfl (by first | exact Or.inl rfl | exact Or.inr rfl) (pd_if (pdt_truth (pd_pv 4 (pv 4))) (pd_sl sld (pd_pv 4 (pv 4)) pdo_none (pdo_some (pd_un ud_neg pd_int))) (pd_tup (pda_cons (pd_sl sld (pd_pv 3 (pv 3)) pdo_none (pdo_some pd_int)) pda_nil))))) (pdss_one (pds_if (pdt_cmp (od_eq hr) (pd_pv 6 (pv 6)) pd_int (nomark _)) (pdss_one (pds_set (i := 5) sc_law_changed.nd rfl (by first | exact Or.inl rfl | exact Or.inr rfl) (pd_if (pdt_truth (pd_pv 5 (pv 5))) (pd_sl sld (pd_pv 5 (pv 5)) pdo_none (pdo_some (pd_un ud_neg pd_int))) (pd_tup (pda_cons (pd_tup (pda_cons (pd_sl sld (pd_pv 3 (pv 3)) pdo_none (pdo_some pd_int)) (pda_cons (pd_pv 2 (pv 2)) pda_nil))) pda_nil))))) (pdss_one (pds_if (pdt_cmp (od_eq hr) (pd_pv 6 (pv 6)) pd_int (nomark _)) (pdss_one (pds_set (i := 4) sc_law_changed.nd rfl (by first | exact Or.inl rfl | exact Or.inr rfl) (pd_if (pdt_cmp (od_eq hr) (pd_callB cd_len T.m_len (pda_cons (pd_pv 4 (pv 4)) pda_nil)) pd_int (nomark _)) (pd_tup (pda_cons (pd_ix ixd (pd_pv 4 (pv 4)) pd_int) (pda_cons (pd_ix ixd (pd_pv 4 (pv 4)) pd_int) pda_nil))) (pd_tup (pda_cons (pd_ix ixd (pd_call hA F_law_keys (hr.mono (by decide)) (takes_of rfl rfl rfl rfl) (pda_cons (pd_pv 1 (pv 1)) pda_nil)) pd_int) pda_nil))))) pdss_nil)))))))))
  (pdss_one (pds_ret (pd_tup (pda_cons (pd_pv 2 (pv 2)) (pda_cons (pd_pv 3 (pv 3)) (pda_cons (pd_pv 4 (pv 4)) (pda_cons (pd_pv 5 (pv 5)) pda_nil))))))))))) (fun us S hl hb hp => ?_))
  · obtain ⟨y, S', e, d, l', rfl, h⟩ := hf.2 [.r n, .d l.d] S rfl b ⟨n, l, rfl, ho⟩
    exact ⟨l', S', e, d, h⟩
  obtain ⟨n, l, rfl, ho⟩ := hp
  have hb : Bag S n := hb
  show DrawZ n S _ _
  rw [show startE (["_law_bag_here", "_law_plain", "_law_label", "_law_fields", "_law_uniques", "_law_links", "_law_kind"] : List Str).length [U.r n, .d l.d] = [some (.r n), some (.d l.d), none, none, none, none, none] from rfl]
  have hf := ho.fit
  have tq : tuple? (.d l.d) S = .ok [.d (.str l.z), .d (.tup (l.fs.map .str)), .d (.tup (l.us.map Lay.keyD)), .d (.tup (l.ls.map Lay.refD))] S := rfl
  have t4 : ∀ (l' : Lay) S, mkT [.d (.str l'.z), .d (.tup (l'.fs.map .str)), .d (.tup (l'.us.map Lay.keyD)), .d (.tup (l'.ls.map Lay.refD))] S = .ok (.d l'.d) S := fun l' S => rfl
  obtain ⟨kd, S1, e1, d1, hk⟩ := hT n 6 S hb (by decide) (by decide)
  have b1 := d1.bag hb
  simp -implicitDefEqProofs only [bind_ok, bind_err, bind_bad, fl_ok, fl_err, fl_bad, seq_nx, seq_rt, seq_err, seq_bk, seq_ct, seq_bad, bodyR_rt, bodyR_nx, bodyR_err, asB_bl, tru_bl, iff_f, iff_t, leU_int, ltU_int, gtU_int, geU_int, subU_int, addU_int, eqU_int, neU_int, tuple_two, mkE_one, len_tup, len_lst, c1_one, c2_two, rd0, rdS, norm_d, dat_d, gFl_none, gRs_none, List.set_cons_zero, List.set_cons_succ, Bool.not_true, Bool.not_false, Bool.false_eq_true, ↓reduceIte, tq, List.length_cons, List.length_nil, Nat.zero_add, Nat.reduceAdd, hb.norm, e1]
  have hfm := ho.fm
  have hum := ho.um
  have hrm := ho.rm
  have hsl : ∀ (xs : List D) lo hi S, slU (.d (.tup xs)) lo hi S = .ok (.d (.tup (cutL xs lo hi))) S := fun _ _ _ _ => rfl
  have cut1 : ∀ {α : Type} (xs : List α), xs ≠ [] → cutL xs none (some 1) = xs.take 1 := fun xs h => cut_to (i := 1) (List.length_pos_iff.mpr h)
  have cutr : ∀ {α : Type} (xs : List α), xs ≠ [] → cutL xs (some 1) none = xs.drop 1 := fun xs h => cut_from (i := 1) (List.length_pos_iff.mpr h)
  have cmap : ∀ {α β : Type} (f : α → β) (xs : List α) (lo hi : Option Int), cutL (xs.map f) lo hi = (cutL xs lo hi).map f := fun f xs lo hi => cutL_map f xs lo hi
  have tr : ∀ (ds : List D) (S : Store), truU (.d (.tup ds)) S = .ok (!ds.isEmpty) S := fun _ _ => rfl
  have n1 : ∀ S, negU (.d (.int 1)) S = .ok (.d (.int (-1))) S := fun S => rfl
  have one : ∀ (a : D) (S : Store), mkT [.d a] S = .ok (.d (.tup [a])) S := fun _ _ => rfl
  have two : ∀ (a b : D) (S : Store), mkT [.d a, .d b] S = .ok (.d (.tup [a, b])) S := fun _ _ _ => rfl
  by_cases k0 : (kd : Int) = 0
  · have t5 : ∀ S, mkL [] S = .ok (.d (.lst [])) S := fun S => rfl
    have m1 : ∀ S, mkL [.d (.str l.z)] S = .ok (.d (.lst [.str l.z])) S := fun S => rfl
    obtain ⟨z, S2, e2, d2, nz, _⟩ := hN n (.d (.lst [.str l.z])) (.d (.lst [])) [l.z] [] S1 b1 ⟨.lst, (fun e => nomatch e), (fun y hy => by obtain rfl := List.mem_singleton.mp hy; exact ho.z), by simp⟩ ⟨.lst, (fun e => nomatch e), (fun _ h => nomatch h), by decide⟩
    have t := t4 ⟨z, l.fs, l.us, l.ls⟩ S2
    simp -implicitDefEqProofs only [decide_eq_true k0, bind_ok, bind_err, bind_bad, fl_ok, fl_err, fl_bad, seq_nx, seq_rt, seq_err, seq_bk, seq_ct, seq_bad, bodyR_rt, bodyR_nx, bodyR_err, asB_bl, tru_bl, iff_f, iff_t, leU_int, ltU_int, gtU_int, geU_int, subU_int, addU_int, eqU_int, neU_int, tuple_two, mkE_one, len_tup, len_lst, c1_one, c2_two, rd0, rdS, norm_d, dat_d, gFl_none, gRs_none, List.set_cons_zero, List.set_cons_succ, Bool.not_true, Bool.not_false, Bool.false_eq_true, ↓reduceIte, b1.norm, m1, t5, e2, t]
    exact drawZ (d1.trans d2) ⟨⟨z, l.fs, l.us, l.ls⟩, rfl, ⟨nz, hf.f.f, hf.f.f0, hf.f.fm, hf.f.fd, hf.f.r, hf.f.rm⟩, hf.k, hf.le⟩
  simp -implicitDefEqProofs only [decide_eq_false k0, bind_ok, bind_err, bind_bad, fl_ok, fl_err, fl_bad, seq_nx, seq_rt, seq_err, seq_bk, seq_ct, seq_bad, bodyR_rt, bodyR_nx, bodyR_err, asB_bl, tru_bl, iff_f, iff_t, leU_int, ltU_int, gtU_int, geU_int, subU_int, addU_int, eqU_int, neU_int, tuple_two, mkE_one, len_tup, len_lst, c1_one, c2_two, rd0, rdS, norm_d, dat_d, gFl_none, gRs_none, List.set_cons_zero, List.set_cons_succ, Bool.not_true, Bool.not_false, Bool.false_eq_true, ↓reduceIte]
  by_cases k1 : (kd : Int) = 1
  · have had : addU (.d (.tup ((l.fs.drop 1).map .str))) (.d (.tup ((l.fs.take 1).map .str))) S1 = .ok (.d (.tup ((l.fs.drop 1 ++ l.fs.take 1).map .str))) S1 := by
      rw [List.map_append]
      exact addU_tup (by rw [List.length_map, List.length_map, List.length_drop, List.length_take]; omega) S1
    have t := t4 ⟨l.z, l.fs.drop 1 ++ l.fs.take 1, l.us, l.ls⟩ S1
    simp -implicitDefEqProofs only [decide_eq_true k1, bind_ok, bind_err, bind_bad, fl_ok, fl_err, fl_bad, seq_nx, seq_rt, seq_err, seq_bk, seq_ct, seq_bad, bodyR_rt, bodyR_nx, bodyR_err, asB_bl, tru_bl, iff_f, iff_t, leU_int, ltU_int, gtU_int, geU_int, subU_int, addU_int, eqU_int, neU_int, tuple_two, mkE_one, len_tup, len_lst, c1_one, c2_two, rd0, rdS, norm_d, dat_d, gFl_none, gRs_none, List.set_cons_zero, List.set_cons_succ, Bool.not_true, Bool.not_false, Bool.false_eq_true, ↓reduceIte, asI_int, hsl, cmap, cut1 l.fs ho.f0, cutr l.fs ho.f0, had, t]
    have pm : (l.fs.drop 1 ++ l.fs.take 1).Perm l.fs := (List.perm_append_comm).trans (by rw [List.take_append_drop])
    exact drawZ d1 ⟨⟨l.z, l.fs.drop 1 ++ l.fs.take 1, l.us, l.ls⟩, rfl, hf.f.rot pm, hf.k.rot pm, hf.le⟩
  simp -implicitDefEqProofs only [decide_eq_false k1, bind_ok, bind_err, bind_bad, fl_ok, fl_err, fl_bad, seq_nx, seq_rt, seq_err, seq_bk, seq_ct, seq_bad, bodyR_rt, bodyR_nx, bodyR_err, asB_bl, tru_bl, iff_f, iff_t, leU_int, ltU_int, gtU_int, geU_int, subU_int, addU_int, eqU_int, neU_int, tuple_two, mkE_one, len_tup, len_lst, c1_one, c2_two, rd0, rdS, norm_d, dat_d, gFl_none, gRs_none, List.set_cons_zero, List.set_cons_succ, Bool.not_true, Bool.not_false, Bool.false_eq_true, ↓reduceIte]
  by_cases k2 : (kd : Int) = 2
  · by_cases hu : l.us = []
    · have e : (l.us.map Lay.keyD).isEmpty = true := by rw [hu]; rfl
      have t : mkT [.d (.str l.z), .d (.tup (l.fs.map .str)), .d (.tup [.tup ((l.fs.take 1).map .str)]), .d (.tup (l.ls.map Lay.refD))] S1 = .ok (.d (Lay.d ⟨l.z, l.fs, [l.fs.take 1], l.ls⟩)) S1 := rfl
      simp -implicitDefEqProofs only [decide_eq_true k2, bind_ok, bind_err, bind_bad, fl_ok, fl_err, fl_bad, seq_nx, seq_rt, seq_err, seq_bk, seq_ct, seq_bad, bodyR_rt, bodyR_nx, bodyR_err, asB_bl, tru_bl, iff_f, iff_t, leU_int, ltU_int, gtU_int, geU_int, subU_int, addU_int, eqU_int, neU_int, tuple_two, mkE_one, len_tup, len_lst, c1_one, c2_two, rd0, rdS, norm_d, dat_d, gFl_none, gRs_none, List.set_cons_zero, List.set_cons_succ, Bool.not_true, Bool.not_false, Bool.false_eq_true, ↓reduceIte, tr, e, asI_int, hsl, cmap, cut1 l.fs ho.f0, one, t]
      exact drawZ d1 ⟨⟨l.z, l.fs, [l.fs.take 1], l.ls⟩, rfl, hf.f, .one (first_part ho.f0 ho.fd), by show 1 ≤ 3; decide⟩
    · have e : (l.us.map Lay.keyD).isEmpty = false := by cases h : l.us with | nil => exact absurd h hu | cons _ _ => rfl
      have t := t4 ⟨l.z, l.fs, l.us.dropLast, l.ls⟩ S1
      simp -implicitDefEqProofs only [decide_eq_true k2, bind_ok, bind_err, bind_bad, fl_ok, fl_err, fl_bad, seq_nx, seq_rt, seq_err, seq_bk, seq_ct, seq_bad, bodyR_rt, bodyR_nx, bodyR_err, asB_bl, tru_bl, iff_f, iff_t, leU_int, ltU_int, gtU_int, geU_int, subU_int, addU_int, eqU_int, neU_int, tuple_two, mkE_one, len_tup, len_lst, c1_one, c2_two, rd0, rdS, norm_d, dat_d, gFl_none, gRs_none, List.set_cons_zero, List.set_cons_succ, Bool.not_true, Bool.not_false, Bool.false_eq_true, ↓reduceIte, tr, e, n1, asI_int, hsl, cmap, cut_last1 l.us hu, t]
      exact drawZ d1 ⟨⟨l.z, l.fs, l.us.dropLast, l.ls⟩, rfl, hf.f, hf.k.drop, by show l.us.dropLast.length ≤ 3; rw [List.length_dropLast]; omega⟩
  simp -implicitDefEqProofs only [decide_eq_false k2, bind_ok, bind_err, bind_bad, fl_ok, fl_err, fl_bad, seq_nx, seq_rt, seq_err, seq_bk, seq_ct, seq_bad, bodyR_rt, bodyR_nx, bodyR_err, asB_bl, tru_bl, iff_f, iff_t, leU_int, ltU_int, gtU_int, geU_int, subU_int, addU_int, eqU_int, neU_int, tuple_two, mkE_one, len_tup, len_lst, c1_one, c2_two, rd0, rdS, norm_d, dat_d, gFl_none, gRs_none, List.set_cons_zero, List.set_cons_succ, Bool.not_true, Bool.not_false, Bool.false_eq_true, ↓reduceIte]
  by_cases k3 : (kd : Int) = 3
  · by_cases hu : l.ls = []
    · have e : (l.ls.map Lay.refD).isEmpty = true := by rw [hu]; rfl
      have t : mkT [.d (.str l.z), .d (.tup (l.fs.map .str)), .d (.tup (l.us.map Lay.keyD)), .d (.tup [.tup [.tup ((l.fs.take 1).map .str), .str l.z]])] S1 = .ok (.d (Lay.d ⟨l.z, l.fs, l.us, [(l.fs.take 1, l.z)]⟩)) S1 := rfl
      simp -implicitDefEqProofs only [decide_eq_true k3, bind_ok, bind_err, bind_bad, fl_ok, fl_err, fl_bad, seq_nx, seq_rt, seq_err, seq_bk, seq_ct, seq_bad, bodyR_rt, bodyR_nx, bodyR_err, asB_bl, tru_bl, iff_f, iff_t, leU_int, ltU_int, gtU_int, geU_int, subU_int, addU_int, eqU_int, neU_int, tuple_two, mkE_one, len_tup, len_lst, c1_one, c2_two, rd0, rdS, norm_d, dat_d, gFl_none, gRs_none, List.set_cons_zero, List.set_cons_succ, Bool.not_true, Bool.not_false, Bool.false_eq_true, ↓reduceIte, tr, e, asI_int, hsl, cmap, cut1 l.fs ho.f0, two, one, t]
      refine drawZ d1 ⟨⟨l.z, l.fs, l.us, [(l.fs.take 1, l.z)]⟩, rfl, ⟨ho.z, ho.f, ho.f0, ho.fm, ho.fd, fun p hp => ?_, by show 1 ≤ 2; decide⟩, hf.k, hf.le⟩
      obtain rfl := List.mem_singleton.mp hp
      exact ⟨first_part ho.f0 ho.fd, ho.z⟩
    · have e : (l.ls.map Lay.refD).isEmpty = false := by cases h : l.ls with | nil => exact absurd h hu | cons _ _ => rfl
      have t := t4 ⟨l.z, l.fs, l.us, l.ls.dropLast⟩ S1
      simp -implicitDefEqProofs only [decide_eq_true k3, bind_ok, bind_err, bind_bad, fl_ok, fl_err, fl_bad, seq_nx, seq_rt, seq_err, seq_bk, seq_ct, seq_bad, bodyR_rt, bodyR_nx, bodyR_err, asB_bl, tru_bl, iff_f, iff_t, leU_int, ltU_int, gtU_int, geU_int, subU_int, addU_int, eqU_int, neU_int, tuple_two, mkE_one, len_tup, len_lst, c1_one, c2_two, rd0, rdS, norm_d, dat_d, gFl_none, gRs_none, List.set_cons_zero, List.set_cons_succ, Bool.not_true, Bool.not_false, Bool.false_eq_true, ↓reduceIte, tr, e, n1, asI_int, hsl, cmap, cut_last1 l.ls hu, t]
      exact drawZ d1 ⟨⟨l.z, l.fs, l.us, l.ls.dropLast⟩, rfl, ⟨ho.z, ho.f, ho.f0, ho.fm, ho.fd, fun p hp => ho.r p (List.dropLast_subset _ hp), by show l.ls.dropLast.length ≤ 2; rw [List.length_dropLast]; omega⟩, hf.k, hf.le⟩
  simp -implicitDefEqProofs only [decide_eq_false k3, bind_ok, bind_err, bind_bad, fl_ok, fl_err, fl_bad, seq_nx, seq_rt, seq_err, seq_bk, seq_ct, seq_bad, bodyR_rt, bodyR_nx, bodyR_err, asB_bl, tru_bl, iff_f, iff_t, leU_int, ltU_int, gtU_int, geU_int, subU_int, addU_int, eqU_int, neU_int, tuple_two, mkE_one, len_tup, len_lst, c1_one, c2_two, rd0, rdS, norm_d, dat_d, gFl_none, gRs_none, List.set_cons_zero, List.set_cons_succ, Bool.not_true, Bool.not_false, Bool.false_eq_true, ↓reduceIte]
  by_cases k4 : (kd : Int) = 4
  · by_cases hu : l.us.length = 2
    · obtain ⟨a, b, hab⟩ : ∃ a b, l.us = [a, b] := by
        match h : l.us, hu with
        | [a, b], _ => exact ⟨a, b, rfl⟩
      have le : decide ((((l.us.map Lay.keyD).length : Nat) : Int) = 2) = true := by rw [List.length_map, hu]; rfl
      have i1 : ∀ S, ixU (.d (.tup (l.us.map Lay.keyD))) (.d (.int 1)) S = .ok (.d (Lay.keyD b)) S := fun S => (LstU.tup (S := S)).ix (i := 1) (by rw [hab]; rfl)
      have i0 : ∀ S, ixU (.d (.tup (l.us.map Lay.keyD))) (.d (.int 0)) S = .ok (.d (Lay.keyD a)) S := fun S => (LstU.tup (S := S)).ix (i := 0) (by rw [hab]; rfl)
      have t : mkT [.d (.str l.z), .d (.tup (l.fs.map .str)), .d (.tup [Lay.keyD b, Lay.keyD a]), .d (.tup (l.ls.map Lay.refD))] S1 = .ok (.d (Lay.d ⟨l.z, l.fs, [b, a], l.ls⟩)) S1 := rfl
      simp -implicitDefEqProofs only [decide_eq_true k4, bind_ok, bind_err, bind_bad, fl_ok, fl_err, fl_bad, seq_nx, seq_rt, seq_err, seq_bk, seq_ct, seq_bad, bodyR_rt, bodyR_nx, bodyR_err, asB_bl, tru_bl, iff_f, iff_t, leU_int, ltU_int, gtU_int, geU_int, subU_int, addU_int, eqU_int, neU_int, tuple_two, mkE_one, len_tup, len_lst, c1_one, c2_two, rd0, rdS, norm_d, dat_d, gFl_none, gRs_none, List.set_cons_zero, List.set_cons_succ, Bool.not_true, Bool.not_false, Bool.false_eq_true, ↓reduceIte, le, i1, i0, two, t]
      have hk' := hf.k
      rw [hab] at hk'
      refine drawZ d1 ⟨⟨l.z, l.fs, [b, a], l.ls⟩, rfl, hf.f, ⟨fun k hk => hk'.u k (by simp only [List.mem_cons, List.not_mem_nil, or_false] at hk ⊢; exact hk.symm), ?_⟩, by show 2 ≤ 3; decide⟩
      have hd := hk'.d
      simp only [Unl, List.pairwise_cons, List.mem_singleton, forall_eq, List.not_mem_nil, false_implies, implies_true, List.Pairwise.nil, and_true, and_self] at hd ⊢
      exact fun p => hd p.symm
    · have le : decide ((((l.us.map Lay.keyD).length : Nat) : Int) = 2) = false := decide_eq_false (by rw [List.length_map]; omega)
      obtain ⟨k0', kt, hk0⟩ := List.exists_cons_of_ne_nil l.keys_ne
      have ki : ∀ S, ixU (.d (.tup (l.keys.map Lay.keyD))) (.d (.int 0)) S = .ok (.d (Lay.keyD k0')) S := fun S => (LstU.tup (S := S)).ix (i := 0) (by rw [hk0]; rfl)
      have t : mkT [.d (.str l.z), .d (.tup (l.fs.map .str)), .d (.tup [Lay.keyD k0']), .d (.tup (l.ls.map Lay.refD))] S1 = .ok (.d (Lay.d ⟨l.z, l.fs, [k0'], l.ls⟩)) S1 := rfl
      simp -implicitDefEqProofs only [decide_eq_true k4, bind_ok, bind_err, bind_bad, fl_ok, fl_err, fl_bad, seq_nx, seq_rt, seq_err, seq_bk, seq_ct, seq_bad, bodyR_rt, bodyR_nx, bodyR_err, asB_bl, tru_bl, iff_f, iff_t, leU_int, ltU_int, gtU_int, geU_int, subU_int, addU_int, eqU_int, neU_int, tuple_two, mkE_one, len_tup, len_lst, c1_one, c2_two, rd0, rdS, norm_d, dat_d, gFl_none, gRs_none, List.set_cons_zero, List.set_cons_succ, Bool.not_true, Bool.not_false, Bool.false_eq_true, ↓reduceIte, le, keys_call, ki, one, t]
      have hk' := hf.lo.k.u k0' (by show k0' ∈ l.keys; rw [hk0]; simp)
      exact drawZ d1 ⟨⟨l.z, l.fs, [k0'], l.ls⟩, rfl, hf.f, .one hk', by show 1 ≤ 3; decide⟩
  simp -implicitDefEqProofs only [decide_eq_false k4, bind_ok, bind_err, bind_bad, fl_ok, fl_err, fl_bad, seq_nx, seq_rt, seq_err, seq_bk, seq_ct, seq_bad, bodyR_rt, bodyR_nx, bodyR_err, asB_bl, tru_bl, iff_f, iff_t, leU_int, ltU_int, gtU_int, geU_int, subU_int, addU_int, eqU_int, neU_int, tuple_two, mkE_one, len_tup, len_lst, c1_one, c2_two, rd0, rdS, norm_d, dat_d, gFl_none, gRs_none, List.set_cons_zero, List.set_cons_succ, Bool.not_true, Bool.not_false, Bool.false_eq_true, ↓reduceIte, t4 l]
  exact drawZ d1 ⟨l, rfl, hf⟩
end
end KL
set_option Elab.async false
set_option linter.all false
set_option maxRecDepth 100000
set_option maxHeartbeats 4000000
namespace KL
open PySem PySem.Spec PyProof.Rows L2 DL
open He (ga ma)
open TL (tl)
theorem idx_range : ∀ {fs : List Str}, fs.Nodup → fs.map (fun z => fs.idxOf z) = List.range fs.length := by
  intro fs h
  refine List.ext_getElem (by rw [List.length_map, List.length_range]) fun i h1 h2 => ?_
  rw [List.length_map] at h1
  rw [List.getElem_map, List.getElem_range]
  exact h.idxOf_getElem i h1
theorem rng_gd {n : Nat} (h : n ≤ 5) : GD (.lst ((List.range n).map fun i => D.int (i : Nat))) := by
  have : ∀ m ∈ [0, 1, 2, 3, 4, 5], GD (.lst ((List.range m).map fun i => D.int (i : Nat))) := fun m hm => by
    simp only [List.mem_cons, List.not_mem_nil, or_false] at hm
    rcases hm with rfl | rfl | rfl | rfl | rfl | rfl <;> exact SmD.gd (b := 1000) ⟨by decide +kernel, by decide +kernel, by decide +kernel⟩ (by decide)
  exact this n (by simp; omega)
theorem eqP_gd {l : Lo} (h : l.Ok) : GD (eqPart (layG (.str l.z) (l.fs.map .str) (l.ks.map Lay.keyD) (l.ls.map Lay.refD))) := by
  have hkl := h.kl
  refine WD.gd (b := (4253 + 2) * 4 + 3) (p := 4) (wd_tup (b := 4253) (p := 3) (m := 4) (fun d hd => ?_) (Nat.le_refl _) (by decide)) (by decide) (by decide)
  simp only [List.mem_cons, List.not_mem_nil, or_false] at hd
  rcases hd with rfl | rfl | rfl | rfl
  · exact (wd_nm h.f.z).mono (by decide) (by decide)
  · exact (wd_nms h.f.f h.f.fm).mono (by decide) (by decide)
  · exact (wd_keys h.f.f h.f.fm h.k.u (by omega)).mono (by decide) (by decide)
  · exact (wd_refs h.f.f h.f.fm h.f.r h.f.rm).mono (by decide) (by decide)
theorem eqv_tup (xs ys : List D) : PyData.eqv (D.tup xs).py (D.tup ys).py = PyData.eqvAll (pyAll xs) (pyAll ys) := rfl
theorem eqv_attr {z z' : Str} {fs fs' : List Str} {ks ks' : List (List Str)} {ls ls' : List (List Str × Str)} (h : ks ≠ []) (h' : ks' ≠ []) :
    PyData.eqv (eqPart (layG (.str z) (fs.map .str) (ks.map Lay.keyD) (ls.map Lay.refD))).py (eqPart (layG (.str z') (fs'.map .str) (ks'.map Lay.keyD) (ls'.map Lay.refD))).py = PyData.eqv (attrD z fs ks ls).py (attrD z' fs' ks' ls').py := by
  obtain ⟨k, kt, rfl⟩ := List.exists_cons_of_ne_nil h
  obtain ⟨k', kt', rfl⟩ := List.exists_cons_of_ne_nil h'
  show PyData.eqv (D.tup [.str z, .tup (fs.map .str), .tup ((k :: kt).map Lay.keyD), .tup (ls.map Lay.refD)]).py (D.tup [.str z', .tup (fs'.map .str), .tup ((k' :: kt').map Lay.keyD), .tup (ls'.map Lay.refD)]).py = PyData.eqv (D.tup [.str z, .tup (fs.map .str), Lay.keyD k, .tup ((k :: kt).map Lay.keyD), .tup (ls.map Lay.refD)]).py (D.tup [.str z', .tup (fs'.map .str), Lay.keyD k', .tup ((k' :: kt').map Lay.keyD), .tup (ls'.map Lay.refD)]).py
  simp only [eqv_tup, pyAll, PyData.eqvAll, List.map_cons]
  cases PyData.eqv (Lay.keyD k).py (Lay.keyD k').py <;> simp
theorem eqAny_lo {l m : Lo} (hl : l.Ok) (hm : m.Ok) (S : Store) : eqAny "Layout" (F2 leqF) (.d l.d) (.d m.d) S = .ok (.d (.bl (PyData.eqv (attrD l.z l.fs l.ks l.ls).py (attrD m.z m.fs m.ks m.ls).py))) S := by
  have ho : ∀ g, objU (.d (.obj "Layout" g)) S = some (("Layout" : Str), g.map fun p => (p.1, U.d p.2)) := fun _ => rfl
  have e : F2 leqF [.d l.d, .d m.d] S = .ok (.d (.bl (PyData.eqv (attrD l.z l.fs l.ks l.ls).py (attrD m.z m.fs m.ks m.ls).py))) S := by
    show pre _ _ = _
    rw [pre_pos ⟨_, _, _, _, _, _, _, _, rfl, rfl, (eqP_gd hl).ok, (eqP_gd hm).ok⟩, eqv_attr hl.k0 hm.k0]
  unfold eqAny eqOwnU
  unfold Lo.d layO at *
  simp only [ho, tyN, Option.isSome_none, Bool.false_eq_true, ↓reduceIte, e, noErr]
theorem eqAny_no {l : Lo} {x : D} (h : (tyN x).isSome = true) (S : Store) : eqAny "Layout" (F2 leqF) (.d l.d) (.d x) S = .ok (.d (.bl false)) S := by
  have ho : ∀ g, objU (.d (.obj "Layout" g)) S = some (("Layout" : Str), g.map fun p => (p.1, U.d p.2)) := fun _ => rfl
  have e : F2 leqF [.d l.d, .d x] S = .ok (.d (.bl false)) S := by
    cases x with
    | obj _ _ => cases h
    | _ =>
      show pre _ _ = _
      exact pre_pos ⟨⟨_, _, _, _, rfl⟩, h⟩
  unfold eqAny eqOwnU
  unfold Lo.d layO at *
  simp only [ho, h, ↓reduceIte, e, noErr]
def RightOk (f : Fn) : Prop := ∀ (n : Nat) (l : Lay) (S : Store), Bag S n → l.Ok 5 → ∃ S', f [.r n, .d l.d] S = .ok (.d (.bl true)) S' ∧ Drew n S S'
section
variable {P : Program} {w : World} {K : PySem.W.Frag} {mg : Str → Option Value} {base : Heap}
theorem sc_law_is_right : FnScope ["_law_bag_here", "_law_plain", "_law_made_here", "_law_places", "_law_column", "_law_turn", "_law_thing", "_law_other", "_law_twin"] ["_law_bag_here", "_law_plain"] (defScope s_law_is_right) := ⟨rfl, rfl, rfl, by decide +kernel, rfl, by decide +kernel, by decide +kernel⟩
theorem dk_right (T : Txt P K mg) : ∃ f, FM P w K mg base 7 "_law_is_right" ["_law_bag_here", "_law_plain"] f ∧ RightOk f := by
  obtain ⟨oddF, F_law_odd, hO⟩ := dk_odd (w := w) (base := base) T
  obtain ⟨madeF, F_law_made, hM⟩ := dk_made (w := w) (base := base) T
  obtain ⟨isitF, F_law_is_it, hI⟩ := dk_is_it (w := w) (base := base) T
  obtain ⟨nocF, F_law_no_column, hN⟩ := dk_no_column (w := w) (base := base) T
  obtain ⟨chF, F_law_changed, hC⟩ := dk_changed (w := w) (base := base) T
  obtain ⟨attrsF, F_law_attributes, hA1⟩ := dk_attrs (w := w) (base := base) T
  obtain ⟨plF, M_Layout_place, hPl⟩ := dk_placeM (w := w) (base := base) T
  have F_law_same : FM P w K mg base 1 "_law_same" ["_law_one", "_law_other"] (F2 sameF) := dk_same T
  have E_Layout := dk_leq (w := w) (base := base) T
  refine Exists.imp (fun f hf => ⟨hf.1, fun n l S b ho => ?_⟩) (okDraw (P := P) (w := w) (base := base) (k := 6) (fun us S => ∃ (n : Nat) (l : Lay), us = [.r n, .d l.d] ∧ l.Ok 5) (fun us S y => y = .bl true) T.F_law_is_right sc_law_is_right (fun _ _ _ _ _ _ us hl => match us, hl with | [_, _], _ => rfl) (fun cdv A outer s H E hA hr => (pdss_cons (pds_set (i := 2) sc_law_is_right.nd rfl (by first | exact Or.inl rfl | exact Or.inr rfl) (pd_call hA F_law_made (hr.mono (by decide)) (takes_of rfl rfl rfl rfl) (pda_cons (pd_pv 1 (pv 1)) pda_nil)))
  (pdss_cons (pds_if (pdt_not (pdt_truth (pd_call hA F_law_is_it (hr.mono (by decide)) (takes_of rfl rfl rfl rfl) (pda_cons (pd_pv 2 (pv 2)) (pda_cons (pd_pv 1 (pv 1)) pda_nil))))) (pdss_one (pds_ret pd_bl)) pdss_nil)
  (pdss_cons (pds_setLc (i := 3) (own := [("_law_column", 4)]) rfl sc_law_is_right.nd rfl rfl (sw_true rfl rfl rfl (by decide +kernel)) (pdi_any (pd_ix ixd (pd_pv 1 (pv 1)) pd_int)) (blkOk_by (own := [("_law_column", 4)]) (N := ["_law_bag_here", "_law_plain", "_law_made_here", "_law_places", "_law_column", "_law_turn", "_law_thing", "_law_other", "_law_twin"]) (sc := defScope s_law_is_right) (by decide +kernel)) (by decide) (fun _ _ _ _ _ => (pdg_name (i := 4) sc_law_is_right.nd rfl (by first | exact Or.inl rfl | exact Or.inr rfl))) (fun _ _ _ _ _ => pdts_nil) (fun _ _ _ _ _ => (pd_meth1 hA (pd_pv 2 (pv 2)) T.cls_Layout T.me_Layout_place M_Layout_place (hr.mono (by decide)) takes0 (pda_cons (pd_pv 4 (pv 4)) pda_nil))))
  (pdss_cons (pds_if (pdt_not (pdt_truth (pd_call hA F_law_same (hr.mono (by decide)) (takes_of rfl rfl rfl rfl) (pda_cons (pd_pv 3 (pv 3)) (pda_cons (pd_listRange rfl T.m_list T.m_range (pd_callB cd_len T.m_len (pda_cons (pd_ix ixd (pd_pv 1 (pv 1)) pd_int) pda_nil))) pda_nil))))) (pdss_one (pds_ret pd_bl)) pdss_nil)
  (pdss_cons (pds_for (passes_of rfl) rfl (pdi_range1 T.m_range (pda_cons pd_int pda_nil)) (pdg_name (i := 5) sc_law_is_right.nd rfl (by first | exact Or.inl rfl | exact Or.inr rfl)) (pdss_cons (pds_set (i := 6) sc_law_is_right.nd rfl (by first | exact Or.inl rfl | exact Or.inr rfl) (pd_call hA F_law_odd (hr.mono (by decide)) (takes_of rfl rfl rfl rfl) (pda_cons (pd_pv 0 (pv 0)) (pda_cons (pd_ix ixd (pd_ix ixd (pd_pv 1 (pv 1)) pd_int) pd_int) pda_nil))))
  (pdss_one (pds_if (PDW.pt (pdw_or (pdt_not (pdt_truth (pd_callB cd_isi T.m_isinstance (pda_cons (pd_pv 6 (pv 6)) (pda_cons (pd_ty (n := "str") T.m_str) pda_nil))))) (pdw_or1 (pdt_cmp (od_notin hr) (pd_pv 6 (pv 6)) (pd_ix ixd (pd_pv 1 (pv 1)) pd_int) (by rfl))))) (pdss_one (pds_if (pdt_not (pdt_truth (pd_call hA F_law_no_column (hr.mono (by decide)) (takes_of rfl rfl rfl rfl) (pda_cons (pd_pv 2 (pv 2)) (pda_cons (pd_pv 6 (pv 6)) pda_nil))))) (pdss_one (pds_ret pd_bl)) pdss_nil)) pdss_nil))))
  (pdss_cons (pds_set (i := 7) sc_law_is_right.nd rfl (by first | exact Or.inl rfl | exact Or.inr rfl) (pd_call hA F_law_changed (hr.mono (by decide)) (takes_of rfl rfl rfl rfl) (pda_cons (pd_pv 0 (pv 0)) (pda_cons (pd_pv 1 (pv 1)) pda_nil))))
  (pdss_cons (pds_set (i := 8) sc_law_is_right.nd rfl (by first | exact Or.inl rfl | exact Or.inr rfl) (pd_call hA F_law_made (hr.mono (by decide)) (takes_of rfl rfl rfl rfl) (pda_cons (pd_pv 7 (pv 7)) pda_nil)))
  (pdss_cons (pds_if (pdt_cmp (od_ne hr) (pd_cmp (od_eqAny hA T.eq_Layout E_Layout (hr.mono (by decide))) (pd_pv 2 (pv 2)) (pd_pv 8 (pv 8)) (nomark _)) (pd_cmp (od_eqAny hA T.eq_Layout E_Layout (hr.mono (by decide))) (pd_call hA F_law_attributes (hr.mono (by decide)) (takes_of rfl rfl rfl rfl) (pda_cons (pd_pv 1 (pv 1)) pda_nil)) (pd_call hA F_law_attributes (hr.mono (by decide)) (takes_of rfl rfl rfl rfl) (pda_cons (pd_pv 7 (pv 7)) pda_nil)) (nomark _)) (nomark _)) (pdss_one (pds_ret pd_bl)) pdss_nil)
  (pdss_cons (pds_if (PDW.pt (pdw_or (pdt_cmp (od_eqAny hA T.eq_Layout E_Layout (hr.mono (by decide))) (pd_pv 2 (pv 2)) (pd_ix ixd (pd_pv 1 (pv 1)) pd_int) (nomark _)) (pdw_or (pdt_cmp (od_eqAny hA T.eq_Layout E_Layout (hr.mono (by decide))) (pd_pv 2 (pv 2)) (pd_call hA F_law_attributes (hr.mono (by decide)) (takes_of rfl rfl rfl rfl) (pda_cons (pd_pv 1 (pv 1)) pda_nil)) (nomark _)) (pdw_or1 (pdt_cmp (od_eqAny hA T.eq_Layout E_Layout (hr.mono (by decide))) (pd_pv 2 (pv 2)) pd_non (nomark _)))))) (pdss_one (pds_ret pd_bl)) pdss_nil)
  (pdss_one (pds_ret (pd_and (pd_call hA F_law_is_it (hr.mono (by decide)) (takes_of rfl rfl rfl rfl) (pda_cons (pd_pv 2 (pv 2)) (pda_cons (pd_pv 1 (pv 1)) pda_nil))) (pd_one (pd_call hA F_law_is_it (hr.mono (by decide)) (takes_of rfl rfl rfl rfl) (pda_cons (pd_pv 8 (pv 8)) (pda_cons (pd_pv 7 (pv 7)) pda_nil))))))))))))))))) (fun us S hl hb hp => ?_))
  · obtain ⟨y, S', e, d, rfl⟩ := hf.2 [.r n, .d l.d] S rfl b ⟨n, l, rfl, ho⟩
    exact ⟨S', e, d⟩
  obtain ⟨n, l, rfl, ho⟩ := hp
  have hb : Bag S n := hb
  show DrawZ n S _ _
  rw [show startE (["_law_bag_here", "_law_plain", "_law_made_here", "_law_places", "_law_column", "_law_turn", "_law_thing", "_law_other", "_law_twin"] : List Str).length [U.r n, .d l.d] = [some (.r n), some (.d l.d), none, none, none, none, none, none, none] from rfl]
  have hf := ho.fit
  have hlo := hf.lo
  have x0 : ∀ S, ixU (.d l.d) (.d (.int 0)) S = .ok (.d (.str l.z)) S := fun S => rfl
  have x1 : ∀ S, ixU (.d l.d) (.d (.int 1)) S = .ok (.d (.tup (l.fs.map .str))) S := fun S => rfl
  have made : ∀ S, madeF [.d l.d] S = .ok (.d l.lo.d) S := fun S => hM l S hf
  have isit : ∀ S, isitF [.d l.lo.d, .d l.d] S = .ok (.d (.bl true)) S := fun S => hI l S hf
  simp -implicitDefEqProofs only [bind_ok, bind_err, bind_bad, fl_ok, fl_err, fl_bad, seq_nx, seq_rt, seq_err, seq_bk, seq_ct, seq_bad, bodyR_rt, bodyR_nx, bodyR_err, asB_bl, tru_bl, iff_f, iff_t, leU_int, ltU_int, gtU_int, geU_int, subU_int, addU_int, eqU_int, neU_int, tuple_two, mkE_one, len_tup, len_lst, c1_one, c2_two, rd0, rdS, norm_d, dat_d, gFl_none, gRs_none, List.set_cons_zero, List.set_cons_succ, Bool.not_true, Bool.not_false, Bool.false_eq_true, ↓reduceIte, x0, x1, made, isit]
  have mt1 : ∀ (r : Store → Res U) (S : Store), mthU "Layout" "place" (.d l.lo.d) S r = r S := fun r S => by
    have ho : objU (.d l.lo.d) S = some (("Layout" : Str), (layG (.str l.lo.z) (l.lo.fs.map .str) (l.lo.ks.map Lay.keyD) (l.lo.ls.map Lay.refD)).map fun p => (p.1, U.d p.2)) := rfl
    unfold mthU
    simp only [ho]
    rw [if_pos ⟨by simp, rfl⟩]
  have hfm := hf.f.fm
  have hlc : lcU none (fun u ρ S => Res.ok (List.set ρ 4 (some u)) S) (fun x S => Res.ok true S)
      (fun ρ S => (rdV ρ 2 S).bind fun u S => mthU (Str.ofString "Layout") (Str.ofString "place") u S fun S => ((rdV ρ 4 S).bind fun x S => Res.ok [x] S).bind fun us S => plF (u :: us) S)
      [some (U.r n), some (U.d l.d), some (U.d l.lo.d), none, none, none, none, none, none] ((l.fs.map D.str).map U.d) [] S = .ok ((l.fs.map fun z => D.int ((l.fs.idxOf z : Nat) : Int)).map U.d) S := by
    rw [List.map_map, lcU_of (g := none) trivial (U.d ∘ D.str) (fun z => U.d (D.int ((l.fs.idxOf z : Nat) : Int))) l.fs []]
    · rw [List.nil_append, List.map_map]; rfl
    · intro z hz
      refine ⟨_, rfl, ?_⟩
      have pl : plF [.d l.lo.d, .d (.str z)] S = .ok (.d (.int ((l.fs.idxOf z : Nat) : Int))) S := by
        rw [hPl (l.lo, .str z) S ⟨hlo, nice_str.mpr ⟨(hf.f.f z hz).asc, by have := (wd_nm (hf.f.f z hz)).n; exact (nice_str.mp this).2⟩⟩]
        show (if z ∈ l.fs then Ve.ok (.int ((l.fs.idxOf z : Nat) : Int)) else _).res S = _
        rw [if_pos hz]
        rfl
      simp -implicitDefEqProofs only [bind_ok, bind_err, bind_bad, fl_ok, fl_err, fl_bad, seq_nx, seq_rt, seq_err, seq_bk, seq_ct, seq_bad, bodyR_rt, bodyR_nx, bodyR_err, asB_bl, tru_bl, iff_f, iff_t, leU_int, ltU_int, gtU_int, geU_int, subU_int, addU_int, eqU_int, neU_int, tuple_two, mkE_one, len_tup, len_lst, c1_one, c2_two, rd0, rdS, norm_d, dat_d, gFl_none, gRs_none, List.set_cons_zero, List.set_cons_succ, Bool.not_true, Bool.not_false, Bool.false_eq_true, ↓reduceIte, Function.comp, mt1, pl]
    · show 0 + l.fs.length ≤ sizeLine
      exact sz10 (by omega)
  have hw : wipeE [some (U.r n), some (U.d l.d), some (U.d l.lo.d), none, none, none, none, none, none] (List.map (fun x => x.snd) [(Str.ofString "_law_column", 4)]) = [some (U.r n), some (U.d l.d), some (U.d l.lo.d), none, none, none, none, none, none] := rfl
  have hmk : mkL ((l.fs.map fun z => D.int ((l.fs.idxOf z : Nat) : Int)).map U.d) S = .ok (.d (.lst ((List.range l.fs.length).map fun i => D.int (i : Nat)))) S := by
    rw [mkL_d (by rw [List.length_map]; omega), ← idx_range hf.f.fd, List.map_map]
    rfl
  have hlr : ∀ S, lrU (.d (.int ((l.fs.length : Nat) : Int))) S = .ok (.d (.lst ((List.range l.fs.length).map fun i => D.int (i : Nat)))) S := fun S => if_pos ⟨by omega, by omega⟩
  have hit : iterU (U.d (D.tup (l.fs.map D.str))) S = .ok ⟨(l.fs.map D.str).map U.d, none⟩ S := rfl
  have hsm : ∀ S, F2 sameF [.d (.lst ((List.range l.fs.length).map fun i => D.int (i : Nat))), .d (.lst ((List.range l.fs.length).map fun i => D.int (i : Nat)))] S = .ok (.d (.bl true)) S := fun S => same_call (rng_gd (by omega)) S
  have h3 : ∀ S, range1 [.d (.int 3)] S = .ok ⟨rangeF 0 3, none⟩ S := fun S => range1_ok (i := 3) S (by decide)
  simp -implicitDefEqProofs only [bind_ok, bind_err, bind_bad, fl_ok, fl_err, fl_bad, seq_nx, seq_rt, seq_err, seq_bk, seq_ct, seq_bad, bodyR_rt, bodyR_nx, bodyR_err, asB_bl, tru_bl, iff_f, iff_t, leU_int, ltU_int, gtU_int, geU_int, subU_int, addU_int, eqU_int, neU_int, tuple_two, mkE_one, len_tup, len_lst, c1_one, c2_two, rd0, rdS, norm_d, dat_d, gFl_none, gRs_none, List.set_cons_zero, List.set_cons_succ, Bool.not_true, Bool.not_false, Bool.false_eq_true, ↓reduceIte, hit, hw, hlc, hmk, x1, List.length_map, hlr, hsm, h3]
  refine loop (K := fun f => DrawZ n S _ (bodyR (f.seq _))) (I := fun us ρ S' => ∃ (v5 v6 : Option U), Drew n S S' ∧
    ρ = [some (.r n), some (.d l.d), some (.d l.lo.d), some (.d (.lst ((List.range l.fs.length).map fun i => D.int (i : Nat)))), none, v5, v6, none, none]) ?_ ?_ ?_
  · rintro t us ρ S' ⟨v5, v6, d1, rfl⟩
    refine ⟨_, _, rfl, ?_⟩
    have b1 := d1.bag hb
    obtain ⟨z0, hz0⟩ : ∃ z0, l.fs[0]? = some z0 := by
      cases h : l.fs with
      | nil => exact absurd h hf.f.f0
      | cons a t => exact ⟨a, rfl⟩
    have i0 : ∀ S, ixU (.d (.tup (l.fs.map .str))) (.d (.int 0)) S = .ok (.d (.str z0)) S := fun S => (LstU.tup (S := S)).ix (i := 0) (by rw [List.getElem?_map, hz0]; rfl)
    obtain ⟨y, S2, e2, d2, hy⟩ := hO n z0 S' b1 (hf.f.f z0 (List.mem_of_getElem? hz0))
    simp -implicitDefEqProofs only [bind_ok, bind_err, bind_bad, fl_ok, fl_err, fl_bad, seq_nx, seq_rt, seq_err, seq_bk, seq_ct, seq_bad, bodyR_rt, bodyR_nx, bodyR_err, asB_bl, tru_bl, iff_f, iff_t, leU_int, ltU_int, gtU_int, geU_int, subU_int, addU_int, eqU_int, neU_int, tuple_two, mkE_one, len_tup, len_lst, c1_one, c2_two, rd0, rdS, norm_d, dat_d, gFl_none, gRs_none, List.set_cons_zero, List.set_cons_succ, Bool.not_true, Bool.not_false, Bool.false_eq_true, ↓reduceIte, x1, i0, b1.norm, e2]
    have fin : ∀ (q : Store), (∀ z, y = .str z → z ∉ l.fs) → nocF [.d l.lo.d, .d y] q = .ok (.d (.bl true)) q := fun q h => hN (l.lo, y) q ⟨hlo, hy, h⟩
    have hyn := hy.n
    have d12 := d1.trans d2
    cases y with
    | str z =>
      have hin : ∀ S, inU true (.d (.str z)) (.d (.tup (l.fs.map .str))) S = .ok (.d (.bl (inB true (decide (z ∈ l.fs))))) S := fun S => in_tup (nice_str.mp hyn).1 (fun z hz => (hf.f.f z hz).asc) S
      by_cases hz : z ∈ l.fs
      · simp -implicitDefEqProofs only [bind_ok, bind_err, bind_bad, fl_ok, fl_err, fl_bad, seq_nx, seq_rt, seq_err, seq_bk, seq_ct, seq_bad, bodyR_rt, bodyR_nx, bodyR_err, asB_bl, tru_bl, iff_f, iff_t, leU_int, ltU_int, gtU_int, geU_int, subU_int, addU_int, eqU_int, neU_int, tuple_two, mkE_one, len_tup, len_lst, c1_one, c2_two, rd0, rdS, norm_d, dat_d, gFl_none, gRs_none, List.set_cons_zero, List.set_cons_succ, Bool.not_true, Bool.not_false, Bool.false_eq_true, ↓reduceIte, isiU, isTy_str, x1, hin, inB, decide_eq_true hz]
        exact ⟨_, _, d12, rfl⟩
      · simp -implicitDefEqProofs only [bind_ok, bind_err, bind_bad, fl_ok, fl_err, fl_bad, seq_nx, seq_rt, seq_err, seq_bk, seq_ct, seq_bad, bodyR_rt, bodyR_nx, bodyR_err, asB_bl, tru_bl, iff_f, iff_t, leU_int, ltU_int, gtU_int, geU_int, subU_int, addU_int, eqU_int, neU_int, tuple_two, mkE_one, len_tup, len_lst, c1_one, c2_two, rd0, rdS, norm_d, dat_d, gFl_none, gRs_none, List.set_cons_zero, List.set_cons_succ, Bool.not_true, Bool.not_false, Bool.false_eq_true, ↓reduceIte, isiU, isTy_str, x1, hin, inB, decide_eq_false hz, fin S2 (fun z' e => by cases e; exact hz)]
        exact ⟨_, _, d12, rfl⟩
    | obj _ _ => cases hyn
    | ty _ => cases hyn
    | cls _ => cases hyn
    | _ =>
      simp -implicitDefEqProofs only [bind_ok, bind_err, bind_bad, fl_ok, fl_err, fl_bad, seq_nx, seq_rt, seq_err, seq_bk, seq_ct, seq_bad, bodyR_rt, bodyR_nx, bodyR_err, asB_bl, tru_bl, iff_f, iff_t, leU_int, ltU_int, gtU_int, geU_int, subU_int, addU_int, eqU_int, neU_int, tuple_two, mkE_one, len_tup, len_lst, c1_one, c2_two, rd0, rdS, norm_d, dat_d, gFl_none, gRs_none, List.set_cons_zero, List.set_cons_succ, Bool.not_true, Bool.not_false, Bool.false_eq_true, ↓reduceIte, isiU, isTy_str, fin S2 (fun _ e => nomatch e)]
      exact ⟨_, _, d12, rfl⟩
  · rintro ρ S' ⟨v5, v6, d1, rfl⟩
    have b1 := d1.bag hb
    obtain ⟨l', S2, e2, d2, hf'⟩ := hC n l S' b1 ho
    have made' : ∀ S, madeF [.d l'.d] S = .ok (.d l'.lo.d) S := fun S => hM l' S hf'
    have isit' : ∀ S, isitF [.d l'.lo.d, .d l'.d] S = .ok (.d (.bl true)) S := fun S => hI l' S hf'
    have at1 : ∀ S, attrsF [.d l.d] S = .ok (.d (attrD l.z l.fs l.keys l.ls)) S := fun S => hA1 l S trivial
    have at2 : ∀ S, attrsF [.d l'.d] S = .ok (.d (attrD l'.z l'.fs l'.keys l'.ls)) S := fun S => hA1 l' S trivial
    have q1 : ∀ S, eqAny "Layout" (F2 leqF) (.d l.lo.d) (.d l'.lo.d) S = .ok (.d (.bl (PyData.eqv (attrD l.z l.fs l.keys l.ls).py (attrD l'.z l'.fs l'.keys l'.ls).py))) S := fun S => eqAny_lo hlo hf'.lo S
    have q2 : ∀ S, eqAny "Layout" (F2 leqF) (.d (attrD l.z l.fs l.keys l.ls)) (.d (attrD l'.z l'.fs l'.keys l'.ls)) S = .ok (.d (.bl (PyData.eqv (attrD l.z l.fs l.keys l.ls).py (attrD l'.z l'.fs l'.keys l'.ls).py))) S := fun S => eqU_ok (lo_gd hlo).ok (lo_gd hf'.lo).ok S
    have q3 : ∀ (x : D) S, (tyN x).isSome = true → eqAny "Layout" (F2 leqF) (.d l.lo.d) (.d x) S = .ok (.d (.bl false)) S := fun x S h => eqAny_no h S
    have nb : ∀ (b : Bool) S, neU (.d (.bl b)) (.d (.bl b)) S = .ok (.d (.bl false)) S := fun b S => by cases b <;> rfl
    simp -implicitDefEqProofs only [bind_ok, bind_err, bind_bad, fl_ok, fl_err, fl_bad, seq_nx, seq_rt, seq_err, seq_bk, seq_ct, seq_bad, bodyR_rt, bodyR_nx, bodyR_err, asB_bl, tru_bl, iff_f, iff_t, leU_int, ltU_int, gtU_int, geU_int, subU_int, addU_int, eqU_int, neU_int, tuple_two, mkE_one, len_tup, len_lst, c1_one, c2_two, rd0, rdS, norm_d, dat_d, gFl_none, gRs_none, List.set_cons_zero, List.set_cons_succ, Bool.not_true, Bool.not_false, Bool.false_eq_true, ↓reduceIte, b1.norm, e2, made', isit', isit, at1, at2, q1, q2, nb, x0, q3 (.str l.z) _ rfl, q3 (attrD l.z l.fs l.keys l.ls) _ rfl, q3 .non _ rfl]
    exact drawZ (d1.trans d2) rfl
  · exact ⟨none, none, Drew.refl hb, rfl⟩
end
end KL
set_option Elab.async false
set_option linter.all false
set_option maxRecDepth 100000
set_option maxHeartbeats 4000000
namespace KL
open PySem PySem.Spec PyProof.Rows L2 DL
open He (ga ma)
open TL (tl)
theorem Lay.Ok.up {l : Lay} (h : l.Ok 5) : l.Ok 20 := ⟨h.z, h.f, h.f0, Nat.le_trans h.fm (by decide), h.fd, h.u, h.ud, h.um, h.r, h.rm⟩
theorem drew_pre {n : Nat} {A B S g : Store} (h : Drew n A B) (e : A = S ++ g) (hn : S.length ≤ n) : ∃ g', B = S ++ g' := by
  obtain ⟨c, _, rfl⟩ := h
  subst e
  exact ⟨_, List.set_append_right _ _ hn⟩
section
variable {P : Program} {w : World} {K : PySem.W.Frag} {mg : Str → Option Value} {base : Heap}
theorem sc_law : FnScope ["_law_script", "_law_at", "_law_bag_here", "_law_earlier", "_law_turn"] ["_law_script"] (defScope s_law) := ⟨rfl, rfl, rfl, by decide +kernel, rfl, by decide +kernel, by decide +kernel⟩
theorem dk_law (T : Txt P K mg) : FM P w K mg base 8 "law" ["_law_script"] (F1 lawF) := by
  obtain ⟨bagF, F_law_bag, hB⟩ := dk_bag (w := w) (base := base) T
  obtain ⟨takeF, F_law_take, hT⟩ := dk_take (w := w) (base := base) T
  obtain ⟨layoutF, F_law_layout, hL⟩ := dk_layout (w := w) (base := base) T
  obtain ⟨rightF, F_law_is_right, hR⟩ := dk_right (w := w) (base := base) T
  refine okM T.F_law sc_law (fun _ _ _ _ _ _ us hl => match us, hl with | [_], _ => rfl) F1.len (fun cdv A outer s H E hA hr => (pdss_cons (pds_for (passes_of rfl) rfl (pdi_range1 T.m_range (pda_cons (pd_callB (cd_max rfl) T.m_max (pda_cons pd_int (pda_cons (pd_callB (cd_min rfl) T.m_min (pda_cons pd_int (pda_cons (pd_callB cd_len T.m_len (pda_cons (pd_pv 0 (pv 0)) pda_nil)) pda_nil))) pda_nil))) pda_nil)) (pdg_name (i := 1) sc_law.nd rfl (by first | exact Or.inl rfl | exact Or.inr rfl)) (pdss_cons (pds_set (i := 2) sc_law.nd rfl (by first | exact Or.inl rfl | exact Or.inr rfl) (pd_call hA F_law_bag (hr.mono (by decide)) (takes_of rfl rfl rfl rfl) (pda_cons (pd_pv 0 (pv 0)) (pda_cons (pd_pv 1 (pv 1)) pda_nil))))
  (pdss_cons (pds_set (i := 3) sc_law.nd rfl (by first | exact Or.inl rfl | exact Or.inr rfl) (pd_lstM pda_nil))
  (pdss_cons (pds_for (passes_of rfl) rfl (pdi_range1 T.m_range (pda_cons (pd_call hA F_law_take (hr.mono (by decide)) (takes_of rfl rfl rfl rfl) (pda_cons (pd_pv 2 (pv 2)) (pda_cons pd_int pda_nil))) pda_nil)) (pdg_name (i := 4) sc_law.nd rfl (by first | exact Or.inl rfl | exact Or.inr rfl)) (pdss_one (pds_expr (pd_bm PySem.F.plainAttrs_list PySem.F.slot_list_append PySem.F.type_list_append md_append (pd_pv 3 (pv 3)) (pda_cons (pd_call hA F_law_layout (hr.mono (by decide)) (takes_of rfl rfl rfl rfl) (pda_cons (pd_pv 2 (pv 2)) (pda_cons (pd_pv 3 (pv 3)) (pda_cons pd_int pda_nil)))) pda_nil)))))
  (pdss_one (pds_if (pdt_not (pdt_truth (pd_call hA F_law_is_right (hr.mono (by decide)) (takes_of rfl rfl rfl rfl) (pda_cons (pd_pv 2 (pv 2)) (pda_cons (pd_call hA F_law_layout (hr.mono (by decide)) (takes_of rfl rfl rfl rfl) (pda_cons (pd_pv 2 (pv 2)) (pda_cons (pd_pv 3 (pv 3)) (pda_cons pd_int pda_nil)))) pda_nil))))) (pdss_one (pds_ret pd_bl)) pdss_nil))))))
  (pdss_one (pds_ret pd_bl)))) (fun us S hl => ?_)
  match us, hl with
  | [u], _ =>
    show Refines S (lawF u S) _
    unfold lawF
    split
    · rename_i ds _
      refine pre_ref fun ⟨is, hi⟩ => ?_
      subst hi
      rw [show startE (["_law_script", "_law_at", "_law_bag_here", "_law_earlier", "_law_turn"] : List Str).length [U.d (.lst (is.map .int))] = [some (.d (.lst (is.map .int))), none, none, none, none] from rfl]
      have hmin : ∀ S, min2U (.d (.int 4)) (.d (.int ((is.length : Nat) : Int))) S = .ok (.d (.int (if ((is.length : Nat) : Int) < 4 then ((is.length : Nat) : Int) else 4))) S := fun S => rfl
      obtain ⟨m, hm, hm4⟩ : ∃ m : Nat, (if (if ((is.length : Nat) : Int) < 4 then ((is.length : Nat) : Int) else 4) > 1 then (if ((is.length : Nat) : Int) < 4 then ((is.length : Nat) : Int) else 4) else 1) = (m : Int) ∧ m ≤ 4 := by
        by_cases h : ((is.length : Nat) : Int) < 4
        · rw [if_pos h]
          by_cases h' : ((is.length : Nat) : Int) > 1
          · exact ⟨is.length, if_pos h', by omega⟩
          · exact ⟨1, if_neg h', by decide⟩
        · exact ⟨4, by rw [if_neg h]; rfl, by decide⟩
      have hmax : ∀ S, max2U (.d (.int 1)) (.d (.int (if ((is.length : Nat) : Int) < 4 then ((is.length : Nat) : Int) else 4))) S = .ok (.d (.int (m : Int))) S := fun S => by
        show Res.ok (U.d (.int _)) S = _
        rw [hm]
      have hrg : ∀ (m : Nat) (S : Store), m ≤ 1000 → range1 [.d (.int (m : Int))] S = .ok ⟨rangeF 0 m, none⟩ S := fun m S h => range1_ok S (by omega)
      simp -implicitDefEqProofs only [bind_ok, bind_err, bind_bad, fl_ok, fl_err, fl_bad, seq_nx, seq_rt, seq_err, seq_bk, seq_ct, seq_bad, bodyR_rt, bodyR_nx, bodyR_err, asB_bl, tru_bl, iff_f, iff_t, leU_int, ltU_int, gtU_int, geU_int, subU_int, addU_int, eqU_int, neU_int, tuple_two, mkE_one, len_tup, len_lst, c1_one, c2_two, rd0, rdS, norm_d, dat_d, gFl_none, gRs_none, List.set_cons_zero, List.set_cons_succ, Bool.not_true, Bool.not_false, Bool.false_eq_true, ↓reduceIte, List.length_map, hmin, hmax, hrg m _ (by omega)]
      refine loop (K := fun f => Refines S _ (bodyR (f.seq _))) (I := fun us ρ S' => ∃ (g : Store) (i : Nat) (v1 v2 v3 v4 : Option U), S' = S ++ g ∧ us = (List.range' i (m - i)).map (fun j => U.d (.int (0 + (j : Nat)))) ∧ i ≤ m ∧
        ρ = [some (.d (.lst (is.map .int))), v1, v2, v3, v4]) ?_ ?_ ?_
      · rintro t us ρ S' ⟨g, i, v1, v2, v3, v4, rfl, hus, him, rfl⟩
        have hi' : i < m := by
          rcases Nat.lt_or_ge i m with h | h
          · exact h
          · rw [show m - i = 0 by omega] at hus; cases hus
        rw [show m - i = (m - (i + 1)) + 1 by omega, List.range'_succ, List.map_cons] at hus
        simp only [List.cons.injEq] at hus
        obtain ⟨rfl, rfl⟩ := hus
        refine ⟨_, _, rfl, ?_⟩
        obtain ⟨c, e1, hc⟩ := hB is i (S ++ g) (by omega)
        have hz : (0 : Int) + ((i : Nat) : Int) = ((i : Nat) : Int) := by omega
        have hb : Bag (S ++ g ++ [c]) (S ++ g).length := ⟨c, at_new _ _, hc⟩
        have hmk : mkM [] (S ++ g ++ [c]) = .ok (.r (S ++ g ++ [c]).length) (S ++ g ++ [c] ++ [.lst []]) := if_pos (Nat.zero_le _)
        obtain ⟨cn, S1', e2, d1', hcn⟩ := hT (S ++ g).length 3 (S ++ g ++ [c] ++ [.lst []]) hb.app (by decide) (by decide)
        obtain ⟨S1, rfl, d1⟩ := d1'.split hb
        simp -implicitDefEqProofs only [bind_ok, bind_err, bind_bad, fl_ok, fl_err, fl_bad, seq_nx, seq_rt, seq_err, seq_bk, seq_ct, seq_bad, bodyR_rt, bodyR_nx, bodyR_err, asB_bl, tru_bl, iff_f, iff_t, leU_int, ltU_int, gtU_int, geU_int, subU_int, addU_int, eqU_int, neU_int, tuple_two, mkE_one, len_tup, len_lst, c1_one, c2_two, rd0, rdS, norm_d, dat_d, gFl_none, gRs_none, List.set_cons_zero, List.set_cons_succ, Bool.not_true, Bool.not_false, Bool.false_eq_true, ↓reduceIte, hz, e1, hmk, hb.app.norm, e2, hrg cn _ (by omega)]
        generalize hS0 : S ++ g ++ [c] = S0 at *
        have l0 : S0.length = (S ++ g).length + 1 := by rw [← hS0, List.length_append]; rfl
        generalize hfor : forU none _ _ (rangeF 0 cn) _ _ = fl
        obtain ⟨S2, ls, v4', d2, hll, hok, hfl⟩ : ∃ (S2 : Store) (ls : List Lay) (v4' : Option U), Drew (S ++ g).length S0 S2 ∧ ls.length ≤ 3 ∧ (∀ l ∈ ls, l.Ok 5) ∧ fl = .nx [some (.d (.lst (is.map .int))), some (.d (.int ((i : Nat) : Int))), some (.r (S ++ g).length), some (.r S0.length), v4'] (S2 ++ [.lst ((ls.map Lay.d).map .d)]) := by
          rw [← hfor]
          refine loop (K := fun f => ∃ (S2 : Store) (ls : List Lay) (v4' : Option U), Drew (S ++ g).length S0 S2 ∧ ls.length ≤ 3 ∧ (∀ l ∈ ls, l.Ok 5) ∧ f = .nx [some (.d (.lst (is.map .int))), some (.d (.int ((i : Nat) : Int))), some (.r (S ++ g).length), some (.r S0.length), v4'] (S2 ++ [.lst ((ls.map Lay.d).map .d)]))
            (I := fun us ρ S' => ∃ (S2 : Store) (ls : List Lay) (v4 : Option U), Drew (S ++ g).length S0 S2 ∧ us.length + ls.length ≤ 3 ∧ (∀ l ∈ ls, l.Ok 5) ∧ S' = S2 ++ [.lst ((ls.map Lay.d).map .d)] ∧ ρ = [some (.d (.lst (is.map .int))), some (.d (.int ((i : Nat) : Int))), some (.r (S ++ g).length), some (.r S0.length), v4]) ?_ ?_ ?_
          · rintro t us ρ S' ⟨S2, ls, v4, d2, hll, hok, rfl, rfl⟩
            refine ⟨_, _, rfl, ?_⟩
            rw [List.length_cons] at hll
            have b2 := d2.bag hb
            have hcel : (S2 ++ [Cell.lst ((ls.map Lay.d).map .d)])[S0.length]? = some (.lst ((ls.map Lay.d).map .d)) := by rw [← d2.len]; exact at_new _ _
            have hne : U.r S0.length ≠ .r (S ++ g).length := fun e => absurd (U.r.inj e) (by omega)
            obtain ⟨l, S3', e3, d3', ho, _⟩ := hL (S ++ g).length (.r S0.length) ls 5 (S2 ++ [.lst ((ls.map Lay.d).map .d)]) b2.app (.cell hcel) hne (by omega) (fun l hl => (hok l hl).up) (by decide) (by decide)
            obtain ⟨S3, rfl, d3⟩ := d3'.split b2
            have e3 : layoutF [.r (S ++ g).length, .r S0.length, .d (.int 5)] (S2 ++ [.lst ((ls.map Lay.d).map .d)]) = _ := e3
            have l3 : S3.length = S0.length := by rw [d3.len, d2.len]
            have hty : tyU "list" (.r S0.length) (S2 ++ [.lst ((ls.map Lay.d).map .d)]) = true := by simp only [tyU, hcel]; rfl
            have hap : appU (.r S0.length) [.d l.d] (S3 ++ [.lst ((ls.map Lay.d).map .d)]) = .ok (.d .non) (S3 ++ [.lst (((ls ++ [l]).map Lay.d).map .d)]) := by
              simp only [appU, cellL, ← l3, at_new, List.length_map]
              rw [if_pos (show ls.length < sizeLine from sz5l (by omega)), set_new, List.map_append, List.map_append]
              rfl
            simp -implicitDefEqProofs only [bind_ok, bind_err, bind_bad, fl_ok, fl_err, fl_bad, seq_nx, seq_rt, seq_err, seq_bk, seq_ct, seq_bad, bodyR_rt, bodyR_nx, bodyR_err, asB_bl, tru_bl, iff_f, iff_t, leU_int, ltU_int, gtU_int, geU_int, subU_int, addU_int, eqU_int, neU_int, tuple_two, mkE_one, len_tup, len_lst, c1_one, c2_two, rd0, rdS, norm_d, dat_d, gFl_none, gRs_none, List.set_cons_zero, List.set_cons_succ, Bool.not_true, Bool.not_false, Bool.false_eq_true, ↓reduceIte, norm_lst hcel, hty, b2.app.norm, e3, hap]
            refine ⟨S3, ls ++ [l], _, d2.trans d3, by rw [List.length_append]; show _ + (_ + 1) ≤ _; omega, fun q hq => ?_, rfl, rfl⟩
            rcases List.mem_append.mp hq with h | h
            · exact hok q h
            · obtain rfl := List.mem_singleton.mp h; exact ho
          · rintro ρ S' ⟨S2, ls, v4, d2, hll, hok, rfl, rfl⟩
            exact ⟨S2, ls, v4, d2, by have : 0 + ls.length ≤ 3 := hll; omega, hok, rfl⟩
          · exact ⟨S1, [], _, d1, by rw [rangeF, List.length_map, List.length_range]; show cn + 0 ≤ 3; omega, (fun _ h => nomatch h), rfl, rfl⟩
        subst hfl
        have b2 := d2.bag hb
        have hcel : (S2 ++ [Cell.lst ((ls.map Lay.d).map .d)])[S0.length]? = some (.lst ((ls.map Lay.d).map .d)) := by rw [← d2.len]; exact at_new _ _
        have hne : U.r S0.length ≠ .r (S ++ g).length := fun e => absurd (U.r.inj e) (by omega)
        obtain ⟨l, S3', e3, d3', ho, _⟩ := hL (S ++ g).length (.r S0.length) ls 5 (S2 ++ [.lst ((ls.map Lay.d).map .d)]) b2.app (.cell hcel) hne (by omega) (fun l hl => (hok l hl).up) (by decide) (by decide)
        have e3 : layoutF [.r (S ++ g).length, .r S0.length, .d (.int 5)] (S2 ++ [.lst ((ls.map Lay.d).map .d)]) = _ := e3
        have b3 := d3'.bag b2.app
        obtain ⟨S4, e4, d4⟩ := hR (S ++ g).length l S3' b3 ho
        simp -implicitDefEqProofs only [bind_ok, bind_err, bind_bad, fl_ok, fl_err, fl_bad, seq_nx, seq_rt, seq_err, seq_bk, seq_ct, seq_bad, bodyR_rt, bodyR_nx, bodyR_err, asB_bl, tru_bl, iff_f, iff_t, leU_int, ltU_int, gtU_int, geU_int, subU_int, addU_int, eqU_int, neU_int, tuple_two, mkE_one, len_tup, len_lst, c1_one, c2_two, rd0, rdS, norm_d, dat_d, gFl_none, gRs_none, List.set_cons_zero, List.set_cons_succ, Bool.not_true, Bool.not_false, Bool.false_eq_true, ↓reduceIte, b2.app.norm, norm_lst hcel, e3, e4]
        have hle : S.length ≤ (S ++ g).length := by rw [List.length_append]; omega
        obtain ⟨g2, hg2⟩ := drew_pre d2 (S := S) (g := g ++ [c]) (by rw [← hS0, List.append_assoc]) hle
        obtain ⟨g3, hg3⟩ := drew_pre d3' (S := S) (g := g2 ++ [.lst ((ls.map Lay.d).map .d)]) (by rw [hg2, List.append_assoc]) hle
        obtain ⟨g4, hg4⟩ := drew_pre d4 hg3 hle
        exact ⟨g4, i + 1, _, _, _, _, hg4, rfl, by omega, rfl⟩
      · rintro ρ S' ⟨g, i, v1, v2, v3, v4, rfl, hus, him, rfl⟩
        simp only [bind_ok, bind_err, bind_bad, fl_ok, fl_err, fl_bad, seq_nx, seq_rt, seq_err, seq_bk, seq_ct, seq_bad, bodyR_rt, bodyR_nx, bodyR_err, asB_bl, tru_bl, iff_f, iff_t, leU_int, ltU_int, gtU_int, geU_int, subU_int, addU_int, eqU_int, neU_int, tuple_two, mkE_one, len_tup, len_lst, c1_one, c2_two, rd0, rdS, norm_d, dat_d, gFl_none, gRs_none, List.set_cons_zero, List.set_cons_succ, Bool.not_true, Bool.not_false, Bool.false_eq_true, ↓reduceIte]
        exact .ok g (Shr.refl S) trivial
      · exact ⟨[], 0, none, none, none, none, (List.append_nil S).symm, by rw [rangeF, List.range_eq_range']; rfl, Nat.zero_le _, rfl⟩
    · exact .bad _
end
end KL
set_option Elab.async false
set_option linter.all false
set_option maxRecDepth 100000
set_option maxHeartbeats 0
namespace KL
open PySem PySem.Spec PyProof.Rows L2
open He (ga ma)
def fa0 : List WH.Chk := [WH.cFree "all", WH.cFree "enumerate", WH.cFree "range", WH.cFree "len", WH.cFree "tuple", WH.cFree "abs", WH.cFree "int", WH.cFree "list", WH.cFree "max", WH.cFree "isinstance", WH.cFree "str", WH.cFree "set", WH.cFree "sorted", WH.cFree "repr", WH.cFree "min", WH.cFa (.str "LETTERS" "abcdefghijklmnopqrstuvwxyz"), WH.cFa (.int "MOST_LETTERS" 8), WH.cFa (.int "MOST_COLUMNS" 5), WH.cFa (.int "MOST_REFERENCES" 2), WH.cGlo "WhichError", WH.cGlo "Layout", WH.cExm errN, WH.cFnd errN errFs, WH.cFa (.cls "Layout"), WH.cFa (.mkr "Layout"), WH.cFa (.noat "Layout" "name"), WH.cFa (.noat "Layout" "columns"), WH.cFa (.noat "Layout" "all_keys"), WH.cFa (.noat "Layout" "key"), WH.cFa (.noat "Layout" "refers")]
def fa1 : List WH.Chk := [WH.cFa (.meth "Layout" "place"), WH.cFa (.meth "Layout" "__add__"), WH.cFa (.meth "Layout" "__eq__"), WH.cPlus "Layout", WH.cEq "Layout", WH.cIsi "Layout", WH.cEmp "Layout" "keys", WH.cEmp "Layout" "refers", WH.cGlo "place_in", WH.cGlo "is_name", WH.cGlo "first_twice", WH.cGlo "are_columns", WH.cGlo "is_reference", WH.cGlo "_law_bag", WH.cGlo "_law_take", WH.cGlo "_law_of", WH.cGlo "_law_picked", WH.cGlo "_law_name", WH.cGlo "_law_keys", WH.cGlo "_law_layout", WH.cGlo "_law_odd", WH.cGlo "_law_same", WH.cGlo "_law_made", WH.cGlo "_law_attributes", WH.cGlo "_law_is_it", WH.cGlo "_law_changed", WH.cGlo "_law_no_column", WH.cGlo "_law_is_right", WH.cGlo "law"]
def fa : List WH.Chk := fa0 ++ fa1
def fn0 : List He5.DefA := [WH.mkI "Layout" s_Layout___init__ ["keys", "refers"], WH.mkM "Layout" "place" "Layout.place" s_Layout_place, WH.mkM "Layout" "__add__" "Layout.__add__" s_Layout___add__, WH.mkM "Layout" "__eq__" "Layout.__eq__" s_Layout___eq__, WH.mkD "place_in" s_place_in, WH.mkD "is_name" s_is_name, WH.mkD "first_twice" s_first_twice, WH.mkD "are_columns" s_are_columns, WH.mkD "is_reference" s_is_reference, WH.mkD "_law_bag" s_law_bag, WH.mkD "_law_take" s_law_take, WH.mkD "_law_of" s_law_of, WH.mkD "_law_picked" s_law_picked, WH.mkD "_law_name" s_law_name, WH.mkD "_law_keys" s_law_keys, WH.mkD "_law_layout" s_law_layout, WH.mkD "_law_odd" s_law_odd, WH.mkD "_law_same" s_law_same, WH.mkD "_law_made" s_law_made, WH.mkD "_law_attributes" s_law_attributes, WH.mkD "_law_is_it" s_law_is_it, WH.mkD "_law_changed" s_law_changed, WH.mkD "_law_no_column" s_law_no_column, WH.mkD "_law_is_right" s_law_is_right, WH.mkD "law" s_law]
def fn : List He5.DefA := fn0
def er0 : List WH.ErN := [⟨"BadName", ["name"], inClass (top 3) 0⟩, ⟨"Twice", ["name"], inClass (top 4) 0⟩, ⟨"BadKey", ["index"], inClass (top 5) 0⟩, ⟨"BadReference", ["index"], inClass (top 6) 0⟩, ⟨"NoColumn", ["column"], inClass (top 7) 0⟩, ⟨"TooMany", ["limit"], inClass (top 8) 0⟩]
def er : List WH.ErN := er0
def loose0 : List Str := ["_wall", "WhichError", "BadName", "Twice", "BadKey", "BadReference", "NoColumn", "TooMany", "place_in", "is_name", "first_twice", "are_columns", "is_reference", "Layout", "_law_bag", "_law_take", "_law_of", "_law_picked", "_law_name", "_law_keys", "_law_layout", "_law_odd", "_law_same", "_law_made", "_law_attributes", "_law_is_it", "_law_changed", "_law_no_column", "_law_is_right", "LETTERS"]
def loose1 : List Str := ["MOST_LETTERS", "MOST_COLUMNS", "MOST_REFERENCES"]
def loose : List Str := loose0 ++ loose1
abbrev R : PySem.W.OpenRow := PySem.W.OpenLaw.row PySem.Challenge.rw_whichmatch_k02_layouts_made
abbrev hk : PySem.W.Hook := WH.hookN R.prog 5 fa fn er
def ob (s : PySem.W.SharedT) : WH.AlN := WH.obsNG R.prog 5 fa fn er (HandSHeadRun.getT s)
theorem ob_eq (s : PySem.W.SharedT) : ob s = hk.obs s.abs := WH.obsNG_eq (HandSHeadRun.getT_eq s)
theorem run (w : World) : HandSHeadRun.RunEq R (PySem.W.view R.prog [37]) hk ob 100000 loose w := by
  intro os
  kernel_rfl
theorem fl_name : WH.FlOk ["name"] := ⟨.inr (.inl ⟨_, rfl⟩), rfl, rfl, rfl, by decide +kernel, by decide +kernel, fun q0 qs hq _ _ _ _ _ _ _ _ _ _ _ us hu => match qs, hq, us, hu with | [_], _, [_], _ => rfl⟩
theorem fl_index : WH.FlOk ["index"] := ⟨.inr (.inl ⟨_, rfl⟩), rfl, rfl, rfl, by decide +kernel, by decide +kernel, fun q0 qs hq _ _ _ _ _ _ _ _ _ _ _ us hu => match qs, hq, us, hu with | [_], _, [_], _ => rfl⟩
theorem fl_column : WH.FlOk ["column"] := ⟨.inr (.inl ⟨_, rfl⟩), rfl, rfl, rfl, by decide +kernel, by decide +kernel, fun q0 qs hq _ _ _ _ _ _ _ _ _ _ _ us hu => match qs, hq, us, hu with | [_], _, [_], _ => rfl⟩
theorem fl_limit : WH.FlOk ["limit"] := ⟨.inr (.inl ⟨_, rfl⟩), rfl, rfl, rfl, by decide +kernel, by decide +kernel, fun q0 qs hq _ _ _ _ _ _ _ _ _ _ _ us hu => match qs, hq, us, hu with | [_], _, [_], _ => rfl⟩
theorem st_BadName : WH.StOk ["name"] (inClass (top 3) 0) := ⟨by kernel_rfl, by kernel_rfl, by kernel_rfl, by kernel_rfl, WH.a0 (inClass (top 3) 0), WH.aqs (inClass (top 3) 0), by kernel_rfl, by kernel_rfl⟩
theorem st_Twice : WH.StOk ["name"] (inClass (top 4) 0) := ⟨by kernel_rfl, by kernel_rfl, by kernel_rfl, by kernel_rfl, WH.a0 (inClass (top 4) 0), WH.aqs (inClass (top 4) 0), by kernel_rfl, by kernel_rfl⟩
theorem st_BadKey : WH.StOk ["index"] (inClass (top 5) 0) := ⟨by kernel_rfl, by kernel_rfl, by kernel_rfl, by kernel_rfl, WH.a0 (inClass (top 5) 0), WH.aqs (inClass (top 5) 0), by kernel_rfl, by kernel_rfl⟩
theorem st_BadReference : WH.StOk ["index"] (inClass (top 6) 0) := ⟨by kernel_rfl, by kernel_rfl, by kernel_rfl, by kernel_rfl, WH.a0 (inClass (top 6) 0), WH.aqs (inClass (top 6) 0), by kernel_rfl, by kernel_rfl⟩
theorem st_NoColumn : WH.StOk ["column"] (inClass (top 7) 0) := ⟨by kernel_rfl, by kernel_rfl, by kernel_rfl, by kernel_rfl, WH.a0 (inClass (top 7) 0), WH.aqs (inClass (top 7) 0), by kernel_rfl, by kernel_rfl⟩
theorem st_TooMany : WH.StOk ["limit"] (inClass (top 8) 0) := ⟨by kernel_rfl, by kernel_rfl, by kernel_rfl, by kernel_rfl, WH.a0 (inClass (top 8) 0), WH.aqs (inClass (top 8) 0), by kernel_rfl, by kernel_rfl⟩
theorem txt_of {K : PySem.W.Frag} {h : Heap} {mg : Str → Option Value} (X : K.In h) (G : h.Ns mainGlobals mg) (c : WH.SaysN R.prog fa fn er K) : Txt R.prog K mg :=
  ⟨WH.free_ok X G (c.fact 0),
   WH.free_ok X G (c.fact 1),
   WH.free_ok X G (c.fact 2),
   WH.free_ok X G (c.fact 3),
   WH.free_ok X G (c.fact 4),
   WH.free_ok X G (c.fact 5),
   WH.free_ok X G (c.fact 6),
   WH.free_ok X G (c.fact 7),
   WH.free_ok X G (c.fact 8),
   WH.free_ok X G (c.fact 9),
   WH.free_ok X G (c.fact 10),
   WH.free_ok X G (c.fact 11),
   WH.free_ok X G (c.fact 12),
   WH.free_ok X G (c.fact 13),
   WH.free_ok X G (c.fact 14),
   (by obtain ⟨t, e⟩ := He.str_ok X G (c.fact 15); exact ⟨_, e, ⟨t, rfl⟩⟩),
   (by obtain ⟨t, e⟩ := He.int_ok X G (c.fact 16); exact ⟨_, e, ⟨t, rfl⟩⟩),
   (by obtain ⟨t, e⟩ := He.int_ok X G (c.fact 17); exact ⟨_, e, ⟨t, rfl⟩⟩),
   (by obtain ⟨t, e⟩ := He.int_ok X G (c.fact 18); exact ⟨_, e, ⟨t, rfl⟩⟩),
   WH.glo_ok X G (c.fact 19),
   WH.glo_ok X G (c.fact 20),
   (let h := c.err 0; WH.ErN.txt2 X G h st_BadName fl_name),
   (let h := c.err 1; WH.ErN.txt2 X G h st_Twice fl_name),
   (let h := c.err 2; WH.ErN.txt2 X G h st_BadKey fl_index),
   (let h := c.err 3; WH.ErN.txt2 X G h st_BadReference fl_index),
   (let h := c.err 4; WH.ErN.txt2 X G h st_NoColumn fl_column),
   (let h := c.err 5; WH.ErN.txt2 X G h st_TooMany fl_limit),
   WH.one_of (let h := c.err 0; WH.ErN.txt2 X G h st_BadName fl_name) (by decide),
   WH.one_of (let h := c.err 1; WH.ErN.txt2 X G h st_Twice fl_name) (by decide),
   WH.one_of (let h := c.err 2; WH.ErN.txt2 X G h st_BadKey fl_index) (by decide),
   WH.one_of (let h := c.err 3; WH.ErN.txt2 X G h st_BadReference fl_index) (by decide),
   WH.one_of (let h := c.err 4; WH.ErN.txt2 X G h st_NoColumn fl_column) (by decide),
   WH.one_of (let h := c.err 5; WH.ErN.txt2 X G h st_TooMany fl_limit) (by decide),
   WH.exm_ok (c.fact 21),
   WH.exmW_ok (c.fact 21),
   (fun x hx => by simp only [errN, List.mem_cons, List.not_mem_nil, or_false] at hx; rcases hx with rfl | rfl | rfl | rfl | rfl | rfl <;> first | exact (let h := c.err 0; WH.ErN.txt2 X G h st_BadName fl_name).xf | exact (let h := c.err 1; WH.ErN.txt2 X G h st_Twice fl_name).xf | exact (let h := c.err 2; WH.ErN.txt2 X G h st_BadKey fl_index).xf | exact (let h := c.err 3; WH.ErN.txt2 X G h st_BadReference fl_index).xf | exact (let h := c.err 4; WH.ErN.txt2 X G h st_NoColumn fl_column).xf | exact (let h := c.err 5; WH.ErN.txt2 X G h st_TooMany fl_limit).xf),
   WH.fnd_ok (c.fact 22),
   He.cls_ok (c.fact 23),
   He.mkr_ok (c.fact 24),
   He.noat_ok (c.fact 25),
   He.noat_ok (c.fact 26),
   He.noat_ok (c.fact 27),
   He.noat_ok (c.fact 28),
   He.noat_ok (c.fact 29),
   (c.def_ 0),
   He.meth_ok (c.fact 30),
   (by obtain ⟨fd, h⟩ := c.def_ 1; exact ⟨fd, He5.fun_of h⟩),
   He.meth_ok (c.fact 31),
   (by obtain ⟨fd, h⟩ := c.def_ 2; exact ⟨fd, He5.fun_of h⟩),
   He.meth_ok (c.fact 32),
   (by obtain ⟨fd, h⟩ := c.def_ 3; exact ⟨fd, He5.fun_of h⟩),
   WH.plus_ok (c.fact 33) (He.meth_ok (c.fact 31)),
   WH.eq_ok (c.fact 34) (He.meth_ok (c.fact 32)),
   WH.isi_ok (c.fact 35) (He.cls_ok (c.fact 23)),
   WH.emp_ok (c.fact 36),
   WH.emp_ok (c.fact 37),
   (by obtain ⟨fd, h⟩ := c.def_ 4; exact ⟨fd, He5.fun_of h, WH.glo_ok X G (c.fact 38)⟩),
   (by obtain ⟨fd, h⟩ := c.def_ 5; exact ⟨fd, He5.fun_of h, WH.glo_ok X G (c.fact 39)⟩),
   (by obtain ⟨fd, h⟩ := c.def_ 6; exact ⟨fd, He5.fun_of h, WH.glo_ok X G (c.fact 40)⟩),
   (by obtain ⟨fd, h⟩ := c.def_ 7; exact ⟨fd, He5.fun_of h, WH.glo_ok X G (c.fact 41)⟩),
   (by obtain ⟨fd, h⟩ := c.def_ 8; exact ⟨fd, He5.fun_of h, WH.glo_ok X G (c.fact 42)⟩),
   (by obtain ⟨fd, h⟩ := c.def_ 9; exact ⟨fd, He5.fun_of h, WH.glo_ok X G (c.fact 43)⟩),
   (by obtain ⟨fd, h⟩ := c.def_ 10; exact ⟨fd, He5.fun_of h, WH.glo_ok X G (c.fact 44)⟩),
   (by obtain ⟨fd, h⟩ := c.def_ 11; exact ⟨fd, He5.fun_of h, WH.glo_ok X G (c.fact 45)⟩),
   (by obtain ⟨fd, h⟩ := c.def_ 12; exact ⟨fd, He5.fun_of h, WH.glo_ok X G (c.fact 46)⟩),
   (by obtain ⟨fd, h⟩ := c.def_ 13; exact ⟨fd, He5.fun_of h, WH.glo_ok X G (c.fact 47)⟩),
   (by obtain ⟨fd, h⟩ := c.def_ 14; exact ⟨fd, He5.fun_of h, WH.glo_ok X G (c.fact 48)⟩),
   (by obtain ⟨fd, h⟩ := c.def_ 15; exact ⟨fd, He5.fun_of h, WH.glo_ok X G (c.fact 49)⟩),
   (by obtain ⟨fd, h⟩ := c.def_ 16; exact ⟨fd, He5.fun_of h, WH.glo_ok X G (c.fact 50)⟩),
   (by obtain ⟨fd, h⟩ := c.def_ 17; exact ⟨fd, He5.fun_of h, WH.glo_ok X G (c.fact 51)⟩),
   (by obtain ⟨fd, h⟩ := c.def_ 18; exact ⟨fd, He5.fun_of h, WH.glo_ok X G (c.fact 52)⟩),
   (by obtain ⟨fd, h⟩ := c.def_ 19; exact ⟨fd, He5.fun_of h, WH.glo_ok X G (c.fact 53)⟩),
   (by obtain ⟨fd, h⟩ := c.def_ 20; exact ⟨fd, He5.fun_of h, WH.glo_ok X G (c.fact 54)⟩),
   (by obtain ⟨fd, h⟩ := c.def_ 21; exact ⟨fd, He5.fun_of h, WH.glo_ok X G (c.fact 55)⟩),
   (by obtain ⟨fd, h⟩ := c.def_ 22; exact ⟨fd, He5.fun_of h, WH.glo_ok X G (c.fact 56)⟩),
   (by obtain ⟨fd, h⟩ := c.def_ 23; exact ⟨fd, He5.fun_of h, WH.glo_ok X G (c.fact 57)⟩),
   (by obtain ⟨fd, h⟩ := c.def_ 24; exact ⟨fd, He5.fun_of h, WH.glo_ok X G (c.fact 58)⟩)⟩
end KL
set_option Elab.async false
set_option linter.all false
set_option maxRecDepth 100000
set_option maxHeartbeats 4000000
open PySem PySem.W PySem.Calls PyProof.Rows
theorem PySem.Challenge.cw_whichmatch_k02_layouts_made_holds : PySem.Challenge.rw_whichmatch_k02_layouts_made.Holds := by
  w_on; o_law
  refine HandSHeadRun.head_any (r := OpenLaw.row PySem.Challenge.rw_whichmatch_k02_layouts_made) (q := view (OpenLaw.row PySem.Challenge.rw_whichmatch_k02_layouts_made).prog [37]) (H := KL.hk) (ob := KL.ob) (M := 100000) (loose := KL.loose) (d := HandSHeadRun.topDef (OpenLaw.row PySem.Challenge.rw_whichmatch_k02_layouts_made).prog 37) (kwd := []) KL.ob_eq
    (by kernel_rfl) (fun s => by kernel_rfl) KL.run (by kernel_rfl) (by kernel_rfl) (by kernel_rfl) (by rfl) (by first | assumption | decide +kernel) (by decide +kernel) ⟨rfl, rfl, rfl, rfl, rfl, by decide +kernel⟩ ?hw ?hc
  case hw => w_witness2
  case hc =>
    refine DL.walkD (l := PySem.Challenge.rw_whichmatch_k02_layouts_made) (n := 63) (k := 8) (x := "_law_script") rfl (by decide) (by kernel_rfl) ⟨rfl, by decide, by decide⟩ (by kernel_rfl) ?F
    intro w mg h Y G
    obtain ⟨K, KX, c⟩ := Y
    exact ⟨K, KX, fun base => KL.dk_law (KL.txt_of KX G c)⟩
