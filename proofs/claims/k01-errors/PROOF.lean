import PyProof.Rows.All
import Wide.All
import OpenK.AllK
import Wide.FinOn
import KE.KStateDown
import KE.KExcSuper
import Lean
import HandS.ForMost
import HandS.ForExc
import HandS.ExcField
import HandS.More
import HandS.Defaults
import HandS.IsInst
import HandS.Wide
import HandS.Evl
import HandS.StrMore
import HandS.HeadEnd
import HandS.CallSlots
import PyProof.ReprRoads
import HandS.HeadNt
import HandS.ClsMeth
import HandS.Codes
import HandS.Walk
import PyProof.ReprLen
import HandS.ExcInit
import KE.KExcIs
import PySem.Challenge.RW_whichmatch_k01_errors_and_their_fields
import HandS.Head0
import HandS.Head1
import HandS.Head2
import HandS.HeadHook1
import HandS.HeadHook2
set_option Elab.async false
set_option linter.all false
set_option maxRecDepth 100000
set_option maxHeartbeats 4000000
namespace PySem
namespace WErr
open PySem.W PySem.Calls PyProof.Rows PySem.HandSPX
/-! an own error of the package: its __init__ calls super().__init__(text) and keeps one field -/
structure PsE where
  (a1 a2 a3 a5 a6 a7 q1 q2 q3 q4 : Pos) (k : Nat) (txt : Str)
def eB (fl : Str) (p : PsE) : List Stmt :=
  [.Expr (.Call (.Attribute (.Call (.Name "super" p.a1) [] [] p.a2) "__init__" p.a3) [.Constant (.str p.txt) p.k p.a5] [] p.a6) p.a7,
   .Assign [.Attribute (.Name "self" p.q1) fl p.q2] (.Name fl p.q3) p.q4]
def eS (fl : Str) : Scope := { kind := .function, names := [("self", .local), (fl, .local), ("__class__", .free), ("super", .globalImplicit)], isGenerator := false, isCoroutine := false, more := [] }
/-- what the written part says of the class at C and of its __init__ at fI -/
structure ErrTxt (prog : Program) (K : Frag) (mg : Str → Option Value) (x fl : Str) (C fI : Addr) : Prop where
  gC : mg x = some (.ref C)
  cls : ∃ nm q N bs bm sn sub ab col dd k0 k1 k2 k3 k5, K.lookup C = some (excClassObj nm q C N bs bm true sn sub ab col dd k0 k1 k2 k3 k5 "ValueError.__new__") ∧ refsVE bm = true
  sa : findIn K (.ref C) "__setattr__" = some (some (.builtin "object.__setattr__"))
  xf : L2.XfC K C
  noF : findIn K (.ref C) fl = some none
  iC : findIn K (.ref C) "__init__" = some (some (.ref fI))
  tC : typeIn K (.ref fI) = some (.type "function")
  kC : keepIn K (.ref C) = true
  exC : subIn K (.ref C) (.type "BaseException") = some true
  tyC : typeIn K (.ref C) = some (.type "type")
  sup : ks_superIn K C C "__init__" = some (some (.builtin "ValueError.__init__"))
  ve : subIn K (.ref C) (.type "ValueError") = some true
  any : nsIn K cStatics "thirdparty.any" = some none
  own : mroIn K C (.ref C) = some true
  gS : mg "super" = none
  htop : (prog.main.scope.names.lookup ("super" : Str)).isSome = false
  fn : ∃ (oc : Value) (od : Option Addr) (qual : Str) (params : Arguments) (doc pm kV : Value) (an : Option Addr) (cda cc : Addr) (ct : Value) (osl : Array (Option Value)) (p : PsE) (ar : Arg),
    K.lookup fI = some ⟨oc, od, .func (ksFn "__init__" qual params (eB fl p) (eS fl) .none kV doc pm an (.ref cda) ct cc), osl⟩ ∧ codeIn K (.ref cda) qual = true ∧
    (params.posonlyargs ++ params.args).head? = some ar ∧ ar.arg = "self" ∧
    (∃ ccl cdd vs ccs file tf, K.lookup cda = some ⟨ccl, cdd, .fields vs, ccs⟩ ∧ vs[2]? = some (.str file tf) ∧ ((prog.main.file : Str) == file) = true) ∧
    (∃ cl cld csl, K.lookup cc = some ⟨cl, cld, .cell (some (.ref C)), csl⟩) ∧
    (eS fl).names.lookup ("super" : Str) = some .globalImplicit ∧ (eS fl).names.lookup ("__class__" : Str) = some .free ∧ (eS fl).names.lookup ("self" : Str) = some .local ∧ (eS fl).names.lookup fl = some .local ∧
    fl ≠ "self" ∧ (fl == ("__debug__" : Str)) = false ∧ (fl == ("__class__" : Str)) = false ∧
    (∀ L f : Addr, ∃ pl : Sem Bool, eval (.Call (.Attribute (.Call (.Name "super" p.a1) [] [] p.a2) "__init__" p.a3) [.Constant (.str p.txt) p.k p.a5] [] p.a6) (ksEnv qual (eS fl) L f (.ref cda) cc) = (do
      let ov ← attributeBase (.Call (.Name "super" p.a1) [] [] p.a2) "__init__" (ksEnv qual (eS fl) L f (.ref cda) cc) (eval (.Call (.Name "super" p.a1) [] [] p.a2) (ksEnv qual (eS fl) L f (.ref cda) cc))
      standAt p.a3.atName
      let (f1, first) ← holding [ov] (getMethod ov "__init__" pl)
      callWith p.a6 f1 first (backTo p.a6 (starEach [.Constant (.str p.txt) p.k p.a5] (ksEnv qual (eS fl) L f (.ref cda) cc))) [])) ∧
    (∀ (a b : Value), bindArgs (ksFn "__init__" qual params (eB fl p) (eS fl) .none kV doc pm an (.ref cda) ct cc) ⟨[a, b], []⟩ = pure [(("self" : Str), a), (fl, b)])
/-- what __init__ leaves of a fresh exception at x -/
structure InitEnd (h h' : Heap) (x C dx t1 : Addr) (fl : Str) (v : Value) : Prop where
  keep : ∀ b o, b ≠ x → h.get? b = some o → h'.get? b = some o
  obj : h'.get? x = some { cls := .ref C, dict := some dx, data := .fields #[.ref t1, .none, .none, .none, .bool false, .none] }
  dbig : h.objs.size ≤ dx
  dne : dx ≠ x
  ns : h'.Ns1 dx (fun y => if y = fl then some v else none)
theorem one_size (v : Value) : [v].length ≤ sizeLine := by
  rw [sizeLine_eq]
  exact (by decide : 1 ≤ 16777216)
section
variable {prog : Program} {w : World} {A : Around} {E : Value → Shared → Prop} {R : Result → Shared → Prop} {s : Shared} {K : Frag} {mg mb : Str → Option Value} {x0 fl : Str} {C fI : Addr}
theorem ldK {M : Model} {s : Shared} {env : Env} {m : Str → Option Value} {x : Str} {pos : Pos} {v : Value} {Q : Value → Shared → Prop} {A : Around} {E : Value → Shared → Prop} (hk : env.scope.kind = .function) (hl : env.kindOf x = some .local) (hn : s.heap.Ns env.locals m) (hv : m x = some v) (h : Q v s)
    (hd : (x == ("__debug__" : Str)) = false) : wpAny M A (eval (.Name x pos) env) Q E s := wpAny_Name (wpAny_loadName_local hk hl hn hv h) hd
theorem err_init (T : ErrTxt prog K mg x0 fl C fI) {x t0 : Addr} {v : Value} (X : K.In s.heap) (hlim : s.heap.NoLimit) (hg : s.heap.Ns mainGlobals mg) (hb : s.heap.Ns builtinsNs mb) (hbb : ∀ x : Str, x ≠ "__name__" → mb x = bootBuiltins x)
    (hx : s.heap.get? x = some (excO C t0)) (hnx : K.lookup x = none) (hroom : A.depth < recursionLimit)
    (hq : ∀ h' tk dx t1, InitEnd s.heap h' x C dx t1 fl v → R (.ok (.ret .none)) { s with heap := h', toks := tk }) :
    codeAny (model prog w) A (.call (.ref fI) ⟨[.ref x, v], []⟩) R s := by
  obtain ⟨oc, od, qual, params, doc, pm, kV, an, cda, cc, ct, osl, p, ar, ho, hcd, hp, har, ⟨ccl, cdd, vs, ccs, file, tf, hcode, hvs, hfile⟩, ⟨cl, cld, csl, hcell⟩, hks, hkc, hka, hkF, hFs, hFd, hFc, hev, hbind⟩ := T.fn
  obtain ⟨nm, q, N, bs, bm, sn, sub, ab, col, dd, k0, k1, k2, k3, k5, hC, hbm⟩ := T.cls
  have hcl : clsIn K C = some { name := nm, bases := bs, mro := .ref C :: bm, ns := N, qualname := q, hasDict := true, slotNames := sn, subclasses := sub, abstract := ab, collection := col, hasDel := false } := by unfold clsIn; rw [hC] <;> rfl
  refine ks_codeAny_call_defAt (fd := ksFn "__init__" qual params (eB fl p) (eS fl) .none kV doc pm an (.ref cda) ct cc) (body := eB fl p) (binds := [(("self" : Str), .ref x), (fl, v)]) hroom (X _ _ ho) rfl hlim (codeRec_of X hcd) rfl (BindsTo.of_eq (hbind _ _)) ?hnc ?_ (fun h₁ hns hk₁ => ?_) rfl rfl rfl
  case hnc =>
    intro y hy
    simp only [eS, List.mem_cons, List.not_mem_nil, or_false] at hy
    rcases hy with rfl | rfl | rfl | rfl <;> (intro z; cases z)
  · intro y hy
    rcases List.mem_cons.mp hy with rfl | hy
    · exact hka
    · rcases List.mem_cons.mp hy with rfl | hy
      · exact hkF
      · cases hy
  have hk : (eS fl).kind = .function := rfl
  have X₁ : K.In h₁ := X.keeps hk₁
  have hx₁ := hk₁ _ _ hx
  have I₁ : InstAt h₁ x (excO C t0) C none := ⟨hx₁, rfl, rfl, trivial⟩
  have hmS : (fun y => List.lookup y (List.reverse [((("self" : Str)), Value.ref x), (fl, v)])) "self" = some (.ref x) := by
    show List.lookup ("self" : Str) [(fl, v), (("self" : Str), Value.ref x)] = _
    have : (("self" : Str) == fl) = false := by
      have : ("self" : Str) ≠ fl := fun e => hFs e.symm
      simpa using this
    simp [List.lookup, this]
  have hmF : (fun y => List.lookup y (List.reverse [((("self" : Str)), Value.ref x), (fl, v)])) fl = some v := by
    show List.lookup fl [(fl, v), (("self" : Str), Value.ref x)] = _
    simp [List.lookup]
  have hCo₁ := X₁ _ _ hC
  -- super().__init__(text)
  obtain ⟨pl, hev1⟩ := hev s.heap.objs.size fI
  show _root_.PySem.wpAt _ _ _ (execs (_ :: _ :: []) _) _ _ _
  refine ks_wpAt_execs_cons (ks_wpAt_Expr_any (ks_wpAt_MethodCall ?_ hev1) (by rfl) (by rfl))
  refine ks_wpAt_super_base (env := ksEnv qual (eS fl) s.heap.objs.size fI (.ref cda) cc) hks hkc (by decide) rfl (X₁ _ _ ho) rfl hp rfl (X₁ _ _ hcode) rfl hvs hfile T.htop ?_
  refine ks_loadName_global hk hks (loadGlobal_builtin (env := ksEnv qual (eS fl) s.heap.objs.size fI (.ref cda) cc) (hg.keeps hk₁) T.gS (hb.keeps hk₁) ((hbb _ (by decide +kernel)).trans Boot.«super») ⟨rfl, ?_⟩)
  refine wpAny_loadName_free hk hkc rfl ⟨_, X₁ _ _ hcell, rfl⟩ ?_
  rw [har]
  refine wpAny_loadName_local hk hka hns hmS ?_
  refine ks_wpAny_isType_cls hCo₁ rfl ⟨rfl, ?_⟩
  refine ks_wpAny_call_super hCo₁ rfl hx₁ rfl (fun c e => by cases e) (looks_mroIn X₁ T.own) (fun h₂ hso k₂ => ?_)
  have X₂ : K.In h₂ := X₁.keeps k₂
  have hx₂ := k₂ _ _ hx₁
  have I₂ : InstAt h₂ x (excO C t0) C none := ⟨hx₂, rfl, rfl, trivial⟩
  have hsup := T.sup
  unfold ks_superIn at hsup
  rw [hcl] at hsup
  refine kxs_getMethod kxs_ValueError hso (looks_opaque X₂ T.any) (l₀ := .ref C :: bm) ?_ rfl X₂ hsup (I₂.type.andThen (looks_subIn X₂ T.ve)) (ks_ne X₂ I₂ hcl) (by decide) ?_
  · exact fun A Q E s k q => wpAny_bind ((looks_clsIn X₂ hcl) A _ E s k (wpAny_pure q))
  show wpAny _ _ (callWith p.a6 (.ref h₂.objs.size) [] (backTo p.a6 (starEach [_] _)) []) _ _ _
  refine kxs_callWith (i := "ValueError.__init__") (x := x) (by rfl) (evalArgs_plain ?_)
  show wpAny _ _ (spliced [(false, eval (.Constant (.str p.txt) p.k p.a5) _)]) _ _ _
  refine Calls.spliced_cons (Calls.Constant_str (Calls.spliced_nil ?_))
  have hu : (h₂.push (kxs_mw "ValueError.__init__" x)).get? h₂.objs.size = some (kxs_mw "ValueError.__init__" x) := Heap.get?_push_at rfl rfl
  have k₃ : ∀ b o, h₂.get? b = some o → (h₂.push (kxs_mw "ValueError.__init__" x)).get? b = some o := fun b o e => Heap.get?_push_of_some _ e
  refine ⟨hu, ?_⟩
  have X₃ : K.In (h₂.push (kxs_mw "ValueError.__init__" x)) := X₂.keeps k₃
  have hx₃ := k₃ _ _ hx₂
  show wpAny _ _ (call (.ref h₂.objs.size) [_] []) _ _ _
  refine wpAny_call (codeAny_of_tree ?_)
  show wpAny _ _ (callAny (.ref h₂.objs.size) ⟨[_], []⟩) _ _ _
  simp only [callAny]
  refine wpAny_bind (wpAny_load hu ?_)
  simp only [kxs_mw, show (Value.type "method-wrapper" == Value.type "method" || Value.type "method-wrapper" == Value.type "builtin_function_or_method" || Value.type "method-wrapper" == Value.type "method-wrapper") = true by decide, if_true]
  refine KFB.if_so (by decide) ?_
  refine wpAny_bind (check_bound_init F.excBase_ValueError.toExcCallFacts (X₃ _ _ hC) hx₃ rfl ?_)
  refine wpAny_bind (wpAny_pure (wpAny_pure ?_))
  refine ⟨plainId_quiet F.excBase_ValueError.init.plain _, codeAny_builtin F.excBase_ValueError.initEntry ?_⟩
  refine exc_init_tree (cls := .ref C) (t0 := t0) (dv := none) (c2 := .none) (c3 := .none) (b4 := .bool false) hx₃ (one_size _) fun h₄ k₄ hx₄ _ => ?_
  have nx : s.heap.objs.size ≠ x := Nat.ne_of_gt (Heap.lt_size hx)
  have hns₃ : (h₂.push (kxs_mw "ValueError.__init__" x)).Ns s.heap.objs.size _ := (hns.keeps k₂).keeps k₃
  have hns₄ : h₄.Ns s.heap.objs.size (fun y => List.lookup y (List.reverse [((("self" : Str)), Value.ref x), (fl, v)])) := by
    obtain ⟨oL, es, ep, hL, r⟩ := hns₃
    exact ⟨oL, es, ep, k₄ _ _ nx hL, r⟩
  have all₄ : ∀ b o, b ≠ x → s.heap.get? b = some o → h₄.get? b = some o := fun b o hb' e => k₄ b o hb' (k₃ b o (k₂ b o (hk₁ b o e)))
  have X₄ : K.In h₄ := by
    intro b o e
    have hbx : b ≠ x := fun z => by rw [z, hnx] at e; cases e
    exact all₄ b o hbx (X _ _ e)
  -- self.fl = fl
  show _root_.PySem.wpAt _ _ _ (execs (_ :: []) _) _ _ _
  refine ks_wpAt_execs_cons (wpAt_of_wpAny (plainObj_wpAny_Assign_Attribute ?_ (by rfl)))
  refine ldK (v := v) (m := fun y => List.lookup y (List.reverse [((("self" : Str)), Value.ref x), (fl, v)])) hk hkF hns₄ hmF (ldK (v := .ref x) (m := fun y => List.lookup y (List.reverse [((("self" : Str)), Value.ref x), (fl, v)])) hk hka hns₄ hmS ?_ (by decide)) hFd
  refine set_plain X₄ (ox := excO C (h₂.push (kxs_mw "ValueError.__init__" x)).objs.size) (od := none) ⟨hx₄, rfl, rfl, trivial⟩ T.sa ?_
  refine exc_osa X₄ hx₄ hcl (show refsVE (.ref C :: bm) = true from hbm) rfl T.noF (fun h₅ tk₅ dx k₅ dn dne hx₅ hn₅ => ?_)
  show _root_.PySem.wpAt _ _ _ (execs [] _) _ _ _
  have z : s.heap.objs.size < h₄.objs.size := hns₄.lt
  exact wpAt_of_wpAny (wpAny_execs_nil (hq h₅ tk₅ dx _ ⟨fun b o hb' e => k₅ b o hb' (all₄ b o hb' e), hx₅, Nat.le_of_lt (Nat.lt_of_lt_of_le z dn), dne, hn₅⟩))
/-- a made error -/
structure OwnMade (h h' : Heap) (e C d : Addr) (fl : Str) (v : Value) : Prop where
  keep : ∀ b o, h.get? b = some o → h'.get? b = some o
  new : h.objs.size ≤ e
  obj : ∃ oe vs, h'.get? e = some oe ∧ oe.cls = .ref C ∧ oe.dict = some d ∧ oe.data = .fields vs ∧ vs[1]? = some .none ∧ vs[2]? = some .none ∧ 4 < vs.size
  dbig : h.objs.size ≤ d
  dne : d ≠ e
  ns : h'.Ns1 d (fun y => if y = fl then some v else none)
theorem err_made (T : ErrTxt prog K mg x0 fl C fI) {v : Value} (X : K.In s.heap) (hlim : s.heap.NoLimit) (hg : s.heap.Ns mainGlobals mg) (hb : s.heap.Ns builtinsNs mb) (hbb : ∀ x : Str, x ≠ "__name__" → mb x = bootBuiltins x) (hroom : A.depth + 1 < recursionLimit)
    (hq : ∀ h' tk e d, OwnMade s.heap h' e C d fl v → R (.ok (.ret (.ref e))) { s with heap := h', toks := tk }) :
    codeAny (model prog w) A (.call (.ref C) ⟨[v], []⟩) R s := by
  obtain ⟨nm, q, N, bs, bm, sn, sub, ab, col, dd, k0, k1, k2, k3, k5, hC, hbm⟩ := T.cls
  obtain ⟨hp, g, dr, tk, os⟩ := s
  have k : ∀ b o, hp.get? b = some o → ((hp.push (kdv_tup [v])).push (excO C hp.objs.size)).get? b = some o := fun b o e => Heap.get?_push_of_some _ (Heap.get?_push_of_some _ e)
  have hget : ((hp.push (kdv_tup [v])).push (excO C hp.objs.size)).get? (hp.objs.size + 1) = some (excO C hp.objs.size) := by heap_get
  have hnx : K.lookup (hp.objs.size + 1) = none := by
    cases e : K.lookup (hp.objs.size + 1) with
    | none => rfl
    | some o =>
      have z : hp.get? (hp.objs.size + 1) = some o := X _ _ e
      exact absurd (Nat.lt_of_succ_lt (Heap.lt_size z)) (Nat.lt_irrefl _)
  refine call_own F.excBase_ValueError (fun X => refsVE_contains X bm hbm) (X _ _ hC) (looks_findIn X T.iC) (fun self => bind_fn X self T.tC) (one_size v) ?_
  refine err_init (s := ⟨(hp.push (kdv_tup [v])).push (excO C hp.objs.size), g, dr, tk, os⟩) T (X.keeps k) (hlim.keeps k) (hg.keeps k) (hb.keeps k) hbb hget hnx ?_ fun h' tk' dx t1 ⟨k', hx, dn, dne, hns⟩ => ?_
  · show A.depth + 1 < recursionLimit
    exact hroom
  · have old : ∀ b o, hp.get? b = some o → h'.get? b = some o := fun b o e => k' b o (Nat.ne_of_lt (Nat.lt_succ_of_lt (Heap.lt_size e))) (k b o e)
    have z : hp.objs.size + 1 + 1 ≤ dx := by
      first
        | (simpa only [Heap.size_push] using dn)
        | exact dn
        | (have q := dn; rw [Heap.size_push, Heap.size_push] at q; exact q)
    exact ⟨rfl, hq h' tk' (hp.objs.size + 1) dx ⟨old, Nat.le_succ _, ⟨_, _, hx, rfl, rfl, rfl, rfl, rfl, (by show 4 < 6; decide)⟩, Nat.le_trans (Nat.le_trans (Nat.le_succ _) (Nat.le_succ _)) z, dne, hns⟩⟩
end
end WErr
end PySem
namespace L2
open PySem PySem.Spec PyProof.Rows
theorem relO_err {fl : Str} {v : V} {v' : Value} (r : RelV v v') (f : Str) : RelO (List.lookup f [(fl, v)]) (if f = fl then some v' else none) := by
  by_cases hw : f = fl
  · subst hw
    rw [if_pos rfl]
    have q : List.lookup f [(f, v)] = some v := by simp [List.lookup]
    rw [q]
    exact r
  · rw [if_neg hw]
    have qw : (f == fl) = false := by simpa using hw
    have q2 : List.lookup f [(fl, v)] = none := by simp [List.lookup, qw]
    rw [q2]
    trivial
section
variable {X : Cx} {C fI : Addr} {x fl : Str}
/-- X(e), X an error of the package -/
def tMkErr (C : Addr) (fl : Str) (ta : TA) : St → Hp → XK → Prop := fun σ H Q => ta σ H fun vs H1 => ∃ v, vs = [v] ∧ ∀ d, H1 d = none → Q (.ref C) (some d) (upd H1 d (.xd [(fl, v)]))
theorem pmk_err {a : Expr} {ta : TA} {p pos : Pos} {k : Nat} (T : PySem.WErr.ErrTxt X.prog X.K X.mg x fl C fI) (hr : Room k X.A) (ha : PA X [a] ta) (hg : Gl X x := by rfl) (hdb : (x == ("__debug__" : Str)) = false := by decide)
    (he : starEach (a :: []) X.env = (false, eval a X.env) :: starEach [] X.env := by rfl) (hpl : (backTo pos (starEach [] X.env)).any (·.1) = false := by rfl) :
    PMk X (.Call (.Name x p) [a] [] pos) (tMkErr C fl ta) := by
  intro pins s σ H Q I h
  refine wpAny_Call_Name_kw (ld_glob I hg T.gC ?_ hdb)
  refine PySem.W.callWith_K (h₀ := X.base) I.ok.mod.kin T.kC (thn (ha.run pos pins s σ H _ I h) fun us s1 hh => ?_) he hpl
  obtain ⟨vs, H1, I1, r1, v, ev, q1⟩ := hh
  subst ev
  refine ⟨I1.kIn, ?_⟩
  cases r1 with
  | cons rv rn =>
    rename_i v' us'
    cases rn
    show wpAny _ _ (call (.ref C) [v']) _ _ _
    have hlim := I1.nolimit
    obtain ⟨mb, hmb, hbb⟩ := I1.mod.blt
    have hG := I1.mod.glob.keeps I1.bk
    have hB := hmb.keeps I1.bk
    obtain ⟨hp, g, dr, tk, os⟩ := s1
    refine wpAny_call (PySem.WErr.err_made T I1.kIn hlim hG hB hbb (by have := hr.dp; omega) fun h' tk' e d M => ?_)
    show MkP X pins σ Q (.ref e) ⟨h', g, dr, tk', os⟩
    obtain ⟨oe, fv, hoe, hc, hd, hdat, h1, _⟩ := M.obj
    have hns := M.ns
    obtain ⟨G', g1, g2⟩ := restrict h' fun b => decide (b ≠ e)
    have gk : ∀ b, b ≠ e → G'.get? b = h'.get? b := fun b hb => g1 b (decide_eq_true hb)
    have ge : G'.get? e = none := g2 e (by simp)
    have old : ∀ b o, hp.get? b = some o → G'.get? b = some o := fun b o q => (gk b (Nat.ne_of_lt (Nat.lt_of_lt_of_le (Heap.lt_size q) M.new))).trans (M.keep b o q)
    have ob : ObjOk X.prog X.w (upd H1 d (.xd [(fl, v)])) G' d (.xd [(fl, v)]) :=
      ⟨_, hns.at (fun o q => (gk d M.dne).trans q), fun f => relO_err rv f⟩
    have J : Inv X pins σ (upd H1 d (.xd [(fl, v)])) ⟨G', g, dr, tk', os⟩ := I1.laid (t' := tk') old M.dbig ob
    refine ⟨e, oe, fv, ⟨G', g, dr, tk', os⟩, _, .ref C, some d, rfl, J, fun b o q => ?_, ge, hoe, ⟨hc, hd⟩, hdat, h1, ?_, rfl, I1.bare, raises_own T.exC T.tyC, q1 d (I1.hok.fresh M.dbig)⟩
    · by_cases hb : b = e
      · have q' : G'.get? b = some o := q
        rw [hb, ge] at q'; cases q'
      · exact (gk b hb).symm.trans q
    · rw [upd_ne (Ne.symm M.dne)]
      exact I1.hok.fresh M.new
/-- raise X(e) -/
def tRaiseErr (C : Addr) (fl : Str) (W : WX) (ta : TA) : TS := fun _ σ H => tMkErr C fl ta σ H fun cls d H' => W cls d σ H'
theorem ps_raiseErr {a : Expr} {ta : TA} {W : WX} {p pos pos2 : Pos} {k : Nat} (hc : X.calm = true) (T : PySem.WErr.ErrTxt X.prog X.K X.mg x fl C fI) (hr : Room k X.A) (tk : Takes X W) (ha : PA X [a] ta) (hg : Gl X x := by rfl) (hdb : (x == ("__debug__" : Str)) = false := by decide)
    (he : starEach (a :: []) X.env = (false, eval a X.env) :: starEach [] X.env := by rfl) (hpl : (backTo pos (starEach [] X.env)).any (·.1) = false := by rfl) :
    PS X (.Raise (some (.Call (.Name x p) [a] [] pos)) none pos2) (tRaiseErr C fl W ta) := ps_raise hc tk (pmk_err T hr ha hg hdb he hpl)
end
end L2
set_option Elab.async false
set_option linter.all false
set_option maxRecDepth 100000
set_option maxHeartbeats 4000000
namespace L2
open PySem PySem.Spec PyProof.Rows
/-! ### promises that hold where no repr is under way (for defs that ask repr, and their callers) -/
structure FnG (P : Program) (w : World) (K : PySem.W.Frag) (mg : Str → Option Value) (base : Heap) (CX : CXT) (k : Nat) (f : Addr) (fd : FuncData) (ps : List Str) (sp : Sp) : Prop where
  len : ∀ vs H Q E, sp vs H Q E → vs.length = ps.length
  run : ∀ (A : Around), A.guards = some [] → ∀ (outer : List Env) (s : Shared) (H : Hp) (args : Args) (us : List Value) (vs : List V) (Q : VK) (E : XK), Room k A → Env0 P w K mg base A outer s H → BindsTo s fd args (ps.zip us) → Vals vs us → sp vs H Q E →
    codeAny (model P w) A (.call (.ref f) args) (CR CX outer P w H s Q E) s
section
variable {P : Program} {w : World} {K : PySem.W.Frag} {mg : Str → Option Value} {base : Heap} {CX : CXT} {k : Nat} {f : Addr} {fd : FuncData} {ps : List Str} {sp : Sp}
theorem FnOk.g (F : FnOk P w K mg base CX k f fd ps sp) : FnG P w K mg base CX k f fd ps sp := ⟨F.len, fun A _ => F.run A⟩
theorem FnG.mono {j : Nat} (F : FnG P w K mg base CX j f fd ps sp) (h : j ≤ k) : FnG P w K mg base CX k f fd ps sp :=
  ⟨F.len, fun A hA outer s H args us vs Q E hr => F.run A hA outer s H args us vs Q E (hr.mono h)⟩
/-- a def by its body, where no repr is under way -/
theorem fnG_of {name qual : Str} {params : Arguments} {body : List Stmt} {scope : Scope} {dV kV doc pm cdv ct oc : Value} {an od : Option Addr}
    {osl : Array (Option Value)} {N : List Str} (lk : K.lookup f = some ⟨oc, od, .func (PySem.W.fnOf name qual params body scope dV kV doc pm an cdv ct), osl⟩) (hcd : PySem.W.codeIn K cdv qual = true) (S : FnScope N ps scope)
    (len : ∀ vs H Q E, sp vs H Q E → vs.length = ps.length)
    (hbody : ∀ (A : Around) (outer : List Env) (s : Shared) (H : Hp) (vs : List V) (Q : VK) (E : XK), (A.deeper (envOfC qual scope s.heap.objs.size f cdv)).guards = some [] → Room k (A.deeper (envOfC qual scope s.heap.objs.size f cdv)) → sp vs H Q E →
      ∃ t, PSs (cxOf CX P w K mg base N qual scope f cdv A outer s H E) body t ∧ t { nx := fun _ H' => Q .non H', rt := Q } (start N vs) H) :
    FnG P w K mg base CX (k + 1) f (PySem.W.fnOf name qual params body scope dV kV doc pm an cdv ct) ps sp := by
  refine ⟨len, fun A hA => ?_⟩
  -- fn_of asks the body of every around: here it is asked of one, by a promise that speaks of nothing else
  refine fun outer s H args us vs Q E hr e0 hb r hsp => ?_
  have KX : K.In s.heap := e0.mod.kin.keeps fun b o e => (e0.bs b o e).1
  have lim : s.heap.NoLimit := e0.mod.nolimit.keeps fun b o e => (e0.bs b o e).1
  refine codeAny_call_function hr.depth (KX _ _ lk) rfl S.co S.gen rfl (PySem.W.codeRec_of KX hcd) (hb _ _ _ _ (wpAny_newFunctionEnv_cells S.kind ?_ fun env he s1 x => ?_))
  · intro y hy
    have h1 := (List.of_mem_zip (show (y.1, y.2) ∈ ps.zip us from hy)).1
    rcases S.par y.1 h1 with q | q
    · exact Or.inl q
    · exact Or.inr ⟨q, PySem.W.cellsFrom_some _ _ _ (Or.inl q)⟩
  subst he
  obtain ⟨t, ht, hq⟩ := hbody A outer s H vs Q E hA (hr.deeper _) hsp
  refine ⟨lim.keeps x.toInCall.keep, codeAny_func (wpAny_mono (ht.run [] s1 (start N vs) H _ (inv_start S hr.hd e0 (len _ _ _ _ hsp) r x) hq) (fun fl s' hs => ?_) fun e s' hs => hs)⟩
  cases fl with
  | ret u =>
    obtain ⟨v, σ', H', J, rv, q⟩ := hs
    exact ⟨v, H', J.os, J.bare, J.base, J.hok, rv, q⟩
  | next =>
    obtain ⟨σ', H', J, q⟩ := hs
    exact ⟨V.non, H', J.os, J.bare, J.base, J.hok, rfl, q⟩
  | brk => exact (hs.choose_spec.choose_spec.2).elim
  | cont => exact (hs.choose_spec.choose_spec.2).elim
end
section
variable {X : Cx} {CX : CXT} {k : Nat} {f : Addr} {fd : FuncData} {ps : List Str} {sp : Sp} {dvs : List V} {ds : List Value} {E : XK} {x : Str} {p pos : Pos} {e : Expr} {es : List Expr} {t : TA}
theorem pe_callG (hA : X.A.guards = some []) (F : FnG X.prog X.w X.K X.mg X.base CX k f fd ps sp) (hr : Room k X.A) (hg : Gl X x) (hm : X.mg x = some (.ref f)) (hk : PySem.W.keepIn X.K (.ref f) = true) (hb : Binds X.K fd ps ds) (hd : Vals dvs ds) (hx : Passes CX X E)
    (ha : PA X (e :: es) t) (hdb : (x == ("__debug__" : Str)) = false := by decide) (he : starEach (e :: es) X.env = (false, eval e X.env) :: starEach es X.env := by rfl) (hpl : (backTo pos (starEach es X.env)).any (·.1) = false := by rfl) :
    PE X (.Call (.Name x p) (e :: es) [] pos) (tCall sp dvs E t) := by
  refine ⟨fun pins s σ H Q I h => wpAny_Call_Name_kw (ld_glob I hg hm ?_ hdb)⟩
  refine PySem.W.callWith_K (h₀ := X.base) I.ok.mod.kin hk (thn (ha.run pos pins s σ H _ I h) fun us s1 ⟨vs, H1, I1, r, q⟩ => ⟨I1.kIn, ?_⟩) he hpl
  have r2 : Vals (vs ++ dvs) (us ++ ds) := r.append hd
  have hl : (us ++ ds).length = ps.length := by rw [← r2.length]; exact F.len _ _ _ _ q
  refine wpAny_call (codeAny_mono (F.run X.A hA X.stack s1 H1 ⟨us, []⟩ (us ++ ds) (vs ++ dvs) Q E hr I1.env0 (hb s1 us I1.kIn hl) r2 q) fun r s' hq => ?_)
  match r, hq with
  | .error e, hq => exact hx pins σ H1 s1 e s' I1 hq
  | .ok (.ret u), hq => exact I1.after hq
  | .ok .next, hq => exact False.elim hq
  | .ok .brk, hq => exact False.elim hq
  | .ok .cont, hq => exact False.elim hq
/-- repr(x) of data -/
theorem call_reprD (hA : X.A.guards = some []) (hu : X.A.units + 64 < cLine) : CallR X (.builtin "repr") (fun xs H Q => ∃ v d, xs = [v] ∧ Dp X.K H v d ∧ d.showable = true ∧ d.hasDict = false ∧ d.depth ≤ 60 ∧ d.shown.length ≤ sizeLine ∧ Q (.str d.shown) H) := by
  intro pins s σ H xs us Q I r h
  obtain ⟨v, d, rfl, hd, hs, hn, hdp, hz, q⟩ := h
  obtain ⟨u, rfl, ru⟩ := vals1 r
  obtain ⟨as, rd⟩ := Dp.reads I d v u hd ru
  cases rd with
  | none => exact PySem.P.repr_of_none ⟨.str _, H, I.tok _, ⟨_, rfl⟩, q⟩
  | bool b => exact PySem.P.repr_of_bool ⟨.str _, H, I.tok _, ⟨_, by cases b <;> rfl⟩, q⟩
  | int i t => exact PySem.P.repr_of_int (of_decide_eq_true hs) ⟨.str _, H, I.tok _, ⟨_, rfl⟩, q⟩
  | str x t => exact PySem.P.repr_of_str ⟨.str _, H, I.tok _, ⟨_, rfl⟩, q⟩ hz
  | list h1 h2 h3 h4 => exact repr_of_reads' (.list h1 h2 h3 h4) hs (fun z => by rw [hn] at z; cases z) hA (by omega) (fun _ _ e => e) (fun h' u tk hk => ⟨.str _, H, I.kept hk, ⟨_, rfl⟩, q⟩) hz
  | tuple h1 h2 h3 h4 => exact repr_of_reads' (.tuple h1 h2 h3 h4) hs (fun z => by rw [hn] at z; cases z) hA (by omega) (fun _ _ e => e) (fun h' u tk hk => ⟨.str _, H, I.kept hk, ⟨_, rfl⟩, q⟩) hz
  | dict h1 h2 h3 h4 h5 => exact absurd hn (by simp [PyData.hasDict])
end
end L2
set_option Elab.async false
set_option linter.all false
set_option maxRecDepth 100000
set_option maxHeartbeats 4000000
namespace WH
open PySem PySem.Spec PyProof.Rows L2
open He (ga ma ba eqO eqO_ok)
abbrev Frag := PySem.W.Frag
/-! ### an error class of the text: its name, its field, its __init__ -/
structure ErD where
  x : Str
  fl : Str
  st : Stmt
abbrev FnE : Type := Option (Str × Str × Arguments × FuncBody × Scope × Addr × List Str × Addr)
def iAd (K : Frag) (x : Str) : Addr := ma K (ga K x) "__init__"
def fnE (K : Frag) (x : Str) : FnE := match K.lookup (iAd K x) with
  | some ⟨_, _, .func fd, _⟩ => some (fd.name, fd.qualname, fd.params, fd.body, fd.scope, fd.globals, fd.closure.map (·.1), fd.builtins)
  | _ => none
def ErD.val (e : ErD) : FnE := some ("__init__", e.x ++ ".__init__", defArgs e.st, .stmts (defBody e.st), defScope e.st, mainGlobals, ["__class__"], builtinsNs)
/-- the class object of an own error over ValueError -/
def veB (K : Frag) (C : Addr) : Bool := match K.lookup C with
  | some ⟨.type "type", _, .cls cd, sl⟩ => (match cd.mro, sl.toList with
    | .ref C' :: bm, [_, _, _, _, some (.builtin n), _] => decide (C' = C) && (decide (n = "ValueError.__new__") && (!cd.hasDel && (cd.hasDict && PySem.HandSPX.refsVE bm)))
    | _, _ => false)
  | _ => false
theorem veB_ok {K : Frag} {C : Addr} (h : veB K C = true) : ∃ nm q N bs bm sn sub ab col dd k0 k1 k2 k3 k5, K.lookup C = some (excClassObj nm q C N bs bm true sn sub ab col dd k0 k1 k2 k3 k5 "ValueError.__new__") ∧ PySem.HandSPX.refsVE bm = true := by
  unfold veB at h
  split at h
  · rename_i dd cd sl ho
    split at h
    · rename_i C' bm k0 k1 k2 k3 n k5 hm hs
      obtain ⟨h1, h⟩ := ba h
      obtain ⟨h2, h⟩ := ba h
      obtain ⟨h3, h⟩ := ba h
      obtain ⟨h4, h5⟩ := ba h
      obtain rfl := of_decide_eq_true h1
      obtain rfl := of_decide_eq_true h2
      obtain ⟨nm, bs, mro, ns, qn, hd, sn, sub, ab, col, del⟩ := cd
      dsimp only at hm h3 h4
      subst hm
      subst h4
      have hdel : del = false := by cases del <;> simp_all
      subst hdel
      have hsl : sl = #[k0, k1, k2, k3, some (.builtin "ValueError.__new__"), k5] := by
        obtain ⟨l⟩ := sl
        simp only at hs
        rw [hs]
      subst hsl
      exact ⟨nm, qn, ns, bs, bm, sn, sub, ab, col, dd, k0, k1, k2, k3, k5, ho, h5⟩
    · cases h
  · cases h
/-- its __init__: code of the main file, a cell that holds the class, no defaults -/
def inB (prog : Program) (K : Frag) (C fI : Addr) (qual : Str) : Bool := match K.lookup fI with
  | some ⟨_, _, .func fd, _⟩ => (match fd.defaults, fd.code, fd.closure with
    | .none, .ref cda, [(_, cc)] => PySem.W.codeIn K (.ref cda) qual && ((match K.lookup cda with
      | some ⟨_, _, .fields vs, _⟩ => (match (vs : Array Value)[2]? with
        | some (Value.str file _) => (prog.main.file : Str) == file
        | _ => false)
      | _ => false) && (match K.lookup cc with
      | some ⟨_, _, .cell (some (.ref D)), _⟩ => decide (D = C)
      | _ => false))
    | _, _, _ => false)
  | _ => false
def ErD.ok (prog : Program) (K : Frag) (e : ErD) : Bool :=
  eqO (PySem.W.nsIn K mainGlobals e.x) (some (some (.ref (ga K e.x)))) && (veB K (ga K e.x) && (eqO (PySem.W.findIn K (.ref (ga K e.x)) "__setattr__") (some (some (.builtin "object.__setattr__"))) &&
  (xfB K (ga K e.x) && (eqO (PySem.W.findIn K (.ref (ga K e.x)) e.fl) (some none) && (eqO (PySem.W.findIn K (.ref (ga K e.x)) "__init__") (some (some (.ref (iAd K e.x)))) &&
  (decide (PySem.W.typeIn K (.ref (iAd K e.x)) = some (.type "function")) && (PySem.W.keepIn K (.ref (ga K e.x)) && (decide (PySem.W.subIn K (.ref (ga K e.x)) (.type "BaseException") = some true) &&
  (decide (PySem.W.typeIn K (.ref (ga K e.x)) = some (.type "type")) && (eqO (PySem.W.ks_superIn K (ga K e.x) (ga K e.x) "__init__") (some (some (.builtin "ValueError.__init__"))) &&
  (decide (PySem.W.subIn K (.ref (ga K e.x)) (.type "ValueError") = some true) && (eqO (PySem.W.nsIn K cStatics "thirdparty.any") (some none) && (decide (PySem.W.mroIn K (ga K e.x) (.ref (ga K e.x)) = some true) &&
  (eqO (PySem.W.nsIn K mainGlobals "super") (some none) && (!(prog.main.scope.names.lookup ("super" : Str)).isSome && inB prog K (ga K e.x) (iAd K e.x) (e.x ++ ".__init__"))))))))))))))))
theorem ErD.txt {prog : Program} {K : Frag} {h : Heap} {mg : Str → Option Value} {e : ErD} {p : PySem.WErr.PsE} {ar : Arg} (X : K.In h) (G : h.Ns mainGlobals mg) (c : e.ok prog K = true) (v : fnE K e.x = e.val)
    (hB : defBody e.st = PySem.WErr.eB e.fl p) (hS : defScope e.st = PySem.WErr.eS e.fl) (hP : ((defArgs e.st).posonlyargs ++ (defArgs e.st).args).head? = some ar) (hA : ar.arg = "self")
    (h1 : (PySem.WErr.eS e.fl).names.lookup ("super" : Str) = some .globalImplicit) (h2 : (PySem.WErr.eS e.fl).names.lookup ("__class__" : Str) = some .free) (h3 : (PySem.WErr.eS e.fl).names.lookup ("self" : Str) = some .local) (h4 : (PySem.WErr.eS e.fl).names.lookup e.fl = some .local)
    (h5 : e.fl ≠ "self") (h6 : (e.fl == ("__debug__" : Str)) = false) (h7 : (e.fl == ("__class__" : Str)) = false)
    (h8 : ∀ cda cc L f : Addr, ∃ pl : Sem Bool, eval (.Call (.Attribute (.Call (.Name "super" p.a1) [] [] p.a2) "__init__" p.a3) [.Constant (.str p.txt) p.k p.a5] [] p.a6) (PySem.W.ksEnv (e.x ++ ".__init__") (PySem.WErr.eS e.fl) L f (.ref cda) cc) = (do
      let ov ← attributeBase (.Call (.Name "super" p.a1) [] [] p.a2) "__init__" (PySem.W.ksEnv (e.x ++ ".__init__") (PySem.WErr.eS e.fl) L f (.ref cda) cc) (eval (.Call (.Name "super" p.a1) [] [] p.a2) (PySem.W.ksEnv (e.x ++ ".__init__") (PySem.WErr.eS e.fl) L f (.ref cda) cc))
      standAt p.a3.atName
      let (f1, first) ← holding [ov] (getMethod ov "__init__" pl)
      callWith p.a6 f1 first (backTo p.a6 (starEach [.Constant (.str p.txt) p.k p.a5] (PySem.W.ksEnv (e.x ++ ".__init__") (PySem.WErr.eS e.fl) L f (.ref cda) cc))) []))
    (h9 : ∀ (kV doc pm : Value) (an : Option Addr) (cda cc : Addr) (ct a b : Value), bindArgs (PySem.W.ksFn "__init__" (e.x ++ ".__init__") (defArgs e.st) (PySem.WErr.eB e.fl p) (PySem.WErr.eS e.fl) .none kV doc pm an (.ref cda) ct cc) ⟨[a, b], []⟩ = pure [(("self" : Str), a), (e.fl, b)]) :
    PySem.WErr.ErrTxt prog K mg e.x e.fl (ga K e.x) (iAd K e.x) := by
  obtain ⟨c1, c⟩ := ba c
  obtain ⟨c2, c⟩ := ba c
  obtain ⟨c3, c⟩ := ba c
  obtain ⟨c4, c⟩ := ba c
  obtain ⟨c5, c⟩ := ba c
  obtain ⟨c6, c⟩ := ba c
  obtain ⟨c7, c⟩ := ba c
  obtain ⟨c8, c⟩ := ba c
  obtain ⟨c9, c⟩ := ba c
  obtain ⟨c10, c⟩ := ba c
  obtain ⟨c11, c⟩ := ba c
  obtain ⟨c12, c⟩ := ba c
  obtain ⟨c13, c⟩ := ba c
  obtain ⟨c14, c⟩ := ba c
  obtain ⟨c15, c⟩ := ba c
  obtain ⟨c16, c17⟩ := ba c
  refine ⟨PySem.W.mg_of X G (eqO_ok c1), veB_ok c2, eqO_ok c3, xfB_ok c4, eqO_ok c5, eqO_ok c6, of_decide_eq_true c7, c8, of_decide_eq_true c9, of_decide_eq_true c10, eqO_ok c11, of_decide_eq_true c12, eqO_ok c13, of_decide_eq_true c14, PySem.W.mg_none_of X G (eqO_ok c15), by simpa using c16, ?_⟩
  unfold fnE at v
  unfold inB at c17
  cases q : K.lookup (iAd K e.x) with
  | none => rw [q] at v; cases v
  | some o =>
    obtain ⟨oc, od, dt, osl⟩ := o
    rw [q] at v c17
    cases dt with
    | func fd =>
      obtain ⟨n1, n2, n3, n4, n5, n6, n7, n8, n9, n10, n11, n12, n13, n14, n15⟩ := fd
      have e2 : (some (n1, n2, n3, n4, n5, n6, n7.map (·.1), n15) : FnE) = e.val := v
      unfold ErD.val at e2
      simp only [Option.some.injEq, Prod.mk.injEq] at e2
      obtain ⟨g1, g2, g3, g4, g5, g6, g7, g8⟩ := e2
      subst g1 g2 g3 g4 g5 g6 g8
      dsimp only at c17
      split at c17
      · rename_i cda nm cc
        obtain ⟨d1, d⟩ := ba c17
        obtain ⟨d2, d3⟩ := ba d
        have hnm : nm = ("__class__" : Str) := by simpa using g7
        subst hnm
        rw [hB, hS]
        refine ⟨oc, od, _, _, _, _, _, _, cda, cc, _, osl, p, ar, rfl, d1, hP, hA, ?_, ?_, h1, h2, h3, h4, h5, h6, h7, h8 cda cc, h9 _ _ _ _ cda cc _⟩
        · split at d2
          · rename_i z1 z2 vs z3 hl
            split at d2
            · rename_i file tf hv
              exact ⟨_, _, vs, _, file, tf, hl, hv, d2⟩
            · cases d2
          · cases d2
        · split at d3
          · rename_i z1 z2 D z3 hl
            obtain rfl := of_decide_eq_true d3
            exact ⟨_, _, _, hl⟩
          · cases d3
      · cases c17
    | _ => cases c17
/-! ### the hook -/
abbrev Chk := Frag → Bool
abbrev AlW : Type := Bool × List He.FnW × List FnE
def obsW (prog : Program) (fa : List Chk) (fn : List He5.DefA) (er : List ErD) (K : Frag) : AlW :=
  ((fa.all fun f => f K) && ((fn.all fun d => d.ok K) && er.all fun e => e.ok prog K), fn.map (fun d => He5.fnA K (d.at_ K)), er.map fun e => fnE K e.x)
def valW (fn : List He5.DefA) (er : List ErD) : AlW := (true, fn.map He5.DefA.val, er.map ErD.val)
def SaysW (prog : Program) (fa : List Chk) (fn : List He5.DefA) (er : List ErD) (K : Frag) : Prop := obsW prog fa fn er K = valW fn er
def obsWG (prog : Program) (n : Nat) (fa : List Chk) (fn : List He5.DefA) (er : List ErD) (g : Addr → Option Obj) : AlW := obsW prog fa fn er (He.frG g (He5.asA g n))
def hookW (prog : Program) (n : Nat) (fa : List Chk) (fn : List He5.DefA) (er : List ErD) : PySem.W.Hook where
  α := AlW
  obs := fun s => obsWG prog n fa fn er s.heap.get?
  val := fun _ => valW fn er
  says := fun _ h => ∃ K : Frag, K.In h ∧ SaysW prog fa fn er K
  of := fun _ _ e => ⟨_, He.frG_in, e⟩
  keeps := fun _ _ _ ⟨K, hK, c⟩ k => ⟨K, PySem.W.Frag.In.keeps hK k, c⟩
theorem obsWG_eq {prog : Program} {n : Nat} {fa : List Chk} {fn : List He5.DefA} {er : List ErD} {g : Addr → Option Obj} {s : Shared} (h : ∀ a, g a = s.heap.get? a) : obsWG prog n fa fn er g = (hookW prog n fa fn er).obs s := by
  have e : g = s.heap.get? := funext h
  subst e
  rfl
section
variable {prog : Program} {fa : List Chk} {fn : List He5.DefA} {er : List ErD} {K : Frag}
theorem SaysW.fact (c : SaysW prog fa fn er K) (i : Nat) {f : Chk} (h : fa[i]? = some f := by rfl) : f K = true :=
  List.all_eq_true.mp (ba (congrArg (fun z : AlW => z.1) c)).1 f (List.mem_of_getElem? h)
theorem SaysW.def_ (c : SaysW prog fa fn er K) (i : Nat) {d : He5.DefA} (h : fn[i]? = some d := by rfl) : ∃ fd, L2.FunD K d.name d.qual d.params d.body d.scope (d.dvs K) (d.kws K) (d.at_ K) fd := by
  have e : fn.map (fun d => He5.fnA K (d.at_ K)) = fn.map He5.DefA.val := congrArg (fun z : AlW => z.2.1) c
  have e2 := congrArg (fun l => l[i]?) e
  simp only [List.getElem?_map, h] at e2
  exact He5.DefA.funD (Option.some.inj e2) (List.all_eq_true.mp (ba (ba (congrArg (fun z : AlW => z.1) c)).2).1 d (List.mem_of_getElem? h))
theorem SaysW.err (c : SaysW prog fa fn er K) (i : Nat) {e : ErD} (h : er[i]? = some e := by rfl) : e.ok prog K = true ∧ fnE K e.x = e.val := by
  have e1 : er.map (fun e => fnE K e.x) = er.map ErD.val := congrArg (fun z : AlW => z.2.2) c
  have e2 := congrArg (fun l => l[i]?) e1
  simp only [List.getElem?_map, h] at e2
  exact ⟨List.all_eq_true.mp (ba (ba (congrArg (fun z : AlW => z.1) c)).2).2 e (List.mem_of_getElem? h), Option.some.inj e2⟩
end
/-! ### facts -/
def cGlo (x : Str) : Chk := fun K => eqO (PySem.W.nsIn K mainGlobals x) (some (some (.ref (ga K x))))
def cFree (x : Str) : Chk := fun K => eqO (PySem.W.nsIn K mainGlobals x) (some none)
def cFa (f : He.Fa) : Chk := fun K => f.ok K
theorem glo_ok {K : Frag} {h : Heap} {mg : Str → Option Value} (X : K.In h) (G : h.Ns mainGlobals mg) {x : Str} (c : cGlo x K = true) : mg x = some (.ref (ga K x)) := PySem.W.mg_of X G (eqO_ok c)
theorem free_ok {K : Frag} {h : Heap} {mg : Str → Option Value} (X : K.In h) (G : h.Ns mainGlobals mg) {x : Str} (c : cFree x K = true) : mg x = none := PySem.W.mg_none_of X G (eqO_ok c)
end WH
set_option Elab.async false
set_option linter.all false
set_option maxRecDepth 100000
set_option maxHeartbeats 4000000
namespace L2
open PySem PySem.Spec PyProof.Rows
open He (ga ma)
/-! ### a def of the module by its name: what it is, what it promises -/
def FnF (K : PySem.W.Frag) (mg : Str → Option Value) (x : Str) (st : Stmt) : Prop := ∃ fd, Fun K x x st (ga K x) fd ∧ mg x = some (.ref (ga K x))
def FnK (P : Program) (w : World) (K : PySem.W.Frag) (mg : Str → Option Value) (base : Heap) (CX : CXT) (k : Nat) (x : Str) (ps : List Str) (sp : Sp) : Prop :=
  ∃ fd, FnOk P w K mg base CX k (ga K x) fd ps sp ∧ Binds K fd ps [] ∧ PySem.W.keepIn K (.ref (ga K x)) = true ∧ mg x = some (.ref (ga K x))
def FnKG (P : Program) (w : World) (K : PySem.W.Frag) (mg : Str → Option Value) (base : Heap) (CX : CXT) (k : Nat) (x : Str) (ps : List Str) (sp : Sp) : Prop :=
  ∃ fd, FnG P w K mg base CX k (ga K x) fd ps sp ∧ Binds K fd ps [] ∧ PySem.W.keepIn K (.ref (ga K x)) = true ∧ mg x = some (.ref (ga K x))
abbrev BindRow (x : Str) (st : Stmt) (ps : List Str) : Prop := ∀ (kV doc pm : Value) (an : Option Addr) (cdv ct : Value) (us : List Value), us.length = ps.length → bindArgs (PySem.W.fnOf x x (defArgs st) (defBody st) (defScope st) .none kV doc pm an cdv ct) ⟨us, []⟩ = pure (ps.zip us)
section
variable {P : Program} {w : World} {K : PySem.W.Frag} {mg : Str → Option Value} {base : Heap} {CX : CXT} {j k : Nat} {x : Str} {st : Stmt} {N ps : List Str} {sp : Sp}
theorem FnK.mono (F : FnK P w K mg base CX j x ps sp) (h : j ≤ k) : FnK P w K mg base CX k x ps sp := let ⟨fd, a, b⟩ := F; ⟨fd, a.mono h, b⟩
theorem FnKG.mono (F : FnKG P w K mg base CX j x ps sp) (h : j ≤ k) : FnKG P w K mg base CX k x ps sp := let ⟨fd, a, b⟩ := F; ⟨fd, a.mono h, b⟩
theorem FnK.g (F : FnK P w K mg base CX k x ps sp) : FnKG P w K mg base CX k x ps sp := let ⟨fd, a, b⟩ := F; ⟨fd, a.g, b⟩
theorem FnF.ok (F : FnF K mg x st) (S : FnScope N ps (defScope st)) (hb : BindRow x st ps) (len : ∀ vs H Q E, sp vs H Q E → vs.length = ps.length)
    (hbody : ∀ (cdv : Value) (A : Around) (outer : List Env) (s : Shared) (H : Hp) (vs : List V) (Q : VK) (E : XK), Room k (A.deeper (envOfC x (defScope st) s.heap.objs.size (ga K x) cdv)) → sp vs H Q E →
      ∃ t, PSs (cxOf CX0 P w K mg base N x (defScope st) (ga K x) cdv A outer s H E).nox (defBody st) t ∧ t { nx := fun _ H' => Q .non H', rt := Q } (start N vs) H) : FnK P w K mg base CX0 (k + 1) x ps sp := by
  obtain ⟨fd, F, hm⟩ := F
  exact ⟨fd, F.ok S len hbody, F.binds hb, F.kp, hm⟩
theorem FnF.okX (F : FnF K mg x st) (S : FnScope N ps (defScope st)) (hb : BindRow x st ps) (len : ∀ vs H Q E, sp vs H Q E → vs.length = ps.length)
    (hbody : ∀ (cdv : Value) (A : Around) (outer : List Env) (s : Shared) (H : Hp) (vs : List V) (Q : VK) (E : XK), Room k (A.deeper (envOfC x (defScope st) s.heap.objs.size (ga K x) cdv)) → sp vs H Q E →
      ∃ t, PSs (cxOf (L2.CX P w) P w K mg base N x (defScope st) (ga K x) cdv A outer s H E) (defBody st) t ∧ t { nx := fun _ H' => Q .non H', rt := Q } (start N vs) H) : FnK P w K mg base (L2.CX P w) (k + 1) x ps sp := by
  obtain ⟨fd, F, hm⟩ := F
  exact ⟨fd, F.okX S len hbody, F.binds hb, F.kp, hm⟩
theorem FnF.okG (F : FnF K mg x st) (S : FnScope N ps (defScope st)) (hb : BindRow x st ps) (len : ∀ vs H Q E, sp vs H Q E → vs.length = ps.length)
    (hbody : ∀ (cdv : Value) (A : Around) (outer : List Env) (s : Shared) (H : Hp) (vs : List V) (Q : VK) (E : XK), (A.deeper (envOfC x (defScope st) s.heap.objs.size (ga K x) cdv)).guards = some [] → Room k (A.deeper (envOfC x (defScope st) s.heap.objs.size (ga K x) cdv)) → sp vs H Q E →
      ∃ t, PSs (cxOf CX0 P w K mg base N x (defScope st) (ga K x) cdv A outer s H E).nox (defBody st) t ∧ t { nx := fun _ H' => Q .non H', rt := Q } (start N vs) H) : FnKG P w K mg base CX0 (k + 1) x ps sp := by
  obtain ⟨fd, F, hm⟩ := F
  have hB := F.binds hb
  have hP := F.kp
  obtain ⟨oc, od, kV, doc, pm, an, cdv, ct, osl, rfl, lk, hcd⟩ := F.ex
  refine ⟨_, fnG_of lk hcd S len fun A outer s H vs Q E hA hr hsp => ?_, hB, hP, hm⟩
  obtain ⟨t, h, q⟩ := hbody cdv A outer s H vs Q E hA hr hsp
  exact ⟨t, h.nox, q⟩
end
section
variable {X : Cx} {CX : CXT} {k : Nat} {ps : List Str} {sp : Sp} {E : XK} {x : Str} {p pos : Pos} {e : Expr} {es : List Expr} {t : TA}
/-- f(e, ..) -/
theorem pe_callF (F : FnK X.prog X.w X.K X.mg X.base CX k x ps sp) (hr : Room k X.A) (hx : Passes CX X E) (ha : PA X (e :: es) t) (hg : Gl X x := by rfl) (hdb : (x == ("__debug__" : Str)) = false := by decide)
    (he : starEach (e :: es) X.env = (false, eval e X.env) :: starEach es X.env := by rfl) (hpl : (backTo pos (starEach es X.env)).any (·.1) = false := by rfl) : PE X (.Call (.Name x p) (e :: es) [] pos) (tCall sp [] E t) :=
  let ⟨_, a, b, c, d⟩ := F; pe_call a hr hg d c b .nil hx ha hdb he hpl
theorem pe_callFG (hA : X.A.guards = some []) (F : FnKG X.prog X.w X.K X.mg X.base CX k x ps sp) (hr : Room k X.A) (hx : Passes CX X E) (ha : PA X (e :: es) t) (hg : Gl X x := by rfl) (hdb : (x == ("__debug__" : Str)) = false := by decide)
    (he : starEach (e :: es) X.env = (false, eval e X.env) :: starEach es X.env := by rfl) (hpl : (backTo pos (starEach es X.env)).any (·.1) = false := by rfl) : PE X (.Call (.Name x p) (e :: es) [] pos) (tCall sp [] E t) :=
  let ⟨_, a, b, c, d⟩ := F; pe_callG hA a hr hg d c b .nil hx ha hdb he hpl
/-- f(e, ..), f may raise; E by the caller's slots -/
theorem pe_callFS {E : St → XK} (F : FnK X.prog X.w X.K X.mg X.base CX k x ps sp) (hr : Room k X.A) (hx : ∀ σ, PassesAt CX X σ (E σ)) (ha : PA X (e :: es) t) (hg : Gl X x := by rfl) (hdb : (x == ("__debug__" : Str)) = false := by decide)
    (he : starEach (e :: es) X.env = (false, eval e X.env) :: starEach es X.env := by rfl) (hpl : (backTo pos (starEach es X.env)).any (·.1) = false := by rfl) : PE X (.Call (.Name x p) (e :: es) [] pos) (tCallS sp E t) :=
  let ⟨_, a, b, c, d⟩ := F; pe_callS a hr hg d c b hx ha hdb he hpl
end
end L2
set_option Elab.async false
set_option linter.all false
set_option maxRecDepth 100000
set_option maxHeartbeats 4000000
namespace L2
open PySem PySem.Spec PyProof.Rows
open Evl (Ex Ev EvA EvT EvL EvU)
open TL (tl)
/-! ### the bag of the draws; G: the heap of what never changes -/
def BagOk (xs : List V) : Prop := ∃ d m c : Int, xs = [.int d, .int m, .int c] ∧ 0 ≤ d ∧ 0 ≤ m ∧ m < 2 ^ 63
structure Stt (b : Addr) (G H : Hp) : Prop where
  sub : Ex G H
  nb : G b = none
  bag : ∃ xs, H b = some (.lst xs) ∧ BagOk xs
theorem Ex.none_of {G H : Hp} {p : Addr} (e : Ex G H) (h : H p = none) : G p = none := by
  cases q : G p with
  | none => rfl
  | some o => rw [e p o q] at h; cases h
theorem Stt.ex {b : Addr} {G H H' : Hp} (s : Stt b G H) (e : Ex H H') : Stt b G H' := by
  obtain ⟨xs, h, k⟩ := s.bag
  exact ⟨s.sub.trans e, s.nb, xs, e _ _ h, k⟩
theorem Stt.new {b p : Addr} {G H : Hp} {o : HO} (s : Stt b G H) (hp : H p = none) : Stt b (upd G p o) (upd H p o) := by
  obtain ⟨xs, h, k⟩ := s.bag
  have hb : b ≠ p := ne_of_none h hp
  refine ⟨fun a u e => ?_, ?_, xs, ?_, k⟩
  · by_cases ha : a = p
    · subst ha; rw [upd_same] at e ⊢; exact e
    · rw [upd_ne ha] at e ⊢; exact s.sub a u e
  · rw [upd_ne hb]; exact s.nb
  · rw [upd_ne hb]; exact h
theorem Stt.exN {b p : Addr} {G H : Hp} {o : HO} (s : Stt b G H) (hp : H p = none) : Ex G (upd G p o) := Ex.new (Ex.none_of s.sub hp)
theorem Stt.less {b : Addr} {G G' H : Hp} (s : Stt b G' H) (e : Ex G G') : Stt b G H := ⟨e.trans s.sub, Ex.none_of e s.nb, s.bag⟩
theorem Stt.put {b : Addr} {G H : Hp} {xs : List V} (s : Stt b G H) (k : BagOk xs) : Stt b G (upd H b (.lst xs)) := by
  refine ⟨fun a u e => ?_, s.nb, xs, upd_same, k⟩
  have ha : a ≠ b := ne_of_none e s.nb
  rw [upd_ne ha]
  exact s.sub a u e
/-- x = e, e one of several values; the heap stays -/
theorem asg_or {te : TE} {i : Nat} {D : Ends} {σ : St} {H : Hp} (Pv : V → Prop) (h : ∀ Q : VK, (∀ v, Pv v → Q v H) → te σ H Q) (k : ∀ v, Pv v → D.nx (σ.set i (some v)) H) : tAsg te (gName i) D σ H := h _ k
theorem asg_orH {te : TE} {i : Nat} {D : Ends} {σ : St} {H : Hp} (Pv : V → Hp → Prop) (h : ∀ Q : VK, (∀ v H', Pv v H' → Q v H') → te σ H Q) (k : ∀ v H', Pv v H' → D.nx (σ.set i (some v)) H') : tAsg te (gName i) D σ H := h _ k
/-- if c: .., c's answer by a word; the heap stays -/
theorem ifS_or {c : TT} {t1 t2 : TS} {D : Ends} {σ : St} {H : Hp} (Pb : Bool → Prop) (h : ∀ Q : Bool → Hp → Prop, (∀ b, Pb b → Q b H) → c σ H Q) (h1 : Pb true → t1 D σ H) (h2 : Pb false → t2 D σ H) : tIfS c t1 t2 D σ H := by
  refine h _ fun b hb => ?_
  cases b with
  | true => exact iteT (h1 hb)
  | false => exact iteF (h2 hb)
theorem yesT {σ : St} {H : Hp} {F G : Hp → Prop} (h : F H) : tYes σ H (fun b H3 => if b = true then F H3 else G H3) := by
  show (if true = true then F H else G H)
  exact iteT h
/-- _law_take(bag, many) -/
def spTake : Sp := fun vs H Q _ => ∃ (b : Addr) (many : Int) (G : Hp), vs = [.ref b, .int many] ∧ 0 < many ∧ many ≤ 10 ^ 60 ∧ Stt b G H ∧ ∀ (r : Int) (H' : Hp), 0 ≤ r → r < many → Stt b G H' → Q (.int r) H'
/-- _law_of(bag, some): a list, a text -/
def spOf (K : PySem.W.Frag) : Sp := fun vs H Q _ => ∃ (b : Addr) (G : Hp) (x : V), vs = [.ref b, x] ∧ Stt b G H ∧
  ((∃ (a : Addr) (xs : List V), x = .ref a ∧ SqL K G a xs ∧ xs ≠ [] ∧ xs.length ≤ 1000 ∧ ∀ (v : V) (H' : Hp), v ∈ xs → Stt b G H' → Q v H') ∨
   (∃ z : Str, x = .str z ∧ tl z ≠ [] ∧ z.length ≤ 1000 ∧ ∀ (c : Nat) (H' : Hp), c ∈ tl z → Stt b G H' → Q (.str ⟨#[c]⟩) H'))
theorem sz10 {n : Nat} (h : n ≤ 1000) : n ≤ sizeLine := Nat.le_trans h (by decide)
theorem mod_small {a b : Int} (h0 : 0 < b) (h : b ≤ 2 ^ 63) : -(2 ^ 64) < a % b ∧ a % b < 2 ^ 64 := by
  have h1 := Int.emod_nonneg a (show b ≠ 0 by omega)
  have h2 := Int.emod_lt_of_pos a h0
  omega
theorem pow_small {a m : Int} (hm : 0 ≤ m) (hm2 : m < 2 ^ 63) : CPow (a % 2305843009213693951 / 64 + m) 2 := by
  have h1 := Int.emod_nonneg a (show (2305843009213693951 : Int) ≠ 0 by decide)
  have h2 := Int.emod_lt_of_pos a (show (0 : Int) < 2305843009213693951 by decide)
  exact ⟨by decide, by decide, by omega⟩
theorem div_ok {i j : Int} (h0 : 0 < j) (h : j ≤ 10 ^ 60) : CDivW i j := by
  refine wide_div (b := 200) h0 ?_ (by decide) (by decide)
  have h1 : (10 : Int) ^ 60 < 2 ^ 200 := by decide
  have h2 : j < 2 ^ 200 := by omega
  have h3 : (j.natAbs : Int) = j := Int.natAbs_of_nonneg (by omega)
  have h4 : ((2 ^ 200 : Nat) : Int) = (2 : Int) ^ 200 := by decide
  omega
end L2
set_option Elab.async false
set_option linter.all false
set_option maxRecDepth 100000
set_option maxHeartbeats 4000000
namespace L2
open PySem PySem.Spec PyProof.Rows
open Evl (Ex Ev EvA EvT EvL EvU)
open TL (tl)
/-! ### names -/
def NameL (l : List Nat) : Prop := 1 ≤ l.length ∧ l.length ≤ 8 ∧ ∀ c ∈ l, 97 ≤ c ∧ c ≤ 122
abbrev NameS (z : Str) : Prop := NameL (tl z)
def abc : Str := "abcdefghijklmnopqrstuvwxyz"
theorem abc_tl : tl abc = (List.range 26).map (97 + ·) := by decide +kernel
theorem abc_len : abc.length = 26 := by decide +kernel
theorem abc_mem {c : Nat} (h : c ∈ tl abc) : 97 ≤ c ∧ c ≤ 122 := by
  rw [abc_tl] at h
  obtain ⟨i, hi, rfl⟩ := List.mem_map.mp h
  have := List.mem_range.mp hi
  omega
theorem abc_in {c : Nat} (h : 97 ≤ c ∧ c ≤ 122) : c ∈ tl abc := by
  rw [abc_tl]
  exact List.mem_map.mpr ⟨c - 97, List.mem_range.mpr (by omega), by omega⟩
theorem abc_at {i : Nat} (h : i < 26) : atI (tl abc) (i : Int) = some (97 + i) := by
  refine atI_nat ?_
  rw [abc_tl, List.getElem?_map, List.getElem?_range h]
  rfl
theorem inV_str (z : Str) (l : List Str) : inV (.str z) (l.map V.str) = decide (z ∈ l) := by
  unfold inV
  rw [List.any_map]
  induction l with
  | nil => rfl
  | cons y r ih =>
    rw [List.any_cons, ih]
    have e : ((fun y => eqV y (V.str z)) ∘ V.str) y = (y == z) := rfl
    rw [e]
    by_cases h : y = z
    · subst h; simp
    · have h1 : (y == z) = false := by simpa using h
      have h2 : z ≠ y := fun e => h e.symm
      rw [h1]
      simp [h2]
theorem flat_strs (l : List Str) : (l.map V.str).all flatV = true := by
  rw [List.all_map]
  exact List.all_eq_true.mpr fun _ _ => rfl
/-! ### slices -/
theorem tl_cut_to (z : Str) {i : Nat} (h : i ≤ (tl z).length) : tl (cutS z none (some (i : Int))) = (tl z).take i := by
  show ((tl z).drop (HT.sIx z.length 0 none)).take _ = _
  rw [HT.sIx_none, HT.sIx_nat, TL.len_tl z, Nat.min_eq_left h]
  rfl
theorem tl_cut_from (z : Str) {i : Nat} (h : i ≤ (tl z).length) : tl (cutS z (some (i : Int)) none) = (tl z).drop i := by
  show ((tl z).drop (HT.sIx z.length 0 (some (i : Int)))).take _ = _
  rw [HT.sIx_none, HT.sIx_nat, TL.len_tl z, Nat.min_eq_left h]
  exact List.take_of_length_le (by rw [List.length_drop]; omega)
theorem set_cut {l : List Nat} {i c : Nat} (h : i < l.length) : l.take i ++ [c] ++ l.drop (i + 1) = l.set i c := by
  rw [List.set_eq_take_append_cons_drop, if_pos h]
  simp
theorem NameL.set {l : List Nat} {i c : Nat} (n : NameL l) (hc : 97 ≤ c ∧ c ≤ 122) : NameL (l.set i c) := by
  obtain ⟨a, b, d⟩ := n
  refine ⟨by rw [List.length_set]; exact a, by rw [List.length_set]; exact b, fun x hx => ?_⟩
  rcases List.mem_or_eq_of_mem_set hx with h | h
  · exact d x h
  · subst h; exact hc
/-! ### pigeons -/
theorem nodup_len {α : Type} [DecidableEq α] : ∀ {l m : List α}, l.Nodup → (∀ x ∈ l, x ∈ m) → l.length ≤ m.length
  | [], _, _, _ => Nat.zero_le _
  | a :: l, m, nd, h => by
    have h1 : a ∈ m := h a List.mem_cons_self
    have nd' := List.nodup_cons.mp nd
    have ih := nodup_len (l := l) (m := m.erase a) nd'.2 fun x hx => by
      have hne : x ≠ a := by rintro rfl; exact nd'.1 hx
      exact (List.mem_erase_of_ne hne).mpr (h x (List.mem_cons_of_mem _ hx))
    rw [List.length_erase_of_mem h1] at ih
    have := List.length_pos_of_mem h1
    rw [List.length_cons]
    omega
/-- the word with another letter at a place -/
def wordAt (l : List Nat) (sp f j : Nat) : Str := ⟨(l.set sp (97 + (f + j) % 26)).toArray⟩
theorem wordAt_inj {l : List Nat} {sp f i j : Nat} (hs : sp < l.length) (hi : i < 26) (hj : j < 26) (e : wordAt l sp f i = wordAt l sp f j) : i = j := by
  have e1 : l.set sp (97 + (f + i) % 26) = l.set sp (97 + (f + j) % 26) := congrArg tl e
  have e2 := congrArg (fun m => m[sp]?) e1
  simp only [List.getElem?_set_self hs] at e2
  have e3 := Option.some.inj e2
  omega
theorem words_many {l : List Nat} {sp f : Nat} {taken : List Str} (hs : sp < l.length) (h : ∀ j < 26, wordAt l sp f j ∈ taken) : 26 ≤ taken.length := by
  have h1 : ((List.range 26).map (wordAt l sp f)).Nodup := by
    refine List.pairwise_map.mpr (List.Pairwise.imp_of_mem ?_ List.nodup_range)
    intro a b ha hb hne e
    exact hne (wordAt_inj hs (List.mem_range.mp ha) (List.mem_range.mp hb) e)
  have h2 := nodup_len h1 fun x hx => by
    obtain ⟨j, hj, rfl⟩ := List.mem_map.mp hx
    exact h j (List.mem_range.mp hj)
  simpa using h2
/-! ### texts joined -/
theorem tl_join0 (ys : List Str) : tl (Txt.join Str.empty ys) = (ys.map tl).flatten := by
  rw [TL.join_eq, TL.tl_join]
  show TL.joinL [] (ys.map tl) = _
  generalize ys.map tl = l
  induction l with
  | nil => rfl
  | cons p r ih =>
    cases r with
    | nil => simp [TL.joinL]
    | cons q r => show p ++ ([] ++ TL.joinL [] (q :: r)) = _; rw [ih]; simp
/-! ### the state with an object more, or a list that grows -/
theorem Stt.with {b p : Addr} {G H : Hp} {o : HO} (s : Stt b G H) (hp : H p = some o) (hb : p ≠ b) : Stt b (upd G p o) H := by
  refine ⟨fun a u e => ?_, ?_, s.bag⟩
  · by_cases ha : a = p
    · subst ha; rw [upd_same] at e; rw [hp]; exact e
    · rw [upd_ne ha] at e; exact s.sub a u e
  · rw [upd_ne hb.symm]; exact s.nb
theorem Stt.exW {b p : Addr} {G H : Hp} {o : HO} (s : Stt b G H) (hp : H p = some o) : Ex G (upd G p o) := fun a u e => by
  by_cases ha : a = p
  · subst ha; rw [upd_same, ← hp]; exact s.sub _ _ e
  · rw [upd_ne ha]; exact e
theorem Stt.mut {b p : Addr} {G H : Hp} {o : HO} (s : Stt b G H) (hp : G p = none) (hb : p ≠ b) : Stt b G (upd H p o) := by
  obtain ⟨xs, h, k⟩ := s.bag
  refine ⟨fun a u e => ?_, s.nb, xs, ?_, k⟩
  · rw [upd_ne (ne_of_none e hp)]; exact s.sub a u e
  · rw [upd_ne hb.symm]; exact h
theorem Stt.free {b p : Addr} {G H : Hp} (s : Stt b G H) (hp : H p = none) : G p = none ∧ p ≠ b := by
  obtain ⟨xs, h, k⟩ := s.bag
  exact ⟨Ex.none_of s.sub hp, (ne_of_none h hp).symm⟩
end L2
set_option Elab.async false
set_option linter.all false
set_option maxRecDepth 100000
set_option maxHeartbeats 4000000
namespace L2
open PySem PySem.Spec PyProof.Rows
open Evl (Ex Ev EvA EvT EvL EvU)
open TL (tl)
theorem sz5 {n : Nat} (h : n ≤ 100000) : n ≤ sizeLine := Nat.le_trans h (by decide)
theorem sz5l {n : Nat} (h : n < 100000) : n < sizeLine := Nat.lt_of_lt_of_le h (by decide)
/-- [e for x in ..], e pure: the new list holds f 0, f 1, .. -/
theorem lc_name {J : It} {n : Nat} {G : Hp → Prop} {Y : Nat → Hp → V → Hp → Prop} (wk : Walk J n G Y) {te : TE} {vs : List Nat} {σ : St} {H1 : Hp} {D : Addr} {Qd : Hp → Prop} {j : Nat} (f : Nat → V)
    (hD : H1 D = none) (hG : ∀ H, Ex H1 H → G H) (hn : n ≤ 100000) (hw : ∀ x, wipe (List.set (wipe σ vs) j (some x)) vs = wipe σ vs)
    (hs : ∀ i x H H', i < n → Ex H1 H → Y i H x H' → H' = H ∧ ∀ Qe : VK, (∀ H'', Ex H H'' → Qe (f i) H'') → te (List.set (wipe σ vs) j (some x)) H Qe)
    (hd : ∀ H, Ex H1 H → H D = some (.lst ((List.range n).map f)) → Qd H) :
    ∃ W : Nat → Nat → Hp → Prop, (∃ m, W 0 m (upd H1 D (.lst []))) ∧ ∀ i m H, W i m H →
      (J.stop i H ∧ Qd H) ∨ (J.go i H ∧ ∃ Nx : Hp → Prop, (∀ H', Nx H' → ∃ m', m' < m ∧ W (i + 1) m' H') ∧ ∀ x H', J.yld i H x H' → gName j x (wipe σ vs) H' fun σ2 H2 => wipe σ2 vs = wipe σ vs ∧ tYes σ2 H2 fun b H3 =>
        if b = true then te σ2 H3 fun y H4 => ∃ acc, H4 D = some (.lst acc) ∧ acc.length < sizeLine ∧ Nx (upd H4 D (.lst (acc ++ [y]))) else Nx H3) := by
  refine lc_it wk (fun i H => Ex H1 H ∧ H D = some (.lst ((List.range i).map f))) ⟨Ex.new hD, upd_same⟩ (fun i H _ h => hG H h.1) ?_ (fun H h => hd H h.1 h.2)
  rintro i x H H' hi ⟨e1, e2⟩ y
  obtain ⟨rfl, h⟩ := hs i x H H' hi e1 y
  refine ⟨hw x, yesT (h _ fun H'' ex => ?_)⟩
  refine ⟨_, ex _ _ e2, sz5l (by rw [List.length_map, List.length_range]; omega), Ex.mut (e1.trans ex) hD, ?_⟩
  rw [upd_same, List.range_succ, List.map_append]
  rfl
/-- texts, sign by sign -/
theorem str_at {z : Str} {i : Nat} {c : Nat} (h : z.cps[i]? = some c) : (tl z)[i]? = some c := by
  rw [← h]
  simp [tl]
theorem range_tl {α : Type} (z : Str) (g : Nat → α) (f : Nat → α) (h : ∀ i c, (tl z)[i]? = some c → f i = g c) : (List.range (tl z).length).map f = (tl z).map g := by
  apply List.ext_getElem?
  intro i
  rw [List.getElem?_map, List.getElem?_map]
  by_cases hi : i < (tl z).length
  · rw [List.getElem?_range hi, List.getElem?_eq_getElem hi]
    show some (f i) = some (g (tl z)[i])
    rw [h i _ (List.getElem?_eq_getElem hi)]
  · rw [List.getElem?_eq_none (by rw [List.length_range]; omega), List.getElem?_eq_none (by omega)]
    rfl
theorem range_list {α β : Type} (xs : List β) (g : β → α) (f : Nat → α) (h : ∀ i x, xs[i]? = some x → f i = g x) : (List.range xs.length).map f = xs.map g := by
  apply List.ext_getElem?
  intro i
  rw [List.getElem?_map, List.getElem?_map]
  by_cases hi : i < xs.length
  · rw [List.getElem?_range hi, List.getElem?_eq_getElem hi]
    show some (f i) = some (g xs[i])
    rw [h i _ (List.getElem?_eq_getElem hi)]
  · rw [List.getElem?_eq_none (by rw [List.length_range]; omega), List.getElem?_eq_none (by omega)]
    rfl
theorem size_tl (z : Str) : z.cps.size = (tl z).length := by simp [tl]
/-- a module's constant -/
theorem pe_gv {X : Cx} {x : Str} {v : V} {pos : Pos} (h : ∃ u, X.mg x = some u ∧ RelV v u) (hg : Gl X x := by rfl) (hd : (x == ("__debug__" : Str)) = false := by decide) : PE X (.Name x pos) (tC v) :=
  let ⟨_, a, r⟩ := h; pe_glob hg a r hd
/-! ### data -/
abbrev BoolD (b : Bool) : V := .bl b
/-- a value's type -/
def tyD : PyData → String
  | .none => "NoneType"
  | .bool _ => "bool"
  | .int _ => "int"
  | .str _ => "str"
  | .list _ => "list"
  | .tuple _ => "tuple"
  | .dict _ => "dict"
theorem tyx_of {K : PySem.W.Frag} {H : Hp} {v : V} {d : PyData} (h : Dp K H v d) : TyX K H v (.type (tyD d)) := by
  cases h with
  | non => exact .base .non
  | bl b => exact .base (.bl b)
  | int i => exact .base (.int i)
  | str x => exact .base (.str x)
  | @lst a xs ds h1 _ =>
    rcases h1 with (h1 | ⟨o, h1⟩) | ⟨o, its, n, h1, h2, _⟩
    · exact .base (.lst h1)
    · exact .base (.frz h1)
    · exact .kList h1 h2
  | @tup a xs ds h1 _ =>
    rcases h1 with (h1 | ⟨o, h1⟩) | ⟨o, its, n, h1, h2, _⟩
    · exact .base (.tup h1)
    · exact .fTuple h1
    · exact .kTuple h1 h2
def isInt : PyData → Bool
  | .int _ => true
  | .bool _ => true
  | _ => false
def isBool : PyData → Bool
  | .bool _ => true
  | _ => false
def isStr : PyData → Bool
  | .str _ => true
  | _ => false
def isTup : PyData → Bool
  | .tuple _ => true
  | _ => false
theorem kit_int {K : PySem.W.Frag} : ∀ d : PyData, PySem.W.kitOne K (.type (tyD d)) (.type "int") = some (isInt d)
  | .none => kit_ty (show kitB "NoneType" "int" = some false by decide +kernel)
  | .bool _ => kit_ty (show kitB "bool" "int" = some true by decide +kernel)
  | .int _ => kit_ty (show kitB "int" "int" = some true by decide +kernel)
  | .str _ => kit_ty (show kitB "str" "int" = some false by decide +kernel)
  | .list _ => kit_ty (show kitB "list" "int" = some false by decide +kernel)
  | .tuple _ => kit_ty (show kitB "tuple" "int" = some false by decide +kernel)
  | .dict _ => kit_ty (show kitB "dict" "int" = some false by decide +kernel)
theorem kit_bool {K : PySem.W.Frag} : ∀ d : PyData, PySem.W.kitOne K (.type (tyD d)) (.type "bool") = some (isBool d)
  | .none => kit_ty (show kitB "NoneType" "bool" = some false by decide +kernel)
  | .bool _ => kit_ty (show kitB "bool" "bool" = some true by decide +kernel)
  | .int _ => kit_ty (show kitB "int" "bool" = some false by decide +kernel)
  | .str _ => kit_ty (show kitB "str" "bool" = some false by decide +kernel)
  | .list _ => kit_ty (show kitB "list" "bool" = some false by decide +kernel)
  | .tuple _ => kit_ty (show kitB "tuple" "bool" = some false by decide +kernel)
  | .dict _ => kit_ty (show kitB "dict" "bool" = some false by decide +kernel)
theorem kit_str {K : PySem.W.Frag} : ∀ d : PyData, PySem.W.kitOne K (.type (tyD d)) (.type "str") = some (isStr d)
  | .none => kit_ty (show kitB "NoneType" "str" = some false by decide +kernel)
  | .bool _ => kit_ty (show kitB "bool" "str" = some false by decide +kernel)
  | .int _ => kit_ty (show kitB "int" "str" = some false by decide +kernel)
  | .str _ => kit_ty (show kitB "str" "str" = some true by decide +kernel)
  | .list _ => kit_ty (show kitB "list" "str" = some false by decide +kernel)
  | .tuple _ => kit_ty (show kitB "tuple" "str" = some false by decide +kernel)
  | .dict _ => kit_ty (show kitB "dict" "str" = some false by decide +kernel)
theorem kit_tup {K : PySem.W.Frag} : ∀ d : PyData, PySem.W.kitOne K (.type (tyD d)) (.type "tuple") = some (isTup d)
  | .none => kit_ty (show kitB "NoneType" "tuple" = some false by decide +kernel)
  | .bool _ => kit_ty (show kitB "bool" "tuple" = some false by decide +kernel)
  | .int _ => kit_ty (show kitB "int" "tuple" = some false by decide +kernel)
  | .str _ => kit_ty (show kitB "str" "tuple" = some false by decide +kernel)
  | .list _ => kit_ty (show kitB "list" "tuple" = some false by decide +kernel)
  | .tuple _ => kit_ty (show kitB "tuple" "tuple" = some true by decide +kernel)
  | .dict _ => kit_ty (show kitB "dict" "tuple" = some false by decide +kernel)
mutual
theorem Dp.ex {K : PySem.W.Frag} {H H' : Hp} (e : Ex H H') : ∀ {d : PyData} {v : V}, Dp K H v d → Dp K H' v d
  | _, _, .non => .non
  | _, _, .bl b => .bl b
  | _, _, .int i => .int i
  | _, _, .str x => .str x
  | _, _, .lst h1 h2 => .lst (Evl.ex_l e h1) (DpAll.ex e h2)
  | _, _, .tup h1 h2 => .tup (Evl.ex_t e h1) (DpAll.ex e h2)
theorem DpAll.ex {K : PySem.W.Frag} {H H' : Hp} (e : Ex H H') : ∀ {ds : List PyData} {vs : List V}, DpAll K H vs ds → DpAll K H' vs ds
  | _, _, .nil => .nil
  | _, _, .cons h1 h2 => .cons (Dp.ex e h1) (DpAll.ex e h2)
end
end L2
set_option Elab.async false
set_option linter.all false
set_option maxRecDepth 100000
set_option maxHeartbeats 4000000
namespace L2
open PySem PySem.Spec PyProof.Rows
/-- C.m is a staticmethod: its record at p, its def at g -/
structure SMet (K : PySem.W.Frag) (C : Addr) (m : Str) (p g : Addr) : Prop where
  rd : ClX.CRead K C (.type "type")
  at_ : PySem.W.findCls K (.ref C) (.type "type") m = some (.get (.builtin "staticmethod.__get__") (.ref p) .none (.ref C))
  rc : ∃ rest, PySem.W.recIn K p "staticmethod" = some (.ref g :: rest)
/-- C.m(..) -/
def tSMeth (C : Addr) (sp : Sp) (E : St → XK) (ta : TE) (t : TA) : TE := fun σ H Q => ta σ H fun x H1 => x = .ref C ∧ t σ H1 fun vs H2 => sp vs H2 Q (E σ)
section
variable {X : Cx} {CX : CXT} {k : Nat} {C p g : Addr} {fd : FuncData} {ps : List Str} {sp : Sp} {E : St → XK} {o e : Expr} {es : List Expr} {m : Str} {pos apos : Pos} {ta : TE} {t : TA} {pl : Sem Bool}
theorem pe_smeth (he : PE X o ta) (c : SMet X.K C m p g) (F : FnOk X.prog X.w X.K X.mg X.base CX k g fd ps sp) (hr : Room k X.A) (hk : PySem.W.keepIn X.K (.ref g) = true) (hb : Binds X.K fd ps []) (hx : ∀ σ, PassesAt CX X σ (E σ)) (ha : PA X (e :: es) t)
    (hst : starEach (e :: es) X.env = (false, eval e X.env) :: starEach es X.env := by rfl) (hpl : (backTo pos (starEach es X.env)).any (·.1) = false := by rfl)
    (ht : eval (.Call (.Attribute o m apos) (e :: es) [] pos) X.env = (do
      let ov ← eval o X.env
      standAt apos.atName
      let (f, first) ← holding [ov] (getMethod ov m pl)
      callWith pos f first (backTo pos (starEach (e :: es) X.env)) (backToKw pos (keywordEach [] X.env))) := by rfl) :
    PE X (.Call (.Attribute o m apos) (e :: es) [] pos) (tSMeth C sp E ta t) := by
  refine ⟨fun pins s σ H Q I h => ?_⟩
  refine PySem.W.methodCall_KW (pl := pl) (thn (he.run pins s σ H _ I h) fun u s1 ⟨x, H1, I1, rx, ex, q⟩ => ?_) ht
  subst ex
  obtain rfl : u = Value.ref C := rx
  obtain ⟨rest, hp⟩ := c.rc
  refine PySem.W.method_cls I1.kIn c.rd.ga (PySem.W.cls_bind I1.kIn c.rd.rd c.at_ ?_)
  refine wpAny_call (PySem.W.sm_get (s := { s1 with toks := s1.toks + 1 }) I1.kIn hp (PySem.W.handed_on rfl ?_))
  have I2 : Inv X pins σ H1 { s1 with toks := s1.toks + 1 } := I1.tok _
  refine PySem.W.callWith_K (first := []) (h₀ := X.base) I.ok.mod.kin hk (thn (ha.run pos pins _ σ H1 _ I2 q) fun us s3 ⟨vs, H2, I3, rv, q2⟩ => ⟨I3.kIn, ?_⟩) hst hpl
  exact run_fnS F hr hb (hx σ) I3 rv q2
end
/-- an error of the class is what «except C» names -/
theorem _root_.PySem.WErr.ErrTxt.te {prog : Program} {K : PySem.W.Frag} {mg : Str → Option Value} {x fl : Str} {C fI : Addr} (T : PySem.WErr.ErrTxt prog K mg x fl C fI) : PySem.W.exmOne K (.ref C) (.ref C) = some true := by
  obtain ⟨nm, q, N, bs, bm, sn, sub, ab, col, dd, k0, k1, k2, k3, k5, hC, hbm⟩ := T.cls
  have h2 : (PySem.W.clsIn K C).isSome = true := by unfold PySem.W.clsIn; rw [hC]; rfl
  have e1 : (PySem.W.subIn K (.ref C) (.type "BaseException") == some true) = true := by rw [T.exC]; rfl
  have e2 : ((PySem.W.clsIn K C).isSome && PySem.W.typeIn K (.ref C) == some (.type "type")) = true := by rw [h2, T.tyC]; rfl
  show (if (PySem.W.subIn K (.ref C) (.type "BaseException") == some true) = true then (if ((PySem.W.clsIn K C).isSome && PySem.W.typeIn K (.ref C) == some (.type "type")) = true then PySem.W.subIn K (.ref C) (.ref C) else none) else none) = some true
  rw [if_pos e1, if_pos e2]
  exact T.own
/-- if c: .., by a word of the answer and the heap -/
theorem ifS_orH {c : TT} {t1 t2 : TS} {D : Ends} {σ : St} {H : Hp} (Pb : Bool → Hp → Prop) (h : ∀ Q : Bool → Hp → Prop, (∀ b H', Pb b H' → Q b H') → c σ H Q) (h1 : ∀ H', Pb true H' → t1 D σ H') (h2 : ∀ H', Pb false H' → t2 D σ H') : tIfS c t1 t2 D σ H := by
  refine h _ fun b H' hb => ?_
  cases b with
  | true => exact iteT (h1 H' hb)
  | false => exact iteF (h2 H' hb)
/-! ### a def at any address (a method, a staticmethod): what it is, what it promises -/
def MtF (K : PySem.W.Frag) (x qual : Str) (st : Stmt) (f : Addr) : Prop := ∃ fd, Fun K x qual st f fd
def MtK (P : Program) (w : World) (K : PySem.W.Frag) (mg : Str → Option Value) (base : Heap) (CX : CXT) (k : Nat) (f : Addr) (ps : List Str) (sp : Sp) : Prop :=
  ∃ fd, FnOk P w K mg base CX k f fd ps sp ∧ Binds K fd ps [] ∧ PySem.W.keepIn K (.ref f) = true
abbrev BindRowQ (x qual : Str) (st : Stmt) (ps : List Str) : Prop := ∀ (kV doc pm : Value) (an : Option Addr) (cdv ct : Value) (us : List Value), us.length = ps.length → bindArgs (PySem.W.fnOf x qual (defArgs st) (defBody st) (defScope st) .none kV doc pm an cdv ct) ⟨us, []⟩ = pure (ps.zip us)
section
variable {P : Program} {w : World} {K : PySem.W.Frag} {mg : Str → Option Value} {base : Heap} {CX : CXT} {j k : Nat} {x qual : Str} {st : Stmt} {f : Addr} {N ps : List Str} {sp : Sp}
theorem MtK.mono (F : MtK P w K mg base CX j f ps sp) (h : j ≤ k) : MtK P w K mg base CX k f ps sp := let ⟨fd, a, b⟩ := F; ⟨fd, a.mono h, b⟩
theorem MtF.ok (F : MtF K x qual st f) (S : FnScope N ps (defScope st)) (hb : BindRowQ x qual st ps) (len : ∀ vs H Q E, sp vs H Q E → vs.length = ps.length)
    (hbody : ∀ (cdv : Value) (A : Around) (outer : List Env) (s : Shared) (H : Hp) (vs : List V) (Q : VK) (E : XK), Room k (A.deeper (envOfC qual (defScope st) s.heap.objs.size f cdv)) → sp vs H Q E →
      ∃ t, PSs (cxOf CX0 P w K mg base N qual (defScope st) f cdv A outer s H E).nox (defBody st) t ∧ t { nx := fun _ H' => Q .non H', rt := Q } (start N vs) H) : MtK P w K mg base CX0 (k + 1) f ps sp := by
  obtain ⟨fd, F⟩ := F
  exact ⟨fd, F.ok S len hbody, F.binds hb, F.kp⟩
theorem MtF.okX (F : MtF K x qual st f) (S : FnScope N ps (defScope st)) (hb : BindRowQ x qual st ps) (len : ∀ vs H Q E, sp vs H Q E → vs.length = ps.length)
    (hbody : ∀ (cdv : Value) (A : Around) (outer : List Env) (s : Shared) (H : Hp) (vs : List V) (Q : VK) (E : XK), Room k (A.deeper (envOfC qual (defScope st) s.heap.objs.size f cdv)) → sp vs H Q E →
      ∃ t, PSs (cxOf (L2.CX P w) P w K mg base N qual (defScope st) f cdv A outer s H E) (defBody st) t ∧ t { nx := fun _ H' => Q .non H', rt := Q } (start N vs) H) : MtK P w K mg base (L2.CX P w) (k + 1) f ps sp := by
  obtain ⟨fd, F⟩ := F
  exact ⟨fd, F.okX S len hbody, F.binds hb, F.kp⟩
end
theorem pe_smethF {X : Cx} {CX : CXT} {k : Nat} {C p g : Addr} {ps : List Str} {sp : Sp} {E : St → XK} {o e : Expr} {es : List Expr} {m : Str} {pos apos : Pos} {ta : TE} {t : TA} {pl : Sem Bool} (he : PE X o ta) (c : SMet X.K C m p g) (F : MtK X.prog X.w X.K X.mg X.base CX k g ps sp) (hr : Room k X.A) (hx : ∀ σ, PassesAt CX X σ (E σ)) (ha : PA X (e :: es) t)
    (hst : starEach (e :: es) X.env = (false, eval e X.env) :: starEach es X.env := by rfl) (hpl : (backTo pos (starEach es X.env)).any (·.1) = false := by rfl)
    (ht : eval (.Call (.Attribute o m apos) (e :: es) [] pos) X.env = (do
      let ov ← eval o X.env
      standAt apos.atName
      let (f, first) ← holding [ov] (getMethod ov m pl)
      callWith pos f first (backTo pos (starEach (e :: es) X.env)) (backToKw pos (keywordEach [] X.env))) := by rfl) :
    PE X (.Call (.Attribute o m apos) (e :: es) [] pos) (tSMeth C sp E ta t) :=
  let ⟨_, a, b, c'⟩ := F; pe_smeth he c a hr c' b hx ha hst hpl ht
end L2

namespace WH
open PySem PySem.Spec PyProof.Rows L2
open He (ga ma ba eqO eqO_ok)
def mkD (x : Str) (st : Stmt) : He5.DefA := ⟨fun K => ga K x, x, x, defArgs st, defBody st, defScope st, [], []⟩
def mkS (C m q : Str) (st : Stmt) : He5.DefA := ⟨fun K => He5.wf K (ga K C) "staticmethod" m, m, q, defArgs st, defBody st, defScope st, [], []⟩
/-- a staticmethod of a class, read off the class -/
def cSm (C m : Str) : Chk := fun K => He5.wrapB K (ga K C) "staticmethod" "staticmethod.__get__" m && (PySem.W.readsIn K (ga K C) (.type "type") && eqO (PySem.W.specialIn K (.ref (ga K C)) "__getattribute__") (some (some (.builtin "type.__getattribute__"))))
theorem smet_ok {K : Frag} {C m : Str} (c : cSm C m K = true) : SMet K (ga K C) m (ma K (ga K C) m) (He5.wf K (ga K C) "staticmethod" m) := by
  obtain ⟨c1, c2⟩ := ba c
  obtain ⟨c2, c3⟩ := ba c2
  obtain ⟨h1, h2⟩ := He5.wrapB_ok c1
  exact ⟨⟨c2, eqO_ok c3⟩, h1, h2⟩
end WH
set_option Elab.async false
set_option linter.all false
set_option maxRecDepth 100000
set_option maxHeartbeats 4000000
namespace L2
open PySem PySem.Spec PyProof.Rows
open TL (tl)
/-! ### data that may be compared and shown -/
mutual
/-- ints below 10^100, texts of plain signs, no dicts -/
def gd : PyData → Bool
  | .none => true
  | .bool _ => true
  | .int i => decide (i.natAbs < 10 ^ 100)
  | .str x => (tl x).all fun c => decide (c < 128)
  | .list xs => gdAll xs
  | .tuple xs => gdAll xs
  | .dict _ => false
def gdAll : List PyData → Bool
  | [] => true
  | x :: xs => gd x && gdAll xs
end
mutual
/-- a bound of the signs that show it -/
def wt : PyData → Nat
  | .none => 4
  | .bool _ => 5
  | .int _ => 101
  | .str x => 10 * x.length + 2
  | .list xs => wtAll xs + 3
  | .tuple xs => wtAll xs + 3
  | .dict _ => 0
def wtAll : List PyData → Nat
  | [] => 0
  | x :: xs => wt x + 2 + wtAll xs
end
set_option exponentiation.threshold 3000 in
theorem log2_small {n : Nat} (h : n < 10 ^ 100) : n.log2 < 1920 := by
  by_cases h0 : n = 0
  · subst h0; decide
  · exact (Nat.log2_lt h0).mpr (Nat.lt_of_lt_of_le h (by decide))
mutual
theorem gd_can : ∀ d : PyData, gd d = true → d.canLay0 = true
  | .none, _ => rfl
  | .bool _, _ => rfl
  | .int _, _ => rfl
  | .str x, h => by
    have h1 : (tl x).all (fun c => decide (c < 128)) = true := by simpa [gd] using h
    simp only [PyData.canLay0, PyData.strOk]
    rw [← Array.all_toList]
    refine List.all_eq_true.mpr fun c hc => ?_
    have h2 : c < 128 := of_decide_eq_true (List.all_eq_true.mp h1 c hc)
    simp
    omega
  | .list xs, h => by
    simp only [PyData.canLay0]
    exact gd_canAll xs (by simpa [gd] using h)
  | .tuple xs, h => by
    simp only [PyData.canLay0]
    exact gd_canAll xs (by simpa [gd] using h)
  | .dict _, h => by simp [gd] at h
theorem gd_canAll : ∀ xs : List PyData, gdAll xs = true → PyData.canLayAll0 xs = true
  | [], _ => rfl
  | x :: xs, h => by
    have h' : gd x = true ∧ gdAll xs = true := by simpa [gdAll] using h
    simp only [PyData.canLayAll0, gd_can x h'.1, gd_canAll xs h'.2, Bool.and_self]
end
mutual
theorem gd_showable : ∀ d : PyData, gd d = true → d.showable = true
  | .none, _ => rfl
  | .bool _, _ => rfl
  | .int i, h => by
    simp only [PyData.showable]
    exact decide_eq_true (log2_small (of_decide_eq_true (by simpa [gd] using h)))
  | .str _, _ => rfl
  | .list xs, h => by
    simp only [PyData.showable]
    exact gd_showableAll xs (by simpa [gd] using h)
  | .tuple xs, h => by
    simp only [PyData.showable]
    exact gd_showableAll xs (by simpa [gd] using h)
  | .dict _, h => by simp [gd] at h
theorem gd_showableAll : ∀ xs : List PyData, gdAll xs = true → PyData.showableAll xs = true
  | [], _ => rfl
  | x :: xs, h => by
    have h' : gd x = true ∧ gdAll xs = true := by simpa [gdAll] using h
    simp only [PyData.showableAll, gd_showable x h'.1, gd_showableAll xs h'.2, Bool.and_self]
end
mutual
theorem gd_nodict : ∀ d : PyData, gd d = true → d.hasDict = false
  | .none, _ => rfl
  | .bool _, _ => rfl
  | .int _, _ => rfl
  | .str _, _ => rfl
  | .list xs, h => by
    simp only [PyData.hasDict]
    exact gd_nodictAll xs (by simpa [gd] using h)
  | .tuple xs, h => by
    simp only [PyData.hasDict]
    exact gd_nodictAll xs (by simpa [gd] using h)
  | .dict _, h => by simp [gd] at h
theorem gd_nodictAll : ∀ xs : List PyData, gdAll xs = true → PyData.hasDictAll xs = false
  | [], _ => rfl
  | x :: xs, h => by
    have h' : gd x = true ∧ gdAll xs = true := by simpa [gdAll] using h
    simp only [PyData.hasDictAll, gd_nodict x h'.1, gd_nodictAll xs h'.2, Bool.or_self]
end
mutual
theorem gd_len : ∀ d : PyData, gd d = true → d.shown.length ≤ wt d
  | .none, _ => by simp only [PyData.shown, wt]; decide
  | .bool b, _ => by cases b <;> (simp only [PyData.shown, wt]; decide)
  | .int i, h => by
    simp only [PyData.shown, wt]
    have h1 : i.natAbs < 10 ^ 100 := of_decide_eq_true (by simpa [gd] using h)
    have h2 := int_text_length_le10 (k := 100) (by decide) h1
    have h3 : (Str.ofString (toString i)).length = (toString i).length := by
      rw [TL.len_tl, TL.tl_ofString, List.length_map]
      exact String.length_toList
    rw [show ((toString i : String) : Str) = Str.ofString (toString i) from rfl, h3]
    exact h2
  | .str x, h => by
    simp only [PyData.shown, wt]
    refine StrLaws.reprText_len x fun c hc => ?_
    have h1 : (tl x).all (fun c => decide (c < 128)) = true := by simpa [gd] using h
    have h2 : c < 128 := of_decide_eq_true (List.all_eq_true.mp h1 c hc)
    exact Nat.lt_trans h2 (by decide)
  | .list xs, h => by
    simp only [PyData.shown, wt]
    have h1 := gd_lenAll xs (by simpa [gd] using h)
    have h2 := listText_len_le (PyData.shownAll xs)
    omega
  | .tuple xs, h => by
    simp only [PyData.shown, wt]
    have h1 := gd_lenAll xs (by simpa [gd] using h)
    have h2 := tupleText_len_le (PyData.shownAll xs)
    omega
  | .dict _, h => by simp [gd] at h
theorem gd_lenAll : ∀ xs : List PyData, gdAll xs = true → ((PyData.shownAll xs).map (·.length)).sum + 2 * (PyData.shownAll xs).length ≤ wtAll xs
  | [], _ => by simp [PyData.shownAll, wtAll]
  | x :: xs, h => by
    have h' : gd x = true ∧ gdAll xs = true := by simpa [gdAll] using h
    have h1 := gd_len x h'.1
    have h2 := gd_lenAll xs h'.2
    simp only [PyData.shownAll, wtAll, List.map_cons, List.sum_cons, List.length_cons]
    omega
end
/-- what repr and == ask -/
structure Gd (d : PyData) : Prop where
  g : gd d = true
  w : wt d ≤ 10000000
  dp : d.depth ≤ 60
theorem Gd.shaped {d : PyData} (h : Gd d) : SeqAt.shaped d = true := by
  unfold SeqAt.shaped
  rw [gd_can d h.g, decide_eq_true (Nat.le_trans h.dp (by decide))]
  rfl
theorem Gd.shown {d : PyData} (h : Gd d) : d.shown.length ≤ sizeLine := Nat.le_trans (gd_len d h.g) (Nat.le_trans h.w (by rw [sizeLine_eq]; decide))
theorem Gd.refl {d : PyData} (h : Gd d) : PyData.eqv d d = true := SeqAt.eqv_refl d (gd_can d h.g)
/-- _law_same(one, other), of the same data -/
def spSame (K : PySem.W.Frag) : Sp := fun vs H Q _ => ∃ (x y : V) (d e : PyData), vs = [x, y] ∧ Dp K H x d ∧ Dp K H y e ∧ Gd d ∧ Gd e ∧ Q (.bl (PyData.eqv d e && decide (d.shown = e.shown))) H
end L2
set_option Elab.async false
set_option linter.all false
set_option maxRecDepth 100000
set_option maxHeartbeats 4000000
namespace L2
open PySem PySem.Spec PyProof.Rows
open He (ga ma)
/-- the law's call, its promise kept where no repr is under way -/
theorem lawK {P : Program} {w : World} {K : PySem.W.Frag} {mg mb : Str → Option Value} {CX : CXT} {k : Nat} {fa a : Addr} {x : Str} {sp : Sp} {s₁ : Shared} {vs : List Value} {ns : List Int}
    (KX : K.In s₁.heap) (hns : s₁.heap.Ns mainGlobals mg) (hb : s₁.heap.Ns builtinsNs mb) (hbb : ∀ x : Str, x ≠ "__name__" → mb x = bootBuiltins x) (hlim : s₁.heap.NoLimit) (hg : s₁.gens = #[])
    (ha : s₁.heap.get? a = some { cls := .type "list", data := .seq vs.toArray }) (hi : IntsAre vs ns) (hl : ns.length ≤ sizeLine) (hr : Room k callerA)
    (F : ∀ base : Heap, K.In base → base.Ns mainGlobals mg → ∃ fd, FnG P w K mg base CX k fa fd [x] sp ∧ Binds K fd [x] [])
    (hsp : ∀ H : Hp, Only H → SqL K H a (ns.map V.int) → sp [.ref a] H (fun v _ => v = .bl true) fun _ _ _ => False)
    (hCX : ∀ H e s', CX [] H s₁ (fun _ _ _ => False) e s' → False) :
    codeAny (model P w) callerA (.call (.ref fa) ⟨[.ref a], []⟩) (fun r s' => r = .ok (.ret (.bool true)) ∧ OldK s₁.heap s'.heap ∧ s'.os = s₁.os ∧ AllBare s'.gens) s₁ := by
  have rv := vals_ints hi
  have lenV := hi.length
  have main : ∀ H : Hp, Only H → SqL K H a (ns.map V.int) → HOk P w H s₁.heap → (∀ b, H b ≠ none → b = a) → (H a ≠ none → K.lookup a = none) →
      codeAny (model P w) callerA (.call (.ref fa) ⟨[.ref a], []⟩) (fun r s' => r = .ok (.ret (.bool true)) ∧ OldK s₁.heap s'.heap ∧ s'.os = s₁.os ∧ AllBare s'.gens) s₁ := by
    intro H hO hS hok hA hK
    have dictFree : ∀ {b : Addr} {o : Obj} {es : Array DictEntry} {ep : Nat}, s₁.heap.get? b = some o → o.data = .dict es ep → H b = none := by
      intro b o es ep e d
      by_cases q : H b = none
      · exact q
      · obtain rfl := hA b q
        rw [ha] at e
        cases e
        cases d
    have nsK : ∀ {b : Addr} {m : Str → Option Value}, s₁.heap.Ns b m → (hidT s₁.heap H).Ns b m := by
      rintro b m ⟨o, es, ep, e, d, r⟩
      exact ⟨o, es, ep, hidT_get e (dictFree e d), d, r⟩
    have hKb : K.In (hidT s₁.heap H) := by
      intro b o e
      refine hidT_get (KX b o e) ?_
      by_cases q : H b = none
      · exact q
      · obtain rfl := hA b q
        rw [hK q] at e
        cases e
    have hM : Mod K mg (hidT s₁.heap H) := by
      obtain ⟨mc, h1, h2⟩ := hlim
      exact ⟨hKb, nsK hns, ⟨mb, nsK hb, hbb⟩, ⟨mc, nsK h1, h2⟩⟩
    have e0 : Env0 P w K mg (hidT s₁.heap H) callerA [] s₁ H :=
      { frames := rfl, mod := hM, bs := fun b o e => of_hidT e, bsz := Nat.le_of_eq (hidT_size _ _), funs := trivial, frf := fun b hb => (nomatch (show b ∈ ([] : List Addr) from hb)), hok := hok, bare := .of_eq hg }
    obtain ⟨fd, hFF, hbind⟩ := F _ hKb (nsK hns)
    refine codeAny_mono (hFF.run callerA rfl [] s₁ H ⟨[.ref a], []⟩ [.ref a] [.ref a] _ _ hr e0 (hbind s₁ [.ref a] KX rfl) (.cons rfl .nil) (hsp H hO hS)) fun r s' h => ?_
    match r, h with
    | .error e, h => exact (hCX H e s' h).elim
    | .ok .next, h => exact False.elim h
    | .ok .brk, h => exact False.elim h
    | .ok .cont, h => exact False.elim h
    | .ok (.ret u), h =>
      obtain ⟨v, H', os, bare, un, hok', r', q⟩ := h
      obtain rfl : v = .bl true := q
      obtain rfl : u = Value.bool true := r'
      refine ⟨rfl, OldK.of_keep fun b o e => ?_, os, bare⟩
      rcases hO b with z | ⟨ob, xs, z⟩
      · exact un.keep b o e z (fun y => (nomatch (show b ∈ ([] : List Addr) from y))) (fun y => (nomatch y))
      · have e1 := (hok b _ z).1
        rw [e] at e1
        cases e1
        exact (hok' b _ (un.frzs b _ _ z)).1
  by_cases hk : K.lookup a = none
  · refine main (fun b => if b = a then some (.frz { cls := .type "list", data := .seq vs.toArray } (.lst (ns.map V.int))) else none) (fun b => ?_) (.inl (.inr ⟨_, if_pos rfl⟩)) (fun b u z => ?_) (fun b z => ?_) fun _ => hk
    · by_cases hb : b = a
      · exact .inr ⟨_, _, if_pos hb⟩
      · exact .inl (if_neg hb)
    · by_cases hb : b = a
      · subst hb
        have z' := (if_pos rfl).symm.trans z
        cases z'
        exact ⟨ha, by rw [List.length_map]; exact hl, vs, _, rv, ha⟩
      · exact nomatch (if_neg hb).symm.trans z
    · by_cases hb : b = a
      · exact hb
      · exact absurd (if_neg hb) z
  · obtain ⟨o, hk⟩ := Option.ne_none_iff_exists'.mp hk
    have e := KX a o hk
    rw [ha] at e
    cases e
    exact main (fun _ => none) (fun _ => .inl rfl) (.inr ⟨_, vs.toArray, _, hk, rfl, rfl, rfl, by rw [List.size_toArray, lenV]; exact hl, by simpa using rv⟩) (fun b u z => nomatch (show (none : Option HO) = some u from z)) (fun b z => absurd rfl z) fun z => absurd rfl z
theorem walkK {l : PySem.W.OpenLaw} {n k : Nat} {q : Program} {loose : List Str} {XP : (Str → Option Value) → Heap → Prop} {YP : World → Heap → Prop} {d : DefRec} {CX : CXT} {x : Str}
    (hn : l.most = some n) (hn2 : n ≤ sizeLine) (hdf : d.params.defaults = []) (hr : Room k callerA) (hname : d.name = ("law" : Str))
    (F : ∀ (w : World) (mg : Str → Option Value) (h : Heap), YP w h → h.Ns mainGlobals mg →
      ∃ (K : PySem.W.Frag) (sp : Sp), K.In h ∧ (∀ (H : Hp) (a : Addr) (ns : List Int), ns.length ≤ n → Only H → SqL K H a (ns.map V.int) → sp [.ref a] H (fun v _ => v = .bl true) fun _ _ _ => False) ∧
        ∀ base : Heap, FnKG l.prog w K mg base CX k "law" [x] sp)
    (hCX : ∀ (H : Hp) (s : Shared) (e : Value) (s' : Shared), CX [] H s (fun _ _ _ => False) e s' → False) :
    PySem.W.WalkO q loose XP YP l.row.toRowW d [] (fun f vs => PySem.call f vs) :=
  Att.attach_call hn hdf fun w s₀ s₁ mg mb fa o pm cd doc a vs ns G Y ho hd hcd hmg hobj hints hlen hg => by
    obtain ⟨K, sp, KX, hsp, hF⟩ := F w mg _ Y G.T.g
    rw [hname] at hmg
    refine lawK (x := x) KX G.T.g G.T.b G.T.builtins G.T.nolimit hg hobj hints (Nat.le_trans hlen hn2) hr (fun base _ _ => ?_) (fun H hO hS => hsp H a ns hlen hO hS) fun H e s' => hCX H s₁ e s'
    obtain ⟨fd, f1, f2, _, f3⟩ := hF base
    have e := hmg.symm.trans f3
    obtain rfl : fa = ga K "law" := by cases e; rfl
    exact ⟨fd, f1, f2⟩
end L2
set_option Elab.async false
set_option linter.all false
set_option maxRecDepth 100000
set_option maxHeartbeats 4000000
namespace PySem
namespace WErr
open PySem.W PySem.Calls PyProof.Rows PySem.HandSPX
/-! an own error of the package with none, one or two fields -/
structure PsN where
  (a1 a2 a3 a5 a6 a7 : Pos) (k : Nat) (txt : Str) (qs : List (Pos × Pos × Pos × Pos))
def asN (f : Str) (q : Pos × Pos × Pos × Pos) : Stmt := .Assign [.Attribute (.Name "self" q.1) f q.2.1] (.Name f q.2.2.1) q.2.2.2
def eBN (fls : List Str) (p : PsN) : List Stmt :=
  .Expr (.Call (.Attribute (.Call (.Name "super" p.a1) [] [] p.a2) "__init__" p.a3) [.Constant (.str p.txt) p.k p.a5] [] p.a6) p.a7 :: List.zipWith asN fls p.qs
def eSN (fls : List Str) : Scope := { kind := .function, names := (("self" : Str), NameKind.local) :: (fls.map (fun f => (f, NameKind.local)) ++ [(("__class__" : Str), NameKind.free), (("super" : Str), NameKind.globalImplicit)]), isGenerator := false, isCoroutine := false, more := [] }
structure ErrTxtN (prog : Program) (K : Frag) (mg : Str → Option Value) (x : Str) (fls : List Str) (C fI : Addr) : Prop where
  gC : mg x = some (.ref C)
  cls : ∃ nm q N bs bm sn sub ab col dd k0 k1 k2 k3 k5, K.lookup C = some (excClassObj nm q C N bs bm true sn sub ab col dd k0 k1 k2 k3 k5 "ValueError.__new__") ∧ refsVE bm = true
  sa : findIn K (.ref C) "__setattr__" = some (some (.builtin "object.__setattr__"))
  xf : L2.XfC K C
  noF : ∀ f ∈ fls, findIn K (.ref C) f = some none
  iC : findIn K (.ref C) "__init__" = some (some (.ref fI))
  tC : typeIn K (.ref fI) = some (.type "function")
  kC : keepIn K (.ref C) = true
  exC : subIn K (.ref C) (.type "BaseException") = some true
  tyC : typeIn K (.ref C) = some (.type "type")
  sup : ks_superIn K C C "__init__" = some (some (.builtin "ValueError.__init__"))
  ve : subIn K (.ref C) (.type "ValueError") = some true
  any : nsIn K cStatics "thirdparty.any" = some none
  own : mroIn K C (.ref C) = some true
  gS : mg "super" = none
  htop : (prog.main.scope.names.lookup ("super" : Str)).isSome = false
  few : fls = [] ∨ (∃ f, fls = [f]) ∨ ∃ f g, fls = [f, g] ∧ f ≠ g
  fn : ∃ (oc : Value) (od : Option Addr) (qual : Str) (params : Arguments) (doc pm kV : Value) (an : Option Addr) (cda cc : Addr) (ct : Value) (osl : Array (Option Value)) (p : PsN) (ar : Arg),
    K.lookup fI = some ⟨oc, od, .func (ksFn "__init__" qual params (eBN fls p) (eSN fls) .none kV doc pm an (.ref cda) ct cc), osl⟩ ∧ codeIn K (.ref cda) qual = true ∧ p.qs.length = fls.length ∧
    (params.posonlyargs ++ params.args).head? = some ar ∧ ar.arg = "self" ∧
    (∃ ccl cdd vs ccs file tf, K.lookup cda = some ⟨ccl, cdd, .fields vs, ccs⟩ ∧ vs[2]? = some (.str file tf) ∧ ((prog.main.file : Str) == file) = true) ∧
    (∃ cl cld csl, K.lookup cc = some ⟨cl, cld, .cell (some (.ref C)), csl⟩) ∧
    (eSN fls).names.lookup ("super" : Str) = some .globalImplicit ∧ (eSN fls).names.lookup ("__class__" : Str) = some .free ∧ (eSN fls).names.lookup ("self" : Str) = some .local ∧ (∀ f ∈ fls, (eSN fls).names.lookup f = some .local) ∧
    (∀ f ∈ fls, f ≠ "self" ∧ (f == ("__debug__" : Str)) = false) ∧
    (∀ L f : Addr, ∃ pl : Sem Bool, eval (.Call (.Attribute (.Call (.Name "super" p.a1) [] [] p.a2) "__init__" p.a3) [.Constant (.str p.txt) p.k p.a5] [] p.a6) (ksEnv qual (eSN fls) L f (.ref cda) cc) = (do
      let ov ← attributeBase (.Call (.Name "super" p.a1) [] [] p.a2) "__init__" (ksEnv qual (eSN fls) L f (.ref cda) cc) (eval (.Call (.Name "super" p.a1) [] [] p.a2) (ksEnv qual (eSN fls) L f (.ref cda) cc))
      standAt p.a3.atName
      let (f1, first) ← holding [ov] (getMethod ov "__init__" pl)
      callWith p.a6 f1 first (backTo p.a6 (starEach [.Constant (.str p.txt) p.k p.a5] (ksEnv qual (eSN fls) L f (.ref cda) cc))) [])) ∧
    (∀ (a : Value) (us : List Value), us.length = fls.length → bindArgs (ksFn "__init__" qual params (eBN fls p) (eSN fls) .none kV doc pm an (.ref cda) ct cc) ⟨a :: us, []⟩ = pure ((("self" : Str), a) :: fls.zip us))
theorem len_two {α : Type} {l : List α} (h : l.length = 2) : ∃ a b, l = [a, b] := by
  match l, h with
  | [a, b], _ => exact ⟨a, b, rfl⟩
def mOf : List (Str × Value) → Str → Option Value
  | [] => fun _ => none
  | (f, v) :: r => fun y => if y = f then some v else mOf r y
/-- what __init__ leaves of a fresh exception at x -/
structure InitEndN (h h' : Heap) (x C t1 : Addr) (od : Option Addr) (fs : List (Str × Value)) : Prop where
  keep : ∀ b o, b ≠ x → h.get? b = some o → h'.get? b = some o
  obj : h'.get? x = some { cls := .ref C, dict := od, data := .fields #[.ref t1, .none, .none, .none, .bool false, .none] }
  dict : (od = none ∧ fs = []) ∨ ∃ dx, od = some dx ∧ h.objs.size ≤ dx ∧ dx ≠ x ∧ h'.Ns1 dx (mOf fs)
section
variable {prog : Program} {w : World} {A : Around} {E : Value → Shared → Prop} {R : Result → Shared → Prop} {s : Shared} {K : Frag} {mg mb : Str → Option Value} {x0 : Str} {fls : List Str} {C fI : Addr}
theorem err_initN (T : ErrTxtN prog K mg x0 fls C fI) {x t0 : Addr} {us : List Value} (hus : us.length = fls.length) (X : K.In s.heap) (hlim : s.heap.NoLimit) (hg : s.heap.Ns mainGlobals mg) (hb : s.heap.Ns builtinsNs mb) (hbb : ∀ x : Str, x ≠ "__name__" → mb x = bootBuiltins x)
    (hx : s.heap.get? x = some (excO C t0)) (hnx : K.lookup x = none) (hroom : A.depth < recursionLimit)
    (hq : ∀ h' tk t1 od, InitEndN s.heap h' x C t1 od (fls.zip us).reverse → R (.ok (.ret .none)) { s with heap := h', toks := tk }) :
    codeAny (model prog w) A (.call (.ref fI) ⟨.ref x :: us, []⟩) R s := by
  obtain ⟨oc, od, qual, params, doc, pm, kV, an, cda, cc, ct, osl, p, ar, ho, hcd, hpq, hp, har, ⟨ccl, cdd, vs, ccs, file, tf, hcode, hvs, hfile⟩, ⟨cl, cld, csl, hcell⟩, hks, hkc, hka, hkF, hFs, hev, hbind⟩ := T.fn
  obtain ⟨nm, q, N, bs, bm, sn, sub, ab, col, dd, k0, k1, k2, k3, k5, hC, hbm⟩ := T.cls
  have hcl : clsIn K C = some { name := nm, bases := bs, mro := .ref C :: bm, ns := N, qualname := q, hasDict := true, slotNames := sn, subclasses := sub, abstract := ab, collection := col, hasDel := false } := by unfold clsIn; rw [hC] <;> rfl
  refine ks_codeAny_call_defAt (fd := ksFn "__init__" qual params (eBN fls p) (eSN fls) .none kV doc pm an (.ref cda) ct cc) (body := eBN fls p) (binds := (("self" : Str), .ref x) :: fls.zip us) hroom (X _ _ ho) rfl hlim (codeRec_of X hcd) rfl (BindsTo.of_eq (hbind _ _ hus)) ?hnc ?_ (fun h₁ hns hk₁ => ?_) rfl rfl rfl
  case hnc =>
    intro y hy
    simp only [eSN, List.mem_cons, List.mem_append, List.mem_map, List.not_mem_nil, or_false] at hy
    rcases hy with rfl | ⟨f, _, rfl⟩ | rfl | rfl <;> (intro z; cases z)
  · intro y hy
    rcases List.mem_cons.mp hy with rfl | hy
    · exact hka
    · exact hkF y.1 (List.of_mem_zip (show (y.1, y.2) ∈ fls.zip us from hy)).1
  have hk : (eSN fls).kind = .function := rfl
  have X₁ : K.In h₁ := X.keeps hk₁
  have hx₁ := hk₁ _ _ hx
  have I₁ : InstAt h₁ x (excO C t0) C none := ⟨hx₁, rfl, rfl, trivial⟩
  have hmS : (fun y => List.lookup y (List.reverse ((("self" : Str), Value.ref x) :: fls.zip us))) "self" = some (.ref x) := by
    show List.lookup ("self" : Str) (List.reverse ((("self" : Str), Value.ref x) :: fls.zip us)) = _
    rw [List.reverse_cons]
    have hno : ∀ l : List (Str × Value), (∀ p ∈ l, p.1 ≠ ("self" : Str)) → List.lookup ("self" : Str) (l ++ [(("self" : Str), Value.ref x)]) = some (Value.ref x) := by
      intro l hl
      induction l with
      | nil => simp [List.lookup]
      | cons p r ih =>
        have h1 := hl p List.mem_cons_self
        have h2 : (("self" : Str) == p.1) = false := by
          have : ("self" : Str) ≠ p.1 := fun e => h1 e.symm
          simpa using this
        rw [List.cons_append, List.lookup_cons, h2]
        exact ih fun z hz => hl z (List.mem_cons_of_mem _ hz)
    refine hno _ fun p hp => ?_
    exact (hFs p.1 (List.of_mem_zip (show (p.1, p.2) ∈ fls.zip us from List.mem_reverse.mp hp)).1).1
  have hCo₁ := X₁ _ _ hC
  -- super().__init__(text)
  obtain ⟨pl, hev1⟩ := hev s.heap.objs.size fI
  show _root_.PySem.wpAt _ _ _ (execs (_ :: List.zipWith asN fls p.qs) _) _ _ _
  refine ks_wpAt_execs_cons (ks_wpAt_Expr_any (ks_wpAt_MethodCall ?_ hev1) (by rfl) (by rfl))
  refine ks_wpAt_super_base (env := ksEnv qual (eSN fls) s.heap.objs.size fI (.ref cda) cc) hks hkc (by decide) rfl (X₁ _ _ ho) rfl hp rfl (X₁ _ _ hcode) rfl hvs hfile T.htop ?_
  refine ks_loadName_global hk hks (loadGlobal_builtin (env := ksEnv qual (eSN fls) s.heap.objs.size fI (.ref cda) cc) (hg.keeps hk₁) T.gS (hb.keeps hk₁) ((hbb _ (by decide +kernel)).trans Boot.«super») ⟨rfl, ?_⟩)
  refine wpAny_loadName_free hk hkc rfl ⟨_, X₁ _ _ hcell, rfl⟩ ?_
  rw [har]
  refine wpAny_loadName_local hk hka hns hmS ?_
  refine ks_wpAny_isType_cls hCo₁ rfl ⟨rfl, ?_⟩
  refine ks_wpAny_call_super hCo₁ rfl hx₁ rfl (fun c e => by cases e) (looks_mroIn X₁ T.own) (fun h₂ hso k₂ => ?_)
  have X₂ : K.In h₂ := X₁.keeps k₂
  have hx₂ := k₂ _ _ hx₁
  have I₂ : InstAt h₂ x (excO C t0) C none := ⟨hx₂, rfl, rfl, trivial⟩
  have hsup := T.sup
  unfold ks_superIn at hsup
  rw [hcl] at hsup
  refine kxs_getMethod kxs_ValueError hso (looks_opaque X₂ T.any) (l₀ := .ref C :: bm) ?_ rfl X₂ hsup (I₂.type.andThen (looks_subIn X₂ T.ve)) (ks_ne X₂ I₂ hcl) (by decide) ?_
  · exact fun A Q E s k q => wpAny_bind ((looks_clsIn X₂ hcl) A _ E s k (wpAny_pure q))
  show wpAny _ _ (callWith p.a6 (.ref h₂.objs.size) [] (backTo p.a6 (starEach [_] _)) []) _ _ _
  refine kxs_callWith (i := "ValueError.__init__") (x := x) (by rfl) (evalArgs_plain ?_)
  show wpAny _ _ (spliced [(false, eval (.Constant (.str p.txt) p.k p.a5) _)]) _ _ _
  refine Calls.spliced_cons (Calls.Constant_str (Calls.spliced_nil ?_))
  have hu : (h₂.push (kxs_mw "ValueError.__init__" x)).get? h₂.objs.size = some (kxs_mw "ValueError.__init__" x) := Heap.get?_push_at rfl rfl
  have k₃ : ∀ b o, h₂.get? b = some o → (h₂.push (kxs_mw "ValueError.__init__" x)).get? b = some o := fun b o e => Heap.get?_push_of_some _ e
  refine ⟨hu, ?_⟩
  have X₃ : K.In (h₂.push (kxs_mw "ValueError.__init__" x)) := X₂.keeps k₃
  have hx₃ := k₃ _ _ hx₂
  show wpAny _ _ (call (.ref h₂.objs.size) [_] []) _ _ _
  refine wpAny_call (codeAny_of_tree ?_)
  show wpAny _ _ (callAny (.ref h₂.objs.size) ⟨[_], []⟩) _ _ _
  simp only [callAny]
  refine wpAny_bind (wpAny_load hu ?_)
  simp only [kxs_mw, show (Value.type "method-wrapper" == Value.type "method" || Value.type "method-wrapper" == Value.type "builtin_function_or_method" || Value.type "method-wrapper" == Value.type "method-wrapper") = true by decide, if_true]
  refine KFB.if_so (by decide) ?_
  refine wpAny_bind (check_bound_init F.excBase_ValueError.toExcCallFacts (X₃ _ _ hC) hx₃ rfl ?_)
  refine wpAny_bind (wpAny_pure (wpAny_pure ?_))
  refine ⟨plainId_quiet F.excBase_ValueError.init.plain _, codeAny_builtin F.excBase_ValueError.initEntry ?_⟩
  refine exc_init_tree (cls := .ref C) (t0 := t0) (dv := none) (c2 := .none) (c3 := .none) (b4 := .bool false) hx₃ (one_size _) fun h₄ k₄ hx₄ _ => ?_
  have nx : s.heap.objs.size ≠ x := Nat.ne_of_gt (Heap.lt_size hx)
  have hns₃ : (h₂.push (kxs_mw "ValueError.__init__" x)).Ns s.heap.objs.size _ := (hns.keeps k₂).keeps k₃
  have hns₄ : h₄.Ns s.heap.objs.size (fun y => List.lookup y (List.reverse ((("self" : Str), Value.ref x) :: fls.zip us))) := by
    obtain ⟨oL, es, ep, hL, r⟩ := hns₃
    exact ⟨oL, es, ep, k₄ _ _ nx hL, r⟩
  have all₄ : ∀ b o, b ≠ x → s.heap.get? b = some o → h₄.get? b = some o := fun b o hb' e => k₄ b o hb' (k₃ b o (k₂ b o (hk₁ b o e)))
  have X₄ : K.In h₄ := by
    intro b o e
    have hbx : b ≠ x := fun z => by rw [z, hnx] at e; cases e
    exact all₄ b o hbx (X _ _ e)
  show _root_.PySem.wpAt _ _ _ (execs (List.zipWith asN fls p.qs) _) _ _ _
  have z : s.heap.objs.size < h₄.objs.size := hns₄.lt
  rcases T.few with rfl | ⟨f, rfl⟩ | ⟨f1, f2, rfl, hne⟩
  · obtain rfl := List.length_eq_zero_iff.mp hus
    show _root_.PySem.wpAt _ _ _ (execs [] _) _ _ _
    exact wpAt_of_wpAny (wpAny_execs_nil (hq h₄ _ _ none ⟨all₄, hx₄, .inl ⟨rfl, rfl⟩⟩))
  · obtain ⟨v, rfl⟩ := List.length_eq_one_iff.mp hus
    obtain ⟨q1, hq1⟩ := List.length_eq_one_iff.mp hpq
    rw [hq1]
    have hmF : (fun y => List.lookup y (List.reverse ((("self" : Str), Value.ref x) :: [f].zip [v]))) f = some v := by
      show List.lookup f [(f, v), (("self" : Str), Value.ref x)] = _
      simp [List.lookup]
    have hFd := (hFs f List.mem_cons_self).2
    have hkF1 := hkF f List.mem_cons_self
    show _root_.PySem.wpAt _ _ _ (execs (_ :: []) _) _ _ _
    refine ks_wpAt_execs_cons (wpAt_of_wpAny (plainObj_wpAny_Assign_Attribute ?_ (by rfl)))
    refine ldK (v := v) hk hkF1 hns₄ hmF (ldK (v := .ref x) hk hka hns₄ hmS ?_ (by decide)) hFd
    refine set_plain X₄ (ox := excO C (h₂.push (kxs_mw "ValueError.__init__" x)).objs.size) (od := none) ⟨hx₄, rfl, rfl, trivial⟩ T.sa ?_
    refine exc_osa X₄ hx₄ hcl (show refsVE (.ref C :: bm) = true from hbm) rfl (T.noF f List.mem_cons_self) (fun h₅ tk₅ dx k₅ dn dne hx₅ hn₅ => ?_)
    show _root_.PySem.wpAt _ _ _ (execs [] _) _ _ _
    exact wpAt_of_wpAny (wpAny_execs_nil (hq h₅ tk₅ _ (some dx) ⟨fun b o hb' e => k₅ b o hb' (all₄ b o hb' e), hx₅, .inr ⟨dx, rfl, Nat.le_of_lt (Nat.lt_of_lt_of_le z dn), dne, hn₅⟩⟩))
  · obtain ⟨v1, v2, rfl⟩ := len_two hus
    obtain ⟨q1, q2, hq1⟩ := len_two hpq
    rw [hq1]
    have m2 : f2 ∈ [f1, f2] := List.mem_cons_of_mem _ List.mem_cons_self
    have hne' : (f1 == f2) = false := by simpa using hne
    have hmF1 : (fun y => List.lookup y (List.reverse ((("self" : Str), Value.ref x) :: [f1, f2].zip [v1, v2]))) f1 = some v1 := by
      show List.lookup f1 [(f2, v2), (f1, v1), (("self" : Str), Value.ref x)] = _
      simp [List.lookup, hne']
    have hmF2 : (fun y => List.lookup y (List.reverse ((("self" : Str), Value.ref x) :: [f1, f2].zip [v1, v2]))) f2 = some v2 := by
      show List.lookup f2 [(f2, v2), (f1, v1), (("self" : Str), Value.ref x)] = _
      simp [List.lookup]
    show _root_.PySem.wpAt _ _ _ (execs (_ :: _ :: []) _) _ _ _
    refine ks_wpAt_execs_cons (wpAt_of_wpAny (plainObj_wpAny_Assign_Attribute ?_ (by rfl)))
    refine ldK (v := v1) hk (hkF f1 List.mem_cons_self) hns₄ hmF1 (ldK (v := .ref x) hk hka hns₄ hmS ?_ (by decide)) (hFs f1 List.mem_cons_self).2
    refine set_plain X₄ (ox := excO C (h₂.push (kxs_mw "ValueError.__init__" x)).objs.size) (od := none) ⟨hx₄, rfl, rfl, trivial⟩ T.sa ?_
    refine exc_osa X₄ hx₄ hcl (show refsVE (.ref C :: bm) = true from hbm) rfl (T.noF f1 List.mem_cons_self) (fun h₅ tk₅ dx k₅ dn dne hx₅ hn₅ => ?_)
    have X₅ : K.In h₅ := by
      intro b o e
      have hbx : b ≠ x := fun z => by rw [z, hnx] at e; cases e
      exact k₅ b o hbx (X₄ _ _ e)
    have hns₅ : h₅.Ns s.heap.objs.size (fun y => List.lookup y (List.reverse ((("self" : Str), Value.ref x) :: [f1, f2].zip [v1, v2]))) := by
      obtain ⟨oL, es, ep, hL, r⟩ := hns₄
      exact ⟨oL, es, ep, k₅ _ _ nx hL, r⟩
    have hw : Within (fun y => if y = f1 then some v1 else none) [f1] := fun y hy => by
      by_cases e : y = f1
      · rw [e]; exact List.mem_cons_self
      · exact absurd (if_neg e) hy
    obtain ⟨oD, esD, epD, hoD, _, _⟩ := hn₅.count hw
    refine ks_wpAt_execs_cons (wpAt_of_wpAny (plainObj_wpAny_Assign_Attribute ?_ (by rfl)))
    refine ldK (v := v2) hk (hkF f2 m2) hns₅ hmF2 (ldK (v := .ref x) hk hka hns₅ hmS ?_ (by decide)) (hFs f2 m2).2
    refine set_plain X₅ (ox := { cls := .ref C, dict := some dx, data := .fields #[.ref (h₂.push (kxs_mw "ValueError.__init__" x)).objs.size, .none, .none, .none, .bool false, .none] }) (od := some oD) ⟨hx₅, rfl, rfl, hoD⟩ T.sa ?_
    refine PySem.OEX.osa_old X₅ hx₅ hn₅ hw (by simp) hcl (show refsVE (.ref C :: bm) = true from hbm) rfl (T.noF f2 m2) (fun h₆ tk₆ k₆ hn₆ => ?_)
    show _root_.PySem.wpAt _ _ _ (execs [] _) _ _ _
    have hdl : ∀ b o, h₄.get? b = some o → b ≠ dx := fun b o e => Nat.ne_of_lt (Nat.lt_of_lt_of_le (Heap.lt_size e) dn)
    exact wpAt_of_wpAny (wpAny_execs_nil (hq h₆ tk₆ _ (some dx) ⟨fun b o hb' e => k₆ b o (hdl b o (all₄ b o hb' e)) (k₅ b o hb' (all₄ b o hb' e)), k₆ _ _ (Ne.symm dne) hx₅, .inr ⟨dx, rfl, Nat.le_of_lt (Nat.lt_of_lt_of_le z dn), dne, hn₆⟩⟩))
/-- a made error -/
structure OwnMadeN (h h' : Heap) (e C : Addr) (od : Option Addr) (fs : List (Str × Value)) : Prop where
  keep : ∀ b o, h.get? b = some o → h'.get? b = some o
  new : h.objs.size ≤ e
  obj : ∃ oe vs, h'.get? e = some oe ∧ oe.cls = .ref C ∧ oe.dict = od ∧ oe.data = .fields vs ∧ vs[1]? = some .none ∧ vs[2]? = some .none ∧ 4 < vs.size
  dict : (od = none ∧ fs = []) ∨ ∃ dx, od = some dx ∧ h.objs.size ≤ dx ∧ dx ≠ e ∧ h'.Ns1 dx (mOf fs)
theorem err_madeN (T : ErrTxtN prog K mg x0 fls C fI) {us : List Value} (hus : us.length = fls.length) (X : K.In s.heap) (hlim : s.heap.NoLimit) (hg : s.heap.Ns mainGlobals mg) (hb : s.heap.Ns builtinsNs mb) (hbb : ∀ x : Str, x ≠ "__name__" → mb x = bootBuiltins x) (hroom : A.depth + 1 < recursionLimit)
    (hq : ∀ h' tk e od, OwnMadeN s.heap h' e C od (fls.zip us).reverse → R (.ok (.ret (.ref e))) { s with heap := h', toks := tk }) :
    codeAny (model prog w) A (.call (.ref C) ⟨us, []⟩) R s := by
  obtain ⟨nm, q, N, bs, bm, sn, sub, ab, col, dd, k0, k1, k2, k3, k5, hC, hbm⟩ := T.cls
  obtain ⟨hp, g, dr, tk, os⟩ := s
  have k : ∀ b o, hp.get? b = some o → ((hp.push (kdv_tup us)).push (excO C hp.objs.size)).get? b = some o := fun b o e => Heap.get?_push_of_some _ (Heap.get?_push_of_some _ e)
  have hget : ((hp.push (kdv_tup us)).push (excO C hp.objs.size)).get? (hp.objs.size + 1) = some (excO C hp.objs.size) := by heap_get
  have hnx : K.lookup (hp.objs.size + 1) = none := by
    cases e : K.lookup (hp.objs.size + 1) with
    | none => rfl
    | some o =>
      have z : hp.get? (hp.objs.size + 1) = some o := X _ _ e
      exact absurd (Nat.lt_of_succ_lt (Heap.lt_size z)) (Nat.lt_irrefl _)
  have hsz : us.length ≤ sizeLine := by
    rw [hus, sizeLine_eq]
    rcases T.few with rfl | ⟨f, rfl⟩ | ⟨f1, f2, rfl, _⟩ <;> simp
  refine call_own F.excBase_ValueError (fun X => refsVE_contains X bm hbm) (X _ _ hC) (looks_findIn X T.iC) (fun self => bind_fn X self T.tC) hsz ?_
  refine err_initN (s := ⟨(hp.push (kdv_tup us)).push (excO C hp.objs.size), g, dr, tk, os⟩) T hus (X.keeps k) (hlim.keeps k) (hg.keeps k) (hb.keeps k) hbb hget hnx ?_ fun h' tk' t1 od ⟨k', hx, hd⟩ => ?_
  · show A.depth + 1 < recursionLimit
    exact hroom
  · have old : ∀ b o, hp.get? b = some o → h'.get? b = some o := fun b o e => k' b o (Nat.ne_of_lt (Nat.lt_succ_of_lt (Heap.lt_size e))) (k b o e)
    refine ⟨rfl, hq h' tk' (hp.objs.size + 1) od ⟨old, Nat.le_succ _, ⟨_, _, hx, rfl, rfl, rfl, rfl, rfl, (by show 4 < 6; decide)⟩, ?_⟩⟩
    rcases hd with h | ⟨dx, e, dn, dne, hns⟩
    · exact .inl h
    · have z : hp.objs.size + 1 + 1 ≤ dx := by
        first
          | (simpa only [Heap.size_push] using dn)
          | exact dn
          | (have q := dn; rw [Heap.size_push, Heap.size_push] at q; exact q)
      exact .inr ⟨dx, e, Nat.le_trans (Nat.le_trans (Nat.le_succ _) (Nat.le_succ _)) z, dne, hns⟩
end
end WErr
end PySem
set_option Elab.async false
set_option linter.all false
set_option maxRecDepth 100000
set_option maxHeartbeats 4000000
namespace L2
open PySem PySem.Spec PyProof.Rows
open Evl (Ex Ev EvA EvT EvL EvU)
/-! ### errors as values -/
def ErO (a C : Addr) (od : Option Addr) : HO := .ext fun h => ∃ oe vs, h.get? a = some oe ∧ oe.cls = .ref C ∧ oe.dict = od ∧ oe.data = .fields vs
theorem ErO_ok {P : Program} {w : World} {H : Hp} {h : Heap} {a C : Addr} {od : Option Addr} (x : ∃ oe vs, h.get? a = some oe ∧ oe.cls = .ref C ∧ oe.dict = od ∧ oe.data = .fields vs) : ObjOk P w H h a (ErO a C od) := by
  refine ⟨x, ?_, ?_⟩
  · obtain ⟨oe, vs, e, _⟩ := x
    exact ⟨oe, e⟩
  · rintro h1 h2 ⟨oe, vs, e, r⟩ k
    exact ⟨oe, vs, k _ e, r⟩
theorem ErO_at {P : Program} {w : World} {H : Hp} {h : Heap} {a C : Addr} {od : Option Addr} (x : HOk P w H h) (e : H a = some (ErO a C od)) : ∃ oe vs, h.get? a = some oe ∧ oe.cls = .ref C ∧ oe.dict = od ∧ oe.data = .fields vs := (x a _ e).1
/-- an error at a: its class, its fields -/
def EV (H : Hp) (a C : Addr) (fs : List (Str × V)) : Prop := (H a = some (ErO a C none) ∧ fs = []) ∨ ∃ d, H a = some (ErO a C (some d)) ∧ H d = some (.xd fs)
theorem EV.ex {H H' : Hp} {a C : Addr} {fs : List (Str × V)} (h : EV H a C fs) (e : Ex H H') : EV H' a C fs := by
  rcases h with ⟨h, r⟩ | ⟨d, h1, h2⟩
  · exact .inl ⟨e _ _ h, r⟩
  · exact .inr ⟨d, e _ _ h1, e _ _ h2⟩
theorem relO_mOf : ∀ {fls : List Str} {vs : List V} {us : List Value}, Vals vs us → ∀ f, RelO (List.lookup f (fls.zip vs).reverse) (PySem.WErr.mOf (fls.zip us).reverse f) := by
  intro fls vs us r f
  have key : ∀ (l1 : List (Str × V)) (l2 : List (Str × Value)), Paired (fun (p : Str × V) (q : Str × Value) => p.1 = q.1 ∧ RelV p.2 q.2) l1 l2 → RelO (List.lookup f l1) (PySem.WErr.mOf l2 f) := by
    intro l1 l2 h
    induction h with
    | nil => trivial
    | cons c t ih =>
      rename_i p q l1 l2
      obtain ⟨p1, p2⟩ := p
      obtain ⟨q1, q2⟩ := q
      obtain ⟨e, rv⟩ := c
      dsimp only at e rv
      subst e
      rw [List.lookup_cons]
      show RelO _ (if f = p1 then some q2 else PySem.WErr.mOf l2 f)
      by_cases hf : f = p1
      · rw [if_pos hf, beq_iff_eq.mpr hf]; exact rv
      · have : (f == p1) = false := by simpa using hf
        rw [if_neg hf, this]; exact ih
  have zp : ∀ (fls : List Str) (vs : List V) (us : List Value), Vals vs us → Paired (fun (p : Str × V) (q : Str × Value) => p.1 = q.1 ∧ RelV p.2 q.2) (fls.zip vs) (fls.zip us) := by
    intro fls
    induction fls with
    | nil => intro vs us _; exact .nil
    | cons g gs ih =>
      intro vs us r
      cases r with
      | nil => exact .nil
      | cons a b => exact .cons ⟨rfl, a⟩ (ih _ _ b)
  have rev : ∀ {α β : Type} {F : α → β → Prop} {l1 : List α} {l2 : List β}, Paired F l1 l2 → Paired F l1.reverse l2.reverse := by
    intro α β F l1 l2 h
    have app : ∀ {m1 : List α} {m2 : List β} {n1 : List α} {n2 : List β}, Paired F m1 m2 → Paired F n1 n2 → Paired F (m1 ++ n1) (m2 ++ n2) := by
      intro m1 m2 n1 n2 h1 h2
      induction h1 with
      | nil => exact h2
      | cons c t ih => exact .cons c ih
    induction h with
    | nil => exact .nil
    | cons c t ih => rw [List.reverse_cons, List.reverse_cons]; exact app ih (.cons c .nil)
  exact key _ _ (rev (zp fls vs us r))
section
variable {X : Cx} {C fI : Addr} {x : Str} {fls : List Str} {k : Nat} {p pos : Pos}
/-- what an error's making leaves -/
def rErrV (C : Addr) (fls : List Str) (vs : List V) (H1 : Hp) (Q : VK) : Prop := vs.length = fls.length ∧ ∀ a H2, Ex H1 H2 → EV H2 a C (fls.zip vs).reverse → Q (.ref a) H2
theorem run_errV {pins : List (Addr × Obj)} {s : Shared} {σ : St} {H : Hp} {Q : VK} {vs : List V} {us : List Value} (T : PySem.WErr.ErrTxtN X.prog X.K X.mg x fls C fI) (hr : Room k X.A) (I : Inv X pins σ H s) (r : Vals vs us) (q : rErrV C fls vs H Q) :
    wpAny (model X.prog X.w) X.A (call (.ref C) us) (EP X pins σ Q) X.xe s := by
  obtain ⟨hl, q⟩ := q
  have hlim := I.nolimit
  obtain ⟨mb, hmb, hbb⟩ := I.mod.blt
  have hG := I.mod.glob.keeps I.bk
  have hB := hmb.keeps I.bk
  obtain ⟨hp, g, dr, tk, os⟩ := s
  refine wpAny_call (PySem.WErr.err_madeN T (by rw [← r.length]; exact hl) I.kIn hlim hG hB hbb (by have := hr.dp; omega) fun h' tk' e od M => ?_)
  obtain ⟨oe, fv, hoe, hc, hd, hdat, _⟩ := M.obj
  have hne : H e = none := I.hok.fresh M.new
  have old : ∀ {b : Addr} {o : Obj}, hp.get? b = some o → b ≠ e := fun {b o} q => Nat.ne_of_lt (Nat.lt_of_lt_of_le (Heap.lt_size q) M.new)
  rcases M.dict with ⟨rfl, hfs⟩ | ⟨d, rfl, dn, dne, hns⟩
  · have hfl : fls = [] := by
      have h1 := r.length
      cases fls with
      | nil => rfl
      | cons f fs =>
        cases us with
        | nil => rw [hl] at h1; simp at h1
        | cons u us => simp at hfs
    have U : Un X.fs [] H (upd H e (ErO e C none)) hp h' := {
      keep := fun b o q _ _ _ => M.keep b o q
      slot := fun b o q _ _ _ => ⟨o.slots, M.keep b o q⟩
      free := fun b o q n _ => by rw [upd_ne (old q)]; exact n
      there := fun b o q _ => ⟨o, M.keep b o q⟩
      tups := fun b xs q => by rw [upd_ne (ne_of_none q hne)]; exact q
      frzs := fun b o v q => by rw [upd_ne (ne_of_none q hne)]; exact q
      tbls := fun b ps q => ⟨#[], by rw [upd_ne (ne_of_none q hne), q]; simp⟩ }
    refine ⟨.ref e, _, I.un (t' := tk') U fun b o q => ?_, rfl, q e _ (Ex.new hne) (.inl ⟨upd_same, by subst hfl; rfl⟩)⟩
    by_cases hb : b = e
    · subst hb
      rw [upd_same] at q
      cases q
      exact ErO_ok ⟨oe, fv, hoe, hc, hd, hdat⟩
    · rw [upd_ne hb] at q
      exact (I.hok b o q).stay (fun c v _ z => M.keep c v z) (fun c hc => by rw [upd_ne (ne_of_none hc hne)]; exact hc) (fun c xs hc => by rw [upd_ne (ne_of_none hc hne)]; exact hc)
  · have hnd : H d = none := I.hok.fresh dn
    have oldd : ∀ {b : Addr} {o : Obj}, hp.get? b = some o → b ≠ d := fun {b o} q => Nat.ne_of_lt (Nat.lt_of_lt_of_le (Heap.lt_size q) dn)
    have U : Un X.fs [] H (upd (upd H d (.xd (fls.zip vs).reverse)) e (ErO e C (some d))) hp h' := {
      keep := fun b o q _ _ _ => M.keep b o q
      slot := fun b o q _ _ _ => ⟨o.slots, M.keep b o q⟩
      free := fun b o q n _ => by rw [upd_ne (old q), upd_ne (oldd q)]; exact n
      there := fun b o q _ => ⟨o, M.keep b o q⟩
      tups := fun b xs q => by rw [upd_ne (ne_of_none q hne), upd_ne (ne_of_none q hnd)]; exact q
      frzs := fun b o v q => by rw [upd_ne (ne_of_none q hne), upd_ne (ne_of_none q hnd)]; exact q
      tbls := fun b ps q => ⟨#[], by rw [upd_ne (ne_of_none q hne), upd_ne (ne_of_none q hnd), q]; simp⟩ }
    refine ⟨.ref e, _, I.un (t' := tk') U fun b o q => ?_, rfl, q e _ ((Ex.new hnd).trans (Ex.new (by rw [upd_ne (Ne.symm dne)]; exact hne))) (.inr ⟨d, upd_same, by rw [upd_ne dne]; exact upd_same⟩)⟩
    by_cases hb : b = e
    · subst hb
      rw [upd_same] at q
      cases q
      exact ErO_ok ⟨oe, fv, hoe, hc, hd, hdat⟩
    · rw [upd_ne hb] at q
      by_cases hbd : b = d
      · subst hbd
        rw [upd_same] at q
        cases q
        exact ⟨_, hns, relO_mOf r⟩
      · rw [upd_ne hbd] at q
        exact (I.hok b o q).stay (fun c v _ z => M.keep c v z) (fun c hc => by rw [upd_ne (ne_of_none hc hne), upd_ne (ne_of_none hc hnd)]; exact hc) (fun c xs hc => by rw [upd_ne (ne_of_none hc hne), upd_ne (ne_of_none hc hnd)]; exact hc)
def tErrV (C : Addr) (fls : List Str) (ta : TA) : TE := fun σ H Q => ta σ H fun vs H1 => rErrV C fls vs H1 Q
/-- X(e, ..), the error kept as a value -/
theorem pe_errV {e : Expr} {es : List Expr} {ta : TA} (T : PySem.WErr.ErrTxtN X.prog X.K X.mg x fls C fI) (hr : Room k X.A) (ha : PA X (e :: es) ta) (hg : Gl X x := by rfl) (hdb : (x == ("__debug__" : Str)) = false := by decide)
    (he : starEach (e :: es) X.env = (false, eval e X.env) :: starEach es X.env := by rfl) (hpl : (backTo pos (starEach es X.env)).any (·.1) = false := by rfl) :
    PE X (.Call (.Name x p) (e :: es) [] pos) (tErrV C fls ta) := by
  refine ⟨fun pins s σ H Q I h => wpAny_Call_Name_kw (ld_glob I hg T.gC ?_ hdb)⟩
  exact PySem.W.callWith_K (h₀ := X.base) I.ok.mod.kin T.kC (thn (ha.run pos pins s σ H _ I h) fun us s1 ⟨vs, H1, I1, r, q⟩ => ⟨I1.kIn, run_errV T hr I1 r q⟩) he hpl
theorem pe_errV0 (T : PySem.WErr.ErrTxtN X.prog X.K X.mg x fls C fI) (hr : Room k X.A) (hg : Gl X x := by rfl) (hdb : (x == ("__debug__" : Str)) = false := by decide) : PE X (.Call (.Name x p) [] [] pos) (tErrV C fls tNil) := by
  refine ⟨fun pins s σ H Q I h => wpAny_Call_Name_kw (ld_glob I hg T.gC ?_ hdb)⟩
  exact PySem.W.callWith_K0 I.kIn T.kC (run_errV (us := []) T hr I .nil h)
end
/-- what isinstance asks of an error's class -/
structure IsE (K : PySem.W.Frag) (C : Addr) : Prop where
  cl : (PySem.W.clsIn K C).isSome = true
  xf : XfC K C
  at_ : PySem.W.findIn K (.ref C) "__class__" = some (some (.builtin "object.__class__"))
  sp : PySem.W.specialIn K (.builtin "object.__class__") "__get__" = some (some (.builtin "getset_descriptor.__get__"))
  tk : PySem.W.takesIn K (.builtin "object.__class__") = some true
  mr : PySem.W.mroIn K C (.type "object") = some true
def isE (K : PySem.W.Frag) (C : Addr) : Bool := (PySem.W.clsIn K C).isSome && (xfB K C && (He.eqO (PySem.W.findIn K (.ref C) "__class__") (some (some (.builtin "object.__class__"))) && (He.eqO (PySem.W.specialIn K (.builtin "object.__class__") "__get__") (some (some (.builtin "getset_descriptor.__get__"))) &&
  (decide (PySem.W.takesIn K (.builtin "object.__class__") = some true) && decide (PySem.W.mroIn K C (.type "object") = some true)))))
theorem isE_ok {K : PySem.W.Frag} {C : Addr} (h : isE K C = true) : IsE K C := by
  obtain ⟨h1, h⟩ := He.ba h
  obtain ⟨h2, h⟩ := He.ba h
  obtain ⟨h3, h⟩ := He.ba h
  obtain ⟨h4, h⟩ := He.ba h
  obtain ⟨h5, h6⟩ := He.ba h
  exact ⟨h1, xfB_ok h2, He.eqO_ok h3, He.eqO_ok h4, of_decide_eq_true h5, of_decide_eq_true h6⟩
theorem EV.inst {X : Cx} {pins : List (Addr × Obj)} {σ : St} {H : Hp} {s : Shared} {a C : Addr} {fs : List (Str × V)} (I : Inv X pins σ H s) (h : EV H a C fs) : ∃ oe od, PySem.W.InstAt s.heap a oe C od := by
  rcases h with ⟨h, _⟩ | ⟨d, h1, h2⟩
  · obtain ⟨oe, vs, e, c, dn, dt⟩ := ErO_at I.hok h
    exact ⟨oe, none, e, c, by unfold PySem.W.notCls; rw [dt] <;> rfl, by rw [dn]; trivial⟩
  · obtain ⟨oe, vs, e, c, dn, dt⟩ := ErO_at I.hok h1
    have hx : ObjOk X.prog X.w H s.heap d (.xd fs) := I.hok d _ h2
    obtain ⟨mA, hns, hr⟩ := hx
    obtain ⟨od, ho, hl⟩ := lookIn_ns hns
    exact ⟨oe, some od, e, c, by unfold PySem.W.notCls; rw [dt] <;> rfl, by rw [dn]; exact ho⟩
/-- isinstance(error, c) -/
theorem call_isiE {X : Cx} : CallR X (.builtin "isinstance") (fun xs H Q => ∃ (a : Addr) (c : V) (C : Addr) (fs : List (Str × V)) (u : Value) (b : Bool), xs = [.ref a, c] ∧ ClsV c u ∧ EV H a C fs ∧ IsE X.K C ∧ PySem.W.kitOne X.K (.ref C) u = some b ∧ Q (.bl b) H) := by
  intro pins s σ H xs us Q I r h
  obtain ⟨a, c, C, fs, u, b, rfl, k, ev, ie, e, q⟩ := h
  obtain ⟨u1, u2, rfl, r1, r2⟩ := vals2 r
  have e2 := k.eq r2
  subst e2
  cases (show u1 = Value.ref a from r1)
  obtain ⟨oe, od, J⟩ := ev.inst I
  exact PySem.W.kia_one (PySem.W.kitx_exc (gt := none) ie.cl ie.xf.ga ie.xf.gg ie.xf.exC ie.at_ ie.sp ie.tk ie.mr) I.kIn J e (fun z => nomatch z) fun tk => ⟨.bl b, H, I.tok tk, rfl, q⟩
/-- err.f -/
def tXv (K : PySem.W.Frag) (n : Str) (te : TE) : TE := fun σ H Q => te σ H fun x H1 => ∃ (a C : Addr) (fs : List (Str × V)) (v : V), x = .ref a ∧ EV H1 a C fs ∧ XfC K C ∧ PySem.W.findIn K (.ref C) n = some none ∧ fs.lookup n = some v ∧ Q v H1
theorem pe_xv {X : Cx} {e : Expr} {te : TE} {pos : Pos} {n : Str} (he : PE X e te) (hb : attributeBase e n X.env (eval e X.env) = eval e X.env := by rfl) : PE X (.Attribute e n pos) (tXv X.K n te) := by
  refine ⟨fun pins s σ H Q I h => ?_⟩
  refine attr_of hb (thn (he.run pins s σ H _ I h) fun u s1 hh => ?_)
  obtain ⟨x, H1, I1, rx, a, C, fs, v, ex, ev, T, hno, l, q⟩ := hh
  subst ex
  obtain rfl : u = Value.ref a := rx
  rcases ev with ⟨_, rfl⟩ | ⟨d, h1, h2⟩
  · cases l
  · obtain ⟨oe, vs, ho, c, dn, dt⟩ := ErO_at I1.hok h1
    have hx : ObjOk X.prog X.w H1 s1.heap d (.xd fs) := I1.hok d _ h2
    obtain ⟨mA, hns, hr⟩ := hx
    obtain ⟨od, hod, hl⟩ := lookIn_ns hns
    obtain ⟨u, hu, ru⟩ := RelO.some_of (v := v) (o := mA n) (by rw [← l]; exact hr n)
    have J : PySem.W.InstAt s1.heap a oe C (some od) := ⟨ho, c, by unfold PySem.W.notCls; rw [dt] <;> rfl, by rw [dn]; exact hod⟩
    exact HandSPX.exc_get I1.kIn J T.ga T.gg T.exC (PySem.W.findObj_own T.hdC hno rfl (by rw [hl, hu])) (handed_of ru) ⟨v, H1, I1.tok _, ru, q⟩
end L2
set_option Elab.async false
set_option linter.all false
set_option maxRecDepth 100000
set_option maxHeartbeats 4000000
namespace WH
open PySem PySem.Spec PyProof.Rows L2
open He (ga ma ba eqO eqO_ok)
/-! ### errors of none, one or two fields -/
structure ErN where
  x : Str
  fls : List Str
  st : Stmt
def ErN.val (e : ErN) : FnE := some ("__init__", e.x ++ ".__init__", defArgs e.st, .stmts (defBody e.st), defScope e.st, mainGlobals, ["__class__"], builtinsNs)
def ErN.ok (prog : Program) (K : Frag) (e : ErN) : Bool :=
  eqO (PySem.W.nsIn K mainGlobals e.x) (some (some (.ref (ga K e.x)))) && (veB K (ga K e.x) && (eqO (PySem.W.findIn K (.ref (ga K e.x)) "__setattr__") (some (some (.builtin "object.__setattr__"))) &&
  (xfB K (ga K e.x) && ((e.fls.all fun f => eqO (PySem.W.findIn K (.ref (ga K e.x)) f) (some none)) && (eqO (PySem.W.findIn K (.ref (ga K e.x)) "__init__") (some (some (.ref (iAd K e.x)))) &&
  (decide (PySem.W.typeIn K (.ref (iAd K e.x)) = some (.type "function")) && (PySem.W.keepIn K (.ref (ga K e.x)) && (decide (PySem.W.subIn K (.ref (ga K e.x)) (.type "BaseException") = some true) &&
  (decide (PySem.W.typeIn K (.ref (ga K e.x)) = some (.type "type")) && (eqO (PySem.W.ks_superIn K (ga K e.x) (ga K e.x) "__init__") (some (some (.builtin "ValueError.__init__"))) &&
  (decide (PySem.W.subIn K (.ref (ga K e.x)) (.type "ValueError") = some true) && (eqO (PySem.W.nsIn K cStatics "thirdparty.any") (some none) && (decide (PySem.W.mroIn K (ga K e.x) (.ref (ga K e.x)) = some true) &&
  (eqO (PySem.W.nsIn K mainGlobals "super") (some none) && (!(prog.main.scope.names.lookup ("super" : Str)).isSome && inB prog K (ga K e.x) (iAd K e.x) (e.x ++ ".__init__"))))))))))))))))
theorem ErN.txt {prog : Program} {K : Frag} {h : Heap} {mg : Str → Option Value} {e : ErN} {p : PySem.WErr.PsN} {ar : Arg} (X : K.In h) (G : h.Ns mainGlobals mg) (c : e.ok prog K = true) (v : fnE K e.x = e.val)
    (hB : defBody e.st = PySem.WErr.eBN e.fls p) (hS : defScope e.st = PySem.WErr.eSN e.fls) (hP : ((defArgs e.st).posonlyargs ++ (defArgs e.st).args).head? = some ar) (hA : ar.arg = "self")
    (h1 : (PySem.WErr.eSN e.fls).names.lookup ("super" : Str) = some .globalImplicit) (h2 : (PySem.WErr.eSN e.fls).names.lookup ("__class__" : Str) = some .free) (h3 : (PySem.WErr.eSN e.fls).names.lookup ("self" : Str) = some .local) (h4 : ∀ f ∈ e.fls, (PySem.WErr.eSN e.fls).names.lookup f = some .local)
    (h5 : ∀ f ∈ e.fls, f ≠ "self" ∧ (f == ("__debug__" : Str)) = false) (h6 : e.fls = [] ∨ (∃ f, e.fls = [f]) ∨ ∃ f g, e.fls = [f, g] ∧ f ≠ g) (h7 : p.qs.length = e.fls.length)
    (h8 : ∀ cda cc L f : Addr, ∃ pl : Sem Bool, eval (.Call (.Attribute (.Call (.Name "super" p.a1) [] [] p.a2) "__init__" p.a3) [.Constant (.str p.txt) p.k p.a5] [] p.a6) (PySem.W.ksEnv (e.x ++ ".__init__") (PySem.WErr.eSN e.fls) L f (.ref cda) cc) = (do
      let ov ← attributeBase (.Call (.Name "super" p.a1) [] [] p.a2) "__init__" (PySem.W.ksEnv (e.x ++ ".__init__") (PySem.WErr.eSN e.fls) L f (.ref cda) cc) (eval (.Call (.Name "super" p.a1) [] [] p.a2) (PySem.W.ksEnv (e.x ++ ".__init__") (PySem.WErr.eSN e.fls) L f (.ref cda) cc))
      standAt p.a3.atName
      let (f1, first) ← holding [ov] (getMethod ov "__init__" pl)
      callWith p.a6 f1 first (backTo p.a6 (starEach [.Constant (.str p.txt) p.k p.a5] (PySem.W.ksEnv (e.x ++ ".__init__") (PySem.WErr.eSN e.fls) L f (.ref cda) cc))) []))
    (h9 : ∀ (kV doc pm : Value) (an : Option Addr) (cda cc : Addr) (ct a : Value) (us : List Value), us.length = e.fls.length → bindArgs (PySem.W.ksFn "__init__" (e.x ++ ".__init__") (defArgs e.st) (PySem.WErr.eBN e.fls p) (PySem.WErr.eSN e.fls) .none kV doc pm an (.ref cda) ct cc) ⟨a :: us, []⟩ = pure ((("self" : Str), a) :: e.fls.zip us)) :
    PySem.WErr.ErrTxtN prog K mg e.x e.fls (ga K e.x) (iAd K e.x) := by
  obtain ⟨c1, c⟩ := ba c
  obtain ⟨c2, c⟩ := ba c
  obtain ⟨c3, c⟩ := ba c
  obtain ⟨c4, c⟩ := ba c
  obtain ⟨c5, c⟩ := ba c
  obtain ⟨c6, c⟩ := ba c
  obtain ⟨c7, c⟩ := ba c
  obtain ⟨c8, c⟩ := ba c
  obtain ⟨c9, c⟩ := ba c
  obtain ⟨c10, c⟩ := ba c
  obtain ⟨c11, c⟩ := ba c
  obtain ⟨c12, c⟩ := ba c
  obtain ⟨c13, c⟩ := ba c
  obtain ⟨c14, c⟩ := ba c
  obtain ⟨c15, c⟩ := ba c
  obtain ⟨c16, c17⟩ := ba c
  refine ⟨PySem.W.mg_of X G (eqO_ok c1), veB_ok c2, eqO_ok c3, xfB_ok c4, (fun f hf => eqO_ok (List.all_eq_true.mp c5 f hf)), eqO_ok c6, of_decide_eq_true c7, c8, of_decide_eq_true c9, of_decide_eq_true c10, eqO_ok c11, of_decide_eq_true c12, eqO_ok c13, of_decide_eq_true c14, PySem.W.mg_none_of X G (eqO_ok c15), by simpa using c16, h6, ?_⟩
  unfold fnE at v
  unfold inB at c17
  cases q : K.lookup (iAd K e.x) with
  | none => rw [q] at v; cases v
  | some o =>
    obtain ⟨oc, od, dt, osl⟩ := o
    rw [q] at v c17
    cases dt with
    | func fd =>
      obtain ⟨n1, n2, n3, n4, n5, n6, n7, n8, n9, n10, n11, n12, n13, n14, n15⟩ := fd
      have e2 : (some (n1, n2, n3, n4, n5, n6, n7.map (·.1), n15) : FnE) = e.val := v
      unfold ErN.val at e2
      simp only [Option.some.injEq, Prod.mk.injEq] at e2
      obtain ⟨g1, g2, g3, g4, g5, g6, g7, g8⟩ := e2
      subst g1 g2 g3 g4 g5 g6 g8
      dsimp only at c17
      split at c17
      · rename_i cda nm cc
        obtain ⟨d1, d⟩ := ba c17
        obtain ⟨d2, d3⟩ := ba d
        have hnm : nm = ("__class__" : Str) := by simpa using g7
        subst hnm
        rw [hB, hS]
        refine ⟨oc, od, _, _, _, _, _, _, cda, cc, _, osl, p, ar, rfl, d1, h7, hP, hA, ?_, ?_, h1, h2, h3, h4, h5, h8 cda cc, h9 _ _ _ _ cda cc _⟩
        · split at d2
          · rename_i z1 z2 vs z3 hl
            split at d2
            · rename_i file tf hv
              exact ⟨_, _, vs, _, file, tf, hl, hv, d2⟩
            · cases d2
          · cases d2
        · split at d3
          · rename_i z1 z2 D z3 hl
            obtain rfl := of_decide_eq_true d3
            exact ⟨_, _, _, hl⟩
          · cases d3
      · cases c17
    | _ => cases c17
/-! ### the hook -/
abbrev AlN : Type := Bool × List He.FnW × List FnE
def obsN (prog : Program) (fa : List Chk) (fn : List He5.DefA) (er : List ErN) (K : Frag) : AlN :=
  ((fa.all fun f => f K) && ((fn.all fun d => d.ok K) && er.all fun e => e.ok prog K), fn.map (fun d => He5.fnA K (d.at_ K)), er.map fun e => fnE K e.x)
def valN (fn : List He5.DefA) (er : List ErN) : AlN := (true, fn.map He5.DefA.val, er.map ErN.val)
def SaysN (prog : Program) (fa : List Chk) (fn : List He5.DefA) (er : List ErN) (K : Frag) : Prop := obsN prog fa fn er K = valN fn er
def obsNG (prog : Program) (n : Nat) (fa : List Chk) (fn : List He5.DefA) (er : List ErN) (g : Addr → Option Obj) : AlN := obsN prog fa fn er (He.frG g (He5.asA g n))
def hookN (prog : Program) (n : Nat) (fa : List Chk) (fn : List He5.DefA) (er : List ErN) : PySem.W.Hook where
  α := AlN
  obs := fun s => obsNG prog n fa fn er s.heap.get?
  val := fun _ => valN fn er
  says := fun _ h => ∃ K : Frag, K.In h ∧ SaysN prog fa fn er K
  of := fun _ _ e => ⟨_, He.frG_in, e⟩
  keeps := fun _ _ _ ⟨K, hK, c⟩ k => ⟨K, PySem.W.Frag.In.keeps hK k, c⟩
theorem obsNG_eq {prog : Program} {n : Nat} {fa : List Chk} {fn : List He5.DefA} {er : List ErN} {g : Addr → Option Obj} {s : Shared} (h : ∀ a, g a = s.heap.get? a) : obsNG prog n fa fn er g = (hookN prog n fa fn er).obs s := by
  have e : g = s.heap.get? := funext h
  subst e
  rfl
section
variable {prog : Program} {fa : List Chk} {fn : List He5.DefA} {er : List ErN} {K : Frag}
theorem SaysN.fact (c : SaysN prog fa fn er K) (i : Nat) {f : Chk} (h : fa[i]? = some f := by rfl) : f K = true :=
  List.all_eq_true.mp (ba (congrArg (fun z : AlN => z.1) c)).1 f (List.mem_of_getElem? h)
theorem SaysN.def_ (c : SaysN prog fa fn er K) (i : Nat) {d : He5.DefA} (h : fn[i]? = some d := by rfl) : ∃ fd, L2.FunD K d.name d.qual d.params d.body d.scope (d.dvs K) (d.kws K) (d.at_ K) fd := by
  have e : fn.map (fun d => He5.fnA K (d.at_ K)) = fn.map He5.DefA.val := congrArg (fun z : AlN => z.2.1) c
  have e2 := congrArg (fun l => l[i]?) e
  simp only [List.getElem?_map, h] at e2
  exact He5.DefA.funD (Option.some.inj e2) (List.all_eq_true.mp (ba (ba (congrArg (fun z : AlN => z.1) c)).2).1 d (List.mem_of_getElem? h))
theorem SaysN.err (c : SaysN prog fa fn er K) (i : Nat) {e : ErN} (h : er[i]? = some e := by rfl) : e.ok prog K = true ∧ fnE K e.x = e.val := by
  have e1 : er.map (fun e => fnE K e.x) = er.map ErN.val := congrArg (fun z : AlN => z.2.2) c
  have e2 := congrArg (fun l => l[i]?) e1
  simp only [List.getElem?_map, h] at e2
  exact ⟨List.all_eq_true.mp (ba (ba (congrArg (fun z : AlN => z.1) c)).2).2 e (List.mem_of_getElem? h), Option.some.inj e2⟩
end
theorem one_of {prog : Program} {K : Frag} {mg : Str → Option Value} {x f : Str} {C fI : Addr} (T : PySem.WErr.ErrTxtN prog K mg x [f] C fI) (hc : (f == ("__class__" : Str)) = false) : PySem.WErr.ErrTxt prog K mg x f C fI := by
  obtain ⟨oc, od, qual, params, doc, pm, kV, an, cda, cc, ct, osl, p, ar, ho, hcd, hpq, hp, har, g1, g2, h1, h2, h3, h4, h5, hev, hb⟩ := T.fn
  obtain ⟨a1, a2, a3, a5, a6, a7, kk, txt, qs⟩ := p
  obtain ⟨q1, hq1⟩ := List.length_eq_one_iff.mp hpq
  dsimp only at hq1
  subst hq1
  obtain ⟨q1, q2, q3, q4⟩ := q1
  exact ⟨T.gC, T.cls, T.sa, T.xf, T.noF f List.mem_cons_self, T.iC, T.tC, T.kC, T.exC, T.tyC, T.sup, T.ve, T.any, T.own, T.gS, T.htop,
    oc, od, qual, params, doc, pm, kV, an, cda, cc, ct, osl, ⟨a1, a2, a3, a5, a6, a7, q1, q2, q3, q4, kk, txt⟩, ar, ho, hcd, hp, har, g1, g2, h1, h2, h3, h4 f List.mem_cons_self, (h5 f List.mem_cons_self).1, (h5 f List.mem_cons_self).2, hc, hev, fun a b => hb a [b] rfl⟩
end WH
namespace WH
open PySem PySem.Spec PyProof.Rows L2
open He (ga ma ba eqO eqO_ok)
/-! ### errors as values: isinstance of them -/
def cIse (l : List Str) : Chk := fun K => l.all fun x => isE K (ga K x)
theorem ise_ok {K : Frag} {l : List Str} (c : cIse l K = true) (x : Str) (h : x ∈ l) : IsE K (ga K x) := isE_ok (List.all_eq_true.mp c x h)
/-- the class data of errors over WhichError: names, orders -/
def mroE (K : Frag) (x : Str) : List Value := [.ref (ga K x), .ref (ga K "WhichError"), .type "ValueError", .type "Exception", .type "BaseException", .type "object"]
def cMro (l : List Str) : Chk := fun K => (l.all fun x => (match PySem.W.clsIn K (ga K x) with | some cd => decide (cd.name = x) && decide (cd.mro = mroE K x) | none => false) && decide (PySem.W.typeIn K (.ref (ga K x)) = some (.type "type"))) &&
  ((match PySem.W.clsIn K (ga K "WhichError") with | some cd => decide (cd.name = "WhichError") | none => false) && decide (PySem.W.typeIn K (.ref (ga K "WhichError")) = some (.type "type")))
structure MroE (K : Frag) (x : Str) : Prop where
  cl : ∃ cd, PySem.W.clsIn K (ga K x) = some cd ∧ cd.name = x ∧ cd.mro = mroE K x
  ty : PySem.W.typeIn K (.ref (ga K x)) = some (.type "type")
theorem mro_ok {K : Frag} {l : List Str} (c : cMro l K = true) : (∀ x ∈ l, MroE K x) ∧ (∃ cd, PySem.W.clsIn K (ga K "WhichError") = some cd ∧ cd.name = "WhichError") ∧ PySem.W.typeIn K (.ref (ga K "WhichError")) = some (.type "type") := by
  obtain ⟨c1, c2⟩ := ba c
  obtain ⟨c2, c3⟩ := ba c2
  refine ⟨fun x hx => ?_, ?_, of_decide_eq_true c3⟩
  · obtain ⟨d1, d2⟩ := ba (List.all_eq_true.mp c1 x hx)
    refine ⟨?_, of_decide_eq_true d2⟩
    split at d1
    · rename_i cd hc
      obtain ⟨e1, e2⟩ := ba d1
      exact ⟨cd, hc, of_decide_eq_true e1, of_decide_eq_true e2⟩
    · cases d1
  · split at c2
    · rename_i cd hc
      exact ⟨cd, hc, of_decide_eq_true c2⟩
    · cases c2
theorem sub_of {K : Frag} {x : Str} (h : MroE K x) (u : Value) : PySem.W.subIn K (.ref (ga K x)) u = some ((mroE K x).contains u) := by
  obtain ⟨cd, e, _, em⟩ := h.cl
  show PySem.W.mroIn K (ga K x) u = _
  unfold PySem.W.mroIn
  rw [e, Option.bind_some, em]
  rfl
theorem kit_ok {K : Frag} {l : List Str} (c : cMro l K = true) (hw : ∀ x ∈ l, x ≠ "WhichError") (x : Str) (h : x ∈ l) (y : Str) (g : y ∈ l) : PySem.W.kitOne K (.ref (ga K x)) (.ref (ga K y)) = some (x == y) := by
  obtain ⟨hm, ⟨cw, ew, nw⟩, _⟩ := mro_ok c
  by_cases e : x = y
  · subst e
    unfold PySem.W.kitOne
    rw [if_pos (by simp)]
    simp
  · obtain ⟨cx, ex, nx, _⟩ := (hm x h).cl
    obtain ⟨cy, ey, ny, _⟩ := (hm y g).cl
    have hne : ga K x ≠ ga K y := fun z => by
      rw [z, ey] at ex
      cases ex
      exact e (nx.symm.trans ny)
    have hnw : ga K "WhichError" ≠ ga K y := fun z => by
      rw [z, ey] at ew
      cases ew
      exact hw y g (ny.symm.trans nw)
    have hb : (x == y) = false := by simpa using e
    unfold PySem.W.kitOne
    rw [if_neg (by simpa using hne), hb]
    unfold PySem.W.kitCls
    dsimp only
    rw [ey, (hm y g).ty]
    show (if ((some cy).isSome && (some (Value.type "type") == some (Value.type "type"))) = true then _ else _) = _
    rw [if_pos (by simp), sub_of (hm x h)]
    unfold mroE
    simp [Ne.symm hne, Ne.symm hnw]
theorem kitW_ok {K : Frag} {l : List Str} (c : cMro l K = true) (x : Str) (h : x ∈ l) : PySem.W.kitOne K (.ref (ga K x)) (.ref (ga K "WhichError")) = some true := by
  obtain ⟨hm, ⟨cw, ew, nw⟩, tw⟩ := mro_ok c
  unfold PySem.W.kitOne
  by_cases e : (Value.ref (ga K x) == Value.ref (ga K "WhichError")) = true
  · rw [if_pos e]
  · rw [if_neg e]
    unfold PySem.W.kitCls
    dsimp only
    rw [ew, tw]
    show (if ((some cw).isSome && (some (Value.type "type") == some (Value.type "type"))) = true then _ else _) = _
    rw [if_pos (by simp), sub_of (hm x h)]
    unfold mroE
    simp
theorem kitE_ok {K : Frag} {l : List Str} (c : cMro l K = true) (x : Str) (h : x ∈ l) : PySem.W.kitOne K (.ref (ga K x)) (.type "ValueError") = some true := by
  obtain ⟨hm, _⟩ := mro_ok c
  unfold PySem.W.kitOne
  rw [if_neg (by simp)]
  unfold PySem.W.kitCls
  show (if PySem.W.kitMeta "ValueError" = true then _ else _) = _
  rw [if_pos (by decide +kernel), sub_of (hm x h)]
  unfold mroE
  simp
end WH
set_option Elab.async false
set_option linter.all false
set_option maxRecDepth 100000
set_option maxHeartbeats 4000000
namespace WH
open PySem PySem.Spec PyProof.Rows L2
open He (ga ma ba eqO eqO_ok)
def psOf (st : Stmt) : PySem.WErr.PsN := match defBody st with
  | .Expr (.Call (.Attribute (.Call (.Name _ a1) _ _ a2) _ a3) [.Constant (.str txt) k a5] _ a6) a7 :: r =>
    ⟨a1, a2, a3, a5, a6, a7, k, txt, r.map fun s => match s with
      | .Assign [.Attribute (.Name _ q1) _ q2] (.Name _ q3) q4 => (q1, q2, q3, q4)
      | _ => (a1, a1, a1, a1)⟩
  | _ => ⟨⟨0, 0, 0, 0⟩, ⟨0, 0, 0, 0⟩, ⟨0, 0, 0, 0⟩, ⟨0, 0, 0, 0⟩, ⟨0, 0, 0, 0⟩, ⟨0, 0, 0, 0⟩, 0, "", []⟩
def argsN (as : List Arg) : Arguments := ⟨[], as, none, [], [], none, []⟩
theorem sup_eval (p : PySem.WErr.PsN) (hline : (p.a3.endLine == p.a6.line) = true) (qual : Str) (sc : Scope) (cda cc L f : Addr) : ∃ pl : Sem Bool, eval (.Call (.Attribute (.Call (.Name "super" p.a1) [] [] p.a2) "__init__" p.a3) [.Constant (.str p.txt) p.k p.a5] [] p.a6) (PySem.W.ksEnv qual sc L f (.ref cda) cc) = (do
      let ov ← attributeBase (.Call (.Name "super" p.a1) [] [] p.a2) "__init__" (PySem.W.ksEnv qual sc L f (.ref cda) cc) (eval (.Call (.Name "super" p.a1) [] [] p.a2) (PySem.W.ksEnv qual sc L f (.ref cda) cc))
      standAt p.a3.atName
      let (f1, first) ← holding [ov] (getMethod ov "__init__" pl)
      callWith p.a6 f1 first (backTo p.a6 (starEach [.Constant (.str p.txt) p.k p.a5] (PySem.W.ksEnv qual sc L f (.ref cda) cc))) []) := by
  generalize (PySem.W.ksEnv qual sc L f (.ref cda) cc) = env
  refine ⟨(do return (← importBound (.Call (.Name "super" p.a1) [] [] p.a2) env).getD true), ?_⟩
  have hpos : methodCallPos true (.Call (.Name "super" p.a1) [] [] p.a2) env p.a3 p.a6 = pure p.a6 := by unfold methodCallPos; simp [hline]
  have hform : methodCallForm 1 (backTo p.a6 (starEach [.Constant (.str p.txt) p.k p.a5] env)) (backToKw p.a6 (keywordEach [] env)) = true := rfl
  rw [arm_eval_Call]
  show (do
    let ov ← attributeBase (.Call (.Name "super" p.a1) [] [] p.a2) "__init__" env (eval (.Call (.Name "super" p.a1) [] [] p.a2) env)
    standAt p.a3.atName
    methodCall (.Call (.Name "super" p.a1) [] [] p.a2) "__init__" p.a3 p.a6 env ov 1 (backTo p.a6 (starEach [.Constant (.str p.txt) p.k p.a5] env)) (backToKw p.a6 (keywordEach [] env))) = _
  unfold methodCall
  rw [hform, hpos]
  rfl
structure StOk (fls : List Str) (st : Stmt) : Prop where
  b : defBody st = PySem.WErr.eBN fls (psOf st)
  s : defScope st = PySem.WErr.eSN fls
  l : ((psOf st).a3.endLine == (psOf st).a6.line) = true
  q : (psOf st).qs.length = fls.length
  a : ∃ q0 qs, qs.length = fls.length ∧ defArgs st = argsN (⟨"self", none, q0⟩ :: List.zipWith (fun f q => ⟨f, none, q⟩) fls qs)
def a0 (st : Stmt) : Pos := ((defArgs st).args.map (·.pos)).headD ⟨0, 0, 0, 0⟩
def aqs (st : Stmt) : List Pos := ((defArgs st).args.map (·.pos)).tail
def FlOk (fls : List Str) : Prop := (fls = [] ∨ (∃ f, fls = [f]) ∨ ∃ f g, fls = [f, g] ∧ f ≠ g) ∧
  (PySem.WErr.eSN fls).names.lookup ("super" : Str) = some .globalImplicit ∧ (PySem.WErr.eSN fls).names.lookup ("__class__" : Str) = some .free ∧ (PySem.WErr.eSN fls).names.lookup ("self" : Str) = some .local ∧ (∀ f ∈ fls, (PySem.WErr.eSN fls).names.lookup f = some .local) ∧
  (∀ f ∈ fls, f ≠ "self" ∧ (f == ("__debug__" : Str)) = false) ∧
  ∀ (q0 : Pos) (qs : List Pos), qs.length = fls.length → ∀ (qual : Str) (b : List Stmt) (sc : Scope) (kV doc pm : Value) (an : Option Addr) (cda cc : Addr) (ct a : Value) (us : List Value), us.length = fls.length →
    bindArgs (PySem.W.ksFn "__init__" qual (argsN (⟨"self", none, q0⟩ :: List.zipWith (fun f q => ⟨f, none, q⟩) fls qs)) b sc .none kV doc pm an (.ref cda) ct cc) ⟨a :: us, []⟩ = pure ((("self" : Str), a) :: fls.zip us)
theorem ErN.txt2 {prog : Program} {K : Frag} {h : Heap} {mg : Str → Option Value} {e : ErN} (X : K.In h) (G : h.Ns mainGlobals mg) (c : e.ok prog K = true ∧ fnE K e.x = e.val) (S : StOk e.fls e.st) (F : FlOk e.fls) : PySem.WErr.ErrTxtN prog K mg e.x e.fls (ga K e.x) (iAd K e.x) := by
  obtain ⟨f1, f2, f3, f4, f5, f6, f7⟩ := F
  obtain ⟨q0, qs, hl, ha⟩ := S.a
  refine ErN.txt (p := psOf e.st) (ar := ⟨"self", none, q0⟩) X G c.1 c.2 S.b S.s (by rw [ha]; rfl) rfl f2 f3 f4 f5 f6 f1 S.q (fun cda cc L f => sup_eval _ S.l _ _ cda cc L f) (fun kV doc pm an cda cc ct a us hu => ?_)
  rw [ha]
  exact f7 q0 qs hl _ _ _ _ _ _ _ _ _ _ _ us hu
end WH
set_option Elab.async false
set_option linter.all false
set_option maxRecDepth 100000
set_option maxHeartbeats 4000000
namespace KL
open PySem PySem.Spec PyProof.Rows L2
open He (ga ma)
open Evl (Ex Ev EvA EvT EvL EvU)
open TL (tl)
def top (i : Nat) : Stmt := PySem.Challenge.pw_whichmatch_k01_errors_and_their_fields.main.body.getD i (.Pass ⟨0, 0, 0, 0⟩)
abbrev s_BadName___init__ : Stmt := inClass (top 2) 0
abbrev s_BadOperand___init__ : Stmt := inClass (top 3) 0
abbrev s_BadClash___init__ : Stmt := inClass (top 4) 0
abbrev s_Twice___init__ : Stmt := inClass (top 5) 0
abbrev s_NoAlias___init__ : Stmt := inClass (top 6) 0
abbrev s_BadKey___init__ : Stmt := inClass (top 7) 0
abbrev s_BadReference___init__ : Stmt := inClass (top 8) 0
abbrev s_NoTable___init__ : Stmt := inClass (top 9) 0
abbrev s_NoColumn___init__ : Stmt := inClass (top 10) 0
abbrev s_NotBefore___init__ : Stmt := inClass (top 11) 0
abbrev s_KeyColumn___init__ : Stmt := inClass (top 12) 0
abbrev s_MissingColumn___init__ : Stmt := inClass (top 13) 0
abbrev s_ManyKeys___init__ : Stmt := inClass (top 14) 0
abbrev s_Unsettled___init__ : Stmt := inClass (top 15) 0
abbrev s_BadRow___init__ : Stmt := inClass (top 16) 0
abbrev s_Taken___init__ : Stmt := inClass (top 17) 0
abbrev s_NoRow___init__ : Stmt := inClass (top 18) 0
abbrev s_BadPick___init__ : Stmt := inClass (top 19) 0
abbrev s_NoIndex___init__ : Stmt := inClass (top 20) 0
abbrev s_Stopped___init__ : Stmt := inClass (top 21) 0
abbrev s_ManyMatches___init__ : Stmt := inClass (top 22) 0
abbrev s_Parted___init__ : Stmt := inClass (top 23) 0
abbrev s_TooMany___init__ : Stmt := inClass (top 24) 0
abbrev s_BadText___init__ : Stmt := inClass (top 25) 0
abbrev s_BadCommand___init__ : Stmt := inClass (top 26) 0
abbrev s_OtherSchema___init__ : Stmt := inClass (top 27) 0
abbrev s_law_bag : Stmt := top 29
abbrev s_law_take : Stmt := top 30
abbrev s_law_of : Stmt := top 31
abbrev s_law_name : Stmt := top 32
abbrev s_law_odd : Stmt := top 33
abbrev s_law_same : Stmt := top 34
abbrev s_law_first : Stmt := top 35
abbrev s_law_second : Stmt := top 36
abbrev s_law_errors : Stmt := top 37
abbrev s_law_fields : Stmt := top 38
abbrev s_law : Stmt := top 39
def errN : List Str := ["BadName", "BadOperand", "BadClash", "Twice", "NoAlias", "BadKey", "BadReference", "NoTable", "NoColumn", "NotBefore", "KeyColumn", "MissingColumn", "ManyKeys", "Unsettled", "BadRow", "Taken", "NoRow", "BadPick", "NoIndex", "Stopped", "ManyMatches", "Parted", "TooMany", "BadText", "BadCommand", "OtherSchema"]
structure Txt (P : Program) (K : PySem.W.Frag) (mg : Str → Option Value) : Prop where
  m_ValueError : mg "ValueError" = none
  m_range : mg "range" = none
  m_abs : mg "abs" = none
  m_int : mg "int" = none
  m_isinstance : mg "isinstance" = none
  m_max : mg "max" = none
  m_enumerate : mg "enumerate" = none
  m_len : mg "len" = none
  m_repr : mg "repr" = none
  m_min : mg "min" = none
  m_all : mg "all" = none
  g_WhichError : mg "WhichError" = some (.ref (ga K "WhichError"))
  n_BadName : PySem.WErr.ErrTxtN P K mg "BadName" ["name"] (ga K "BadName") (WH.iAd K "BadName")
  n_BadOperand : PySem.WErr.ErrTxtN P K mg "BadOperand" ["operand"] (ga K "BadOperand") (WH.iAd K "BadOperand")
  n_BadClash : PySem.WErr.ErrTxtN P K mg "BadClash" ["clash"] (ga K "BadClash") (WH.iAd K "BadClash")
  n_Twice : PySem.WErr.ErrTxtN P K mg "Twice" ["name"] (ga K "Twice") (WH.iAd K "Twice")
  n_NoAlias : PySem.WErr.ErrTxtN P K mg "NoAlias" ["alias"] (ga K "NoAlias") (WH.iAd K "NoAlias")
  n_BadKey : PySem.WErr.ErrTxtN P K mg "BadKey" ["index"] (ga K "BadKey") (WH.iAd K "BadKey")
  n_BadReference : PySem.WErr.ErrTxtN P K mg "BadReference" ["index"] (ga K "BadReference") (WH.iAd K "BadReference")
  n_NoTable : PySem.WErr.ErrTxtN P K mg "NoTable" ["table"] (ga K "NoTable") (WH.iAd K "NoTable")
  n_NoColumn : PySem.WErr.ErrTxtN P K mg "NoColumn" ["column"] (ga K "NoColumn") (WH.iAd K "NoColumn")
  n_NotBefore : PySem.WErr.ErrTxtN P K mg "NotBefore" ["table"] (ga K "NotBefore") (WH.iAd K "NotBefore")
  n_KeyColumn : PySem.WErr.ErrTxtN P K mg "KeyColumn" ["column"] (ga K "KeyColumn") (WH.iAd K "KeyColumn")
  n_MissingColumn : PySem.WErr.ErrTxtN P K mg "MissingColumn" ["column"] (ga K "MissingColumn") (WH.iAd K "MissingColumn")
  n_ManyKeys : PySem.WErr.ErrTxtN P K mg "ManyKeys" ["table"] (ga K "ManyKeys") (WH.iAd K "ManyKeys")
  n_Unsettled : PySem.WErr.ErrTxtN P K mg "Unsettled" ["index"] (ga K "Unsettled") (WH.iAd K "Unsettled")
  n_BadRow : PySem.WErr.ErrTxtN P K mg "BadRow" ["row"] (ga K "BadRow") (WH.iAd K "BadRow")
  n_Taken : PySem.WErr.ErrTxtN P K mg "Taken" ["row"] (ga K "Taken") (WH.iAd K "Taken")
  n_NoRow : PySem.WErr.ErrTxtN P K mg "NoRow" ["key"] (ga K "NoRow") (WH.iAd K "NoRow")
  n_BadPick : PySem.WErr.ErrTxtN P K mg "BadPick" ["index"] (ga K "BadPick") (WH.iAd K "BadPick")
  n_NoIndex : PySem.WErr.ErrTxtN P K mg "NoIndex" ["index"] (ga K "NoIndex") (WH.iAd K "NoIndex")
  n_Stopped : PySem.WErr.ErrTxtN P K mg "Stopped" ["index", "key"] (ga K "Stopped") (WH.iAd K "Stopped")
  n_ManyMatches : PySem.WErr.ErrTxtN P K mg "ManyMatches" ["key"] (ga K "ManyMatches") (WH.iAd K "ManyMatches")
  n_Parted : PySem.WErr.ErrTxtN P K mg "Parted" ["cell"] (ga K "Parted") (WH.iAd K "Parted")
  n_TooMany : PySem.WErr.ErrTxtN P K mg "TooMany" ["limit"] (ga K "TooMany") (WH.iAd K "TooMany")
  n_BadText : PySem.WErr.ErrTxtN P K mg "BadText" ["index"] (ga K "BadText") (WH.iAd K "BadText")
  n_BadCommand : PySem.WErr.ErrTxtN P K mg "BadCommand" ["command"] (ga K "BadCommand") (WH.iAd K "BadCommand")
  n_OtherSchema : PySem.WErr.ErrTxtN P K mg "OtherSchema" [] (ga K "OtherSchema") (WH.iAd K "OtherSchema")
  ise : ∀ x ∈ errN, IsE K (ga K x)
  kit : ∀ x ∈ errN, ∀ y ∈ errN, PySem.W.kitOne K (.ref (ga K x)) (.ref (ga K y)) = some (x == y)
  kitW : ∀ x ∈ errN, PySem.W.kitOne K (.ref (ga K x)) (.ref (ga K "WhichError")) = some true
  kitE : ∀ x ∈ errN, PySem.W.kitOne K (.ref (ga K x)) (.type "ValueError") = some true
  F_law_bag : FnF K mg "_law_bag" s_law_bag
  F_law_take : FnF K mg "_law_take" s_law_take
  F_law_of : FnF K mg "_law_of" s_law_of
  F_law_name : FnF K mg "_law_name" s_law_name
  F_law_odd : FnF K mg "_law_odd" s_law_odd
  F_law_same : FnF K mg "_law_same" s_law_same
  F_law_first : FnF K mg "_law_first" s_law_first
  F_law_second : FnF K mg "_law_second" s_law_second
  F_law_errors : FnF K mg "_law_errors" s_law_errors
  F_law_fields : FnF K mg "_law_fields" s_law_fields
  F_law : FnF K mg "law" s_law
section
variable {P : Program} {w : World} {K : PySem.W.Frag} {mg : Str → Option Value} {base : Heap}
theorem sc_law_take : FnScope ["_law_bag_here", "_law_many", "_law_digit", "_law_mixed"] ["_law_bag_here", "_law_many"] (defScope s_law_take) := ⟨rfl, rfl, rfl, by decide +kernel, rfl, by decide +kernel, by decide +kernel⟩
theorem ok_take (T : Txt P K mg) : FnK P w K mg base CX0 1 "_law_take" ["_law_bag_here", "_law_many"] spTake := by
  refine T.F_law_take.ok sc_law_take (fun _ _ _ _ _ _ us hl => match us, hl with | [_, _], _ => rfl) (fun vs H Q E h => ?_) (fun cdv A outer s H vs Q E hr h => ?_)
  · obtain ⟨b, many, G, rfl, _⟩ := h
    rfl
  obtain ⟨b, many, G, rfl, h0, h1, S, q⟩ := h
  refine ⟨_, (pss_cons (ps_if (pt_cmpR op_gt (pe_ix ix_list (pv 0) pe_int (fun _ _ => rfl)) pe_int (nomark _)) (pss_cons (ps_set (i := 2) sc_law_take.nd rfl (by first | exact Or.inl rfl | exact Or.inr rfl) (pe_op op_mod (pe_callTy call_int1 (by rfl) T.m_int (by decide +kernel) (pa_cons (pe_ix ix_list (pv 0) pe_int (fun _ _ => rfl)) pa_nil)) (pv 1)))
  (pss_cons (ps_asg (pe_op op_fdivW (pe_ix ix_list (pv 0) pe_int (fun _ _ => rfl)) (pv 1)) (pg_sub (pv 0) pe_int set_list))
  (pss_one (ps_ret (pv 2))))) pss_nil)
  (pss_cons (ps_asg (pe_op op_add (pe_ix ix_list (pv 0) pe_int (fun _ _ => rfl)) pe_int) (pg_sub (pv 0) pe_int set_list))
  (pss_cons (ps_set (i := 3) sc_law_take.nd rfl (by first | exact Or.inl rfl | exact Or.inr rfl) (pe_op op_mod (pe_callTy call_int1 (by rfl) T.m_int (by decide +kernel) (pa_cons (pe_op op_add (pe_ix ix_list (pv 0) pe_int (fun _ _ => rfl)) (pe_op op_mul pe_int (pe_ix ix_list (pv 0) pe_int (fun _ _ => rfl)))) pa_nil)) pe_int))
  (pss_cons (ps_set (i := 3) sc_law_take.nd rfl (by first | exact Or.inl rfl | exact Or.inr rfl) (pe_op op_mod (pe_callTy call_int1 (by rfl) T.m_int (by decide +kernel) (pa_cons (pe_op op_add (pe_op op_add (pe_op op_mul (pv 3) (pv 3)) (pe_op op_mul pe_int (pv 3))) (pe_op op_mul pe_int (pe_ix ix_list (pv 0) pe_int (fun _ _ => rfl)))) pa_nil)) pe_int))
  (pss_cons (ps_set (i := 3) sc_law_take.nd rfl (by first | exact Or.inl rfl | exact Or.inr rfl) (pe_op op_mod (pe_callTy call_int1 (by rfl) T.m_int (by decide +kernel) (pa_cons (pe_op op_add (pe_op op_pow (pe_op op_add (pe_op op_fdivW (pv 3) pe_int) (pe_ix ix_list (pv 0) pe_int (fun _ _ => rfl))) pe_int) (pe_op op_mul pe_int (pe_ix ix_list (pv 0) pe_int (fun _ _ => rfl)))) pa_nil)) pe_int))
  (pss_one (ps_ret (pe_op op_mod (pe_callTy call_int1 (by rfl) T.m_int (by decide +kernel) (pa_cons (pe_op op_fdivW (pv 3) pe_int) pa_nil)) (pv 1))))))))), ?_⟩
  obtain ⟨xs, hb, d, m, c, rfl, hd, hm, hm2⟩ := S.bag
  have sq : SqL K H b [.int d, .int m, .int c] := SqL.of hb
  have a0 : atI [V.int d, .int m, .int c] 0 = some (.int d) := rfl
  have a1 : atI [V.int d, .int m, .int c] 1 = some (.int m) := rfl
  have a2 : atI [V.int d, .int m, .int c] 2 = some (.int c) := rfl
  -- bag[0] > 0
  refine ⟨_, rfl, b, _, 0, _, rfl, rfl, sq, a0, d, 0, rfl, rfl, _, rfl, ite2 (fun e => ?_) (fun e => ?_)⟩
  · -- a digit
    refine ⟨_, rfl, b, _, 0, _, rfl, rfl, sq, a0, .inl ⟨d, rfl, _, rfl, d, many, rfl, rfl, h0, ?_⟩⟩
    refine ⟨_, rfl, b, _, 0, _, rfl, rfl, sq, a0, _, rfl, d, many, rfl, rfl, div_ok h0 h1, _, rfl, b, _, 0, 0, rfl, rfl, hb, rfl, ?_⟩
    refine ⟨_, rfl, ?_⟩
    refine q _ _ (Int.emod_nonneg _ (by omega)) (Int.emod_lt_of_pos _ h0) (S.put ⟨d / many, m, c, rfl, Int.ediv_nonneg hd (by omega), hm, hm2⟩)
  · -- mixed numbers
    refine ⟨_, rfl, b, _, 2, _, rfl, rfl, sq, a2, c, 1, rfl, rfl, _, rfl, b, _, 2, 2, rfl, rfl, hb, rfl, ?_⟩
    have S' : Stt b G (upd H b (.lst [V.int d, .int m, .int (c + 1)])) := S.put ⟨d, m, c + 1, rfl, hd, hm, hm2⟩
    refine ⟨_, rfl, b, _, 1, _, rfl, rfl, SqL.of upd_same, rfl, _, rfl, b, _, 2, _, rfl, rfl, SqL.of upd_same, rfl, 48271, _, rfl, rfl, .inl ⟨by decide, by decide⟩, m, _, rfl, rfl, .inl ⟨_, rfl, _, 2147483629, rfl, rfl, (show (0 : Int) < 2147483629 by decide), ?_⟩⟩
    refine ⟨_, rfl, _, rfl, _, _, rfl, rfl, .inl (mod_small (by decide) (by decide)), _, rfl, 7, _, rfl, rfl, .inl ⟨by decide, by decide⟩, _, _, rfl, rfl, _, rfl, b, _, 2, _, rfl, rfl, SqL.of upd_same, rfl, 611953, _, rfl, rfl, .inl ⟨by decide, by decide⟩, _, _, rfl, rfl, .inl ⟨_, rfl, _, 2305843009213693951, rfl, rfl, (show (0 : Int) < 2305843009213693951 by decide), ?_⟩⟩
    refine ⟨_, rfl, _, 64, rfl, rfl, div_ok (by decide) (by decide), _, rfl, b, _, 1, _, rfl, rfl, SqL.of upd_same, rfl, _, m, rfl, rfl, _, 2, rfl, rfl, pow_small hm hm2, _, rfl, b, _, 2, _, rfl, rfl, SqL.of upd_same, rfl, 104729, _, rfl, rfl, .inl ⟨by decide, by decide⟩, _, _, rfl, rfl, .inl ⟨_, rfl, _, 1152921504606846883, rfl, rfl, (show (0 : Int) < 1152921504606846883 by decide), ?_⟩⟩
    refine ⟨_, rfl, _, 4096, rfl, rfl, div_ok (by decide) (by decide), .inl ⟨_, rfl, _, rfl, _, many, rfl, rfl, h0, ?_⟩⟩
    exact q _ _ (Int.emod_nonneg _ (by omega)) (Int.emod_lt_of_pos _ h0) S'
theorem sc_law_of : FnScope ["_law_bag_here", "_law_some"] ["_law_bag_here", "_law_some"] (defScope s_law_of) := ⟨rfl, rfl, rfl, by decide +kernel, rfl, by decide +kernel, by decide +kernel⟩
theorem ok_of (T : Txt P K mg) : FnK P w K mg base CX0 2 "_law_of" ["_law_bag_here", "_law_some"] (spOf K) := by
  have F_law_take : FnK P w K mg base CX0 1 "_law_take" ["_law_bag_here", "_law_many"] spTake := ok_take T
  refine T.F_law_of.ok sc_law_of (fun _ _ _ _ _ _ us hl => match us, hl with | [_, _], _ => rfl) (fun vs H Q E h => ?_) (fun cdv A outer s H vs Q E hr h => ?_)
  · obtain ⟨b, G, x, rfl, _⟩ := h
    rfl
  obtain ⟨b, G, x, rfl, S, h⟩ := h
  refine ⟨_, (pss_one (ps_ret (pe_ix ix_seq (pv 1) (pe_callF F_law_take (hr.mono (by decide)) pass0 (pa_cons (pv 0) (pa_cons (pe_callB call_len (by rfl) T.m_len (by decide +kernel) (pa_cons (pv 1) pa_nil)) pa_nil))) (fun _ _ => rfl)))), ?_⟩
  rcases h with ⟨a, xs, rfl, sq, hne, hl, q⟩ | ⟨z, rfl, hne, hl, q⟩
  · have hpos : 0 < xs.length := List.length_pos_iff.mpr hne
    refine ⟨_, rfl, _, rfl, _, rfl, _, xs.length, rfl, .inl ⟨xs, Evl.ex_l S.sub sq, rfl⟩, b, _, G, rfl, by omega, by omega, S, fun r H' h0 h1 S' => .inl ?_⟩
    obtain ⟨j, rfl⟩ := Int.eq_ofNat_of_zero_le h0
    have hj : j < xs.length := by omega
    exact ⟨a, xs, _, xs[j], rfl, rfl, Evl.ex_l S'.sub sq, atI_nat (List.getElem?_eq_getElem hj), q _ _ (List.getElem_mem hj) S'⟩
  · have hpos : 0 < (tl z).length := List.length_pos_iff.mpr hne
    have hz : z.length = (tl z).length := TL.len_tl z
    refine ⟨_, rfl, _, rfl, _, rfl, _, z.length, rfl, ⟨sz10 hl, rfl⟩, b, _, G, rfl, by omega, by omega, S, fun r H' h0 h1 S' => .inr (.inr ?_)⟩
    obtain ⟨j, rfl⟩ := Int.eq_ofNat_of_zero_le h0
    have hj : j < (tl z).length := by omega
    exact ⟨z, _, (tl z)[j], rfl, rfl, sz10 hl, atI_nat (List.getElem?_eq_getElem hj), q _ _ (List.getElem_mem hj) S'⟩
end
end KL
set_option Elab.async false
set_option linter.all false
set_option maxRecDepth 100000
set_option maxHeartbeats 4000000
namespace KL
open PySem PySem.Spec PyProof.Rows L2
open He (ga ma)
open Evl (Ex Ev EvA EvT EvL EvU)
open TL (tl)
/-- _law_bag(script, at) -/
def spBag (K : PySem.W.Frag) : Sp := fun vs H Q _ => ∃ (a : Addr) (ns : List Int) (i : Int), vs = [.ref a, .int i] ∧ SqL K H a (ns.map V.int) ∧ 0 ≤ i ∧ i ≤ 100 ∧
  ∀ (b : Addr) (xs : List V) (H' : Hp), Ex H H' → H b = none → H' b = some (.lst xs) → BagOk xs → Q (.ref b) H'
theorem mem_cut {xs : List V} {lo hi : Option Int} {i : Nat} {y : V} (h : (cutV xs lo hi)[i]? = some y) : y ∈ xs := by
  have h1 := List.mem_of_getElem? h
  unfold cutV at h1
  exact List.mem_of_mem_drop (List.mem_of_mem_take h1)
theorem modM (a : Int) : 0 ≤ a % 2305843009213693951 ∧ a % 2305843009213693951 < 2305843009213693951 := ⟨Int.emod_nonneg _ (by decide), Int.emod_lt_of_pos _ (by decide)⟩
section
variable {P : Program} {w : World} {K : PySem.W.Frag} {mg : Str → Option Value} {base : Heap}
theorem sc_law_bag : FnScope ["_law_script", "_law_at", "_law_cell", "_law_whole", "_law_one", "_law_digits"] ["_law_script", "_law_at"] (defScope s_law_bag) := ⟨rfl, rfl, rfl, by decide +kernel, rfl, by decide +kernel, by decide +kernel⟩
theorem ok_bag (T : Txt P K mg) : FnK P w K mg base CX0 1 "_law_bag" ["_law_script", "_law_at"] (spBag K) := by
  refine T.F_law_bag.ok sc_law_bag (fun _ _ _ _ _ _ us hl => match us, hl with | [_, _], _ => rfl) (fun vs H Q E h => ?_) (fun cdv A outer s H vs Q E hr h => ?_)
  · obtain ⟨a, ns, i, rfl, _⟩ := h
    rfl
  obtain ⟨a, ns, at', rfl, sq, h0, h1, q⟩ := h
  refine ⟨_, (pss_cons (ps_set (i := 2) sc_law_bag.nd rfl (by first | exact Or.inl rfl | exact Or.inr rfl) (pe_ifExp (pt_cmpR op_lt (pv 1) (pe_callB call_len (by rfl) T.m_len (by decide +kernel) (pa_cons (pv 0) pa_nil)) (nomark _)) (pe_ix ix_list (pv 0) (pv 1) (fun _ _ => rfl)) pe_int))
  (pss_cons (ps_set (i := 3) sc_law_bag.nd rfl (by first | exact Or.inl rfl | exact Or.inr rfl) pe_int)
  (pss_cons (ps_for PassesOwn.never rfl (pi_list (pe_slice sl_list (pv 0) po_none (po_some pe_int))) (pg_name (i := 4) sc_law_bag.nd rfl (by first | exact Or.inl rfl | exact Or.inr rfl)) (pss_one (ps_set (i := 3) sc_law_bag.nd rfl (by first | exact Or.inl rfl | exact Or.inr rfl) (pe_op op_mod (pe_callTy call_int1 (by rfl) T.m_int (by decide +kernel) (pa_cons (pe_op op_add (pe_op op_mul (pv 3) pe_int) (pv 4)) pa_nil)) pe_int))))
  (pss_cons (ps_set (i := 5) sc_law_bag.nd rfl (by first | exact Or.inl rfl | exact Or.inr rfl) (pe_ifExp (pt_cmpR op_ge (pe_callB call_abs (by rfl) T.m_abs (by decide +kernel) (pa_cons (pv 2) pa_nil)) (pe_op op_pow pe_int pe_int) (nomark _)) (pe_callB call_abs (by rfl) T.m_abs (by decide +kernel) (pa_cons (pv 2) pa_nil)) pe_int))
  (pss_one (ps_ret (pe_lst (pa_cons (pv 5) (pa_cons (pe_op op_add (pe_op op_add (pe_op op_mod (pe_callTy call_int1 (by rfl) T.m_int (by decide +kernel) (pa_cons (pv 2) pa_nil)) pe_int) (pv 3)) (pe_op op_mul pe_int (pv 1))) (pa_cons pe_int pa_nil)))))))))), ?_⟩
  refine asg_or (fun v => ∃ c : Int, v = .int c) (fun Q1 k => ?_) ?_
  · refine ⟨_, rfl, _, rfl, _, ns.length, rfl, .inl ⟨ns.map V.int, sq, by simp⟩, at', _, rfl, rfl, _, rfl, ite2 (fun e => ?_) (fun e => ?_)⟩
    · have e1 : at' < ns.length := of_decide_eq_true e
      obtain ⟨j, rfl⟩ := Int.eq_ofNat_of_zero_le h0
      have hj : j < ns.length := by omega
      exact ⟨_, rfl, _, rfl, a, ns.map V.int, _, .int ns[j], rfl, rfl, sq, atI_nat (by rw [List.getElem?_map, List.getElem?_eq_getElem hj]; rfl), k _ ⟨_, rfl⟩⟩
    · exact k _ ⟨0, rfl⟩
  rintro _ ⟨cell, rfl⟩
  -- for one in script[:63]
  refine ⟨_, rfl, 63, rfl, a, ns.map V.int, rfl, sq, fun p hp => ?_⟩
  have e1 : Ex H (upd H p (.lst (cutV (ns.map V.int) none (some 63)))) := Ex.new hp
  refine ⟨p, rfl, ⟨_, SqL.of upd_same⟩, for_list (K := K) (a := p) (xs := cutV (ns.map V.int) none (some 63)) (fun i σ H' => ∃ (wh : Int) (v : Option V), σ = [some (.ref a), some (.int at'), some (.int cell), some (.int wh), v, none] ∧ 0 ≤ wh ∧ wh < 2305843009213693951 ∧ H' = upd H p (.lst (cutV (ns.map V.int) none (some 63))))
    ⟨7, none, rfl, by decide, by decide, rfl⟩ (fun i σ H' _ ⟨_, _, _, _, _, e⟩ => by subst e; exact SqL.of upd_same) ?_ ?_⟩
  · rintro i y σ H' hi ⟨wh, v, rfl, w0, w1, rfl⟩
    obtain ⟨z, _, rfl⟩ := List.mem_map.mp (mem_cut hi)
    refine ⟨_, rfl, wh, 1000003, rfl, rfl, .inl ⟨by omega, by omega⟩, _, rfl, _, z, rfl, rfl, .inl ⟨_, rfl, _, 2305843009213693951, rfl, rfl, (show (0 : Int) < 2305843009213693951 by decide), ?_⟩⟩
    exact ⟨_, some (.int z), rfl, (modM _).1, (modM _).2, rfl⟩
  · rintro σ H' ⟨wh, v, rfl, w0, w1, rfl⟩
    dsimp only
    refine asg_or (fun v => ∃ c : Int, v = .int c ∧ 0 ≤ c) (fun Q1 k => ?_) ?_
    · refine ⟨_, rfl, cell, rfl, 10, 18, rfl, rfl, ⟨by decide, by decide, by decide⟩, _, _, rfl, rfl, _, rfl, ite2 (fun e => ?_) (fun e => ?_)⟩
      · refine ⟨_, rfl, cell, rfl, k _ ⟨_, rfl, ?_⟩⟩
        by_cases hc : cell < 0
        · rw [if_pos hc]; omega
        · rw [if_neg hc]; omega
      · exact k _ ⟨0, rfl, by decide⟩
    rintro _ ⟨dg, rfl, hdg⟩
    refine ⟨_, rfl, _, rfl, .inl ⟨cell, rfl, cell, 2305843009213693951, rfl, rfl, (show (0 : Int) < 2305843009213693951 by decide), ?_⟩⟩
    refine ⟨_, rfl, _, wh, rfl, rfl, _, rfl, 7919, at', rfl, rfl, .inl ⟨by decide, by decide⟩, _, _, rfl, rfl, (show 3 ≤ sizeLine by decide), fun b hb => ?_⟩
    have m1 := modM cell
    refine q b _ _ (e1.trans (Ex.new hb)) (Ex.none_of e1 hb) upd_same ⟨dg, _, 0, rfl, hdg, by omega, by omega⟩
end
end KL
set_option Elab.async false
set_option linter.all false
set_option maxRecDepth 100000
set_option maxHeartbeats 4000000
namespace KL
open PySem PySem.Spec PyProof.Rows L2
open He (ga ma)
open Evl (Ex Ev EvA EvT EvL EvU)
open TL (tl)
/-- _law_name(bag, taken, pool) -/
def spName (K : PySem.W.Frag) : Sp := fun vs H Q _ => ∃ (b ta po : Addr) (G : Hp) (taken pool : List Str), vs = [.ref b, .ref ta, .ref po] ∧ Stt b G H ∧ SqL K G ta (taken.map V.str) ∧ SqL K G po (pool.map V.str) ∧
  (∀ z ∈ taken, NameS z) ∧ (∀ z ∈ pool, NameS z) ∧ taken.length ≤ 1000 ∧ pool.length ≤ 1000 ∧ ∀ (z : Str) (H' : Hp), NameS z → (taken.length < 26 → z ∉ taken) → Stt b G H' → Q (.str z) H'
section
variable {P : Program} {w : World} {K : PySem.W.Frag} {mg : Str → Option Value} {base : Heap}
theorem sc_law_name : FnScope ["_law_bag_here", "_law_taken", "_law_pool", "_law_letters", "_law_kind", "_law_word", "_law_turn", "_law_spot", "_law_first_here"] ["_law_bag_here", "_law_taken", "_law_pool"] (defScope s_law_name) := ⟨rfl, rfl, rfl, by decide +kernel, rfl, by decide +kernel, by decide +kernel⟩
theorem ok_name (T : Txt P K mg) : FnK P w K mg base CX0 3 "_law_name" ["_law_bag_here", "_law_taken", "_law_pool"] (spName K) := by
  have F_law_take : FnK P w K mg base CX0 1 "_law_take" ["_law_bag_here", "_law_many"] spTake := ok_take T
  have F_law_of : FnK P w K mg base CX0 2 "_law_of" ["_law_bag_here", "_law_some"] (spOf K) := ok_of T
  refine T.F_law_name.ok sc_law_name (fun _ _ _ _ _ _ us hl => match us, hl with | [_, _, _], _ => rfl) (fun vs H Q E h => ?_) (fun cdv A outer s H vs Q E hr h => ?_)
  · obtain ⟨b, ta, po, G, taken, pool, rfl, _⟩ := h
    rfl
  obtain ⟨b, ta, po, G, taken, pool, rfl, S, sqt, sqp, hnt, hnp, hlt, hlp, q⟩ := h
  refine ⟨_, (pss_cons (ps_set (i := 3) sc_law_name.nd rfl (by first | exact Or.inl rfl | exact Or.inr rfl) pe_str)
  (pss_cons (ps_set (i := 4) sc_law_name.nd rfl (by first | exact Or.inl rfl | exact Or.inr rfl) (pe_callF F_law_take (hr.mono (by decide)) pass0 (pa_cons (pv 0) (pa_cons pe_int pa_nil))))
  (C8.pss_cut (ps_if (PW.pt (pw_and (pt_cmpR op_eq (pv 4) pe_int (nomark _)) (pw_and1 (pt_truth (pv 2) (by intro _; rfl))))) (pss_cons (ps_set (i := 5) sc_law_name.nd rfl (by first | exact Or.inl rfl | exact Or.inr rfl) (pe_callF F_law_of (hr.mono (by decide)) pass0 (pa_cons (pv 0) (pa_cons (pv 2) pa_nil))))
  (pss_one (ps_if (pt_cmpR op_notIn_seq (pv 5) (pv 1) (by rfl)) (pss_one (ps_ret (pv 5))) pss_nil))) pss_nil)
  (C8.pss_cut (ps_if (PW.pt (pw_and (pt_cmpR op_lt (pv 4) pe_int (nomark _)) (pw_and1 (pt_truth (pv 1) (by intro _; rfl))))) (pss_one (ps_set (i := 5) sc_law_name.nd rfl (by first | exact Or.inl rfl | exact Or.inr rfl) (pe_callF F_law_of (hr.mono (by decide)) pass0 (pa_cons (pv 0) (pa_cons (pv 1) pa_nil))))) (pss_one (ps_set (i := 5) sc_law_name.nd rfl (by first | exact Or.inl rfl | exact Or.inr rfl) (pe_join pe_str (pe_lc (own := [("_law_turn", 6)]) (g := gName 6) (by rfl) sc_law_name.nd (pi_range1 (by rfl) T.m_range (pa_cons (pe_op op_add pe_int (pe_callF F_law_take (hr.mono (by decide)) pass0 (pa_cons (pv 0) (pa_cons pe_int pa_nil)))) pa_nil)) (blkOk_by (own := [("_law_turn", 6)]) (N := ["_law_bag_here", "_law_taken", "_law_pool", "_law_letters", "_law_kind", "_law_word", "_law_turn", "_law_spot", "_law_first_here"]) (sc := defScope s_law_name) (by decide +kernel)) (fun _ _ _ _ _ => (pg_name (i := 6) sc_law_name.nd rfl (by first | exact Or.inl rfl | exact Or.inr rfl))) (fun _ _ _ _ _ => pts_nil) (fun _ _ _ _ _ => (pe_callF F_law_of (hr.mono (by decide)) pass0 (pa_cons (pv 0) (pa_cons (pv 3) pa_nil)))))))))
  (pss_cons (ps_par (by rfl) sc_law_name.nd rfl rfl (by decide) rfl rfl (i := 7) (j := 8) (pa_cons (pe_callF F_law_take (hr.mono (by decide)) pass0 (pa_cons (pv 0) (pa_cons (pe_callB call_len (by rfl) T.m_len (by decide +kernel) (pa_cons (pv 5) pa_nil)) pa_nil))) (pa_cons (pe_callF F_law_take (hr.mono (by decide)) pass0 (pa_cons (pv 0) (pa_cons pe_int pa_nil))) pa_nil)) (by rfl))
  (pss_cons (ps_for PassesOwn.never rfl (pi_range1 (by rfl) T.m_range (pa_cons pe_int pa_nil)) (pg_name (i := 6) sc_law_name.nd rfl (by first | exact Or.inl rfl | exact Or.inr rfl)) (pss_cons (ps_set (i := 5) sc_law_name.nd rfl (by first | exact Or.inl rfl | exact Or.inr rfl) (pe_op op_add_str (pe_op op_add_str (pe_slice sl_str (pv 5) po_none (po_some (pv 7))) (pe_ix ix_str (pv 3) (pe_op op_mod (pe_op op_add (pv 8) (pv 6)) pe_int) (fun _ _ => rfl))) (pe_slice sl_str (pv 5) (po_some (pe_op op_add (pv 7) pe_int)) po_none)))
  (pss_one (ps_if (pt_cmpR op_notIn_seq (pv 5) (pv 1) (by rfl)) (pss_one (ps_ret (pv 5))) pss_nil))))
  (pss_one (ps_ret (pv 5))))))))), ?_⟩
  -- letters, kind
  refine ⟨_, rfl, b, 4, G, rfl, by decide, by decide, S, fun kind H1 k0 k1 S1 => ?_⟩
  -- one of the pool
  refine ⟨fun σ' H' => ∃ v5 : Option V, σ' = [some (.ref b), some (.ref ta), some (.ref po), some (.str abc), some (.int kind), v5, none, none, none] ∧ Stt b G H', ?_, ?_⟩
  · refine ⟨_, rfl, rfl, _, rfl, ite2 (fun e => ?_) (fun e => ?_)⟩
    · refine ⟨_, rfl, _, .inl ⟨pool.map V.str, Evl.ex_l S1.sub sqp, rfl⟩, ite2 (fun e2 => ?_) (fun e2 => ?_)⟩
      · have hne : pool.map V.str ≠ [] := by
          intro z
          rw [z] at e2
          exact Bool.noConfusion e2
        refine ⟨_, rfl, _, rfl, b, G, _, rfl, S1, .inl ⟨po, pool.map V.str, rfl, sqp, hne, by simpa using hlp, fun v H2 hv S2 => ?_⟩⟩
        obtain ⟨z, hz, rfl⟩ := List.mem_map.mp hv
        refine ⟨_, rfl, _, rfl, ta, taken.map V.str, rfl, .inl (Evl.ex_l S2.sub sqt), rfl, flat_strs _, _, rfl, ite2 (fun e3 => ?_) (fun e3 => ?_)⟩
        · refine ⟨_, rfl, q z H2 (hnp z hz) (fun _ hm => ?_) S2⟩
          have e4 : (!inV (.str z) (taken.map V.str)) = true := e3
          rw [inV_str, decide_eq_true hm] at e4
          exact Bool.noConfusion e4
        · exact ⟨_, rfl, S2⟩
      · exact ⟨none, rfl, S1⟩
    · exact ⟨none, rfl, S1⟩
  rintro σ' H2 ⟨v5, rfl, S2⟩
  clear S1
  -- a taken name or any letters
  refine ⟨fun σ' H' => ∃ z : Str, σ' = [some (.ref b), some (.ref ta), some (.ref po), some (.str abc), some (.int kind), some (.str z), none, none, none] ∧ NameS z ∧ Stt b G H', ?_, ?_⟩
  · refine ifS_or (fun b => b = true → taken ≠ []) (fun Q1 k => ?_) (fun ht => ?_) (fun _ => ?_)
    · refine ⟨_, rfl, kind, 2, rfl, rfl, _, rfl, ite2 (fun e => ?_) (fun e => ?_)⟩
      · refine ⟨_, rfl, _, .inl ⟨taken.map V.str, Evl.ex_l S2.sub sqt, rfl⟩, k _ fun e2 z => ?_⟩
        subst z
        exact Bool.noConfusion e2
      · exact k _ fun z => Bool.noConfusion z
    · refine ⟨_, rfl, _, rfl, b, G, _, rfl, S2, .inl ⟨ta, taken.map V.str, rfl, sqt, by simpa using ht rfl, by simpa using hlt, fun v H3 hv S3 => ?_⟩⟩
      obtain ⟨z, hz, rfl⟩ := List.mem_map.mp hv
      exact ⟨z, rfl, hnt z hz, S3⟩
    · -- "".join([of(bag, letters) for turn in range(1 + take(bag, 8))])
      refine ⟨⟨_, rfl⟩, _, rfl, b, 8, G, rfl, by decide, by decide, S2, fun r H3 r0 r1 S3 => ?_⟩
      refine ⟨1, r, rfl, rfl, _, rfl, by omega, by omega, fun D hD => ?_⟩
      obtain ⟨hGD, hDb⟩ := S3.free hD
      refine lc_range (lo := 0) (n := (1 + r).toNat) (fun i H' => ∃ ys : List Str, H' D = some (.lst (ys.map V.str)) ∧ ys.length = i ∧ (∀ y ∈ ys, ∃ c, tl y = [c] ∧ 97 ≤ c ∧ c ≤ 122) ∧ Stt b G H')
        ⟨[], upd_same, rfl, fun _ hy => (nomatch hy), S3.mut hGD hDb⟩ ?_ ?_
      · rintro i H' hi ⟨ys, hD', hl, hy, S'⟩
        refine ⟨rfl, yesT ?_⟩
        refine ⟨_, rfl, _, rfl, b, _, _, rfl, S'.with hD' hDb, .inr ⟨abc, rfl, by rw [abc_tl]; simp, by rw [abc_len]; decide, fun c H4 hc S4 => ?_⟩⟩
        have hD4 : H4 D = some (.lst (ys.map V.str)) := S4.sub _ _ upd_same
        refine ⟨_, hD4, small1000 (by rw [List.length_map]; omega), ys ++ [⟨#[c]⟩], by rw [upd_same]; simp, by simp [hl], fun y hy' => ?_, (S4.less (S'.exW hD')).mut hGD hDb⟩
        rcases List.mem_append.mp hy' with h | h
        · exact hy y h
        · obtain rfl := List.mem_singleton.mp h
          exact ⟨c, rfl, abc_mem hc⟩
      · rintro H' ⟨ys, hD', hl, hy, S'⟩
        have hlen : ∀ l : List Str, (∀ y ∈ l, ∃ c, tl y = [c] ∧ 97 ≤ c ∧ c ≤ 122) → (l.map tl).flatten.length = l.length ∧ ∀ c ∈ (l.map tl).flatten, 97 ≤ c ∧ c ≤ 122 := by
          intro l hl
          induction l with
          | nil => exact ⟨rfl, fun _ h => (nomatch h)⟩
          | cons y r ih =>
            obtain ⟨c, hc, h1, h2⟩ := hl y List.mem_cons_self
            obtain ⟨i1, i2⟩ := ih fun z hz => hl z (List.mem_cons_of_mem _ hz)
            simp only [List.map_cons, List.flatten_cons, hc]
            refine ⟨by simp [i1], fun d hd => ?_⟩
            rcases List.mem_append.mp hd with h | h
            · obtain rfl := List.mem_singleton.mp h
              exact ⟨h1, h2⟩
            · exact i2 d h
        obtain ⟨n1, n2⟩ := hlen ys hy
        have hj : tl (Txt.join Str.empty ys) = (ys.map tl).flatten := tl_join0 ys
        refine ⟨_, D, ys, rfl, rfl, .inl (SqL.of hD'), ?_, Txt.join Str.empty ys, rfl, ⟨?_, ?_, ?_⟩, S'⟩
        · have hs : (ys.map (·.length)).sum = ys.length := by
            clear hD' hl S' hj n1 n2
            induction ys with
            | nil => rfl
            | cons y r ih =>
              obtain ⟨c, hc, _⟩ := hy y List.mem_cons_self
              rw [List.map_cons, List.sum_cons, ih fun z hz => hy z (List.mem_cons_of_mem _ hz), TL.len_tl y, hc, List.length_cons]
              simp
              omega
          rw [hs, hl]
          show _ + _ * 0 ≤ _
          omega
        · rw [hj, n1, hl]; omega
        · rw [hj, n1, hl]; omega
        · rw [hj]; exact n2
  rintro σ' H3 ⟨z0, rfl, nz0, S3⟩
  clear S2
  have hz0 : z0.length = (tl z0).length := TL.len_tl z0
  have hz1 := nz0.1
  have hz2 := nz0.2.1
  -- spot, first
  refine ⟨_, rfl, _, rfl, _, z0.length, rfl, ⟨sz10 (by omega), rfl⟩, b, _, G, rfl, by omega, by omega, S3, fun sp H4 sp0 sp1 S4 => ?_⟩
  refine ⟨_, rfl, b, 26, G, rfl, by decide, by decide, S4, fun f H5 f0 f1 S5 => ⟨_, _, rfl, ?_⟩⟩
  obtain ⟨sp, rfl⟩ := Int.eq_ofNat_of_zero_le sp0
  obtain ⟨f, rfl⟩ := Int.eq_ofNat_of_zero_le f0
  have hsp : sp < (tl z0).length := by omega
  -- for turn in range(26)
  refine ⟨26, rfl, by decide, by decide, for_range (lo := 0) (n := 26) (fun i σ H' => ∃ (z : Str) (v6 : Option V), σ = [some (.ref b), some (.ref ta), some (.ref po), some (.str abc), some (.int kind), some (.str z), v6, some (.int (sp : Int)), some (.int (f : Int))] ∧
    (∃ c, tl z = (tl z0).set sp c) ∧ NameS z ∧ Stt b G H' ∧ ∀ j < i, wordAt (tl z0) sp f j ∈ taken)
    ⟨z0, none, rfl, ⟨(tl z0)[sp], (List.set_getElem_self hsp).symm⟩, nz0, S5, fun j hj => absurd hj (Nat.not_lt_zero j)⟩ ?_ ?_⟩
  · rintro i σ H' hi ⟨z, v6, rfl, ⟨c0, hc0⟩, nz, S', hw⟩
    have hzl : (tl z).length = (tl z0).length := by rw [hc0, List.length_set]
    have hzz : z.length = (tl z).length := TL.len_tl z
    have ez : ((0 : Int) + (i : Int)) = (i : Int) := by omega
    have em : ((f : Int) + (0 + (i : Int))) % 26 = (((f + i) % 26 : Nat) : Int) := by omega
    have hm26 : (f + i) % 26 < 26 := Nat.mod_lt _ (by decide)
    have t1 : tl (cutS z none (some (sp : Int))) = (tl z).take sp := tl_cut_to z (by omega)
    have t2 : tl (cutS z (some ((sp : Int) + 1)) none) = (tl z).drop (sp + 1) := tl_cut_from z (i := sp + 1) (by omega)
    have l1 : (cutS z none (some (sp : Int))).length = sp := by rw [TL.len_tl, t1, List.length_take]; omega
    have l2 : (cutS z (some ((sp : Int) + 1)) none).length = (tl z).length - (sp + 1) := by rw [TL.len_tl, t2, List.length_drop]
    refine ⟨_, rfl, _, rfl, (sp : Int), rfl, z, rfl, sz10 (by omega), _, rfl, _, rfl, _, rfl, (f : Int), _, rfl, rfl, _, 26, rfl, rfl, (show (0 : Int) < 26 by decide), abc, _, 97 + (f + i) % 26, rfl, rfl, (show abc.length ≤ sizeLine by rw [abc_len]; decide), (by rw [em]; exact abc_at hm26), _, _, rfl, rfl, ?_, ?_⟩
    · rw [l1]
      exact sz10 (show sp + 1 ≤ 1000 by omega)
    refine ⟨_, rfl, _, rfl, (sp : Int), 1, rfl, rfl, _, rfl, z, rfl, sz10 (by omega), _, _, rfl, rfl, ?_, ?_⟩
    · rw [TL.len_tl, TL.tl_append, List.length_append, t1, l2, List.length_take]
      exact sz10 (show min sp (tl z).length + 1 + ((tl z).length - (sp + 1)) ≤ 1000 by omega)
    have ew : cutS z none (some (sp : Int)) ++ (⟨#[97 + (f + i) % 26]⟩ : Str) ++ cutS z (some ((sp : Int) + 1)) none = wordAt (tl z0) sp f i := by
      apply TL.ext_tl
      rw [TL.tl_append, TL.tl_append, t1, t2]
      show (tl z).take sp ++ [97 + (f + i) % 26] ++ (tl z).drop (sp + 1) = (tl z0).set sp (97 + (f + i) % 26)
      rw [set_cut (by omega), hc0, List.set_set]
    have nw : NameS (wordAt (tl z0) sp f i) := nz0.set (by omega)
    rw [ew]
    refine ⟨_, rfl, _, rfl, ta, taken.map V.str, rfl, .inl (Evl.ex_l S'.sub sqt), rfl, flat_strs _, _, rfl, ite2 (fun e3 => ?_) (fun e3 => ?_)⟩
    · refine ⟨_, rfl, q _ H' nw (fun _ hm => ?_) S'⟩
      have e4 : (!inV (.str (wordAt (tl z0) sp f i)) (taken.map V.str)) = true := e3
      rw [inV_str, decide_eq_true hm] at e4
      exact Bool.noConfusion e4
    · refine ⟨_, _, rfl, ⟨_, rfl⟩, nw, S', fun j hj => ?_⟩
      rcases Nat.lt_succ_iff_lt_or_eq.mp hj with h | h
      · exact hw j h
      · subst h
        by_cases hm : wordAt (tl z0) sp f j ∈ taken
        · exact hm
        · refine absurd ?_ e3
          show (!inV (.str (wordAt (tl z0) sp f j)) (taken.map V.str)) = true
          rw [inV_str, decide_eq_false hm]
          rfl
  · rintro σ H' ⟨z, v6, rfl, _, nz, S', hw⟩
    exact ⟨_, rfl, q z H' nz (fun h => absurd (words_many hsp hw) (by omega)) S'⟩
end
end KL
set_option Elab.async false
set_option linter.all false
set_option maxRecDepth 100000
set_option maxHeartbeats 4000000
namespace KL
open PySem PySem.Spec PyProof.Rows L2
open He (ga ma)
open Evl (Ex Ev EvA EvT EvL EvU)
open TL (tl)
/-- the objects of _law_odd(bag, word) -/
def oddL (z : Str) : List PyData := [.none, .bool true, .bool false, .int (-1), .int (10 ^ 30 + 1), .str "", .str (Txt.upper z), .str (z ++ "abcdefgh"), .str (z ++ " "), .str (z ++ "." ++ z),
  .tuple [.str z], .list [.str z], .tuple [], .list [], .int 0, .int 1, .str (z ++ "1"), .tuple [.tuple [.str z], .str z], .str z]
def spOdd (K : PySem.W.Frag) : Sp := fun vs H Q _ => ∃ (b : Addr) (G : Hp) (z : Str), vs = [.ref b, .str z] ∧ NameS z ∧ Stt b G H ∧ ∀ (v : V) (d : PyData) (G' H' : Hp), Ex G G' → Stt b G' H' → Dp K G' v d → d ∈ oddL z → Q v H'
theorem len_app (x y : Str) : (x ++ y).length = x.length + y.length := by rw [TL.len_tl, TL.tl_append, List.length_append, ← TL.len_tl, ← TL.len_tl]
section
variable {P : Program} {w : World} {K : PySem.W.Frag} {mg : Str → Option Value} {base : Heap}
theorem sc_law_odd : FnScope ["_law_bag_here", "_law_word", "_law_some"] ["_law_bag_here", "_law_word"] (defScope s_law_odd) := ⟨rfl, rfl, rfl, by decide +kernel, rfl, by decide +kernel, by decide +kernel⟩
theorem ok_odd (T : Txt P K mg) : FnK P w K mg base CX0 3 "_law_odd" ["_law_bag_here", "_law_word"] (spOdd K) := by
  have F_law_of : FnK P w K mg base CX0 2 "_law_of" ["_law_bag_here", "_law_some"] (spOf K) := ok_of T
  refine T.F_law_odd.ok sc_law_odd (fun _ _ _ _ _ _ us hl => match us, hl with | [_, _], _ => rfl) (fun vs H Q E h => ?_) (fun cdv A outer s H vs Q E hr h => ?_)
  · obtain ⟨b, G, z, rfl, _⟩ := h
    rfl
  obtain ⟨b, G, z, rfl, nz, S, q⟩ := h
  refine ⟨_, (pss_cons (ps_set (i := 2) sc_law_odd.nd rfl (by first | exact Or.inl rfl | exact Or.inr rfl) (pe_lst (pa_cons pe_non (pa_cons pe_bl (pa_cons pe_bl (pa_cons (pe_un un_neg pe_int) (pa_cons (pe_op op_add (pe_op op_pow pe_int pe_int) pe_int) (pa_cons pe_str (pa_cons (pe_upper (pv 1)) (pa_cons (pe_op op_add_str (pv 1) pe_str) (pa_cons (pe_op op_add_str (pv 1) pe_str) (pa_cons (pe_op op_add_str (pe_op op_add_str (pv 1) pe_str) (pv 1)) pa_nil))))))))))))
  (pss_one (ps_ret (pe_callF F_law_of (hr.mono (by decide)) pass0 (pa_cons (pv 0) (pa_cons (pe_op op_cat (pv 2) (pe_lst (pa_cons (pe_tup (pa_cons (pv 1) pa_nil)) (pa_cons (pe_lst (pa_cons (pv 1) pa_nil)) (pa_cons (pe_tup pa_nil) (pa_cons (pe_lst pa_nil) (pa_cons pe_int (pa_cons pe_int (pa_cons (pe_op op_add_str (pv 1) pe_str) (pa_cons (pe_tup (pa_cons (pe_tup (pa_cons (pv 1) pa_nil)) (pa_cons (pv 1) pa_nil))) (pa_cons (pv 1) pa_nil))))))))))) pa_nil)))))), ?_⟩
  have hz : z.length ≤ 8 := by rw [TL.len_tl]; exact nz.2.1
  have l8 : (("abcdefgh" : Str)).length = 8 := by decide +kernel
  have l1 : ((" " : Str)).length = 1 := by decide +kernel
  have l2 : (("." : Str)).length = 1 := by decide +kernel
  have l3 : (("1" : Str)).length = 1 := by decide +kernel
  refine ⟨1, rfl, 10, 30, rfl, rfl, ⟨by decide, by decide, by decide⟩, _, 1, rfl, rfl, _, rfl, ⟨_, rfl⟩, z, rfl, rfl, by omega, _, rfl, z, _, rfl, rfl, sz10 (by omega), _, rfl, z, _, rfl, rfl, sz10 (by omega), _, rfl, z, _, rfl, rfl, sz10 (by omega), _, rfl, _, z, rfl, rfl, sz10 (by rw [len_app]; omega), sz10 (by simp), fun p hp => ?_⟩
  have S1 := S.new (o := .lst [V.non, .bl true, .bl false, .int (-1), .int (10 ^ 30 + 1), .str "", .str (Txt.upper z), .str (z ++ "abcdefgh"), .str (z ++ " "), .str (z ++ "." ++ z)]) hp
  have E1 := S.exN (o := .lst [V.non, .bl true, .bl false, .int (-1), .int (10 ^ 30 + 1), .str "", .str (Txt.upper z), .str (z ++ "abcdefgh"), .str (z ++ " "), .str (z ++ "." ++ z)]) hp
  -- of(bag, some + [..])
  refine ⟨_, rfl, _, rfl, _, rfl, sz10 (by simp), fun t1 h1 => ⟨_, rfl, sz10 (by simp), fun t2 h2 => ⟨sz10 (by simp), fun t3 h3 => ⟨sz10 (by simp), fun t4 h4 => ?_⟩⟩⟩⟩
  have S2 := S1.new (o := .tup [V.str z]) h1
  have E2 := S1.exN (o := .tup [V.str z]) h1
  have S3 := S2.new (o := .lst [V.str z]) h2
  have E3 := S2.exN (o := .lst [V.str z]) h2
  have S4 := S3.new (o := .tup []) h3
  have E4 := S3.exN (o := .tup []) h3
  have S5 := S4.new (o := .lst []) h4
  have E5 := S4.exN (o := .lst []) h4
  refine ⟨_, rfl, z, _, rfl, rfl, sz10 (by omega), _, rfl, sz10 (by simp), fun t5 h5 => ⟨_, rfl, sz10 (by simp), fun t6 h6 => ⟨_, rfl, sz10 (by simp), fun t7 h7 => ?_⟩⟩⟩
  have S6 := S5.new (o := .tup [V.str z]) h5
  have E6 := S5.exN (o := .tup [V.str z]) h5
  have S7 := S6.new (o := .tup [V.ref t5, V.str z]) h6
  have E7 := S6.exN (o := .tup [V.ref t5, V.str z]) h6
  have S8 := S7.new (o := .lst [V.ref t1, .ref t2, .ref t3, .ref t4, .int 0, .int 1, .str (z ++ "1"), .ref t6, .str z]) h7
  have E8 := S7.exN (o := .lst [V.ref t1, .ref t2, .ref t3, .ref t4, .int 0, .int 1, .str (z ++ "1"), .ref t6, .str z]) h7
  have eA := (((((E2.trans E3).trans E4).trans E5).trans E6).trans E7).trans E8
  refine ⟨p, t7, _, _, rfl, rfl, S8.sub _ _ (eA _ _ upd_same), upd_same, ?_, fun t8 h8 => ?_⟩
  · exact sz10 (by simp)
  have S9 := S8.new (o := .lst ([V.non, .bl true, .bl false, .int (-1), .int (10 ^ 30 + 1), .str "", .str (Txt.upper z), .str (z ++ "abcdefgh"), .str (z ++ " "), .str (z ++ "." ++ z)] ++ [V.ref t1, .ref t2, .ref t3, .ref t4, .int 0, .int 1, .str (z ++ "1"), .ref t6, .str z])) h8
  have E9 := S8.exN (o := .lst ([V.non, .bl true, .bl false, .int (-1), .int (10 ^ 30 + 1), .str "", .str (Txt.upper z), .str (z ++ "abcdefgh"), .str (z ++ " "), .str (z ++ "." ++ z)] ++ [V.ref t1, .ref t2, .ref t3, .ref t4, .int 0, .int 1, .str (z ++ "1"), .ref t6, .str z])) h8
  have a1 := ((((((E3.trans E4).trans E5).trans E6).trans E7).trans E8).trans E9) t1 _ upd_same
  have a2 := (((((E4.trans E5).trans E6).trans E7).trans E8).trans E9) t2 _ upd_same
  have a3 := ((((E5.trans E6).trans E7).trans E8).trans E9) t3 _ upd_same
  have a4 := (((E6.trans E7).trans E8).trans E9) t4 _ upd_same
  have a5 := ((E7.trans E8).trans E9) t5 _ upd_same
  have a6 := (E8.trans E9) t6 _ upd_same
  refine ⟨b, _, _, rfl, S9, .inl ⟨t8, _, rfl, SqL.of upd_same, by simp, by simp, fun v H' hv S' => ?_⟩⟩
  have ee := (E1.trans eA).trans E9
  simp only [List.cons_append, List.nil_append, List.mem_cons, List.not_mem_nil, or_false] at hv
  rcases hv with rfl | rfl | rfl | rfl | rfl | rfl | rfl | rfl | rfl | rfl | rfl | rfl | rfl | rfl | rfl | rfl | rfl | rfl | rfl
  · exact q _ _ _ _ ee S' .non (by simp [oddL])
  · exact q _ _ _ _ ee S' (.bl _) (by simp [oddL])
  · exact q _ _ _ _ ee S' (.bl _) (by simp [oddL])
  · exact q _ _ _ _ ee S' (.int _) (by simp [oddL])
  · exact q _ _ _ _ ee S' (.int _) (by simp [oddL])
  · exact q _ _ _ _ ee S' (.str _) (by simp [oddL])
  · exact q _ _ _ _ ee S' (.str _) (by simp [oddL])
  · exact q _ _ _ _ ee S' (.str _) (by simp [oddL])
  · exact q _ _ _ _ ee S' (.str _) (by simp [oddL])
  · exact q _ _ _ _ ee S' (.str _) (by simp [oddL])
  · exact q _ _ _ _ ee S' (.tup (SqT.of a1) (.cons (.str _) .nil)) (by simp [oddL])
  · exact q _ _ _ _ ee S' (.lst (SqL.of a2) (.cons (.str _) .nil)) (by simp [oddL])
  · exact q _ _ _ _ ee S' (.tup (SqT.of a3) .nil) (by simp [oddL])
  · exact q _ _ _ _ ee S' (.lst (SqL.of a4) .nil) (by simp [oddL])
  · exact q _ _ _ _ ee S' (.int _) (by simp [oddL])
  · exact q _ _ _ _ ee S' (.int _) (by simp [oddL])
  · exact q _ _ _ _ ee S' (.str _) (by simp [oddL])
  · exact q _ _ _ _ ee S' (.tup (SqT.of a6) (.cons (.tup (SqT.of a5) (.cons (.str _) .nil)) (.cons (.str _) .nil))) (by simp [oddL])
  · exact q _ _ _ _ ee S' (.str _) (by simp [oddL])
end
end KL
set_option Elab.async false
set_option linter.all false
set_option maxRecDepth 100000
set_option maxHeartbeats 4000000
namespace KL
open PySem PySem.Spec PyProof.Rows L2
open He (ga ma)
open Evl (Ex Ev EvA EvT EvL EvU)
open TL (tl)
/-- texts of plain signs, short -/
def StrG (n : Nat) (x : Str) : Prop := (∀ c ∈ tl x, c < 128) ∧ x.length ≤ n
theorem StrG.app {m n k : Nat} {x y : Str} (h1 : StrG m x) (h2 : StrG n y) (hk : m + n ≤ k) : StrG k (x ++ y) := by
  refine ⟨fun c hc => ?_, ?_⟩
  · rw [TL.tl_append] at hc
    rcases List.mem_append.mp hc with h | h
    · exact h1.1 c h
    · exact h2.1 c h
  · have a := h1.2
    have b := h2.2
    rw [len_app]; omega
theorem StrG.gd {n : Nat} {x : Str} (h : StrG n x) : L2.gd (.str x) = true := by
  unfold L2.gd
  exact List.all_eq_true.mpr fun c hc => decide_eq_true (h.1 c hc)
theorem StrG.of_name {x : Str} (h : NameS x) : StrG 8 x := ⟨fun c hc => by have := h.2.2 c hc; omega, by rw [TL.len_tl]; exact h.2.1⟩
theorem StrG.mono {m n : Nat} {x : Str} (h : StrG m x) (hk : m ≤ n) : StrG n x := ⟨h.1, Nat.le_trans h.2 hk⟩
theorem StrG.lit {n : Nat} {x : Str} (h : ((tl x).all (fun c => decide (c < 128)) && decide (x.length ≤ n)) = true) : StrG n x := by
  rw [Bool.and_eq_true, List.all_eq_true, decide_eq_true_eq] at h
  exact ⟨fun c hc => of_decide_eq_true (h.1 c hc), h.2⟩
theorem StrG.sub {n : Nat} {x y : Str} (h : StrG n x) (hs : ∀ c ∈ tl y, c ∈ tl x) (hl : y.length ≤ x.length) : StrG n y := ⟨fun c hc => h.1 c (hs c hc), Nat.le_trans hl h.2⟩
theorem StrG.upper {n : Nat} {x : Str} (h : StrG n x) : StrG n (Txt.upper x) := by
  have hx : x = (⟨(tl x).toArray⟩ : Str) := TL.ext_tl (by simp [tl])
  have h2 : Txt.upper x = (⟨((tl x).map PyProof.Rows.up1).toArray⟩ : Str) := by
    have := SX.upper_S (a := tl x) (List.all_eq_true.mpr fun c hc => decide_eq_true (h.1 c hc))
    rw [show SX.S (tl x) = x from hx.symm] at this
    exact this
  rw [h2]
  refine ⟨fun c hc => ?_, ?_⟩
  · obtain ⟨d, hd, rfl⟩ := List.mem_map.mp (show c ∈ (tl x).map PyProof.Rows.up1 from hc)
    have := h.1 d hd
    unfold PyProof.Rows.up1
    split <;> omega
  · rw [TL.len_tl]
    show ((tl x).map PyProof.Rows.up1).length ≤ n
    rw [List.length_map, ← TL.len_tl]
    exact h.2
/-- small data -/
structure Sm (d : PyData) : Prop where
  g : L2.gd d = true
  w : wt d ≤ 100000
  dp : d.depth ≤ 50
theorem Sm.str {n : Nat} {x : Str} (h : StrG n x) (hn : n ≤ 9000) : Sm (.str x) := ⟨h.gd, by simp only [wt]; have := h.2; omega, by simp [PyData.depth]⟩
theorem sm_odd {z : Str} (nz : NameS z) {d : PyData} (h : d ∈ oddL z) : Sm d ∧ wt d ≤ 1002 := by
  have gz := StrG.of_name nz
  have l8 : StrG 8 ("abcdefgh" : Str) := StrG.lit (by decide +kernel)
  have lb : StrG 1 (" " : Str) := StrG.lit (by decide +kernel)
  have lp : StrG 1 ("." : Str) := StrG.lit (by decide +kernel)
  have l1 : StrG 1 ("1" : Str) := StrG.lit (by decide +kernel)
  have l0 : StrG 0 ("" : Str) := StrG.lit (by decide +kernel)
  have S : ∀ {x : Str}, StrG 100 x → Sm (.str x) ∧ wt (.str x) ≤ 1002 := fun {x} h => ⟨Sm.str h (by decide), by simp only [wt]; have := h.2; omega⟩
  have wz : wt (.str z) ≤ 82 := by simp only [wt]; have := gz.2; omega
  have gz' := gz.gd
  simp only [oddL, List.mem_cons, List.not_mem_nil, or_false] at h
  rcases h with rfl | rfl | rfl | rfl | rfl | rfl | rfl | rfl | rfl | rfl | rfl | rfl | rfl | rfl | rfl | rfl | rfl | rfl | rfl
  · exact ⟨⟨rfl, by decide, by decide⟩, by decide⟩
  · exact ⟨⟨rfl, by decide, by decide⟩, by decide⟩
  · exact ⟨⟨rfl, by decide, by decide⟩, by decide⟩
  · exact ⟨⟨by decide +kernel, by decide, by decide⟩, by decide⟩
  · exact ⟨⟨by decide +kernel, by decide, by decide⟩, by decide⟩
  · exact S (l0.mono (by decide))
  · exact S (gz.upper.mono (by decide))
  · exact S (gz.app l8 (by decide))
  · exact S (gz.app lb (by decide))
  · exact S ((gz.app lp (Nat.le_refl _)).app gz (by decide))
  · exact ⟨⟨by simp only [L2.gd, L2.gdAll, Bool.and_true]; exact gz', by simp only [wt, wtAll]; have := gz.2; omega, by simp [PyData.depth, PyData.depthAll]⟩, by simp only [wt, wtAll]; have := gz.2; omega⟩
  · exact ⟨⟨by simp only [L2.gd, L2.gdAll, Bool.and_true]; exact gz', by simp only [wt, wtAll]; have := gz.2; omega, by simp [PyData.depth, PyData.depthAll]⟩, by simp only [wt, wtAll]; have := gz.2; omega⟩
  · exact ⟨⟨rfl, by decide, by decide⟩, by decide⟩
  · exact ⟨⟨rfl, by decide, by decide⟩, by decide⟩
  · exact ⟨⟨by decide +kernel, by decide, by decide⟩, by decide⟩
  · exact ⟨⟨by decide +kernel, by decide, by decide⟩, by decide⟩
  · exact S (gz.app l1 (by decide))
  · refine ⟨⟨?_, by simp only [wt, wtAll]; have := gz.2; omega, by simp [PyData.depth, PyData.depthAll]⟩, by simp only [wt, wtAll]; have := gz.2; omega⟩
    simp only [L2.gd, L2.gdAll, Bool.and_true] at gz' ⊢
    rw [gz']; rfl
  · exact S (gz.mono (by decide))
theorem wt_pos {x : Str} {n : Nat} (h : StrG n x) : wt (.str x) ≤ 10 * n + 2 := by simp only [wt]; have := h.2; omega
theorem Sm.gd {d : PyData} (h : Sm d) : Gd d := ⟨h.g, Nat.le_trans h.w (by decide), Nat.le_trans h.dp (by decide)⟩
/-- _law_name(bag, [], []) -/
theorem name0 {H G : Hp} {b p r : Addr} (K : PySem.W.Frag) (S : Stt b G H) (hp : H p = none) (hr : upd H p (.lst []) r = none) :
    ∃ G2, Stt b G2 (upd (upd H p (.lst [])) r (.lst [])) ∧ SqL K G2 p (([] : List Str).map V.str) ∧ SqL K G2 r (([] : List Str).map V.str) ∧ (∀ z ∈ ([] : List Str), NameS z) ∧ ∀ H', Stt b G2 H' → Stt b G H' := by
  have S1 := S.new (o := .lst []) hp
  have S2 := S1.new (o := .lst []) hr
  exact ⟨_, S2, SqL.of ((S1.exN hr) _ _ upd_same), SqL.of upd_same, fun _ h => (nomatch h), fun H' S' => (S'.less (S1.exN hr)).less (S.exN hp)⟩
end KL
set_option Elab.async false
set_option linter.all false
set_option maxRecDepth 100000
set_option maxHeartbeats 4000000
namespace KL
open PySem PySem.Spec PyProof.Rows L2
open He (ga ma)
open Evl (Ex Ev EvA EvT EvL EvU)
open TL (tl)
section
variable {P : Program} {w : World} {K : PySem.W.Frag} {mg : Str → Option Value} {base : Heap}
theorem sc_law_same : FnScope ["_law_one", "_law_other"] ["_law_one", "_law_other"] (defScope s_law_same) := ⟨rfl, rfl, rfl, by decide +kernel, rfl, by decide +kernel, by decide +kernel⟩
theorem ok_same (T : Txt P K mg) : FnKG P w K mg base CX0 1 "_law_same" ["_law_one", "_law_other"] (spSame K) := by
  refine T.F_law_same.okG sc_law_same (fun _ _ _ _ _ _ us hl => match us, hl with | [_, _], _ => rfl) (fun vs H Q E h => ?_) (fun cdv A outer s H vs Q E hA hr h => ?_)
  · obtain ⟨x, y, d, e, rfl, _⟩ := h
    rfl
  obtain ⟨x, y, d, e, rfl, hd, he, gd, ge, q⟩ := h
  refine ⟨_, (pss_one (ps_ret (pe_and (pe_cmpR (op_eqD hr.units) (pv 0) (pv 1) (nomark _)) (pe_one (pe_cmpR op_eq (pe_callB (call_reprD hA hr.units) (by rfl) T.m_repr (by decide +kernel) (pa_cons (pv 0) pa_nil)) (pe_callB (call_reprD hA hr.units) (by rfl) T.m_repr (by decide +kernel) (pa_cons (pv 1) pa_nil)) (nomark _)))))), ?_⟩
  refine ⟨_, rfl, _, rfl, d, e, hd, he, gd.shaped, ge.shaped, _, rfl, ite2 (fun z => ?_) (fun z => ?_)⟩
  · have z' : PyData.eqv d e = true := z
    refine ⟨_, rfl, x, d, rfl, hd, gd_showable d gd.g, gd_nodict d gd.g, gd.dp, gd.shown, _, rfl, y, e, rfl, he, gd_showable e ge.g, gd_nodict e ge.g, ge.dp, ge.shown, rfl, ?_⟩
    rw [z', Bool.true_and] at q
    have : decide (d.shown = e.shown) = decide (V.str d.shown = V.str e.shown) := decide_eq_decide.mpr ⟨fun h => by rw [h], fun h => V.str.inj h⟩
    rw [this] at q
    exact q
  · have z' : PyData.eqv d e = false := by cases h : PyData.eqv d e with | true => exact absurd h z | false => rfl
    rw [z', Bool.false_and] at q
    exact q
end
end KL
set_option Elab.async false
set_option linter.all false
set_option maxRecDepth 100000
set_option maxHeartbeats 4000000
namespace KL
open PySem PySem.Spec PyProof.Rows L2
open He (ga ma)
open Evl (Ex Ev EvA EvT EvL EvU)
open TL (tl)

/-- the errors in the order of the law, with their fields -/
def errT : List (Str × List Str) := [("BadName", ["name"]), ("BadOperand", ["operand"]), ("BadClash", ["clash"]), ("Twice", ["name"]), ("NoAlias", ["alias"]), ("BadKey", ["index"]), ("BadReference", ["index"]), ("NoTable", ["table"]), ("NoColumn", ["column"]), ("NotBefore", ["table"]), ("KeyColumn", ["column"]), ("MissingColumn", ["column"]), ("ManyKeys", ["table"]), ("Unsettled", ["index"]), ("BadRow", ["row"]), ("Taken", ["row"]), ("NoRow", ["key"]), ("BadPick", ["index"]), ("NoIndex", ["index"]), ("ManyMatches", ["key"]), ("Parted", ["cell"]), ("TooMany", ["limit"]), ("BadText", ["index"]), ("BadCommand", ["command"]), ("OtherSchema", []), ("Stopped", ["index", "key"])]
def names1 : List Str := ["BadName", "BadOperand", "BadClash", "Twice", "NoAlias", "BadKey", "BadReference", "NoTable", "NoColumn", "NotBefore", "KeyColumn", "MissingColumn", "ManyKeys", "Unsettled"]
def names2 : List Str := ["BadRow", "Taken", "NoRow", "BadPick", "NoIndex", "ManyMatches", "Parted", "TooMany", "BadText", "BadCommand", "OtherSchema", "Stopped"]
def isL (x : Str) (l : List Str) : List V := l.map fun y => .bl (x == y)
def flsV (fls : List Str) (v i : V) : List (Str × V) := (fls.zip (if fls.length = 2 then [i, v] else [v])).reverse
def Errs (K : PySem.W.Frag) (H : Hp) (v i : V) (l : List V) : Prop := Paired (fun (e : Str × List Str) (y : V) => ∃ a, y = .ref a ∧ EV H a (ga K e.1) (flsV e.2 v i)) errT l
def spIs (K : PySem.W.Frag) (names : List Str) : Sp := fun vs H Q _ => ∃ (a : Addr) (x : Str) (fs : List (Str × V)), vs = [.ref a] ∧ EV H a (ga K x) fs ∧ x ∈ errN ∧ ∀ (p : Addr) (H' : Hp), Ex H H' → H' p = some (.lst (isL x names)) → Q (.ref p) H'
def spErrs (K : PySem.W.Frag) : Sp := fun vs H Q _ => ∃ v i : V, vs = [v, i] ∧ ∀ (p : Addr) (l : List V) (H' : Hp), Ex H H' → H' p = some (.lst l) → Errs K H' v i l → Q (.ref p) H'
def spFlds (K : PySem.W.Frag) : Sp := fun vs H Q _ => ∃ (p : Addr) (l : List V) (v i : V), vs = [.ref p] ∧ H p = some (.lst l) ∧ Errs K H v i l ∧ ∀ (r : Addr) (H' : Hp), Ex H H' → H' r = some (.lst (List.replicate 25 v)) → Q (.ref r) H'
section
variable {P : Program} {w : World} {K : PySem.W.Frag} {mg : Str → Option Value} {base : Heap}
theorem sc_law_first : FnScope ["_law_e", "_law_found"] ["_law_e"] (defScope s_law_first) := ⟨rfl, rfl, rfl, by decide +kernel, rfl, by decide +kernel, by decide +kernel⟩
theorem ok_law_first (T : Txt P K mg) : FnK P w K mg base CX0 1 "_law_first" ["_law_e"] (spIs K names1) := by
  refine T.F_law_first.ok sc_law_first (fun _ _ _ _ _ _ us hl => match us, hl with | [_], _ => rfl) (fun vs H Q E h => ?_) (fun cdv A outer s H vs Q E hr h => ?_)
  · obtain ⟨a, x, fs, rfl, _⟩ := h
    rfl
  obtain ⟨a, x, fs, rfl, ev0, hx, q⟩ := h
  refine ⟨_, (pss_cons (ps_set (i := 1) sc_law_first.nd rfl (by first | exact Or.inl rfl | exact Or.inr rfl) (pe_lst (pa_cons (pe_callB call_isiE (by rfl) T.m_isinstance (by decide +kernel) (pa_cons (pv 0) (pa_cons (pe_glob (v := .ref (ga _ "BadName")) (by rfl) T.n_BadName.gC rfl) pa_nil))) (pa_cons (pe_callB call_isiE (by rfl) T.m_isinstance (by decide +kernel) (pa_cons (pv 0) (pa_cons (pe_glob (v := .ref (ga _ "BadOperand")) (by rfl) T.n_BadOperand.gC rfl) pa_nil))) (pa_cons (pe_callB call_isiE (by rfl) T.m_isinstance (by decide +kernel) (pa_cons (pv 0) (pa_cons (pe_glob (v := .ref (ga _ "BadClash")) (by rfl) T.n_BadClash.gC rfl) pa_nil))) (pa_cons (pe_callB call_isiE (by rfl) T.m_isinstance (by decide +kernel) (pa_cons (pv 0) (pa_cons (pe_glob (v := .ref (ga _ "Twice")) (by rfl) T.n_Twice.gC rfl) pa_nil))) pa_nil))))))
  (pss_cons (ps_set (i := 1) sc_law_first.nd rfl (by first | exact Or.inl rfl | exact Or.inr rfl) (pe_op op_cat (pv 1) (pe_lst (pa_cons (pe_callB call_isiE (by rfl) T.m_isinstance (by decide +kernel) (pa_cons (pv 0) (pa_cons (pe_glob (v := .ref (ga _ "NoAlias")) (by rfl) T.n_NoAlias.gC rfl) pa_nil))) (pa_cons (pe_callB call_isiE (by rfl) T.m_isinstance (by decide +kernel) (pa_cons (pv 0) (pa_cons (pe_glob (v := .ref (ga _ "BadKey")) (by rfl) T.n_BadKey.gC rfl) pa_nil))) (pa_cons (pe_callB call_isiE (by rfl) T.m_isinstance (by decide +kernel) (pa_cons (pv 0) (pa_cons (pe_glob (v := .ref (ga _ "BadReference")) (by rfl) T.n_BadReference.gC rfl) pa_nil))) pa_nil))))))
  (pss_cons (ps_set (i := 1) sc_law_first.nd rfl (by first | exact Or.inl rfl | exact Or.inr rfl) (pe_op op_cat (pv 1) (pe_lst (pa_cons (pe_callB call_isiE (by rfl) T.m_isinstance (by decide +kernel) (pa_cons (pv 0) (pa_cons (pe_glob (v := .ref (ga _ "NoTable")) (by rfl) T.n_NoTable.gC rfl) pa_nil))) (pa_cons (pe_callB call_isiE (by rfl) T.m_isinstance (by decide +kernel) (pa_cons (pv 0) (pa_cons (pe_glob (v := .ref (ga _ "NoColumn")) (by rfl) T.n_NoColumn.gC rfl) pa_nil))) (pa_cons (pe_callB call_isiE (by rfl) T.m_isinstance (by decide +kernel) (pa_cons (pv 0) (pa_cons (pe_glob (v := .ref (ga _ "NotBefore")) (by rfl) T.n_NotBefore.gC rfl) pa_nil))) pa_nil))))))
  (pss_cons (ps_set (i := 1) sc_law_first.nd rfl (by first | exact Or.inl rfl | exact Or.inr rfl) (pe_op op_cat (pv 1) (pe_lst (pa_cons (pe_callB call_isiE (by rfl) T.m_isinstance (by decide +kernel) (pa_cons (pv 0) (pa_cons (pe_glob (v := .ref (ga _ "KeyColumn")) (by rfl) T.n_KeyColumn.gC rfl) pa_nil))) (pa_cons (pe_callB call_isiE (by rfl) T.m_isinstance (by decide +kernel) (pa_cons (pv 0) (pa_cons (pe_glob (v := .ref (ga _ "MissingColumn")) (by rfl) T.n_MissingColumn.gC rfl) pa_nil))) (pa_cons (pe_callB call_isiE (by rfl) T.m_isinstance (by decide +kernel) (pa_cons (pv 0) (pa_cons (pe_glob (v := .ref (ga _ "ManyKeys")) (by rfl) T.n_ManyKeys.gC rfl) pa_nil))) pa_nil))))))
  (pss_one (ps_ret (pe_op op_cat (pv 1) (pe_lst (pa_cons (pe_callB call_isiE (by rfl) T.m_isinstance (by decide +kernel) (pa_cons (pv 0) (pa_cons (pe_glob (v := .ref (ga _ "Unsettled")) (by rfl) T.n_Unsettled.gC rfl) pa_nil))) pa_nil))))))))), ?_⟩
  refine ⟨_, rfl, a, _, _, _, _, _, rfl, .own _, ev0, T.ise x hx, T.kit x hx "BadName" (by decide +kernel), _, rfl, a, _, _, _, _, _, rfl, .own _, ev0, T.ise x hx, T.kit x hx "BadOperand" (by decide +kernel), _, rfl, a, _, _, _, _, _, rfl, .own _, ev0, T.ise x hx, T.kit x hx "BadClash" (by decide +kernel), _, rfl, a, _, _, _, _, _, rfl, .own _, ev0, T.ise x hx, T.kit x hx "Twice" (by decide +kernel), sz10 (by simp), fun p0 h0 => ?_⟩
  have E0 : Ex H (upd H p0 (.lst (isL x ["BadName", "BadOperand", "BadClash", "Twice"]))) := Ex.new h0
  have ev1 := ev0.ex E0
  have a0 : (upd H p0 (.lst (isL x ["BadName", "BadOperand", "BadClash", "Twice"]))) p0 = some (.lst (isL x ["BadName", "BadOperand", "BadClash", "Twice"])) := upd_same
  refine ⟨_, rfl, _, rfl, a, _, _, _, _, _, rfl, .own _, ev1, T.ise x hx, T.kit x hx "NoAlias" (by decide +kernel), _, rfl, a, _, _, _, _, _, rfl, .own _, ev1, T.ise x hx, T.kit x hx "BadKey" (by decide +kernel), _, rfl, a, _, _, _, _, _, rfl, .own _, ev1, T.ise x hx, T.kit x hx "BadReference" (by decide +kernel), sz10 (by simp), fun r1 g1 => ?_⟩
  have F1 : Ex (upd H p0 (.lst (isL x ["BadName", "BadOperand", "BadClash", "Twice"]))) (upd (upd H p0 (.lst (isL x ["BadName", "BadOperand", "BadClash", "Twice"]))) r1 (.lst (isL x ["NoAlias", "BadKey", "BadReference"]))) := Ex.new g1
  refine ⟨p0, r1, _, _, rfl, rfl, F1 _ _ a0, upd_same, sz10 (by simp [isL]), fun p1 h1 => ?_⟩
  have G1 : Ex (upd H p0 (.lst (isL x ["BadName", "BadOperand", "BadClash", "Twice"]))) (upd (upd (upd H p0 (.lst (isL x ["BadName", "BadOperand", "BadClash", "Twice"]))) r1 (.lst (isL x ["NoAlias", "BadKey", "BadReference"]))) p1 (.lst ((isL x ["BadName", "BadOperand", "BadClash", "Twice"]) ++ (isL x ["NoAlias", "BadKey", "BadReference"])))) := F1.trans (Ex.new h1)
  have E1 := E0.trans G1
  have ev2 := ev1.ex G1
  have a1 : (upd (upd (upd H p0 (.lst (isL x ["BadName", "BadOperand", "BadClash", "Twice"]))) r1 (.lst (isL x ["NoAlias", "BadKey", "BadReference"]))) p1 (.lst ((isL x ["BadName", "BadOperand", "BadClash", "Twice"]) ++ (isL x ["NoAlias", "BadKey", "BadReference"])))) p1 = some (.lst ((isL x ["BadName", "BadOperand", "BadClash", "Twice"]) ++ (isL x ["NoAlias", "BadKey", "BadReference"]))) := upd_same
  refine ⟨_, rfl, _, rfl, a, _, _, _, _, _, rfl, .own _, ev2, T.ise x hx, T.kit x hx "NoTable" (by decide +kernel), _, rfl, a, _, _, _, _, _, rfl, .own _, ev2, T.ise x hx, T.kit x hx "NoColumn" (by decide +kernel), _, rfl, a, _, _, _, _, _, rfl, .own _, ev2, T.ise x hx, T.kit x hx "NotBefore" (by decide +kernel), sz10 (by simp), fun r2 g2 => ?_⟩
  have F2 : Ex (upd (upd (upd H p0 (.lst (isL x ["BadName", "BadOperand", "BadClash", "Twice"]))) r1 (.lst (isL x ["NoAlias", "BadKey", "BadReference"]))) p1 (.lst ((isL x ["BadName", "BadOperand", "BadClash", "Twice"]) ++ (isL x ["NoAlias", "BadKey", "BadReference"])))) (upd (upd (upd (upd H p0 (.lst (isL x ["BadName", "BadOperand", "BadClash", "Twice"]))) r1 (.lst (isL x ["NoAlias", "BadKey", "BadReference"]))) p1 (.lst ((isL x ["BadName", "BadOperand", "BadClash", "Twice"]) ++ (isL x ["NoAlias", "BadKey", "BadReference"])))) r2 (.lst (isL x ["NoTable", "NoColumn", "NotBefore"]))) := Ex.new g2
  refine ⟨p1, r2, _, _, rfl, rfl, F2 _ _ a1, upd_same, sz10 (by simp [isL]), fun p2 h2 => ?_⟩
  have G2 : Ex (upd (upd (upd H p0 (.lst (isL x ["BadName", "BadOperand", "BadClash", "Twice"]))) r1 (.lst (isL x ["NoAlias", "BadKey", "BadReference"]))) p1 (.lst ((isL x ["BadName", "BadOperand", "BadClash", "Twice"]) ++ (isL x ["NoAlias", "BadKey", "BadReference"])))) (upd (upd (upd (upd (upd H p0 (.lst (isL x ["BadName", "BadOperand", "BadClash", "Twice"]))) r1 (.lst (isL x ["NoAlias", "BadKey", "BadReference"]))) p1 (.lst ((isL x ["BadName", "BadOperand", "BadClash", "Twice"]) ++ (isL x ["NoAlias", "BadKey", "BadReference"])))) r2 (.lst (isL x ["NoTable", "NoColumn", "NotBefore"]))) p2 (.lst (((isL x ["BadName", "BadOperand", "BadClash", "Twice"]) ++ (isL x ["NoAlias", "BadKey", "BadReference"])) ++ (isL x ["NoTable", "NoColumn", "NotBefore"])))) := F2.trans (Ex.new h2)
  have E2 := E1.trans G2
  have ev3 := ev2.ex G2
  have a2 : (upd (upd (upd (upd (upd H p0 (.lst (isL x ["BadName", "BadOperand", "BadClash", "Twice"]))) r1 (.lst (isL x ["NoAlias", "BadKey", "BadReference"]))) p1 (.lst ((isL x ["BadName", "BadOperand", "BadClash", "Twice"]) ++ (isL x ["NoAlias", "BadKey", "BadReference"])))) r2 (.lst (isL x ["NoTable", "NoColumn", "NotBefore"]))) p2 (.lst (((isL x ["BadName", "BadOperand", "BadClash", "Twice"]) ++ (isL x ["NoAlias", "BadKey", "BadReference"])) ++ (isL x ["NoTable", "NoColumn", "NotBefore"])))) p2 = some (.lst (((isL x ["BadName", "BadOperand", "BadClash", "Twice"]) ++ (isL x ["NoAlias", "BadKey", "BadReference"])) ++ (isL x ["NoTable", "NoColumn", "NotBefore"]))) := upd_same
  refine ⟨_, rfl, _, rfl, a, _, _, _, _, _, rfl, .own _, ev3, T.ise x hx, T.kit x hx "KeyColumn" (by decide +kernel), _, rfl, a, _, _, _, _, _, rfl, .own _, ev3, T.ise x hx, T.kit x hx "MissingColumn" (by decide +kernel), _, rfl, a, _, _, _, _, _, rfl, .own _, ev3, T.ise x hx, T.kit x hx "ManyKeys" (by decide +kernel), sz10 (by simp), fun r3 g3 => ?_⟩
  have F3 : Ex (upd (upd (upd (upd (upd H p0 (.lst (isL x ["BadName", "BadOperand", "BadClash", "Twice"]))) r1 (.lst (isL x ["NoAlias", "BadKey", "BadReference"]))) p1 (.lst ((isL x ["BadName", "BadOperand", "BadClash", "Twice"]) ++ (isL x ["NoAlias", "BadKey", "BadReference"])))) r2 (.lst (isL x ["NoTable", "NoColumn", "NotBefore"]))) p2 (.lst (((isL x ["BadName", "BadOperand", "BadClash", "Twice"]) ++ (isL x ["NoAlias", "BadKey", "BadReference"])) ++ (isL x ["NoTable", "NoColumn", "NotBefore"])))) (upd (upd (upd (upd (upd (upd H p0 (.lst (isL x ["BadName", "BadOperand", "BadClash", "Twice"]))) r1 (.lst (isL x ["NoAlias", "BadKey", "BadReference"]))) p1 (.lst ((isL x ["BadName", "BadOperand", "BadClash", "Twice"]) ++ (isL x ["NoAlias", "BadKey", "BadReference"])))) r2 (.lst (isL x ["NoTable", "NoColumn", "NotBefore"]))) p2 (.lst (((isL x ["BadName", "BadOperand", "BadClash", "Twice"]) ++ (isL x ["NoAlias", "BadKey", "BadReference"])) ++ (isL x ["NoTable", "NoColumn", "NotBefore"])))) r3 (.lst (isL x ["KeyColumn", "MissingColumn", "ManyKeys"]))) := Ex.new g3
  refine ⟨p2, r3, _, _, rfl, rfl, F3 _ _ a2, upd_same, sz10 (by simp [isL]), fun p3 h3 => ?_⟩
  have G3 : Ex (upd (upd (upd (upd (upd H p0 (.lst (isL x ["BadName", "BadOperand", "BadClash", "Twice"]))) r1 (.lst (isL x ["NoAlias", "BadKey", "BadReference"]))) p1 (.lst ((isL x ["BadName", "BadOperand", "BadClash", "Twice"]) ++ (isL x ["NoAlias", "BadKey", "BadReference"])))) r2 (.lst (isL x ["NoTable", "NoColumn", "NotBefore"]))) p2 (.lst (((isL x ["BadName", "BadOperand", "BadClash", "Twice"]) ++ (isL x ["NoAlias", "BadKey", "BadReference"])) ++ (isL x ["NoTable", "NoColumn", "NotBefore"])))) (upd (upd (upd (upd (upd (upd (upd H p0 (.lst (isL x ["BadName", "BadOperand", "BadClash", "Twice"]))) r1 (.lst (isL x ["NoAlias", "BadKey", "BadReference"]))) p1 (.lst ((isL x ["BadName", "BadOperand", "BadClash", "Twice"]) ++ (isL x ["NoAlias", "BadKey", "BadReference"])))) r2 (.lst (isL x ["NoTable", "NoColumn", "NotBefore"]))) p2 (.lst (((isL x ["BadName", "BadOperand", "BadClash", "Twice"]) ++ (isL x ["NoAlias", "BadKey", "BadReference"])) ++ (isL x ["NoTable", "NoColumn", "NotBefore"])))) r3 (.lst (isL x ["KeyColumn", "MissingColumn", "ManyKeys"]))) p3 (.lst ((((isL x ["BadName", "BadOperand", "BadClash", "Twice"]) ++ (isL x ["NoAlias", "BadKey", "BadReference"])) ++ (isL x ["NoTable", "NoColumn", "NotBefore"])) ++ (isL x ["KeyColumn", "MissingColumn", "ManyKeys"])))) := F3.trans (Ex.new h3)
  have E3 := E2.trans G3
  have ev4 := ev3.ex G3
  have a3 : (upd (upd (upd (upd (upd (upd (upd H p0 (.lst (isL x ["BadName", "BadOperand", "BadClash", "Twice"]))) r1 (.lst (isL x ["NoAlias", "BadKey", "BadReference"]))) p1 (.lst ((isL x ["BadName", "BadOperand", "BadClash", "Twice"]) ++ (isL x ["NoAlias", "BadKey", "BadReference"])))) r2 (.lst (isL x ["NoTable", "NoColumn", "NotBefore"]))) p2 (.lst (((isL x ["BadName", "BadOperand", "BadClash", "Twice"]) ++ (isL x ["NoAlias", "BadKey", "BadReference"])) ++ (isL x ["NoTable", "NoColumn", "NotBefore"])))) r3 (.lst (isL x ["KeyColumn", "MissingColumn", "ManyKeys"]))) p3 (.lst ((((isL x ["BadName", "BadOperand", "BadClash", "Twice"]) ++ (isL x ["NoAlias", "BadKey", "BadReference"])) ++ (isL x ["NoTable", "NoColumn", "NotBefore"])) ++ (isL x ["KeyColumn", "MissingColumn", "ManyKeys"])))) p3 = some (.lst ((((isL x ["BadName", "BadOperand", "BadClash", "Twice"]) ++ (isL x ["NoAlias", "BadKey", "BadReference"])) ++ (isL x ["NoTable", "NoColumn", "NotBefore"])) ++ (isL x ["KeyColumn", "MissingColumn", "ManyKeys"]))) := upd_same
  refine ⟨_, rfl, _, rfl, a, _, _, _, _, _, rfl, .own _, ev4, T.ise x hx, T.kit x hx "Unsettled" (by decide +kernel), sz10 (by simp), fun r4 g4 => ?_⟩
  have F4 : Ex (upd (upd (upd (upd (upd (upd (upd H p0 (.lst (isL x ["BadName", "BadOperand", "BadClash", "Twice"]))) r1 (.lst (isL x ["NoAlias", "BadKey", "BadReference"]))) p1 (.lst ((isL x ["BadName", "BadOperand", "BadClash", "Twice"]) ++ (isL x ["NoAlias", "BadKey", "BadReference"])))) r2 (.lst (isL x ["NoTable", "NoColumn", "NotBefore"]))) p2 (.lst (((isL x ["BadName", "BadOperand", "BadClash", "Twice"]) ++ (isL x ["NoAlias", "BadKey", "BadReference"])) ++ (isL x ["NoTable", "NoColumn", "NotBefore"])))) r3 (.lst (isL x ["KeyColumn", "MissingColumn", "ManyKeys"]))) p3 (.lst ((((isL x ["BadName", "BadOperand", "BadClash", "Twice"]) ++ (isL x ["NoAlias", "BadKey", "BadReference"])) ++ (isL x ["NoTable", "NoColumn", "NotBefore"])) ++ (isL x ["KeyColumn", "MissingColumn", "ManyKeys"])))) (upd (upd (upd (upd (upd (upd (upd (upd H p0 (.lst (isL x ["BadName", "BadOperand", "BadClash", "Twice"]))) r1 (.lst (isL x ["NoAlias", "BadKey", "BadReference"]))) p1 (.lst ((isL x ["BadName", "BadOperand", "BadClash", "Twice"]) ++ (isL x ["NoAlias", "BadKey", "BadReference"])))) r2 (.lst (isL x ["NoTable", "NoColumn", "NotBefore"]))) p2 (.lst (((isL x ["BadName", "BadOperand", "BadClash", "Twice"]) ++ (isL x ["NoAlias", "BadKey", "BadReference"])) ++ (isL x ["NoTable", "NoColumn", "NotBefore"])))) r3 (.lst (isL x ["KeyColumn", "MissingColumn", "ManyKeys"]))) p3 (.lst ((((isL x ["BadName", "BadOperand", "BadClash", "Twice"]) ++ (isL x ["NoAlias", "BadKey", "BadReference"])) ++ (isL x ["NoTable", "NoColumn", "NotBefore"])) ++ (isL x ["KeyColumn", "MissingColumn", "ManyKeys"])))) r4 (.lst (isL x ["Unsettled"]))) := Ex.new g4
  refine ⟨p3, r4, _, _, rfl, rfl, F4 _ _ a3, upd_same, sz10 (by simp [isL]), fun p4 h4 => ?_⟩
  have G4 : Ex (upd (upd (upd (upd (upd (upd (upd H p0 (.lst (isL x ["BadName", "BadOperand", "BadClash", "Twice"]))) r1 (.lst (isL x ["NoAlias", "BadKey", "BadReference"]))) p1 (.lst ((isL x ["BadName", "BadOperand", "BadClash", "Twice"]) ++ (isL x ["NoAlias", "BadKey", "BadReference"])))) r2 (.lst (isL x ["NoTable", "NoColumn", "NotBefore"]))) p2 (.lst (((isL x ["BadName", "BadOperand", "BadClash", "Twice"]) ++ (isL x ["NoAlias", "BadKey", "BadReference"])) ++ (isL x ["NoTable", "NoColumn", "NotBefore"])))) r3 (.lst (isL x ["KeyColumn", "MissingColumn", "ManyKeys"]))) p3 (.lst ((((isL x ["BadName", "BadOperand", "BadClash", "Twice"]) ++ (isL x ["NoAlias", "BadKey", "BadReference"])) ++ (isL x ["NoTable", "NoColumn", "NotBefore"])) ++ (isL x ["KeyColumn", "MissingColumn", "ManyKeys"])))) (upd (upd (upd (upd (upd (upd (upd (upd (upd H p0 (.lst (isL x ["BadName", "BadOperand", "BadClash", "Twice"]))) r1 (.lst (isL x ["NoAlias", "BadKey", "BadReference"]))) p1 (.lst ((isL x ["BadName", "BadOperand", "BadClash", "Twice"]) ++ (isL x ["NoAlias", "BadKey", "BadReference"])))) r2 (.lst (isL x ["NoTable", "NoColumn", "NotBefore"]))) p2 (.lst (((isL x ["BadName", "BadOperand", "BadClash", "Twice"]) ++ (isL x ["NoAlias", "BadKey", "BadReference"])) ++ (isL x ["NoTable", "NoColumn", "NotBefore"])))) r3 (.lst (isL x ["KeyColumn", "MissingColumn", "ManyKeys"]))) p3 (.lst ((((isL x ["BadName", "BadOperand", "BadClash", "Twice"]) ++ (isL x ["NoAlias", "BadKey", "BadReference"])) ++ (isL x ["NoTable", "NoColumn", "NotBefore"])) ++ (isL x ["KeyColumn", "MissingColumn", "ManyKeys"])))) r4 (.lst (isL x ["Unsettled"]))) p4 (.lst (((((isL x ["BadName", "BadOperand", "BadClash", "Twice"]) ++ (isL x ["NoAlias", "BadKey", "BadReference"])) ++ (isL x ["NoTable", "NoColumn", "NotBefore"])) ++ (isL x ["KeyColumn", "MissingColumn", "ManyKeys"])) ++ (isL x ["Unsettled"])))) := F4.trans (Ex.new h4)
  have E4 := E3.trans G4
  have ev5 := ev4.ex G4
  have a4 : (upd (upd (upd (upd (upd (upd (upd (upd (upd H p0 (.lst (isL x ["BadName", "BadOperand", "BadClash", "Twice"]))) r1 (.lst (isL x ["NoAlias", "BadKey", "BadReference"]))) p1 (.lst ((isL x ["BadName", "BadOperand", "BadClash", "Twice"]) ++ (isL x ["NoAlias", "BadKey", "BadReference"])))) r2 (.lst (isL x ["NoTable", "NoColumn", "NotBefore"]))) p2 (.lst (((isL x ["BadName", "BadOperand", "BadClash", "Twice"]) ++ (isL x ["NoAlias", "BadKey", "BadReference"])) ++ (isL x ["NoTable", "NoColumn", "NotBefore"])))) r3 (.lst (isL x ["KeyColumn", "MissingColumn", "ManyKeys"]))) p3 (.lst ((((isL x ["BadName", "BadOperand", "BadClash", "Twice"]) ++ (isL x ["NoAlias", "BadKey", "BadReference"])) ++ (isL x ["NoTable", "NoColumn", "NotBefore"])) ++ (isL x ["KeyColumn", "MissingColumn", "ManyKeys"])))) r4 (.lst (isL x ["Unsettled"]))) p4 (.lst (((((isL x ["BadName", "BadOperand", "BadClash", "Twice"]) ++ (isL x ["NoAlias", "BadKey", "BadReference"])) ++ (isL x ["NoTable", "NoColumn", "NotBefore"])) ++ (isL x ["KeyColumn", "MissingColumn", "ManyKeys"])) ++ (isL x ["Unsettled"])))) p4 = some (.lst (((((isL x ["BadName", "BadOperand", "BadClash", "Twice"]) ++ (isL x ["NoAlias", "BadKey", "BadReference"])) ++ (isL x ["NoTable", "NoColumn", "NotBefore"])) ++ (isL x ["KeyColumn", "MissingColumn", "ManyKeys"])) ++ (isL x ["Unsettled"]))) := upd_same
  exact q _ _ E4 a4
theorem sc_law_second : FnScope ["_law_e", "_law_found"] ["_law_e"] (defScope s_law_second) := ⟨rfl, rfl, rfl, by decide +kernel, rfl, by decide +kernel, by decide +kernel⟩
theorem ok_law_second (T : Txt P K mg) : FnK P w K mg base CX0 1 "_law_second" ["_law_e"] (spIs K names2) := by
  refine T.F_law_second.ok sc_law_second (fun _ _ _ _ _ _ us hl => match us, hl with | [_], _ => rfl) (fun vs H Q E h => ?_) (fun cdv A outer s H vs Q E hr h => ?_)
  · obtain ⟨a, x, fs, rfl, _⟩ := h
    rfl
  obtain ⟨a, x, fs, rfl, ev0, hx, q⟩ := h
  refine ⟨_, (pss_cons (ps_set (i := 1) sc_law_second.nd rfl (by first | exact Or.inl rfl | exact Or.inr rfl) (pe_lst (pa_cons (pe_callB call_isiE (by rfl) T.m_isinstance (by decide +kernel) (pa_cons (pv 0) (pa_cons (pe_glob (v := .ref (ga _ "BadRow")) (by rfl) T.n_BadRow.gC rfl) pa_nil))) (pa_cons (pe_callB call_isiE (by rfl) T.m_isinstance (by decide +kernel) (pa_cons (pv 0) (pa_cons (pe_glob (v := .ref (ga _ "Taken")) (by rfl) T.n_Taken.gC rfl) pa_nil))) (pa_cons (pe_callB call_isiE (by rfl) T.m_isinstance (by decide +kernel) (pa_cons (pv 0) (pa_cons (pe_glob (v := .ref (ga _ "NoRow")) (by rfl) T.n_NoRow.gC rfl) pa_nil))) (pa_cons (pe_callB call_isiE (by rfl) T.m_isinstance (by decide +kernel) (pa_cons (pv 0) (pa_cons (pe_glob (v := .ref (ga _ "BadPick")) (by rfl) T.n_BadPick.gC rfl) pa_nil))) pa_nil))))))
  (pss_cons (ps_set (i := 1) sc_law_second.nd rfl (by first | exact Or.inl rfl | exact Or.inr rfl) (pe_op op_cat (pv 1) (pe_lst (pa_cons (pe_callB call_isiE (by rfl) T.m_isinstance (by decide +kernel) (pa_cons (pv 0) (pa_cons (pe_glob (v := .ref (ga _ "NoIndex")) (by rfl) T.n_NoIndex.gC rfl) pa_nil))) (pa_cons (pe_callB call_isiE (by rfl) T.m_isinstance (by decide +kernel) (pa_cons (pv 0) (pa_cons (pe_glob (v := .ref (ga _ "ManyMatches")) (by rfl) T.n_ManyMatches.gC rfl) pa_nil))) (pa_cons (pe_callB call_isiE (by rfl) T.m_isinstance (by decide +kernel) (pa_cons (pv 0) (pa_cons (pe_glob (v := .ref (ga _ "Parted")) (by rfl) T.n_Parted.gC rfl) pa_nil))) (pa_cons (pe_callB call_isiE (by rfl) T.m_isinstance (by decide +kernel) (pa_cons (pv 0) (pa_cons (pe_glob (v := .ref (ga _ "TooMany")) (by rfl) T.n_TooMany.gC rfl) pa_nil))) pa_nil)))))))
  (pss_cons (ps_set (i := 1) sc_law_second.nd rfl (by first | exact Or.inl rfl | exact Or.inr rfl) (pe_op op_cat (pv 1) (pe_lst (pa_cons (pe_callB call_isiE (by rfl) T.m_isinstance (by decide +kernel) (pa_cons (pv 0) (pa_cons (pe_glob (v := .ref (ga _ "BadText")) (by rfl) T.n_BadText.gC rfl) pa_nil))) (pa_cons (pe_callB call_isiE (by rfl) T.m_isinstance (by decide +kernel) (pa_cons (pv 0) (pa_cons (pe_glob (v := .ref (ga _ "BadCommand")) (by rfl) T.n_BadCommand.gC rfl) pa_nil))) (pa_cons (pe_callB call_isiE (by rfl) T.m_isinstance (by decide +kernel) (pa_cons (pv 0) (pa_cons (pe_glob (v := .ref (ga _ "OtherSchema")) (by rfl) T.n_OtherSchema.gC rfl) pa_nil))) pa_nil))))))
  (pss_one (ps_ret (pe_op op_cat (pv 1) (pe_lst (pa_cons (pe_callB call_isiE (by rfl) T.m_isinstance (by decide +kernel) (pa_cons (pv 0) (pa_cons (pe_glob (v := .ref (ga _ "Stopped")) (by rfl) T.n_Stopped.gC rfl) pa_nil))) pa_nil)))))))), ?_⟩
  refine ⟨_, rfl, a, _, _, _, _, _, rfl, .own _, ev0, T.ise x hx, T.kit x hx "BadRow" (by decide +kernel), _, rfl, a, _, _, _, _, _, rfl, .own _, ev0, T.ise x hx, T.kit x hx "Taken" (by decide +kernel), _, rfl, a, _, _, _, _, _, rfl, .own _, ev0, T.ise x hx, T.kit x hx "NoRow" (by decide +kernel), _, rfl, a, _, _, _, _, _, rfl, .own _, ev0, T.ise x hx, T.kit x hx "BadPick" (by decide +kernel), sz10 (by simp), fun p0 h0 => ?_⟩
  have E0 : Ex H (upd H p0 (.lst (isL x ["BadRow", "Taken", "NoRow", "BadPick"]))) := Ex.new h0
  have ev1 := ev0.ex E0
  have a0 : (upd H p0 (.lst (isL x ["BadRow", "Taken", "NoRow", "BadPick"]))) p0 = some (.lst (isL x ["BadRow", "Taken", "NoRow", "BadPick"])) := upd_same
  refine ⟨_, rfl, _, rfl, a, _, _, _, _, _, rfl, .own _, ev1, T.ise x hx, T.kit x hx "NoIndex" (by decide +kernel), _, rfl, a, _, _, _, _, _, rfl, .own _, ev1, T.ise x hx, T.kit x hx "ManyMatches" (by decide +kernel), _, rfl, a, _, _, _, _, _, rfl, .own _, ev1, T.ise x hx, T.kit x hx "Parted" (by decide +kernel), _, rfl, a, _, _, _, _, _, rfl, .own _, ev1, T.ise x hx, T.kit x hx "TooMany" (by decide +kernel), sz10 (by simp), fun r1 g1 => ?_⟩
  have F1 : Ex (upd H p0 (.lst (isL x ["BadRow", "Taken", "NoRow", "BadPick"]))) (upd (upd H p0 (.lst (isL x ["BadRow", "Taken", "NoRow", "BadPick"]))) r1 (.lst (isL x ["NoIndex", "ManyMatches", "Parted", "TooMany"]))) := Ex.new g1
  refine ⟨p0, r1, _, _, rfl, rfl, F1 _ _ a0, upd_same, sz10 (by simp [isL]), fun p1 h1 => ?_⟩
  have G1 : Ex (upd H p0 (.lst (isL x ["BadRow", "Taken", "NoRow", "BadPick"]))) (upd (upd (upd H p0 (.lst (isL x ["BadRow", "Taken", "NoRow", "BadPick"]))) r1 (.lst (isL x ["NoIndex", "ManyMatches", "Parted", "TooMany"]))) p1 (.lst ((isL x ["BadRow", "Taken", "NoRow", "BadPick"]) ++ (isL x ["NoIndex", "ManyMatches", "Parted", "TooMany"])))) := F1.trans (Ex.new h1)
  have E1 := E0.trans G1
  have ev2 := ev1.ex G1
  have a1 : (upd (upd (upd H p0 (.lst (isL x ["BadRow", "Taken", "NoRow", "BadPick"]))) r1 (.lst (isL x ["NoIndex", "ManyMatches", "Parted", "TooMany"]))) p1 (.lst ((isL x ["BadRow", "Taken", "NoRow", "BadPick"]) ++ (isL x ["NoIndex", "ManyMatches", "Parted", "TooMany"])))) p1 = some (.lst ((isL x ["BadRow", "Taken", "NoRow", "BadPick"]) ++ (isL x ["NoIndex", "ManyMatches", "Parted", "TooMany"]))) := upd_same
  refine ⟨_, rfl, _, rfl, a, _, _, _, _, _, rfl, .own _, ev2, T.ise x hx, T.kit x hx "BadText" (by decide +kernel), _, rfl, a, _, _, _, _, _, rfl, .own _, ev2, T.ise x hx, T.kit x hx "BadCommand" (by decide +kernel), _, rfl, a, _, _, _, _, _, rfl, .own _, ev2, T.ise x hx, T.kit x hx "OtherSchema" (by decide +kernel), sz10 (by simp), fun r2 g2 => ?_⟩
  have F2 : Ex (upd (upd (upd H p0 (.lst (isL x ["BadRow", "Taken", "NoRow", "BadPick"]))) r1 (.lst (isL x ["NoIndex", "ManyMatches", "Parted", "TooMany"]))) p1 (.lst ((isL x ["BadRow", "Taken", "NoRow", "BadPick"]) ++ (isL x ["NoIndex", "ManyMatches", "Parted", "TooMany"])))) (upd (upd (upd (upd H p0 (.lst (isL x ["BadRow", "Taken", "NoRow", "BadPick"]))) r1 (.lst (isL x ["NoIndex", "ManyMatches", "Parted", "TooMany"]))) p1 (.lst ((isL x ["BadRow", "Taken", "NoRow", "BadPick"]) ++ (isL x ["NoIndex", "ManyMatches", "Parted", "TooMany"])))) r2 (.lst (isL x ["BadText", "BadCommand", "OtherSchema"]))) := Ex.new g2
  refine ⟨p1, r2, _, _, rfl, rfl, F2 _ _ a1, upd_same, sz10 (by simp [isL]), fun p2 h2 => ?_⟩
  have G2 : Ex (upd (upd (upd H p0 (.lst (isL x ["BadRow", "Taken", "NoRow", "BadPick"]))) r1 (.lst (isL x ["NoIndex", "ManyMatches", "Parted", "TooMany"]))) p1 (.lst ((isL x ["BadRow", "Taken", "NoRow", "BadPick"]) ++ (isL x ["NoIndex", "ManyMatches", "Parted", "TooMany"])))) (upd (upd (upd (upd (upd H p0 (.lst (isL x ["BadRow", "Taken", "NoRow", "BadPick"]))) r1 (.lst (isL x ["NoIndex", "ManyMatches", "Parted", "TooMany"]))) p1 (.lst ((isL x ["BadRow", "Taken", "NoRow", "BadPick"]) ++ (isL x ["NoIndex", "ManyMatches", "Parted", "TooMany"])))) r2 (.lst (isL x ["BadText", "BadCommand", "OtherSchema"]))) p2 (.lst (((isL x ["BadRow", "Taken", "NoRow", "BadPick"]) ++ (isL x ["NoIndex", "ManyMatches", "Parted", "TooMany"])) ++ (isL x ["BadText", "BadCommand", "OtherSchema"])))) := F2.trans (Ex.new h2)
  have E2 := E1.trans G2
  have ev3 := ev2.ex G2
  have a2 : (upd (upd (upd (upd (upd H p0 (.lst (isL x ["BadRow", "Taken", "NoRow", "BadPick"]))) r1 (.lst (isL x ["NoIndex", "ManyMatches", "Parted", "TooMany"]))) p1 (.lst ((isL x ["BadRow", "Taken", "NoRow", "BadPick"]) ++ (isL x ["NoIndex", "ManyMatches", "Parted", "TooMany"])))) r2 (.lst (isL x ["BadText", "BadCommand", "OtherSchema"]))) p2 (.lst (((isL x ["BadRow", "Taken", "NoRow", "BadPick"]) ++ (isL x ["NoIndex", "ManyMatches", "Parted", "TooMany"])) ++ (isL x ["BadText", "BadCommand", "OtherSchema"])))) p2 = some (.lst (((isL x ["BadRow", "Taken", "NoRow", "BadPick"]) ++ (isL x ["NoIndex", "ManyMatches", "Parted", "TooMany"])) ++ (isL x ["BadText", "BadCommand", "OtherSchema"]))) := upd_same
  refine ⟨_, rfl, _, rfl, a, _, _, _, _, _, rfl, .own _, ev3, T.ise x hx, T.kit x hx "Stopped" (by decide +kernel), sz10 (by simp), fun r3 g3 => ?_⟩
  have F3 : Ex (upd (upd (upd (upd (upd H p0 (.lst (isL x ["BadRow", "Taken", "NoRow", "BadPick"]))) r1 (.lst (isL x ["NoIndex", "ManyMatches", "Parted", "TooMany"]))) p1 (.lst ((isL x ["BadRow", "Taken", "NoRow", "BadPick"]) ++ (isL x ["NoIndex", "ManyMatches", "Parted", "TooMany"])))) r2 (.lst (isL x ["BadText", "BadCommand", "OtherSchema"]))) p2 (.lst (((isL x ["BadRow", "Taken", "NoRow", "BadPick"]) ++ (isL x ["NoIndex", "ManyMatches", "Parted", "TooMany"])) ++ (isL x ["BadText", "BadCommand", "OtherSchema"])))) (upd (upd (upd (upd (upd (upd H p0 (.lst (isL x ["BadRow", "Taken", "NoRow", "BadPick"]))) r1 (.lst (isL x ["NoIndex", "ManyMatches", "Parted", "TooMany"]))) p1 (.lst ((isL x ["BadRow", "Taken", "NoRow", "BadPick"]) ++ (isL x ["NoIndex", "ManyMatches", "Parted", "TooMany"])))) r2 (.lst (isL x ["BadText", "BadCommand", "OtherSchema"]))) p2 (.lst (((isL x ["BadRow", "Taken", "NoRow", "BadPick"]) ++ (isL x ["NoIndex", "ManyMatches", "Parted", "TooMany"])) ++ (isL x ["BadText", "BadCommand", "OtherSchema"])))) r3 (.lst (isL x ["Stopped"]))) := Ex.new g3
  refine ⟨p2, r3, _, _, rfl, rfl, F3 _ _ a2, upd_same, sz10 (by simp [isL]), fun p3 h3 => ?_⟩
  have G3 : Ex (upd (upd (upd (upd (upd H p0 (.lst (isL x ["BadRow", "Taken", "NoRow", "BadPick"]))) r1 (.lst (isL x ["NoIndex", "ManyMatches", "Parted", "TooMany"]))) p1 (.lst ((isL x ["BadRow", "Taken", "NoRow", "BadPick"]) ++ (isL x ["NoIndex", "ManyMatches", "Parted", "TooMany"])))) r2 (.lst (isL x ["BadText", "BadCommand", "OtherSchema"]))) p2 (.lst (((isL x ["BadRow", "Taken", "NoRow", "BadPick"]) ++ (isL x ["NoIndex", "ManyMatches", "Parted", "TooMany"])) ++ (isL x ["BadText", "BadCommand", "OtherSchema"])))) (upd (upd (upd (upd (upd (upd (upd H p0 (.lst (isL x ["BadRow", "Taken", "NoRow", "BadPick"]))) r1 (.lst (isL x ["NoIndex", "ManyMatches", "Parted", "TooMany"]))) p1 (.lst ((isL x ["BadRow", "Taken", "NoRow", "BadPick"]) ++ (isL x ["NoIndex", "ManyMatches", "Parted", "TooMany"])))) r2 (.lst (isL x ["BadText", "BadCommand", "OtherSchema"]))) p2 (.lst (((isL x ["BadRow", "Taken", "NoRow", "BadPick"]) ++ (isL x ["NoIndex", "ManyMatches", "Parted", "TooMany"])) ++ (isL x ["BadText", "BadCommand", "OtherSchema"])))) r3 (.lst (isL x ["Stopped"]))) p3 (.lst ((((isL x ["BadRow", "Taken", "NoRow", "BadPick"]) ++ (isL x ["NoIndex", "ManyMatches", "Parted", "TooMany"])) ++ (isL x ["BadText", "BadCommand", "OtherSchema"])) ++ (isL x ["Stopped"])))) := F3.trans (Ex.new h3)
  have E3 := E2.trans G3
  have ev4 := ev3.ex G3
  have a3 : (upd (upd (upd (upd (upd (upd (upd H p0 (.lst (isL x ["BadRow", "Taken", "NoRow", "BadPick"]))) r1 (.lst (isL x ["NoIndex", "ManyMatches", "Parted", "TooMany"]))) p1 (.lst ((isL x ["BadRow", "Taken", "NoRow", "BadPick"]) ++ (isL x ["NoIndex", "ManyMatches", "Parted", "TooMany"])))) r2 (.lst (isL x ["BadText", "BadCommand", "OtherSchema"]))) p2 (.lst (((isL x ["BadRow", "Taken", "NoRow", "BadPick"]) ++ (isL x ["NoIndex", "ManyMatches", "Parted", "TooMany"])) ++ (isL x ["BadText", "BadCommand", "OtherSchema"])))) r3 (.lst (isL x ["Stopped"]))) p3 (.lst ((((isL x ["BadRow", "Taken", "NoRow", "BadPick"]) ++ (isL x ["NoIndex", "ManyMatches", "Parted", "TooMany"])) ++ (isL x ["BadText", "BadCommand", "OtherSchema"])) ++ (isL x ["Stopped"])))) p3 = some (.lst ((((isL x ["BadRow", "Taken", "NoRow", "BadPick"]) ++ (isL x ["NoIndex", "ManyMatches", "Parted", "TooMany"])) ++ (isL x ["BadText", "BadCommand", "OtherSchema"])) ++ (isL x ["Stopped"]))) := upd_same
  exact q _ _ E3 a3
theorem sc_law_errors : FnScope ["_law_thing", "_law_index", "_law_found"] ["_law_thing", "_law_index"] (defScope s_law_errors) := ⟨rfl, rfl, rfl, by decide +kernel, rfl, by decide +kernel, by decide +kernel⟩
theorem ok_law_errors (T : Txt P K mg) : FnK P w K mg base CX0 1 "_law_errors" ["_law_thing", "_law_index"] (spErrs K) := by
  refine T.F_law_errors.ok sc_law_errors (fun _ _ _ _ _ _ us hl => match us, hl with | [_, _], _ => rfl) (fun vs H Q E h => ?_) (fun cdv A outer s H vs Q E hr h => ?_)
  · obtain ⟨v, i, rfl, _⟩ := h
    rfl
  obtain ⟨v, i, rfl, q⟩ := h
  refine ⟨_, (pss_cons (ps_set (i := 2) sc_law_errors.nd rfl (by first | exact Or.inl rfl | exact Or.inr rfl) (pe_lst (pa_cons (pe_errV T.n_BadName hr (pa_cons (pv 0) pa_nil)) (pa_cons (pe_errV T.n_BadOperand hr (pa_cons (pv 0) pa_nil)) (pa_cons (pe_errV T.n_BadClash hr (pa_cons (pv 0) pa_nil)) (pa_cons (pe_errV T.n_Twice hr (pa_cons (pv 0) pa_nil)) (pa_cons (pe_errV T.n_NoAlias hr (pa_cons (pv 0) pa_nil)) (pa_cons (pe_errV T.n_BadKey hr (pa_cons (pv 0) pa_nil)) pa_nil))))))))
  (pss_cons (ps_set (i := 2) sc_law_errors.nd rfl (by first | exact Or.inl rfl | exact Or.inr rfl) (pe_op op_cat (pv 2) (pe_lst (pa_cons (pe_errV T.n_BadReference hr (pa_cons (pv 0) pa_nil)) (pa_cons (pe_errV T.n_NoTable hr (pa_cons (pv 0) pa_nil)) (pa_cons (pe_errV T.n_NoColumn hr (pa_cons (pv 0) pa_nil)) (pa_cons (pe_errV T.n_NotBefore hr (pa_cons (pv 0) pa_nil)) (pa_cons (pe_errV T.n_KeyColumn hr (pa_cons (pv 0) pa_nil)) pa_nil))))))))
  (pss_cons (ps_set (i := 2) sc_law_errors.nd rfl (by first | exact Or.inl rfl | exact Or.inr rfl) (pe_op op_cat (pv 2) (pe_lst (pa_cons (pe_errV T.n_MissingColumn hr (pa_cons (pv 0) pa_nil)) (pa_cons (pe_errV T.n_ManyKeys hr (pa_cons (pv 0) pa_nil)) (pa_cons (pe_errV T.n_Unsettled hr (pa_cons (pv 0) pa_nil)) (pa_cons (pe_errV T.n_BadRow hr (pa_cons (pv 0) pa_nil)) (pa_cons (pe_errV T.n_Taken hr (pa_cons (pv 0) pa_nil)) pa_nil))))))))
  (pss_cons (ps_set (i := 2) sc_law_errors.nd rfl (by first | exact Or.inl rfl | exact Or.inr rfl) (pe_op op_cat (pv 2) (pe_lst (pa_cons (pe_errV T.n_NoRow hr (pa_cons (pv 0) pa_nil)) (pa_cons (pe_errV T.n_BadPick hr (pa_cons (pv 0) pa_nil)) (pa_cons (pe_errV T.n_NoIndex hr (pa_cons (pv 0) pa_nil)) (pa_cons (pe_errV T.n_ManyMatches hr (pa_cons (pv 0) pa_nil)) (pa_cons (pe_errV T.n_Parted hr (pa_cons (pv 0) pa_nil)) (pa_cons (pe_errV T.n_TooMany hr (pa_cons (pv 0) pa_nil)) pa_nil)))))))))
  (pss_one (ps_ret (pe_op op_cat (pv 2) (pe_lst (pa_cons (pe_errV T.n_BadText hr (pa_cons (pv 0) pa_nil)) (pa_cons (pe_errV T.n_BadCommand hr (pa_cons (pv 0) pa_nil)) (pa_cons (pe_errV0 T.n_OtherSchema hr) (pa_cons (pe_errV T.n_Stopped hr (pa_cons (pv 1) (pa_cons (pv 0) pa_nil))) pa_nil)))))))))))), ?_⟩
  refine ⟨_, rfl, rfl, fun a0 H0 e0 ev0 => ?_⟩
  refine ⟨_, rfl, rfl, fun a1 H1 e1 ev1 => ?_⟩
  refine ⟨_, rfl, rfl, fun a2 H2 e2 ev2 => ?_⟩
  refine ⟨_, rfl, rfl, fun a3 H3 e3 ev3 => ?_⟩
  refine ⟨_, rfl, rfl, fun a4 H4 e4 ev4 => ?_⟩
  refine ⟨_, rfl, rfl, fun a5 H5 e5 ev5 => ?_⟩
  refine ⟨sz10 (by simp), fun r0 g0 => ?_⟩
  have x0 : Ex H5 (upd H5 r0 (.lst [V.ref a0, V.ref a1, V.ref a2, V.ref a3, V.ref a4, V.ref a5])) := Ex.new g0
  refine ⟨_, rfl, _, rfl, rfl, fun a6 H6 e6 ev6 => ?_⟩
  refine ⟨_, rfl, rfl, fun a7 H7 e7 ev7 => ?_⟩
  refine ⟨_, rfl, rfl, fun a8 H8 e8 ev8 => ?_⟩
  refine ⟨_, rfl, rfl, fun a9 H9 e9 ev9 => ?_⟩
  refine ⟨_, rfl, rfl, fun a10 H10 e10 ev10 => ?_⟩
  refine ⟨sz10 (by simp), fun r1 g1 => ?_⟩
  have x1 : Ex H10 (upd H10 r1 (.lst [V.ref a6, V.ref a7, V.ref a8, V.ref a9, V.ref a10])) := Ex.new g1
  refine ⟨r0, r1, _, _, rfl, rfl, (((((e6.trans e7).trans e8).trans e9).trans e10).trans x1) _ _ upd_same, upd_same, sz10 (by simp), fun p1 h1 => ?_⟩
  have y1 : Ex (upd H10 r1 (.lst [V.ref a6, V.ref a7, V.ref a8, V.ref a9, V.ref a10])) (upd (upd H10 r1 (.lst [V.ref a6, V.ref a7, V.ref a8, V.ref a9, V.ref a10])) p1 (.lst ([V.ref a0, V.ref a1, V.ref a2, V.ref a3, V.ref a4, V.ref a5] ++ [V.ref a6, V.ref a7, V.ref a8, V.ref a9, V.ref a10]))) := Ex.new h1
  refine ⟨_, rfl, _, rfl, rfl, fun a11 H11 e11 ev11 => ?_⟩
  refine ⟨_, rfl, rfl, fun a12 H12 e12 ev12 => ?_⟩
  refine ⟨_, rfl, rfl, fun a13 H13 e13 ev13 => ?_⟩
  refine ⟨_, rfl, rfl, fun a14 H14 e14 ev14 => ?_⟩
  refine ⟨_, rfl, rfl, fun a15 H15 e15 ev15 => ?_⟩
  refine ⟨sz10 (by simp), fun r2 g2 => ?_⟩
  have x2 : Ex H15 (upd H15 r2 (.lst [V.ref a11, V.ref a12, V.ref a13, V.ref a14, V.ref a15])) := Ex.new g2
  refine ⟨p1, r2, _, _, rfl, rfl, (((((e11.trans e12).trans e13).trans e14).trans e15).trans x2) _ _ upd_same, upd_same, sz10 (by simp), fun p2 h2 => ?_⟩
  have y2 : Ex (upd H15 r2 (.lst [V.ref a11, V.ref a12, V.ref a13, V.ref a14, V.ref a15])) (upd (upd H15 r2 (.lst [V.ref a11, V.ref a12, V.ref a13, V.ref a14, V.ref a15])) p2 (.lst (([V.ref a0, V.ref a1, V.ref a2, V.ref a3, V.ref a4, V.ref a5] ++ [V.ref a6, V.ref a7, V.ref a8, V.ref a9, V.ref a10]) ++ [V.ref a11, V.ref a12, V.ref a13, V.ref a14, V.ref a15]))) := Ex.new h2
  refine ⟨_, rfl, _, rfl, rfl, fun a16 H16 e16 ev16 => ?_⟩
  refine ⟨_, rfl, rfl, fun a17 H17 e17 ev17 => ?_⟩
  refine ⟨_, rfl, rfl, fun a18 H18 e18 ev18 => ?_⟩
  refine ⟨_, rfl, rfl, fun a19 H19 e19 ev19 => ?_⟩
  refine ⟨_, rfl, rfl, fun a20 H20 e20 ev20 => ?_⟩
  refine ⟨_, rfl, rfl, fun a21 H21 e21 ev21 => ?_⟩
  refine ⟨sz10 (by simp), fun r3 g3 => ?_⟩
  have x3 : Ex H21 (upd H21 r3 (.lst [V.ref a16, V.ref a17, V.ref a18, V.ref a19, V.ref a20, V.ref a21])) := Ex.new g3
  refine ⟨p2, r3, _, _, rfl, rfl, ((((((e16.trans e17).trans e18).trans e19).trans e20).trans e21).trans x3) _ _ upd_same, upd_same, sz10 (by simp), fun p3 h3 => ?_⟩
  have y3 : Ex (upd H21 r3 (.lst [V.ref a16, V.ref a17, V.ref a18, V.ref a19, V.ref a20, V.ref a21])) (upd (upd H21 r3 (.lst [V.ref a16, V.ref a17, V.ref a18, V.ref a19, V.ref a20, V.ref a21])) p3 (.lst ((([V.ref a0, V.ref a1, V.ref a2, V.ref a3, V.ref a4, V.ref a5] ++ [V.ref a6, V.ref a7, V.ref a8, V.ref a9, V.ref a10]) ++ [V.ref a11, V.ref a12, V.ref a13, V.ref a14, V.ref a15]) ++ [V.ref a16, V.ref a17, V.ref a18, V.ref a19, V.ref a20, V.ref a21]))) := Ex.new h3
  refine ⟨_, rfl, _, rfl, rfl, fun a22 H22 e22 ev22 => ?_⟩
  refine ⟨_, rfl, rfl, fun a23 H23 e23 ev23 => ?_⟩
  refine ⟨rfl, fun a24 H24 e24 ev24 => ?_⟩
  refine ⟨_, rfl, _, rfl, rfl, fun a25 H25 e25 ev25 => ?_⟩
  refine ⟨sz10 (by simp), fun r4 g4 => ?_⟩
  have x4 : Ex H25 (upd H25 r4 (.lst [V.ref a22, V.ref a23, V.ref a24, V.ref a25])) := Ex.new g4
  refine ⟨p3, r4, _, _, rfl, rfl, ((((e22.trans e23).trans e24).trans e25).trans x4) _ _ upd_same, upd_same, sz10 (by simp), fun p4 h4 => ?_⟩
  have y4 : Ex (upd H25 r4 (.lst [V.ref a22, V.ref a23, V.ref a24, V.ref a25])) (upd (upd H25 r4 (.lst [V.ref a22, V.ref a23, V.ref a24, V.ref a25])) p4 (.lst (((([V.ref a0, V.ref a1, V.ref a2, V.ref a3, V.ref a4, V.ref a5] ++ [V.ref a6, V.ref a7, V.ref a8, V.ref a9, V.ref a10]) ++ [V.ref a11, V.ref a12, V.ref a13, V.ref a14, V.ref a15]) ++ [V.ref a16, V.ref a17, V.ref a18, V.ref a19, V.ref a20, V.ref a21]) ++ [V.ref a22, V.ref a23, V.ref a24, V.ref a25]))) := Ex.new h4
  have z35 := Ex.refl (upd (upd H25 r4 (.lst [V.ref a22, V.ref a23, V.ref a24, V.ref a25])) p4 (.lst (((([V.ref a0, V.ref a1, V.ref a2, V.ref a3, V.ref a4, V.ref a5] ++ [V.ref a6, V.ref a7, V.ref a8, V.ref a9, V.ref a10]) ++ [V.ref a11, V.ref a12, V.ref a13, V.ref a14, V.ref a15]) ++ [V.ref a16, V.ref a17, V.ref a18, V.ref a19, V.ref a20, V.ref a21]) ++ [V.ref a22, V.ref a23, V.ref a24, V.ref a25])))
  have z34 := y4.trans z35
  have z33 := x4.trans z34
  have z32 := e25.trans z33
  have z31 := e24.trans z32
  have z30 := e23.trans z31
  have z29 := e22.trans z30
  have z28 := y3.trans z29
  have z27 := x3.trans z28
  have z26 := e21.trans z27
  have z25 := e20.trans z26
  have z24 := e19.trans z25
  have z23 := e18.trans z24
  have z22 := e17.trans z23
  have z21 := e16.trans z22
  have z20 := y2.trans z21
  have z19 := x2.trans z20
  have z18 := e15.trans z19
  have z17 := e14.trans z18
  have z16 := e13.trans z17
  have z15 := e12.trans z16
  have z14 := e11.trans z15
  have z13 := y1.trans z14
  have z12 := x1.trans z13
  have z11 := e10.trans z12
  have z10 := e9.trans z11
  have z9 := e8.trans z10
  have z8 := e7.trans z9
  have z7 := e6.trans z8
  have z6 := x0.trans z7
  have z5 := e5.trans z6
  have z4 := e4.trans z5
  have z3 := e3.trans z4
  have z2 := e2.trans z3
  have z1 := e1.trans z2
  have z0 := e0.trans z1
  refine q _ _ _ z0 upd_same ?_
  exact (.cons ⟨a0, rfl, ev0.ex z1⟩ (.cons ⟨a1, rfl, ev1.ex z2⟩ (.cons ⟨a2, rfl, ev2.ex z3⟩ (.cons ⟨a3, rfl, ev3.ex z4⟩ (.cons ⟨a4, rfl, ev4.ex z5⟩ (.cons ⟨a5, rfl, ev5.ex z6⟩ (.cons ⟨a6, rfl, ev6.ex z8⟩ (.cons ⟨a7, rfl, ev7.ex z9⟩ (.cons ⟨a8, rfl, ev8.ex z10⟩ (.cons ⟨a9, rfl, ev9.ex z11⟩ (.cons ⟨a10, rfl, ev10.ex z12⟩ (.cons ⟨a11, rfl, ev11.ex z15⟩ (.cons ⟨a12, rfl, ev12.ex z16⟩ (.cons ⟨a13, rfl, ev13.ex z17⟩ (.cons ⟨a14, rfl, ev14.ex z18⟩ (.cons ⟨a15, rfl, ev15.ex z19⟩ (.cons ⟨a16, rfl, ev16.ex z22⟩ (.cons ⟨a17, rfl, ev17.ex z23⟩ (.cons ⟨a18, rfl, ev18.ex z24⟩ (.cons ⟨a19, rfl, ev19.ex z25⟩ (.cons ⟨a20, rfl, ev20.ex z26⟩ (.cons ⟨a21, rfl, ev21.ex z27⟩ (.cons ⟨a22, rfl, ev22.ex z30⟩ (.cons ⟨a23, rfl, ev23.ex z31⟩ (.cons ⟨a24, rfl, ev24.ex z32⟩ (.cons ⟨a25, rfl, ev25.ex z33⟩ .nil))))))))))))))))))))))))))
theorem sc_law_fields : FnScope ["_law_found", "_law_fields_here"] ["_law_found"] (defScope s_law_fields) := ⟨rfl, rfl, rfl, by decide +kernel, rfl, by decide +kernel, by decide +kernel⟩
theorem ok_law_fields (T : Txt P K mg) : FnK P w K mg base CX0 1 "_law_fields" ["_law_found"] (spFlds K) := by
  refine T.F_law_fields.ok sc_law_fields (fun _ _ _ _ _ _ us hl => match us, hl with | [_], _ => rfl) (fun vs H Q E h => ?_) (fun cdv A outer s H vs Q E hr h => ?_)
  · obtain ⟨p, l, v, i, rfl, _⟩ := h
    rfl
  obtain ⟨p, l, v, i, rfl, hl, h, q⟩ := h
  unfold Errs errT at h
  obtain _ | ⟨⟨a0, rfl, ev0⟩, h⟩ := h
  obtain _ | ⟨⟨a1, rfl, ev1⟩, h⟩ := h
  obtain _ | ⟨⟨a2, rfl, ev2⟩, h⟩ := h
  obtain _ | ⟨⟨a3, rfl, ev3⟩, h⟩ := h
  obtain _ | ⟨⟨a4, rfl, ev4⟩, h⟩ := h
  obtain _ | ⟨⟨a5, rfl, ev5⟩, h⟩ := h
  obtain _ | ⟨⟨a6, rfl, ev6⟩, h⟩ := h
  obtain _ | ⟨⟨a7, rfl, ev7⟩, h⟩ := h
  obtain _ | ⟨⟨a8, rfl, ev8⟩, h⟩ := h
  obtain _ | ⟨⟨a9, rfl, ev9⟩, h⟩ := h
  obtain _ | ⟨⟨a10, rfl, ev10⟩, h⟩ := h
  obtain _ | ⟨⟨a11, rfl, ev11⟩, h⟩ := h
  obtain _ | ⟨⟨a12, rfl, ev12⟩, h⟩ := h
  obtain _ | ⟨⟨a13, rfl, ev13⟩, h⟩ := h
  obtain _ | ⟨⟨a14, rfl, ev14⟩, h⟩ := h
  obtain _ | ⟨⟨a15, rfl, ev15⟩, h⟩ := h
  obtain _ | ⟨⟨a16, rfl, ev16⟩, h⟩ := h
  obtain _ | ⟨⟨a17, rfl, ev17⟩, h⟩ := h
  obtain _ | ⟨⟨a18, rfl, ev18⟩, h⟩ := h
  obtain _ | ⟨⟨a19, rfl, ev19⟩, h⟩ := h
  obtain _ | ⟨⟨a20, rfl, ev20⟩, h⟩ := h
  obtain _ | ⟨⟨a21, rfl, ev21⟩, h⟩ := h
  obtain _ | ⟨⟨a22, rfl, ev22⟩, h⟩ := h
  obtain _ | ⟨⟨a23, rfl, ev23⟩, h⟩ := h
  obtain _ | ⟨⟨a24, rfl, ev24⟩, h⟩ := h
  obtain _ | ⟨⟨a25, rfl, ev25⟩, h⟩ := h
  obtain _ | _ := h
  refine ⟨_, (pss_cons (ps_set (i := 1) sc_law_fields.nd rfl (by first | exact Or.inl rfl | exact Or.inr rfl) (pe_lst (pa_cons (pe_xv (pe_ix ix_list (pv 0) pe_int (fun _ _ => rfl))) (pa_cons (pe_xv (pe_ix ix_list (pv 0) pe_int (fun _ _ => rfl))) (pa_cons (pe_xv (pe_ix ix_list (pv 0) pe_int (fun _ _ => rfl))) (pa_cons (pe_xv (pe_ix ix_list (pv 0) pe_int (fun _ _ => rfl))) (pa_cons (pe_xv (pe_ix ix_list (pv 0) pe_int (fun _ _ => rfl))) (pa_cons (pe_xv (pe_ix ix_list (pv 0) pe_int (fun _ _ => rfl))) pa_nil))))))))
  (pss_cons (ps_set (i := 1) sc_law_fields.nd rfl (by first | exact Or.inl rfl | exact Or.inr rfl) (pe_op op_cat (pv 1) (pe_lst (pa_cons (pe_xv (pe_ix ix_list (pv 0) pe_int (fun _ _ => rfl))) (pa_cons (pe_xv (pe_ix ix_list (pv 0) pe_int (fun _ _ => rfl))) (pa_cons (pe_xv (pe_ix ix_list (pv 0) pe_int (fun _ _ => rfl))) (pa_cons (pe_xv (pe_ix ix_list (pv 0) pe_int (fun _ _ => rfl))) (pa_cons (pe_xv (pe_ix ix_list (pv 0) pe_int (fun _ _ => rfl))) pa_nil))))))))
  (pss_cons (ps_set (i := 1) sc_law_fields.nd rfl (by first | exact Or.inl rfl | exact Or.inr rfl) (pe_op op_cat (pv 1) (pe_lst (pa_cons (pe_xv (pe_ix ix_list (pv 0) pe_int (fun _ _ => rfl))) (pa_cons (pe_xv (pe_ix ix_list (pv 0) pe_int (fun _ _ => rfl))) (pa_cons (pe_xv (pe_ix ix_list (pv 0) pe_int (fun _ _ => rfl))) (pa_cons (pe_xv (pe_ix ix_list (pv 0) pe_int (fun _ _ => rfl))) (pa_cons (pe_xv (pe_ix ix_list (pv 0) pe_int (fun _ _ => rfl))) pa_nil))))))))
  (pss_cons (ps_set (i := 1) sc_law_fields.nd rfl (by first | exact Or.inl rfl | exact Or.inr rfl) (pe_op op_cat (pv 1) (pe_lst (pa_cons (pe_xv (pe_ix ix_list (pv 0) pe_int (fun _ _ => rfl))) (pa_cons (pe_xv (pe_ix ix_list (pv 0) pe_int (fun _ _ => rfl))) (pa_cons (pe_xv (pe_ix ix_list (pv 0) pe_int (fun _ _ => rfl))) (pa_cons (pe_xv (pe_ix ix_list (pv 0) pe_int (fun _ _ => rfl))) (pa_cons (pe_xv (pe_ix ix_list (pv 0) pe_int (fun _ _ => rfl))) (pa_cons (pe_xv (pe_ix ix_list (pv 0) pe_int (fun _ _ => rfl))) pa_nil)))))))))
  (pss_one (ps_ret (pe_op op_cat (pv 1) (pe_lst (pa_cons (pe_xv (pe_ix ix_list (pv 0) pe_int (fun _ _ => rfl))) (pa_cons (pe_xv (pe_ix ix_list (pv 0) pe_int (fun _ _ => rfl))) (pa_cons (pe_xv (pe_ix ix_list (pv 0) pe_int (fun _ _ => rfl))) pa_nil))))))))))), ?_⟩
  have sq0 : SqL K H p [V.ref a0, V.ref a1, V.ref a2, V.ref a3, V.ref a4, V.ref a5, V.ref a6, V.ref a7, V.ref a8, V.ref a9, V.ref a10, V.ref a11, V.ref a12, V.ref a13, V.ref a14, V.ref a15, V.ref a16, V.ref a17, V.ref a18, V.ref a19, V.ref a20, V.ref a21, V.ref a22, V.ref a23, V.ref a24, V.ref a25] := SqL.of hl
  have E0 := Ex.refl H
  refine ⟨_, rfl, p, _, 0, _, rfl, rfl, Evl.ex_l E0 sq0, rfl, a0, _, _, v, rfl, ev0.ex E0, T.n_BadName.xf, T.n_BadName.noF "name" (by decide), rfl, _, rfl, p, _, 1, _, rfl, rfl, Evl.ex_l E0 sq0, rfl, a1, _, _, v, rfl, ev1.ex E0, T.n_BadOperand.xf, T.n_BadOperand.noF "operand" (by decide), rfl, _, rfl, p, _, 2, _, rfl, rfl, Evl.ex_l E0 sq0, rfl, a2, _, _, v, rfl, ev2.ex E0, T.n_BadClash.xf, T.n_BadClash.noF "clash" (by decide), rfl, _, rfl, p, _, 3, _, rfl, rfl, Evl.ex_l E0 sq0, rfl, a3, _, _, v, rfl, ev3.ex E0, T.n_Twice.xf, T.n_Twice.noF "name" (by decide), rfl, _, rfl, p, _, 4, _, rfl, rfl, Evl.ex_l E0 sq0, rfl, a4, _, _, v, rfl, ev4.ex E0, T.n_NoAlias.xf, T.n_NoAlias.noF "alias" (by decide), rfl, _, rfl, p, _, 5, _, rfl, rfl, Evl.ex_l E0 sq0, rfl, a5, _, _, v, rfl, ev5.ex E0, T.n_BadKey.xf, T.n_BadKey.noF "index" (by decide), rfl, sz10 (by simp), fun r0 g0 => ?_⟩
  have E1 : Ex H (upd H r0 (.lst [v, v, v, v, v, v])) := Ex.new g0
  have b0 : (upd H r0 (.lst [v, v, v, v, v, v])) r0 = some (.lst [v, v, v, v, v, v]) := upd_same
  refine ⟨_, rfl, _, rfl, p, _, 6, _, rfl, rfl, Evl.ex_l E1 sq0, rfl, a6, _, _, v, rfl, ev6.ex E1, T.n_BadReference.xf, T.n_BadReference.noF "index" (by decide), rfl, _, rfl, p, _, 7, _, rfl, rfl, Evl.ex_l E1 sq0, rfl, a7, _, _, v, rfl, ev7.ex E1, T.n_NoTable.xf, T.n_NoTable.noF "table" (by decide), rfl, _, rfl, p, _, 8, _, rfl, rfl, Evl.ex_l E1 sq0, rfl, a8, _, _, v, rfl, ev8.ex E1, T.n_NoColumn.xf, T.n_NoColumn.noF "column" (by decide), rfl, _, rfl, p, _, 9, _, rfl, rfl, Evl.ex_l E1 sq0, rfl, a9, _, _, v, rfl, ev9.ex E1, T.n_NotBefore.xf, T.n_NotBefore.noF "table" (by decide), rfl, _, rfl, p, _, 10, _, rfl, rfl, Evl.ex_l E1 sq0, rfl, a10, _, _, v, rfl, ev10.ex E1, T.n_KeyColumn.xf, T.n_KeyColumn.noF "column" (by decide), rfl, sz10 (by simp), fun r1 g1 => ?_⟩
  have x1 : Ex (upd H r0 (.lst [v, v, v, v, v, v])) (upd (upd H r0 (.lst [v, v, v, v, v, v])) r1 (.lst [v, v, v, v, v])) := Ex.new g1
  refine ⟨r0, r1, _, _, rfl, rfl, x1 _ _ b0, upd_same, sz10 (by simp), fun p1 h1 => ?_⟩
  have E2 : Ex H (upd (upd (upd H r0 (.lst [v, v, v, v, v, v])) r1 (.lst [v, v, v, v, v])) p1 (.lst ([v, v, v, v, v, v] ++ [v, v, v, v, v]))) := (E1.trans x1).trans (Ex.new h1)
  have b1 : (upd (upd (upd H r0 (.lst [v, v, v, v, v, v])) r1 (.lst [v, v, v, v, v])) p1 (.lst ([v, v, v, v, v, v] ++ [v, v, v, v, v]))) p1 = some (.lst ([v, v, v, v, v, v] ++ [v, v, v, v, v])) := upd_same
  refine ⟨_, rfl, _, rfl, p, _, 11, _, rfl, rfl, Evl.ex_l E2 sq0, rfl, a11, _, _, v, rfl, ev11.ex E2, T.n_MissingColumn.xf, T.n_MissingColumn.noF "column" (by decide), rfl, _, rfl, p, _, 12, _, rfl, rfl, Evl.ex_l E2 sq0, rfl, a12, _, _, v, rfl, ev12.ex E2, T.n_ManyKeys.xf, T.n_ManyKeys.noF "table" (by decide), rfl, _, rfl, p, _, 13, _, rfl, rfl, Evl.ex_l E2 sq0, rfl, a13, _, _, v, rfl, ev13.ex E2, T.n_Unsettled.xf, T.n_Unsettled.noF "index" (by decide), rfl, _, rfl, p, _, 14, _, rfl, rfl, Evl.ex_l E2 sq0, rfl, a14, _, _, v, rfl, ev14.ex E2, T.n_BadRow.xf, T.n_BadRow.noF "row" (by decide), rfl, _, rfl, p, _, 15, _, rfl, rfl, Evl.ex_l E2 sq0, rfl, a15, _, _, v, rfl, ev15.ex E2, T.n_Taken.xf, T.n_Taken.noF "row" (by decide), rfl, sz10 (by simp), fun r2 g2 => ?_⟩
  have x2 : Ex (upd (upd (upd H r0 (.lst [v, v, v, v, v, v])) r1 (.lst [v, v, v, v, v])) p1 (.lst ([v, v, v, v, v, v] ++ [v, v, v, v, v]))) (upd (upd (upd (upd H r0 (.lst [v, v, v, v, v, v])) r1 (.lst [v, v, v, v, v])) p1 (.lst ([v, v, v, v, v, v] ++ [v, v, v, v, v]))) r2 (.lst [v, v, v, v, v])) := Ex.new g2
  refine ⟨p1, r2, _, _, rfl, rfl, x2 _ _ b1, upd_same, sz10 (by simp), fun p2 h2 => ?_⟩
  have E3 : Ex H (upd (upd (upd (upd (upd H r0 (.lst [v, v, v, v, v, v])) r1 (.lst [v, v, v, v, v])) p1 (.lst ([v, v, v, v, v, v] ++ [v, v, v, v, v]))) r2 (.lst [v, v, v, v, v])) p2 (.lst (([v, v, v, v, v, v] ++ [v, v, v, v, v]) ++ [v, v, v, v, v]))) := (E2.trans x2).trans (Ex.new h2)
  have b2 : (upd (upd (upd (upd (upd H r0 (.lst [v, v, v, v, v, v])) r1 (.lst [v, v, v, v, v])) p1 (.lst ([v, v, v, v, v, v] ++ [v, v, v, v, v]))) r2 (.lst [v, v, v, v, v])) p2 (.lst (([v, v, v, v, v, v] ++ [v, v, v, v, v]) ++ [v, v, v, v, v]))) p2 = some (.lst (([v, v, v, v, v, v] ++ [v, v, v, v, v]) ++ [v, v, v, v, v])) := upd_same
  refine ⟨_, rfl, _, rfl, p, _, 16, _, rfl, rfl, Evl.ex_l E3 sq0, rfl, a16, _, _, v, rfl, ev16.ex E3, T.n_NoRow.xf, T.n_NoRow.noF "key" (by decide), rfl, _, rfl, p, _, 17, _, rfl, rfl, Evl.ex_l E3 sq0, rfl, a17, _, _, v, rfl, ev17.ex E3, T.n_BadPick.xf, T.n_BadPick.noF "index" (by decide), rfl, _, rfl, p, _, 18, _, rfl, rfl, Evl.ex_l E3 sq0, rfl, a18, _, _, v, rfl, ev18.ex E3, T.n_NoIndex.xf, T.n_NoIndex.noF "index" (by decide), rfl, _, rfl, p, _, 19, _, rfl, rfl, Evl.ex_l E3 sq0, rfl, a19, _, _, v, rfl, ev19.ex E3, T.n_ManyMatches.xf, T.n_ManyMatches.noF "key" (by decide), rfl, _, rfl, p, _, 20, _, rfl, rfl, Evl.ex_l E3 sq0, rfl, a20, _, _, v, rfl, ev20.ex E3, T.n_Parted.xf, T.n_Parted.noF "cell" (by decide), rfl, _, rfl, p, _, 21, _, rfl, rfl, Evl.ex_l E3 sq0, rfl, a21, _, _, v, rfl, ev21.ex E3, T.n_TooMany.xf, T.n_TooMany.noF "limit" (by decide), rfl, sz10 (by simp), fun r3 g3 => ?_⟩
  have x3 : Ex (upd (upd (upd (upd (upd H r0 (.lst [v, v, v, v, v, v])) r1 (.lst [v, v, v, v, v])) p1 (.lst ([v, v, v, v, v, v] ++ [v, v, v, v, v]))) r2 (.lst [v, v, v, v, v])) p2 (.lst (([v, v, v, v, v, v] ++ [v, v, v, v, v]) ++ [v, v, v, v, v]))) (upd (upd (upd (upd (upd (upd H r0 (.lst [v, v, v, v, v, v])) r1 (.lst [v, v, v, v, v])) p1 (.lst ([v, v, v, v, v, v] ++ [v, v, v, v, v]))) r2 (.lst [v, v, v, v, v])) p2 (.lst (([v, v, v, v, v, v] ++ [v, v, v, v, v]) ++ [v, v, v, v, v]))) r3 (.lst [v, v, v, v, v, v])) := Ex.new g3
  refine ⟨p2, r3, _, _, rfl, rfl, x3 _ _ b2, upd_same, sz10 (by simp), fun p3 h3 => ?_⟩
  have E4 : Ex H (upd (upd (upd (upd (upd (upd (upd H r0 (.lst [v, v, v, v, v, v])) r1 (.lst [v, v, v, v, v])) p1 (.lst ([v, v, v, v, v, v] ++ [v, v, v, v, v]))) r2 (.lst [v, v, v, v, v])) p2 (.lst (([v, v, v, v, v, v] ++ [v, v, v, v, v]) ++ [v, v, v, v, v]))) r3 (.lst [v, v, v, v, v, v])) p3 (.lst ((([v, v, v, v, v, v] ++ [v, v, v, v, v]) ++ [v, v, v, v, v]) ++ [v, v, v, v, v, v]))) := (E3.trans x3).trans (Ex.new h3)
  have b3 : (upd (upd (upd (upd (upd (upd (upd H r0 (.lst [v, v, v, v, v, v])) r1 (.lst [v, v, v, v, v])) p1 (.lst ([v, v, v, v, v, v] ++ [v, v, v, v, v]))) r2 (.lst [v, v, v, v, v])) p2 (.lst (([v, v, v, v, v, v] ++ [v, v, v, v, v]) ++ [v, v, v, v, v]))) r3 (.lst [v, v, v, v, v, v])) p3 (.lst ((([v, v, v, v, v, v] ++ [v, v, v, v, v]) ++ [v, v, v, v, v]) ++ [v, v, v, v, v, v]))) p3 = some (.lst ((([v, v, v, v, v, v] ++ [v, v, v, v, v]) ++ [v, v, v, v, v]) ++ [v, v, v, v, v, v])) := upd_same
  refine ⟨_, rfl, _, rfl, p, _, 22, _, rfl, rfl, Evl.ex_l E4 sq0, rfl, a22, _, _, v, rfl, ev22.ex E4, T.n_BadText.xf, T.n_BadText.noF "index" (by decide), rfl, _, rfl, p, _, 23, _, rfl, rfl, Evl.ex_l E4 sq0, rfl, a23, _, _, v, rfl, ev23.ex E4, T.n_BadCommand.xf, T.n_BadCommand.noF "command" (by decide), rfl, _, rfl, p, _, 25, _, rfl, rfl, Evl.ex_l E4 sq0, rfl, a25, _, _, v, rfl, ev25.ex E4, T.n_Stopped.xf, T.n_Stopped.noF "key" (by decide), rfl, sz10 (by simp), fun r4 g4 => ?_⟩
  have x4 : Ex (upd (upd (upd (upd (upd (upd (upd H r0 (.lst [v, v, v, v, v, v])) r1 (.lst [v, v, v, v, v])) p1 (.lst ([v, v, v, v, v, v] ++ [v, v, v, v, v]))) r2 (.lst [v, v, v, v, v])) p2 (.lst (([v, v, v, v, v, v] ++ [v, v, v, v, v]) ++ [v, v, v, v, v]))) r3 (.lst [v, v, v, v, v, v])) p3 (.lst ((([v, v, v, v, v, v] ++ [v, v, v, v, v]) ++ [v, v, v, v, v]) ++ [v, v, v, v, v, v]))) (upd (upd (upd (upd (upd (upd (upd (upd H r0 (.lst [v, v, v, v, v, v])) r1 (.lst [v, v, v, v, v])) p1 (.lst ([v, v, v, v, v, v] ++ [v, v, v, v, v]))) r2 (.lst [v, v, v, v, v])) p2 (.lst (([v, v, v, v, v, v] ++ [v, v, v, v, v]) ++ [v, v, v, v, v]))) r3 (.lst [v, v, v, v, v, v])) p3 (.lst ((([v, v, v, v, v, v] ++ [v, v, v, v, v]) ++ [v, v, v, v, v]) ++ [v, v, v, v, v, v]))) r4 (.lst [v, v, v])) := Ex.new g4
  refine ⟨p3, r4, _, _, rfl, rfl, x4 _ _ b3, upd_same, sz10 (by simp), fun p4 h4 => ?_⟩
  have E5 : Ex H (upd (upd (upd (upd (upd (upd (upd (upd (upd H r0 (.lst [v, v, v, v, v, v])) r1 (.lst [v, v, v, v, v])) p1 (.lst ([v, v, v, v, v, v] ++ [v, v, v, v, v]))) r2 (.lst [v, v, v, v, v])) p2 (.lst (([v, v, v, v, v, v] ++ [v, v, v, v, v]) ++ [v, v, v, v, v]))) r3 (.lst [v, v, v, v, v, v])) p3 (.lst ((([v, v, v, v, v, v] ++ [v, v, v, v, v]) ++ [v, v, v, v, v]) ++ [v, v, v, v, v, v]))) r4 (.lst [v, v, v])) p4 (.lst (((([v, v, v, v, v, v] ++ [v, v, v, v, v]) ++ [v, v, v, v, v]) ++ [v, v, v, v, v, v]) ++ [v, v, v]))) := (E4.trans x4).trans (Ex.new h4)
  have b4 : (upd (upd (upd (upd (upd (upd (upd (upd (upd H r0 (.lst [v, v, v, v, v, v])) r1 (.lst [v, v, v, v, v])) p1 (.lst ([v, v, v, v, v, v] ++ [v, v, v, v, v]))) r2 (.lst [v, v, v, v, v])) p2 (.lst (([v, v, v, v, v, v] ++ [v, v, v, v, v]) ++ [v, v, v, v, v]))) r3 (.lst [v, v, v, v, v, v])) p3 (.lst ((([v, v, v, v, v, v] ++ [v, v, v, v, v]) ++ [v, v, v, v, v]) ++ [v, v, v, v, v, v]))) r4 (.lst [v, v, v])) p4 (.lst (((([v, v, v, v, v, v] ++ [v, v, v, v, v]) ++ [v, v, v, v, v]) ++ [v, v, v, v, v, v]) ++ [v, v, v]))) p4 = some (.lst (((([v, v, v, v, v, v] ++ [v, v, v, v, v]) ++ [v, v, v, v, v]) ++ [v, v, v, v, v, v]) ++ [v, v, v])) := upd_same
  exact q _ _ E5 b4
end
end KL
set_option Elab.async false
set_option linter.all false
set_option maxRecDepth 100000
set_option maxHeartbeats 0
namespace KL
open PySem PySem.Spec PyProof.Rows L2
open He (ga ma)
def fa0 : List WH.Chk := [WH.cFree "ValueError", WH.cFree "range", WH.cFree "abs", WH.cFree "int", WH.cFree "isinstance", WH.cFree "max", WH.cFree "enumerate", WH.cFree "len", WH.cFree "repr", WH.cFree "min", WH.cFree "all", WH.cGlo "WhichError", WH.cIse errN, WH.cMro errN, WH.cGlo "_law_bag", WH.cGlo "_law_take", WH.cGlo "_law_of", WH.cGlo "_law_name", WH.cGlo "_law_odd", WH.cGlo "_law_same", WH.cGlo "_law_first", WH.cGlo "_law_second", WH.cGlo "_law_errors", WH.cGlo "_law_fields", WH.cGlo "law"]
def fa : List WH.Chk := fa0
def fn0 : List He5.DefA := [WH.mkD "_law_bag" s_law_bag, WH.mkD "_law_take" s_law_take, WH.mkD "_law_of" s_law_of, WH.mkD "_law_name" s_law_name, WH.mkD "_law_odd" s_law_odd, WH.mkD "_law_same" s_law_same, WH.mkD "_law_first" s_law_first, WH.mkD "_law_second" s_law_second, WH.mkD "_law_errors" s_law_errors, WH.mkD "_law_fields" s_law_fields, WH.mkD "law" s_law]
def fn : List He5.DefA := fn0
def er0 : List WH.ErN := [⟨"BadName", ["name"], inClass (top 2) 0⟩, ⟨"BadOperand", ["operand"], inClass (top 3) 0⟩, ⟨"BadClash", ["clash"], inClass (top 4) 0⟩, ⟨"Twice", ["name"], inClass (top 5) 0⟩, ⟨"NoAlias", ["alias"], inClass (top 6) 0⟩, ⟨"BadKey", ["index"], inClass (top 7) 0⟩, ⟨"BadReference", ["index"], inClass (top 8) 0⟩, ⟨"NoTable", ["table"], inClass (top 9) 0⟩, ⟨"NoColumn", ["column"], inClass (top 10) 0⟩, ⟨"NotBefore", ["table"], inClass (top 11) 0⟩, ⟨"KeyColumn", ["column"], inClass (top 12) 0⟩, ⟨"MissingColumn", ["column"], inClass (top 13) 0⟩, ⟨"ManyKeys", ["table"], inClass (top 14) 0⟩, ⟨"Unsettled", ["index"], inClass (top 15) 0⟩, ⟨"BadRow", ["row"], inClass (top 16) 0⟩, ⟨"Taken", ["row"], inClass (top 17) 0⟩, ⟨"NoRow", ["key"], inClass (top 18) 0⟩, ⟨"BadPick", ["index"], inClass (top 19) 0⟩, ⟨"NoIndex", ["index"], inClass (top 20) 0⟩, ⟨"Stopped", ["index", "key"], inClass (top 21) 0⟩, ⟨"ManyMatches", ["key"], inClass (top 22) 0⟩, ⟨"Parted", ["cell"], inClass (top 23) 0⟩, ⟨"TooMany", ["limit"], inClass (top 24) 0⟩, ⟨"BadText", ["index"], inClass (top 25) 0⟩, ⟨"BadCommand", ["command"], inClass (top 26) 0⟩, ⟨"OtherSchema", [], inClass (top 27) 0⟩]
def er : List WH.ErN := er0
def loose0 : List Str := ["WhichError", "BadName", "BadOperand", "BadClash", "Twice", "NoAlias", "BadKey", "BadReference", "NoTable", "NoColumn", "NotBefore", "KeyColumn", "MissingColumn", "ManyKeys", "Unsettled", "BadRow", "Taken", "NoRow", "BadPick", "NoIndex", "Stopped", "ManyMatches", "Parted", "TooMany", "BadText", "BadCommand", "OtherSchema", "_law_bag", "_law_take", "_law_of"]
def loose1 : List Str := ["_law_name", "_law_odd", "_law_same", "_law_first", "_law_second", "_law_errors", "_law_fields"]
def loose : List Str := loose0 ++ loose1
abbrev R : PySem.W.OpenRow := PySem.W.OpenLaw.row PySem.Challenge.rw_whichmatch_k01_errors_and_their_fields
abbrev hk : PySem.W.Hook := WH.hookN R.prog 5 fa fn er
def ob (s : PySem.W.SharedT) : WH.AlN := WH.obsNG R.prog 5 fa fn er (HandSHeadRun.getT s)
theorem ob_eq (s : PySem.W.SharedT) : ob s = hk.obs s.abs := WH.obsNG_eq (HandSHeadRun.getT_eq s)
theorem run (w : World) : HandSHeadRun.RunEq R (PySem.W.view R.prog [39]) hk ob 100000 loose w := by
  intro os
  kernel_rfl
theorem fl_name : WH.FlOk ["name"] := ⟨.inr (.inl ⟨_, rfl⟩), rfl, rfl, rfl, by decide +kernel, by decide +kernel, fun q0 qs hq _ _ _ _ _ _ _ _ _ _ _ us hu => match qs, hq, us, hu with | [_], _, [_], _ => rfl⟩
theorem fl_operand : WH.FlOk ["operand"] := ⟨.inr (.inl ⟨_, rfl⟩), rfl, rfl, rfl, by decide +kernel, by decide +kernel, fun q0 qs hq _ _ _ _ _ _ _ _ _ _ _ us hu => match qs, hq, us, hu with | [_], _, [_], _ => rfl⟩
theorem fl_clash : WH.FlOk ["clash"] := ⟨.inr (.inl ⟨_, rfl⟩), rfl, rfl, rfl, by decide +kernel, by decide +kernel, fun q0 qs hq _ _ _ _ _ _ _ _ _ _ _ us hu => match qs, hq, us, hu with | [_], _, [_], _ => rfl⟩
theorem fl_alias : WH.FlOk ["alias"] := ⟨.inr (.inl ⟨_, rfl⟩), rfl, rfl, rfl, by decide +kernel, by decide +kernel, fun q0 qs hq _ _ _ _ _ _ _ _ _ _ _ us hu => match qs, hq, us, hu with | [_], _, [_], _ => rfl⟩
theorem fl_index : WH.FlOk ["index"] := ⟨.inr (.inl ⟨_, rfl⟩), rfl, rfl, rfl, by decide +kernel, by decide +kernel, fun q0 qs hq _ _ _ _ _ _ _ _ _ _ _ us hu => match qs, hq, us, hu with | [_], _, [_], _ => rfl⟩
theorem fl_table : WH.FlOk ["table"] := ⟨.inr (.inl ⟨_, rfl⟩), rfl, rfl, rfl, by decide +kernel, by decide +kernel, fun q0 qs hq _ _ _ _ _ _ _ _ _ _ _ us hu => match qs, hq, us, hu with | [_], _, [_], _ => rfl⟩
theorem fl_column : WH.FlOk ["column"] := ⟨.inr (.inl ⟨_, rfl⟩), rfl, rfl, rfl, by decide +kernel, by decide +kernel, fun q0 qs hq _ _ _ _ _ _ _ _ _ _ _ us hu => match qs, hq, us, hu with | [_], _, [_], _ => rfl⟩
theorem fl_row : WH.FlOk ["row"] := ⟨.inr (.inl ⟨_, rfl⟩), rfl, rfl, rfl, by decide +kernel, by decide +kernel, fun q0 qs hq _ _ _ _ _ _ _ _ _ _ _ us hu => match qs, hq, us, hu with | [_], _, [_], _ => rfl⟩
theorem fl_key : WH.FlOk ["key"] := ⟨.inr (.inl ⟨_, rfl⟩), rfl, rfl, rfl, by decide +kernel, by decide +kernel, fun q0 qs hq _ _ _ _ _ _ _ _ _ _ _ us hu => match qs, hq, us, hu with | [_], _, [_], _ => rfl⟩
theorem fl_index_key : WH.FlOk ["index", "key"] := ⟨.inr (.inr ⟨_, _, rfl, by decide⟩), rfl, rfl, rfl, by decide +kernel, by decide +kernel, fun q0 qs hq _ _ _ _ _ _ _ _ _ _ _ us hu => match qs, hq, us, hu with | [_, _], _, [_, _], _ => rfl⟩
theorem fl_cell : WH.FlOk ["cell"] := ⟨.inr (.inl ⟨_, rfl⟩), rfl, rfl, rfl, by decide +kernel, by decide +kernel, fun q0 qs hq _ _ _ _ _ _ _ _ _ _ _ us hu => match qs, hq, us, hu with | [_], _, [_], _ => rfl⟩
theorem fl_limit : WH.FlOk ["limit"] := ⟨.inr (.inl ⟨_, rfl⟩), rfl, rfl, rfl, by decide +kernel, by decide +kernel, fun q0 qs hq _ _ _ _ _ _ _ _ _ _ _ us hu => match qs, hq, us, hu with | [_], _, [_], _ => rfl⟩
theorem fl_command : WH.FlOk ["command"] := ⟨.inr (.inl ⟨_, rfl⟩), rfl, rfl, rfl, by decide +kernel, by decide +kernel, fun q0 qs hq _ _ _ _ _ _ _ _ _ _ _ us hu => match qs, hq, us, hu with | [_], _, [_], _ => rfl⟩
theorem fl_ : WH.FlOk [] := ⟨.inl rfl, rfl, rfl, rfl, by decide +kernel, by decide +kernel, fun q0 qs hq _ _ _ _ _ _ _ _ _ _ _ us hu => match qs, hq, us, hu with | [], _, [], _ => rfl⟩
theorem st_BadName : WH.StOk ["name"] (inClass (top 2) 0) := ⟨by kernel_rfl, by kernel_rfl, by kernel_rfl, by kernel_rfl, WH.a0 (inClass (top 2) 0), WH.aqs (inClass (top 2) 0), by kernel_rfl, by kernel_rfl⟩
theorem st_BadOperand : WH.StOk ["operand"] (inClass (top 3) 0) := ⟨by kernel_rfl, by kernel_rfl, by kernel_rfl, by kernel_rfl, WH.a0 (inClass (top 3) 0), WH.aqs (inClass (top 3) 0), by kernel_rfl, by kernel_rfl⟩
theorem st_BadClash : WH.StOk ["clash"] (inClass (top 4) 0) := ⟨by kernel_rfl, by kernel_rfl, by kernel_rfl, by kernel_rfl, WH.a0 (inClass (top 4) 0), WH.aqs (inClass (top 4) 0), by kernel_rfl, by kernel_rfl⟩
theorem st_Twice : WH.StOk ["name"] (inClass (top 5) 0) := ⟨by kernel_rfl, by kernel_rfl, by kernel_rfl, by kernel_rfl, WH.a0 (inClass (top 5) 0), WH.aqs (inClass (top 5) 0), by kernel_rfl, by kernel_rfl⟩
theorem st_NoAlias : WH.StOk ["alias"] (inClass (top 6) 0) := ⟨by kernel_rfl, by kernel_rfl, by kernel_rfl, by kernel_rfl, WH.a0 (inClass (top 6) 0), WH.aqs (inClass (top 6) 0), by kernel_rfl, by kernel_rfl⟩
theorem st_BadKey : WH.StOk ["index"] (inClass (top 7) 0) := ⟨by kernel_rfl, by kernel_rfl, by kernel_rfl, by kernel_rfl, WH.a0 (inClass (top 7) 0), WH.aqs (inClass (top 7) 0), by kernel_rfl, by kernel_rfl⟩
theorem st_BadReference : WH.StOk ["index"] (inClass (top 8) 0) := ⟨by kernel_rfl, by kernel_rfl, by kernel_rfl, by kernel_rfl, WH.a0 (inClass (top 8) 0), WH.aqs (inClass (top 8) 0), by kernel_rfl, by kernel_rfl⟩
theorem st_NoTable : WH.StOk ["table"] (inClass (top 9) 0) := ⟨by kernel_rfl, by kernel_rfl, by kernel_rfl, by kernel_rfl, WH.a0 (inClass (top 9) 0), WH.aqs (inClass (top 9) 0), by kernel_rfl, by kernel_rfl⟩
theorem st_NoColumn : WH.StOk ["column"] (inClass (top 10) 0) := ⟨by kernel_rfl, by kernel_rfl, by kernel_rfl, by kernel_rfl, WH.a0 (inClass (top 10) 0), WH.aqs (inClass (top 10) 0), by kernel_rfl, by kernel_rfl⟩
theorem st_NotBefore : WH.StOk ["table"] (inClass (top 11) 0) := ⟨by kernel_rfl, by kernel_rfl, by kernel_rfl, by kernel_rfl, WH.a0 (inClass (top 11) 0), WH.aqs (inClass (top 11) 0), by kernel_rfl, by kernel_rfl⟩
theorem st_KeyColumn : WH.StOk ["column"] (inClass (top 12) 0) := ⟨by kernel_rfl, by kernel_rfl, by kernel_rfl, by kernel_rfl, WH.a0 (inClass (top 12) 0), WH.aqs (inClass (top 12) 0), by kernel_rfl, by kernel_rfl⟩
theorem st_MissingColumn : WH.StOk ["column"] (inClass (top 13) 0) := ⟨by kernel_rfl, by kernel_rfl, by kernel_rfl, by kernel_rfl, WH.a0 (inClass (top 13) 0), WH.aqs (inClass (top 13) 0), by kernel_rfl, by kernel_rfl⟩
theorem st_ManyKeys : WH.StOk ["table"] (inClass (top 14) 0) := ⟨by kernel_rfl, by kernel_rfl, by kernel_rfl, by kernel_rfl, WH.a0 (inClass (top 14) 0), WH.aqs (inClass (top 14) 0), by kernel_rfl, by kernel_rfl⟩
theorem st_Unsettled : WH.StOk ["index"] (inClass (top 15) 0) := ⟨by kernel_rfl, by kernel_rfl, by kernel_rfl, by kernel_rfl, WH.a0 (inClass (top 15) 0), WH.aqs (inClass (top 15) 0), by kernel_rfl, by kernel_rfl⟩
theorem st_BadRow : WH.StOk ["row"] (inClass (top 16) 0) := ⟨by kernel_rfl, by kernel_rfl, by kernel_rfl, by kernel_rfl, WH.a0 (inClass (top 16) 0), WH.aqs (inClass (top 16) 0), by kernel_rfl, by kernel_rfl⟩
theorem st_Taken : WH.StOk ["row"] (inClass (top 17) 0) := ⟨by kernel_rfl, by kernel_rfl, by kernel_rfl, by kernel_rfl, WH.a0 (inClass (top 17) 0), WH.aqs (inClass (top 17) 0), by kernel_rfl, by kernel_rfl⟩
theorem st_NoRow : WH.StOk ["key"] (inClass (top 18) 0) := ⟨by kernel_rfl, by kernel_rfl, by kernel_rfl, by kernel_rfl, WH.a0 (inClass (top 18) 0), WH.aqs (inClass (top 18) 0), by kernel_rfl, by kernel_rfl⟩
theorem st_BadPick : WH.StOk ["index"] (inClass (top 19) 0) := ⟨by kernel_rfl, by kernel_rfl, by kernel_rfl, by kernel_rfl, WH.a0 (inClass (top 19) 0), WH.aqs (inClass (top 19) 0), by kernel_rfl, by kernel_rfl⟩
theorem st_NoIndex : WH.StOk ["index"] (inClass (top 20) 0) := ⟨by kernel_rfl, by kernel_rfl, by kernel_rfl, by kernel_rfl, WH.a0 (inClass (top 20) 0), WH.aqs (inClass (top 20) 0), by kernel_rfl, by kernel_rfl⟩
theorem st_Stopped : WH.StOk ["index", "key"] (inClass (top 21) 0) := ⟨by kernel_rfl, by kernel_rfl, by kernel_rfl, by kernel_rfl, WH.a0 (inClass (top 21) 0), WH.aqs (inClass (top 21) 0), by kernel_rfl, by kernel_rfl⟩
theorem st_ManyMatches : WH.StOk ["key"] (inClass (top 22) 0) := ⟨by kernel_rfl, by kernel_rfl, by kernel_rfl, by kernel_rfl, WH.a0 (inClass (top 22) 0), WH.aqs (inClass (top 22) 0), by kernel_rfl, by kernel_rfl⟩
theorem st_Parted : WH.StOk ["cell"] (inClass (top 23) 0) := ⟨by kernel_rfl, by kernel_rfl, by kernel_rfl, by kernel_rfl, WH.a0 (inClass (top 23) 0), WH.aqs (inClass (top 23) 0), by kernel_rfl, by kernel_rfl⟩
theorem st_TooMany : WH.StOk ["limit"] (inClass (top 24) 0) := ⟨by kernel_rfl, by kernel_rfl, by kernel_rfl, by kernel_rfl, WH.a0 (inClass (top 24) 0), WH.aqs (inClass (top 24) 0), by kernel_rfl, by kernel_rfl⟩
theorem st_BadText : WH.StOk ["index"] (inClass (top 25) 0) := ⟨by kernel_rfl, by kernel_rfl, by kernel_rfl, by kernel_rfl, WH.a0 (inClass (top 25) 0), WH.aqs (inClass (top 25) 0), by kernel_rfl, by kernel_rfl⟩
theorem st_BadCommand : WH.StOk ["command"] (inClass (top 26) 0) := ⟨by kernel_rfl, by kernel_rfl, by kernel_rfl, by kernel_rfl, WH.a0 (inClass (top 26) 0), WH.aqs (inClass (top 26) 0), by kernel_rfl, by kernel_rfl⟩
theorem st_OtherSchema : WH.StOk [] (inClass (top 27) 0) := ⟨by kernel_rfl, by kernel_rfl, by kernel_rfl, by kernel_rfl, WH.a0 (inClass (top 27) 0), WH.aqs (inClass (top 27) 0), by kernel_rfl, by kernel_rfl⟩
theorem txt_of {K : PySem.W.Frag} {h : Heap} {mg : Str → Option Value} (X : K.In h) (G : h.Ns mainGlobals mg) (c : WH.SaysN R.prog fa fn er K) : Txt R.prog K mg :=
  ⟨WH.free_ok X G (c.fact 0),
   WH.free_ok X G (c.fact 1),
   WH.free_ok X G (c.fact 2),
   WH.free_ok X G (c.fact 3),
   WH.free_ok X G (c.fact 4),
   WH.free_ok X G (c.fact 5),
   WH.free_ok X G (c.fact 6),
   WH.free_ok X G (c.fact 7),
   WH.free_ok X G (c.fact 8),
   WH.free_ok X G (c.fact 9),
   WH.free_ok X G (c.fact 10),
   WH.glo_ok X G (c.fact 11),
   (let h := c.err 0; WH.ErN.txt2 X G h st_BadName fl_name),
   (let h := c.err 1; WH.ErN.txt2 X G h st_BadOperand fl_operand),
   (let h := c.err 2; WH.ErN.txt2 X G h st_BadClash fl_clash),
   (let h := c.err 3; WH.ErN.txt2 X G h st_Twice fl_name),
   (let h := c.err 4; WH.ErN.txt2 X G h st_NoAlias fl_alias),
   (let h := c.err 5; WH.ErN.txt2 X G h st_BadKey fl_index),
   (let h := c.err 6; WH.ErN.txt2 X G h st_BadReference fl_index),
   (let h := c.err 7; WH.ErN.txt2 X G h st_NoTable fl_table),
   (let h := c.err 8; WH.ErN.txt2 X G h st_NoColumn fl_column),
   (let h := c.err 9; WH.ErN.txt2 X G h st_NotBefore fl_table),
   (let h := c.err 10; WH.ErN.txt2 X G h st_KeyColumn fl_column),
   (let h := c.err 11; WH.ErN.txt2 X G h st_MissingColumn fl_column),
   (let h := c.err 12; WH.ErN.txt2 X G h st_ManyKeys fl_table),
   (let h := c.err 13; WH.ErN.txt2 X G h st_Unsettled fl_index),
   (let h := c.err 14; WH.ErN.txt2 X G h st_BadRow fl_row),
   (let h := c.err 15; WH.ErN.txt2 X G h st_Taken fl_row),
   (let h := c.err 16; WH.ErN.txt2 X G h st_NoRow fl_key),
   (let h := c.err 17; WH.ErN.txt2 X G h st_BadPick fl_index),
   (let h := c.err 18; WH.ErN.txt2 X G h st_NoIndex fl_index),
   (let h := c.err 19; WH.ErN.txt2 X G h st_Stopped fl_index_key),
   (let h := c.err 20; WH.ErN.txt2 X G h st_ManyMatches fl_key),
   (let h := c.err 21; WH.ErN.txt2 X G h st_Parted fl_cell),
   (let h := c.err 22; WH.ErN.txt2 X G h st_TooMany fl_limit),
   (let h := c.err 23; WH.ErN.txt2 X G h st_BadText fl_index),
   (let h := c.err 24; WH.ErN.txt2 X G h st_BadCommand fl_command),
   (let h := c.err 25; WH.ErN.txt2 X G h st_OtherSchema fl_),
   WH.ise_ok (c.fact 12),
   WH.kit_ok (c.fact 13) (by decide +kernel),
   WH.kitW_ok (c.fact 13),
   WH.kitE_ok (c.fact 13),
   (by obtain ⟨fd, h⟩ := c.def_ 0; exact ⟨fd, He5.fun_of h, WH.glo_ok X G (c.fact 14)⟩),
   (by obtain ⟨fd, h⟩ := c.def_ 1; exact ⟨fd, He5.fun_of h, WH.glo_ok X G (c.fact 15)⟩),
   (by obtain ⟨fd, h⟩ := c.def_ 2; exact ⟨fd, He5.fun_of h, WH.glo_ok X G (c.fact 16)⟩),
   (by obtain ⟨fd, h⟩ := c.def_ 3; exact ⟨fd, He5.fun_of h, WH.glo_ok X G (c.fact 17)⟩),
   (by obtain ⟨fd, h⟩ := c.def_ 4; exact ⟨fd, He5.fun_of h, WH.glo_ok X G (c.fact 18)⟩),
   (by obtain ⟨fd, h⟩ := c.def_ 5; exact ⟨fd, He5.fun_of h, WH.glo_ok X G (c.fact 19)⟩),
   (by obtain ⟨fd, h⟩ := c.def_ 6; exact ⟨fd, He5.fun_of h, WH.glo_ok X G (c.fact 20)⟩),
   (by obtain ⟨fd, h⟩ := c.def_ 7; exact ⟨fd, He5.fun_of h, WH.glo_ok X G (c.fact 21)⟩),
   (by obtain ⟨fd, h⟩ := c.def_ 8; exact ⟨fd, He5.fun_of h, WH.glo_ok X G (c.fact 22)⟩),
   (by obtain ⟨fd, h⟩ := c.def_ 9; exact ⟨fd, He5.fun_of h, WH.glo_ok X G (c.fact 23)⟩),
   (by obtain ⟨fd, h⟩ := c.def_ 10; exact ⟨fd, He5.fun_of h, WH.glo_ok X G (c.fact 24)⟩)⟩
end KL
set_option Elab.async false
set_option linter.all false
set_option maxRecDepth 100000
set_option maxHeartbeats 4000000
namespace KL
open PySem PySem.Spec PyProof.Rows L2
open He (ga ma)
open Evl (Ex Ev EvA EvT EvL EvU)
open TL (tl)
theorem Errs.ex {K : PySem.W.Frag} {H H' : Hp} {v i : V} {l : List V} (h : Errs K H v i l) (e : Ex H H') : Errs K H' v i l := Paired.mapP h fun _ _ ⟨a, e1, ev⟩ => ⟨a, e1, ev.ex e⟩
theorem paired_at {α β : Type} {F : α → β → Prop} : ∀ {l1 : List α} {l2 : List β}, Paired F l1 l2 → ∀ {j : Nat} {y : β}, l2[j]? = some y → ∃ x, l1[j]? = some x ∧ F x y
  | _, _, .nil, _, _, h => by simp at h
  | _, _, .cons (a := a) c t, 0, y, h => by
    simp only [List.getElem?_cons_zero, Option.some.injEq] at h
    subst h
    exact ⟨a, rfl, c⟩
  | _, _, .cons c t, j + 1, y, h => by
    simp only [List.getElem?_cons_succ] at h ⊢
    exact paired_at t h
theorem paired_len {α β : Type} {F : α → β → Prop} : ∀ {l1 : List α} {l2 : List β}, Paired F l1 l2 → l1.length = l2.length
  | _, _, .nil => rfl
  | _, _, .cons _ t => by rw [List.length_cons, List.length_cons, paired_len t]
theorem errT_in : ∀ e ∈ errT, e.1 ∈ errN := by decide +kernel
/-- the answers of isinstance, in the order of the errors -/
theorem errT_is : ∀ j : Fin 26, (names1 ++ names2).map (fun y => ((errT.map (·.1)).getD j.val ("" : Str)) == y) = (List.range 26).map fun k => decide (k = j.val) := by decide +kernel
theorem dpAll_bools {K : PySem.W.Frag} {H : Hp} : ∀ bs : List Bool, DpAll K H (bs.map V.bl) (bs.map PyData.bool)
  | [] => .nil
  | b :: bs => .cons (.bl b) (dpAll_bools bs)
theorem gd_bools : ∀ bs : List Bool, gdAll (bs.map PyData.bool) = true
  | [] => rfl
  | b :: bs => by simp only [List.map_cons, gdAll, L2.gd, gd_bools bs, Bool.and_self]
theorem wt_bools : ∀ bs : List Bool, wtAll (bs.map PyData.bool) = 7 * bs.length
  | [] => rfl
  | b :: bs => by simp only [List.map_cons, wtAll, wt, wt_bools bs, List.length_cons]; omega
theorem dp_bools : ∀ bs : List Bool, PyData.depthAll (bs.map PyData.bool) = 0
  | [] => rfl
  | b :: bs => by simp only [List.map_cons, PyData.depthAll, PyData.depth, dp_bools bs]; rfl
theorem gd_list_bools (bs : List Bool) (h : bs.length ≤ 100) : Gd (.list (bs.map PyData.bool)) := by
  refine ⟨?_, ?_, ?_⟩
  · show gdAll _ = true
    exact gd_bools bs
  · show wtAll _ + 3 ≤ _
    rw [wt_bools]; omega
  · show PyData.depthAll _ + 1 ≤ _
    rw [dp_bools]; decide
def spLaw (K : PySem.W.Frag) : Sp := fun vs H Q _ => ∃ (a : Addr) (ns : List Int), vs = [.ref a] ∧ SqL K H a (ns.map V.int) ∧ ∀ H', Q (.bl true) H'
section
variable {P : Program} {w : World} {K : PySem.W.Frag} {mg : Str → Option Value} {base : Heap}
theorem sc_law : FnScope ["_law_script", "_law_at", "_law_bag_here", "_law_thing", "_law_index", "_law_found", "_law_k", "_law_e", "_law_place", "_law_field"] ["_law_script"] (defScope s_law) := ⟨rfl, rfl, rfl, by decide +kernel, rfl, by decide +kernel, by decide +kernel⟩
theorem ok_law (T : Txt P K mg) : FnKG P w K mg base CX0 6 "law" ["_law_script"] (spLaw K) := by
  have F_law_bag : FnK P w K mg base CX0 1 "_law_bag" ["_law_script", "_law_at"] (spBag K) := ok_bag T
  have F_law_take : FnK P w K mg base CX0 1 "_law_take" ["_law_bag_here", "_law_many"] spTake := ok_take T
  have F_law_name : FnK P w K mg base CX0 3 "_law_name" ["_law_bag_here", "_law_taken", "_law_pool"] (spName K) := ok_name T
  have F_law_odd : FnK P w K mg base CX0 3 "_law_odd" ["_law_bag_here", "_law_word"] (spOdd K) := ok_odd T
  have F_law_same : FnKG P w K mg base CX0 1 "_law_same" ["_law_one", "_law_other"] (spSame K) := ok_same T
  have F_law_first : FnK P w K mg base CX0 1 "_law_first" ["_law_e"] (spIs K names1) := ok_law_first T
  have F_law_second : FnK P w K mg base CX0 1 "_law_second" ["_law_e"] (spIs K names2) := ok_law_second T
  have F_law_errors : FnK P w K mg base CX0 1 "_law_errors" ["_law_thing", "_law_index"] (spErrs K) := ok_law_errors T
  have F_law_fields : FnK P w K mg base CX0 1 "_law_fields" ["_law_found"] (spFlds K) := ok_law_fields T
  refine T.F_law.okG sc_law (fun _ _ _ _ _ _ us hl => match us, hl with | [_], _ => rfl) (fun vs H Q E h => ?_) (fun cdv A outer s H vs Q E hA hr h => ?_)
  · obtain ⟨a, ns, rfl, _⟩ := h
    rfl
  obtain ⟨a, ns, rfl, sq, q⟩ := h
  refine ⟨_, (pss_cons (ps_for PassesOwn.never rfl (pi_range1 (by rfl) T.m_range (pa_cons (pe_callB (call_max2 rfl) (by rfl) T.m_max (by decide +kernel) (pa_cons pe_int (pa_cons (pe_callB (call_min2 rfl) (by rfl) T.m_min (by decide +kernel) (pa_cons pe_int (pa_cons (pe_callB call_len (by rfl) T.m_len (by decide +kernel) (pa_cons (pv 0) pa_nil)) pa_nil))) pa_nil))) pa_nil)) (pg_name (i := 1) sc_law.nd rfl (by first | exact Or.inl rfl | exact Or.inr rfl)) (pss_cons (ps_set (i := 2) sc_law.nd rfl (by first | exact Or.inl rfl | exact Or.inr rfl) (pe_callF F_law_bag (hr.mono (by decide)) pass0 (pa_cons (pv 0) (pa_cons (pv 1) pa_nil))))
  (pss_cons (ps_set (i := 3) sc_law.nd rfl (by first | exact Or.inl rfl | exact Or.inr rfl) (pe_callF F_law_odd (hr.mono (by decide)) pass0 (pa_cons (pv 2) (pa_cons (pe_callF F_law_name (hr.mono (by decide)) pass0 (pa_cons (pv 2) (pa_cons (pe_lst pa_nil) (pa_cons (pe_lst pa_nil) pa_nil)))) pa_nil))))
  (pss_cons (ps_set (i := 4) sc_law.nd rfl (by first | exact Or.inl rfl | exact Or.inr rfl) (pe_callF F_law_take (hr.mono (by decide)) pass0 (pa_cons (pv 2) (pa_cons (pe_op op_pow pe_int pe_int) pa_nil))))
  (pss_cons (ps_set (i := 5) sc_law.nd rfl (by first | exact Or.inl rfl | exact Or.inr rfl) (pe_callF F_law_errors (hr.mono (by decide)) pass0 (pa_cons (pv 3) (pa_cons (pv 4) pa_nil))))
  (pss_cons (ps_for PassesOwn.never rfl (pi_enum (by rfl) T.m_enumerate (pa_cons (pv 5) pa_nil)) (pg_tup rfl (pgs_cons (pg_name (i := 6) sc_law.nd rfl (by first | exact Or.inl rfl | exact Or.inr rfl)) (pgs_cons (pg_name (i := 7) sc_law.nd rfl (by first | exact Or.inl rfl | exact Or.inr rfl)) pgs_nil))) (pss_cons (ps_if (PW.pt (pw_or (pt_not (pt_val (pe_callB call_isiE (by rfl) T.m_isinstance (by decide +kernel) (pa_cons (pv 7) (pa_cons (pe_glob (v := .ref (ga _ "WhichError")) (by rfl) T.g_WhichError rfl) pa_nil))))) (pw_or1 (pt_not (pt_val (pe_callB call_isiE (by rfl) T.m_isinstance (by decide +kernel) (pa_cons (pv 7) (pa_cons (pe_bltn (v := .ty "ValueError") (by rfl) T.m_ValueError (by decide +kernel) rfl) pa_nil)))))))) (pss_one (ps_ret pe_bl)) pss_nil)
  (pss_one (ps_if (pt_cmpR (op_neD hr.units) (pe_op op_cat (pe_callF F_law_first (hr.mono (by decide)) pass0 (pa_cons (pv 7) pa_nil)) (pe_callF F_law_second (hr.mono (by decide)) pass0 (pa_cons (pv 7) pa_nil))) (pe_lc (own := [("_law_place", 8)]) (g := gName 8) (by rfl) sc_law.nd (pi_range1 (by rfl) T.m_range (pa_cons pe_int pa_nil)) (blkOk_by (own := [("_law_place", 8)]) (N := ["_law_script", "_law_at", "_law_bag_here", "_law_thing", "_law_index", "_law_found", "_law_k", "_law_e", "_law_place", "_law_field"]) (sc := defScope s_law) (by decide +kernel)) (fun _ _ _ _ _ => (pg_name (i := 8) sc_law.nd rfl (by first | exact Or.inl rfl | exact Or.inr rfl))) (fun _ _ _ _ _ => pts_nil) (fun _ _ _ _ _ => (pe_cmpR op_eq (pv 8) (pv 6) (nomark _)))) (nomark _)) (pss_one (ps_ret pe_bl)) pss_nil))))
  (pss_cons (ps_if (pt_not (pt_val (pe_callB (cr_all rfl) (by rfl) T.m_all (by decide +kernel) (pa_cons (pe_lc (own := [("_law_field", 9)]) (g := gName 9) (by rfl) sc_law.nd (pi_list (pe_callF F_law_fields (hr.mono (by decide)) pass0 (pa_cons (pv 5) pa_nil))) (blkOk_by (own := [("_law_field", 9)]) (N := ["_law_script", "_law_at", "_law_bag_here", "_law_thing", "_law_index", "_law_found", "_law_k", "_law_e", "_law_place", "_law_field"]) (sc := defScope s_law) (by decide +kernel)) (fun _ _ _ _ _ => (pg_name (i := 9) sc_law.nd rfl (by first | exact Or.inl rfl | exact Or.inr rfl))) (fun _ _ _ _ _ => pts_nil) (fun _ _ _ _ _ => (pe_callFG hA F_law_same (hr.mono (by decide)) pass0 (pa_cons (pv 9) (pa_cons (pv 3) pa_nil))))) pa_nil)))) (pss_one (ps_ret pe_bl)) pss_nil)
  (pss_one (ps_if (pt_not (pt_val (pe_callFG hA F_law_same (hr.mono (by decide)) pass0 (pa_cons (pe_xv (pe_ix ix_list (pv 5) pe_int (fun _ _ => rfl))) (pa_cons (pv 4) pa_nil))))) (pss_one (ps_ret pe_bl)) pss_nil)))))))))
  (pss_one (ps_ret pe_bl))), ?_⟩
  refine ⟨_, rfl, _, ns.length, rfl, .inl ⟨ns.map V.int, sq, by simp⟩, 4, _, rfl, 1, _, rfl, ?_⟩
  generalize hm : (if (if (ns.length : Int) < 4 then (ns.length : Int) else 4) > 1 then (if (ns.length : Int) < 4 then (ns.length : Int) else 4) else 1) = m
  have hm4 : m ≤ 4 ∧ 0 ≤ m := by subst hm; split <;> split <;> omega
  refine ⟨m, rfl, by omega, by omega, for_range (lo := 0) (n := m.toNat) (fun i σ H' => ∃ v1 v2 v3 v4 v5 v6 v7 v8 v9 : Option V, σ = [some (.ref a), v1, v2, v3, v4, v5, v6, v7, v8, v9] ∧ Ex H H') ⟨none, none, none, none, none, none, none, none, none, rfl, Ex.refl H⟩ ?_ ?_⟩
  · rintro i σ H1 hi ⟨v1, v2, v3, v4, v5, v6, v7, v8, v9, rfl, e1⟩
    refine ⟨_, rfl, _, rfl, a, ns, _, rfl, Evl.ex_l e1 sq, by omega, by omega, fun b xs H2 e2 hb hb2 hk => ?_⟩
    have S : Stt b H1 H2 := ⟨e2, hb, xs, hb2, hk⟩
    -- thing
    refine ⟨_, rfl, _, rfl, sz10 (by simp), fun p hp => ⟨sz10 (by simp), fun r hr' => ?_⟩⟩
    obtain ⟨G2, S2, sq1, sq2, nn, bk⟩ := name0 K S hp hr'
    refine ⟨b, p, r, G2, [], [], rfl, S2, sq1, sq2, nn, nn, by decide, by decide, fun z H3 nz _ S3 => ?_⟩
    replace S3 := bk _ S3
    refine ⟨b, H1, z, rfl, nz, S3, fun v d G' H4 eg S4 hd hm' => ?_⟩
    have sm := (sm_odd nz hm').1
    have gdd := sm.gd
    -- index
    refine ⟨_, rfl, 10, 20, rfl, rfl, ⟨by decide, by decide, by decide⟩, b, _, G', rfl, by decide, by decide, S4, fun ix H5 i0 i1 S5 => ?_⟩
    -- found
    refine ⟨_, rfl, _, rfl, v, .int ix, rfl, fun pf l H6 e6 hpf er => ?_⟩
    have eH6 : Ex H H6 := ((e1.trans eg).trans S5.sub).trans e6
    have hd6 : Dp K H6 v d := Dp.ex (S5.sub.trans e6) hd
    have hl26 : l.length = 26 := by rw [← paired_len er]; rfl
    refine ⟨_, rfl, pf, l, rfl, SqL.of hpf, for_it walk_enum (fun i' σ H' => ∃ w6 w7 w8 : Option V, σ = [some (.ref a), some (.int (0 + (i : Int))), some (.ref b), some v, some (.int ix), some (.ref pf), w6, w7, w8, v9] ∧ Ex H6 H')
      ⟨_, _, _, rfl, Ex.refl H6⟩ (fun i' σ H' _ ⟨_, _, _, _, e⟩ => SqL.of (e _ _ hpf)) ?_ ?_⟩
    · rintro j y σ H7 H8 hj ⟨w6, w7, w8, rfl, e7⟩ ⟨t, u1, u2, rfl, h1, rfl, h4, h5⟩
      obtain rfl := Option.some.inj h4
      obtain ⟨et, het, ae, rfl, ev⟩ := paired_at er h5
      obtain ⟨x, fls⟩ := et
      have hx : x ∈ errN := errT_in _ (List.mem_of_getElem? het)
      have e8 : Ex H6 (upd H7 t (.tup [V.int (j : Nat), .ref ae])) := e7.trans (Ex.new h1)
      have ht8 : (upd H7 t (.tup [V.int (j : Nat), .ref ae])) t = some (.tup [V.int (j : Nat), .ref ae]) := upd_same
      generalize upd H7 t (.tup [V.int (j : Nat), .ref ae]) = H8 at *
      refine ⟨t, _, rfl, SqT.of ht8, rfl, _, _, rfl, _, _, rfl, rfl, ?_⟩
      have ev8 := ev.ex e8
      refine ⟨_, rfl, ae, _, _, _, _, _, rfl, .own _, ev8, T.ise x hx, T.kitW x hx, _, rfl, ?_⟩
      refine ite2 (fun z => Bool.noConfusion z) (fun _ => ?_)
      refine ⟨_, rfl, ae, _, _, _, _, _, rfl, .ty _, ev8, T.ise x hx, T.kitE x hx, _, rfl, ?_⟩
      refine ite2 (fun z => Bool.noConfusion z) (fun _ => ?_)
      -- first(e) + second(e)
      refine ⟨_, rfl, ae, x, _, rfl, ev8, hx, fun p1 H9 e9 h9 => ⟨_, rfl, ae, x, _, rfl, ev8.ex e9, hx, fun p2 H10 e10 h10 => ?_⟩⟩
      refine ⟨p1, p2, _, _, rfl, rfl, e10 _ _ h9, h10, sz10 (by simp [isL, names1, names2]), fun p3 h3 => ?_⟩
      have e11 := (e8.trans e9).trans (e10.trans (Ex.new (o := .lst (isL x names1 ++ isL x names2)) h3))
      -- [place == k for place in range(26)]
      refine ⟨26, rfl, by decide, by decide, fun D hD => ?_⟩
      refine lc_name (j := 8) walk_range (fun k => .bl (decide (k = j))) hD (fun _ _ => trivial) (by decide) (fun y => rfl) ?_ ?_
      · rintro k y Ha Hb hk ea ⟨rfl, rfl⟩
        refine ⟨rfl, fun Qe kk => ⟨_, rfl, _, rfl, rfl, ?_⟩⟩
        have := kk _ (Ex.refl _)
        have e : decide (k = j) = decide (V.int (0 + (k : Int)) = V.int (j : Int)) := decide_eq_decide.mpr ⟨fun h => by subst h; simp, fun h => by have := V.int.inj h; omega⟩
        rw [e] at this
        exact this
      · intro Ha ea ha
        have hj26 : j < 26 := by omega
        have hxj : x = (errT.map (·.1)).getD j ("" : Str) := by
          rw [List.getD_eq_getElem?_getD, List.getElem?_map, het]; rfl
        have his := errT_is ⟨j, hj26⟩
        have d1 : Dp K Ha (.ref p3) (.list (((List.range 26).map fun k => decide (k = j)).map PyData.bool)) := by
          refine .lst (xs := isL x names1 ++ isL x names2) (SqL.of (ea _ _ upd_same)) ?_
          have : isL x names1 ++ isL x names2 = ((List.range 26).map fun k => decide (k = j)).map V.bl := by
            rw [← his, ← hxj]
            simp only [isL, List.map_append, List.map_map]
            rfl
          rw [this]
          exact dpAll_bools _
        have d2 : Dp K Ha (.ref D) (.list (((List.range 26).map fun k => decide (k = j)).map PyData.bool)) := by
          refine .lst (xs := (List.range 26).map fun k => V.bl (decide (k = j))) (SqL.of ha) ?_
          have := dpAll_bools (K := K) (H := Ha) ((List.range 26).map fun k => decide (k = j))
          rw [List.map_map] at this
          exact this
        have gg := gd_list_bools ((List.range 26).map fun k => decide (k = j)) (by simp)
        refine ⟨_, _, d1, d2, gg.shaped, gg.shaped, _, rfl, ?_⟩
        rw [gg.refl]
        refine ite2 (fun z => Bool.noConfusion z) (fun _ => ?_)
        exact ⟨_, _, _, rfl, e11.trans ea⟩
    · rintro σ H7 ⟨w6, w7, w8, rfl, e7⟩
      refine ⟨_, rfl, pf, l, v, .int ix, rfl, e7 _ _ hpf, er.ex e7, fun rr H8 e8 h8 => ?_⟩
      refine ⟨rr, rfl, ⟨_, SqL.of h8⟩, fun D hD => ?_⟩
      refine lc_name (j := 9) (walk_list (xs := List.replicate 25 v)) (fun _ => .bl true) hD (fun Hx ex => SqL.of (ex _ _ h8)) (by simp) (fun y => rfl) ?_ ?_
      · rintro k y Ha Hb hk ea ⟨rfl, hy⟩
        obtain rfl : y = v := by
          have := List.mem_of_getElem? hy
          exact (List.mem_replicate.mp this).2
        have hda : Dp K Hb y d := Dp.ex ((e7.trans e8).trans ea) hd6
        refine ⟨rfl, fun Qe kk => ⟨_, rfl, _, rfl, y, y, d, d, rfl, hda, hda, gdd, gdd, ?_⟩⟩
        rw [gdd.refl, decide_eq_true rfl]
        exact kk _ (Ex.refl _)
      · intro Ha ea ha
        refine ⟨D, List.replicate 25 true, rfl, SqL.of (by rw [ha, List.length_replicate]; rfl), _, rfl, ?_⟩
        refine ite2 (fun z => Bool.noConfusion z) (fun _ => ?_)
        have eHa := (e7.trans e8).trans ea
        have era := er.ex eHa
        obtain ⟨y25, hy25⟩ : ∃ y, l[25]? = some y := ⟨l[25]'(by omega), List.getElem?_eq_getElem (by omega)⟩
        obtain ⟨et, het, ae, rfl, ev⟩ := paired_at era hy25
        have het' : et = (("Stopped" : Str), [("index" : Str), ("key" : Str)]) := by
          have : errT[25]? = some (("Stopped" : Str), [("index" : Str), ("key" : Str)]) := rfl
          rw [this] at het
          exact (Option.some.inj het).symm
        subst het'
        have gi : Gd (.int ix) := ⟨by
          simp only [L2.gd]
          refine decide_eq_true ?_
          have : (10 : Int) ^ 20 < ((10 ^ 100 : Nat) : Int) := by decide
          have h20 : ix < 10 ^ 20 := i1
          omega, by simp [wt], by simp [PyData.depth]⟩
        refine ⟨_, rfl, pf, l, 25, _, rfl, rfl, SqL.of (eHa _ _ hpf), atI_nat hy25, ae, _, _, .int ix, rfl, ev, T.n_Stopped.xf, T.n_Stopped.noF "index" (by decide), rfl, _, rfl, .int ix, .int ix, .int ix, .int ix, rfl, .int ix, .int ix, gi, gi, _, rfl, ?_⟩
        rw [gi.refl, decide_eq_true rfl]
        refine ite2 (fun z => Bool.noConfusion z) (fun _ => ?_)
        exact ⟨_, _, _, _, _, _, _, _, _, rfl, eH6.trans eHa⟩
  · rintro σ H1 ⟨v1, v2, v3, v4, v5, v6, v7, v8, v9, rfl, e1⟩
    exact q H1
end
end KL
set_option Elab.async false
set_option linter.all false
set_option maxRecDepth 100000
set_option maxHeartbeats 4000000
open PySem PySem.W PySem.Calls PyProof.Rows
theorem PySem.Challenge.cw_whichmatch_k01_errors_and_their_fields_holds : PySem.Challenge.rw_whichmatch_k01_errors_and_their_fields.Holds := by
  w_on; o_law
  refine HandSHeadRun.head_any (r := OpenLaw.row PySem.Challenge.rw_whichmatch_k01_errors_and_their_fields) (q := view (OpenLaw.row PySem.Challenge.rw_whichmatch_k01_errors_and_their_fields).prog [39]) (H := KL.hk) (ob := KL.ob) (M := 100000) (loose := KL.loose) (d := HandSHeadRun.topDef (OpenLaw.row PySem.Challenge.rw_whichmatch_k01_errors_and_their_fields).prog 39) (kwd := []) KL.ob_eq
    (by kernel_rfl) (fun s => by kernel_rfl) KL.run (by kernel_rfl) (by kernel_rfl) (by kernel_rfl) (by rfl) (by first | assumption | decide +kernel) (by decide +kernel) ⟨rfl, rfl, rfl, rfl, rfl, by decide +kernel⟩ ?hw ?hc
  case hw => w_witness2
  case hc =>
    refine L2.walkK (l := PySem.Challenge.rw_whichmatch_k01_errors_and_their_fields) (n := 63) (k := 6) (x := "_law_script") (CX := L2.CX0) rfl (by decide) (by kernel_rfl) ⟨rfl, by decide, by decide⟩ (by kernel_rfl) ?F (fun _ _ _ _ z => z)
    intro w mg h Y G
    obtain ⟨K, KX, c⟩ := Y
    exact ⟨K, KL.spLaw K, KX, fun H a ns hl _ hS => ⟨a, ns, rfl, hS, fun _ => rfl⟩, fun base => KL.ok_law (KL.txt_of KX G c)⟩
